import PyProof.Rows.All
import Wide.All
import OpenK.AllK
import Wide.FinOn
import HandS.ForMost
import HandS.ForExc
import HandS.Lambda
import HandS.IsInst
import HandS.Zip
import HandS.TupAny
import HandS.TupMul
import HandS.Deep
import HandS.Conv
import HandS.Style
import HandS.Wide
import HandS.WideBits
import HandS.SortInts
import HandS.SortRule
import KE.KDictKeyed
import KE.GoesEnum
import KE.KDictDisplayH
import HandS.TupLen
import PySem.Challenge.RW_pagefalls_k18_whole_books_alike
set_option Elab.async false
set_option linter.all false
/-! MP1: a small language over tree data, evaluated in plain Lean. No heap, no positions. -/
namespace MP
open PySem (Str)
/-- tree data -/
inductive D where
  | non | bl (b : Bool) | int (i : Int) | str (s : Str)
  | tup (ds : List D) | lst (ds : List D) | dct (ks vs : List D)
  | fn (i : Nat)
  | fls (ns : List Int)
  deriving Inhabited
mutual
/-- == of data (True is 1) -/
def eqv : D → D → Bool
  | .non, .non => true
  | .bl a, .bl b => a == b
  | .bl a, .int j => (if a then 1 else 0) == j
  | .int i, .bl b => i == (if b then 1 else 0)
  | .int i, .int j => i == j
  | .str x, .str y => x == y
  | .tup xs, .tup ys => eqvs xs ys
  | .lst xs, .lst ys => eqvs xs ys
  | _, _ => false
def eqvs : List D → List D → Bool
  | [], [] => true
  | x :: xs, y :: ys => eqv x y && eqvs xs ys
  | _, _ => false
end
mutual
/-- plain data of depth at most n -/
def pl : D → Nat → Bool
  | .tup ds, n => match n with | 0 => false | n + 1 => pls ds n
  | .lst ds, n => match n with | 0 => false | n + 1 => pls ds n
  | .dct _ _, _ => false
  | .fn _, _ => false
  | .fls _, _ => false
  | _, _ => true
def pls : List D → Nat → Bool
  | [], _ => true
  | d :: ds, n => pl d n && pls ds n
end
mutual
/-- a key: intsD, texts, tuples of such, at most n deep -/
def ky : D → Nat → Bool
  | .int _, _ => true
  | .str _, _ => true
  | .tup ds, n => match n with | 0 => false | n + 1 => kys ds n
  | _, _ => false
def kys : List D → Nat → Bool
  | [], _ => true
  | d :: ds, n => ky d n && kys ds n
end
/-- a key of a dict: a tuple -/
def kk (d : D) : Bool := match d with
  | .tup ds => ky (.tup ds) 8
  | _ => false
def kks (ds : List D) : Bool := ds.all kk
/-- the greatest length -/
def LINE : Nat := 16777216
inductive Fl where
  | o | p | f | q
  deriving DecidableEq, Inhabited
/-- owned: may be changed in place -/
def Fl.own : Fl → Bool
  | .o => true
  | .p => true
  | _ => false
def Fl.frz : Fl → Fl
  | .o => .f
  | .p => .q
  | x => x
abbrev SV := Fl × D
abbrev En := List (Option SV)
def En.at (e : En) (i : Nat) : Option SV := (e[i]?).join
inductive Out (α : Type) where
  | ok (a : α)
  | exn (x : Str) (lim : Option Int) (env : En)
  | fail
def Out.bind {α β : Type} (x : Out α) (f : α → Out β) : Out β := match x with
  | .ok a => f a
  | .exn x l e => .exn x l e
  | .fail => .fail
/-- where nothing may be raised -/
def Out.nox {α : Type} (x : Out α) : Out α := match x with
  | .ok a => .ok a
  | _ => .fail
instance : Monad Out where
  pure := .ok
  bind := Out.bind
def Out.of {α : Type} : Option α → Out α
  | some a => .ok a
  | none => .fail
/-- what an expression gives: a value (owned: fresh, nobody else's), or a variable's object -/
inductive AV where
  | val (own : Bool) (d : D)
  | slot (i : Nat)
def AV.rd (env : En) : AV → Option D
  | .val _ d => some d
  | .slot i => (env.at i).map (·.2)
def En.frz (env : En) (i : Nat) : En := match env.at i with
  | some (fl, d) => env.set i (some (fl.frz, d))
  | none => env
/-- the value goes into another thing: it is frozen -/
def AV.use (env : En) : AV → Option (D × En)
  | .val _ d => some (d, env)
  | .slot i => (env.at i).map fun s => (s.2, env.frz i)
def rds (env : En) : List AV → Option (List D)
  | [] => some []
  | a :: r => match a.rd env, rds env r with
    | some d, some ds => some (d :: ds)
    | _, _ => none
def uses : En → List AV → Option (List D × En)
  | env, [] => some ([], env)
  | env, a :: r => match a.use env with
    | some (d, e1) => match uses e1 r with
      | some (ds, e2) => some (d :: ds, e2)
      | none => none
    | none => none
inductive Op2 where
  | add | sub | mul | fdiv | mod | pow | eq | ne | lt | le | gt | ge | isn | notn | isb | notb | inn | nin | idx
  deriving DecidableEq
inductive Bi where
  | neg | len | int | abs | str | min2 | max2 | sum | max1 | min1 | all | list | lvals | litems | tuple | dict | sorted | lenset | sorset
  | isInt | isBool | isStr | isTup | isList
  | join | split | upper | count | index | rev
  deriving DecidableEq
/-! ### operators by values -/
def atI (ds : List D) (i : Int) : Option D :=
  if 0 ≤ i then (if i < ds.length then ds[i.toNat]? else none) else if -(ds.length : Int) ≤ i then ds[(i + ds.length).toNat]? else none
def atC (cs : List Nat) (i : Int) : Option Nat :=
  if 0 ≤ i then (if i < cs.length then cs[i.toNat]? else none) else if -(cs.length : Int) ≤ i then cs[(i + cs.length).toNat]? else none
def sIx (n d : Nat) : Option Int → Nat
  | none => d
  | some v => if v < 0 then (max (v + (n : Int)) 0).toNat else min v.toNat n
def cut {α : Type} (xs : List α) (lo hi : Option Int) : List α := (xs.drop (sIx xs.length 0 lo)).take (sIx xs.length xs.length hi - sIx xs.length 0 lo)
/-- what a dict holds at a key -/
def dget : List D → List D → D → Option D
  | a :: ks, b :: vs, k => if eqv a k then some b else dget ks vs k
  | _, _, _ => none
/-- the values behind d[k] = v -/
def dputV : List D → List D → D → D → List D
  | a :: ks, b :: vs, k, v => if eqv a k then v :: vs else b :: dputV ks vs k v
  | _, _, _, v => [v]
/-- the keys behind it -/
def dputK : List D → D → List D
  | a :: ks, k => if eqv a k then a :: ks else a :: dputK ks k
  | [], k => [k]
def small (i : Int) : Bool := decide (-(2 ^ 64) < i) && decide (i < 2 ^ 64)
def rep {α : Type} (k : Int) (xs : List α) : List α := (List.replicate k.toNat xs).flatten
def num2 (f : Int → Int → Option D) : D → D → Option (Bool × D)
  | .int i, .int j => (f i j).map fun d => (false, d)
  | _, _ => none
def subStr (x y : Str) : Bool := !(PySem.Builtin.Str.occurrences y x 0 y.length 1).isEmpty
def op2 : Op2 → D → D → Option (Bool × D)
  | .add, .int i, .int j => some (false, .int (i + j))
  | .add, .str x, .str y => if x.length + y.length ≤ LINE then some (false, .str (x ++ y)) else none
  | .add, .tup xs, .tup ys => if xs.length + ys.length ≤ LINE then some (false, .tup (xs ++ ys)) else none
  | .add, .lst xs, .lst ys => if xs.length + ys.length ≤ LINE then some (true, .lst (xs ++ ys)) else none
  | .sub, .int i, .int j => some (false, .int (i - j))
  | .mul, .int i, .int j => if small i || small j || decide (i.natAbs < 2 ^ 4096 ∧ j.natAbs < 2 ^ 4096) then some (false, .int (i * j)) else none
  | .mul, .str x, .int k => if 0 ≤ k ∧ k ≤ 1000 ∧ x.length ≤ 1000 then some (false, .str ⟨(rep k x.cps.toList).toArray⟩) else none
  | .mul, .lst xs, .int k => if -(2 ^ 63) ≤ k ∧ k < 2 ^ 63 ∧ xs.length * k.toNat ≤ LINE then some (true, .lst (rep k xs)) else none
  | .mul, .tup xs, .int k => if xs ≠ [] ∧ 2 ≤ k ∧ k ≤ 1000 ∧ xs.length ≤ 1000 then some (false, .tup (rep k xs)) else none
  | .fdiv, a, b => num2 (fun i j => if j ≠ 0 ∧ j.natAbs < 1073741824 then some (.int (i.fdiv j)) else none) a b
  | .mod, a, b => num2 (fun i j => if j ≠ 0 then some (.int (i.fmod j)) else none) a b
  | .pow, a, b => num2 (fun i j => if 0 ≤ j ∧ j ≤ 1000 ∧ i.natAbs < 2 ^ 64 then some (.int (i ^ j.toNat)) else none) a b
  | .eq, a, b => if pl a 64 && pl b 64 then some (false, .bl (eqv a b)) else none
  | .ne, a, b => if pl a 64 && pl b 64 then some (false, .bl (!eqv a b)) else none
  | .lt, .int i, .int j => some (false, .bl (decide (i < j)))
  | .lt, .str x, .str y => some (false, .bl (decide (x.cps.toList < y.cps.toList)))
  | .le, a, b => num2 (fun i j => some (.bl (decide (i ≤ j)))) a b
  | .gt, a, b => num2 (fun i j => some (.bl (decide (j < i)))) a b
  | .ge, a, b => num2 (fun i j => some (.bl (decide (j ≤ i)))) a b
  | .isn, d, .non => some (false, .bl (match d with | .non => true | _ => false))
  | .notn, d, .non => some (false, .bl (match d with | .non => false | _ => true))
  | .isb, .bl a, .bl b => some (false, .bl (a == b))
  | .notb, .bl a, .bl b => some (false, .bl (a != b))
  | .inn, .str x, .str y => some (false, .bl (subStr x y))
  | .inn, k, .dct ks vs => if kk k then some (false, .bl (dget ks vs k).isSome) else none
  | .inn, d, .lst ds => if pl d 60 && pls ds 60 then some (false, .bl (ds.any fun z => eqv z d)) else none
  | .inn, d, .tup ds => if pl d 60 && pls ds 60 then some (false, .bl (ds.any fun z => eqv z d)) else none
  | .nin, .str x, .str y => some (false, .bl (!subStr x y))
  | .nin, k, .dct ks vs => if kk k then some (false, .bl (!(dget ks vs k).isSome)) else none
  | .nin, d, .lst ds => if pl d 60 && pls ds 60 then some (false, .bl (!ds.any fun z => eqv z d)) else none
  | .nin, d, .tup ds => if pl d 60 && pls ds 60 then some (false, .bl (!ds.any fun z => eqv z d)) else none
  | .idx, .lst ds, .int i => (atI ds i).map fun d => (false, d)
  | .idx, .fls ns, .int i => (atI (ns.map D.int) i).map fun d => (false, d)
  | .idx, .tup ds, .int i => (atI ds i).map fun d => (false, d)
  | .idx, .str x, .int i => if x.length ≤ LINE then (atC x.cps.toList i).map fun c => (false, .str ⟨#[c]⟩) else none
  | .idx, .dct ks vs, k => if kk k then (dget ks vs k).map fun d => (false, d) else none
  | _, _, _ => none
def intsD : List D → Option (List Int)
  | [] => some []
  | .int i :: r => (intsD r).map (i :: ·)
  | _ => none
def boolsD : List D → Option (List Bool)
  | [] => some []
  | .bl b :: r => (boolsD r).map (b :: ·)
  | _ => none
def strsD : List D → Option (List Str)
  | [] => some []
  | .str x :: r => (strsD r).map (x :: ·)
  | _ => none
def pairsD : List D → Option (List (Int × Int))
  | [] => some []
  | .tup [.int i, .int j] :: r => (pairsD r).map ((i, j) :: ·)
  | _ => none
def maxL (n : Int) (ns : List Int) : Int := ns.foldl max n
def minL (n : Int) (ns : List Int) : Int := ns.foldl min n
/-- the different ones, the first of each kept -/
def dedup : List D → List D
  | [] => []
  | d :: r => d :: (dedup r).filter fun e => !eqv d e
def joinS (sep : Str) : List Str → Str
  | [] => Str.empty
  | [x] => x
  | x :: r => x ++ sep ++ joinS sep r
def bi : Bi → List D → Option (Bool × D)
  | .neg, [.int i] => some (false, .int (-i))
  | .len, [.lst ds] => some (false, .int ds.length)
  | .len, [.tup ds] => some (false, .int ds.length)
  | .len, [.str x] => if x.length ≤ LINE then some (false, .int x.length) else none
  | .len, [.fls ns] => some (false, .int ns.length)
  | .len, [.dct ks _] => some (false, .int ks.length)
  | .int, [.int i] => some (false, .int i)
  | .int, [.bl b] => some (false, .int (if b then 1 else 0))
  | .abs, [.int i] => some (false, .int (if i < 0 then -i else i))
  | .str, [.int i] => if i.natAbs.log2 < 1920 then some (false, .str (Str.ofString (toString i))) else none
  | .min2, [.int i, .int j] => some (false, .int (if j < i then j else i))
  | .max2, [.int i, .int j] => some (false, .int (if j > i then j else i))
  | .sum, [.lst ds] => (intsD ds).map fun ns => (false, .int ns.sum)
  | .max1, [.lst ds] => match intsD ds with
    | some (n :: ns) => some (false, .int (maxL n ns))
    | _ => none
  | .min1, [.lst ds] => match intsD ds with
    | some (n :: ns) => some (false, .int (minL n ns))
    | _ => none
  | .all, [.lst ds] => (boolsD ds).map fun bs => (false, .bl (bs.all id))
  | .list, [.lst ds] => some (true, .lst ds)
  | .list, [.tup ds] => some (true, .lst ds)
  | .list, [.dct ks _] => some (true, .lst ks)
  | .lvals, [.dct _ vs] => some (true, .lst vs)
  | .litems, [.dct ks vs] => some (true, .lst ((ks.zip vs).map fun p => .tup [p.1, p.2]))
  | .tuple, [.lst ds] => some (false, .tup ds)
  | .tuple, [.tup ds] => some (false, .tup ds)
  | .dict, [.dct ks vs] => some (true, .dct ks vs)
  | .sorted, [.lst ds] => match intsD ds with
    | some ns => some (true, .lst ((ns.mergeSort (fun a b => decide (a ≤ b))).map .int))
    | none => match strsD ds with
      | some xs => if xs.length < 64 then some (true, .lst ((xs.mergeSort (fun a b => !decide (b.cps.toList < a.cps.toList))).map .str)) else none
      | none => (pairsD ds).map fun ps => (true, .lst ((ps.mergeSort (fun a b => decide (a.1 < b.1 ∨ (a.1 = b.1 ∧ a.2 ≤ b.2)))).map fun z => .tup [.int z.1, .int z.2]))
  | .lenset, [.lst ds] => if kks ds && decide (ds.length ≤ LINE) then some (false, .int (dedup ds).length) else none
  | .sorset, [.lst ds] => match intsD ds with
    | some ns => if ns.length ≤ 4000 then some (true, .lst ((ns.eraseDups.mergeSort (fun a b => decide (a ≤ b))).map .int)) else none
    | none => match strsD ds with
      | some xs => if xs.length < 64 then some (true, .lst ((xs.eraseDups.mergeSort (fun a b => !decide (b.cps.toList < a.cps.toList))).map .str)) else none
      | none => none
  | .isInt, [d] => match d with | .int _ => some (false, .bl true) | .bl _ => some (false, .bl true) | .fn _ => none | .dct _ _ => none | .fls _ => none | _ => some (false, .bl false)
  | .isBool, [d] => match d with | .bl _ => some (false, .bl true) | .fn _ => none | .dct _ _ => none | .fls _ => none | _ => some (false, .bl false)
  | .isStr, [d] => match d with | .str _ => some (false, .bl true) | .fn _ => none | .dct _ _ => none | .fls _ => none | _ => some (false, .bl false)
  | .isTup, [d] => match d with | .tup _ => some (false, .bl true) | .fn _ => none | .dct _ _ => none | .fls _ => none | _ => some (false, .bl false)
  | .isList, [d] => match d with | .lst _ => some (false, .bl true) | .fn _ => none | .dct _ _ => none | .fls _ => none | _ => some (false, .bl false)
  | .join, [.str sep, .lst ds] => (strsD ds).bind fun xs => if (joinS sep xs).length ≤ LINE then some (false, .str (joinS sep xs)) else none
  | .rev, [.lst ds] => some (true, .lst ds.reverse)
  | .index, [.lst ds, .str x] => match strsD ds with
    | some xs => (xs.findIdx? (fun y => y == x)).map fun (j : Nat) => (false, D.int (j : Int))
    | none => none
  | _, _ => none
/-! ### syntax -/
/-- a target: a name, a tuple of targets -/
inductive Tg where
  | nm (i : Nat)
  | tp (ts : List Tg)
mutual
inductive Ex where
  | var (i : Nat)
  | cst (d : D)
  | tup (es : Exs)
  | lst (es : Exs)
  | dct (ks vs : Exs)
  | op (o : Op2) (a b : Ex)
  | chain (o1 o2 : Op2) (a b c : Ex)
  | bi (b : Bi) (es : Exs)
  | mth (b : Bi) (e : Ex) (es : Exs)
  | slc (a : Ex) (lo hi : Exs)
  | and (a b : Ex)
  | or (a b : Ex)
  | not (a : Ex)
  | ite (c a b : Ex)
  | call (f : Nat) (es : Exs)
  | calll (f : Nat) (es : Exs) (ps : List Nat) (body : Ex)
  | callp (es : Exs)
  | callv (i : Nat) (es : Exs)
  | told (body : Ex)
  | get2 (d k v : Ex)
  | pop (i : Nat)
  | pop0 (i : Nat)
  | comp (elt : Ex) (tg : Tg) (it : Wk) (own : List Nat) (cond : Exs)
inductive Exs where
  | nil
  | cons (e : Ex) (es : Exs)
/-- what is walked -/
inductive Wk where
  | seq (e : Ex)
  | rng1 (a : Ex)
  | rng2 (a b : Ex)
  | enu (e : Ex)
  | zip (a b : Ex)
  | items (e : Ex)
end
mutual
inductive Sm where
  | asg (i : Nat) (e : Ex)
  | par (is : List Nat) (es : Exs)
  | unp (tg : Tg) (e : Ex)
  | sub (i : Nat) (k e : Ex)
  | drop (e : Ex)
  | app (i : Nat) (e : Ex)
  | ext (i : Nat) (e : Ex)
  | sdap (i : Nat) (k e : Ex)
  | ins0 (i : Nat) (k e : Ex)
  | ifs (c : Ex) (a b : Sms)
  | whl (c : Ex) (b : Sms)
  | for (tg : Tg) (it : Wk) (b : Sms)
  | ret (np : Nat) (e : Ex)
  | retN
  | raise (x : Str)
  | pass | brk | cnt
inductive Sms where
  | nil
  | cons (s : Sm) (r : Sms)
end
/-! ### evaluation -/
/-- what a call gives: the value with its flag, the parameters at the end -/
abbrev CF := Nat → List SV → Out (SV × List SV)
/-- the lambda that was handed in -/
abbrev LF := List D → Out D
def passA (env : En) : List AV → Option (List SV)
  | [] => some []
  | a :: r => match passA env r with
    | none => none
    | some vs => match a with
      | .val own d => some ((if own then .o else .f, d) :: vs)
      | .slot i => match env.at i with
        | some (fl, d) => some ((if fl.own then .p else .f, d) :: vs)
        | none => none
/-- the slots that are lent -/
def lent (env : En) : List AV → List Nat
  | [] => []
  | .val _ _ :: r => lent env r
  | .slot i :: r => match env.at i with
    | some (fl, _) => if fl.own then i :: lent env r else lent env r
    | none => lent env r
/-- the lent ones come back -/
def backA (env : En) : List AV → List SV → En
  | .slot i :: r, (fl', d') :: vs => match env.at i with
    | some (fl, _) => if fl.own then backA (env.set i (some (if fl' = .p then fl else fl.frz, d'))) r vs else backA env r vs
    | none => backA env r vs
  | _ :: r, _ :: vs => backA env r vs
  | _, _ => env
def canSet (env : En) (i : Nat) : Bool := match env.at i with
  | some (.p, _) => false
  | some (.q, _) => false
  | _ => decide (i < env.length)
def setV (env : En) (i : Nat) (s : SV) : Out En := if canSet env i then .ok (env.set i (some s)) else .fail
/-- the value is kept by the name i -/
def bindV (env : En) (i : Nat) : AV → Out En
  | .val own d => setV env i (if own then .o else .f, d)
  | .slot j => match env.at j with
    | some (_, d) => setV (env.frz j) i (.f, d)
    | none => .fail
/-- the values are taken out first -/
def takes : En → List AV → Option (List (Bool × D) × En)
  | env, [] => some ([], env)
  | env, .val own d :: r => (takes env r).map fun z => ((own, d) :: z.1, z.2)
  | env, .slot i :: r => match env.at i with
    | some (_, d) => (takes (env.frz i) r).map fun z => ((false, d) :: z.1, z.2)
    | none => none
def bindOs (env : En) : List Nat → List (Bool × D) → Out En
  | [], [] => .ok env
  | i :: is, (own, d) :: ds => (setV env i (if own then .o else .f, d)).bind fun e => bindOs e is ds
  | _, _ => .fail
mutual
def Tg.set : Tg → En → D → Out En
  | .nm i, env, d => setV env i (.f, d)
  | .tp ts, env, d => match d with
    | .tup ds => Tg.sets ts env ds
    | _ => .fail
def Tg.sets : List Tg → En → List D → Out En
  | [], env, ds => match ds with
    | [] => .ok env
    | _ => .fail
  | t :: ts, env, ds => match ds with
    | d :: r => (Tg.set t env d).bind fun e => Tg.sets ts e r
    | [] => .fail
end
def rng (a b : Int) : List D := (List.range (b - a).toNat).map fun (i : Nat) => .int (a + (i : Int))
def inRng (a : Int) : Bool := decide (-(2 ^ 62) ≤ a) && decide (a < 2 ^ 62)
def seqOf : D → Option (List D)
  | .lst ds => some ds
  | .tup ds => some ds
  | .dct ks _ => some ks
  | .str x => some (x.cps.toList.map fun c => .str ⟨#[c]⟩)
  | .fls ns => some (ns.map D.int)
  | _ => none
def seqLT : D → Option (List D)
  | .lst ds => some ds
  | .tup ds => some ds
  | _ => none
def enu (k : Int) : List D → List D
  | [] => []
  | d :: r => .tup [.int k, d] :: enu (k + 1) r
def Out.bool (av : AV) (env : En) : Out (Bool × En) := match av.rd env with
  | some (.bl b) => .ok (b, env)
  | _ => .fail
/-- the slots of a comprehension's own names as they were -/
def unown (env0 env : En) : List Nat → En
  | [] => env
  | i :: is => (unown env0 env is).set i ((env0[i]?).join)
def wipe (env : En) : List Nat → En
  | [] => env
  | i :: is => (wipe env is).set i none
def compF (f : D → En → Out (Option D × En)) : List D → List D → En → Out (List D × En)
  | [], acc, env => .ok (acc.reverse, env)
  | d :: ds, acc, env => (f d env).bind fun r => match r.1 with
    | some y => if acc.length < LINE then compF f ds (y :: acc) r.2 else .fail
    | none => compF f ds acc r.2
/-- an owned list or dict at a name -/
def ownAt (env : En) (i : Nat) : Option SV := match env.at i with
  | some (fl, d) => if fl.own then some (fl, d) else none
  | none => none
/-- all as frozen -/
def En.view (env : En) : En := env.map fun o => o.map fun s => (.f, s.2)
def leaf : D → Bool
  | .non => true
  | .bl _ => true
  | .int _ => true
  | .str _ => true
  | _ => false
def lamE (ps : List Nat) (ds : List D) (env : En) : En := match ps, ds with
  | i :: is, d :: r => lamE is r (env.set i (some (.f, d)))
  | _, _ => env
/-! what is done with the parts' values -/
def kTup (as : List AV) (e : En) : Out (AV × En) := match uses e as with
  | some (ds, e') => .ok (.val false (.tup ds), e')
  | none => .fail
def kLst (as : List AV) (e : En) : Out (AV × En) := match uses e as with
  | some (ds, e') => .ok (.val true (.lst ds), e')
  | none => .fail
def kDct (ks vs : List AV) (e : En) : Out (AV × En) := match rds e ks, uses e vs with
  | some kd, some (vd, e') => if kks kd && decide (kd.length ≤ 1) && decide (kd.length = vd.length) then .ok (.val true (.dct kd vd), e') else .fail
  | _, _ => .fail
def kOp (o : Op2) (a b : AV) (e : En) : Out (AV × En) := match a.rd e, b.rd e with
  | some x, some y => match op2 o x y with
    | some (own, d) => .ok (.val own d, e)
    | none => .fail
  | _, _ => .fail
/-- the first half of a chain: its answer -/
def kCmp (o : Op2) (a b : AV) (e : En) : Out Bool := match a.rd e, b.rd e with
  | some x, some y => match op2 o x y with
    | some (_, .bl t) => .ok t
    | _ => .fail
  | _, _ => .fail
def kBi (b : Bi) (as : List AV) (e : En) : Out (AV × En) := match rds e as with
  | some ds => match bi b ds with
    | some (own, d) => .ok (.val own d, e)
    | none => .fail
  | none => .fail
/-- what a method is called on -/
def rcv : Bi → Option D → Bool
  | .join, some (.str _) => true
  | .split, some (.str _) => true
  | .upper, some (.str _) => true
  | .count, some (.lst _) => true
  | .index, some (.lst _) => true
  | _, _ => false
def isDct : Option D → Bool
  | some (.dct _ _) => true
  | _ => false
def cutD (d : D) (lo hi : Option Int) : Option (Bool × D) := match d with
  | .lst ds => some (true, .lst (cut ds lo hi))
  | .tup ds => some (false, .tup (cut ds lo hi))
  | .str x => if x.length ≤ LINE then some (false, .str ⟨(cut x.cps.toList lo hi).toArray⟩) else none
  | _ => none
def kSlc (a : AV) (lo hi : Option Int) (e : En) : Out (AV × En) := match a.rd e with
  | some d => match cutD d lo hi with
    | some (own, r) => .ok (.val own r, e)
    | none => .fail
  | none => .fail
/-- a slice's end -/
def kPart (a : AV) (e : En) : Out (Option Int × En) := match a.rd e with
  | some (.int i) => .ok (some i, e)
  | _ => .fail
def kNot (t : Bool) (e : En) : Out (AV × En) := .ok (.val false (.bl t), e)
def kCall (g : List SV → Out (SV × List SV)) (as : List AV) (e : En) : Out (AV × En) := match passA e as with
  | some vs => if (lent e as).Nodup then match g vs with
    | .ok (s, outs) => .ok (.val s.1.own s.2, backA e as outs)
    | .exn x l _ => if (lent e as).isEmpty then .exn x l e else .fail
    | .fail => .fail else .fail
  | none => .fail
/-- a def that gets a lambda -/
def kCallL (g : List SV → Out (SV × List SV)) (as : List AV) (e : En) : Out (AV × En) := match passA e as with
  | some vs => if (lent e as).isEmpty then match g vs with
    | .ok (s, _) => .ok (.val s.1.own s.2, e)
    | .exn x l _ => .exn x l e
    | .fail => .fail else .fail
  | none => .fail
/-- what a lambda hands back -/
def kLam (a : AV) (e : En) : Out D := match a.rd e with
  | some d => if leaf d then .ok d else .fail
  | none => .fail
def kTold (as : AV) (e : En) : Out (AV × En) := match as.use e with
  | some (d, e') => .ok (.val false (.tup [.str (Str.ofString "told"), d]), e')
  | none => .fail
def toldX (x : Str) (l : Option Int) : D := match l with
  | none => .tup [.str (x ++ Str.ofString " +")]
  | some n => .tup [.str (x ++ Str.ofString " +"), .int n]
def kGet2 (d k v : AV) (e : En) : Out (AV × En) := match d.rd e, k.rd e, v.use e with
  | some (.dct ks vs), some kd, some (vd, e') => if kk kd then .ok (.val false ((dget ks vs kd).getD vd), e') else .fail
  | _, _, _ => .fail
def kUse (a : AV) (e : En) : Out (D × En) := match a.use e with
  | some r => .ok r
  | none => .fail
def kInt (a : AV) (e : En) : Out (Int × En) := match a.rd e with
  | some (.int n) => if inRng n then .ok (n, e) else .fail
  | _ => .fail
def kSeq (d : D) (e : En) : Out (List D × En) := match seqOf d with
  | some ds => .ok (ds, e)
  | none => .fail
def kEnu (d : D) (e : En) : Out (List D × En) := match seqLT d with
  | some ds => .ok (enu 0 ds, e)
  | none => .fail
def kZip (d d' : D) (e : En) : Out (List D × En) := match seqLT d, seqLT d' with
  | some xs, some ys => .ok ((xs.zip ys).map fun p => .tup [p.1, p.2], e)
  | _, _ => .fail
def kItems (d : D) (e : En) : Out (List D × En) := match d with
  | .dct ks vs => .ok ((ks.zip vs).map fun p => .tup [p.1, p.2], e)
  | _ => .fail
/-- one turn of a comprehension -/
def kTurn (tg : Tg) (own : List Nat) (c : En → Out (Bool × En)) (y : En → Out (AV × En)) (d : D) (e : En) : Out (Option D × En) :=
  ((tg.set e d).bind fun e1 => (c e1).bind fun t => if t.1 then (y t.2).bind fun r => (kUse r.1 r.2).bind fun z => .ok (some z.1, wipe z.2 own) else .ok (none, wipe t.2 own)).nox
section
variable (cf : CF) (cl : Nat → LF → List SV → Out (SV × List SV))
mutual
def evA (lf : Option LF) : Ex → En → Out (AV × En)
  | .var i, env => match env.at i with
    | some (fl, d) => if fl.own then .ok (.slot i, env) else .ok (.val false d, env)
    | none => .fail
  | .cst d, env => .ok (.val false d, env)
  | .tup es, env => (evAs lf es env).bind fun r => kTup r.1 r.2
  | .lst es, env => (evAs lf es env).bind fun r => kLst r.1 r.2
  | .dct ks vs, env => (evAs lf ks env).bind fun r => (evAs lf vs r.2).bind fun r' => kDct r.1 r'.1 r'.2
  | .op o a b, env => (evA lf a env).bind fun r => (evA lf b r.2).bind fun r' => kOp o r.1 r'.1 r'.2
  | .chain o1 o2 a b c, env => (evA lf a env).bind fun r => (evA lf b r.2).bind fun r' => (kCmp o1 r.1 r'.1 r'.2).bind fun t => if t then (evA lf c r'.2).bind fun r'' => kOp o2 r'.1 r''.1 r''.2 else .ok (.val false (.bl false), r'.2)
  | .bi b es, env => (evAs lf es env).bind fun r => kBi b r.1 r.2
  | .mth b e es, env => (evA lf e env).bind fun r => if rcv b (r.1.rd r.2) then (evAs lf es r.2).bind fun r' => kBi b (r.1 :: r'.1) r'.2 else .fail
  | .slc a lo hi, env => (evA lf a env).bind fun r => (evP lf lo r.2).bind fun l => (evP lf hi l.2).bind fun h => kSlc r.1 l.1 h.1 h.2
  | .and a b, env => (evA lf a env).bind fun r => (Out.bool r.1 r.2).bind fun t => if t.1 then (evA lf b t.2).bind fun r' => (Out.bool r'.1 r'.2).bind fun t' => kNot t'.1 t'.2 else kNot false t.2
  | .or a b, env => (evA lf a env).bind fun r => (Out.bool r.1 r.2).bind fun t => if t.1 then kNot true t.2 else (evA lf b t.2).bind fun r' => (Out.bool r'.1 r'.2).bind fun t' => kNot t'.1 t'.2
  | .not a, env => (evA lf a env).bind fun r => (Out.bool r.1 r.2).bind fun t => kNot (!t.1) t.2
  | .ite c a b, env => (evA lf c env).bind fun r => (Out.bool r.1 r.2).bind fun t => if t.1 then evA lf a t.2 else evA lf b t.2
  | .call f es, env => (evAs lf es env).bind fun r => kCall (cf f) r.1 r.2
  | .callv i es, env => match env.at i with
    | some (_, .fn f) => (evAs lf es env).bind fun r => kCall (cf f) r.1 r.2
    | _ => .fail
  | .calll f es ps body, env => (evAs lf es env).bind fun r => kCallL (cl f fun ds => ((evA none body (lamE ps ds r.2.view)).bind fun z => kLam z.1 z.2).nox) r.1 r.2
  | .callp es, env => match lf with
    | some g => (evAs lf es env).bind fun r => match uses r.2 r.1 with
      | some (ds, e) => (g ds).bind fun d => .ok (.val false d, e)
      | none => .fail
    | none => .fail
  | .told body, env => match evA lf body env with
    | .ok r => kTold r.1 r.2
    | .exn x l e => .ok (.val false (toldX x l), e)
    | .fail => .fail
  | .get2 d k v, env => (evA lf d env).bind fun r => if !isDct (r.1.rd r.2) then .fail else (evA lf k r.2).bind fun rk => (evA lf v rk.2).bind fun rv => kGet2 r.1 rk.1 rv.1 rv.2
  | .pop i, env => match ownAt env i with
    | some (fl, .lst ds) => match ds.getLast? with
      | some d => .ok (.val false d, env.set i (some (fl, .lst ds.dropLast)))
      | none => .fail
    | _ => .fail
  | .pop0 i, env => match ownAt env i with
    | some (fl, .lst (d :: ds)) => .ok (.val false d, env.set i (some (fl, .lst ds)))
    | _ => .fail
  | .comp elt tg it own cond, env => (evI lf it env).bind fun r =>
    (compF (kTurn tg own (fun e => evC lf cond e) (fun e => evA lf elt e)) r.1 [] (wipe r.2 own)).bind fun z => .ok (.val true (.lst z.1), unown r.2 z.2 own)
def evAs (lf : Option LF) : Exs → En → Out (List AV × En)
  | .nil, env => .ok ([], env)
  | .cons e es, env => (evA lf e env).bind fun r => (evAs lf es r.2).bind fun r' => .ok (r.1 :: r'.1, r'.2)
def evC (lf : Option LF) : Exs → En → Out (Bool × En)
  | .nil, env => .ok (true, env)
  | .cons e _, env => (evA lf e env).bind fun r => Out.bool r.1 r.2
def evP (lf : Option LF) : Exs → En → Out (Option Int × En)
  | .nil, env => .ok (none, env)
  | .cons e _, env => (evA lf e env).bind fun r => kPart r.1 r.2
def evI (lf : Option LF) : Wk → En → Out (List D × En)
  | .seq e, env => (evA lf e env).bind fun r => (kUse r.1 r.2).bind fun z => kSeq z.1 z.2
  | .rng1 a, env => (evA lf a env).bind fun r => (kInt r.1 r.2).bind fun z => .ok (rng 0 z.1, z.2)
  | .rng2 a b, env => (evA lf a env).bind fun r => (evA lf b r.2).bind fun r' => (kInt r.1 r'.2).bind fun z => (kInt r'.1 z.2).bind fun z' => .ok (rng z.1 z'.1, z'.2)
  | .enu e, env => (evA lf e env).bind fun r => (kUse r.1 r.2).bind fun z => kEnu z.1 z.2
  | .zip a b, env => (evA lf a env).bind fun r => (evA lf b r.2).bind fun r' => (kUse r.1 r'.2).bind fun z => (kUse r'.1 z.2).bind fun z' => kZip z.1 z'.1 z'.2
  | .items e, env => (evA lf e env).bind fun r => (kUse r.1 r.2).bind fun z => kItems z.1 z.2
end
inductive Fw where
  | nx | rt (s : SV) | bk | ct
def forF (tg : Tg) (b : En → Out (Fw × En)) : List D → En → Out (Fw × En)
  | [], env => .ok (.nx, env)
  | d :: ds, env => (tg.set env d).bind fun e => (b e).bind fun r => match r.1 with
    | .nx => forF tg b ds r.2
    | .ct => forF tg b ds r.2
    | .bk => .ok (.nx, r.2)
    | .rt s => .ok (.rt s, r.2)
def whlF (c : En → Out (Bool × En)) (b : En → Out (Fw × En)) : Nat → En → Out (Fw × En)
  | 0, _ => .fail
  | n + 1, env => (c env).bind fun t => if t.1 then (b t.2).bind fun r => match r.1 with
      | .nx => whlF c b n r.2
      | .ct => whlF c b n r.2
      | .bk => .ok (.nx, r.2)
      | .rt s => .ok (.rt s, r.2)
    else .ok (.nx, t.2)
/-- the turns that a while may take -/
def FUEL : Nat := 1000000
def evT (lf : Option LF) (c : Ex) (env : En) : Out (Bool × En) := (evA cf cl lf c env).bind fun r => Out.bool r.1 r.2
def kPar (is : List Nat) (as : List AV) (e : En) : Out (Fw × En) := match takes e as with
  | some (vs, e') => if is.Nodup then (bindOs e' is vs).bind fun e1 => .ok (.nx, e1) else .fail
  | none => .fail
def setAt (ds : List D) (n : Int) (v : D) : List D := ds.set (if 0 ≤ n then n.toNat else (n + ds.length).toNat) v
/-- the name's object is changed -/
def kPut (i : Nat) (fl : Fl) (d : D) (e : En) : Out (Fw × En) := .ok (.nx, e.set i (some (fl, d)))
def subD (d k v : D) : Option D := match d with
  | .lst ds => match k with
    | .int n => if (atI ds n).isSome then some (.lst (setAt ds n v)) else none
    | _ => none
  | .dct ks vs => if kk k && decide (ks.length < LINE) then some (.dct (dputK ks k) (dputV ks vs k v)) else none
  | _ => none
def kSub (i : Nat) (v k : AV) (e : En) : Out (Fw × En) := (kUse v e).bind fun z => match k.rd z.2, ownAt z.2 i with
  | some kd, some (fl, d) => match subD d kd z.1 with
    | some d' => .ok (.nx, z.2.set i (some (fl, d')))
    | none => .fail
  | _, _ => .fail
def kApp (i : Nat) (v : AV) (e : En) : Out (Fw × En) := (kUse v e).bind fun z => match ownAt z.2 i with
  | some (fl, .lst ds) => if ds.length < LINE then .ok (.nx, z.2.set i (some (fl, .lst (ds ++ [z.1])))) else .fail
  | _ => .fail
def isLst : Option SV → Bool
  | some (_, .lst _) => true
  | _ => false
def kExt (i : Nat) (v : AV) (e : En) : Out (Fw × En) := match v, ownAt e i with
  | .val true (.lst vs), some (fl, .lst ds) => if ds.length + vs.length ≤ LINE then .ok (.nx, e.set i (some (fl, .lst (ds ++ vs)))) else .fail
  | _, _ => .fail
/-- a parameter that is handed back is frozen -/
def kRet (np : Nat) (v : AV) (e : En) : Out (Fw × En) := match v with
  | .val own d => .ok (.rt (if own then .o else .f, d), e)
  | .slot i => match e.at i with
    | some (.o, d) => if np ≤ i then .ok (.rt (.o, d), e.set i none) else .ok (.rt (.f, d), e.frz i)
    | some (_, d) => .ok (.rt (.f, d), e.frz i)
    | none => .fail
mutual
def evS (lf : Option LF) : Sm → En → Out (Fw × En)
  | .asg i e, env => (evA cf cl lf e env).bind fun r => (bindV r.2 i r.1).bind fun e1 => .ok (.nx, e1)
  | .par is es, env => (evAs cf cl lf es env).bind fun r => kPar is r.1 r.2
  | .unp tg e, env => (evA cf cl lf e env).bind fun r => (kUse r.1 r.2).bind fun z => (tg.set z.2 z.1).bind fun e2 => .ok (.nx, e2)
  | .sub i k e, env => (evA cf cl lf e env).bind fun r => if (r.2.at i).isSome then (evA cf cl lf k r.2).bind fun rk => kSub i r.1 rk.1 rk.2 else .fail
  | .drop e, env => (evA cf cl lf e env).bind fun r => .ok (.nx, r.2)
  | .app i e, env => if isLst (ownAt env i) then (evA cf cl lf e env).bind fun r => kApp i r.1 r.2 else .fail
  | .ext i e, env => if isLst (ownAt env i) then (evA cf cl lf e env).bind fun r => kExt i r.1 r.2 else .fail
  | .sdap _ _ _, _ => .fail
  | .ins0 _ _ _, _ => .fail
  | .ifs c a b, env => (evT cf cl lf c env).bind fun t => if t.1 then evSs lf a t.2 else evSs lf b t.2
  | .whl c b, env => whlF (fun e => evT cf cl lf c e) (fun e => evSs lf b e) FUEL env
  | .for tg it b, env => (evI cf cl lf it env).bind fun r => forF tg (fun e => evSs lf b e) r.1 r.2
  | .ret np e, env => (evA cf cl lf e env).bind fun r => kRet np r.1 r.2
  | .retN, env => .ok (.rt (.f, .non), env)
  | .raise x, env => .exn x none env
  | .pass, env => .ok (.nx, env)
  | .brk, env => .ok (.bk, env)
  | .cnt, env => .ok (.ct, env)
def evSs (lf : Option LF) : Sms → En → Out (Fw × En)
  | .nil, env => .ok (.nx, env)
  | .cons s r, env => (evS lf s env).bind fun z => match z.1 with
    | .nx => evSs lf r z.2
    | w => .ok (w, z.2)
end
/-- a def: how many parameters (but a lambda, the last one), how many slots, the body -/
structure Df where
  np : Nat
  ns : Nat
  body : Sms
/-- the parameters at the end -/
def outsOf (env : En) : Nat → List SV
  | 0 => []
  | n + 1 => outsOf env n ++ [(env.at n).getD (.f, .non)]
def runD (lf : Option LF) (d : Df) (vs : List SV) : Out (SV × List SV) :=
  if vs.length = d.np then (evSs cf cl lf d.body (vs.map some ++ List.replicate (d.ns - d.np) none)).bind fun r => match r.1 with
    | .nx => .ok ((.f, .non), outsOf r.2 d.np)
    | .rt s => .ok (s, outsOf r.2 d.np)
    | _ => .fail
  else .fail
end
/-- the program: defs by number; n: how deep calls may go -/
def callL (pg : Nat → Option Df) : Nat → Nat → Option LF → List SV → Out (SV × List SV)
  | 0, _, _, _ => .fail
  | n + 1, f, lf, vs => match pg f with
    | some d => runD (fun g us => callL pg n g none us) (fun g l us => callL pg n g (some l) us) lf d vs
    | none => .fail
def callF (pg : Nat → Option Df) (n f : Nat) (vs : List SV) : Out (SV × List SV) := callL pg n f none vs
end MP
set_option maxRecDepth 100000
set_option maxHeartbeats 2000000
/-! MP2: what tree data is in the heap. -/
namespace MP
open PySem PySem.Spec PyProof.Rows L2
/-- all that stays through the law -/
structure Gx where
  P : Program
  w : World
  K : PySem.W.Frag
  T : List (Addr × Str)
  fa : Nat → Option Addr
  xa : Str → Option Addr
mutual
def keyOf : D → NestedKey
  | .int i => .num i
  | .str x => .text x
  | .tup ds => .tup (keysOf ds)
  | _ => .none
def keysOf : List D → List NestedKey
  | [] => []
  | d :: r => keyOf d :: keysOf r
end
abbrev sOk (x : Str) : Bool := x.cps.all (· < 0x110000)
abbrev DE := NestedKey × Addr × V
/-- the keys of the entries -/
def KeyL (ks : List D) (es : List DE) : Prop := es.map (·.1) = keysOf ks ∧ kks ks = true
/-- the object o is a dict of these entries -/
def DctOk (G : Gx) (a : Addr) (es : List DE) (o : Obj) : Prop := (a == sysModules) = false ∧ es.length ≤ sizeLine ∧ ∃ us : List (NestedKey × Addr × Value),
  Paired (fun (p : DE) (q : NestedKey × Addr × Value) => p.1 = q.1 ∧ p.2.1 = q.2.1 ∧ RelV p.2.2 q.2.2) es us ∧
  ∃ des ep, o.ExactDict ∧ o.data = .dict des ep ∧ des.toList = us.map (entryOfKey (nestedKind G.P G.w)) ∧ (us.map (·.1)).Nodup
/-- a dict whose keys are tuples that stand at addresses -/
def dctO (G : Gx) (a : Addr) (es : List DE) (o : Obj) : HO := .ext fun h => h.get? a = some o ∧ DctOk G a es o
/-- a list of ints that is another's -/
def FlsR (G : Gx) (H : Hp) (a : Addr) (ns : List Int) : Prop := (∃ o, H a = some (.frz o (.lst (ns.map V.int)))) ∨ ∃ (o : Obj) (its : Array Value) (n : Nat), G.K.lookup a = some o ∧ o.cls = .type "list" ∧ o.dict = none ∧ o.data = .seq its n ∧ its.size ≤ sizeLine ∧ Vals (ns.map V.int) its.toList
theorem FlsR.sq {G : Gx} {H : Hp} {a : Addr} {ns : List Int} (h : FlsR G H a ns) : SqL G.K H a (ns.map V.int) := h.elim (fun ⟨o, h⟩ => .inl (.inr ⟨o, h⟩)) .inr
mutual
inductive Rep (G : Gx) (Fz : Addr → Prop) (H : Hp) : D → V → Prop
  | non : Rep G Fz H .non .non
  | bl (b : Bool) : Rep G Fz H (.bl b) (.bl b)
  | int (i : Int) : Rep G Fz H (.int i) (.int i)
  | str (x : Str) : sOk x = true → Rep G Fz H (.str x) (.str x)
  | fn {i : Nat} {f : Addr} : G.fa i = some f → Rep G Fz H (.fn i) (.ref f)
  | fls {a : Addr} {ns : List Int} : FlsR G H a ns → Rep G Fz H (.fls ns) (.ref a)
  | tup {a : Addr} {xs : List V} {ds : List D} : SqT G.K H a xs → Reps G Fz H ds xs → Rep G Fz H (.tup ds) (.ref a)
  | lst {a : Addr} {xs : List V} {ds : List D} : Fz a → H a = some (.lst xs) → Reps G Fz H ds xs → Rep G Fz H (.lst ds) (.ref a)
  | dct {a : Addr} {es : List DE} {o : Obj} {ks vs : List D} : Fz a → H a = some (dctO G a es o) → KeyL ks es → Reps G Fz H ks (es.map fun e => V.ref e.2.1) → Reps G Fz H vs (es.map (·.2.2)) → Rep G Fz H (.dct ks vs) (.ref a)
inductive Reps (G : Gx) (Fz : Addr → Prop) (H : Hp) : List D → List V → Prop
  | nil : Reps G Fz H [] []
  | cons {d : D} {v : V} {ds : List D} {vs : List V} : Rep G Fz H d v → Reps G Fz H ds vs → Reps G Fz H (d :: ds) (v :: vs)
end
/-- an object that may be owned -/
def isCell : HO → Prop
  | .lst _ => True
  | .ext _ => True
  | _ => False
/-- all that is not owned stays (a code object's table may grow) -/
structure Keep (O : Addr → Prop) (H H' : Hp) : Prop where
  k : ∀ b o, H b = some o → ¬ O b → (∀ ps, o ≠ .tbl ps) → H' b = some o
  t : ∀ b ps, H b = some (.tbl ps) → ¬ O b → ∃ qs, H' b = some (.tbl qs)
  dm : ∀ b o, H b = some o → ∃ o', H' b = some o'
/-- what is owned: cells that are not frozen -/
def OwOk (Fz : Addr → Prop) (H : Hp) (O : Addr → Prop) : Prop := ∀ b, O b → ¬ Fz b ∧ ∃ o, H b = some o ∧ isCell o
section
variable {G : Gx} {Fz Fz' : Addr → Prop} {H H' : Hp} {O : Addr → Prop}
theorem Keep.tup (k : Keep O H H') (ho : OwOk Fz H O) {a : Addr} {xs : List V} (h : SqT G.K H a xs) : SqT G.K H' a xs := by
  rcases h with (h | ⟨o, h⟩) | h
  · refine .inl (.inl (k.k _ _ h (fun z => ?_) fun ps q => nomatch q))
    obtain ⟨_, o, e, c⟩ := ho _ z
    rw [h] at e; cases e; exact c
  · refine .inl (.inr ⟨o, k.k _ _ h (fun z => ?_) fun ps q => nomatch q⟩)
    obtain ⟨_, o, e, c⟩ := ho _ z
    rw [h] at e; cases e; exact c
  · exact .inr h
theorem Keep.fls (k : Keep O H H') (ho : OwOk Fz H O) {a : Addr} {ns : List Int} (h : FlsR G H a ns) : FlsR G H' a ns := by
  rcases h with ⟨o, h⟩ | h
  · refine .inl ⟨o, k.k _ _ h (fun z => ?_) fun ps q => nomatch q⟩
    obtain ⟨_, o', e, c⟩ := ho _ z
    rw [h] at e; cases e; exact c
  · exact .inr h
theorem Keep.lst (k : Keep O H H') (ho : OwOk Fz H O) {a : Addr} {xs : List V} (hf : Fz a) (h : H a = some (.lst xs)) : H' a = some (.lst xs) :=
  k.k _ _ h (fun z => (ho _ z).1 hf) fun ps q => nomatch q
theorem dctO_ne {a : Addr} {es : List DE} {o : Obj} (ps : Array Value) : dctO G a es o ≠ .tbl ps := fun z => by unfold dctO at z; cases z
theorem dctO_cell {a : Addr} {es : List DE} {o : Obj} : isCell (dctO G a es o) := by unfold dctO; trivial
mutual
theorem Rep.keep (k : Keep O H H') (ho : OwOk Fz H O) (hs : ∀ b, Fz b → Fz' b) : ∀ (d : D) (v : V), Rep G Fz H d v → Rep G Fz' H' d v
  | .non, _, h => by cases h; exact .non
  | .bl b, _, h => by cases h; exact .bl b
  | .int i, _, h => by cases h; exact .int i
  | .str x, _, h => by cases h with | str _ e => exact .str x e
  | .fn i, _, h => by cases h with | fn e => exact .fn e
  | .fls ns, _, h => by cases h with | fls e => exact .fls (k.fls ho e)
  | .tup ds, _, h => by cases h with | tup h1 h2 => exact .tup (k.tup ho h1) (Reps.keep k ho hs ds _ h2)
  | .lst ds, _, h => by cases h with | lst h0 h1 h2 => exact .lst (hs _ h0) (k.lst ho h0 h1) (Reps.keep k ho hs ds _ h2)
  | .dct ks vs, _, h => by
    cases h with
    | dct h0 h1 h2 h3 h4 => exact .dct (hs _ h0) (k.k _ _ h1 (fun z => (ho _ z).1 h0) dctO_ne) h2 (Reps.keep k ho hs ks _ h3) (Reps.keep k ho hs vs _ h4)
theorem Reps.keep (k : Keep O H H') (ho : OwOk Fz H O) (hs : ∀ b, Fz b → Fz' b) : ∀ (ds : List D) (vs : List V), Reps G Fz H ds vs → Reps G Fz' H' ds vs
  | [], _, h => by cases h; exact .nil
  | d :: ds, _, h => by cases h with | cons h1 h2 => exact .cons (Rep.keep k ho hs d _ h1) (Reps.keep k ho hs ds _ h2)
end
theorem Reps.length : ∀ {ds : List D} {vs : List V}, Reps G Fz H ds vs → ds.length = vs.length
  | [], _, h => by cases h; rfl
  | d :: ds, _, h => by cases h with | cons h1 h2 => simp [Reps.length h2]
theorem Reps.get : ∀ {ds : List D} {vs : List V} {i : Nat} {d : D}, Reps G Fz H ds vs → ds[i]? = some d → ∃ v, vs[i]? = some v ∧ Rep G Fz H d v
  | [], _, i, d, h, e => by simp at e
  | _ :: _, _, 0, d, h, e => by cases h with | cons h1 h2 => simp at e; subst e; exact ⟨_, rfl, h1⟩
  | _ :: ds, _, i + 1, d, h, e => by
    cases h with
    | cons h1 h2 =>
      obtain ⟨v, e1, r⟩ := Reps.get (i := i) h2 (by simpa using e)
      exact ⟨v, by simpa using e1, r⟩
theorem Reps.get' : ∀ {ds : List D} {vs : List V} {i : Nat} {v : V}, Reps G Fz H ds vs → vs[i]? = some v → ∃ d, ds[i]? = some d ∧ Rep G Fz H d v := fun {ds vs i v} h e => by
  have hl := h.length
  have hi : i < vs.length := (List.getElem?_eq_some_iff.mp e).1
  have : ds[i]? = some ds[i] := by simp [hl, hi]
  obtain ⟨v', e', r⟩ := h.get this
  rw [e] at e'; cases e'
  exact ⟨_, this, r⟩
theorem Reps.append : ∀ {ds es : List D} {vs us : List V}, Reps G Fz H ds vs → Reps G Fz H es us → Reps G Fz H (ds ++ es) (vs ++ us)
  | [], _, _, _, h, h' => by cases h; exact h'
  | _ :: _, _, _, _, h, h' => by cases h with | cons h1 h2 => exact .cons h1 (h2.append h')
theorem Reps.drop : ∀ (n : Nat) {ds : List D} {vs : List V}, Reps G Fz H ds vs → Reps G Fz H (ds.drop n) (vs.drop n)
  | 0, _, _, h => h
  | n + 1, [], _, h => by cases h; exact .nil
  | n + 1, _ :: _, _, h => by cases h with | cons h1 h2 => exact Reps.drop n h2
theorem Reps.take : ∀ (n : Nat) {ds : List D} {vs : List V}, Reps G Fz H ds vs → Reps G Fz H (ds.take n) (vs.take n)
  | 0, _, _, h => .nil
  | n + 1, [], _, h => by cases h; exact .nil
  | n + 1, _ :: _, _, h => by cases h with | cons h1 h2 => exact .cons h1 (Reps.take n h2)
theorem Reps.reverse : ∀ {ds : List D} {vs : List V}, Reps G Fz H ds vs → Reps G Fz H ds.reverse vs.reverse
  | [], _, h => by cases h; exact .nil
  | _ :: _, _, h => by
    cases h with
    | cons h1 h2 =>
      rw [List.reverse_cons, List.reverse_cons]
      exact h2.reverse.append (.cons h1 .nil)
theorem Reps.rep (k : Nat) {ds : List D} {vs : List V} (h : Reps G Fz H ds vs) : Reps G Fz H (List.replicate k ds).flatten (List.replicate k vs).flatten := by
  induction k with
  | zero => exact .nil
  | succ k ih => rw [List.replicate_succ, List.replicate_succ, List.flatten_cons, List.flatten_cons]; exact h.append ih
theorem Reps.set {d : D} {v : V} (r : Rep G Fz H d v) : ∀ (i : Nat) {ds : List D} {vs : List V}, Reps G Fz H ds vs → Reps G Fz H (ds.set i d) (vs.set i v)
  | _, [], _, h => by cases h; exact .nil
  | 0, _ :: _, _, h => by cases h with | cons h1 h2 => exact .cons r h2
  | i + 1, _ :: _, _, h => by cases h with | cons h1 h2 => exact .cons h1 (h2.set r i)
theorem Reps.dropLast : ∀ {ds : List D} {vs : List V}, Reps G Fz H ds vs → Reps G Fz H ds.dropLast vs.dropLast := fun {ds vs} h => by
  rw [List.dropLast_eq_take, List.dropLast_eq_take, h.length]
  exact h.take _
/-- the content at a value, whoever owns it -/
def RepC (G : Gx) (Fz : Addr → Prop) (H : Hp) : D → V → Prop
  | .lst ds, v => ∃ a xs, v = .ref a ∧ H a = some (.lst xs) ∧ Reps G Fz H ds xs
  | .dct ks vs, v => ∃ a es o, v = .ref a ∧ H a = some (dctO G a es o) ∧ KeyL ks es ∧ Reps G Fz H ks (es.map fun e => V.ref e.2.1) ∧ Reps G Fz H vs (es.map (·.2.2))
  | d, v => Rep G Fz H d v
/-- an owned cell -/
def OwnC (G : Gx) (Fz : Addr → Prop) (H : Hp) (a : Addr) : D → Prop
  | .lst ds => ∃ xs, H a = some (.lst xs) ∧ Reps G Fz H ds xs
  | .dct ks vs => ∃ es o, H a = some (dctO G a es o) ∧ KeyL ks es ∧ Reps G Fz H ks (es.map fun e => V.ref e.2.1) ∧ Reps G Fz H vs (es.map (·.2.2))
  | _ => False
theorem Rep.c {d : D} {v : V} (r : Rep G Fz H d v) : RepC G Fz H d v := by
  cases d with
  | lst ds => cases r with | lst h0 h1 h2 => exact ⟨_, _, rfl, h1, h2⟩
  | dct ks vs => cases r with | dct h0 h1 h2 h3 h4 => exact ⟨_, _, _, rfl, h1, h2, h3, h4⟩
  | non => exact r
  | bl _ => exact r
  | int _ => exact r
  | str _ => exact r
  | tup _ => exact r
  | fn _ => exact r
  | fls _ => exact r
theorem OwnC.c {d : D} {a : Addr} (r : OwnC G Fz H a d) : RepC G Fz H d (.ref a) := by
  cases d with
  | lst ds => obtain ⟨xs, h1, h2⟩ := r; exact ⟨_, _, rfl, h1, h2⟩
  | dct ks vs => obtain ⟨es, ob, h1, h2, h3, h4⟩ := r; exact ⟨_, _, _, rfl, h1, h2, h3, h4⟩
  | non => exact r.elim
  | bl _ => exact r.elim
  | int _ => exact r.elim
  | str _ => exact r.elim
  | tup _ => exact r.elim
  | fn _ => exact r.elim
  | fls _ => exact r.elim
/-- an owned cell is frozen -/
theorem OwnC.rep {d : D} {a : Addr} (r : OwnC G Fz H a d) (hf : Fz a) : Rep G Fz H d (.ref a) := by
  cases d with
  | lst ds => obtain ⟨xs, h1, h2⟩ := r; exact .lst hf h1 h2
  | dct ks vs => obtain ⟨es, ob, h1, h2, h3, h4⟩ := r; exact .dct hf h1 h2 h3 h4
  | non => exact r.elim
  | bl _ => exact r.elim
  | int _ => exact r.elim
  | str _ => exact r.elim
  | tup _ => exact r.elim
  | fn _ => exact r.elim
  | fls _ => exact r.elim
theorem OwnC.there {d : D} {a : Addr} (r : OwnC G Fz H a d) : ∃ o, H a = some o ∧ isCell o := by
  cases d with
  | lst ds => obtain ⟨xs, h1, h2⟩ := r; exact ⟨_, h1, trivial⟩
  | dct ks vs => obtain ⟨es, ob, h1, _⟩ := r; exact ⟨_, h1, dctO_cell⟩
  | non => exact r.elim
  | bl _ => exact r.elim
  | int _ => exact r.elim
  | str _ => exact r.elim
  | tup _ => exact r.elim
  | fn _ => exact r.elim
  | fls _ => exact r.elim
theorem OwnC.keep {d : D} {a : Addr} (k : Keep O H H') (ho : OwOk Fz H O) (hs : ∀ b, Fz b → Fz' b) (hn : ¬ O a) (r : OwnC G Fz H a d) : OwnC G Fz' H' a d := by
  cases d with
  | lst ds => obtain ⟨xs, h1, h2⟩ := r; exact ⟨xs, k.k _ _ h1 hn (fun ps q => nomatch q), h2.keep k ho hs⟩
  | dct ks vs => obtain ⟨es, ob, h1, h2, h3, h4⟩ := r; exact ⟨es, ob, k.k _ _ h1 hn dctO_ne, h2, h3.keep k ho hs, h4.keep k ho hs⟩
  | non => exact r.elim
  | bl _ => exact r.elim
  | int _ => exact r.elim
  | str _ => exact r.elim
  | tup _ => exact r.elim
  | fn _ => exact r.elim
  | fls _ => exact r.elim
theorem Keep.none (k : Keep O H H') {b : Addr} (h : H' b = none) : H b = none := by
  cases e : H b with
  | none => rfl
  | some o =>
    obtain ⟨o', q⟩ := k.dm b o e
    rw [h] at q; cases q
theorem Keep.refl : Keep O H H := ⟨fun _ _ h _ _ => h, fun _ ps h _ => ⟨ps, h⟩, fun _ o h => ⟨o, h⟩⟩
end
end MP
set_option maxRecDepth 100000
set_option maxHeartbeats 2000000
/-! MP3: names and their values; what an expression leaves. -/
namespace MP
open PySem PySem.Spec PyProof.Rows L2
section
variable (G : Gx)
/-- a name's value -/
def SlotR (Fz : Addr → Prop) (H : Hp) (s : SV) (v : V) : Prop :=
  if s.1.own = true then ∃ a, v = .ref a ∧ ¬ Fz a ∧ OwnC G Fz H a s.2 else Rep G Fz H s.2 v
/-- the tables of code objects; each code object is frozen -/
def TabF (Fz : Addr → Prop) (H : Hp) : Prop := ∀ p ∈ G.T, ∃ ps : Array Value, H p.1 = some (.tbl ps) ∧ TriplesOk ps.toList ∧ ∀ (pos : Pos) (cv : Value), codeAmong pos ps.toList = some cv → ∃ c, cv = .ref c ∧ Fz c ∧ H c = some (LamX.CodeO c p.2)
/-- the names' values -/
structure Mt (Fz : Addr → Prop) (σ : L2.St) (H : Hp) (env : En) : Prop where
  len : env.length = σ.length
  slot : ∀ i s, env.at i = some s → ∃ v, σ[i]? = some (some v) ∧ SlotR G Fz H s v
  dis : ∀ i j a s s', env.at i = some s → env.at j = some s' → s.1.own = true → s'.1.own = true → σ[i]? = some (some (.ref a)) → σ[j]? = some (some (.ref a)) → i = j
  dom : ∀ b, Fz b → ∃ o, H b = some o
  tabs : TabF G Fz H
end
/-- the owned objects -/
def Ow (σ : L2.St) (env : En) (a : Addr) : Prop := ∃ i s, env.at i = some s ∧ s.1.own = true ∧ σ[i]? = some (some (.ref a))
/-- a name's flag behind an expression: as it was, or frozen -/
def FlO : Option SV → Option SV → Prop
  | none, none => True
  | some s, some s' => s'.1 = s.1 ∨ s'.1 = s.1.frz
  | _, _ => False
/-- behind an expression -/
structure Po (G : Gx) (σ : L2.St) (Fz : Addr → Prop) (H : Hp) (env : En) (Fz' : Addr → Prop) (H' : Hp) (env' : En) : Prop where
  keep : Keep (Ow σ env) H H'
  sub : ∀ b, Fz b → Fz' b
  new : ∀ b, Fz' b → Fz b ∨ H b = none ∨ Ow σ env b
  mt : Mt G Fz' σ H' env'
  fl : ∀ i, FlO (env.at i) (env'.at i)
/-- what an expression's value is -/
def AvR (G : Gx) (σ : L2.St) (Fz : Addr → Prop) (H : Hp) (env : En) : AV → V → Prop
  | .val true d, v => ∃ a, v = .ref a ∧ ¬ Fz a ∧ ¬ Ow σ env a ∧ OwnC G Fz H a d
  | .val false d, v => Rep G Fz H d v
  | .slot i, v => σ[i]? = some (some v) ∧ ∃ s, env.at i = some s
/-- an owned value is a new object -/
def Fre (H : Hp) : AV → V → Prop
  | .val true _, .ref a => H a = none
  | _, _ => True
section
variable {G : Gx} {σ : L2.St} {Fz Fz1 Fz2 Fz' : Addr → Prop} {H H1 H2 H' : Hp} {env env1 env2 env' : En}
theorem TabF.mono (t : TabF G Fz H) (hs : ∀ b, Fz b → Fz' b) : TabF G Fz' H := fun p hp => by
  obtain ⟨ps, h1, h2, h3⟩ := t p hp
  refine ⟨ps, h1, h2, fun pos cv hc => ?_⟩
  obtain ⟨c, e1, e2, e3⟩ := h3 pos cv hc
  exact ⟨c, e1, hs c e2, e3⟩
theorem TabF.tabs (t : TabF G Fz H) : LamX.Tabs G.T H := fun p hp => by
  obtain ⟨ps, h1, h2, h3⟩ := t p hp
  refine ⟨ps, h1, h2, fun pos cv hc => ?_⟩
  obtain ⟨c, e1, _, e3⟩ := h3 pos cv hc
  exact ⟨c, e1, e3⟩
theorem TabF.ext {a : Addr} (t : TabF G Fz H) (hk : ∀ b o, b ≠ a → H b = some o → H' b = some o) (nf : ¬ Fz a) (nt : ∀ ps, H a ≠ some (.tbl ps)) : TabF G Fz H' := fun p hp => by
  obtain ⟨ps, h1, h2, h3⟩ := t p hp
  refine ⟨ps, hk _ _ (fun z => nt ps (by rw [← z]; exact h1)) h1, h2, fun pos cv hc => ?_⟩
  obtain ⟨c, e1, e2, e3⟩ := h3 pos cv hc
  exact ⟨c, e1, e2, hk _ _ (fun z => nf (by rw [← z]; exact e2)) e3⟩
theorem TabF.same (t : TabF G Fz H) (e : ∀ b o, H b = some o → H' b = some o) : TabF G Fz H' := fun p hp => by
  obtain ⟨ps, h1, h2, h3⟩ := t p hp
  refine ⟨ps, e _ _ h1, h2, fun pos cv hc => ?_⟩
  obtain ⟨c, e1, e2, e3⟩ := h3 pos cv hc
  exact ⟨c, e1, e2, e _ _ e3⟩
theorem Mt.owOk (m : Mt G Fz σ H env) : OwOk Fz H (Ow σ env) := fun b ⟨i, s, h1, h2, h3⟩ => by
  obtain ⟨v, e, r⟩ := m.slot i s h1
  rw [h3] at e; cases e
  unfold SlotR at r
  rw [if_pos h2] at r
  obtain ⟨a, e, n, c⟩ := r
  cases e
  exact ⟨n, c.there⟩
theorem Fl.frz_own (f : Fl) : f.frz.own = false := by cases f <;> rfl
theorem Fl.frz_frz (f : Fl) : f.frz.frz = f.frz := by cases f <;> rfl
theorem FlO.refl (o : Option SV) : FlO o o := by
  cases o with
  | none => trivial
  | some s => exact .inl rfl
theorem FlO.trans {a b c : Option SV} (h : FlO a b) (k : FlO b c) : FlO a c := by
  cases a <;> cases b <;> cases c <;> first | trivial | exact h.elim | exact k.elim | skip
  rename_i x y z
  rcases h with h | h <;> rcases k with k | k
  · exact .inl (k.trans h)
  · exact .inr (by rw [k, h])
  · exact .inr (k.trans h)
  · exact .inr (by rw [k, h, Fl.frz_frz])
theorem FlO.back {a : Option SV} {s' : SV} (h : FlO a (some s')) (ho : s'.1.own = true) : ∃ s, a = some s ∧ s.1 = s'.1 := by
  cases a with
  | none => exact h.elim
  | some s =>
    rcases h with h | h
    · exact ⟨s, rfl, h.symm⟩
    · rw [h, Fl.frz_own] at ho; cases ho
theorem FlO.fwd {b : Option SV} {s : SV} (h : FlO (some s) b) : ∃ s', b = some s' := by
  cases b with
  | none => exact h.elim
  | some s' => exact ⟨s', rfl⟩
theorem Po.ow (p : Po G σ Fz H env Fz' H' env') : ∀ b, Ow σ env' b → Ow σ env b := fun b ⟨i, s, h1, h2, h3⟩ => by
  have := p.fl i
  rw [h1] at this
  obtain ⟨t, e, f⟩ := this.back h2
  exact ⟨i, t, e, by rw [f]; exact h2, h3⟩
theorem Po.sl (p : Po G σ Fz H env Fz' H' env') : ∀ i s, env.at i = some s → ∃ s', env'.at i = some s' := fun i s h => by
  have := p.fl i
  rw [h] at this
  exact this.fwd
theorem Po.refl (m : Mt G Fz σ H env) : Po G σ Fz H env Fz H env := ⟨Keep.refl, fun _ h => h, fun _ h => .inl h, m, fun _ => FlO.refl _⟩
theorem Po.trans (m : Mt G Fz σ H env) (p : Po G σ Fz H env Fz1 H1 env1) (q : Po G σ Fz1 H1 env1 Fz2 H2 env2) : Po G σ Fz H env Fz2 H2 env2 where
  keep := ⟨fun b o e n t => q.keep.k _ _ (p.keep.k _ _ e n t) (fun z => n (p.ow _ z)) t, fun b ps e n => by
    obtain ⟨qs, e1⟩ := p.keep.t _ _ e n
    exact q.keep.t _ _ e1 fun z => n (p.ow _ z), fun b o e => by
    obtain ⟨o1, e1⟩ := p.keep.dm _ _ e
    exact q.keep.dm _ _ e1⟩
  sub := fun b h => q.sub _ (p.sub _ h)
  new := fun b h => by
    rcases q.new b h with z | z | z
    · exact p.new b z
    · exact .inr (.inl (p.keep.none z))
    · exact .inr (.inr (p.ow _ z))
  mt := q.mt
  fl := fun i => (p.fl i).trans (q.fl i)
/-- an earlier value lasts -/
theorem AvR.keep (m : Mt G Fz σ H env) (p : Po G σ Fz H env Fz' H' env') {av : AV} {v : V} (r : AvR G σ Fz H env av v) : AvR G σ Fz' H' env' av v := by
  cases av with
  | val own d =>
    cases own with
    | true =>
      obtain ⟨a, e, n, no, c⟩ := r
      refine ⟨a, e, fun z => ?_, fun z => no (p.ow _ z), c.keep p.keep m.owOk p.sub no⟩
      obtain ⟨o, ho, _⟩ := c.there
      rcases p.new _ z with z | z | z
      · exact n z
      · rw [ho] at z; cases z
      · exact no z
    | false =>
      exact Rep.keep p.keep m.owOk p.sub _ _ r
  | slot i =>
    obtain ⟨h1, s, h2⟩ := r
    exact ⟨h1, p.sl i s h2⟩
theorem Fre.of {O : Addr → Prop} (k : Keep O H H1) {av : AV} {v : V} (f : Fre H1 av v) : Fre H av v := by
  cases av with
  | slot i => trivial
  | val own d =>
    cases own with
    | false => trivial
    | true =>
      cases v with
      | ref a => exact k.none (show H1 a = none from f)
      | _ => trivial
/-- its content -/
theorem AvR.rd (m : Mt G Fz σ H env) {av : AV} {v : V} {d : D} (r : AvR G σ Fz H env av v) (h : av.rd env = some d) : RepC G Fz H d v := by
  cases av with
  | val own e =>
    have : e = d := Option.some.inj h
    subst this
    cases own with
    | true =>
      obtain ⟨a, rfl, _, _, c⟩ := r
      exact c.c
    | false => exact Rep.c r
  | slot i =>
    obtain ⟨h1, s, h2⟩ := r
    have h : (env.at i).map (·.2) = some d := h
    rw [h2] at h
    have : s.2 = d := Option.some.inj h
    subst this
    obtain ⟨u, e, q⟩ := m.slot i s h2
    rw [h1] at e; cases e
    unfold SlotR at q
    split at q
    · obtain ⟨a, rfl, _, c⟩ := q
      exact c.c
    · exact q.c
/-- more is frozen: all names' values stay -/
theorem SlotR.mono {s : SV} {v : V} (ho : OwOk Fz H (fun _ => False)) (hs : ∀ b, Fz b → Fz' b) (hn : ∀ a, v = .ref a → s.1.own = true → ¬ Fz' a) (r : SlotR G Fz H s v) : SlotR G Fz' H s v := by
  unfold SlotR at r ⊢
  split at r
  · rename_i h
    rw [if_pos h]
    obtain ⟨a, rfl, n, c⟩ := r
    exact ⟨a, rfl, hn a rfl h, c.keep (O := fun _ => False) Keep.refl ho hs (fun z => z)⟩
  · rename_i h
    rw [if_neg h]
    exact Rep.keep (O := fun _ => False) Keep.refl ho hs _ _ r
theorem owOk_false : OwOk Fz H (fun _ => False) := fun _ z => z.elim
theorem En.at_set {env : En} {i j : Nat} {o : Option SV} (hi : i < env.length) : En.at (env.set i o) j = if j = i then o else env.at j := by
  unfold En.at
  by_cases h : j = i
  · subst h
    rw [if_pos rfl, List.getElem?_set_self hi]
    rfl
  · rw [if_neg h, List.getElem?_set_ne (Ne.symm h)]
theorem En.at_lt {env : En} {i : Nat} {s : SV} (h : env.at i = some s) : i < env.length := by
  unfold En.at at h
  cases e : env[i]? with
  | none => rw [e] at h; cases h
  | some o => exact (List.getElem?_eq_some_iff.mp e).1
theorem En.frz_at {env : En} {i j : Nat} : (env.frz i).at j = if j = i then (env.at i).map fun s => (s.1.frz, s.2) else env.at j := by
  unfold En.frz
  cases e : env.at i with
  | none =>
    by_cases h : j = i
    · subst h; rw [if_pos rfl, e]; rfl
    · rw [if_neg h]
  | some s =>
    show En.at (env.set i (some (s.1.frz, s.2))) j = _
    rw [En.at_set (En.at_lt e)]
    rfl
theorem En.frz_length {env : En} {i : Nat} : (env.frz i).length = env.length := by
  unfold En.frz
  split
  · rw [List.length_set]
  · rfl
/-- a name's object is frozen -/
theorem Mt.frz (m : Mt G Fz σ H env) {i : Nat} {s : SV} {v : V} (h : env.at i = some s) (hv : σ[i]? = some (some v)) :
    ∃ Fz', Po G σ Fz H env Fz' H (env.frz i) ∧ Rep G Fz' H s.2 v := by
  obtain ⟨u, e, r⟩ := m.slot i s h
  rw [hv] at e; cases e
  by_cases ho : s.1.own = true
  · unfold SlotR at r
    rw [if_pos ho] at r
    obtain ⟨a, rfl, n, c⟩ := r
    have hs : ∀ b, Fz b → Fz b ∨ b = a := fun b => .inl
    have rep : Rep G (fun b => Fz b ∨ b = a) H s.2 (.ref a) := (c.keep (O := fun _ => False) Keep.refl owOk_false hs (fun z => z)).rep (.inr rfl)
    refine ⟨fun b => Fz b ∨ b = a, ⟨Keep.refl, hs, fun b z => z.elim .inl fun z => .inr (.inr ⟨i, s, h, ho, by rw [z]; exact hv⟩), ⟨by rw [En.frz_length]; exact m.len, fun j t hj => ?_, fun j l b t t' hj hl oj ol ej el => ?_, fun b z => ?_, m.tabs.mono hs⟩, fun j => ?_⟩, rep⟩
    · rw [En.frz_at] at hj
      by_cases hji : j = i
      · rw [if_pos hji, h] at hj
        cases hj
        subst hji
        refine ⟨_, hv, ?_⟩
        unfold SlotR
        rw [if_neg (by rw [Fl.frz_own]; exact Bool.false_ne_true)]
        exact rep
      · rw [if_neg hji] at hj
        obtain ⟨u, e, q⟩ := m.slot j t hj
        refine ⟨u, e, q.mono owOk_false hs fun b hb ob z => ?_⟩
        subst hb
        rcases z with z | z
        · unfold SlotR at q
          rw [if_pos ob] at q
          obtain ⟨b', e', n', _⟩ := q
          cases e'
          exact n' z
        · subst z
          exact hji (m.dis j i _ t s hj h ob ho e hv)
    · rw [En.frz_at] at hj hl
      split at hj
      · rw [h] at hj; cases hj
        rw [Fl.frz_own] at oj; cases oj
      · split at hl
        · rw [h] at hl; cases hl
          rw [Fl.frz_own] at ol; cases ol
        · exact m.dis j l b t t' hj hl oj ol ej el
    · rcases z with z | z
      · exact m.dom b z
      · subst z; exact c.there.imp fun _ h => h.1
    · rw [En.frz_at]
      split
      · rename_i e
        rw [e, h]; exact .inr rfl
      · exact FlO.refl _
  · have r' := r
    unfold SlotR at r'
    rw [if_neg ho] at r'
    refine ⟨Fz, ⟨Keep.refl, fun _ h => h, fun _ h => .inl h, ⟨by rw [En.frz_length]; exact m.len, fun j t hj => ?_, fun j l b t t' hj hl oj ol ej el => ?_, m.dom, m.tabs⟩, fun j => ?_⟩, r'⟩
    · rw [En.frz_at] at hj
      split at hj
      · rename_i hji
        rw [h] at hj; cases hj
        subst hji
        refine ⟨_, hv, ?_⟩
        unfold SlotR
        rw [if_neg (by rw [Fl.frz_own]; exact Bool.false_ne_true)]
        exact r'
      · exact m.slot j t hj
    · rw [En.frz_at] at hj hl
      split at hj
      · rw [h] at hj; cases hj
        rw [Fl.frz_own] at oj; cases oj
      · split at hl
        · rw [h] at hl; cases hl
          rw [Fl.frz_own] at ol; cases ol
        · exact m.dis j l b t t' hj hl oj ol ej el
    · rw [En.frz_at]
      split
      · rename_i e
        rw [e, h]; exact .inr rfl
      · exact FlO.refl _
/-- a temporary is frozen -/
theorem Mt.frzT (m : Mt G Fz σ H env) {a : Addr} {d : D} (n : ¬ Fz a) (no : ¬ Ow σ env a) (c : OwnC G Fz H a d) :
    Mt G (fun b => Fz b ∨ b = a) σ H env ∧ Rep G (fun b => Fz b ∨ b = a) H d (.ref a) := by
  have hs : ∀ b, Fz b → Fz b ∨ b = a := fun b => .inl
  refine ⟨⟨m.len, fun j t hj => ?_, m.dis, fun b z => ?_, m.tabs.mono hs⟩, (c.keep (O := fun _ => False) Keep.refl owOk_false hs (fun z => z)).rep (.inr rfl)⟩
  · obtain ⟨u, e, q⟩ := m.slot j t hj
    refine ⟨u, e, q.mono owOk_false hs fun b hb ob z => ?_⟩
    subst hb
    rcases z with z | z
    · unfold SlotR at q
      rw [if_pos ob] at q
      obtain ⟨b', e', n', _⟩ := q
      cases e'
      exact n' z
    · subst z
      exact no ⟨j, t, hj, ob, e⟩
  · rcases z with z | z
    · exact m.dom b z
    · subst z; exact c.there.imp fun _ h => h.1
end
end MP
set_option maxRecDepth 100000
set_option maxHeartbeats 2000000
/-! MP4: the readings of expressions. -/
namespace MP
open PySem PySem.Spec PyProof.Rows L2
/-- the error x lies so -/
def ExcR (G : Gx) (x : Str) (l : Option Int) (cls : Value) (d : Option Addr) (H : Hp) : Prop :=
  ∃ C, G.xa x = some C ∧ cls = .ref C ∧ match l with
    | none => d = none
    | some n => ∃ a, d = some a ∧ H a = some (.xd [("limit", .int n)])
/-- an outcome is wished for: R of the value and the names, or W of the error -/
def OP (G : Gx) (W : WX) (σ : L2.St) (Fz : Addr → Prop) (H : Hp) (env : En) {α : Type} (o : Out (α × En)) (R : α → En → Prop) : Prop := match o with
  | .ok r => R r.1 r.2
  | .exn x l e => ∀ cls d Fz' H', ExcR G x l cls d H' → Po G σ Fz H env Fz' H' e → W cls d σ H'
  | .fail => False
section
variable {G : Gx} {W : WX} {σ : L2.St} {Fz Fz1 Fz2 Fz' : Addr → Prop} {H H0 H1 H2 H' : Hp} {env env1 env2 env' : En} {α β : Type}
theorem OP.bind {x : Out (α × En)} {f : α × En → Out (β × En)} {R : β → En → Prop} (h : OP G W σ Fz H env (x.bind f) R) : OP G W σ Fz H env x (fun a e => OP G W σ Fz H env (f (a, e)) R) := by
  cases x with
  | ok r => exact h
  | exn x l e => exact h
  | fail => exact h.elim
theorem OP.base {o : Out (α × En)} {R : α → En → Prop} (m : Mt G Fz σ H env) (p : Po G σ Fz H env Fz1 H1 env1) (h : OP G W σ Fz H env o R) : OP G W σ Fz1 H1 env1 o R := by
  cases o with
  | ok r => exact h
  | exn x l e => exact fun cls d Fz' H' er q => h cls d Fz' H' er (p.trans m q)
  | fail => exact h.elim
theorem OP.imp {o : Out (α × En)} {R R' : α → En → Prop} (h : OP G W σ Fz H env o R) (k : ∀ a e, R a e → R' a e) : OP G W σ Fz H env o R' := by
  cases o with
  | ok r => exact k _ _ h
  | exn x l e => exact h
  | fail => exact h.elim
/-- what expressions in a row give -/
def Avs (G : Gx) (σ : L2.St) (H0 : Hp) (Fz : Addr → Prop) (H : Hp) (env : En) : List AV → List V → Prop
  | [], [] => True
  | a :: as, v :: vs => AvR G σ Fz H env a v ∧ Fre H0 a v ∧ (∀ (d : D) (x : Addr), a = .val true d → v = .ref x → ∀ (j : Nat) (e : D), as[j]? = some (.val true e) → vs[j]? ≠ some (.ref x)) ∧ Avs G σ H0 Fz H env as vs
  | _, _ => False
theorem Avs.keep (m : Mt G Fz σ H env) (p : Po G σ Fz H env Fz' H' env') : ∀ {as : List AV} {vs : List V}, Avs G σ H0 Fz H env as vs → Avs G σ H0 Fz' H' env' as vs
  | [], [], _ => trivial
  | a :: as, v :: vs, h => ⟨h.1.keep m p, h.2.1, h.2.2.1, Avs.keep m p h.2.2.2⟩
  | [], _ :: _, h => h.elim
  | _ :: _, [], h => h.elim
theorem Avs.get : ∀ {as : List AV} {vs : List V} {j : Nat} {a : AV}, Avs G σ H0 Fz H env as vs → as[j]? = some a → ∃ v, vs[j]? = some v ∧ AvR G σ Fz H env a v ∧ Fre H0 a v
  | [], [], _, _, _, e => by simp at e
  | a :: as, v :: vs, 0, b, h, e => by
    simp at e; subst e
    exact ⟨v, rfl, h.1, h.2.1⟩
  | a :: as, v :: vs, j + 1, b, h, e => by
    obtain ⟨u, e1, r⟩ := Avs.get (j := j) h.2.2.2 (by simpa using e)
    exact ⟨u, by simpa using e1, r⟩
  | [], _ :: _, _, _, h, _ => h.elim
  | _ :: _, [], _, _, h, _ => h.elim
/-- the contents in a row -/
def RepCs (G : Gx) (Fz : Addr → Prop) (H : Hp) : List D → List V → Prop := Paired fun d v => RepC G Fz H d v
theorem Avs.rds (m : Mt G Fz σ H env) : ∀ {as : List AV} {vs : List V} {ds : List D}, Avs G σ H0 Fz H env as vs → rds env as = some ds → RepCs G Fz H ds vs
  | [], [], ds, _, e => by cases e; exact .nil
  | a :: as, v :: vs, ds, h, e => by
    unfold MP.rds at e
    cases e1 : a.rd env with
    | none => rw [e1] at e; cases e
    | some d =>
      cases e2 : MP.rds env as with
      | none => rw [e1, e2] at e; cases e
      | some r =>
        rw [e1, e2] at e
        cases e
        exact .cons (h.1.rd m e1) (Avs.rds m h.2.2.2 e2)
  | [], _ :: _, _, h, _ => h.elim
  | _ :: _, [], _, h, _ => h.elim
/-- a value goes into another thing -/
theorem use_ok {Fz0 : Addr → Prop} {env0 : En} (m0 : Mt G Fz0 σ H0 env0) (p : Po G σ Fz0 H0 env0 Fz H env) {a : AV} {v : V} {d : D} (r : AvR G σ Fz H env a v) (f : Fre H0 a v) (h : a.use env = some (d, env')) :
    ∃ Fz', Po G σ Fz0 H0 env0 Fz' H env' ∧ Rep G Fz' H d v ∧ (∀ b, Fz b → Fz' b) ∧ (∀ b, Fz' b → Fz b ∨ (v = .ref b ∧ (∃ d, a = .val true d)) ∨ Ow σ env b) ∧ (∀ b, Ow σ env' b → Ow σ env b) ∧ ∀ i s, env.at i = some s → ∃ s', env'.at i = some s' := by
  cases a with
  | val own e =>
    have h : some (e, env) = some (d, env') := h
    cases h
    cases own with
    | false => exact ⟨Fz, p, r, fun _ h => h, fun _ h => .inl h, fun _ h => h, fun _ s h => ⟨s, h⟩⟩
    | true =>
      obtain ⟨x, rfl, n, no, c⟩ := r
      obtain ⟨m1, rp⟩ := p.mt.frzT n no c
      refine ⟨_, ⟨p.keep, fun b h => .inl (p.sub b h), fun b z => ?_, m1, p.fl⟩, rp, fun b => .inl, fun b z => ?_, fun _ h => h, fun _ s h => ⟨s, h⟩⟩
      · rcases z with z | z
        · exact p.new b z
        · rw [z]; exact .inr (.inl f)
      · rcases z with z | z
        · exact .inl z
        · rw [z]; exact .inr (.inl ⟨rfl, _, rfl⟩)
  | slot i =>
    obtain ⟨h1, s, h2⟩ := r
    have h : ((env.at i).map fun s => (s.2, env.frz i)) = some (d, env') := h
    rw [h2] at h
    cases h
    obtain ⟨Fz', q, rp⟩ := p.mt.frz h2 h1
    exact ⟨Fz', p.trans m0 q, rp, q.sub, fun b z => (q.new b z).elim .inl fun z => .inr (z.elim (fun z => by
      -- nothing new
      rcases q.new b ‹_› with w | w | w
      · exact .inr (by
          obtain ⟨o, ho⟩ := p.mt.dom b w
          rw [z] at ho; cases ho)
      · obtain ⟨o, ho⟩ := q.mt.dom b ‹_›
        rw [z] at ho; cases ho
      · exact .inr w) .inr), q.ow, q.sl⟩
theorem uses_ok {Fz0 : Addr → Prop} {env0 : En} (m0 : Mt G Fz0 σ H0 env0) : ∀ {as : List AV} {vs : List V} {ds : List D} {Fz : Addr → Prop} {env : En}, Po G σ Fz0 H0 env0 Fz H env → Avs G σ H0 Fz H env as vs → uses env as = some (ds, env') →
    ∃ Fz', Po G σ Fz0 H0 env0 Fz' H env' ∧ Reps G Fz' H ds vs ∧ (∀ b, Fz b → Fz' b)
  | [], [], ds, Fz, env, p, _, e => by cases e; exact ⟨Fz, p, .nil, fun _ h => h⟩
  | a :: as, v :: vs, ds, Fz, env, p, h, e => by
    unfold uses at e
    cases e1 : a.use env with
    | none => rw [e1] at e; cases e
    | some r1 =>
      obtain ⟨d, e2⟩ := r1
      rw [e1] at e
      simp only at e
      cases e3 : uses e2 as with
      | none => rw [e3] at e; cases e
      | some r2 =>
        obtain ⟨dr, e4⟩ := r2
        rw [e3] at e
        cases e
        obtain ⟨Fz1, p1, rp, sub, new, ow, sl⟩ := use_ok m0 p h.1 h.2.1 e1
        have rest : Avs G σ H0 Fz1 H e2 as vs := by
          have key : ∀ {bs : List AV} {us : List V}, (∀ (j : Nat) (e : D) (x : Addr), bs[j]? = some (.val true e) → us[j]? = some (.ref x) → ¬ Fz1 x) → Avs G σ H0 Fz H env bs us → Avs G σ H0 Fz1 H e2 bs us := by
            intro bs
            induction bs with
            | nil => intro us _ q; cases us with | nil => trivial | cons _ _ => exact q.elim
            | cons b bs ih =>
              intro us hx q
              cases us with
              | nil => exact q.elim
              | cons u us =>
                refine ⟨?_, q.2.1, q.2.2.1, ih (fun j e x h1 h2 => hx (j + 1) e x (by simpa using h1) (by simpa using h2)) q.2.2.2⟩
                have q1 := q.1
                cases b with
                | slot i =>
                  obtain ⟨k1, s, k2⟩ := q1
                  exact ⟨k1, sl i s k2⟩
                | val own e =>
                  cases own with
                  | false => exact Rep.keep (O := fun _ => False) Keep.refl owOk_false sub _ _ q1
                  | true =>
                    obtain ⟨x, e', n, no, c⟩ := q1
                    exact ⟨x, e', hx 0 e x rfl (by rw [e']; rfl), fun z => no (ow _ z), c.keep (O := fun _ => False) Keep.refl owOk_false sub (fun z => z)⟩
          refine key (fun j e x h1 h2 z => ?_) h.2.2.2
          obtain ⟨u, g1, g2, _⟩ := Avs.get h.2.2.2 h1
          rw [h2] at g1; cases g1
          obtain ⟨y, ey, n, no, c⟩ := g2
          cases ey
          rcases new _ z with w | ⟨w, d', hd⟩ | w
          · exact n w
          · exact h.2.2.1 d' _ hd w j e h1 h2
          · exact no w
        obtain ⟨Fz', q, rs, sub'⟩ := uses_ok m0 p1 rest e3
        refine ⟨Fz', q, .cons ?_ rs, fun b z => sub' b (sub b z)⟩
        exact Rep.keep (O := fun _ => False) Keep.refl owOk_false sub' _ _ rp
  | [], _ :: _, _, _, _, _, h, _ => h.elim
  | _ :: _, [], _, _, _, _, h, _ => h.elim
end
section
variable (G : Gx) (cf : CF) (cl : Nat → LF → List SV → Out (SV × List SV)) (lf : Option LF) (W : WX)
/-- the reading of an expression -/
def rd (ex : Ex) : TE := fun σ H Q => ∃ Fz env, Mt G Fz σ H env ∧ OP G W σ Fz H env (evA cf cl lf ex env) fun av env' => ∀ v Fz' H', Po G σ Fz H env Fz' H' env' → AvR G σ Fz' H' env' av v → Fre H av v → Q v H'
def rdAs (es : Exs) : TA := fun σ H Q => ∃ Fz env, Mt G Fz σ H env ∧ OP G W σ Fz H env (evAs cf cl lf es env) fun avs env' => ∀ vs Fz' H', Po G σ Fz H env Fz' H' env' → Avs G σ H Fz' H' env' avs vs → Q vs H'
/-- .. of a test -/
def rdT (ex : Ex) : TT := fun σ H Q => ∃ Fz env, Mt G Fz σ H env ∧ OP G W σ Fz H env (evT cf cl lf ex env) fun b env' => ∀ Fz' H', Po G σ Fz H env Fz' H' env' → Q b H'
end
theorem _root_.L2.PE.imp {X : Cx} {e : Expr} {t t' : TE} (h : PE X e t) (k : ∀ σ H Q, t' σ H Q → t σ H Q) : PE X e t' := ⟨fun pins s σ H Q I q => h.run pins s σ H Q I (k σ H Q q)⟩
theorem _root_.L2.PT.imp {X : Cx} {e : Expr} {t t' : TT} (h : PT X e t) (k : ∀ σ H Q, t' σ H Q → t σ H Q) : PT X e t' := ⟨fun pins s σ H Q I q => h.run pins s σ H Q I (k σ H Q q)⟩
theorem _root_.L2.PW.imp {X : Cx} {e : Expr} {t t' : TT} (h : PW X e t) (k : ∀ σ H Q, t' σ H Q → t σ H Q) : PW X e t' := ⟨fun wh pins s σ H Q I q => h.run wh pins s σ H Q I (k σ H Q q)⟩
theorem _root_.L2.PA.imp {X : Cx} {es : List Expr} {t t' : TA} (h : PA X es t) (k : ∀ σ H Q, t' σ H Q → t σ H Q) : PA X es t' := ⟨fun pos pins s σ H Q I q => h.run pos pins s σ H Q I (k σ H Q q)⟩
theorem _root_.L2.PS.imp {X : Cx} {st : Stmt} {t t' : TS} (h : PS X st t) (k : ∀ D σ H, t' D σ H → t D σ H) : PS X st t' := ⟨fun pins s σ H D I q => h.run pins s σ H D I (k D σ H q)⟩
theorem _root_.L2.PSs.imp {X : Cx} {st : List Stmt} {t t' : TS} (h : PSs X st t) (k : ∀ D σ H, t' D σ H → t D σ H) : PSs X st t' := ⟨fun pins s σ H D I q => h.run pins s σ H D I (k D σ H q)⟩
theorem _root_.L2.PI.imp {X : Cx} {tg it : Expr} {t t' : TI} (h : PI X tg it t) (k : ∀ σ H R, t' σ H R → t σ H R) : PI X tg it t' := ⟨fun pins s σ H R I q => h.run pins s σ H R I (k σ H R q)⟩
end MP
set_option maxRecDepth 100000
set_option maxHeartbeats 2000000
/-! MP5: expressions by their parts. -/
namespace MP
open PySem PySem.Spec PyProof.Rows L2
/-- behind an operation: all that stood stands; a new own object, or a value -/
def ResP (G : Gx) (Fz : Addr → Prop) (H H' : Hp) (own : Bool) (r : D) (z : V) : Prop :=
  (∀ b o, H b = some o → H' b = some o) ∧ match own with
    | true => ∃ a, z = .ref a ∧ H a = none ∧ OwnC G Fz H' a r
    | false => Rep G Fz H' r z
section
variable {G : Gx} {W : WX} {σ : L2.St} {Fz Fz1 Fz2 Fz' : Addr → Prop} {H H0 H1 H2 H' : Hp} {env env1 env2 env' : En} {α β : Type}
theorem same_keep (e : ∀ b o, H b = some o → H' b = some o) {O : Addr → Prop} : Keep O H H' := ⟨fun b o h _ _ => e b o h, fun b ps h _ => ⟨ps, e b _ h⟩, fun b o h => ⟨o, e b o h⟩⟩
theorem Mt.same (m : Mt G Fz σ H env) (e : ∀ b o, H b = some o → H' b = some o) : Mt G Fz σ H' env := by
  refine ⟨m.len, fun i s h => ?_, m.dis, fun b z => ?_, m.tabs.same e⟩
  · obtain ⟨v, hv, r⟩ := m.slot i s h
    refine ⟨v, hv, ?_⟩
    unfold SlotR at r ⊢
    split at r
    · rename_i ho
      rw [if_pos ho]
      obtain ⟨a, rfl, n, c⟩ := r
      exact ⟨a, rfl, n, c.keep (O := fun _ => False) (same_keep e) owOk_false (fun _ h => h) (fun z => z)⟩
    · rename_i ho
      rw [if_neg ho]
      exact Rep.keep (O := fun _ => False) (same_keep e) owOk_false (fun _ h => h) _ _ r
  · obtain ⟨o, ho⟩ := m.dom b z
    exact ⟨o, e b o ho⟩
theorem Po.same (m : Mt G Fz σ H env) (e : ∀ b o, H b = some o → H' b = some o) : Po G σ Fz H env Fz H' env :=
  ⟨same_keep e, fun _ h => h, fun _ h => .inl h, m.same e, fun _ => FlO.refl _⟩
theorem ResP.po (m : Mt G Fz σ H env) {own : Bool} {r : D} {z : V} (h : ResP G Fz H H' own r z) : Po G σ Fz H env Fz H' env ∧ AvR G σ Fz H' env (.val own r) z ∧ Fre H (.val own r) z := by
  refine ⟨Po.same m h.1, ?_⟩
  cases own with
  | false => exact ⟨h.2, trivial⟩
  | true =>
    obtain ⟨a, rfl, n, c⟩ := h.2
    refine ⟨⟨a, rfl, fun z => ?_, fun z => ?_, c⟩, n⟩
    · obtain ⟨o, ho⟩ := m.dom a z
      rw [n] at ho; cases ho
    · obtain ⟨_, o, ho, _⟩ := m.owOk a z
      rw [n] at ho; cases ho
theorem OP.ret {a : α} {e : En} {R : α → En → Prop} (h : OP G W σ Fz H env (.ok (a, e)) R) : R a e := h
end
/-- an operator by values -/
def rOp (G : Gx) (o : Op2) : R2 := fun x y H Q => ∃ Fz d e own r, (∀ b, Fz b → ∃ o, H b = some o) ∧ RepC G Fz H d x ∧ RepC G Fz H e y ∧ op2 o d e = some (own, r) ∧ ∀ z H', ResP G Fz H H' own r z → Q z H'
def rBi (G : Gx) (b : Bi) : List V → Hp → VK → Prop := fun vs H Q => ∃ Fz ds own r, (∀ b, Fz b → ∃ o, H b = some o) ∧ RepCs G Fz H ds vs ∧ bi b ds = some (own, r) ∧ ∀ z H', ResP G Fz H H' own r z → Q z H'
section
variable {G : Gx} {cf : CF} {cl : Nat → LF → List SV → Out (SV × List SV)} {lf : Option LF} {W : WX} {X : Cx} {pos : Pos}
theorem me_var {i : Nat} {x : Str} (h : PE X (.Name x pos) (tVar i)) : PE X (.Name x pos) (rd G cf cl lf W (.var i)) := h.imp fun σ H Q ⟨Fz, env, m, q⟩ => by
  unfold evA at q
  cases e : env.at i with
  | none => rw [e] at q; exact q.elim
  | some s =>
    obtain ⟨fl, d⟩ := s
    rw [e] at q
    obtain ⟨v, hv, r⟩ := m.slot i _ e
    refine ⟨v, hv, ?_⟩
    by_cases ho : fl.own = true
    · simp only [if_pos ho] at q
      exact q v Fz H (Po.refl m) ⟨hv, _, e⟩ trivial
    · simp only [if_neg ho] at q
      unfold SlotR at r
      rw [if_neg ho] at r
      exact q v Fz H (Po.refl m) r trivial
theorem me_cst {e : Expr} {d : D} {v : V} (h : PE X e (tC v)) (hr : ∀ Fz H, Rep G Fz H d v) : PE X e (rd G cf cl lf W (.cst d)) := h.imp fun σ H Q ⟨Fz, env, m, q⟩ => by
  unfold evA at q
  exact q v Fz H (Po.refl m) (hr Fz H) trivial
/-- two in a row -/
theorem rd2 {ea eb : Ex} {σ : L2.St} {H : Hp} {Fz : Addr → Prop} {env : En} {α : Type} {k : AV → AV → En → Out (α × En)} {R : α → En → Prop} {T : V → V → Hp → Prop} (m : Mt G Fz σ H env)
    (q : OP G W σ Fz H env ((evA cf cl lf ea env).bind fun r => (evA cf cl lf eb r.2).bind fun r' => k r.1 r'.1 r'.2) R)
    (fin : ∀ a b x y Fz' H' env', Po G σ Fz H env Fz' H' env' → Avs G σ H Fz' H' env' [a, b] [x, y] → OP G W σ Fz H env (k a b env') R → T x y H') :
    rd G cf cl lf W ea σ H fun x H1 => rd G cf cl lf W eb σ H1 fun y H2 => T x y H2 := by
  refine ⟨Fz, env, m, q.bind.imp fun av env1 q1 v Fz1 H1 p1 r1 f1 => ⟨Fz1, env1, p1.mt, (OP.base m p1 q1.bind).imp fun bv env2 q2 u Fz2 H2 p2 r2 f2 => ?_⟩⟩
  have p := p1.trans m p2
  refine fin av bv v u Fz2 H2 env2 p ⟨r1.keep p1.mt p2, f1, fun d x e1 e2 j e he hx => ?_, r2, Fre.of p1.keep f2, fun d x _ _ j e he => by simp at he, trivial⟩ q2
  subst e1 e2
  cases j with
  | succ j => simp at he
  | zero =>
    simp at he hx
    subst he hx
    have h1 : H1 x = none := f2
    obtain ⟨a, ea, _, _, c⟩ := r1
    cases ea
    obtain ⟨o, ho, _⟩ := c.there
    rw [h1] at ho; cases ho
theorem me_op {e : Expr} {ea eb : Ex} {o : Op2} (h : PE X e (tOp (rOp G o) (rd G cf cl lf W ea) (rd G cf cl lf W eb))) : PE X e (rd G cf cl lf W (.op o ea eb)) := h.imp fun σ H Q ⟨Fz, env, m, q⟩ => by
  unfold evA at q
  refine rd2 (k := kOp o) m q fun a b x y Fz' H' env' p r q => ?_
  unfold kOp at q
  cases h1 : a.rd env' with
  | none => rw [h1] at q; exact q.elim
  | some d =>
    cases h2 : b.rd env' with
    | none => rw [h1, h2] at q; exact q.elim
    | some e =>
      rw [h1, h2] at q
      simp only at q
      cases h3 : op2 o d e with
      | none => rw [h3] at q; exact q.elim
      | some z =>
        obtain ⟨own, w⟩ := z
        rw [h3] at q
        refine ⟨Fz', d, e, own, w, p.mt.dom, r.1.rd p.mt h1, r.2.2.2.1.rd p.mt h2, h3, fun z H2 rp => ?_⟩
        obtain ⟨p2, r2, f2⟩ := rp.po p.mt
        exact OP.ret q z Fz' H2 (p.trans m p2) r2 (f2.of p.keep)
end
end MP
set_option maxRecDepth 100000
set_option maxHeartbeats 2000000
/-! MP6: further expressions by their parts; tests. -/
namespace MP
open PySem PySem.Spec PyProof.Rows L2
section
variable {G : Gx} {cf : CF} {cl : Nat → LF → List SV → Out (SV × List SV)} {lf : Option LF} {W : WX} {X : Cx} {pos : Pos}
theorem ma_nil : PA X [] (rdAs G cf cl lf W .nil) := pa_nil.imp fun σ H Q ⟨Fz, env, m, q⟩ => by
  unfold evAs at q
  exact q [] Fz H (Po.refl m) trivial
theorem ma_cons {e : Expr} {es : List Expr} {ex : Ex} {exs : Exs} (he : PE X e (rd G cf cl lf W ex)) (hr : PA X es (rdAs G cf cl lf W exs)) (hs : starEach (e :: es) X.env = (false, eval e X.env) :: starEach es X.env) :
    PA X (e :: es) (rdAs G cf cl lf W (.cons ex exs)) := (pa_cons he hr hs).imp fun σ H Q ⟨Fz, env, m, q⟩ => by
  unfold evAs at q
  refine ⟨Fz, env, m, q.bind.imp fun av env1 q1 v Fz1 H1 p1 r1 f1 => ⟨Fz1, env1, p1.mt, (OP.base m p1 q1.bind).imp fun avs env2 q2 vs Fz2 H2 p2 r2 => ?_⟩⟩
  refine q2 (v :: vs) Fz2 H2 (p1.trans m p2) ⟨r1.keep p1.mt p2, f1, fun d x e1 e2 j e he hx => ?_, ?_⟩
  · subst e1 e2
    obtain ⟨u, g1, _, g3⟩ := Avs.get r2 he
    rw [hx] at g1; cases g1
    have h1 : H1 x = none := g3
    obtain ⟨a, ea, _, _, c⟩ := r1
    cases ea
    obtain ⟨o, ho, _⟩ := c.there
    rw [h1] at ho; cases ho
  · have key : ∀ {as : List AV} {us : List V}, Avs G σ H1 Fz2 H2 env2 as us → Avs G σ H Fz2 H2 env2 as us := by
      intro as
      induction as with
      | nil => intro us h; cases us with | nil => trivial | cons _ _ => exact h.elim
      | cons a as ih =>
        intro us h
        cases us with
        | nil => exact h.elim
        | cons u us => exact ⟨h.1, Fre.of p1.keep h.2.1, h.2.2.1, ih h.2.2.2⟩
    exact key r2
theorem me_bi {e : Expr} {es : Exs} {b : Bi} (h : PE X e (tCB (rBi G b) (rdAs G cf cl lf W es))) : PE X e (rd G cf cl lf W (.bi b es)) := h.imp fun σ H Q ⟨Fz, env, m, q⟩ => by
  unfold evA at q
  refine ⟨Fz, env, m, q.bind.imp fun avs env1 q1 vs Fz1 H1 p1 r1 => ?_⟩
  have q1 : OP G W σ Fz H env (kBi b avs env1) _ := q1
  unfold kBi at q1
  cases h1 : rds env1 avs with
  | none => rw [h1] at q1; exact q1.elim
  | some ds =>
    rw [h1] at q1
    simp only at q1
    cases h2 : bi b ds with
    | none => rw [h2] at q1; exact q1.elim
    | some z =>
      obtain ⟨own, w⟩ := z
      rw [h2] at q1
      refine ⟨Fz1, ds, own, w, p1.mt.dom, Avs.rds p1.mt r1 h1, h2, fun z H2 rp => ?_⟩
      obtain ⟨p2, r2, f2⟩ := rp.po p1.mt
      exact OP.ret q1 z Fz1 H2 (p1.trans m p2) r2 (f2.of p1.keep)
/-- a new thing beside -/
theorem upd_same_of {H : Hp} {p : Addr} {o : HO} (n : H p = none) : ∀ b u, H b = some u → upd H p o b = some u := fun b u e => by rw [upd_ne (ne_of_none e n)]; exact e
def Exs.len : Exs → Nat
  | .nil => 0
  | .cons _ r => r.len + 1
theorem evAs_len : ∀ (es : Exs) {env : En} {r : List AV × En}, evAs cf cl lf es env = .ok r → r.1.length = es.len
  | .nil, env, r, h => by unfold evAs at h; cases h; rfl
  | .cons e es, env, r, h => by
    unfold evAs at h
    cases h1 : evA cf cl lf e env with
    | exn x l e' => rw [h1] at h; cases h
    | fail => rw [h1] at h; cases h
    | ok r1 =>
      rw [h1] at h
      have h : ((evAs cf cl lf es r1.2).bind fun r' => Out.ok (r1.1 :: r'.1, r'.2)) = .ok r := h
      cases h2 : evAs cf cl lf es r1.2 with
      | exn x l e' => rw [h2] at h; cases h
      | fail => rw [h2] at h; cases h
      | ok r2 =>
        rw [h2] at h
        have h : Out.ok (r1.1 :: r2.1, r2.2) = .ok r := h
        cases h
        show r2.1.length + 1 = es.len + 1
        rw [evAs_len es h2]
theorem Avs.length {σ : L2.St} {H0 H : Hp} {Fz : Addr → Prop} {env : En} : ∀ {as : List AV} {vs : List V}, Avs G σ H0 Fz H env as vs → vs.length = as.length
  | [], [], _ => rfl
  | _ :: _, _ :: _, h => by simp [Avs.length h.2.2.2]
  | [], _ :: _, h => h.elim
  | _ :: _, [], h => h.elim
theorem small_line {n : Nat} (h : n ≤ 1000) : n ≤ sizeLine := Nat.le_trans h (by rw [sizeLine_eq]; decide)
/-- the parts' values and how many they are -/
theorem OP.len {σ : L2.St} {H : Hp} {Fz : Addr → Prop} {env : En} {es : Exs} {R : List AV → En → Prop} (h : OP G W σ Fz H env (evAs cf cl lf es env) R) : OP G W σ Fz H env (evAs cf cl lf es env) (fun as e => as.length = es.len ∧ R as e) := by
  cases e : evAs cf cl lf es env with
  | ok r => rw [e] at h; exact ⟨evAs_len es e, h⟩
  | exn x l e' => rw [e] at h; exact h
  | fail => rw [e] at h; exact h.elim
theorem me_tup {es : List Expr} {exs : Exs} {x1} (h : PA X es (rdAs G cf cl lf W exs)) (hl : exs.len ≤ 1000) : PE X (.Tuple es x1 pos) (rd G cf cl lf W (.tup exs)) := (pe_tup h).imp fun σ H Q ⟨Fz, env, m, q⟩ => by
  unfold evA at q
  refine ⟨Fz, env, m, q.bind.len.imp fun avs env1 ⟨hn, q1⟩ vs Fz1 H1 p1 r1 => ⟨small_line (by rw [r1.length, hn]; exact hl), fun p np => ?_⟩⟩
  have q1 : OP G W σ Fz H env (kTup avs env1) _ := q1
  unfold kTup at q1
  cases h1 : uses env1 avs with
  | none => rw [h1] at q1; exact q1.elim
  | some z =>
    obtain ⟨ds, e'⟩ := z
    rw [h1] at q1
    obtain ⟨Fz2, p2, rs, _⟩ := uses_ok m p1 r1 h1
    have e := upd_same_of (o := .tup vs) np
    have p3 := p2.trans m (Po.same p2.mt e)
    exact OP.ret q1 (.ref p) Fz2 _ p3 (Rep.tup (.of upd_same) (Reps.keep (O := fun _ => False) (same_keep e) owOk_false (fun _ h => h) _ _ rs)) trivial
theorem me_lst {es : List Expr} {exs : Exs} (h : PA X es (rdAs G cf cl lf W exs)) (hl : exs.len ≤ 1000) : PE X (.List es pos) (rd G cf cl lf W (.lst exs)) := (pe_lst h).imp fun σ H Q ⟨Fz, env, m, q⟩ => by
  unfold evA at q
  refine ⟨Fz, env, m, q.bind.len.imp fun avs env1 ⟨hn, q1⟩ vs Fz1 H1 p1 r1 => ⟨small_line (by rw [r1.length, hn]; exact hl), fun p np => ?_⟩⟩
  have q1 : OP G W σ Fz H env (kLst avs env1) _ := q1
  unfold kLst at q1
  cases h1 : uses env1 avs with
  | none => rw [h1] at q1; exact q1.elim
  | some z =>
    obtain ⟨ds, e'⟩ := z
    rw [h1] at q1
    obtain ⟨Fz2, p2, rs, _⟩ := uses_ok m p1 r1 h1
    have e := upd_same_of (o := .lst vs) np
    have rp : ResP G Fz2 H1 (upd H1 p (.lst vs)) true (.lst ds) (.ref p) := ⟨e, p, rfl, np, vs, upd_same, Reps.keep (O := fun _ => False) (same_keep e) owOk_false (fun _ h => h) _ _ rs⟩
    obtain ⟨p3, r3, f3⟩ := rp.po p2.mt
    exact OP.ret q1 (.ref p) Fz2 _ (p2.trans m p3) r3 (f3.of p2.keep)
/-! ### slices -/
/-- a slice by values -/
def rSl (G : Gx) : V → Option Int → Option Int → Hp → VK → Prop := fun x lo hi H Q => ∃ Fz d own r, (∀ b, Fz b → ∃ o, H b = some o) ∧ RepC G Fz H d x ∧ cutD d lo hi = some (own, r) ∧ ∀ z H', ResP G Fz H H' own r z → Q z H'
def rdP (G : Gx) (cf : CF) (cl : Nat → LF → List SV → Out (SV × List SV)) (lf : Option LF) (W : WX) (es : Exs) : TO := fun σ H Q => ∃ Fz env, Mt G Fz σ H env ∧ OP G W σ Fz H env (evP cf cl lf es env) fun o env' => ∀ Fz' H', Po G σ Fz H env Fz' H' env' → Q o H'
theorem _root_.L2.PO.imp {X : Cx} {e : Option Expr} {t t' : TO} (h : PO X e t) (k : ∀ σ H Q, t' σ H Q → t σ H Q) : PO X e t' := ⟨fun pins s σ H Q I q => h.run pins s σ H Q I (k σ H Q q)⟩
theorem mp_nil : PO X none (rdP G cf cl lf W .nil) := po_none.imp fun σ H Q ⟨Fz, env, m, q⟩ => by
  unfold evP at q
  exact q Fz H (Po.refl m)
theorem repC_int {Fz : Addr → Prop} {H : Hp} {i : Int} {v : V} (h : RepC G Fz H (.int i) v) : v = .int i := by
  cases (show Rep G Fz H (.int i) v from h); rfl
theorem repC_bl {Fz : Addr → Prop} {H : Hp} {b : Bool} {v : V} (h : RepC G Fz H (.bl b) v) : v = .bl b := by
  cases (show Rep G Fz H (.bl b) v from h); rfl
theorem repC_str {Fz : Addr → Prop} {H : Hp} {x : Str} {v : V} (h : RepC G Fz H (.str x) v) : v = .str x ∧ sOk x = true := by
  cases (show Rep G Fz H (.str x) v from h) with
  | str _ e => exact ⟨rfl, e⟩
theorem repC_tup {Fz : Addr → Prop} {H : Hp} {ds : List D} {v : V} (h : RepC G Fz H (.tup ds) v) : ∃ a xs, v = .ref a ∧ SqT G.K H a xs ∧ Reps G Fz H ds xs := by
  cases (show Rep G Fz H (.tup ds) v from h) with
  | tup h1 h2 => exact ⟨_, _, rfl, h1, h2⟩
theorem mp_some {e : Expr} {ex : Ex} (h : PE X e (rd G cf cl lf W ex)) : PO X (some e) (rdP G cf cl lf W (.cons ex .nil)) := (po_some h).imp fun σ H Q ⟨Fz, env, m, q⟩ => by
  unfold evP at q
  refine ⟨Fz, env, m, q.bind.imp fun av env1 q1 v Fz1 H1 p1 r1 f1 => ?_⟩
  have q1 : OP G W σ Fz H env (kPart av env1) _ := q1
  unfold kPart at q1
  cases h1 : av.rd env1 with
  | none => rw [h1] at q1; exact q1.elim
  | some d =>
    rw [h1] at q1
    cases d with
    | int i => exact ⟨i, repC_int (r1.rd p1.mt h1), OP.ret q1 Fz1 H1 p1⟩
    | _ => exact q1.elim
theorem me_slc {e : Expr} {ea : Ex} {lo hi : Option Expr} {xl xh : Exs} {p2 : Pos} (hr : SlR X (rSl G)) (he : PE X e (rd G cf cl lf W ea)) (hl : PO X lo (rdP G cf cl lf W xl)) (hh : PO X hi (rdP G cf cl lf W xh)) :
    PE X (.Subscript e (.Slice lo hi none p2) pos) (rd G cf cl lf W (.slc ea xl xh)) := (pe_slice hr he hl hh).imp fun σ H Q ⟨Fz, env, m, q⟩ => by
  unfold evA at q
  refine ⟨Fz, env, m, q.bind.imp fun av env1 q1 v Fz1 H1 p1 r1 f1 => ⟨Fz1, env1, p1.mt, (OP.base m p1 q1.bind).imp fun l env2 q2 Fz2 H2 p2 => ⟨Fz2, env2, p2.mt, (OP.base p1.mt p2 (OP.base m p1 (OP.bind q2))).imp fun h env3 q3 Fz3 H3 p3 => ?_⟩⟩⟩
  have p := (p1.trans m p2).trans m p3
  have r := (r1.keep p1.mt p2).keep p2.mt p3
  have q3 : OP G W σ Fz H env (kSlc av l h env3) _ := q3
  unfold kSlc at q3
  cases h1 : av.rd env3 with
  | none => rw [h1] at q3; exact q3.elim
  | some d =>
    rw [h1] at q3
    simp only at q3
    cases h2 : cutD d l h with
    | none => rw [h2] at q3; exact q3.elim
    | some z =>
      obtain ⟨own, w⟩ := z
      rw [h2] at q3
      refine ⟨Fz3, d, own, w, p3.mt.dom, r.rd p3.mt h1, h2, fun z H4 rp => ?_⟩
      obtain ⟨p4, r4, f4⟩ := rp.po p3.mt
      exact OP.ret q3 z Fz3 H4 (p.trans m p4) r4 (f4.of p.keep)
/-! ### tests, and, or, not -/
theorem OP.bool {σ : L2.St} {H : Hp} {Fz : Addr → Prop} {env env1 : En} {av : AV} {v : V} {Fz1 : Addr → Prop} {H1 : Hp} {R : Bool → En → Prop} (h : OP G W σ Fz H env (Out.bool av env1) R) (m : Mt G Fz1 σ H1 env1) (r : AvR G σ Fz1 H1 env1 av v) : ∃ b, v = .bl b ∧ R b env1 := by
  unfold Out.bool at h
  cases h1 : av.rd env1 with
  | none => rw [h1] at h; exact h.elim
  | some d =>
    rw [h1] at h
    cases d with
    | bl b => exact ⟨b, repC_bl (r.rd m h1), h⟩
    | _ => exact h.elim
/-- an expression as a test -/
theorem mt_val {e : Expr} {ex : Ex} (h : PE X e (rd G cf cl lf W ex)) (he : ∀ whole, isTrue e X.env whole = (do let v ← whole; standAt e.pos; holding [v] (truthy v))) : PT X e (rdT G cf cl lf W ex) := (pt_val h he).imp fun σ H Q ⟨Fz, env, m, q⟩ => by
  unfold evT at q
  refine ⟨Fz, env, m, q.bind.imp fun av env1 q1 v Fz1 H1 p1 r1 f1 => ?_⟩
  obtain ⟨b, hb, q2⟩ := OP.bool q1 p1.mt r1
  exact ⟨b, hb, q2 Fz1 H1 p1⟩
theorem mt_op {e : Expr} {ea eb : Ex} {o : Op2} (h : PT X e (tTest (tOp (rOp G o) (rd G cf cl lf W ea) (rd G cf cl lf W eb)))) : PT X e (rdT G cf cl lf W (.op o ea eb)) := h.imp fun σ H Q ⟨Fz, env, m, q⟩ => by
  unfold evT at q
  have q := q.bind
  unfold evA at q
  refine rd2 (k := kOp o) m q fun a b x y Fz' H' env' p r q => ?_
  unfold kOp at q
  cases h1 : a.rd env' with
  | none => rw [h1] at q; exact q.elim
  | some d =>
    cases h2 : b.rd env' with
    | none => rw [h1, h2] at q; exact q.elim
    | some e =>
      rw [h1, h2] at q
      simp only at q
      cases h3 : op2 o d e with
      | none => rw [h3] at q; exact q.elim
      | some z =>
        obtain ⟨own, w⟩ := z
        rw [h3] at q
        refine ⟨Fz', d, e, own, w, p.mt.dom, r.1.rd p.mt h1, r.2.2.2.1.rd p.mt h2, h3, fun z H2 rp => ?_⟩
        obtain ⟨p2, r2, f2⟩ := rp.po p.mt
        obtain ⟨c, hc, q3⟩ := OP.bool (OP.ret q) p2.mt r2
        exact ⟨c, hc, q3 Fz' H2 (p.trans m p2)⟩
/-- what evA gives of and, or, not, as tests -/
theorem evT_and (a b : Ex) (env : En) : evT cf cl lf (.and a b) env = (evT cf cl lf a env).bind fun t => if t.1 then evT cf cl lf b t.2 else .ok (false, t.2) := by
  unfold evT
  rw [evA]
  cases evA cf cl lf a env with
  | exn x l e => rfl
  | fail => rfl
  | ok r =>
    show (((Out.bool r.1 r.2).bind fun t => if t.1 = true then (evA cf cl lf b t.2).bind fun r' => (Out.bool r'.1 r'.2).bind fun t' => kNot t'.1 t'.2 else kNot false t.2).bind fun r => Out.bool r.1 r.2) = (Out.bool r.1 r.2).bind fun t => if t.1 = true then (evA cf cl lf b t.2).bind fun r => Out.bool r.1 r.2 else .ok (false, t.2)
    cases Out.bool r.1 r.2 with
    | exn x l e => rfl
    | fail => rfl
    | ok t =>
      obtain ⟨t, e⟩ := t
      cases t with
      | false => rfl
      | true =>
        show (((evA cf cl lf b e).bind fun r' => (Out.bool r'.1 r'.2).bind fun t' => kNot t'.1 t'.2).bind fun r => Out.bool r.1 r.2) = (evA cf cl lf b e).bind fun r => Out.bool r.1 r.2
        cases evA cf cl lf b e with
        | exn x l e => rfl
        | fail => rfl
        | ok r' =>
          show (((Out.bool r'.1 r'.2).bind fun t' => kNot t'.1 t'.2).bind fun r => Out.bool r.1 r.2) = Out.bool r'.1 r'.2
          cases Out.bool r'.1 r'.2 with
          | exn x l e => rfl
          | fail => rfl
          | ok t => rfl
theorem evT_or (a b : Ex) (env : En) : evT cf cl lf (.or a b) env = (evT cf cl lf a env).bind fun t => if t.1 then .ok (true, t.2) else evT cf cl lf b t.2 := by
  unfold evT
  rw [evA]
  cases evA cf cl lf a env with
  | exn x l e => rfl
  | fail => rfl
  | ok r =>
    show (((Out.bool r.1 r.2).bind fun t => if t.1 = true then kNot true t.2 else (evA cf cl lf b t.2).bind fun r' => (Out.bool r'.1 r'.2).bind fun t' => kNot t'.1 t'.2).bind fun r => Out.bool r.1 r.2) = (Out.bool r.1 r.2).bind fun t => if t.1 = true then .ok (true, t.2) else (evA cf cl lf b t.2).bind fun r => Out.bool r.1 r.2
    cases Out.bool r.1 r.2 with
    | exn x l e => rfl
    | fail => rfl
    | ok t =>
      obtain ⟨t, e⟩ := t
      cases t with
      | true => rfl
      | false =>
        show (((evA cf cl lf b e).bind fun r' => (Out.bool r'.1 r'.2).bind fun t' => kNot t'.1 t'.2).bind fun r => Out.bool r.1 r.2) = (evA cf cl lf b e).bind fun r => Out.bool r.1 r.2
        cases evA cf cl lf b e with
        | exn x l e => rfl
        | fail => rfl
        | ok r' =>
          show (((Out.bool r'.1 r'.2).bind fun t' => kNot t'.1 t'.2).bind fun r => Out.bool r.1 r.2) = Out.bool r'.1 r'.2
          cases Out.bool r'.1 r'.2 with
          | exn x l e => rfl
          | fail => rfl
          | ok t => rfl
theorem evT_not (a : Ex) (env : En) : evT cf cl lf (.not a) env = (evT cf cl lf a env).bind fun t => .ok (!t.1, t.2) := by
  unfold evT
  rw [evA]
  cases evA cf cl lf a env with
  | exn x l e => rfl
  | fail => rfl
  | ok r =>
    show (((Out.bool r.1 r.2).bind fun t => kNot (!t.1) t.2).bind fun r => Out.bool r.1 r.2) = (Out.bool r.1 r.2).bind fun t => .ok (!t.1, t.2)
    cases Out.bool r.1 r.2 with
    | exn x l e => rfl
    | fail => rfl
    | ok t => rfl
theorem evT_ite (c a b : Ex) (env : En) : evT cf cl lf (.ite c a b) env = (evT cf cl lf c env).bind fun t => if t.1 then evT cf cl lf a t.2 else evT cf cl lf b t.2 := by
  unfold evT
  rw [evA]
  cases evA cf cl lf c env with
  | exn x l e => rfl
  | fail => rfl
  | ok r =>
    show (((Out.bool r.1 r.2).bind fun t => if t.1 = true then evA cf cl lf a t.2 else evA cf cl lf b t.2).bind fun r => Out.bool r.1 r.2) = (Out.bool r.1 r.2).bind fun t => if t.1 = true then (evA cf cl lf a t.2).bind fun r => Out.bool r.1 r.2 else (evA cf cl lf b t.2).bind fun r => Out.bool r.1 r.2
    cases Out.bool r.1 r.2 with
    | exn x l e => rfl
    | fail => rfl
    | ok t =>
      obtain ⟨t, e⟩ := t
      cases t <;> rfl
theorem mw_and1 {e : Expr} {ea : Ex} (h : PT X e (rdT G cf cl lf W ea)) : PW X (.BoolOp .And [e] pos) (rdT G cf cl lf W ea) := pw_and1 h
theorem mw_or1 {e : Expr} {ea : Ex} (h : PT X e (rdT G cf cl lf W ea)) : PW X (.BoolOp .Or [e] pos) (rdT G cf cl lf W ea) := pw_or1 h
theorem mw_and {a b : Expr} {rest : List Expr} {ea eb : Ex} (ha : PT X a (rdT G cf cl lf W ea)) (hb : PW X (.BoolOp .And (b :: rest) pos) (rdT G cf cl lf W eb)) : PW X (.BoolOp .And (a :: b :: rest) pos) (rdT G cf cl lf W (.and ea eb)) := (pw_and ha hb).imp fun σ H Q ⟨Fz, env, m, q⟩ => by
  rw [evT_and] at q
  refine ⟨Fz, env, m, q.bind.imp fun t env1 q1 Fz1 H1 p1 => ?_⟩
  cases t with
  | false => exact q1 Fz1 H1 p1
  | true =>
    have q1 : OP G W σ Fz H env (evT cf cl lf eb env1) _ := q1
    exact ⟨Fz1, env1, p1.mt, (OP.base m p1 q1).imp fun u env2 q2 Fz2 H2 p2 => q2 Fz2 H2 (p1.trans m p2)⟩
theorem mw_or {a b : Expr} {rest : List Expr} {ea eb : Ex} (ha : PT X a (rdT G cf cl lf W ea)) (hb : PW X (.BoolOp .Or (b :: rest) pos) (rdT G cf cl lf W eb)) : PW X (.BoolOp .Or (a :: b :: rest) pos) (rdT G cf cl lf W (.or ea eb)) := (pw_or ha hb).imp fun σ H Q ⟨Fz, env, m, q⟩ => by
  rw [evT_or] at q
  refine ⟨Fz, env, m, q.bind.imp fun t env1 q1 Fz1 H1 p1 => ?_⟩
  cases t with
  | true => exact q1 Fz1 H1 p1
  | false =>
    have q1 : OP G W σ Fz H env (evT cf cl lf eb env1) _ := q1
    exact ⟨Fz1, env1, p1.mt, (OP.base m p1 q1).imp fun u env2 q2 Fz2 H2 p2 => q2 Fz2 H2 (p1.trans m p2)⟩
theorem mt_not {a : Expr} {ea : Ex} (ha : PT X a (rdT G cf cl lf W ea)) : PT X (.UnaryOp .Not a pos) (rdT G cf cl lf W (.not ea)) := (pt_not ha).imp fun σ H Q ⟨Fz, env, m, q⟩ => by
  rw [evT_not] at q
  exact ⟨Fz, env, m, q.bind.imp fun t env1 q1 Fz1 H1 p1 => q1 Fz1 H1 p1⟩
/-- .. as values -/
theorem me_not {a : Expr} {ea : Ex} (ha : PE X a (rd G cf cl lf W ea)) : PE X (.UnaryOp .Not a pos) (rd G cf cl lf W (.not ea)) := (pe_not ha).imp fun σ H Q ⟨Fz, env, m, q⟩ => by
  unfold evA at q
  refine ⟨Fz, env, m, q.bind.imp fun av env1 q1 v Fz1 H1 p1 r1 f1 => ?_⟩
  obtain ⟨b, hb, q2⟩ := OP.bool (OP.bind q1) p1.mt r1
  exact ⟨b, hb, OP.ret q2 (.bl (!b)) Fz1 H1 p1 (Rep.bl _) trivial⟩
theorem me_and {a b : Expr} {rest : List Expr} {ea eb : Ex} (ha : PE X a (rd G cf cl lf W ea)) (hb : PE X (.BoolOp .And (b :: rest) pos) (rd G cf cl lf W eb)) : PE X (.BoolOp .And (a :: b :: rest) pos) (rd G cf cl lf W (.and ea eb)) := (pe_and ha hb).imp fun σ H Q ⟨Fz, env, m, q⟩ => by
  unfold evA at q
  refine ⟨Fz, env, m, q.bind.imp fun av env1 q1 v Fz1 H1 p1 r1 f1 => ?_⟩
  obtain ⟨t, ht, q2⟩ := OP.bool (OP.bind q1) p1.mt r1
  refine ⟨t, ht, ?_⟩
  cases t with
  | false => exact OP.ret (W := W) q2 (.bl false) Fz1 H1 p1 (Rep.bl _) trivial
  | true =>
    rw [if_pos rfl]
    have q2 : OP G W σ Fz H env ((evA cf cl lf eb env1).bind fun r' => (Out.bool r'.1 r'.2).bind fun t' => kNot t'.1 t'.2) _ := q2
    refine ⟨Fz1, env1, p1.mt, (OP.base m p1 q2.bind).imp fun bv env2 q3 u Fz2 H2 p2 r2 f2 => ?_⟩
    obtain ⟨t', ht', q4⟩ := OP.bool (OP.bind q3) p2.mt r2
    subst ht'
    exact OP.ret (W := W) q4 (.bl t') Fz2 H2 (p1.trans m p2) (Rep.bl _) trivial
theorem me_or {a b : Expr} {rest : List Expr} {ea eb : Ex} (ha : PE X a (rd G cf cl lf W ea)) (hb : PE X (.BoolOp .Or (b :: rest) pos) (rd G cf cl lf W eb)) : PE X (.BoolOp .Or (a :: b :: rest) pos) (rd G cf cl lf W (.or ea eb)) := (pe_or ha hb).imp fun σ H Q ⟨Fz, env, m, q⟩ => by
  unfold evA at q
  refine ⟨Fz, env, m, q.bind.imp fun av env1 q1 v Fz1 H1 p1 r1 f1 => ?_⟩
  obtain ⟨t, ht, q2⟩ := OP.bool (OP.bind q1) p1.mt r1
  refine ⟨t, ht, ?_⟩
  cases t with
  | true => exact OP.ret (W := W) q2 (.bl true) Fz1 H1 p1 (Rep.bl _) trivial
  | false =>
    rw [if_neg Bool.false_ne_true]
    have q2 : OP G W σ Fz H env ((evA cf cl lf eb env1).bind fun r' => (Out.bool r'.1 r'.2).bind fun t' => kNot t'.1 t'.2) _ := q2
    refine ⟨Fz1, env1, p1.mt, (OP.base m p1 q2.bind).imp fun bv env2 q3 u Fz2 H2 p2 r2 f2 => ?_⟩
    obtain ⟨t', ht', q4⟩ := OP.bool (OP.bind q3) p2.mt r2
    subst ht'
    exact OP.ret (W := W) q4 (.bl t') Fz2 H2 (p1.trans m p2) (Rep.bl _) trivial
theorem me_ite {c a b : Expr} {ec ea eb : Ex} (hc : PT X c (rdT G cf cl lf W ec)) (ha : PE X a (rd G cf cl lf W ea)) (hb : PE X b (rd G cf cl lf W eb)) : PE X (.IfExp c a b pos) (rd G cf cl lf W (.ite ec ea eb)) := (pe_ifExp hc ha hb).imp fun σ H Q ⟨Fz, env, m, q⟩ => by
  have e : evA cf cl lf (.ite ec ea eb) env = (evT cf cl lf ec env).bind fun t => if t.1 then evA cf cl lf ea t.2 else evA cf cl lf eb t.2 := by
    rw [evA]
    unfold evT
    cases evA cf cl lf ec env with
    | exn x l e => rfl
    | fail => rfl
    | ok r => rfl
  rw [e] at q
  refine ⟨Fz, env, m, q.bind.imp fun t env1 q1 Fz1 H1 p1 => ?_⟩
  cases t with
  | true =>
    have q1 : OP G W σ Fz H env (evA cf cl lf ea env1) _ := q1
    exact ⟨Fz1, env1, p1.mt, (OP.base m p1 q1).imp fun av env2 q2 v Fz2 H2 p2 r2 f2 => q2 v Fz2 H2 (p1.trans m p2) r2 (f2.of p1.keep)⟩
  | false =>
    have q1 : OP G W σ Fz H env (evA cf cl lf eb env1) _ := q1
    exact ⟨Fz1, env1, p1.mt, (OP.base m p1 q1).imp fun av env2 q2 v Fz2 H2 p2 r2 f2 => q2 v Fz2 H2 (p1.trans m p2) r2 (f2.of p1.keep)⟩
end
end MP
set_option maxRecDepth 100000
set_option maxHeartbeats 2000000
/-! MP7: statements. -/
namespace MP
open PySem PySem.Spec PyProof.Rows L2
section
variable {G : Gx} {cf : CF} {cl : Nat → LF → List SV → Out (SV × List SV)} {lf : Option LF} {W : WX} {X : Cx} {pos : Pos}
theorem kCmp_ok {σ : L2.St} {H : Hp} {Fz Fz' : Addr → Prop} {H' : Hp} {env env' : En} {o : Op2} {a b : AV} {x y : V} {α : Type} {f : Bool → Out (α × En)} {R : α → En → Prop} {Q : VK} (m : Mt G Fz' σ H' env') (ra : AvR G σ Fz' H' env' a x) (rb : AvR G σ Fz' H' env' b y)
    (q : OP G W σ Fz H env ((kCmp o a b env').bind f) R) (h : ∀ t H2, (∀ b o, H' b = some o → H2 b = some o) → OP G W σ Fz H env (f t) R → Q (.bl t) H2) : rOp G o x y H' Q := by
  unfold kCmp at q
  cases h1 : a.rd env' with
  | none => rw [h1] at q; exact q.elim
  | some d =>
    cases h2 : b.rd env' with
    | none => rw [h1, h2] at q; exact q.elim
    | some e =>
      rw [h1, h2] at q
      simp only at q
      cases h3 : op2 o d e with
      | none => rw [h3] at q; exact q.elim
      | some z =>
        obtain ⟨own, w⟩ := z
        rw [h3] at q
        cases w with
        | bl t =>
          refine ⟨Fz', d, e, own, .bl t, m.dom, ra.rd m h1, rb.rd m h2, h3, fun z H2 rp => ?_⟩
          cases own with
          | true =>
            obtain ⟨_, _, _, _, c⟩ := rp
            exact c.elim
          | false =>
            obtain ⟨e, c⟩ := rp
            cases (show Rep G Fz' H2 (.bl t) z from c)
            exact h t H2 e q
        | _ => exact q.elim
theorem kOp_ok {σ : L2.St} {H : Hp} {Fz Fz' : Addr → Prop} {H' : Hp} {env env' : En} {o : Op2} {a b : AV} {x y : V} {R : AV → En → Prop} {Q : VK} (m : Mt G Fz' σ H' env') (ra : AvR G σ Fz' H' env' a x) (rb : AvR G σ Fz' H' env' b y)
    (q : OP G W σ Fz H env (kOp o a b env') R) (h : ∀ own d z H2, Po G σ Fz' H' env' Fz' H2 env' → AvR G σ Fz' H2 env' (.val own d) z → Fre H' (.val own d) z → R (.val own d) env' → Q z H2) : rOp G o x y H' Q := by
  unfold kOp at q
  cases h1 : a.rd env' with
  | none => rw [h1] at q; exact q.elim
  | some d =>
    cases h2 : b.rd env' with
    | none => rw [h1, h2] at q; exact q.elim
    | some e =>
      rw [h1, h2] at q
      simp only at q
      cases h3 : op2 o d e with
      | none => rw [h3] at q; exact q.elim
      | some z =>
        obtain ⟨own, w⟩ := z
        rw [h3] at q
        refine ⟨Fz', d, e, own, w, m.dom, ra.rd m h1, rb.rd m h2, h3, fun z H2 rp => ?_⟩
        obtain ⟨p2, r2, f2⟩ := rp.po m
        exact h own w z H2 p2 r2 f2 q
theorem me_chain {e : Expr} {ea eb ec : Ex} {o o2 : Op2} (h : PE X e (tChain (rOp G o) (rOp G o2) (rd G cf cl lf W ea) (rd G cf cl lf W eb) (rd G cf cl lf W ec))) : PE X e (rd G cf cl lf W (.chain o o2 ea eb ec)) := h.imp fun σ H Q ⟨Fz, env, m, q⟩ => by
  unfold evA at q
  refine rd2 (k := fun a b e => (kCmp o a b e).bind fun t => if t = true then (evA cf cl lf ec e).bind fun r'' => kOp o2 b r''.1 r''.2 else .ok (.val false (.bl false), e)) m q fun a b x y Fz1 H1 env1 p r q => ?_
  refine kCmp_ok p.mt r.1 r.2.2.2.1 q fun t H2 e q2 => ⟨t, rfl, ?_⟩
  have p2 := Po.same p.mt e
  cases t with
  | false => exact OP.ret (W := W) q2 (.bl false) Fz1 H2 (p.trans m p2) (Rep.bl _) trivial
  | true =>
    rw [if_pos rfl]
    have q2 : OP G W σ Fz H env ((evA cf cl lf ec env1).bind fun r'' => kOp o2 b r''.1 r''.2) _ := q2
    refine ⟨Fz1, env1, p2.mt, (OP.base m (p.trans m p2) q2.bind).imp fun cv env3 q3 w Fz3 H3 p3 r3 f3 => ?_⟩
    refine kOp_ok p3.mt (((r.2.2.2.1).keep p.mt p2).keep p2.mt p3) r3 q3 fun own d z H4 p4 r4 f4 q4 => ?_
    exact q4 z Fz3 H4 (((p.trans m p2).trans m p3).trans m p4) r4 (Fre.of ((p.trans m p2).trans m p3).keep f4)
theorem mt_chain {e : Expr} {ea eb ec : Ex} {o o2 : Op2} (h : PT X e (tTest (tChain (rOp G o) (rOp G o2) (rd G cf cl lf W ea) (rd G cf cl lf W eb) (rd G cf cl lf W ec)))) : PT X e (rdT G cf cl lf W (.chain o o2 ea eb ec)) := h.imp fun σ H Q ⟨Fz, env, m, q⟩ => by
  unfold evT at q
  have q := q.bind
  unfold evA at q
  refine rd2 (k := fun a b e => (kCmp o a b e).bind fun t => if t = true then (evA cf cl lf ec e).bind fun r'' => kOp o2 b r''.1 r''.2 else .ok (.val false (.bl false), e)) m q fun a b x y Fz1 H1 env1 p r q => ?_
  refine kCmp_ok p.mt r.1 r.2.2.2.1 q fun t H2 e q2 => ⟨t, rfl, ?_⟩
  have p2 := Po.same p.mt e
  cases t with
  | false =>
    exact ⟨false, rfl, (show ∀ (Fz' : Addr → Prop) (H' : Hp), Po G σ Fz H env Fz' H' env1 → Q false H' from q2) Fz1 H2 (p.trans m p2)⟩
  | true =>
    rw [if_pos rfl]
    have q2 : OP G W σ Fz H env ((evA cf cl lf ec env1).bind fun r'' => kOp o2 b r''.1 r''.2) _ := q2
    refine ⟨Fz1, env1, p2.mt, (OP.base m (p.trans m p2) q2.bind).imp fun cv env3 q3 w Fz3 H3 p3 r3 f3 => ?_⟩
    refine kOp_ok p3.mt (((r.2.2.2.1).keep p.mt p2).keep p2.mt p3) r3 q3 fun own d z H4 p4 r4 f4 q4 => ?_
    obtain ⟨c, hc, q5⟩ := OP.bool q4 p4.mt r4
    exact ⟨c, hc, q5 Fz3 H4 (((p.trans m p2).trans m p3).trans m p4)⟩
theorem me_get2 {e : Expr} {ed ek ev : Ex} {td : TE} (h : PE X e td) (hq : ∀ σ H Q, (rd G cf cl lf W ed σ H fun x H1 => rd G cf cl lf W ek σ H1 fun y H2 => rd G cf cl lf W ev σ H2 fun z H3 => ∃ Fz ks vs k v, (∀ b, Fz b → ∃ o, H3 b = some o) ∧ RepC G Fz H3 (.dct ks vs) x ∧ RepC G Fz H3 k y ∧ Rep G Fz H3 v z ∧ kk k = true ∧ ∀ w H', ResP G Fz H3 H' false ((dget ks vs k).getD v) w → Q w H') → td σ H Q) : True := trivial
end
/-- a body at work: np parameters; Pr the lent ones' places and objects; Pm what may be changed of what stood at the entry, H0 the entry -/
structure MF (G : Gx) (np : Nat) (Pr : List (Nat × Addr)) (Pm : Addr → Prop) (H0 : Hp) (Fz0 : Addr → Prop) (Z : Addr → HO → Prop) (Fz : Addr → Prop) (σ : L2.St) (H : Hp) (env : En) : Prop where
  mt : Mt G Fz σ H env
  keep : Keep Pm H0 H
  ow : ∀ b, Ow σ env b → Pm b ∨ H0 b = none
  fz : ∀ b, Fz b → Fz0 b ∨ H0 b = none ∨ Pm b
  sub : ∀ b, Fz0 b → Fz b
  fresh : ∀ i s a, np ≤ i → env.at i = some s → s.1.own = true → σ[i]? = some (some (.ref a)) → H0 a = none
  par : ∀ i a, (i, a) ∈ Pr → σ[i]? = some (some (.ref a)) ∧ ∃ fl d, env.at i = some (fl, d) ∧ (fl = .p ∨ fl = .q)
  pin : ∀ b o, Z b o → H b = some o ∧ (Fz b ∨ ¬ isCell o) ∧ ∀ ps, o ≠ .tbl ps
section
variable {G : Gx} {np : Nat} {Pr : List (Nat × Addr)} {Pm : Addr → Prop} {H0 : Hp} {Fz0 Fz Fz' Fz1 : Addr → Prop} {Z : Addr → HO → Prop} {σ : L2.St} {H H' : Hp} {env env' : En}
theorem MF.step (m : MF G np Pr Pm H0 Fz0 Z Fz σ H env) (p : Po G σ Fz H env Fz' H' env') : MF G np Pr Pm H0 Fz0 Z Fz' σ H' env' where
  mt := p.mt
  keep := by
    have no : ∀ b o, H0 b = some o → ¬ Pm b → ¬ Ow σ env b := fun b o e n z => by
      rcases m.ow b z with w | w
      · exact n w
      · rw [e] at w; cases w
    refine ⟨fun b o e n t => p.keep.k _ _ (m.keep.k _ _ e n t) (no b o e n) t, fun b ps e n => ?_, fun b o e => ?_⟩
    · obtain ⟨qs, e1⟩ := m.keep.t _ _ e n
      exact p.keep.t _ _ e1 (no b _ e n)
    · obtain ⟨o1, e1⟩ := m.keep.dm _ _ e
      exact p.keep.dm _ _ e1
  ow := fun b h => m.ow b (p.ow b h)
  fz := fun b h => by
    rcases p.new b h with z | z | z
    · exact m.fz b z
    · exact .inr (.inl (m.keep.none z))
    · rcases m.ow b z with w | w
      · exact .inr (.inr w)
      · exact .inr (.inl w)
  sub := fun b h => p.sub b (m.sub b h)
  fresh := fun i s a hi h1 h2 h3 => by
    have := p.fl i
    rw [h1] at this
    obtain ⟨t, e, f⟩ := this.back h2
    exact m.fresh i t a hi e (by rw [f]; exact h2) h3
  par := fun i a h => by
    obtain ⟨h1, fl, d, h2, h3⟩ := m.par i a h
    refine ⟨h1, ?_⟩
    have := p.fl i
    rw [h2] at this
    obtain ⟨s', e⟩ := this.fwd
    rw [e] at this
    obtain ⟨fl', d'⟩ := s'
    refine ⟨fl', d', e, ?_⟩
    rcases this with z | z
    · have z : fl' = fl := z
      rw [z]; exact h3
    · have z : fl' = fl.frz := z
      rw [z]
      rcases h3 with w | w
      · rw [w]; exact .inr rfl
      · rw [w]; exact .inr rfl
  pin := fun b o h => by
    obtain ⟨h1, h2, h3⟩ := m.pin b o h
    refine ⟨p.keep.k _ _ h1 (fun z => ?_) h3, h2.imp (p.sub b) fun h => h, h3⟩
    obtain ⟨n, o', e, c⟩ := m.mt.owOk b z
    rcases h2 with w | w
    · exact n w
    · rw [h1] at e; cases e; exact w c
theorem canSet_lt {i : Nat} (h : canSet env i = true) : i < env.length := by
  unfold canSet at h
  split at h
  · cases h
  · cases h
  · exact of_decide_eq_true h
theorem canSet_fl {i : Nat} {fl : Fl} {d : D} (h : canSet env i = true) (e : env.at i = some (fl, d)) : fl ≠ .p ∧ fl ≠ .q := by
  unfold canSet at h
  rw [e] at h
  cases fl with
  | p => cases h
  | q => cases h
  | o => exact ⟨by decide, by decide⟩
  | f => exact ⟨by decide, by decide⟩
theorem setV_eq {i : Nat} {s : SV} {e : En} (h : setV env i s = .ok e) : canSet env i = true ∧ e = env.set i (some s) := by
  unfold setV at h
  split at h
  · rename_i c
    cases h
    exact ⟨c, rfl⟩
  · cases h
/-- a name gets a value -/
theorem MF.set (m : MF G np Pr Pm H0 Fz0 Z Fz σ H env) {i : Nat} {s : SV} {v : V} (hc : canSet env i = true) (r : SlotR G Fz H s v)
    (ho : s.1.own = true → ∀ a, v = .ref a → H0 a = none ∧ ∀ j t, j ≠ i → env.at j = some t → t.1.own = true → σ[j]? ≠ some (some (.ref a))) :
    MF G np Pr Pm H0 Fz0 Z Fz (σ.set i (some v)) H (env.set i (some s)) := by
  have hi : i < env.length := canSet_lt hc
  have hiσ : i < σ.length := by rw [← m.mt.len]; exact hi
  have vat : ∀ j, (σ.set i (some v))[j]? = if j = i then some (some v) else σ[j]? := fun j => by
    by_cases h : j = i
    · subst h; rw [if_pos rfl, List.getElem?_set_self hiσ]
    · rw [if_neg h, List.getElem?_set_ne (Ne.symm h)]
  have own2 : ∀ b, Ow (σ.set i (some v)) (env.set i (some s)) b → Pm b ∨ H0 b = none := fun b ⟨j, t, h1, h2, h3⟩ => by
    rw [En.at_set hi] at h1
    rw [vat] at h3
    split at h1
    · rename_i hj
      rw [if_pos hj] at h3
      cases h1
      cases h3
      exact .inr (ho h2 b rfl).1
    · rename_i hj
      rw [if_neg hj] at h3
      exact m.ow b ⟨j, t, h1, h2, h3⟩
  refine ⟨⟨by rw [List.length_set, List.length_set]; exact m.mt.len, fun j t h => ?_, fun j l a t t' h1 h2 o1 o2 e1 e2 => ?_, m.mt.dom, m.mt.tabs⟩, m.keep, own2, m.fz, m.sub, fun j t a hj h1 h2 h3 => ?_, fun j a h => ?_, m.pin⟩
  · rw [En.at_set hi] at h
    rw [vat]
    split at h
    · rename_i hj
      rw [if_pos hj]
      cases h
      exact ⟨v, rfl, r⟩
    · rename_i hj
      rw [if_neg hj]
      exact m.mt.slot j t h
  · rw [En.at_set hi] at h1 h2
    rw [vat] at e1 e2
    by_cases hj : j = i <;> by_cases hl : l = i
    · rw [hj, hl]
    · rw [if_pos hj] at h1 e1
      rw [if_neg hl] at h2 e2
      cases h1; cases e1
      exact absurd e2 ((ho o1 a rfl).2 l t' hl h2 o2)
    · rw [if_neg hj] at h1 e1
      rw [if_pos hl] at h2 e2
      cases h2; cases e2
      exact absurd e1 ((ho o2 a rfl).2 j t hj h1 o1)
    · rw [if_neg hj] at h1 e1
      rw [if_neg hl] at h2 e2
      exact m.mt.dis j l a t t' h1 h2 o1 o2 e1 e2
  · rw [En.at_set hi] at h1
    rw [vat] at h3
    split at h1
    · rename_i hk
      rw [if_pos hk] at h3
      cases h1; cases h3
      exact (ho h2 a rfl).1
    · rename_i hk
      rw [if_neg hk] at h3
      exact m.fresh j t a hj h1 h2 h3
  · obtain ⟨h1, fl, d, h2, h3⟩ := m.par j a h
    have hj : j ≠ i := fun z => by
      subst z
      obtain ⟨n1, n2⟩ := canSet_fl hc h2
      rcases h3 with w | w
      · exact n1 w
      · exact n2 w
    exact ⟨by rw [vat, if_neg hj]; exact h1, fl, d, by rw [En.at_set hi, if_neg hj]; exact h2, h3⟩
theorem MF.setF (m : MF G np Pr Pm H0 Fz0 Z Fz σ H env) {i : Nat} {d : D} {v : V} (hc : canSet env i = true) (r : Rep G Fz H d v) : MF G np Pr Pm H0 Fz0 Z Fz (σ.set i (some v)) H (env.set i (some (.f, d))) :=
  m.set hc (by unfold SlotR; exact r) (fun z => Bool.noConfusion z)
theorem MF.setO (m : MF G np Pr Pm H0 Fz0 Z Fz σ H env) {i : Nat} {d : D} {a : Addr} (hc : canSet env i = true) (n : ¬ Fz a) (no : ¬ Ow σ env a) (c : OwnC G Fz H a d) (f : H0 a = none) : MF G np Pr Pm H0 Fz0 Z Fz (σ.set i (some (.ref a))) H (env.set i (some (.o, d))) :=
  m.set hc (by unfold SlotR; rw [if_pos (show (Fl.o, d).1.own = true from rfl)]; exact ⟨a, rfl, n, c⟩) fun _ b e => by
    cases e
    exact ⟨f, fun j t _ h1 h2 h3 => no ⟨j, t, h1, h2, h3⟩⟩
/-- what stands for sure: the frozen things, and what is no cell -/
def ZF (Fz : Addr → Prop) (H : Hp) (b : Addr) (o : HO) : Prop := H b = some o ∧ (Fz b ∨ ¬ isCell o) ∧ ∀ ps, o ≠ .tbl ps
theorem MF.enter (m : MF G np Pr Pm H0 Fz0 Z Fz σ H env) : MF G np Pr Pm H0 Fz (fun b o => Z b o ∨ ZF Fz H b o) Fz σ H env :=
  ⟨m.mt, m.keep, m.ow, fun b => .inl, fun b h => h, m.fresh, m.par, fun b o h => h.elim (m.pin b o) fun h => h⟩
theorem MF.leave {Z1 : Addr → HO → Prop} (m : MF G np Pr Pm H0 Fz1 Z1 Fz σ H env) (hf : ∀ b, Fz1 b → Fz0 b ∨ H0 b = none ∨ Pm b) (hs : ∀ b, Fz0 b → Fz1 b) (hz : ∀ b o, Z b o → Z1 b o) : MF G np Pr Pm H0 Fz0 Z Fz σ H env :=
  ⟨m.mt, m.keep, m.ow, fun b h => (m.fz b h).elim (hf b) .inr, fun b h => m.sub b (hs b h), m.fresh, m.par, fun b o h => m.pin b o (hz b o h)⟩
end
end MP
set_option maxRecDepth 100000
set_option maxHeartbeats 2000000
/-! MP8: statements by their parts. -/
namespace MP
open PySem PySem.Spec PyProof.Rows L2
/-- what is handed back -/
def RetR (G : Gx) (H0 : Hp) (Fz : Addr → Prop) (σ : L2.St) (H : Hp) (env : En) (s : SV) (v : V) : Prop :=
  if s.1.own = true then ∃ a, v = .ref a ∧ ¬ Fz a ∧ ¬ Ow σ env a ∧ OwnC G Fz H a s.2 ∧ H0 a = none else Rep G Fz H s.2 v
def OPS (G : Gx) (W : WX) (np : Nat) (Pr : List (Nat × Addr)) (Pm : Addr → Prop) (H0 : Hp) (Fz0 : Addr → Prop) (Z : Addr → HO → Prop) (o : Out (Fw × En)) (D : Ends) : Prop := match o with
  | .ok (.nx, e) => ∀ σ Fz H, MF G np Pr Pm H0 Fz0 Z Fz σ H e → D.nx σ H
  | .ok (.bk, e) => ∀ σ Fz H, MF G np Pr Pm H0 Fz0 Z Fz σ H e → D.bk σ H
  | .ok (.ct, e) => ∀ σ Fz H, MF G np Pr Pm H0 Fz0 Z Fz σ H e → D.ct σ H
  | .ok (.rt s, e) => ∀ σ Fz H v, MF G np Pr Pm H0 Fz0 Z Fz σ H e → RetR G H0 Fz σ H e s v → D.rt v H
  | .exn x l e => ∀ cls d σ Fz H, ExcR G x l cls d H → MF G np Pr Pm H0 Fz0 Z Fz σ H e → W cls d σ H
  | .fail => False
section
variable (G : Gx) (cf : CF) (cl : Nat → LF → List SV → Out (SV × List SV)) (lf : Option LF) (W : WX) (np : Nat)
def rdS (s : Sm) : TS := fun D σ H => ∃ Pr Pm H0 Fz0 Z Fz env, MF G np Pr Pm H0 Fz0 Z Fz σ H env ∧ OPS G W np Pr Pm H0 Fz0 Z (evS cf cl lf s env) D
def rdSs (s : Sms) : TS := fun D σ H => ∃ Pr Pm H0 Fz0 Z Fz env, MF G np Pr Pm H0 Fz0 Z Fz σ H env ∧ OPS G W np Pr Pm H0 Fz0 Z (evSs cf cl lf s env) D
end
section
variable {G : Gx} {cf : CF} {cl : Nat → LF → List SV → Out (SV × List SV)} {lf : Option LF} {W : WX} {X : Cx} {pos : Pos} {np : Nat} {Pr : List (Nat × Addr)} {Pm : Addr → Prop} {H0 : Hp} {Fz0 Fz Fz' Fz1 : Addr → Prop} {Z : Addr → HO → Prop} {σ : L2.St} {H H' : Hp} {env env' : En} {D : Ends} {α : Type}
/-- an expression ahead of what follows -/
theorem OPS.ex {x : Out (α × En)} {f : α × En → Out (Fw × En)} (m : MF G np Pr Pm H0 Fz0 Z Fz σ H env) (q : OPS G W np Pr Pm H0 Fz0 Z (x.bind f) D) : OP G W σ Fz H env x (fun a e => OPS G W np Pr Pm H0 Fz0 Z (f (a, e)) D) := by
  cases x with
  | ok r => exact q
  | exn x l e => exact fun cls d Fz' H' er p => q cls d σ Fz' H' er (m.step p)
  | fail => exact q.elim
theorem ms_nil : PSs X [] (rdSs G cf cl lf W np .nil) := pss_nil.imp fun D σ H ⟨Pr, Pm, H0, Fz0, Z, Fz, env, m, q⟩ => by
  unfold evSs at q
  exact q σ Fz H m
theorem ms_cons {st : Stmt} {rest : List Stmt} {s : Sm} {r : Sms} (h1 : PS X st (rdS G cf cl lf W np s)) (h2 : PSs X rest (rdSs G cf cl lf W np r)) : PSs X (st :: rest) (rdSs G cf cl lf W np (.cons s r)) := (pss_cons h1 h2).imp fun D σ H ⟨Pr, Pm, H0, Fz0, Z, Fz, env, m, q⟩ => by
  unfold evSs at q
  refine ⟨Pr, Pm, H0, Fz0, Z, Fz, env, m, ?_⟩
  cases h : evS cf cl lf s env with
  | exn x l e => rw [h] at q; exact q
  | fail => rw [h] at q; exact q.elim
  | ok z =>
    obtain ⟨w, e⟩ := z
    rw [h] at q
    cases w with
    | nx => exact fun σ' Fz' H' m' => ⟨Pr, Pm, H0, Fz0, Z, Fz', e, m', q⟩
    | bk => exact q
    | ct => exact q
    | rt s => exact q
/-- a value is bound to a name -/
theorem bindV_ok {Hs : Hp} {Fz1 : Addr → Prop} {H1 : Hp} {env1 e : En} {i : Nat} {av : AV} {v : V} (hk : Keep Pm H0 Hs) (m : MF G np Pr Pm H0 Fz0 Z Fz1 σ H1 env1) (r : AvR G σ Fz1 H1 env1 av v) (f : Fre Hs av v) (h : bindV env1 i av = .ok e) :
    ∃ Fz2, MF G np Pr Pm H0 Fz0 Z Fz2 (σ.set i (some v)) H1 e := by
  cases av with
  | val own d =>
    cases own with
    | true =>
      obtain ⟨hc, rfl⟩ := setV_eq (show setV env1 i (.o, d) = .ok e from h)
      obtain ⟨a, rfl, n, no, c⟩ := r
      exact ⟨Fz1, m.setO hc n no c (hk.none f)⟩
    | false =>
      obtain ⟨hc, rfl⟩ := setV_eq (show setV env1 i (.f, d) = .ok e from h)
      exact ⟨Fz1, m.setF hc r⟩
  | slot j =>
    obtain ⟨h1, s, h2⟩ := r
    have h : (match env1.at j with | some (_, d) => setV (env1.frz j) i (.f, d) | none => .fail) = Out.ok e := h
    rw [h2] at h
    obtain ⟨hc, rfl⟩ := setV_eq (show setV (env1.frz j) i (.f, s.2) = .ok e from h)
    obtain ⟨Fz2, p, rp⟩ := m.mt.frz h2 h1
    exact ⟨Fz2, (m.step p).setF hc rp⟩
theorem Out.bind_ok {β : Type} {x : Out α} {f : α → Out β} {r : β} (h : x.bind f = .ok r) : ∃ a, x = .ok a ∧ f a = .ok r := by
  cases x with
  | ok a => exact ⟨a, rfl, h⟩
  | exn x l e => cases h
  | fail => cases h
/-- .. and what follows -/
theorem OPS.bindV {av : AV} {i : Nat} {env1 : En} (q : OPS G W np Pr Pm H0 Fz0 Z ((bindV env1 i av).bind fun e1 => .ok (.nx, e1)) D) : ∃ e, MP.bindV env1 i av = .ok e ∧ ∀ σ Fz H, MF G np Pr Pm H0 Fz0 Z Fz σ H e → D.nx σ H := by
  have nox : ∀ {e : En} {i : Nat} {s : SV}, (∃ e', setV e i s = .ok e') ∨ setV e i s = .fail := fun {e i s} => by
    unfold setV
    split
    · exact .inl ⟨_, rfl⟩
    · exact .inr rfl
  have key : (∃ e, MP.bindV env1 i av = .ok e) ∨ MP.bindV env1 i av = .fail := by
    cases av with
    | val own d => exact nox
    | slot j =>
      show (∃ e, (match env1.at j with | some (_, d) => setV (env1.frz j) i (.f, d) | none => .fail) = Out.ok e) ∨ (match env1.at j with | some (_, d) => setV (env1.frz j) i (.f, d) | none => .fail) = Out.fail
      cases env1.at j with
      | none => exact .inr rfl
      | some s => exact nox
  rcases key with ⟨e, h⟩ | h
  · rw [h] at q
    exact ⟨e, h, q⟩
  · rw [h] at q
    exact q.elim
theorem ms_asg {i : Nat} {x : Str} {e : Expr} {ex : Ex} {pos' : Pos} (hN : X.N.Nodup) (hi : X.N[i]? = some x) (hx : Loc X.env.scope x) (he : PE X e (rd G cf cl lf W ex)) (hs : swapsWith e (some (.Name x pos')) pos.line X.env = pure false) (hf : X.fn x = true ∨ X.env.scope.names.lookup x = some .local) :
    PS X (.Assign [.Name x pos'] e pos) (rdS G cf cl lf W np (.asg i ex)) := (ps_set hN hi hx he hs hf).imp fun D σ H ⟨Pr, Pm, H0, Fz0, Z, Fz, env, m, q⟩ => by
  unfold evS at q
  refine ⟨Fz, env, m.mt, (OPS.ex m q).imp fun av env1 q1 v Fz1 H1 p1 r1 f1 => ?_⟩
  obtain ⟨e, h, k⟩ := OPS.bindV q1
  obtain ⟨Fz2, m2⟩ := bindV_ok m.keep (m.step p1) r1 f1 h
  exact k _ _ _ m2
theorem ms_drop {e : Expr} {ex : Ex} (he : PE X e (rd G cf cl lf W ex)) (hs : swapsWith e none pos.line X.env = pure false) : PS X (.Expr e pos) (rdS G cf cl lf W np (.drop ex)) := (ps_expr he hs).imp fun D σ H ⟨Pr, Pm, H0, Fz0, Z, Fz, env, m, q⟩ => by
  unfold evS at q
  exact ⟨Fz, env, m.mt, (OPS.ex m q).imp fun av env1 q1 v Fz1 H1 p1 r1 f1 => q1 _ _ _ (m.step p1)⟩
theorem ms_if {c : Expr} {a b : List Stmt} {ec : Ex} {sa sb : Sms} (hc : PT X c (rdT G cf cl lf W ec)) (ha : PSs X a (rdSs G cf cl lf W np sa)) (hb : PSs X b (rdSs G cf cl lf W np sb)) : PS X (.If c a b pos) (rdS G cf cl lf W np (.ifs ec sa sb)) := (ps_if hc ha hb).imp fun D σ H ⟨Pr, Pm, H0, Fz0, Z, Fz, env, m, q⟩ => by
  unfold evS at q
  refine ⟨Fz, env, m.mt, (OPS.ex m q).imp fun t env1 q1 Fz1 H1 p1 => ?_⟩
  cases t with
  | true => exact ⟨Pr, Pm, H0, Fz0, Z, Fz1, env1, m.step p1, q1⟩
  | false => exact ⟨Pr, Pm, H0, Fz0, Z, Fz1, env1, m.step p1, q1⟩
theorem ms_pass : PS X (.Pass pos) (rdS G cf cl lf W np .pass) := ps_pass.imp fun D σ H ⟨Pr, Pm, H0, Fz0, Z, Fz, env, m, q⟩ => by
  unfold evS at q
  exact q _ _ _ m
theorem ms_brk : PS X (.Break pos) (rdS G cf cl lf W np .brk) := ps_break.imp fun D σ H ⟨Pr, Pm, H0, Fz0, Z, Fz, env, m, q⟩ => by
  unfold evS at q
  exact q _ _ _ m
theorem ms_cnt : PS X (.Continue pos) (rdS G cf cl lf W np .cnt) := ps_continue.imp fun D σ H ⟨Pr, Pm, H0, Fz0, Z, Fz, env, m, q⟩ => by
  unfold evS at q
  exact q _ _ _ m
theorem ms_retN : PS X (.Return none pos) (rdS G cf cl lf W np .retN) := ps_retN.imp fun D σ H ⟨Pr, Pm, H0, Fz0, Z, Fz, env, m, q⟩ => by
  unfold evS at q
  exact q _ _ _ _ m Rep.non
theorem MF.unset (m : MF G np Pr Pm H0 Fz0 Z Fz σ H env) {i : Nat} {d : MP.D} (h : env.at i = some (.o, d)) : MF G np Pr Pm H0 Fz0 Z Fz σ H (env.set i none) := by
  have hi := En.at_lt h
  have sub : ∀ j s, En.at (env.set i none) j = some s → env.at j = some s ∧ j ≠ i := fun j s e => by
    rw [En.at_set hi] at e
    split at e
    · cases e
    · rename_i hj
      exact ⟨e, hj⟩
  refine ⟨⟨by rw [List.length_set]; exact m.mt.len, fun j s e => m.mt.slot j s (sub j s e).1, fun j l a s s' e1 e2 => m.mt.dis j l a s s' (sub j s e1).1 (sub l s' e2).1, m.mt.dom, m.mt.tabs⟩, m.keep, fun b ⟨j, s, e1, e2, e3⟩ => m.ow b ⟨j, s, (sub j s e1).1, e2, e3⟩, m.fz, m.sub, fun j s a hj e => m.fresh j s a hj (sub j s e).1, fun j a e => ?_, m.pin⟩
  obtain ⟨h1, fl, d', h2, h3⟩ := m.par j a e
  refine ⟨h1, fl, d', ?_, h3⟩
  rw [En.at_set hi, if_neg]
  · exact h2
  · intro z
    subst z
    rw [h] at h2
    cases h2
    rcases h3 with w | w <;> cases w
theorem ms_ret {e : Expr} {ex : Ex} (he : PE X e (rd G cf cl lf W ex)) : PS X (.Return (some e) pos) (rdS G cf cl lf W np (.ret np ex)) := (ps_ret he).imp fun D σ H ⟨Pr, Pm, H0, Fz0, Z, Fz, env, m, q⟩ => by
  unfold evS at q
  refine ⟨Fz, env, m.mt, (OPS.ex m q).imp fun av env1 q1 v Fz1 H1 p1 r1 f1 => ?_⟩
  have m1 := m.step p1
  have q1 : OPS G W np Pr Pm H0 Fz0 Z (kRet np av env1) D := q1
  unfold kRet at q1
  cases av with
  | val own d =>
    cases own with
    | true =>
      obtain ⟨a, rfl, n, no, c⟩ := r1
      refine q1 σ Fz1 H1 _ m1 ?_
      unfold RetR
      rw [if_pos (show (if true = true then Fl.o else Fl.f, d).1.own = true from rfl)]
      exact ⟨a, rfl, n, no, c, m.keep.none f1⟩
    | false =>
      refine q1 σ Fz1 H1 _ m1 ?_
      unfold RetR
      rw [if_neg (show ¬ (if false = true then Fl.o else Fl.f, d).1.own = true from Bool.false_ne_true)]
      exact r1
  | slot i =>
    obtain ⟨h1, ⟨fl, d⟩, h2⟩ := r1
    obtain ⟨Fz2, p2, rp⟩ := m1.mt.frz h2 h1
    have fin : OPS G W np Pr Pm H0 Fz0 Z (.ok (.rt (.f, d), env1.frz i)) D → D.rt v H1 := fun k => k σ Fz2 H1 v (m1.step p2) (by unfold RetR; exact rp)
    simp only [h2] at q1
    cases fl with
    | o =>
      simp only at q1
      by_cases hn : np ≤ i
      · rw [if_pos hn] at q1
        obtain ⟨u, e, r⟩ := m1.mt.slot i _ h2
        rw [h1] at e; cases e
        unfold SlotR at r
        rw [if_pos (show (Fl.o, d).1.own = true from rfl)] at r
        obtain ⟨a, rfl, n, c⟩ := r
        refine q1 σ Fz1 H1 _ (m1.unset h2) ?_
        unfold RetR
        rw [if_pos (show (Fl.o, d).1.own = true from rfl)]
        refine ⟨a, rfl, n, fun ⟨j, s, e1, e2, e3⟩ => ?_, c, m1.fresh i _ a hn h2 rfl h1⟩
        rw [En.at_set (En.at_lt h2)] at e1
        split at e1
        · cases e1
        · rename_i hj
          exact hj (m1.mt.dis j i a s _ e1 h2 e2 rfl e3 h1)
      · rw [if_neg hn] at q1
        exact fin q1
    | p => exact fin q1
    | q => exact fin q1
    | f => exact fin q1
end
end MP
set_option maxRecDepth 100000
set_option maxHeartbeats 2000000
/-! MP9: targets, stores, loops. -/
namespace MP
open PySem PySem.Spec PyProof.Rows L2
section
variable (K : PySem.W.Frag)
mutual
def gT : Tg → TG
  | .nm i => gName i
  | .tp ts => gTup K ts.length (gTs ts)
def gTs : List Tg → TGs
  | [] => gNil
  | t :: ts => gCons (gT t) (gTs ts)
end
end
section
variable {G : Gx} {cf : CF} {cl : Nat → LF → List SV → Out (SV × List SV)} {lf : Option LF} {W : WX} {X : Cx} {pos : Pos} {np : Nat} {Pr : List (Nat × Addr)} {Pm : Addr → Prop} {H0 : Hp} {Fz0 Fz Fz' Fz1 : Addr → Prop} {Z : Addr → HO → Prop} {σ : L2.St} {H H' : Hp} {env env' : En} {D : Ends} {α : Type}
theorem sets_len : ∀ (ts : List Tg) {ds : List MP.D} {env e : En}, Tg.sets ts env ds = .ok e → ds.length = ts.length
  | [], ds, env, e, h => by
    cases ds with
    | nil => rfl
    | cons d ds => unfold Tg.sets at h; cases h
  | t :: ts, ds, env, e, h => by
    cases ds with
    | nil => unfold Tg.sets at h; cases h
    | cons d ds =>
      have h : ((t.set env d).bind fun e => Tg.sets ts e ds) = .ok e := by unfold Tg.sets at h; exact h
      obtain ⟨e1, h1, h2⟩ := Out.bind_ok h
      simp [sets_len ts h2]
mutual
theorem gT_ok : ∀ (tg : Tg) {d : MP.D} {v : V} {σ : L2.St} {env e : En} {Q : L2.St → Hp → Prop}, MF G np Pr Pm H0 Fz0 Z Fz σ H env → Rep G Fz H d v → tg.set env d = .ok e → (∀ σ', MF G np Pr Pm H0 Fz0 Z Fz σ' H e → Q σ' H) → gT G.K tg v σ H Q
  | .nm i, d, v, σ, env, e, Q, m, r, h, k => by
    unfold gT
    obtain ⟨hc, rfl⟩ := setV_eq (show setV env i (.f, d) = .ok e by unfold Tg.set at h; exact h)
    exact k _ (m.setF hc r)
  | .tp ts, d, v, σ, env, e, Q, m, r, h, k => by
    unfold gT
    cases d with
    | tup ds =>
      have h : Tg.sets ts env ds = .ok e := by unfold Tg.set at h; exact h
      cases r with
      | tup h1 h2 => exact ⟨_, _, rfl, h1, by rw [← h2.length]; exact sets_len ts h, gTs_ok ts m h2 h k⟩
    | _ => unfold Tg.set at h; cases h
theorem gTs_ok : ∀ (ts : List Tg) {ds : List MP.D} {vs : List V} {σ : L2.St} {env e : En} {Q : L2.St → Hp → Prop}, MF G np Pr Pm H0 Fz0 Z Fz σ H env → Reps G Fz H ds vs → Tg.sets ts env ds = .ok e → (∀ σ', MF G np Pr Pm H0 Fz0 Z Fz σ' H e → Q σ' H) → gTs G.K ts vs σ H Q
  | [], ds, vs, σ, env, e, Q, m, r, h, k => by
    unfold gTs
    cases ds with
    | nil =>
      cases r
      unfold Tg.sets at h
      cases h
      exact ⟨rfl, k _ m⟩
    | cons d ds => unfold Tg.sets at h; cases h
  | t :: ts, ds, vs, σ, env, e, Q, m, r, h, k => by
    unfold gTs
    cases ds with
    | nil => unfold Tg.sets at h; cases h
    | cons d ds =>
      cases r with
      | cons r1 r2 =>
        have h : ((t.set env d).bind fun e => Tg.sets ts e ds) = .ok e := by unfold Tg.sets at h; exact h
        obtain ⟨e1, h1, h2⟩ := Out.bind_ok h
        exact ⟨_, _, rfl, gT_ok t m r1 h1 fun σ' m' => gTs_ok ts m' r2 h2 k⟩
end
mutual
theorem set_nox : ∀ (tg : Tg) (env : En) (d : MP.D), (∃ e, tg.set env d = .ok e) ∨ tg.set env d = .fail
  | .nm i, env, d => by
    unfold Tg.set setV
    split
    · exact .inl ⟨_, rfl⟩
    · exact .inr rfl
  | .tp ts, env, d => by
    unfold Tg.set
    cases d with
    | tup ds => exact sets_nox ts env ds
    | _ => exact .inr rfl
theorem sets_nox : ∀ (ts : List Tg) (env : En) (ds : List MP.D), (∃ e, Tg.sets ts env ds = .ok e) ∨ Tg.sets ts env ds = .fail
  | [], env, ds => by
    unfold Tg.sets
    cases ds with
    | nil => exact .inl ⟨_, rfl⟩
    | cons d ds => exact .inr rfl
  | t :: ts, env, ds => by
    unfold Tg.sets
    cases ds with
    | nil => exact .inr rfl
    | cons d ds =>
      rcases set_nox t env d with ⟨e, h⟩ | h
      · simp only [h]
        exact sets_nox ts e ds
      · simp only [h]
        exact .inr rfl
end
theorem OPS.set {tg : Tg} {d : MP.D} {env1 : En} {f : En → Out (Fw × En)} (q : OPS G W np Pr Pm H0 Fz0 Z ((tg.set env1 d).bind f) D) : ∃ e, tg.set env1 d = .ok e ∧ OPS G W np Pr Pm H0 Fz0 Z (f e) D := by
  rcases set_nox tg env1 d with ⟨e, h⟩ | h
  · rw [h] at q
    exact ⟨e, h, q⟩
  · rw [h] at q
    exact q.elim
theorem OPS.use {av : AV} {env1 : En} {f : MP.D × En → Out (Fw × En)} (q : OPS G W np Pr Pm H0 Fz0 Z ((kUse av env1).bind f) D) : ∃ r, av.use env1 = some r ∧ OPS G W np Pr Pm H0 Fz0 Z (f r) D := by
  unfold kUse at q
  cases h : av.use env1 with
  | none => rw [h] at q; exact q.elim
  | some r => rw [h] at q; exact ⟨r, rfl, q⟩
theorem ms_unp {tg e : Expr} {t : Tg} {ex : Ex} (he : PE X e (rd G cf cl lf W ex)) (hg : PG X tg (gT G.K t)) (hs : swapsWithSole [tg] e pos.line X.env = pure false) (hw : swappedStores [tg] e X.env = pure none) (h1 : (assignEach [tg] X.env).map (·.2) = [assign tg X.env]) :
    PS X (.Assign [tg] e pos) (rdS G cf cl lf W np (.unp t ex)) := (ps_asg he hg hs hw h1).imp fun D σ H ⟨Pr, Pm, H0, Fz0, Z, Fz, env, m, q⟩ => by
  unfold evS at q
  refine ⟨Fz, env, m.mt, (OPS.ex m q).imp fun av env1 q1 v Fz1 H1 p1 r1 f1 => ?_⟩
  obtain ⟨⟨d, e2⟩, hu, q2⟩ := OPS.use q1
  obtain ⟨Fz2, p2, rp, _⟩ := use_ok m.mt p1 r1 f1 hu
  obtain ⟨e3, h3, q3⟩ := OPS.set q2
  exact gT_ok t (m.step p2) rp h3 fun σ' m' => q3 _ _ _ m'
/-! ### stores -/
/-- o[k] = v by values -/
def rSub (G : Gx) : TSet := fun o k v H Q => ∃ Fz a d kd vd d', o = .ref a ∧ ¬ Fz a ∧ (∀ b, Fz b → ∃ o, H b = some o) ∧ OwnC G Fz H a d ∧ RepC G Fz H kd k ∧ Rep G Fz H vd v ∧ subD d kd vd = some d' ∧ ∀ H', (∀ b o, b ≠ a → H b = some o → H' b = some o) → OwnC G Fz H' a d' → Q H'
theorem MF.put (m : MF G np Pr Pm H0 Fz0 Z Fz σ H env) {i : Nat} {fl : Fl} {d d' : MP.D} {a : Addr} (h : env.at i = some (fl, d)) (ho : fl.own = true) (hv : σ[i]? = some (some (.ref a))) (hk : ∀ b o, b ≠ a → H b = some o → H' b = some o) (hn : OwnC G Fz H' a d') :
    MF G np Pr Pm H0 Fz0 Z Fz σ H' (env.set i (some (fl, d'))) := by
  have hi := En.at_lt h
  have ow : Ow σ env a := ⟨i, _, h, ho, hv⟩
  obtain ⟨nf, o0, h0, c0⟩ := m.mt.owOk a ow
  obtain ⟨o1, h1, c1⟩ := hn.there
  have kp : Keep (fun b => b = a) H H' := ⟨fun b o e n _ => hk b o n e, fun b ps e n => ⟨ps, hk b _ n e⟩, fun b o e => by
    by_cases hb : b = a
    · subst hb; exact ⟨o1, h1⟩
    · exact ⟨o, hk b o hb e⟩⟩
  have okO : OwOk Fz H (fun b => b = a) := fun b z => by subst z; exact ⟨nf, o0, h0, c0⟩
  have sub : ∀ j s, En.at (env.set i (some (fl, d'))) j = some s → ∃ d'', env.at j = some (s.1, d'') := fun j s e => by
    rw [En.at_set hi] at e
    split at e
    · rename_i hj
      cases e
      subst hj
      exact ⟨d, h⟩
    · exact ⟨s.2, e⟩
  refine ⟨⟨by rw [List.length_set]; exact m.mt.len, fun j s e => ?_, fun j l b s s' e1 e2 o1 o2 => ?_, fun b z => ?_, m.mt.tabs.ext hk nf fun ps z => by rw [h0] at z; cases z; exact c0⟩, ?_, fun b ⟨j, s, e1, e2, e3⟩ => ?_, m.fz, m.sub, fun j s b hj e1 e2 e3 => ?_, fun j b e => ?_, fun b o e => ?_⟩
  · rw [En.at_set hi] at e
    split at e
    · rename_i hj
      cases e
      subst hj
      refine ⟨_, hv, ?_⟩
      unfold SlotR
      rw [if_pos ho]
      exact ⟨a, rfl, nf, hn⟩
    · rename_i hj
      obtain ⟨v, e1, r⟩ := m.mt.slot j s e
      refine ⟨v, e1, ?_⟩
      unfold SlotR at r ⊢
      split at r
      · rename_i os
        rw [if_pos os]
        obtain ⟨b, rfl, n, c⟩ := r
        refine ⟨b, rfl, n, c.keep kp okO (fun _ h => h) fun z => ?_⟩
        subst z
        exact hj (m.mt.dis j i _ s _ e h os ho e1 hv)
      · rename_i os
        rw [if_neg os]
        exact Rep.keep kp okO (fun _ h => h) _ _ r
  · obtain ⟨x, hx⟩ := sub j s e1
    obtain ⟨y, hy⟩ := sub l s' e2
    exact m.mt.dis j l b _ _ hx hy o1 o2
  · obtain ⟨o, e⟩ := m.mt.dom b z
    exact kp.dm b o e
  · refine ⟨fun b o e n t => hk b o (fun z => ?_) (m.keep.k _ _ e n t), fun b ps e n => ?_, fun b o e => ?_⟩
    · subst z
      rcases m.ow _ ow with w | w
      · exact n w
      · rw [e] at w; cases w
    · obtain ⟨qs, e1⟩ := m.keep.t _ _ e n
      exact ⟨qs, hk b _ (fun z => by rw [z, h0] at e1; cases e1; exact c0) e1⟩
    · obtain ⟨o2, e2⟩ := m.keep.dm _ _ e
      exact kp.dm b o2 e2
  · obtain ⟨x, hx⟩ := sub j s e1
    exact m.ow b ⟨j, _, hx, e2, e3⟩
  · obtain ⟨x, hx⟩ := sub j s e1
    exact m.fresh j _ b hj hx e2 e3
  · obtain ⟨g1, fl', d2, g2, g3⟩ := m.par j b e
    refine ⟨g1, ?_⟩
    by_cases hj : j = i
    · subst hj
      rw [h] at g2
      cases g2
      exact ⟨fl, d', by rw [En.at_set hi, if_pos rfl], g3⟩
    · exact ⟨fl', d2, by rw [En.at_set hi, if_neg hj]; exact g2, g3⟩
  · obtain ⟨g1, g2, g3⟩ := m.pin b o e
    refine ⟨hk b o (fun z => ?_) g1, g2, g3⟩
    subst z
    rcases g2 with w | w
    · exact nf w
    · rw [h0] at g1; cases g1; exact w c0
end
end MP
set_option maxRecDepth 100000
set_option maxHeartbeats 2000000
/-! MP10: stores into lists and dicts, loops. -/
namespace MP
open PySem PySem.Spec PyProof.Rows L2
section
variable {G : Gx} {cf : CF} {cl : Nat → LF → List SV → Out (SV × List SV)} {lf : Option LF} {W : WX} {X : Cx} {pos : Pos} {np : Nat} {Pr : List (Nat × Addr)} {Pm : Addr → Prop} {H0 : Hp} {Fz0 Fz Fz' Fz1 : Addr → Prop} {Z : Addr → HO → Prop} {σ : L2.St} {H H' : Hp} {env env' : En} {D : Ends} {α : Type}
theorem ownAt_eq {i : Nat} {fl : Fl} {d : MP.D} (h : ownAt env i = some (fl, d)) : env.at i = some (fl, d) ∧ fl.own = true := by
  unfold ownAt at h
  cases e : env.at i with
  | none => rw [e] at h; cases h
  | some s =>
    obtain ⟨fl', d'⟩ := s
    rw [e] at h
    simp only at h
    split at h
    · cases h; exact ⟨rfl, ‹_›⟩
    · cases h
theorem Mt.own (m : Mt G Fz σ H env) {i : Nat} {fl : Fl} {d : MP.D} (h : env.at i = some (fl, d)) (ho : fl.own = true) : ∃ a, σ[i]? = some (some (.ref a)) ∧ ¬ Fz a ∧ OwnC G Fz H a d := by
  obtain ⟨v, e, r⟩ := m.slot i _ h
  unfold SlotR at r
  rw [if_pos ho] at r
  obtain ⟨a, rfl, n, c⟩ := r
  exact ⟨a, e, n, c⟩
theorem ms_sub {i : Nat} {o k e : Expr} {ek ex : Ex} {p2 : Pos} (he : PE X e (rd G cf cl lf W ex)) (ho : PE X o (tVar i)) (hk : PE X k (rd G cf cl lf W ek)) (hset : PSet X (rSub G))
    (ha : ∀ v, assign (.Subscript o k p2) X.env v = (do
      let ov ← holding [v] (eval o X.env)
      let iv ← holding [v, ov] (eval k X.env)
      standAt p2
      holding [v, ov, iv] (setItem ov iv v)
      release [v, ov, iv] []))
    (hs : swapsWithSole [.Subscript o k p2] e pos.line X.env = pure false) (hw : swappedStores [.Subscript o k p2] e X.env = pure none) (h1 : (assignEach [.Subscript o k p2] X.env).map (·.2) = [assign (.Subscript o k p2) X.env]) :
    PS X (.Assign [.Subscript o k p2] e pos) (rdS G cf cl lf W np (.sub i ek ex)) := (ps_asg he (pg_sub ho hk hset ha) hs hw h1).imp fun D σ H ⟨Pr, Pm, H0, Fz0, Z, Fz, env, m, q⟩ => by
  unfold evS at q
  refine ⟨Fz, env, m.mt, (OPS.ex m q).imp fun av env1 q1 v Fz1 H1 p1 r1 f1 => ?_⟩
  have m1 := m.step p1
  have q1 : OPS G W np Pr Pm H0 Fz0 Z (if (env1.at i).isSome = true then (evA cf cl lf ek env1).bind fun rk => kSub i av rk.1 rk.2 else .fail) D := q1
  cases e0 : env1.at i with
  | none => rw [e0, if_neg (by simp)] at q1; exact q1.elim
  | some s0 =>
    rw [e0, if_pos (by simp)] at q1
    obtain ⟨v0, hv, _⟩ := m1.mt.slot i s0 e0
    refine ⟨v0, hv, Fz1, env1, p1.mt, (OPS.ex m1 q1).imp fun kv env2 q2 kx Fz2 H2 p2 r2 f2 => ?_⟩
    obtain ⟨⟨vd, env3⟩, hu, q3⟩ := OPS.use q2
    have p12 := p1.trans m.mt p2
    obtain ⟨Fz3, p3, rv, sub3, new3, _, sl3⟩ := use_ok m.mt p12 (r1.keep p1.mt p2) f1 hu
    have m3 := m.step p3
    simp only at q3
    cases h1 : kv.rd env3 with
    | none => rw [h1] at q3; exact q3.elim
    | some kd =>
      cases h2 : ownAt env3 i with
      | none => rw [h1, h2] at q3; exact q3.elim
      | some s =>
        obtain ⟨fl, d⟩ := s
        rw [h1, h2] at q3
        simp only at q3
        cases h3 : subD d kd vd with
        | none => rw [h3] at q3; exact q3.elim
        | some d' =>
          rw [h3] at q3
          obtain ⟨g1, g2⟩ := ownAt_eq h2
          obtain ⟨a, ha, nf, c⟩ := m3.mt.own g1 g2
          rw [hv] at ha
          cases ha
          have rk : RepC G Fz3 H2 kd kx := by
            have key : AvR G σ Fz3 H2 env3 kv kx ∨ ∃ b d, kv = .val true d ∧ kx = .ref b ∧ OwnC G Fz3 H2 b d := by
              cases kv with
              | slot j =>
                obtain ⟨k1, s, k2⟩ := r2
                exact .inl ⟨k1, sl3 j s k2⟩
              | val own e =>
                cases own with
                | false => exact .inl (Rep.keep (O := fun _ => False) Keep.refl owOk_false sub3 _ _ r2)
                | true =>
                  obtain ⟨b, rfl, n, no, c⟩ := r2
                  exact .inr ⟨b, e, rfl, rfl, c.keep (O := fun _ => False) Keep.refl owOk_false sub3 (fun z => z)⟩
            rcases key with k | ⟨b, d, rfl, rfl, c⟩
            · exact k.rd m3.mt h1
            · have : d = kd := Option.some.inj h1
              subst this
              exact c.c
          refine ⟨Fz3, a, d, kd, vd, d', rfl, nf, m3.mt.dom, c, rk, rv, h3, fun H4 hk hc => ?_⟩
          exact q3 _ _ _ (m3.put g1 g2 hv hk hc)
/-- xs.append(e) -/
theorem ms_app {i : Nat} {st : Stmt} {ex : Ex} (h : PS X st (tDrop (tBM X.K "list" rAppend (tVar i) (tCons (rd G cf cl lf W ex) tNil)))) (hK : X.K = G.K) : PS X st (rdS G cf cl lf W np (.app i ex)) := h.imp fun D σ H ⟨Pr, Pm, H0, Fz0, Z, Fz, env, m, q⟩ => by
  unfold evS at q
  split at q
  · rename_i hl
    cases h0 : ownAt env i with
    | none => rw [h0] at hl; cases hl
    | some s =>
      obtain ⟨fl0, d0⟩ := s
      rw [h0] at hl
      cases d0 with
      | lst ds0 =>
        obtain ⟨g1, g2⟩ := ownAt_eq h0
        obtain ⟨a, ha, nf, xs0, hx0, _⟩ := m.mt.own g1 g2
        refine ⟨_, ha, .inl ⟨rfl, _, SqL.of hx0⟩, Fz, env, m.mt, (OPS.ex m q).imp fun av env1 q1 v Fz1 H1 p1 r1 f1 => ?_⟩
        obtain ⟨⟨vd, env3⟩, hu, q3⟩ := OPS.use q1
        obtain ⟨Fz3, p3, rv, sub3, new3, _, sl3⟩ := use_ok m.mt p1 r1 f1 hu
        have m3 := m.step p3
        simp only at q3
        cases h2 : ownAt env3 i with
        | none => rw [h2] at q3; exact q3.elim
        | some s =>
          obtain ⟨fl, d⟩ := s
          rw [h2] at q3
          cases d with
          | lst ds =>
            simp only at q3
            split at q3
            · rename_i hlt
              obtain ⟨k1, k2⟩ := ownAt_eq h2
              obtain ⟨b, hb, nf3, xs, hx, rs⟩ := m3.mt.own k1 k2
              rw [ha] at hb
              cases hb
              have hlen : xs.length < sizeLine := by rw [← rs.length, sizeLine_eq]; exact hlt
              refine ⟨a, xs, v, rfl, rfl, hx, hlen, ?_⟩
              refine q3 _ _ _ (m3.put k1 k2 ha (fun b o n e => by rw [upd_ne n]; exact e) ⟨_, upd_same, ?_⟩)
              have kp : Keep (fun b => b = a) H1 (upd H1 a (.lst (xs ++ [v]))) := ⟨fun b o e n _ => by rw [upd_ne n]; exact e, fun b ps e n => ⟨ps, by rw [upd_ne n]; exact e⟩, fun b o e => by
                by_cases hb : b = a
                · subst hb; exact ⟨_, upd_same⟩
                · exact ⟨o, by rw [upd_ne hb]; exact e⟩⟩
              have okO : OwOk Fz3 H1 (fun b => b = a) := fun b z => by subst z; exact ⟨nf3, _, hx, trivial⟩
              exact Reps.append (Reps.keep kp okO (fun _ h => h) _ _ rs) (.cons (Rep.keep kp okO (fun _ h => h) _ _ rv) .nil)
            · exact q3.elim
          | _ => exact q3.elim
      | _ => cases hl
  · exact q.elim
/-- xs.extend(ys), ys a new list -/
theorem ms_ext {i : Nat} {st : Stmt} {ex : Ex} (h : PS X st (tDrop (tBM X.K "list" rExtend (tVar i) (tCons (rd G cf cl lf W ex) tNil)))) (hK : X.K = G.K) : PS X st (rdS G cf cl lf W np (.ext i ex)) := h.imp fun D σ H ⟨Pr, Pm, H0, Fz0, Z, Fz, env, m, q⟩ => by
  unfold evS at q
  split at q
  · rename_i hl
    cases h0 : ownAt env i with
    | none => rw [h0] at hl; cases hl
    | some s =>
      obtain ⟨fl0, d0⟩ := s
      rw [h0] at hl
      cases d0 with
      | lst ds0 =>
        obtain ⟨g1, g2⟩ := ownAt_eq h0
        obtain ⟨a, ha, nf, xs0, hx0, _⟩ := m.mt.own g1 g2
        refine ⟨_, ha, .inl ⟨rfl, _, SqL.of hx0⟩, Fz, env, m.mt, (OPS.ex m q).imp fun av env1 q1 v Fz1 H1 p1 r1 f1 => ?_⟩
        have m3 := m.step p1
        have q1 : OPS G W np Pr Pm H0 Fz0 Z (kExt i av env1) D := q1
        unfold kExt at q1
        cases av with
        | slot j => exact q1.elim
        | val own vd =>
          cases own with
          | false => exact q1.elim
          | true =>
            obtain ⟨b, rfl, nfb, nob, cb⟩ := r1
            cases vd with
            | lst vs =>
              obtain ⟨zs, hz, rz⟩ := cb
              cases h2 : ownAt env1 i with
              | none => rw [h2] at q1; exact q1.elim
              | some s =>
                obtain ⟨fl, d⟩ := s
                rw [h2] at q1
                cases d with
                | lst ds =>
                  simp only at q1
                  split at q1
                  · rename_i hlt
                    obtain ⟨k1, k2⟩ := ownAt_eq h2
                    obtain ⟨b', hb, nf3, xs, hx, rs⟩ := m3.mt.own k1 k2
                    rw [ha] at hb
                    cases hb
                    have hlen : xs.length + zs.length ≤ sizeLine := by rw [← rs.length, ← rz.length, sizeLine_eq]; exact hlt
                    refine ⟨a, b, xs, zs, rfl, rfl, hx, hz, hlen, ?_⟩
                    refine q1 _ _ _ (m3.put k1 k2 ha (fun b o n e => by rw [upd_ne n]; exact e) ⟨_, upd_same, ?_⟩)
                    have kp : Keep (fun b => b = a) H1 (upd H1 a (.lst (xs ++ zs))) := ⟨fun b o e n _ => by rw [upd_ne n]; exact e, fun b ps e n => ⟨ps, by rw [upd_ne n]; exact e⟩, fun b o e => by
                      by_cases hb : b = a
                      · subst hb; exact ⟨_, upd_same⟩
                      · exact ⟨o, by rw [upd_ne hb]; exact e⟩⟩
                    have okO : OwOk Fz1 H1 (fun b => b = a) := fun b z => by subst z; exact ⟨nf3, _, hx, trivial⟩
                    exact Reps.append (Reps.keep kp okO (fun _ h => h) _ _ rs) (Reps.keep kp okO (fun _ h => h) _ _ rz)
                  · exact q1.elim
                | _ => exact q1.elim
            | _ => exact q1.elim
      | _ => cases hl
  · exact q.elim
/-! ### while -/
theorem ms_whl {c : Expr} {body : List Stmt} {ec : Ex} {sb : Sms} (hp : PassesOwn (model X.prog X.w) X.A X.env X.xe) (hc : PT X c (rdT G cf cl lf W ec)) (hb : PSs X body (rdSs G cf cl lf W np sb)) : PS X (.While c body [] pos) (rdS G cf cl lf W np (.whl ec sb)) := (ps_while hp hc hb).imp fun D σ H ⟨Pr, Pm, H0, Fz0, Z, Fz, env, m, q⟩ => by
  unfold evS at q
  refine ⟨fun n σ H => ∃ Fz env, MF G np Pr Pm H0 Fz0 Z Fz σ H env ∧ OPS G W np Pr Pm H0 Fz0 Z (whlF (fun e => evT cf cl lf ec e) (fun e => evSs cf cl lf sb e) n env) D, ⟨FUEL, Fz, env, m, q⟩, ?_⟩
  rintro n σ H ⟨Fz, env, m, q⟩
  cases n with
  | zero => exact q.elim
  | succ n =>
    unfold whlF at q
    refine ⟨Fz, env, m.mt, (OPS.ex m q).imp fun t env1 q1 Fz1 H1 p1 => ?_⟩
    have m1 := m.step p1
    cases t with
    | false =>
      refine iteF ?_
      exact q1 _ _ _ m1
    | true =>
      refine iteT ?_
      have q1 : OPS G W np Pr Pm H0 Fz0 Z ((evSs cf cl lf sb env1).bind fun r => match r.1 with
        | .nx => whlF (fun e => evT cf cl lf ec e) (fun e => evSs cf cl lf sb e) n r.2
        | .ct => whlF (fun e => evT cf cl lf ec e) (fun e => evSs cf cl lf sb e) n r.2
        | .bk => .ok (.nx, r.2)
        | .rt s => .ok (.rt s, r.2)) D := q1
      refine ⟨fun σ H => ∃ Fz env, MF G np Pr Pm H0 Fz0 Z Fz σ H env ∧ OPS G W np Pr Pm H0 Fz0 Z (whlF (fun e => evT cf cl lf ec e) (fun e => evSs cf cl lf sb e) n env) D, fun σ' H' h => ⟨n, Nat.lt_succ_self n, h⟩, Pr, Pm, H0, Fz0, Z, Fz1, env1, m1, ?_⟩
      cases h : evSs cf cl lf sb env1 with
      | fail => rw [h] at q1; exact q1.elim
      | exn x l e => rw [h] at q1; exact q1
      | ok r =>
        obtain ⟨w, e⟩ := r
        rw [h] at q1
        cases w with
        | nx => exact fun σ' Fz' H' m' => ⟨Fz', e, m', q1⟩
        | ct => exact fun σ' Fz' H' m' => ⟨Fz', e, m', q1⟩
        | bk => exact q1
        | rt s => exact q1
/-! ### for -/
/-- what is walked gives the data in order -/
def ItOk (G : Gx) (Fz1 : Addr → Prop) (H1 : Hp) (J : It) (ds : List MP.D) : Prop := ∀ i H2, (∀ b o, ZF Fz1 H1 b o → H2 b = some o) →
  (i < ds.length → J.go i H2) ∧ (i = ds.length → J.stop i H2) ∧ ∀ x H3 d, J.yld i H2 x H3 → ds[i]? = some d → (∀ b o, H2 b = some o → H3 b = some o) ∧ Rep G Fz1 H3 d x
def rdI (G : Gx) (cf : CF) (cl : Nat → LF → List SV → Out (SV × List SV)) (lf : Option LF) (W : WX) (it : Wk) : TI := fun σ H R => ∃ Fz env, Mt G Fz σ H env ∧ OP G W σ Fz H env (evI cf cl lf it env) fun ds env' => ∀ J Fz' H', Po G σ Fz H env Fz' H' env' → ItOk G Fz' H' J ds → R J H'
theorem MF.rep (m : MF G np Pr Pm H0 Fz1 Z Fz σ H env) {d : MP.D} {v : V} (r : Rep G Fz1 H d v) : Rep G Fz H d v := Rep.keep (O := fun _ => False) Keep.refl owOk_false m.sub _ _ r
theorem ms_for {tg iter : Expr} {body : List Stmt} {t : Tg} {it : Wk} {sb : Sms} (hp : PassesOwn (model X.prog X.w) X.A X.env X.xe) (hc : X.calm = true) (hi : PI X tg iter (rdI G cf cl lf W it)) (hg : PG X tg (gT G.K t)) (hb : PSs X body (rdSs G cf cl lf W np sb))
    (hs : ∀ x, foldedSetIterable iter X.env x = pure x) : PS X (.For tg iter body [] pos) (rdS G cf cl lf W np (.for t it sb)) := (ps_for hp hc hi hg hb hs).imp fun D σ H ⟨Pr, Pm, H0, Fz0, Z, Fz, env, m, q⟩ => by
  unfold evS at q
  refine ⟨Fz, env, m.mt, (OPS.ex m q).imp fun ds env1 q1 J Fz1 H1 p1 ok => ?_⟩
  have m1 := m.step p1
  have me := m1.enter
  have lv : ∀ {Fz' : Addr → Prop} {σ' : L2.St} {H' : Hp} {e : En}, MF G np Pr Pm H0 Fz1 (fun b o => Z b o ∨ ZF Fz1 H1 b o) Fz' σ' H' e → MF G np Pr Pm H0 Fz0 Z Fz' σ' H' e := fun m' => m'.leave m1.fz m1.sub fun b o => .inl
  refine ⟨fun i k σ H => k = ds.length - i ∧ i ≤ ds.length ∧ ∃ Fz env, MF G np Pr Pm H0 Fz1 (fun b o => Z b o ∨ ZF Fz1 H1 b o) Fz σ H env ∧ OPS G W np Pr Pm H0 Fz0 Z (forF t (fun e => evSs cf cl lf sb e) (ds.drop i) env) D, ⟨ds.length, by simp, Nat.zero_le _, Fz1, env1, me, by simpa using q1⟩, ?_⟩
  rintro i k σ H ⟨rfl, hi, Fz2, env2, m2, q2⟩
  obtain ⟨o1, o2, o3⟩ := ok i H fun b o z => (m2.pin b o (.inr z)).1
  by_cases hlt : i < ds.length
  · refine .inr ⟨o1 hlt, fun σ H => ds.length - (i + 1) = ds.length - (i + 1) ∧ i + 1 ≤ ds.length ∧ ∃ Fz env, MF G np Pr Pm H0 Fz1 (fun b o => Z b o ∨ ZF Fz1 H1 b o) Fz σ H env ∧ OPS G W np Pr Pm H0 Fz0 Z (forF t (fun e => evSs cf cl lf sb e) (ds.drop (i + 1)) env) D, fun σ' H' h => ⟨ds.length - (i + 1), by omega, h⟩, fun x H3 y => ?_⟩
    have hd : ds[i]? = some ds[i] := by simp [hlt]
    obtain ⟨e3, r3⟩ := o3 x H3 _ y hd
    rw [List.drop_eq_getElem_cons hlt] at q2
    unfold forF at q2
    obtain ⟨e1, h1, q3⟩ := OPS.set q2
    have m3 := m2.step (Po.same m2.mt e3)
    refine gT_ok t m3 (m3.rep r3) h1 fun σ' m4 => ⟨Pr, Pm, H0, Fz1, _, Fz2, e1, m4, ?_⟩
    cases h : evSs cf cl lf sb e1 with
    | fail => rw [h] at q3; exact q3.elim
    | exn x l e => rw [h] at q3; exact fun cls d σ5 Fz5 H5 er m5 => q3 cls d σ5 Fz5 H5 er (lv m5)
    | ok r =>
      obtain ⟨w, e⟩ := r
      rw [h] at q3
      cases w with
      | nx => exact fun σ5 Fz5 H5 m5 => ⟨rfl, hlt, Fz5, e, m5, q3⟩
      | ct => exact fun σ5 Fz5 H5 m5 => ⟨rfl, hlt, Fz5, e, m5, q3⟩
      | bk => exact fun σ5 Fz5 H5 m5 => q3 σ5 Fz5 H5 (lv m5)
      | rt s => exact fun σ5 Fz5 H5 v m5 rr => q3 σ5 Fz5 H5 v (lv m5) rr
  · have e : i = ds.length := by omega
    subst e
    rw [List.drop_length] at q2
    exact .inl ⟨o2 rfl, q2 _ _ _ (lv m2)⟩
end
end MP
set_option maxRecDepth 100000
set_option maxHeartbeats 2000000
/-! MP11: what is walked. -/
namespace MP
open PySem PySem.Spec PyProof.Rows L2
section
variable {G : Gx} {cf : CF} {cl : Nat → LF → List SV → Out (SV × List SV)} {lf : Option LF} {W : WX} {X : Cx} {pos : Pos} {Fz Fz' Fz1 : Addr → Prop} {H H' H1 : Hp} {tg : Expr}
theorem cell_tup {xs : List V} : ¬ isCell (.tup xs) := fun h => h
theorem zf_tup {a : Addr} {xs : List V} {H2 : Hp} (h : SqT G.K H1 a xs) (hz : ∀ b o, ZF Fz1 H1 b o → H2 b = some o) : SqT G.K H2 a xs := by
  rcases h with (h | ⟨o, h⟩) | h
  · exact .inl (.inl (hz a _ ⟨h, .inr fun z => z, fun ps z => nomatch z⟩))
  · exact .inl (.inr ⟨o, hz a _ ⟨h, .inr fun z => z, fun ps z => nomatch z⟩⟩)
  · exact .inr h
theorem zf_lst {a : Addr} {xs : List V} {H2 : Hp} (hf : Fz1 a) (h : H1 a = some (.lst xs)) (hz : ∀ b o, ZF Fz1 H1 b o → H2 b = some o) : H2 a = some (.lst xs) :=
  hz a _ ⟨h, .inl hf, fun ps z => nomatch z⟩
theorem zf_fls {a : Addr} {ns : List Int} {H2 : Hp} (h : FlsR G H1 a ns) (hz : ∀ b o, ZF Fz1 H1 b o → H2 b = some o) : FlsR G H2 a ns := by
  rcases h with ⟨o, h⟩ | h
  · exact .inl ⟨o, hz a _ ⟨h, .inr fun z => z, fun ps z => nomatch z⟩⟩
  · exact .inr h
mutual
theorem Rep.zf {H2 : Hp} (hz : ∀ b o, ZF Fz1 H1 b o → H2 b = some o) : ∀ (d : MP.D) (v : V), Rep G Fz1 H1 d v → Rep G Fz1 H2 d v
  | .non, _, h => by cases h; exact .non
  | .bl b, _, h => by cases h; exact .bl b
  | .int i, _, h => by cases h; exact .int i
  | .str x, _, h => by cases h with | str _ e => exact .str x e
  | .fn i, _, h => by cases h with | fn e => exact .fn e
  | .fls ns, _, h => by cases h with | fls e => exact .fls (zf_fls e hz)
  | .tup ds, _, h => by cases h with | tup h1 h2 => exact .tup (zf_tup h1 hz) (Reps.zf hz ds _ h2)
  | .lst ds, _, h => by cases h with | lst h0 h1 h2 => exact .lst h0 (zf_lst h0 h1 hz) (Reps.zf hz ds _ h2)
  | .dct ks vs, _, h => by
    cases h with
    | dct h0 h1 h2 h3 h4 => exact .dct h0 (hz _ _ ⟨h1, .inl h0, dctO_ne⟩) h2 (Reps.zf hz ks _ h3) (Reps.zf hz vs _ h4)
theorem Reps.zf {H2 : Hp} (hz : ∀ b o, ZF Fz1 H1 b o → H2 b = some o) : ∀ (ds : List MP.D) (vs : List V), Reps G Fz1 H1 ds vs → Reps G Fz1 H2 ds vs
  | [], _, h => by cases h; exact .nil
  | d :: ds, _, h => by cases h with | cons h1 h2 => exact .cons (Rep.zf hz d _ h1) (Reps.zf hz ds _ h2)
end
theorem itOk_list {a : Addr} {xs : List V} {ds : List MP.D} (hf : Fz1 a) (h : H1 a = some (.lst xs)) (rs : Reps G Fz1 H1 ds xs) : ItOk G Fz1 H1 (Itl G.K a) ds := by
  intro i H2 hz
  have q : SqL G.K H2 a xs := .of (zf_lst hf h hz)
  have hl := rs.length
  refine ⟨fun hi => ⟨xs, xs[i]'(by omega), q, by simp [hl ▸ hi]⟩, fun hi => ⟨xs, q, by omega⟩, fun x H3 d y hd => ?_⟩
  obtain ⟨rfl, y⟩ := y
  obtain ⟨v, hv, r⟩ := (Reps.zf hz _ _ rs).get hd
  have := y xs q
  rw [hv] at this; cases this
  exact ⟨fun _ _ h => h, r⟩
theorem reps_ints (ns : List Int) : Reps G Fz1 H1 (ns.map MP.D.int) (ns.map V.int) := by
  induction ns with
  | nil => exact .nil
  | cons n ns ih => exact .cons (.int n) ih
theorem itOk_fls {a : Addr} {ns : List Int} (h : FlsR G H1 a ns) : ItOk G Fz1 H1 (Itl G.K a) (ns.map MP.D.int) := by
  intro i H2 hz
  have q := (zf_fls h hz).sq
  have rs : Reps G Fz1 H2 (ns.map MP.D.int) (ns.map V.int) := reps_ints ns
  have hl := rs.length
  refine ⟨fun hi => ⟨_, (ns.map V.int)[i]'(by omega), q, by simp [hl ▸ hi]⟩, fun hi => ⟨_, q, by omega⟩, fun x H3 d y hd => ?_⟩
  obtain ⟨rfl, y⟩ := y
  obtain ⟨v, hv, r⟩ := rs.get hd
  have := y _ q
  rw [hv] at this; cases this
  exact ⟨fun _ _ h => h, r⟩
theorem itOk_tup {a : Addr} {xs : List V} {ds : List MP.D} (h : SqT G.K H1 a xs) (rs : Reps G Fz1 H1 ds xs) : ItOk G Fz1 H1 (Itt G.K a) ds := by
  intro i H2 hz
  have q := zf_tup h hz
  have hl := rs.length
  refine ⟨fun hi => ⟨xs, xs[i]'(by omega), q, by simp [hl ▸ hi]⟩, fun hi => ⟨xs, q, by omega⟩, fun x H3 d y hd => ?_⟩
  obtain ⟨rfl, y⟩ := y
  obtain ⟨v, hv, r⟩ := (Reps.zf hz _ _ rs).get hd
  have := y xs q
  rw [hv] at this; cases this
  exact ⟨fun _ _ h => h, r⟩
theorem itOk_str {x : Str} (hx : sOk x = true) : ItOk G Fz1 H1 (Its x) (x.cps.toList.map fun c => .str ⟨#[c]⟩) := by
  intro i H2 hz
  refine ⟨fun hi => by show i < x.cps.size; simpa using hi, fun hi => by show x.cps.size ≤ i; rw [hi]; simp, fun v H3 d y hd => ?_⟩
  obtain ⟨rfl, c, hc, rfl⟩ := y
  rw [List.getElem?_map] at hd
  have : x.cps.toList[i]? = some c := by simpa using hc
  rw [this] at hd
  cases hd
  refine ⟨fun _ _ h => h, .str _ ?_⟩
  have hm : c ∈ x.cps := Array.mem_of_getElem? hc
  have := (Array.all_eq_true_iff_forall_mem.mp hx) c hm
  simpa using this
theorem itOk_rng {a b : Int} : ItOk G Fz1 H1 (Itr a (b - a).toNat) (rng a b) := by
  intro i H2 hz
  have hl : (rng a b).length = (b - a).toNat := by simp [rng]
  refine ⟨fun hi => by show i < (b - a).toNat; omega, fun hi => by show (b - a).toNat ≤ i; omega, fun v H3 d y hd => ?_⟩
  obtain ⟨rfl, rfl⟩ := y
  unfold rng at hd
  rw [List.getElem?_map] at hd
  cases h : (List.range (b - a).toNat)[i]? with
  | none => rw [h] at hd; cases hd
  | some j =>
    rw [h] at hd
    cases hd
    have : j = i := by
      have := List.getElem?_range (n := (b - a).toNat) (i := i) (by
        by_cases hi : i < (b - a).toNat
        · exact hi
        · rw [List.getElem?_eq_none (by simpa using hi)] at h; cases h)
      rw [this] at h; cases h; rfl
    subst this
    exact ⟨fun _ _ h => h, .int _⟩
/-! ### a dict, by its keys -/
def Itd (G : Gx) (a : Addr) (es : List DE) (o : Obj) : It :=
  ⟨fun i H => H a = some (dctO G a es o) ∧ i < es.length, fun i H x H' => H' = H ∧ ∃ e, es[i]? = some e ∧ x = .ref e.2.1, fun i H => H a = some (dctO G a es o) ∧ es.length ≤ i⟩
theorem dctO_at {P : Program} {w : World} {h : Heap} {a b : Addr} {es : List DE} {o : Obj} (q : ObjOk P w H h b (dctO G a es o)) : h.get? a = some o ∧ DctOk G a es o := by
  unfold dctO at q
  exact q.1
theorem DctOk.entry {a : Addr} {es : List DE} {o : Obj} (d : DctOk G a es o) : ∃ des ep, o.ExactDict ∧ o.data = .dict des ep ∧ des.size = es.length ∧ ∀ i (hi : i < des.size), ∃ e, es[i]? = some e ∧ des[i].key = .ref e.2.1 ∧ RelV e.2.2 des[i].val := by
  obtain ⟨_, _, us, pr, des, ep, hx, hd, he, _⟩ := d
  have hl : des.size = us.length := by
    have := congrArg List.length he
    simpa using this
  refine ⟨des, ep, hx, hd, by rw [hl]; exact (Paired.length pr).symm, fun i hi => ?_⟩
  have hu : i < us.length := hl ▸ hi
  have e1 : des.toList[i]? = some (entryOfKey (nestedKind G.P G.w) us[i]) := by rw [he]; simp [hu]
  have e2 : des[i] = entryOfKey (nestedKind G.P G.w) us[i] := by
    have : des.toList[i]? = some des[i] := by simp [hi]
    rw [this] at e1; exact Option.some.inj e1
  have pg : ∀ {es : List DE} {us : List (NestedKey × Addr × Value)} {i : Nat} (hi : i < us.length), Paired (fun (p : DE) (q : NestedKey × Addr × Value) => p.1 = q.1 ∧ p.2.1 = q.2.1 ∧ RelV p.2.2 q.2.2) es us → ∃ e, es[i]? = some e ∧ e.1 = us[i].1 ∧ e.2.1 = us[i].2.1 ∧ RelV e.2.2 us[i].2.2 := by
    intro es
    induction es with
    | nil => intro us i hi h; cases h; simp at hi
    | cons e es ih =>
      intro us i hi h
      cases h with
      | cons h1 h2 =>
        cases i with
        | zero => exact ⟨e, rfl, h1⟩
        | succ i => exact ih (i := i) (by simpa using hi) h2
  obtain ⟨e, g1, g2, g3, g4⟩ := pg hu pr
  exact ⟨e, g1, by rw [e2, g3]; rfl, by rw [e2]; exact g4⟩
theorem turn_dct {P : Program} {w : World} {K : PySem.W.Frag} {a : Addr} {es : List DE} {o : Obj} {des : Array DictEntry} {ep : Nat} (it : Addr) (hod : o.data = .dict des ep) (hsz : des.size = es.length) : Turn P w K tg (Itd G a es o) [it] it (fun i h => h.IsKeyIter it a i des.size ep) where
  mem := by simp
  obj := fun i h st b hb => by
    have e : b = it := by simpa using hb
    subst e
    obtain ⟨oi, e, c, dd⟩ := st
    exact ⟨oi, e, fun v z => by rw [dd] at z; cases z⟩
  keep := fun i h h' st k => st.at fun oi e => k it (by simp) oi e
  item := by
    intro X hP hw hK hc i pins s σ H E I hf st hg
    subst hP hw hK
    obtain ⟨hd, hi⟩ := hg
    obtain ⟨f0, f1, f2, f3, f4, f5⟩ := hf it (by simp)
    obtain ⟨ho, ok⟩ := dctO_at (I.hok a _ hd)
    obtain ⟨des', ep', hx, hd', hs', ent⟩ := ok.entry
    rw [hod] at hd'
    cases hd'
    have hi' : i < des.size := by omega
    obtain ⟨e, he, hk, _⟩ := ent i hi'
    refine wpAny_pyNext_keys_item_raw st ⟨o, ho, hx, hod⟩ hi' fun h' st' sb => ?_
    have I1 : Inv X pins σ H { s with heap := h' } := I.turned (t' := s.toks) (fun b ob hb e => (sb.2 b hb).trans e) f0 f1 f3 f4 f5
    obtain ⟨oi, e1, c, dd⟩ := id st'
    exact ⟨_, rfl, go_of (s := { s with heap := h' }) e1 c dd (by decide) ⟨.ref e.2.1, H, I1, by rw [hk]; rfl, ⟨rfl, e, he, rfl⟩, st', fun b hb => (hf b hb).1⟩⟩
  done := by
    intro X hP hw hK hc i pins s σ H E I hf st hg
    subst hP hw hK
    obtain ⟨hd, hi⟩ := hg
    obtain ⟨f0, f1, f2, f3, f4, f5⟩ := hf it (by simp)
    obtain ⟨ho, ok⟩ := dctO_at (I.hok a _ hd)
    obtain ⟨des', ep', hx, hd', hs', ent⟩ := ok.entry
    rw [hod] at hd'
    cases hd'
    exact wpAny_pyNext_keys_end_raw (I.ok.hd hc) st ⟨o, ho, hx, hod⟩ (by omega) fun h' eb => ⟨rfl, I.turned (t' := s.toks) (fun b ob hb e => eb b ob hb e) f0 f1 f3 f4 f5⟩
  self := fun A i s Q E st h => wpAny_pyIter_keyiter st h
theorem itOk_dct {a : Addr} {es : List DE} {o : Obj} {ks : List MP.D} (hf : Fz1 a) (h : H1 a = some (dctO G a es o)) (rs : Reps G Fz1 H1 ks (es.map fun e => V.ref e.2.1)) : ItOk G Fz1 H1 (Itd G a es o) ks := by
  intro i H2 hz
  have q := hz a _ ⟨h, .inl hf, dctO_ne⟩
  have hl := rs.length
  rw [List.length_map] at hl
  refine ⟨fun hi => ⟨q, by omega⟩, fun hi => ⟨q, by omega⟩, fun x H3 d y hd => ?_⟩
  obtain ⟨rfl, e, he, rfl⟩ := y
  obtain ⟨v, hv, r⟩ := (Reps.zf hz _ _ rs).get hd
  rw [List.getElem?_map, he] at hv
  cases hv
  exact ⟨fun _ _ h => h, r⟩
/-! ### the rules -/
theorem OP.use {σ : L2.St} {env env1 : En} {av : AV} {α : Type} {f : MP.D × En → Out (α × En)} {R : α → En → Prop} (q : OP G W σ Fz H env ((kUse av env1).bind f) R) : ∃ r, av.use env1 = some r ∧ OP G W σ Fz H env (f r) R := by
  unfold kUse at q
  cases h : av.use env1 with
  | none => rw [h] at q; exact q.elim
  | some r => rw [h] at q; exact ⟨r, rfl, q⟩
theorem pi_seq {l : Expr} {ex : Ex} (hK : X.K = G.K) (hl : PE X l (rd G cf cl lf W ex)) : PI X tg l (rdI G cf cl lf W (.seq ex)) := by
  refine ⟨fun pins s σ H R I ⟨Fz, env, m, q⟩ => ?_⟩
  unfold evI at q
  refine thn (hl.run pins s σ H (fun x H1 => ∃ Fz1 env1 d ds, Po G σ Fz H env Fz1 H1 env1 ∧ Rep G Fz1 H1 d x ∧ seqOf d = some ds ∧ ∀ J, ItOk G Fz1 H1 J ds → R J H1) I ⟨Fz, env, m, q.bind.imp fun av env1 q1 v Fz1 H1 p1 r1 f1 => ?_⟩) fun v s1 ⟨x, H1, I1, r1, Fz1, env1, d, ds, p1, rp, hsq, k⟩ => ?_
  · obtain ⟨⟨d, e2⟩, hu, q2⟩ := OP.use q1
    obtain ⟨Fz2, p2, rp, _⟩ := use_ok m p1 r1 f1 hu
    have q2 : OP G W σ Fz H env (kSeq d e2) _ := q2
    unfold kSeq at q2
    cases hs : seqOf d with
    | none => rw [hs] at q2; exact q2.elim
    | some ds =>
      rw [hs] at q2
      exact ⟨Fz2, e2, d, ds, p2, rp, hs, fun J ok => OP.ret (W := W) q2 J Fz2 H1 p2 ok⟩
  · cases d with
    | lst ds' =>
      cases hsq
      cases rp with
      | lst h0 h1 h2 =>
        rename_i a xs
        obtain rfl : v = Value.ref a := r1
        obtain ⟨its, rv, p, hz⟩ := I1.list (.of h1)
        refine wpAny_pyIter_list p.isList ?_
        refine ⟨s1.heap.objs.size, [s1.heap.objs.size], _, _, H1, rfl, I1.kept (t' := s1.toks) fun b o e => Heap.get?_push_of_some _ e, turn_list a _, ⟨_, Heap.get?_push_size _ rfl, rfl, rfl⟩, fun b hb => ?_, by rw [hK]; exact k _ (itOk_list h0 h1 h2)⟩
        have e : b = s1.heap.objs.size := by simpa using hb
        subst e
        exact I1.fpOk (Nat.le_refl _) (I1.hok.fresh (Nat.le_refl _))
    | tup ds' =>
      cases hsq
      cases rp with
      | tup h1 h2 =>
        rename_i a xs
        obtain rfl : v = Value.ref a := r1
        obtain ⟨its, rv, p, hz⟩ := I1.tuple (by rw [hK]; exact h1)
        refine wpAny_pyIter_tuple (show s1.heap.IsTuple a its.toArray from p) ?_
        refine ⟨s1.heap.objs.size, [s1.heap.objs.size], _, _, H1, rfl, I1.kept (t' := s1.toks) fun b o e => Heap.get?_push_of_some _ e, turn_tuple a _, ⟨_, Heap.get?_push_size _ rfl, rfl, rfl⟩, fun b hb => ?_, by rw [hK]; exact k _ (itOk_tup h1 h2)⟩
        have e : b = s1.heap.objs.size := by simpa using hb
        subst e
        exact I1.fpOk (Nat.le_refl _) (I1.hok.fresh (Nat.le_refl _))
    | dct ks vs =>
      cases hsq
      cases rp with
      | dct h0 h1 h2 h3 h4 =>
        rename_i a es o
        obtain rfl : v = Value.ref a := r1
        obtain ⟨ho, ok⟩ := dctO_at (I1.hok a _ h1)
        obtain ⟨des, ep, hx, hd, hs, ent⟩ := ok.entry
        refine wpAny_pyIter_dict_raw ok.1 ⟨o, ho, hx, hd⟩ ?_
        refine ⟨s1.heap.objs.size, [s1.heap.objs.size], _, _, H1, rfl, I1.kept (t' := s1.toks) fun b o e => Heap.get?_push_of_some _ e, turn_dct (G := G) (a := a) (es := es) s1.heap.objs.size hd hs, ⟨_, Heap.get?_push_size _ rfl, rfl, rfl⟩, fun b hb => ?_, k _ (itOk_dct h0 h1 h3)⟩
        have e : b = s1.heap.objs.size := by simpa using hb
        subst e
        exact I1.fpOk (Nat.le_refl _) (I1.hok.fresh (Nat.le_refl _))
    | str y =>
      cases hsq
      cases rp with
      | str _ hy =>
        obtain ⟨t, rfl⟩ := r1
        cases ha : y.cps.all (· < 128)
        · exact wpAny_pyIter_wide ha (pi_one (tk := s1.toks) I1 _ (turn_str _ y t "str_iterator" (.inr rfl)) ⟨_, Heap.get?_push_size _ rfl, rfl, rfl⟩ (k _ (itOk_str hy)))
        · exact wpAny_pyIter_ascii ha (pi_one (tk := s1.toks) I1 _ (turn_str _ y t "str_ascii_iterator" (.inl rfl)) ⟨_, Heap.get?_push_size _ rfl, rfl, rfl⟩ (k _ (itOk_str hy)))
    | non => cases hsq
    | bl _ => cases hsq
    | int _ => cases hsq
    | fn _ => cases hsq
    | fls ns =>
      cases hsq
      cases rp with
      | fls h1 =>
        rename_i a
        obtain rfl : v = Value.ref a := r1
        obtain ⟨its, rv, p, hz⟩ := I1.list (by rw [hK]; exact h1.sq)
        refine wpAny_pyIter_list p.isList ?_
        refine ⟨s1.heap.objs.size, [s1.heap.objs.size], _, _, H1, rfl, I1.kept (t' := s1.toks) fun b o e => Heap.get?_push_of_some _ e, turn_list a _, ⟨_, Heap.get?_push_size _ rfl, rfl, rfl⟩, fun b hb => ?_, by rw [hK]; exact k _ (itOk_fls h1)⟩
        have e : b = s1.heap.objs.size := by simpa using hb
        subst e
        exact I1.fpOk (Nat.le_refl _) (I1.hok.fresh (Nat.le_refl _))
end
end MP
set_option maxRecDepth 100000
set_option maxHeartbeats 2000000
/-! MP12: enumerate, zip, items. -/
namespace MP
open PySem PySem.Spec PyProof.Rows L2
/-- a list or a tuple -/
inductive Sk where
  | l | t
def SkIter : Sk → Heap → Addr → Addr → Nat → Prop
  | .l, h, it, a, i => h.IsListIter it a i
  | .t, h, it, a, i => h.IsTupleIter it a i
def SkAt : Sk → Heap → Addr → Array Value → Prop
  | .l, h, a, its => h.IsList a its
  | .t, h, a, its => h.IsTuple a its
def SkV (K : PySem.W.Frag) : Sk → Hp → Addr → List V → Prop
  | .l, H, a, xs => SqL K H a xs
  | .t, H, a, xs => SqT K H a xs
def SkO : Sk → Addr → Obj
  | .l, a => { cls := .type "list_iterator", data := .fields #[.ref a, .int 0 0] }
  | .t, a => { cls := .type "tuple_iterator", data := .fields #[.ref a, .int 0 0] }
theorem SkIter.rec_ {k : Sk} {h : Heap} {it a : Addr} {i : Nat} (s : SkIter k h it a i) : ∃ o vs, h.get? it = some o ∧ o.data = .fields vs := by
  cases k with
  | l => obtain ⟨o, e, c, d⟩ := s; exact ⟨o, _, e, d⟩
  | t => obtain ⟨o, e, c, d⟩ := s; exact ⟨o, _, e, d⟩
theorem SkIter.at {k : Sk} {h h' : Heap} {it a : Addr} {i : Nat} (s : SkIter k h it a i) (e : ∀ o, h.get? it = some o → h'.get? it = some o) : SkIter k h' it a i := by
  cases k with
  | l => exact Heap.IsListIter.at s e
  | t => exact Heap.IsTupleIter.at s e
theorem sk_draws {prog : Program} {w : World} {A : Around} (hh : A.handled = none) (k : Sk) (it a : Addr) (hne : a ≠ it) (items : Array Value) :
    Draws prog w A it [it, a] items.size (fun i v => items[i]? = some v) (fun i h => SkIter k h it a i ∧ SkAt k h a items) := by
  cases k with
  | l => exact Draws.list hh it a hne items
  | t => exact Draws.tuple hh it a hne items
theorem sk_begins (k : Sk) (a : Addr) (items : Array Value) : Begins (.ref a) (SkO k a) fun h => SkAt k h a items := by
  cases k with
  | l => exact begins_list a items
  | t => exact begins_tuple a items
theorem sk_first {k : Sk} {h : Heap} {it a : Addr} (e : h.get? it = some (SkO k a)) : SkIter k h it a 0 := by
  cases k with
  | l => exact ⟨_, e, rfl, rfl⟩
  | t => exact ⟨_, e, rfl, rfl⟩
section
variable {X : Cx} {pins : List (Addr × Obj)} {σ : L2.St} {H : Hp} {s : Shared} {a : Addr} {xs ys : List V} {k : Sk}
theorem sk_inv (I : Inv X pins σ H s) (h : SkV X.K k H a xs) : ∃ its : List Value, Vals xs its ∧ SkAt k s.heap a its.toArray ∧ a < s.heap.objs.size := by
  cases k with
  | l =>
    obtain ⟨its, r, p, _⟩ := I.list h
    exact ⟨its, r, p.isList, p.lt⟩
  | t =>
    obtain ⟨its, r, p, _⟩ := I.tuple h
    exact ⟨its, r, p, p.lt⟩
theorem sk_inj (I : Inv X pins σ H s) (h : SkV X.K k H a xs) (h' : SkV X.K k H a ys) : xs = ys := by
  cases k with
  | l => exact I.list_inj h h'
  | t => exact I.tuple_inj h h'
end
/-- enumerate: a new pair at each turn -/
def ItE (K : PySem.W.Frag) (k : Sk) (a : Addr) : It :=
  ⟨fun i H => ∃ xs, SkV K k H a xs ∧ i < xs.length, fun i H v H' => ∃ T x, v = .ref T ∧ H T = none ∧ H' = upd H T (.tup [.int (i : Nat), x]) ∧ ∀ xs, SkV K k H a xs → xs[i]? = some x, fun i H => ∃ xs, SkV K k H a xs ∧ i = xs.length⟩
theorem turn_enumS {P : Program} {w : World} {K : PySem.W.Frag} {elts : List Expr} {kk : Nat} {tpos : Pos} (k : Sk) (a e it : Addr) (hae : a ≠ e) (hai : a ≠ it) :
    Turn P w K (.Tuple elts kk tpos) (ItE K k a) [e, it] e (fun i h => (∃ old, IsEnum h e it ((i : Nat) : Int) old) ∧ SkIter k h it a i ∧ e ≠ it) where
  mem := by simp
  obj := fun i h st b hb => by
    obtain ⟨⟨old, he⟩, hi, _⟩ := st
    obtain ⟨o, vs, ho, hd⟩ := hi.rec_
    have e' : b = e ∨ b = it := by simpa using hb
    rcases e' with z | z
    · rw [z]; exact ⟨_, he, fun v q => nomatch q⟩
    · rw [z]; exact ⟨o, ho, fun v q => by rw [hd] at q; cases q⟩
  keep := fun i h h' st k => let ⟨⟨old, he⟩, hi, hne⟩ := st; ⟨⟨old, k e (by simp) _ he⟩, hi.at fun o q => k it (by simp) o q, hne⟩
  item := by
    intro X hP hw hK hc i pins s σ H E I hf st hg
    subst hP hw hK
    obtain ⟨⟨old, he⟩, hit, hne⟩ := st
    obtain ⟨xs, hq, hx⟩ := hg
    obtain ⟨its, rv, p, _⟩ := sk_inv I hq
    have hxs : xs[i]? = some xs[i] := by simp [hx]
    obtain ⟨u, hu, ru⟩ := rv.get hxs
    have hel : e < s.heap.objs.size := Heap.lt_size he
    have hil : it < s.heap.objs.size := by obtain ⟨_, _, q, _⟩ := hit.rec_; exact Heap.lt_size q
    have hlen := rv.length
    refine wpAny_pyNext_enum_itemD (sk_draws (A := X.A.in1) (show X.A.in1.handled = none from I.ok.hd hc) k it a hai its.toArray) he ⟨hit, p⟩ (by simp; omega) hne (by simp [hne, Ne.symm hae]) fun x h' tk hP ho hs' hT hsz hk => ?_
    have hxu : x = u := by
      have : its.toArray[i]? = some x := hP
      simp at this
      rw [hu] at this; exact (Option.some.inj this).symm
    subst hxu
    refine ⟨_, rfl, wpAny_letOwnedTupleGo_enum (s := { s with heap := h', toks := tk + 1 }) ho fun h'' he' sb => ?_⟩
    have hT2 : h''.get? s.heap.objs.size = some { cls := .type "tuple", data := .seq #[.int i tk, x] } := (sb.2 _ (Nat.ne_of_gt hel)).trans hT
    have new : ObjOk X.prog X.w (upd H s.heap.objs.size (.tup [.int (i : Nat), xs[i]])) h'' s.heap.objs.size (.tup [.int (i : Nat), xs[i]]) :=
      ⟨by show 2 ≤ sizeLine; decide, [.int i tk, x], .cons ⟨_, rfl⟩ (.cons ru .nil), ⟨_, hT2, rfl, _, rfl⟩⟩
    have I1 : Inv X pins σ (upd H s.heap.objs.size (.tup [.int (i : Nat), xs[i]])) { s with heap := h'', toks := tk + 1 } :=
      I.turnedNew (ch := [e, it]) (fun b ob hb q => (sb.2 b (fun z => hb (by simp [z]))).trans (hk b ob (fun z => hb (by simp [z])) (fun z => hb (by simp [z])) q)) hf (Nat.le_refl _) new
    refine ⟨.ref s.heap.objs.size, _, I1, rfl, ⟨_, xs[i], rfl, I.hok.fresh (Nat.le_refl _), rfl, fun ys hy => by rw [sk_inj I hy hq]; exact hxs⟩, ⟨⟨x, ?_⟩, hs'.1.at fun o q => (sb.2 it (Ne.symm hne)).trans q, hne⟩, fun b hb => ?_⟩
    · have e1 : ((i + 1 : Nat) : Int) = (i : Int) + 1 := by omega
      rw [e1]; exact he'
    · have hb' : b < s.heap.objs.size := by
        have e' : b = e ∨ b = it := by simpa using hb
        rcases e' with z | z
        · rw [z]; exact hel
        · rw [z]; exact hil
      rw [upd_ne (Nat.ne_of_lt hb')]
      exact (hf b hb).1
  done := by
    intro X hP hw hK hc i pins s σ H E I hf st hg
    subst hP hw hK
    obtain ⟨⟨old, he⟩, hit, hne⟩ := st
    obtain ⟨xs, hq, hx⟩ := hg
    obtain ⟨its, rv, p, _⟩ := sk_inv I hq
    obtain ⟨f0, f1, f2, f3, f4, f5⟩ := hf it (by simp)
    have hl := rv.length
    have hi : i = its.toArray.size := by simp; omega
    rw [hi] at hit
    exact wpAny_pyNext_enum_endD (sk_draws (A := X.A.in1) (show X.A.in1.handled = none from I.ok.hd hc) k it a hai its.toArray) he ⟨hit, p⟩ fun h' eb => ⟨rfl, I.turned (t' := s.toks) (fun b o hb q => eb b o hb q) f0 f1 f3 f4 f5⟩
  self := fun A i s Q E st h => let ⟨⟨_, he⟩, _⟩ := st; wpAny_pyIter_enum he h
/-- zip: a new pair at each turn -/
def ItZ (K : PySem.W.Frag) (k1 k2 : Sk) (a b : Addr) : It :=
  ⟨fun i H => ∃ xs ys, SkV K k1 H a xs ∧ SkV K k2 H b ys ∧ i < xs.length ∧ i < ys.length,
    fun i H v H' => ∃ T x y, v = .ref T ∧ H T = none ∧ H' = upd H T (.tup [x, y]) ∧ (∀ xs, SkV K k1 H a xs → xs[i]? = some x) ∧ ∀ ys, SkV K k2 H b ys → ys[i]? = some y,
    fun i H => ∃ xs ys, SkV K k1 H a xs ∧ SkV K k2 H b ys ∧ i = min xs.length ys.length⟩
theorem turn_zipS {P : Program} {w : World} {K : PySem.W.Frag} {elts : List Expr} {kk : Nat} {tpos : Pos} (k1 k2 : Sk) {a b z TI TO i1 i2 : Addr} (D : ZipSep2 z TI TO i1 i2 [i1, a] [i2, b]) (ha : a ≠ i1) (hb : b ≠ i2) :
    Turn P w K (.Tuple elts kk tpos) (ItZ K k1 k2 a b) [z, TI, TO, i1, i2] z (fun i h => IsZip h z TI TO .none ∧ IsTupOf2 h TI (.ref i1) (.ref i2) ∧ (∃ x y, IsTupOf2 h TO x y) ∧ SkIter k1 h i1 a i ∧ SkIter k2 h i2 b i) where
  mem := by simp
  obj := fun i h st c hc => by
    obtain ⟨hz, hTI, ⟨x, y, hTO⟩, s1, s2⟩ := st
    obtain ⟨o1, v1, e1, d1⟩ := s1.rec_
    obtain ⟨o2, v2, e2, d2⟩ := s2.rec_
    have e' : c = z ∨ c = TI ∨ c = TO ∨ c = i1 ∨ c = i2 := by simpa using hc
    rcases e' with q | q | q | q | q
    · rw [q]; exact ⟨_, hz, fun v q => nomatch q⟩
    · rw [q]; exact ⟨_, hTI, fun v q => nomatch q⟩
    · rw [q]; exact ⟨_, hTO, fun v q => nomatch q⟩
    · rw [q]; exact ⟨o1, e1, fun v q => by rw [d1] at q; cases q⟩
    · rw [q]; exact ⟨o2, e2, fun v q => by rw [d2] at q; cases q⟩
  keep := fun i h h' st k => by
    obtain ⟨hz, hTI, ⟨x, y, hTO⟩, h1, h2⟩ := st
    exact ⟨k z (by simp) _ hz, k TI (by simp) _ hTI, ⟨x, y, k TO (by simp) _ hTO⟩, h1.at fun o q => k i1 (by simp) o q, h2.at fun o q => k i2 (by simp) o q⟩
  item := by
    intro X hP hw hK hc i pins s σ H E I hf st hg
    subst hP hw hK
    obtain ⟨hz, hTI, ⟨x0, y0, hTO⟩, h1, h2⟩ := st
    obtain ⟨xs, ys, hqx, hqy, hx, hy⟩ := hg
    obtain ⟨its, rv, p, _⟩ := sk_inv I hqx
    obtain ⟨its2, rv2, p2, _⟩ := sk_inv I hqy
    have hxs : xs[i]? = some xs[i] := by simp [hx]
    have hys : ys[i]? = some ys[i] := by simp [hy]
    obtain ⟨u, hu, ru⟩ := rv.get hxs
    obtain ⟨u2, hu2, ru2⟩ := rv2.get hys
    have l1 := rv.length
    have l2 := rv2.length
    have hzl : z < s.heap.objs.size := Heap.lt_size hz
    refine wpAny_pyNext_zipD2_item D (sk_draws (A := X.A.in1) (show X.A.in1.handled = none from I.ok.hd hc) k1 i1 a ha its.toArray) (sk_draws (A := X.A.in1) (show X.A.in1.handled = none from I.ok.hd hc) k2 i2 b hb its2.toArray) hz hTI hTO ⟨h1, p⟩ ⟨h2, p2⟩ (by simp; omega) (by simp; omega) fun x1 x2 h' tk hp1 hp2 z' TO' st1 st2 hT hsz hk => ?_
    have e1 : x1 = u := by
      have : its.toArray[i]? = some x1 := hp1
      simp at this
      rw [hu] at this; exact (Option.some.inj this).symm
    have e2 : x2 = u2 := by
      have : its2.toArray[i]? = some x2 := hp2
      simp at this
      rw [hu2] at this; exact (Option.some.inj this).symm
    subst e1 e2
    refine ⟨_, rfl, wpAny_letOwnedTupleGo_zip (s := { s with heap := h', toks := tk }) z' fun h'' z'' sb => ?_⟩
    have hT2 : h''.get? s.heap.objs.size = some { cls := .type "tuple", data := .seq #[x1, x2] } := (sb.2 _ (Nat.ne_of_gt hzl)).trans hT
    have new : ObjOk X.prog X.w (upd H s.heap.objs.size (.tup [xs[i], ys[i]])) h'' s.heap.objs.size (.tup [xs[i], ys[i]]) :=
      ⟨by show 2 ≤ sizeLine; decide, [x1, x2], .cons ru (.cons ru2 .nil), ⟨_, hT2, rfl, _, rfl⟩⟩
    have I1 : Inv X pins σ (upd H s.heap.objs.size (.tup [xs[i], ys[i]])) { s with heap := h'', toks := tk } :=
      I.turnedNew (ch := [z, TI, TO, i1, i2]) (fun c o hb q => (sb.2 c (fun q' => hb (by simp [q']))).trans (hk c o (fun q' => hb (by simp [q'])) (fun q' => hb (by simp [q'])) (fun q' => hb (by simp [q'])) (fun q' => hb (by simp [q'])) q)) hf (Nat.le_refl _) new
    have ni1 : i1 ≠ z := fun q => D.zf1 (by rw [← q]; exact D.mem1)
    have ni2 : i2 ≠ z := fun q => D.zf2 (by rw [← q]; exact D.mem2)
    refine ⟨.ref s.heap.objs.size, _, I1, rfl, ⟨_, xs[i], ys[i], rfl, I.hok.fresh (Nat.le_refl _), rfl, fun l hl => by rw [sk_inj I hl hqx]; exact hxs, fun l hl => by rw [sk_inj I hl hqy]; exact hys⟩, ⟨z'', ?_, ⟨x1, x2, ?_⟩, ?_, ?_⟩, fun c hcm => ?_⟩
    · exact (sb.2 _ D.TIz).trans (hk _ _ D.TIz D.TITO D.TIi1 D.TIi2 hTI)
    · exact (sb.2 _ D.TOz).trans TO'
    · exact st1.1.at fun o q => (sb.2 _ ni1).trans q
    · exact st2.1.at fun o q => (sb.2 _ ni2).trans q
    · have hlt : c < s.heap.objs.size := by
        have e' : c = z ∨ c = TI ∨ c = TO ∨ c = i1 ∨ c = i2 := by simpa using hcm
        rcases e' with q | q | q | q | q
        · rw [q]; exact hzl
        · rw [q]; exact Heap.lt_size hTI
        · rw [q]; exact Heap.lt_size hTO
        · rw [q]; obtain ⟨_, _, e1, _⟩ := h1.rec_; exact Heap.lt_size e1
        · rw [q]; obtain ⟨_, _, e2, _⟩ := h2.rec_; exact Heap.lt_size e2
      rw [upd_ne (Nat.ne_of_lt hlt)]
      exact (hf c hcm).1
  done := by
    intro X hP hw hK hc i pins s σ H E I hf st hg
    subst hP hw hK
    obtain ⟨hz, hTI, ⟨x0, y0, hTO⟩, h1, h2⟩ := st
    obtain ⟨xs, ys, hqx, hqy, hend⟩ := hg
    obtain ⟨its, rv, p, _⟩ := sk_inv I hqx
    obtain ⟨its2, rv2, p2, _⟩ := sk_inv I hqy
    have l1 := rv.length
    have l2 := rv2.length
    exact wpAny_pyNext_zipD2_end D (sk_draws (A := X.A.in1) (show X.A.in1.handled = none from I.ok.hd hc) k1 i1 a ha its.toArray) (sk_draws (A := X.A.in1) (show X.A.in1.handled = none from I.ok.hd hc) k2 i2 b hb its2.toArray) hz hTI hTO ⟨h1, p⟩ ⟨h2, p2⟩ (by simp; omega) (by simp; omega) (by simp; omega) fun h' tk hk => ⟨rfl, I.turnedL (ch := [z, TI, TO, i1, i2]) (fun c o hb q =>
      hk c o (fun q' => hb (by simp [q'])) (fun q' => hb (by simp [q'])) (fun q' => hb (by simp [q'])) (fun q' => hb (by simp [q'])) q) hf⟩
  self := fun A i s Q E st h => wpAny_pyIter_zip st.1 h
end MP
set_option maxRecDepth 100000
set_option maxHeartbeats 2000000
/-! MP13: range, enumerate, zip, items: the rules. -/
namespace MP
open PySem PySem.Spec PyProof.Rows L2
section
variable {G : Gx} {cf : CF} {cl : Nat → LF → List SV → Out (SV × List SV)} {lf : Option LF} {W : WX} {X : Cx} {pos : Pos} {Fz Fz' Fz1 : Addr → Prop} {H H' H1 : Hp} {tg : Expr}
theorem enu_get : ∀ (ds : List MP.D) (k : Int) (i : Nat), (enu k ds)[i]? = (ds[i]?).map fun d => .tup [.int (k + i), d]
  | [], k, i => by simp [enu]
  | d :: r, k, 0 => by simp [enu]
  | d :: r, k, i + 1 => by
    have := enu_get r (k + 1) i
    simp only [enu, List.getElem?_cons_succ, this]
    congr 1
    funext d
    have : k + 1 + (i : Int) = k + ((i + 1 : Nat) : Int) := by omega
    rw [this]
theorem enu_len : ∀ (ds : List MP.D) (k : Int), (enu k ds).length = ds.length
  | [], k => rfl
  | d :: r, k => by simp [enu, enu_len r]
theorem rep_new_tup {H2 : Hp} {T : Addr} {xs : List V} {ds : List MP.D} (n : H2 T = none) (rs : Reps G Fz1 H2 ds xs) : (∀ b o, H2 b = some o → upd H2 T (.tup xs) b = some o) ∧ Rep G Fz1 (upd H2 T (.tup xs)) (.tup ds) (.ref T) :=
  ⟨upd_same_of n, Rep.tup (.of upd_same) (Reps.keep (O := fun _ => False) (same_keep (upd_same_of n)) owOk_false (fun _ h => h) _ _ rs)⟩
theorem zf_sk {k : Sk} {a : Addr} {xs : List V} {H2 : Hp} (hf : k = .l → Fz1 a) (h : SkV G.K k H1 a xs) (hh : k = .l → H1 a = some (.lst xs)) (hz : ∀ b o, ZF Fz1 H1 b o → H2 b = some o) : SkV G.K k H2 a xs := by
  cases k with
  | l => exact .of (zf_lst (hf rfl) (hh rfl) hz)
  | t => exact zf_tup h hz
theorem itOk_enum {k : Sk} {a : Addr} {xs : List V} {ds : List MP.D} (hf : k = .l → Fz1 a) (h : SkV G.K k H1 a xs) (hh : k = .l → H1 a = some (.lst xs)) (rs : Reps G Fz1 H1 ds xs) : ItOk G Fz1 H1 (ItE G.K k a) (enu 0 ds) := by
  intro i H2 hz
  have q := zf_sk hf h hh hz
  have hl := rs.length
  rw [enu_len]
  refine ⟨fun hi => ⟨xs, q, by omega⟩, fun hi => ⟨xs, q, by omega⟩, fun x H3 d y hd => ?_⟩
  obtain ⟨T, x', rfl, hn, rfl, y⟩ := y
  rw [enu_get] at hd
  cases hds : ds[i]? with
  | none => rw [hds] at hd; cases hd
  | some d' =>
    rw [hds] at hd
    cases hd
    obtain ⟨v, hv, r⟩ := (Reps.zf hz _ _ rs).get hds
    have := y xs q
    rw [hv] at this; cases this
    have e : (0 : Int) + (i : Int) = ((i : Nat) : Int) := by omega
    rw [e]
    exact rep_new_tup hn (.cons (.int _) (.cons r .nil))
theorem zip_get {α β : Type} : ∀ (xs : List α) (ys : List β) (i : Nat) (p : α × β), (xs.zip ys)[i]? = some p → xs[i]? = some p.1 ∧ ys[i]? = some p.2
  | [], _, i, p, h => by simp at h
  | _ :: _, [], i, p, h => by simp at h
  | x :: xs, y :: ys, 0, p, h => by simp at h; subst h; exact ⟨rfl, rfl⟩
  | x :: xs, y :: ys, i + 1, p, h => by
    have := zip_get xs ys i p (by simpa using h)
    simpa using this
theorem itOk_zip {k1 k2 : Sk} {a b : Addr} {xs ys : List V} {ds es : List MP.D} (hf : k1 = .l → Fz1 a) (hf2 : k2 = .l → Fz1 b) (h : SkV G.K k1 H1 a xs) (h2 : SkV G.K k2 H1 b ys) (hh : k1 = .l → H1 a = some (.lst xs)) (hh2 : k2 = .l → H1 b = some (.lst ys)) (rs : Reps G Fz1 H1 ds xs) (rs2 : Reps G Fz1 H1 es ys) :
    ItOk G Fz1 H1 (ItZ G.K k1 k2 a b) ((ds.zip es).map fun p => .tup [p.1, p.2]) := by
  intro i H2 hz
  have q := zf_sk hf h hh hz
  have q2 := zf_sk hf2 h2 hh2 hz
  have hl := rs.length
  have hl2 := rs2.length
  rw [List.length_map, List.length_zip]
  refine ⟨fun hi => ⟨xs, ys, q, q2, by omega, by omega⟩, fun hi => ⟨xs, ys, q, q2, by omega⟩, fun x H3 d y hd => ?_⟩
  obtain ⟨T, x', y', rfl, hn, rfl, y1, y2⟩ := y
  rw [List.getElem?_map] at hd
  cases hp : (ds.zip es)[i]? with
  | none => rw [hp] at hd; cases hd
  | some p =>
    rw [hp] at hd
    cases hd
    obtain ⟨e1, e2⟩ := zip_get _ _ _ _ hp
    obtain ⟨v, hv, r⟩ := (Reps.zf hz _ _ rs).get e1
    obtain ⟨v2, hv2, r2⟩ := (Reps.zf hz _ _ rs2).get e2
    have t1 := y1 xs q
    have t2 := y2 ys q2
    rw [hv] at t1; cases t1
    rw [hv2] at t2; cases t2
    exact rep_new_tup hn (.cons r (.cons r2 .nil))
/-! ### d.items() -/
def Itp (G : Gx) (a : Addr) (es : List DE) (o : Obj) : It :=
  ⟨fun i H => H a = some (dctO G a es o) ∧ i < es.length, fun i H v H' => ∃ T e, es[i]? = some e ∧ v = .ref T ∧ H T = none ∧ H' = upd H T (.tup [.ref e.2.1, e.2.2]), fun i H => H a = some (dctO G a es o) ∧ es.length ≤ i⟩
theorem turn_itemsR {P : Program} {w : World} {K : PySem.W.Frag} {a : Addr} {es : List DE} {o : Obj} {des : Array DictEntry} {ep : Nat} {elts : List Expr} {kk : Nat} {tpos : Pos} (it : Addr) (hod : o.data = .dict des ep) (hsz : des.size = es.length) :
    Turn P w K (.Tuple elts kk tpos) (Itp G a es o) [it] it (fun i h => ∃ ok ov, IsItemIter h it a i des.size ep ok ov) where
  mem := by simp
  obj := fun i h st b hb => by
    have e : b = it := by simpa using hb
    subst e
    obtain ⟨ok, ov, e⟩ := st
    exact ⟨_, e, fun v z => nomatch z⟩
  keep := fun i h h' st k => let ⟨ok, ov, e⟩ := st; ⟨ok, ov, k it (by simp) _ e⟩
  item := by
    intro X hP hw hK hc i pins s σ H E I hf st hg
    subst hP hw hK
    obtain ⟨hd, hi⟩ := hg
    obtain ⟨ho, ok⟩ := dctO_at (I.hok a _ hd)
    obtain ⟨des', ep', hx, hd', hs', ent⟩ := ok.entry
    rw [hod] at hd'
    cases hd'
    have hi' : i < des.size := by omega
    obtain ⟨e, he, hk, hrv⟩ := ent i hi'
    obtain ⟨okk, ov, hit⟩ := st
    have hlt : it < s.heap.objs.size := Heap.lt_size hit
    refine wpAny_pyNext_items_item_raw hit ⟨o, ho, hx, hod⟩ hi' fun h' ho' hT hz hk' => ?_
    refine ⟨_, rfl, wpAny_letOwnedTupleGo_items (s := { s with heap := h' }) ho' fun h'' he' sb => ?_⟩
    have hT2 : h''.get? s.heap.objs.size = some { cls := .type "tuple", data := .seq #[des[i].key, des[i].val] } := (sb.2 _ (Nat.ne_of_gt hlt)).trans hT
    have new : ObjOk X.prog X.w (upd H s.heap.objs.size (.tup [.ref e.2.1, e.2.2])) h'' s.heap.objs.size (.tup [.ref e.2.1, e.2.2]) :=
      ⟨by show 2 ≤ sizeLine; decide, [des[i].key, des[i].val], .cons (by rw [hk]; rfl) (.cons hrv .nil), ⟨_, hT2, rfl, _, rfl⟩⟩
    have I1 : Inv X pins σ (upd H s.heap.objs.size (.tup [.ref e.2.1, e.2.2])) { s with heap := h'' } :=
      I.turnedNew (t' := s.toks) (ch := [it]) (fun b ob hb e => (sb.2 b (by simpa using hb)).trans (hk' b ob (by simpa using hb) e)) hf (Nat.le_refl _) new
    refine ⟨.ref s.heap.objs.size, _, I1, rfl, ⟨_, e, he, rfl, I.hok.fresh (Nat.le_refl _), rfl⟩, ⟨_, _, he'⟩, fun b hb => ?_⟩
    have e' : b = it := by simpa using hb
    rw [e', upd_ne (Nat.ne_of_lt hlt)]
    exact (hf it (by simp)).1
  done := by
    intro X hP hw hK hc i pins s σ H E I hf st hg
    subst hP hw hK
    obtain ⟨hd, hi⟩ := hg
    obtain ⟨f0, f1, f2, f3, f4, f5⟩ := hf it (by simp)
    obtain ⟨ho, ok⟩ := dctO_at (I.hok a _ hd)
    obtain ⟨des', ep', hx, hd', hs', ent⟩ := ok.entry
    rw [hod] at hd'
    cases hd'
    obtain ⟨okk, ov, hit⟩ := st
    exact wpAny_pyNext_items_end_raw (I.ok.hd hc) hit ⟨o, ho, hx, hod⟩ (by omega) fun h' eb => ⟨rfl, I.turned (t' := s.toks) (fun b ob hb e => eb b ob hb e) f0 f1 f3 f4 f5⟩
  self := fun A i s Q E st h => let ⟨_, _, e⟩ := st; PySem.W.kcp_self e h
theorem itOk_items {a : Addr} {es : List DE} {o : Obj} {ks vs : List MP.D} (hf : Fz1 a) (h : H1 a = some (dctO G a es o)) (rk : Reps G Fz1 H1 ks (es.map fun e => V.ref e.2.1)) (rv : Reps G Fz1 H1 vs (es.map (·.2.2))) :
    ItOk G Fz1 H1 (Itp G a es o) ((ks.zip vs).map fun p => .tup [p.1, p.2]) := by
  intro i H2 hz
  have q := hz a _ ⟨h, .inl hf, dctO_ne⟩
  have hl := rk.length
  have hl2 := rv.length
  rw [List.length_map] at hl hl2
  rw [List.length_map, List.length_zip]
  refine ⟨fun hi => ⟨q, by omega⟩, fun hi => ⟨q, by omega⟩, fun x H3 d y hd => ?_⟩
  obtain ⟨T, e, he, rfl, hn, rfl⟩ := y
  rw [List.getElem?_map] at hd
  cases hp : (ks.zip vs)[i]? with
  | none => rw [hp] at hd; cases hd
  | some p =>
    rw [hp] at hd
    cases hd
    obtain ⟨e1, e2⟩ := zip_get _ _ _ _ hp
    obtain ⟨v, hv, r⟩ := (Reps.zf hz _ _ rk).get e1
    obtain ⟨v2, hv2, r2⟩ := (Reps.zf hz _ _ rv).get e2
    rw [List.getElem?_map, he] at hv hv2
    cases hv
    cases hv2
    exact rep_new_tup hn (.cons r (.cons r2 .nil))
/-! ### the rules -/
theorem OP.int {σ : L2.St} {env env1 : En} {av : AV} {α : Type} {f : Int × En → Out (α × En)} {R : α → En → Prop} {v : V} (m : Mt G Fz1 σ H1 env1) (r : AvR G σ Fz1 H1 env1 av v) (q : OP G W σ Fz H env ((kInt av env1).bind f) R) :
    ∃ n : Int, v = .int n ∧ -(2 ^ 62) ≤ n ∧ n < 2 ^ 62 ∧ OP G W σ Fz H env (f (n, env1)) R := by
  unfold kInt at q
  cases h1 : av.rd env1 with
  | none => rw [h1] at q; exact q.elim
  | some d =>
    rw [h1] at q
    cases d with
    | int n =>
      simp only at q
      split at q
      · rename_i hr
        simp only [inRng, Bool.and_eq_true, decide_eq_true_eq] at hr
        exact ⟨n, repC_int (r.rd m h1), hr.1, hr.2, q⟩
      · exact q.elim
    | _ => exact q.elim
theorem mi_rng1 {a : Expr} {ea : Ex} {p : Pos} (hg : Gl X "range") (hm : X.mg "range" = none) (ha : PE X a (rd G cf cl lf W ea)) (hs : starEach [a] X.env = (false, eval a X.env) :: starEach [] X.env) : PI X tg (.Call (.Name "range" p) [a] [] pos) (rdI G cf cl lf W (.rng1 ea)) :=
  (pi_range1 hg hm (pa_cons ha pa_nil hs) hs).imp fun σ H R ⟨Fz, env, m, q⟩ => by
    unfold evI at q
    refine ⟨Fz, env, m, q.bind.imp fun av env1 q1 v Fz1 H1 p1 r1 f1 => ?_⟩
    obtain ⟨n, rfl, h1, h2, q2⟩ := OP.int p1.mt r1 q1
    refine ⟨n, rfl, h1, h2, OP.ret (W := W) q2 _ Fz1 H1 p1 ?_⟩
    have := itOk_rng (G := G) (Fz1 := Fz1) (H1 := H1) (a := 0) (b := n)
    rwa [Int.sub_zero] at this
theorem mi_rng2 {a b : Expr} {ea eb : Ex} {p : Pos} (hg : Gl X "range") (hm : X.mg "range" = none) (ha : PE X a (rd G cf cl lf W ea)) (hb : PE X b (rd G cf cl lf W eb)) (hs : starEach [a, b] X.env = (false, eval a X.env) :: starEach [b] X.env) (hs2 : starEach [b] X.env = (false, eval b X.env) :: starEach [] X.env) :
    PI X tg (.Call (.Name "range" p) [a, b] [] pos) (rdI G cf cl lf W (.rng2 ea eb)) :=
  (pi_range2 hg hm (pa_cons ha (pa_cons hb pa_nil hs2) hs) (by rw [hs, hs2]; rfl) hs2).imp fun σ H R ⟨Fz, env, m, q⟩ => by
    unfold evI at q
    refine ⟨Fz, env, m, q.bind.imp fun av env1 q1 v Fz1 H1 p1 r1 f1 => ⟨Fz1, env1, p1.mt, (OP.base m p1 q1.bind).imp fun bv env2 q2 u Fz2 H2 p2 r2 f2 => ?_⟩⟩
    obtain ⟨n, rfl, h1, h2, q3⟩ := OP.int p2.mt (r1.keep p1.mt p2) q2
    obtain ⟨n', rfl, h3, h4, q4⟩ := OP.int p2.mt r2 q3
    exact ⟨n, n', rfl, ⟨h1, h2, h3, h4⟩, OP.ret (W := W) q4 _ Fz2 H2 (p1.trans m p2) itOk_rng⟩
/-- what stands at a sequence -/
theorem seqLT_sk {d : MP.D} {ds : List MP.D} {v : V} (h : seqLT d = some ds) (r : Rep G Fz1 H1 d v) : ∃ k a xs, v = .ref a ∧ (k = Sk.l → Fz1 a) ∧ SkV G.K k H1 a xs ∧ (k = Sk.l → H1 a = some (.lst xs)) ∧ Reps G Fz1 H1 ds xs := by
  cases d with
  | lst es => cases h; cases r with | lst h0 h1 h2 => exact ⟨.l, _, _, rfl, fun _ => h0, .of h1, fun _ => h1, h2⟩
  | tup es => cases h; cases r with | tup h1 h2 => exact ⟨.t, _, _, rfl, fun e => (nomatch e), h1, fun e => (nomatch e), h2⟩
  | _ => cases h
theorem call_enumS {prog : Program} {w : World} {A : Around} {E : Value → Shared → Prop} {s : Shared} {v : Value} {o : Obj} {Hh : Heap → Prop} {Q : Value → Shared → Prop} (B : Begins v o Hh) (h1 : Hh s.heap)
    (h : ∀ h', IsEnum h' (s.heap.objs.size + 1) s.heap.objs.size 0 .none → h'.get? s.heap.objs.size = some o → h'.objs.size = s.heap.objs.size + 2 →
      (∀ b o, s.heap.get? b = some o → h'.get? b = some o) → Q (.ref (s.heap.objs.size + 1)) { s with heap := h' }) :
    wpAny (model prog w) A (call (.type "enumerate") [v]) Q E s := by
  have hm : Meets (Builtin.«enumerate.__new__» ⟨[.type "enumerate", v], []⟩) (fun _ R s => Hh s.heap ∧
      R (.ok (.ret (.ref (s.heap.push o).objs.size))) { s with heap := (s.heap.push o).push { cls := .type "enumerate", data := .fields #[.none, .bool false, .ref s.heap.objs.size, rawInt 0, .none, .none] } }) :=
    .of_wp fun prog w A R s h => by
      obtain ⟨hp, g, d, tk, os⟩ := s; obtain ⟨h1, h⟩ := h
      have hsub := sub_enumerate
      have q1 : ∀ {A' : Around} {E : Value → Shared → Prop} {Q : Value → Shared → Prop}, Q (.ref hp.objs.size) ⟨hp.push o, g, d, tk, os⟩ → wpAny (model prog w) A' (pyIter v) Q E ⟨hp, g, d, tk, os⟩ :=
        fun q => B.iter prog w _ _ ⟨hp, g, d, tk, os⟩ _ h1 q
      wp_walk using q1
      refine wpAny_stack_any fun st => wpAny_pure ?_
      split
      · rename_i c _ _ _ _ _
        cases (c == Value.type "enumerate")
        · wp_walk using q1
          exact ⟨_, rfl, h⟩
        · wp_walk using q1
          exact ⟨_, rfl, h⟩
      · wp_walk using q1
        exact ⟨_, rfl, h⟩
  refine callType_new F.called_enumerate (by decide) (F.typeCall_enumerate_1 _) (F.newCall_enumerate_1 _) (fun obj => F.args_object_init_2 obj _) F.entry_enumerate_new hm ⟨h1, ?_⟩
  have hz : (s.heap.push o).objs.size = s.heap.objs.size + 1 := Heap.size_push ..
  show _ ∧ _
  rw [hz]
  have he : IsEnum ((s.heap.push o).push { cls := .type "enumerate", data := .fields #[.none, .bool false, .ref s.heap.objs.size, rawInt 0, .none, .none] }) (s.heap.objs.size + 1) s.heap.objs.size 0 .none := by
    have := Heap.get?_push_size (s.heap.push o) (o := { cls := .type "enumerate", data := .fields #[.none, .bool false, .ref s.heap.objs.size, rawInt 0, .none, .none] }) rfl
    rw [hz] at this; exact this
  exact ⟨⟨_, he, rfl⟩, h _ he (Heap.get?_push_of_some _ (Heap.get?_push_size _ B.free)) (by rw [Heap.size_push, hz]) fun b o x => Heap.get?_push_of_some _ (Heap.get?_push_of_some _ x)⟩
theorem mi_enu {e : Expr} {ex : Ex} {p tpos : Pos} {elts : List Expr} {kk : Nat} (hK : X.K = G.K) (hg : Gl X "enumerate") (hm : X.mg "enumerate" = none) (he : PE X e (rd G cf cl lf W ex)) (hs : starEach [e] X.env = (false, eval e X.env) :: starEach [] X.env) :
    PI X (.Tuple elts kk tpos) (.Call (.Name "enumerate" p) [e] [] pos) (rdI G cf cl lf W (.enu ex)) := by
  refine ⟨fun pins s σ H R I ⟨Fz, env, m, q⟩ => ?_⟩
  unfold evI at q
  refine Call_ (ld_blt I hg hm boot_enumerate (PyProof.Rows.callWith_type1 (thn ((pa_cons he pa_nil hs).run pos pins s σ H (fun vs H1 => ∃ Fz1 d ds x, vs = [x] ∧ Rep G Fz1 H1 d x ∧ seqLT d = some ds ∧ ∀ J, ItOk G Fz1 H1 J (enu 0 ds) → R J H1) I ⟨Fz, env, m, q.bind.imp fun av env1 q1 v Fz1 H1 p1 r1 f1 => ?_⟩) fun us s1 ⟨vs, H1, I1, r1, Fz1, d, ds, x, ex, rp, hsq, k⟩ => ?_) hs rfl))
  · obtain ⟨⟨d, e2⟩, hu, q2⟩ := OP.use q1
    obtain ⟨Fz2, p2, rp, _⟩ := use_ok m p1 r1 f1 hu
    have q2 : OP G W σ Fz H env (kEnu d e2) _ := q2
    unfold kEnu at q2
    cases hs : seqLT d with
    | none => rw [hs] at q2; exact q2.elim
    | some ds =>
      rw [hs] at q2
      exact ⟨Fz2, d, ds, _, rfl, rp, hs, fun J ok => OP.ret (W := W) q2 J Fz2 H1 p2 ok⟩
  · subst ex
    cases r1 with
    | cons r rr =>
      cases rr
      obtain ⟨kd, a, xs, rfl, hf, hq, hh, rs⟩ := seqLT_sk hsq rp
      cases r
      rw [← hK] at hq
      obtain ⟨its, rv, p', hlt⟩ := sk_inv I1 hq
      refine call_enumS (sk_begins kd a its.toArray) p' fun h' he hit hsz hk => wpAny_pyIter_enum he ?_
      have I2 : Inv X pins σ H1 { s1 with heap := h' } := I1.kept (t' := s1.toks) hk
      refine ⟨s1.heap.objs.size + 1, [s1.heap.objs.size + 1, s1.heap.objs.size], _, _, H1, rfl, I2, turn_enumS kd a (s1.heap.objs.size + 1) s1.heap.objs.size (Nat.ne_of_lt (Nat.lt_succ_of_lt hlt)) (Nat.ne_of_lt hlt), ⟨⟨.none, he⟩, sk_first hit, Nat.succ_ne_self _⟩, fun b hb => ?_, k _ (by rw [hK]; rw [hK] at hq; exact itOk_enum hf hq hh rs)⟩
      have e' : b = s1.heap.objs.size + 1 ∨ b = s1.heap.objs.size := by simpa using hb
      have hle : s1.heap.objs.size ≤ b := by
        rcases e' with z | z
        · rw [z]; exact Nat.le_add_right _ _
        · rw [z]; exact Nat.le_refl _
      exact I1.fpOk hle (I1.hok.fresh hle)
theorem mi_zip {e e2 : Expr} {ex ex2 : Ex} {p tpos : Pos} {elts : List Expr} {kk : Nat} (hK : X.K = G.K) (hg : Gl X "zip") (hm : X.mg "zip" = none) (he : PE X e (rd G cf cl lf W ex)) (he2 : PE X e2 (rd G cf cl lf W ex2))
    (hs : starEach [e, e2] X.env = (false, eval e X.env) :: starEach [e2] X.env) (hs2 : starEach [e2] X.env = (false, eval e2 X.env) :: starEach [] X.env) :
    PI X (.Tuple elts kk tpos) (.Call (.Name "zip" p) [e, e2] [] pos) (rdI G cf cl lf W (.zip ex ex2)) := by
  refine ⟨fun pins s σ H R I ⟨Fz, env, m, q⟩ => ?_⟩
  unfold evI at q
  refine Call_ (ld_blt I hg hm PyProof.Rows.boot_zip (PyProof.Rows.callWith_type1 (thn ((pa_cons he (pa_cons he2 pa_nil hs2) hs).run pos pins s σ H (fun vs H1 => ∃ Fz1 d ds x d' ds' x', vs = [x, x'] ∧ Rep G Fz1 H1 d x ∧ Rep G Fz1 H1 d' x' ∧ seqLT d = some ds ∧ seqLT d' = some ds' ∧ ∀ J, ItOk G Fz1 H1 J ((ds.zip ds').map fun p => .tup [p.1, p.2]) → R J H1) I ⟨Fz, env, m, q.bind.imp fun av env1 q1 v Fz1 H1 p1 r1 f1 => ⟨Fz1, env1, p1.mt, (OP.base m p1 q1.bind).imp fun bv env2 q2 u Fz2 H2 p2 r2 f2 => ?_⟩⟩) fun us s1 ⟨vs, H1, I1, r1, Fz1, d, ds, x, d', ds', x', ex, rp, rp', hsq, hsq', k⟩ => ?_) hs (by rw [hs2]; rfl)))
  · have p := p1.trans m p2
    cases h1 : uses env2 [av, bv] with
    | none =>
      exfalso
      obtain ⟨⟨d, e2⟩, hu, q3⟩ := OP.use q2
      obtain ⟨⟨d', e3⟩, hu', q4⟩ := OP.use q3
      simp only [uses, hu] at h1
      have hu' : bv.use e2 = some (d', e3) := hu'
      rw [hu'] at h1
      cases h1
    | some z =>
      obtain ⟨zs, e3⟩ := z
      have avs : Avs G σ H Fz2 H2 env2 [av, bv] [v, u] := by
        refine ⟨r1.keep p1.mt p2, f1, ?_, r2, Fre.of p1.keep f2, fun d x _ _ j e he => by simp at he, trivial⟩
        intro d x e1 e2 j e he hx
        subst e1 e2
        cases j with
        | succ j => simp at he
        | zero =>
          simp at he hx
          subst he hx
          have h1 : H1 x = none := f2
          obtain ⟨a, ea, _, _, c⟩ := r1
          cases ea
          obtain ⟨o, ho, _⟩ := c.there
          rw [h1] at ho; cases ho
      obtain ⟨Fz3, p3, rs, _⟩ := uses_ok m p avs h1
      obtain ⟨⟨d, e2⟩, hu, q3⟩ := OP.use q2
      obtain ⟨⟨d', e4⟩, hu', q4⟩ := OP.use q3
      have hu' : bv.use e2 = some (d', e4) := hu'
      simp only [uses, hu, hu'] at h1
      have q4 : OP G W σ Fz H env (kZip d d' e4) _ := q4
      cases h1
      unfold kZip at q4
      cases h5 : seqLT d with
      | none => rw [h5] at q4; exact q4.elim
      | some ds =>
        cases h6 : seqLT d' with
        | none => rw [h5, h6] at q4; exact q4.elim
        | some ds' =>
          rw [h5, h6] at q4
          cases rs with
          | cons rs1 rs2 =>
            cases rs2 with
            | cons rs2 rs3 =>
              exact ⟨Fz3, d, ds, v, d', ds', u, rfl, rs1, rs2, h5, h6, fun J ok => OP.ret (W := W) q4 J Fz3 H2 p3 ok⟩
  · subst ex
    cases r1 with
    | cons r rr =>
      cases rr with
      | cons r' rr =>
        cases rr
        obtain ⟨k1, a, xs, rfl, hf, hq, hh, rs⟩ := seqLT_sk hsq rp
        obtain ⟨k2, b, ys, rfl, hf2, hq2, hh2, rs2⟩ := seqLT_sk hsq' rp'
        cases r
        cases r'
        rw [← hK] at hq hq2
        obtain ⟨its, rv, p1, la⟩ := sk_inv I1 hq
        obtain ⟨its2, rv2, p2, lb⟩ := sk_inv I1 hq2
        refine zip_begins2 (sk_begins k1 a its.toArray) (sk_begins k2 b its2.toArray) p1 p2 fun h' hz hTI hTO h1 h2 hsz hk => wpAny_pyIter_zip hz ?_
        have I2 : Inv X pins σ H1 { s1 with heap := h' } := I1.kept (t' := s1.toks) hk
        have sep := zip_sep2 (N := s1.heap.objs.size) (fp1 := [a]) (fp2 := [b]) (fun c hc => by rw [List.mem_singleton.mp hc]; exact la) (fun c hc => by rw [List.mem_singleton.mp hc]; exact lb)
        refine ⟨s1.heap.objs.size + 4, [s1.heap.objs.size + 4, s1.heap.objs.size + 2, s1.heap.objs.size + 3, s1.heap.objs.size, s1.heap.objs.size + 1], _, _, H1, rfl, I2, turn_zipS k1 k2 sep (Nat.ne_of_lt la) (Nat.ne_of_lt (Nat.lt_succ_of_lt lb)), ⟨hz, hTI, ⟨_, _, hTO⟩, sk_first h1, sk_first h2⟩, fun c hcm => ?_, k _ (by rw [hK]; rw [hK] at hq hq2; exact itOk_zip hf hf2 hq hq2 hh hh2 rs rs2)⟩
        have e' : c = s1.heap.objs.size + 4 ∨ c = s1.heap.objs.size + 2 ∨ c = s1.heap.objs.size + 3 ∨ c = s1.heap.objs.size ∨ c = s1.heap.objs.size + 1 := by simpa using hcm
        have hle : s1.heap.objs.size ≤ c := by
          rcases e' with z | z | z | z | z
          · rw [z]; exact Nat.le_add_right _ _
          · rw [z]; exact Nat.le_add_right _ _
          · rw [z]; exact Nat.le_add_right _ _
          · rw [z]; exact Nat.le_refl _
          · rw [z]; exact Nat.le_add_right _ _
        exact I1.fpOk hle (I1.hok.fresh hle)
theorem mi_items {e : Expr} {ex : Ex} {elts : List Expr} {kk : Nat} {tpos apos cpos : Pos} (hP : X.prog = G.P) (hw : X.w = G.w) (he : PE X e (rd G cf cl lf W ex)) (hbase : attributeBase e "items" X.env (eval e X.env) = eval e X.env) (hline : (apos.endLine == cpos.line) = true) :
    PI X (.Tuple elts kk tpos) (.Call (.Attribute e "items" apos) [] [] cpos) (rdI G cf cl lf W (.items ex)) := by
  refine ⟨fun pins s σ H R I ⟨Fz, env, m, q⟩ => ?_⟩
  unfold evI at q
  refine wpAny_Call_method (T := "dict") (id := "dict.items") hbase rfl hline F.plainAttrs_dict F.slot_dict_items F.type_dict_items (thn (he.run pins s σ H (fun x H1 => ∃ Fz1 ks vs, Rep G Fz1 H1 (.dct ks vs) x ∧ ∀ J, ItOk G Fz1 H1 J ((ks.zip vs).map fun p => .tup [p.1, p.2]) → R J H1) I ⟨Fz, env, m, q.bind.imp fun av env1 q1 v Fz1 H1 p1 r1 f1 => ?_⟩) fun u s1 ⟨x, H1, I1, rx, Fz1, ks, vs, rp, k⟩ => ?_)
  · obtain ⟨⟨d, e2⟩, hu, q2⟩ := OP.use q1
    obtain ⟨Fz2, p2, rp, _⟩ := use_ok m p1 r1 f1 hu
    have q2 : OP G W σ Fz H env (kItems d e2) _ := q2
    cases d with
    | dct ks vs => exact ⟨Fz2, ks, vs, rp, fun J ok => OP.ret (W := W) q2 J Fz2 H1 p2 ok⟩
    | _ => exact q2.elim
  · cases rp with
    | dct h0 h1 h2 h3 h4 =>
      rename_i a es o
      obtain rfl : u = Value.ref a := rx
      obtain ⟨ho, ok⟩ := dctO_at (I1.hok a _ h1)
      obtain ⟨des, ep, hx, hd, hs, ent⟩ := ok.entry
      have raw : s1.heap.DictRaw a des ep := ⟨o, ho, hx, hd⟩
      refine ⟨raw.typeIs, fun b hb => by cases hb; exact ⟨o, ho, hx.2.1⟩, ?_⟩
      have I2 : Inv X pins σ H1 { s1 with heap := s1.heap.push { cls := .type "dict_items", data := .fields #[.ref a] } } := I1.kept (t' := s1.toks) fun b ob q => Heap.get?_push_of_some _ q
      have fin : wpAny (model X.prog X.w) X.A (pyIter (.ref s1.heap.objs.size)) (PIE X pins σ (.Tuple elts kk tpos) R) X.xe { s1 with heap := s1.heap.push { cls := .type "dict_items", data := .fields #[.ref a] } } := by
        refine wpAny_pyIter_items_raw (d := a) ⟨_, Heap.get?_push_size _ rfl, rfl, rfl⟩ ⟨o, Heap.get?_push_of_some _ ho, hx, hd⟩ (pi_one (tk := s1.toks) I2 _ (turn_itemsR (G := G) (a := a) (es := es) _ hd hs) ⟨.none, .none, ?_⟩ (k _ (itOk_items h0 h1 h3 h4)))
        exact Heap.get?_push_size _ rfl
      show wpAny _ _ (callWith cpos (.builtin "dict.items") [.ref a] [] []) _ X.xe s1
      exact method_meetsIn F.slot_dict_items F.entry_dict_items rfl (PySem.evalArgs_none ⟨rfl, raw.typeIs, F.args_dict_items_1 _, _, meets_dict_items_raw a ok.1, ⟨des, ep, raw⟩, fin⟩)
end
end MP
set_option maxRecDepth 100000
set_option maxHeartbeats 2000000
/-! MP14: a, b = x, y. -/
namespace MP
open PySem PySem.Spec PyProof.Rows L2
section
variable {G : Gx} {cf : CF} {cl : Nat → LF → List SV → Out (SV × List SV)} {lf : Option LF} {W : WX} {X : Cx} {pos : Pos} {np : Nat} {Pr : List (Nat × Addr)} {Pm : Addr → Prop} {H0 Hs : Hp} {Fz0 Fz Fz' Fz1 : Addr → Prop} {Z : Addr → HO → Prop} {σ : L2.St} {H H' : Hp} {env env' : En} {D : Ends} {α : Type}
/-- more is frozen: values in a row stay -/
theorem Avs.frz (sub : ∀ b, Fz b → Fz' b) (new : ∀ b, Fz' b → Fz b ∨ Ow σ env b) (ow : ∀ b, Ow σ env' b → Ow σ env b) (sl : ∀ i s, env.at i = some s → ∃ s', env'.at i = some s') : ∀ {as : List AV} {vs : List V}, Avs G σ Hs Fz H env as vs → Avs G σ Hs Fz' H env' as vs
  | [], [], _ => trivial
  | a :: as, v :: vs, h => by
    refine ⟨?_, h.2.1, h.2.2.1, Avs.frz sub new ow sl h.2.2.2⟩
    have q1 := h.1
    cases a with
    | slot i =>
      obtain ⟨k1, s, k2⟩ := q1
      exact ⟨k1, sl i s k2⟩
    | val own e =>
      cases own with
      | false => exact Rep.keep (O := fun _ => False) Keep.refl owOk_false sub _ _ q1
      | true =>
        obtain ⟨x, e', n, no, c⟩ := q1
        exact ⟨x, e', fun z => (new _ z).elim n no, fun z => no (ow _ z), c.keep (O := fun _ => False) Keep.refl owOk_false sub (fun z => z)⟩
  | [], _ :: _, h => h.elim
  | _ :: _, [], h => h.elim
/-- the values taken out -/
def tkA (os : List (Bool × MP.D)) : List AV := os.map fun z => .val z.1 z.2
theorem takes_val : ∀ {as : List AV} {os : List (Bool × MP.D)} {env e2 : En} {j : Nat} {e' : MP.D}, takes env as = some (os, e2) → (tkA os)[j]? = some (.val true e') → as[j]? = some (.val true e')
  | [], os, env, e2, j, e', h, q => by cases h; simp [tkA] at q
  | .val own d :: as, os, env, e2, j, e', h, q => by
    unfold takes at h
    cases e1 : takes env as with
    | none => rw [e1] at h; cases h
    | some z =>
      obtain ⟨or, e3⟩ := z
      rw [e1] at h
      cases h
      cases j with
      | zero => simpa [tkA] using q
      | succ j => exact takes_val (j := j) e1 (by simpa [tkA] using q)
  | .slot i :: as, os, env, e2, j, e', h, q => by
    unfold takes at h
    cases e0 : env.at i with
    | none => rw [e0] at h; cases h
    | some s =>
      obtain ⟨fl, d⟩ := s
      rw [e0] at h
      simp only at h
      cases e1 : takes (env.frz i) as with
      | none => rw [e1] at h; cases h
      | some z =>
        obtain ⟨or, e3⟩ := z
        rw [e1] at h
        cases h
        cases j with
        | zero => simp [tkA] at q
        | succ j => exact takes_val (j := j) e1 (by simpa [tkA] using q)
theorem takes_ok {Fz0 : Addr → Prop} {env0 : En} (m0 : Mt G Fz0 σ H0 env0) : ∀ {as : List AV} {vs : List V} {os : List (Bool × MP.D)} {Fz : Addr → Prop} {env env' : En}, Po G σ Fz0 H0 env0 Fz H env → Avs G σ H0 Fz H env as vs → takes env as = some (os, env') →
    ∃ Fz', Po G σ Fz0 H0 env0 Fz' H env' ∧ Avs G σ H0 Fz' H env' (tkA os) vs ∧ (∀ b, Fz b → Fz' b) ∧ (∀ b, Fz' b → Fz b ∨ Ow σ env b) ∧ (∀ b, Ow σ env' b → Ow σ env b)
  | [], [], os, Fz, env, env', p, _, e => by cases e; exact ⟨Fz, p, trivial, fun _ h => h, fun _ h => .inl h, fun _ h => h⟩
  | .val own d :: as, v :: vs, os, Fz, env, env', p, h, e => by
    unfold takes at e
    cases e1 : takes env as with
    | none => rw [e1] at e; cases e
    | some z =>
      obtain ⟨or, e2⟩ := z
      rw [e1] at e
      cases e
      obtain ⟨Fz', q, av, sub, new, ow⟩ := takes_ok m0 p h.2.2.2 e1
      refine ⟨Fz', q, ⟨?_, h.2.1, ?_, av⟩, sub, new, ow⟩
      · cases own with
        | false => exact Rep.keep (O := fun _ => False) Keep.refl owOk_false sub _ _ h.1
        | true =>
          obtain ⟨x, e', n, no, c⟩ := h.1
          exact ⟨x, e', fun z => (new _ z).elim n no, fun z => no (ow _ z), c.keep (O := fun _ => False) Keep.refl owOk_false sub (fun z => z)⟩
      · intro d' x hd hv j e' he hx
        exact h.2.2.1 d' x hd hv j e' (takes_val e1 he) hx
  | .slot i :: as, v :: vs, os, Fz, env, env', p, h, e => by
    unfold takes at e
    cases e0 : env.at i with
    | none => rw [e0] at e; cases e
    | some s =>
      obtain ⟨fl, d⟩ := s
      rw [e0] at e
      simp only at e
      cases e1 : takes (env.frz i) as with
      | none => rw [e1] at e; cases e
      | some z =>
        obtain ⟨or, e2⟩ := z
        rw [e1] at e
        cases e
        obtain ⟨Fz1, p1, rp, sub1, new1, ow1, sl1⟩ := use_ok m0 p h.1 h.2.1 (show (AV.slot i).use env = some (d, env.frz i) by show ((env.at i).map fun s => (s.2, env.frz i)) = _; rw [e0]; rfl)
        have new1' : ∀ b, Fz1 b → Fz b ∨ Ow σ env b := fun b z => by
          rcases new1 b z with w | ⟨_, d', w⟩ | w
          · exact .inl w
          · cases w
          · exact .inr w
        obtain ⟨Fz', q, av, sub, new, ow⟩ := takes_ok m0 p1 (h.2.2.2.frz sub1 new1' ow1 sl1) e1
        refine ⟨Fz', q, ⟨Rep.keep (O := fun _ => False) Keep.refl owOk_false sub _ _ rp, trivial, fun d' x hd => (nomatch hd), av⟩, fun b z => sub b (sub1 b z), fun b z => ?_, fun b z => ow1 b (ow b z)⟩
        rcases new b z with w | w
        · exact new1' b w
        · exact .inr (ow1 b w)
  | [], _ :: _, _, _, _, _, _, h, _ => h.elim
  | .val _ _ :: _, [], _, _, _, _, _, h, _ => h.elim
  | .slot _ :: _, [], _, _, _, _, _, h, _ => h.elim
def setAll : L2.St → List Nat → List V → L2.St
  | σ, i :: is, v :: vs => setAll (σ.set i (some v)) is vs
  | σ, _, _ => σ
theorem bindOs_len : ∀ {is : List Nat} {os : List (Bool × MP.D)} {env e : En}, bindOs env is os = .ok e → os.length = is.length
  | [], [], env, e, h => rfl
  | i :: is, (own, d) :: os, env, e, h => by
    have h : ((setV env i (if own then .o else .f, d)).bind fun e => bindOs e is os) = .ok e := h
    obtain ⟨e1, h1, h2⟩ := Out.bind_ok h
    simp [bindOs_len h2]
  | [], _ :: _, env, e, h => by cases h
  | _ :: _, [], env, e, h => by cases h
theorem bindOs_ok (hk : Keep Pm H0 Hs) : ∀ {is : List Nat} {os : List (Bool × MP.D)} {vs : List V} {σ : L2.St} {env e : En}, MF G np Pr Pm H0 Fz0 Z Fz σ H env → Avs G σ Hs Fz H env (tkA os) vs → bindOs env is os = .ok e → MF G np Pr Pm H0 Fz0 Z Fz (setAll σ is vs) H e
  | [], [], vs, σ, env, e, m, a, h => by
    cases h
    cases vs with
    | nil => exact m
    | cons _ _ => exact a.elim
  | i :: is, (own, d) :: os, [], σ, env, e, m, a, h => a.elim
  | i :: is, (own, d) :: os, v :: vs, σ, env, e, m, a, h => by
    have h : ((setV env i (if own then .o else .f, d)).bind fun e => bindOs e is os) = .ok e := h
    obtain ⟨e1, h1, h2⟩ := Out.bind_ok h
    obtain ⟨hc, rfl⟩ := setV_eq h1
    obtain ⟨r, f, ds, a'⟩ : AvR G σ Fz H env (.val own d) v ∧ Fre Hs (.val own d) v ∧ _ ∧ Avs G σ Hs Fz H env (tkA os) vs := a
    have hi := canSet_lt hc
    have hiσ : i < σ.length := by rw [← m.mt.len]; exact hi
    -- what is owned behind it
    have own2 : ∀ b, Ow (σ.set i (some v)) (env.set i (some (if own then Fl.o else Fl.f, d))) b → Ow σ env b ∨ (own = true ∧ v = .ref b) := fun b ⟨j, s, e1, e2, e3⟩ => by
      rw [En.at_set hi] at e1
      split at e1
      · rename_i hj
        subst hj
        rw [List.getElem?_set_self hiσ] at e3
        cases e1; cases e3
        cases own with
        | true => exact .inr ⟨rfl, rfl⟩
        | false => cases e2
      · rename_i hj
        rw [List.getElem?_set_ne (Ne.symm hj)] at e3
        exact .inl ⟨j, s, e1, e2, e3⟩
    have key : ∀ {bs : List (Bool × MP.D)} {us : List V}, (∀ (j : Nat) (e : MP.D) (x : Addr), (tkA bs)[j]? = some (.val true e) → us[j]? = some (.ref x) → own = true → v ≠ .ref x) → Avs G σ Hs Fz H env (tkA bs) us → Avs G (σ.set i (some v)) Hs Fz H (env.set i (some (if own then Fl.o else Fl.f, d))) (tkA bs) us := by
      intro bs
      induction bs with
      | nil => intro us _ h; cases us with | nil => trivial | cons _ _ => exact h.elim
      | cons b bs ih =>
        intro us hx h
        cases us with
        | nil => exact h.elim
        | cons u us =>
          obtain ⟨bo, bd⟩ := b
          obtain ⟨r1, f1, d1, a1⟩ : AvR G σ Fz H env (.val bo bd) u ∧ Fre Hs (.val bo bd) u ∧ _ ∧ Avs G σ Hs Fz H env (tkA bs) us := h
          refine ⟨?_, f1, d1, ih (fun j e x h1 h2 => hx (j + 1) e x (by simpa [tkA] using h1) (by simpa using h2)) a1⟩
          cases bo with
          | false => exact r1
          | true =>
            obtain ⟨x, rfl, n, no, c⟩ := r1
            refine ⟨x, rfl, n, fun z => ?_, c⟩
            rcases own2 _ z with w | ⟨w, w'⟩
            · exact no w
            · exact hx 0 bd x rfl rfl w w'
    have a2 := key (fun j e x h1 h2 ho hv => ds d x (by rw [ho]) hv j e h1 h2) a'
    show MF G np Pr Pm H0 Fz0 Z Fz (setAll (σ.set i (some v)) is vs) H e
    refine bindOs_ok hk ?_ a2 h2
    cases own with
    | true =>
      obtain ⟨x, rfl, n, no, c⟩ := r
      exact m.setO hc n no c (hk.none f)
    | false => exact m.setF hc r
  | [], _ :: _, vs, σ, env, e, m, a, h => by cases h
  | _ :: _, [], vs, σ, env, e, m, a, h => by cases h
theorem bindOs_nox : ∀ (is : List Nat) (os : List (Bool × MP.D)) (env : En), (∃ e, bindOs env is os = .ok e) ∨ bindOs env is os = .fail
  | [], [], env => .inl ⟨_, rfl⟩
  | i :: is, (own, d) :: os, env => by
    show (∃ e, ((setV env i (if own then .o else .f, d)).bind fun e => bindOs e is os) = .ok e) ∨ ((setV env i (if own then .o else .f, d)).bind fun e => bindOs e is os) = .fail
    unfold setV
    split
    · exact bindOs_nox is os _
    · exact .inr rfl
  | [], _ :: _, env => .inr rfl
  | _ :: _, [], env => .inr rfl
/-- the parts of a parallel assignment -/
theorem par_core {is : List Nat} {exs : Exs} (m : MF G np Pr Pm H0 Fz0 Z Fz σ H env) (q : OPS G W np Pr Pm H0 Fz0 Z ((evAs cf cl lf exs env).bind fun r => kPar is r.1 r.2) D) :
    OP G W σ Fz H env (evAs cf cl lf exs env) fun avs env' => ∀ vs Fz' H', Po G σ Fz H env Fz' H' env' → Avs G σ H Fz' H' env' avs vs → vs.length = is.length ∧ ∀ H2, (∀ b o, H' b = some o → H2 b = some o) → D.nx (setAll σ is vs) H2 :=
  (OPS.ex m q).imp fun avs env1 q1 vs Fz1 H1 p1 r1 => by
    have q1 : OPS G W np Pr Pm H0 Fz0 Z (kPar is avs env1) D := q1
    unfold kPar at q1
    cases h1 : takes env1 avs with
    | none => rw [h1] at q1; exact q1.elim
    | some z =>
      obtain ⟨os, e2⟩ := z
      rw [h1] at q1
      simp only at q1
      split at q1
      · rcases bindOs_nox is os e2 with ⟨e3, h2⟩ | h2
        · rw [h2] at q1
          obtain ⟨Fz2, p2, a2, _⟩ := takes_ok m.mt p1 r1 h1
          have hl : vs.length = is.length := by rw [a2.length, tkA, List.length_map, bindOs_len h2]
          refine ⟨hl, fun H2 e => ?_⟩
          have p3 := Po.same p2.mt e
          exact q1 _ _ _ (bindOs_ok m.keep ((m.step p2).step p3) (a2.keep p2.mt p3) h2)
        · rw [h2] at q1
          exact q1.elim
      · exact q1.elim
theorem ms_par2 {i j : Nat} {x y : Str} {a b : Expr} {exs : Exs} {px py pt : Pos} {kt k2 pt2} (hc : X.calm = true) (hN : X.N.Nodup) (hi : X.N[i]? = some x) (hj : X.N[j]? = some y) (hij : i ≠ j)
    (hx : X.env.scope.names.lookup x = some .local) (hy : X.env.scope.names.lookup y = some .local) (ha : PA X [a, b] (rdAs G cf cl lf W exs))
    (hw : swappedStores [.Tuple [.Name x px, .Name y py] kt pt] (.Tuple [a, b] k2 pt2) X.env = pure (some [x, y]))
    (hs : swapsWithSole [.Tuple [.Name x px, .Name y py] kt pt] (.Tuple [a, b] k2 pt2) pos.line X.env = pure false) :
    PS X (.Assign [.Tuple [.Name x px, .Name y py] kt pt] (.Tuple [a, b] k2 pt2) pos) (rdS G cf cl lf W np (.par [i, j] exs)) := (ps_par hc hN hi hj hij hx hy ha hw hs).imp fun D σ H ⟨Pr, Pm, H0, Fz0, Z, Fz, env, m, q⟩ => by
  unfold evS at q
  refine ⟨Fz, env, m.mt, (par_core m q).imp fun avs e k vs Fz1 H1 p1 r1 => ?_⟩
  obtain ⟨hl, k⟩ := k vs Fz1 H1 p1 r1
  match vs, hl with
  | [v, w], _ => exact ⟨v, w, rfl, k H1 fun _ _ h => h⟩
theorem ms_par3 {i j l : Nat} {x y z : Str} {a b c : Expr} {exs : Exs} {px py pz pt : Pos} {kt k2 pt2} (hc : X.calm = true) (hN : X.N.Nodup) (hi : X.N[i]? = some x) (hj : X.N[j]? = some y) (hl : X.N[l]? = some z) (hij : i ≠ j) (hil : i ≠ l) (hjl : j ≠ l)
    (hx : X.env.scope.names.lookup x = some .local) (hy : X.env.scope.names.lookup y = some .local) (hz : X.env.scope.names.lookup z = some .local) (ha : PA X [a, b, c] (rdAs G cf cl lf W exs))
    (hw : swappedStores [.Tuple [.Name x px, .Name y py, .Name z pz] kt pt] (.Tuple [a, b, c] k2 pt2) X.env = pure (some [x, y, z]))
    (hs : swapsWithSole [.Tuple [.Name x px, .Name y py, .Name z pz] kt pt] (.Tuple [a, b, c] k2 pt2) pos.line X.env = pure false) :
    PS X (.Assign [.Tuple [.Name x px, .Name y py, .Name z pz] kt pt] (.Tuple [a, b, c] k2 pt2) pos) (rdS G cf cl lf W np (.par [i, j, l] exs)) := (ps_par3 hc hN hi hj hl hij hil hjl hx hy hz ha hw hs).imp fun D σ H ⟨Pr, Pm, H0, Fz0, Z, Fz, env, m, q⟩ => by
  unfold evS at q
  refine ⟨Fz, env, m.mt, (par_core m q).imp fun avs e k vs Fz1 H1 p1 r1 => ?_⟩
  obtain ⟨hl, k⟩ := k vs Fz1 H1 p1 r1
  match vs, hl with
  | [u, v, w], _ => exact ⟨u, v, w, rfl, k H1 fun _ _ h => h⟩
theorem gTs_names {K : PySem.W.Frag} : ∀ {is : List Nat} {vs : List V} {σ : L2.St} {H : Hp} {Q : L2.St → Hp → Prop}, vs.length = is.length → Q (setAll σ is vs) H → gTs K (is.map .nm) vs σ H Q
  | [], [], σ, H, Q, _, q => by
    unfold List.map gTs
    exact ⟨rfl, q⟩
  | i :: is, v :: vs, σ, H, Q, hl, q => by
    show gTs K (.nm i :: is.map .nm) (v :: vs) σ H Q
    unfold gTs gT
    exact ⟨v, vs, rfl, gTs_names (by simpa using hl) q⟩
  | [], _ :: _, _, _, _, hl, _ => by simp at hl
  | _ :: _, [], _, _, _, hl, _ => by simp at hl
/-- by way of a tuple -/
theorem ms_parT {is : List Nat} {ts es : List Expr} {exs : Exs} {pt pt2 : Pos} {kt k2 : Nat} (hK : X.K = G.K) (ha : PA X es (rdAs G cf cl lf W exs)) (hg : PG X (.Tuple ts kt pt) (gT G.K (.tp (is.map .nm)))) (hn : is.length ≤ 1000)
    (hs : swapsWithSole [.Tuple ts kt pt] (.Tuple es k2 pt2) pos.line X.env = pure false) (hw : swappedStores [.Tuple ts kt pt] (.Tuple es k2 pt2) X.env = pure none) (h1 : (assignEach [.Tuple ts kt pt] X.env).map (·.2) = [assign (.Tuple ts kt pt) X.env]) :
    PS X (.Assign [.Tuple ts kt pt] (.Tuple es k2 pt2) pos) (rdS G cf cl lf W np (.par is exs)) := (ps_asg (pe_tup ha) hg hs hw h1).imp fun D σ H ⟨Pr, Pm, H0, Fz0, Z, Fz, env, m, q⟩ => by
  unfold evS at q
  refine ⟨Fz, env, m.mt, (par_core m q).imp fun avs e k vs Fz1 H1 p1 r1 => ?_⟩
  obtain ⟨hl, k⟩ := k vs Fz1 H1 p1 r1
  refine ⟨small_line (by rw [hl]; exact hn), fun p np => ?_⟩
  have e := upd_same_of (o := .tup vs) np
  unfold gT
  refine ⟨p, vs, rfl, .of upd_same, by rw [List.length_map]; exact hl, gTs_names hl (k _ e)⟩
end
end MP
set_option maxRecDepth 100000
set_option maxHeartbeats 2000000
/-! MP15: comprehensions. -/
namespace MP
open PySem PySem.Spec PyProof.Rows L2
mutual
/-- the names of a target -/
def Tg.ns : Tg → List Nat
  | .nm i => [i]
  | .tp ts => Tg.nss ts
def Tg.nss : List Tg → List Nat
  | [] => []
  | t :: ts => t.ns ++ Tg.nss ts
end
theorem wipeS_get (σ : L2.St) (j : Nat) : ∀ vs : List Nat, (L2.wipe σ vs)[j]? = if j ∈ vs ∧ j < σ.length then some none else σ[j]?
  | [] => by simp [L2.wipe]
  | v :: vs => by
    unfold L2.wipe
    by_cases h : v = j
    · subst h
      by_cases hl : v < σ.length
      · rw [List.getElem?_set_self (by rw [wipe_length]; exact hl), if_pos ⟨by simp, hl⟩]
      · rw [List.getElem?_eq_none (by rw [List.length_set, wipe_length]; omega), if_neg (fun z => hl z.2), List.getElem?_eq_none (by omega)]
    · rw [List.getElem?_set_ne h, wipeS_get σ j vs]
      have : (j ∈ v :: vs ∧ j < σ.length) ↔ (j ∈ vs ∧ j < σ.length) := by simp [Ne.symm h]
      simp only [this]
theorem wipe_len (env : En) : ∀ vs : List Nat, (MP.wipe env vs).length = env.length
  | [] => rfl
  | v :: vs => by unfold MP.wipe; rw [List.length_set, wipe_len env vs]
theorem set_at {env : En} {i j : Nat} {o : Option SV} : En.at (env.set i o) j = if j = i ∧ i < env.length then o else env.at j := by
  by_cases hi : i < env.length
  · rw [En.at_set hi]
    simp [hi]
  · rw [if_neg (fun z => hi z.2), List.set_eq_of_length_le (by omega)]
theorem wipe_at (env : En) (j : Nat) : ∀ vs : List Nat, En.at (MP.wipe env vs) j = if j ∈ vs then none else env.at j
  | [] => by simp [MP.wipe]
  | v :: vs => by
    unfold MP.wipe
    rw [set_at, wipe_len, wipe_at env j vs]
    by_cases h : j = v
    · subst h
      by_cases hl : j < env.length
      · rw [if_pos ⟨rfl, hl⟩, if_pos (by simp)]
      · rw [if_neg (fun z => hl z.2)]
        have : env.at j = none := by
          cases e : env.at j with
          | none => rfl
          | some s => exact absurd (En.at_lt e) hl
        simp [this]
    · rw [if_neg (fun z => h z.1)]
      simp [h]
theorem unown_len (e0 env : En) : ∀ vs : List Nat, (unown e0 env vs).length = env.length
  | [] => rfl
  | v :: vs => by unfold unown; rw [List.length_set, unown_len e0 env vs]
theorem unown_at {e0 env : En} (hl : e0.length = env.length) (j : Nat) : ∀ vs : List Nat, En.at (unown e0 env vs) j = if j ∈ vs then e0.at j else env.at j
  | [] => by simp [unown]
  | v :: vs => by
    unfold unown
    rw [set_at, unown_len, unown_at hl j vs]
    by_cases h : j = v
    · subst h
      by_cases hj : j < env.length
      · rw [if_pos ⟨rfl, hj⟩, if_pos (by simp)]; rfl
      · rw [if_neg (fun z => hj z.2)]
        have n1 : env.at j = none := by
          cases e : env.at j with
          | none => rfl
          | some s => exact absurd (En.at_lt e) hj
        have n2 : e0.at j = none := by
          cases e : e0.at j with
          | none => rfl
          | some s => exact absurd (En.at_lt e) (by omega)
        simp [n1, n2]
    · rw [if_neg (fun z => h z.1)]
      simp [h]
section
variable {G : Gx} {cf : CF} {cl : Nat → LF → List SV → Out (SV × List SV)} {lf : Option LF} {W : WX} {X : Cx} {pos : Pos} {np : Nat} {Pr : List (Nat × Addr)} {Pm : Addr → Prop} {H0 Hs : Hp} {Fz0 Fz Fz' Fz1 : Addr → Prop} {Z : Addr → HO → Prop} {σ : L2.St} {H H' H1 : Hp} {env env' : En} {α : Type}
/-- what a target's names leave -/
def TgB (tg : Tg → List Nat) : Prop := True
mutual
theorem gT_ok2 : ∀ (tg : Tg) {d : MP.D} {v : V} {σ : L2.St} {env e : En} {Q : L2.St → Hp → Prop}, MF G np Pr Pm H0 Fz0 Z Fz σ H env → Rep G Fz H d v → tg.set env d = .ok e → (∀ σ', MF G np Pr Pm H0 Fz0 Z Fz σ' H e → (∀ b, Ow σ' e b → Ow σ env b) → (∀ j, j ∉ tg.ns → σ'[j]? = σ[j]? ∧ e.at j = env.at j) → σ'.length = σ.length → Q σ' H) → gT G.K tg v σ H Q
  | .nm i, d, v, σ, env, e, Q, m, r, h, k => by
    unfold gT
    obtain ⟨hc, rfl⟩ := setV_eq (show setV env i (.f, d) = .ok e by unfold Tg.set at h; exact h)
    refine k _ (m.setF hc r) (fun b ⟨j, s, e1, e2, e3⟩ => ?_) (fun j hj => ?_) (by rw [List.length_set])
    · rw [En.at_set (canSet_lt hc)] at e1
      split at e1
      · cases e1; cases e2
      · rename_i hj
        rw [List.getElem?_set_ne (Ne.symm hj)] at e3
        exact ⟨j, s, e1, e2, e3⟩
    · have hj : j ≠ i := fun z => hj (by unfold Tg.ns; simp [z])
      rw [En.at_set (canSet_lt hc), if_neg hj, List.getElem?_set_ne (Ne.symm hj)]
      exact ⟨rfl, rfl⟩
  | .tp ts, d, v, σ, env, e, Q, m, r, h, k => by
    unfold gT
    cases d with
    | tup ds =>
      have h : Tg.sets ts env ds = .ok e := by unfold Tg.set at h; exact h
      cases r with
      | tup h1 h2 => exact ⟨_, _, rfl, h1, by rw [← h2.length]; exact sets_len ts h, gTs_ok2 ts m h2 h fun σ' m' o f l => k σ' m' o (fun j hj => f j (fun z => hj (by unfold Tg.ns; exact z))) l⟩
    | _ => unfold Tg.set at h; cases h
theorem gTs_ok2 : ∀ (ts : List Tg) {ds : List MP.D} {vs : List V} {σ : L2.St} {env e : En} {Q : L2.St → Hp → Prop}, MF G np Pr Pm H0 Fz0 Z Fz σ H env → Reps G Fz H ds vs → Tg.sets ts env ds = .ok e → (∀ σ', MF G np Pr Pm H0 Fz0 Z Fz σ' H e → (∀ b, Ow σ' e b → Ow σ env b) → (∀ j, j ∉ Tg.nss ts → σ'[j]? = σ[j]? ∧ e.at j = env.at j) → σ'.length = σ.length → Q σ' H) → gTs G.K ts vs σ H Q
  | [], ds, vs, σ, env, e, Q, m, r, h, k => by
    unfold gTs
    cases ds with
    | nil =>
      cases r
      unfold Tg.sets at h
      cases h
      exact ⟨rfl, k _ m (fun _ h => h) (fun _ _ => ⟨rfl, rfl⟩) rfl⟩
    | cons d ds => unfold Tg.sets at h; cases h
  | t :: ts, ds, vs, σ, env, e, Q, m, r, h, k => by
    unfold gTs
    cases ds with
    | nil => unfold Tg.sets at h; cases h
    | cons d ds =>
      cases r with
      | cons r1 r2 =>
        have h : ((t.set env d).bind fun e => Tg.sets ts e ds) = .ok e := by unfold Tg.sets at h; exact h
        obtain ⟨e1, h1, h2⟩ := Out.bind_ok h
        exact ⟨_, _, rfl, gT_ok2 t m r1 h1 fun σ' m' o f l => gTs_ok2 ts m' r2 h2 fun σ'' m'' o' f' l' => k σ'' m'' (fun b z => o b (o' b z)) (fun j hj => by
          have hj1 : j ∉ t.ns := fun z => hj (by unfold Tg.nss; simp [z])
          have hj2 : j ∉ Tg.nss ts := fun z => hj (by unfold Tg.nss; simp [z])
          exact ⟨(f' j hj2).1.trans (f j hj1).1, (f' j hj2).2.trans (f j hj1).2⟩) (l'.trans l)⟩
end
/-- names are forgotten -/
theorem Mt.wipe (m : Mt G Fz σ H env) (own : List Nat) : Mt G Fz (L2.wipe σ own) H (MP.wipe env own) := by
  have sub : ∀ {j s}, En.at (MP.wipe env own) j = some s → env.at j = some s ∧ (L2.wipe σ own)[j]? = σ[j]? := fun {j s} h => by
    rw [wipe_at] at h
    split at h
    · cases h
    · rename_i hj
      exact ⟨h, by rw [wipeS_get, if_neg (fun z => hj z.1)]⟩
  refine ⟨by rw [wipe_len, wipe_length]; exact m.len, fun i s h => ?_, fun i j a s s' h1 h2 o1 o2 e1 e2 => ?_, m.dom, m.tabs⟩
  · obtain ⟨h, e⟩ := sub h
    rw [e]
    exact m.slot i s h
  · obtain ⟨h1, q1⟩ := sub h1
    obtain ⟨h2, q2⟩ := sub h2
    rw [q1] at e1
    rw [q2] at e2
    exact m.dis i j a s s' h1 h2 o1 o2 e1 e2
theorem Ow.wipe {own : List Nat} {b : Addr} (h : Ow (L2.wipe σ own) (MP.wipe env own) b) : Ow σ env b := by
  obtain ⟨i, s, h1, h2, h3⟩ := h
  rw [wipe_at] at h1
  split at h1
  · cases h1
  · rename_i hj
    rw [wipeS_get, if_neg (fun z => hj z.1)] at h3
    exact ⟨i, s, h1, h2, h3⟩
/-- another object changes -/
theorem Mt.other (m : Mt G Fz σ H env) {a : Addr} {o : HO} (nf : ¬ Fz a) (no : ¬ Ow σ env a) (h0 : H a = some o) (hc : isCell o) (hk : ∀ b o, b ≠ a → H b = some o → H' b = some o) : Mt G Fz σ H' env := by
  have okO : OwOk Fz H (fun b => b = a) := fun b z => by subst z; exact ⟨nf, o, h0, hc⟩
  have hd : ∀ b, Fz b → ∃ o, H' b = some o := fun b z => by
    obtain ⟨o1, e⟩ := m.dom b z
    exact ⟨o1, hk b _ (fun q => nf (by rw [← q]; exact z)) e⟩
  refine ⟨m.len, fun j s e => ?_, m.dis, hd, m.tabs.ext hk nf fun ps z => by rw [h0] at z; cases z; exact hc⟩
  obtain ⟨v, e1, r⟩ := m.slot j s e
  refine ⟨v, e1, ?_⟩
  have keepR : ∀ {d : MP.D} {v : V}, Rep G Fz H d v → Rep G Fz H' d v := fun {d v} r => by
    have r1 := r
    exact Rep.zf (Fz1 := Fz) (H1 := H) (fun b o ⟨z1, z2, z3⟩ => hk b o (fun q => by
      subst q
      rcases z2 with w | w
      · exact nf w
      · rw [h0] at z1; cases z1; exact w hc) z1) _ _ r1
  unfold SlotR at r ⊢
  split at r
  · rename_i os
    rw [if_pos os]
    obtain ⟨b, rfl, n, c⟩ := r
    have hb : b ≠ a := fun z => no (by rw [← z]; exact ⟨j, s, e, os, e1⟩)
    refine ⟨b, rfl, n, ?_⟩
    have keepRs : ∀ {ds : List MP.D} {vs : List V}, Reps G Fz H ds vs → Reps G Fz H' ds vs := fun {ds vs} r => Reps.zf (Fz1 := Fz) (H1 := H) (fun b o ⟨z1, z2, z3⟩ => hk b o (fun q => by
      subst q
      rcases z2 with w | w
      · exact nf w
      · rw [h0] at z1; cases z1; exact w hc) z1) _ _ r
    revert c
    cases s.2 with
    | lst ds => exact fun ⟨xs, h1, h2⟩ => ⟨xs, hk _ _ hb h1, keepRs h2⟩
    | dct ks vs => exact fun ⟨es, ob, h1, h2, h3, h4⟩ => ⟨es, ob, hk _ _ hb h1, h2, keepRs h3, keepRs h4⟩
    | non => exact fun z => z.elim
    | bl _ => exact fun z => z.elim
    | int _ => exact fun z => z.elim
    | str _ => exact fun z => z.elim
    | tup _ => exact fun z => z.elim
    | fn _ => exact fun z => z.elim
    | fls _ => exact fun z => z.elim
  · rename_i os
    rw [if_neg os]
    exact keepR r
theorem Reps.other {ds : List MP.D} {vs : List V} (r : Reps G Fz H ds vs) {a : Addr} {o : HO} (nf : ¬ Fz a) (h0 : H a = some o) (hc : isCell o) (hk : ∀ b o, b ≠ a → H b = some o → H' b = some o) : Reps G Fz H' ds vs :=
  Reps.zf (Fz1 := Fz) (H1 := H) (fun b o ⟨z1, z2, z3⟩ => hk b o (fun q => by
    subst q
    rcases z2 with w | w
    · exact nf w
    · rw [h0] at z1; cases z1; exact w hc) z1) _ _ r
end
end MP
set_option maxRecDepth 100000
set_option maxHeartbeats 2000000
/-! MP16: comprehensions: the rule. -/
namespace MP
open PySem PySem.Spec PyProof.Rows L2
def WF : WX := fun _ _ _ _ => False
/-- a comprehension at work: D the new list -/
structure CI (G : Gx) (σ : L2.St) (own : List Nat) (env1 : En) (Fz1 : Addr → Prop) (H1 : Hp) (D : Addr) (Fz : Addr → Prop) (σ' : L2.St) (H : Hp) (e : En) (acc : List MP.D) (xs : List V) : Prop where
  m : MF G env1.length [] (fun b => Ow (L2.wipe σ own) (MP.wipe env1 own) b ∨ b = D) (upd H1 D (.lst [])) Fz1 (ZF Fz1 H1) Fz σ' H e
  no : ¬ Ow σ' e D
  nf : ¬ Fz D
  fl : ∀ j, j ∉ own → FlO (env1.at j) (e.at j)
  d : H D = some (.lst xs)
  rs : Reps G Fz H acc.reverse xs
  w : L2.wipe σ' own = L2.wipe σ own
section
variable {G : Gx} {cf : CF} {cl : Nat → LF → List SV → Out (SV × List SV)} {lf : Option LF} {W : WX} {X : Cx} {pos : Pos} {np : Nat} {Pr : List (Nat × Addr)} {Pm : Addr → Prop} {H0 Hs : Hp} {Fz0 Fz Fz' Fz1 : Addr → Prop} {Z : Addr → HO → Prop} {σ σ' : L2.St} {H H' H1 : Hp} {env env' env1 e e' : En} {α : Type} {own : List Nat} {D : Addr} {acc : List MP.D} {xs : List V}
theorem CI.step (c : CI G σ own env1 Fz1 H1 D Fz σ' H e acc xs) (p : Po G σ' Fz H e Fz' H' e') : CI G σ own env1 Fz1 H1 D Fz' σ' H' e' acc xs := by
  refine ⟨c.m.step p, fun z => c.no (p.ow _ z), fun z => ?_, fun j hj => (c.fl j hj).trans (p.fl j), p.keep.k _ _ c.d c.no (fun ps z => nomatch z), Reps.keep p.keep c.m.mt.owOk p.sub _ _ c.rs, c.w⟩
  rcases p.new _ z with w | w | w
  · exact c.nf w
  · rw [c.d] at w; cases w
  · exact c.no w
theorem MF.wipe (m : MF G np [] Pm H0 Fz0 Z Fz σ' H e) : MF G np [] Pm H0 Fz0 Z Fz (L2.wipe σ' own) H (MP.wipe e own) := by
  refine ⟨m.mt.wipe own, m.keep, fun b z => m.ow b z.wipe, m.fz, m.sub, fun i s a hi h1 h2 h3 => ?_, fun i a h => (by simp at h), m.pin⟩
  rw [wipe_at] at h1
  split at h1
  · cases h1
  · rename_i hj
    rw [wipeS_get, if_neg (fun z => hj z.1)] at h3
    exact m.fresh i s a hi h1 h2 h3
theorem CI.wipe (c : CI G σ own env1 Fz1 H1 D Fz σ' H e acc xs) : CI G σ own env1 Fz1 H1 D Fz (L2.wipe σ own) H (MP.wipe e own) acc xs := by
  have m := c.m.wipe (own := own)
  have no : ¬ Ow (L2.wipe σ' own) (MP.wipe e own) D := fun z => c.no z.wipe
  rw [c.w] at m no
  refine ⟨m, no, c.nf, fun j hj => by rw [wipe_at, if_neg hj]; exact c.fl j hj, c.d, c.rs, ?_⟩
  apply List.ext_getElem?
  intro j
  rw [wipeS_get, wipe_length]
  split
  · rename_i h
    rw [wipeS_get, if_pos h]
  · rfl
theorem CI.push (c : CI G σ own env1 Fz1 H1 D Fz σ' H e acc xs) {d : MP.D} {v : V} (r : Rep G Fz H d v) : CI G σ own env1 Fz1 H1 D Fz σ' (upd H D (.lst (xs ++ [v]))) e (d :: acc) (xs ++ [v]) := by
  have hk : ∀ b o, b ≠ D → H b = some o → upd H D (.lst (xs ++ [v])) b = some o := fun b o n h => by rw [upd_ne n]; exact h
  refine ⟨⟨c.m.mt.other c.nf c.no c.d trivial hk, ⟨fun b o h n t => hk b o (fun z => n (.inr z)) (c.m.keep.k _ _ h n t), fun b ps h n => ?_, fun b o h => ?_⟩, c.m.ow, c.m.fz, c.m.sub, c.m.fresh, fun i a h => (by simp at h), fun b o z => ?_⟩, c.no, c.nf, c.fl, upd_same, ?_, c.w⟩
  · obtain ⟨qs, h1⟩ := c.m.keep.t _ _ h n
    exact ⟨qs, hk b _ (fun z => n (.inr z)) h1⟩
  · obtain ⟨o1, h1⟩ := c.m.keep.dm _ _ h
    by_cases hb : b = D
    · subst hb; exact ⟨_, upd_same⟩
    · exact ⟨o1, hk b _ hb h1⟩
  · obtain ⟨h1, h2, h3⟩ := c.m.pin b o z
    refine ⟨hk b o (fun q => ?_) h1, h2, h3⟩
    subst q
    rcases h2 with w | w
    · exact c.nf w
    · rw [c.d] at h1; cases h1; exact w trivial
  · rw [List.reverse_cons]
    exact Reps.other (c.rs.append (.cons r .nil)) c.nf c.d trivial hk
theorem CI.start (m : Mt G Fz1 σ H1 env1) (hD : H1 D = none) : CI G σ own env1 Fz1 H1 D Fz1 (L2.wipe σ own) (upd H1 D (.lst [])) (MP.wipe env1 own) [] [] := by
  have e := upd_same_of (o := .lst []) hD
  refine ⟨⟨(m.same e).wipe own, Keep.refl, fun b z => .inl (.inl z), fun b z => .inl z, fun b z => z, fun i s a hi h => ?_, fun i a h => (by simp at h), fun b o ⟨z1, z2, z3⟩ => ⟨e _ _ z1, z2, z3⟩⟩, fun z => ?_, fun z => ?_, fun j hj => by rw [wipe_at, if_neg hj]; exact FlO.refl _, upd_same, .nil, ?_⟩
  · have := En.at_lt h
    rw [wipe_len] at this
    exact absurd this (Nat.not_lt.mpr hi)
  · obtain ⟨_, o, ho, _⟩ := m.owOk D z.wipe
    rw [hD] at ho; cases ho
  · obtain ⟨o, ho⟩ := m.dom D z
    rw [hD] at ho; cases ho
  · apply List.ext_getElem?
    intro j
    rw [wipeS_get, wipe_length]
    split
    · rename_i h
      rw [wipeS_get, if_pos h]
    · rfl
/-- behind it -/
theorem CI.fin (m : Mt G Fz1 σ H1 env1) (hD : H1 D = none) (c : CI G σ own env1 Fz1 H1 D Fz (L2.wipe σ own) H e acc xs) :
    Po G σ Fz1 H1 env1 Fz H (unown env1 e own) ∧ AvR G σ Fz H (unown env1 e own) (.val true (.lst acc.reverse)) (.ref D) := by
  have hlen : env1.length = e.length := by
    rw [c.m.mt.len, wipe_length]; exact m.len
  have h1D : ∀ b o, H1 b = some o → upd H1 D (.lst []) b = some o := upd_same_of hD
  have neD : ∀ b o, H1 b = some o → b ≠ D := fun b o h z => by rw [z, hD] at h; cases h
  have kp : Keep (Ow σ env1) H1 H := by
    have np' : ∀ b o, H1 b = some o → ¬ Ow σ env1 b → ¬ (Ow (L2.wipe σ own) (MP.wipe env1 own) b ∨ b = D) := fun b o h n z => z.elim (fun z => n z.wipe) (neD b o h)
    refine ⟨fun b o h n t => c.m.keep.k _ _ (h1D _ _ h) (np' b o h n) t, fun b ps h n => c.m.keep.t _ _ (h1D _ _ h) (np' b _ h n), fun b o h => c.m.keep.dm _ _ (h1D _ _ h)⟩
  -- a name of the block's own was not changed
  have at1 : ∀ j s, En.at (unown env1 e own) j = some s → (j ∈ own ∧ env1.at j = some s) ∨ (j ∉ own ∧ e.at j = some s) := fun j s h => by
    rw [unown_at hlen] at h
    split at h
    · exact .inl ⟨‹_›, h⟩
    · exact .inr ⟨‹_›, h⟩
  have wat : ∀ j, j ∉ own → (L2.wipe σ own)[j]? = σ[j]? := fun j hj => by rw [wipeS_get, if_neg (fun z => hj z.1)]
  -- the objects that the block could change
  have pmo : ∀ a, (Ow (L2.wipe σ own) (MP.wipe env1 own) a) → ∃ j s, j ∉ own ∧ env1.at j = some s ∧ s.1.own = true ∧ σ[j]? = some (some (.ref a)) := fun a ⟨j, s, z1, z2, z3⟩ => by
    rw [wipe_at] at z1
    split at z1
    · cases z1
    · rename_i hj
      rw [wat j hj] at z3
      exact ⟨j, s, hj, z1, z2, z3⟩
  have mine : ∀ j s a, j ∈ own → env1.at j = some s → s.1.own = true → σ[j]? = some (some (.ref a)) → ¬ (Ow (L2.wipe σ own) (MP.wipe env1 own) a ∨ a = D) := fun j s a hj h o q z => by
    rcases z with z | z
    · obtain ⟨l, t, hl, z1, z2, z3⟩ := pmo a z
      have := m.dis j l a s t h z1 o z2 q z3
      subst this
      exact hl hj
    · obtain ⟨_, o', ho, _⟩ := m.owOk a ⟨j, s, h, o, q⟩
      exact neD a o' ho z
  have mt : Mt G Fz σ H (unown env1 e own) := by
    refine ⟨by rw [unown_len, ← hlen]; exact m.len, fun j s h => ?_, fun j l a s t h1 h2 o1 o2 e1 e2 => ?_, c.m.mt.dom, c.m.mt.tabs⟩
    · rcases at1 j s h with ⟨hj, h⟩ | ⟨hj, h⟩
      · obtain ⟨v, hv, r⟩ := m.slot j s h
        refine ⟨v, hv, ?_⟩
        unfold SlotR at r ⊢
        split at r
        · rename_i os
          rw [if_pos os]
          obtain ⟨a, rfl, n, cc⟩ := r
          have na := mine j s a hj h os hv
          refine ⟨a, rfl, fun z => ?_, ?_⟩
          · rcases c.m.fz a z with w | w | w
            · exact n w
            · obtain ⟨o, ho, _⟩ := cc.there
              rw [h1D _ _ ho] at w; cases w
            · exact na w
          · -- its content
            have kp2 : Keep (Ow (L2.wipe σ own) (MP.wipe env1 own)) H1 H := ⟨fun b o h n t => c.m.keep.k _ _ (h1D _ _ h) (fun z => z.elim n (neD b o h)) t, fun b ps h n => c.m.keep.t _ _ (h1D _ _ h) (fun z => z.elim n (neD b _ h)), kp.dm⟩
            have ok2 : OwOk Fz1 H1 (Ow (L2.wipe σ own) (MP.wipe env1 own)) := fun b z => m.owOk b z.wipe
            exact cc.keep kp2 ok2 c.m.sub fun z => na (.inl z)
        · rename_i os
          rw [if_neg os]
          exact Rep.keep kp m.owOk c.m.sub _ _ r
      · obtain ⟨v, hv, r⟩ := c.m.mt.slot j s h
        rw [wat j hj] at hv
        exact ⟨v, hv, r⟩
    · rcases at1 j s h1 with ⟨hj, h1⟩ | ⟨hj, h1⟩ <;> rcases at1 l t h2 with ⟨hl, h2⟩ | ⟨hl, h2⟩
      · exact m.dis j l a s t h1 h2 o1 o2 e1 e2
      · exfalso
        rcases c.m.ow a ⟨l, t, h2, o2, by rw [wat l hl]; exact e2⟩ with w | w
        · exact mine j s a hj h1 o1 e1 w
        · obtain ⟨_, o, ho, _⟩ := m.owOk a ⟨j, s, h1, o1, e1⟩
          rw [h1D _ _ ho] at w; cases w
      · exfalso
        rcases c.m.ow a ⟨j, s, h1, o1, by rw [wat j hj]; exact e1⟩ with w | w
        · exact mine l t a hl h2 o2 e2 w
        · obtain ⟨_, o, ho, _⟩ := m.owOk a ⟨l, t, h2, o2, e2⟩
          rw [h1D _ _ ho] at w; cases w
      · exact c.m.mt.dis j l a s t h1 h2 o1 o2 (by rw [wat j hj]; exact e1) (by rw [wat l hl]; exact e2)
  refine ⟨⟨kp, c.m.sub, fun b z => ?_, mt, fun j => ?_⟩, D, rfl, c.nf, fun ⟨j, s, z1, z2, z3⟩ => ?_, xs, c.d, c.rs⟩
  · rcases c.m.fz b z with w | w | w | w
    · exact .inl w
    · refine .inr (.inl ?_)
      cases h : H1 b with
      | none => rfl
      | some o => rw [h1D _ _ h] at w; cases w
    · exact .inr (.inr w.wipe)
    · exact .inr (.inl (by rw [w]; exact hD))
  · rw [unown_at hlen]
    split
    · exact FlO.refl _
    · exact c.fl j ‹_›
  · rcases at1 j s z1 with ⟨hj, h⟩ | ⟨hj, h⟩
    · obtain ⟨_, o, ho, _⟩ := m.owOk D ⟨j, s, h, z2, z3⟩
      rw [hD] at ho; cases ho
    · exact c.no ⟨j, s, h, z2, by rw [wat j hj]; exact z3⟩
/-! ### the evaluator's turns -/
theorem nox_eq {x : Out α} {a : α} (h : x.nox = .ok a) : x = .ok a := by
  cases x with
  | ok b => exact h
  | exn x l e => cases h
  | fail => cases h
theorem nox_exn {x : Out α} {s : Str} {l : Option Int} {e : En} : x.nox ≠ .exn s l e := fun h => by cases x <;> cases h
theorem compF_exn {f : MP.D → En → Out (Option MP.D × En)} (hf : ∀ d e s l e', f d e ≠ .exn s l e') : ∀ (ds acc : List MP.D) (e : En) (s : Str) (l : Option Int) (e' : En), compF f ds acc e ≠ .exn s l e'
  | [], acc, e, s, l, e', h => by unfold compF at h; cases h
  | d :: ds, acc, e, s, l, e', h => by
    unfold compF at h
    cases h1 : f d e with
    | exn s' l' e'' => exact hf d e _ _ _ h1
    | fail => rw [h1] at h; cases h
    | ok r =>
      obtain ⟨o, e2⟩ := r
      rw [h1] at h
      cases o with
      | none => exact compF_exn hf ds acc e2 s l e' h
      | some y =>
        have h : (if acc.length < LINE then compF f ds (y :: acc) e2 else .fail) = Out.exn s l e' := h
        split at h
        · exact compF_exn hf ds (y :: acc) e2 s l e' h
        · cases h
def rdC (G : Gx) (cf : CF) (cl : Nat → LF → List SV → Out (SV × List SV)) (lf : Option LF) (W : WX) (es : Exs) : TT := fun σ H Q => ∃ Fz env, Mt G Fz σ H env ∧ OP G W σ Fz H env (evC cf cl lf es env) fun b env' => ∀ Fz' H', Po G σ Fz H env Fz' H' env' → Q b H'
theorem _root_.L2.PTs.imp {X : Cx} {e : List Expr} {t t' : TT} (h : PTs X e t) (k : ∀ σ H Q, t' σ H Q → t σ H Q) : PTs X e t' := ⟨fun pins s σ H Q I q => h.run pins s σ H Q I (k σ H Q q)⟩
theorem mc_nil : PTs X [] (rdC G cf cl lf W .nil) := pts_nil.imp fun σ H Q ⟨Fz, env, m, q⟩ => by
  unfold evC at q
  exact q Fz H (Po.refl m)
theorem mc_one {c : Expr} {ec : Ex} (h : PT X c (rdT G cf cl lf W ec)) : PTs X [c] (rdC G cf cl lf W (.cons ec .nil)) := (pts_one h).imp fun σ H Q ⟨Fz, env, m, q⟩ => by
  unfold evC at q
  exact ⟨Fz, env, m, q⟩
theorem comp_imp {ex : Ex} {t : Tg} {it : Wk} {cond : Exs} {Q : VK} (hti : ∀ i ∈ t.ns, i ∈ own) (h : rd G cf cl lf W (.comp ex t it own cond) σ H Q) : tLc (rdI G cf cl lf W it) (gT G.K t) (rdC G cf cl lf WF cond) (rd G cf cl lf WF ex) own σ H Q := by
  obtain ⟨Fz, env, m, q⟩ := h
  unfold evA at q
  refine ⟨Fz, env, m, q.bind.imp fun ds env1 q1 J Fz1 H1 p1 ok D hD => ?_⟩
  generalize hf : kTurn t own (fun e => evC cf cl lf cond e) (fun e => evA cf cl lf ex e) = f at q1
  cases hz : compF f ds [] (MP.wipe env1 own) with
  | fail =>
    have q1 : OP G W σ Fz H env ((compF f ds [] (MP.wipe env1 own)).bind fun z => .ok (AV.val true (.lst z.1), unown env1 z.2 own)) _ := q1
    rw [hz] at q1
    exact q1.elim
  | exn s l e => exact absurd hz (compF_exn (fun d e s l e' h => by rw [← hf] at h; exact nox_exn h) _ _ _ _ _ _)
  | ok z =>
    have q1 : OP G W σ Fz H env ((compF f ds [] (MP.wipe env1 own)).bind fun z => .ok (AV.val true (.lst z.1), unown env1 z.2 own)) _ := q1
    rw [hz] at q1
    have q1 := OP.ret (W := W) q1
    refine ⟨fun i k H2 => k = ds.length - i ∧ i ≤ ds.length ∧ ∃ Fz2 e acc xs, CI G σ own env1 Fz1 H1 D Fz2 (L2.wipe σ own) H2 e acc xs ∧ compF f (ds.drop i) acc e = .ok z, ⟨ds.length, by simp, Nat.zero_le _, Fz1, _, [], [], CI.start p1.mt hD, by simpa using hz⟩, ?_⟩
    rintro i k H2 ⟨rfl, hi, Fz2, e, acc, xs, c, hc⟩
    obtain ⟨o1, o2, o3⟩ := ok i H2 fun b o z => (c.m.pin b o z).1
    by_cases hlt : i < ds.length
    · refine .inr ⟨o1 hlt, fun H' => ds.length - (i + 1) = ds.length - (i + 1) ∧ i + 1 ≤ ds.length ∧ ∃ Fz2 e acc xs, CI G σ own env1 Fz1 H1 D Fz2 (L2.wipe σ own) H' e acc xs ∧ compF f (ds.drop (i + 1)) acc e = .ok z, fun H' h => ⟨ds.length - (i + 1), by omega, h⟩, fun x H3 y => ?_⟩
      have hd : ds[i]? = some ds[i] := by simp [hlt]
      obtain ⟨e3, r3⟩ := o3 x H3 _ y hd
      rw [List.drop_eq_getElem_cons hlt] at hc
      unfold compF at hc
      obtain ⟨⟨od, e9⟩, hc1, hc2⟩ := Out.bind_ok hc
      rw [← hf] at hc1
      have hc1 := nox_eq hc1
      obtain ⟨e1, hs, hc1⟩ := Out.bind_ok hc1
      obtain ⟨⟨b, e2⟩, hb, hc1⟩ := Out.bind_ok hc1
      have c3 := c.step (Po.same c.m.mt e3)
      refine gT_ok2 t c3.m (c3.m.rep r3) hs fun σ' m4 o4 f4 l4 => ?_
      have hw : L2.wipe σ' own = L2.wipe (L2.wipe σ own) own := by
        apply List.ext_getElem?
        intro j
        rw [wipeS_get, wipeS_get, l4]
        split
        · rfl
        · rename_i hj
          by_cases hjo : j ∈ own
          · have : ¬ j < (L2.wipe σ own).length := fun z => hj ⟨hjo, z⟩
            rw [List.getElem?_eq_none (by omega), List.getElem?_eq_none (by omega)]
          · exact (f4 j (fun z => hjo (hti j z))).1
      have c4 : CI G σ own env1 Fz1 H1 D Fz2 σ' H3 e1 acc xs := ⟨m4, fun z => c3.no (o4 _ z), c3.nf, fun j hj => by rw [(f4 j (fun z => hj (hti j z))).2]; exact c3.fl j hj, c3.d, c3.rs, by rw [hw, c.w]⟩
      refine ⟨by rw [hw, c.w], Fz2, e1, m4.mt, ?_⟩
      have hb : evC cf cl lf cond e1 = .ok (b, e2) := hb
      rw [hb]
      intro Fz5 H5 p5
      have c5 := c4.step p5
      cases b with
      | true =>
        refine iteT ?_
        have hc1 : ((evA cf cl lf ex e2).bind fun r => (kUse r.1 r.2).bind fun z => .ok (some z.1, MP.wipe z.2 own)) = Out.ok (od, e9) := hc1
        obtain ⟨⟨av, e6⟩, hv, hc1⟩ := Out.bind_ok hc1
        obtain ⟨⟨d, e7⟩, hu, hc1⟩ := Out.bind_ok hc1
        cases hc1
        refine ⟨Fz5, e2, p5.mt, ?_⟩
        rw [hv]
        intro v Fz6 H6 p6 r6 f6
        have c6 := c5.step p6
        have hu' : av.use e6 = some (d, e7) := by
          unfold kUse at hu
          cases h : av.use e6 with
          | none => simp [h] at hu
          | some r =>
            simp [h] at hu
            rw [hu]
        obtain ⟨Fz7, p7, rp, _⟩ := use_ok p5.mt p6 r6 f6 hu'
        have c7 := c5.step p7
        have hc2 : (if acc.length < LINE then compF f (ds.drop (i + 1)) (d :: acc) (MP.wipe e7 own) else .fail) = Out.ok z := hc2
        split at hc2
        · rename_i hll
          refine ⟨xs, c7.d, ?_, rfl, hlt, Fz7, _, d :: acc, xs ++ [v], (c7.push rp).wipe, hc2⟩
          have := c7.rs.length
          rw [List.length_reverse] at this
          rw [← this, sizeLine_eq]
          exact hll
        · cases hc2
      | false =>
        refine iteF ?_
        cases hc1
        exact ⟨rfl, hlt, Fz5, _, acc, xs, c5.wipe, hc2⟩
    · have e : i = ds.length := by omega
      subst e
      rw [List.drop_length] at hc
      unfold compF at hc
      cases hc
      refine .inl ⟨o2 rfl, ?_⟩
      obtain ⟨p, r⟩ := c.fin p1.mt hD
      exact q1 _ Fz2 H2 (p1.trans m p) r (p1.keep.none hD)
theorem me_comp {elt tg iter : Expr} {ifs : List Expr} {scope : Scope} {ownL : List (Str × Nat)} {ex : Ex} {t : Tg} {it : Wk} {cond : Exs} (hc : X.calm = true) (hN : X.N.Nodup) (hi : PI X tg iter (rdI G cf cl lf W it)) (ok : BlkOk X.N X.env.scope scope ownL)
    (hg : ∀ (s : Shared) (H : Hp) (C : Addr) (cl : List (Str × Addr)) (fp : List Addr), PG (X.blk s H scope (compEnvC scope cl C X.env) fp) tg (gT G.K t)) (ht : ∀ (s : Shared) (H : Hp) (C : Addr) (cll : List (Str × Addr)) (fp : List Addr), PTs (X.blk s H scope (compEnvC scope cll C X.env) fp) ifs (rdC G cf cl lf WF cond))
    (he : ∀ (s : Shared) (H : Hp) (C : Addr) (cll : List (Str × Addr)) (fp : List Addr), PE (X.blk s H scope (compEnvC scope cll C X.env) fp) elt (rd G cf cl lf WF ex)) (hs : ∀ x, foldedSetIterable iter X.env x = pure x) (hti : ∀ i ∈ t.ns, i ∈ ownL.map (·.2)) :
    PE X (.ListComp elt [⟨tg, iter, ifs, 0⟩] scope pos) (rd G cf cl lf W (.comp ex t it (ownL.map (·.2)) cond)) := (pe_lc hc hN hi ok hg ht he hs).imp fun σ H Q h => comp_imp hti h
theorem ms_setComp {i : Nat} {y : Str} {py spos : Pos} {elt tg iter : Expr} {ifs : List Expr} {scope : Scope} {ownL : List (Str × Nat)} {ex : Ex} {t : Tg} {it : Wk} {cond : Exs} (hc : X.calm = true) (hN : X.N.Nodup) (hy : X.N[i]? = some y) (hyl : X.env.scope.names.lookup y = some .local)
    (hsw : swapsWith (.ListComp elt [⟨tg, iter, ifs, 0⟩] scope pos) (some (.Name y py)) spos.line X.env = pure true) (hi : PI X tg iter (rdI G cf cl lf W it)) (ok : BlkOk X.N X.env.scope scope ownL)
    (hg : ∀ (s : Shared) (H : Hp) (C : Addr) (cl : List (Str × Addr)) (fp : List Addr), PG (X.blk s H scope (compEnvC scope cl C X.env) fp) tg (gT G.K t)) (ht : ∀ (s : Shared) (H : Hp) (C : Addr) (cll : List (Str × Addr)) (fp : List Addr), PTs (X.blk s H scope (compEnvC scope cll C X.env) fp) ifs (rdC G cf cl lf WF cond))
    (he : ∀ (s : Shared) (H : Hp) (C : Addr) (cll : List (Str × Addr)) (fp : List Addr), PE (X.blk s H scope (compEnvC scope cll C X.env) fp) elt (rd G cf cl lf WF ex)) (hs : ∀ x, foldedSetIterable iter X.env x = pure x) (hti : ∀ i ∈ t.ns, i ∈ ownL.map (·.2)) :
    PS X (.Assign [.Name y py] (.ListComp elt [⟨tg, iter, ifs, 0⟩] scope pos) spos) (rdS G cf cl lf W np (.asg i (.comp ex t it (ownL.map (·.2)) cond))) := (ps_setLc hc hN hy hyl hsw hi ok hg ht he hs).imp fun D σ H ⟨Pr, Pm, H0, Fz0, Z, Fz, env, m, q⟩ => by
  unfold evS at q
  refine comp_imp (W := W) hti ⟨Fz, env, m.mt, (OPS.ex m q).imp fun av env1 q1 v Fz1 H1 p1 r1 f1 => ?_⟩
  obtain ⟨e, h, k⟩ := OPS.bindV q1
  obtain ⟨Fz2, m2⟩ := bindV_ok m.keep (m.step p1) r1 f1 h
  exact k _ _ _ m2
end
end MP
set_option maxRecDepth 100000
set_option maxHeartbeats 2000000
/-! MP17: operators by values. -/
namespace MP
open PySem PySem.Spec PyProof.Rows L2
section
variable {G : Gx} {X : Cx} {Fz : Addr → Prop} {H H' : Hp}
theorem res_val {r : D} {z : V} (h : Rep G Fz H r z) : ResP G Fz H H false r z := ⟨fun _ _ h => h, h⟩
theorem res_lst {p : Addr} {ds : List D} {xs : List V} (n : H p = none) (h : Reps G Fz H ds xs) : ResP G Fz H (upd H p (.lst xs)) true (.lst ds) (.ref p) :=
  ⟨upd_same_of n, p, rfl, n, xs, upd_same, Reps.keep (O := fun _ => False) (same_keep (upd_same_of n)) owOk_false (fun _ h => h) _ _ h⟩
theorem res_tup {p : Addr} {ds : List D} {xs : List V} (n : H p = none) (h : Reps G Fz H ds xs) : ResP G Fz H (upd H p (.tup xs)) false (.tup ds) (.ref p) :=
  ⟨upd_same_of n, Rep.tup (.of upd_same) (Reps.keep (O := fun _ => False) (same_keep (upd_same_of n)) owOk_false (fun _ h => h) _ _ h)⟩
theorem line_eq : LINE = sizeLine := by rw [sizeLine_eq]; rfl
theorem repC_lst {ds : List D} {v : V} (h : RepC G Fz H (.lst ds) v) : ∃ a xs, v = .ref a ∧ H a = some (.lst xs) ∧ Reps G Fz H ds xs := h
theorem repC_dct {ks vs : List D} {v : V} (h : RepC G Fz H (.dct ks vs) v) : ∃ a es o, v = .ref a ∧ H a = some (dctO G a es o) ∧ KeyL ks es ∧ Reps G Fz H ks (es.map fun e => V.ref e.2.1) ∧ Reps G Fz H vs (es.map (·.2.2)) := h
theorem repC_non {v : V} (h : RepC G Fz H .non v) : v = .non := by
  cases (show Rep G Fz H .non v from h); rfl
theorem relV_i {i : Int} {v : Value} (h : RelV (.int i) v) : ∃ t, v = .int i t := h
/-- ints -/
theorem oi2 {f : Value → Value → Sem Value} {o : Op2} {C : Int → Int → Prop} {g : Int → Int → V} {g' : Int → Int → D} (h : OpR X f (rI C g)) (hg : ∀ i j Fz H, Rep G Fz H (g' i j) (g i j)) (ho : ∀ i j own r, op2 o (.int i) (.int j) = some (own, r) → C i j ∧ own = false ∧ r = g' i j)
    (hn : ∀ d e own r, op2 o d e = some (own, r) → ∃ i j, d = .int i ∧ e = .int j) : OpR X f (rOp G o) := by
  intro pins s σ H x y v u Q I rx ry ⟨Fz, d, e, own, r, dom, rd, re, he, k⟩
  obtain ⟨i, j, rfl, rfl⟩ := hn _ _ _ _ he
  obtain ⟨hc, rfl, rfl⟩ := ho _ _ _ _ he
  exact h pins s σ H x y v u Q I rx ry ⟨i, j, repC_int rd, repC_int re, hc, k _ _ (res_val (hg i j Fz H))⟩
theorem num2_ints {f : Int → Int → Option D} {d e : D} {own : Bool} {r : D} (h : num2 f d e = some (own, r)) : ∃ i j, d = .int i ∧ e = .int j ∧ own = false ∧ f i j = some r := by
  unfold num2 at h
  split at h
  · rename_i i j
    cases hf : f i j with
    | none => rw [hf] at h; cases h
    | some z => rw [hf] at h; cases h; exact ⟨i, j, rfl, rfl, rfl, hf⟩
  · cases h
theorem or_sub : OpR X (binaryOp .Sub) (rOp G .sub) := by
  intro pins s σ H x y v u Q I rx ry ⟨Fz, d, e, own, r, dom, rd, re, he, k⟩
  cases d <;> cases e <;> first | (simp [op2] at he; done) | skip
  rename_i i j
  simp [op2] at he
  obtain ⟨rfl, rfl⟩ := he
  exact op_sub pins s σ H x y v u Q I rx ry ⟨i, j, repC_int rd, repC_int re, k _ _ (res_val (.int _))⟩
theorem or_fdiv : OpR X (binaryOp .FloorDiv) (rOp G .fdiv) := by
  intro pins s σ H x y v u Q I rx ry ⟨Fz, d, e, own, r, dom, rd, re, he, k⟩
  obtain ⟨i, j, rfl, rfl, rfl, hf⟩ := num2_ints (show num2 _ d e = _ from he)
  split at hf
  · rename_i hc
    cases hf
    exact op_fdivN pins s σ H x y v u Q I rx ry ⟨i, j, repC_int rd, repC_int re, hc, k _ _ (res_val (.int _))⟩
  · cases hf
theorem or_mod : OpR X (binaryOp .Mod) (rOp G .mod) := by
  intro pins s σ H x y v u Q I rx ry ⟨Fz, d, e, own, r, dom, rd, re, he, k⟩
  obtain ⟨i, j, rfl, rfl, rfl, hf⟩ := num2_ints (show num2 _ d e = _ from he)
  split at hf
  · rename_i hc
    cases hf
    exact op_modN pins s σ H x y v u Q I rx ry ⟨i, j, repC_int rd, repC_int re, hc, k _ _ (res_val (.int _))⟩
  · cases hf
theorem or_pow : OpR X (binaryOp .Pow) (rOp G .pow) := by
  intro pins s σ H x y v u Q I rx ry ⟨Fz, d, e, own, r, dom, rd, re, he, k⟩
  obtain ⟨i, j, rfl, rfl, rfl, hf⟩ := num2_ints (show num2 _ d e = _ from he)
  split at hf
  · rename_i hc
    cases hf
    exact op_pow pins s σ H x y v u Q I rx ry ⟨i, j, repC_int rd, repC_int re, ⟨hc.1, by omega, hc.2.2⟩, k _ _ (res_val (.int _))⟩
  · cases hf
theorem or_le : OpR X (compareOp .LtE) (rOp G .le) := by
  intro pins s σ H x y v u Q I rx ry ⟨Fz, d, e, own, r, dom, rd, re, he, k⟩
  obtain ⟨i, j, rfl, rfl, rfl, hf⟩ := num2_ints (show num2 _ d e = _ from he)
  cases hf
  exact op_le pins s σ H x y v u Q I rx ry ⟨i, j, repC_int rd, repC_int re, k _ _ (res_val (.bl _))⟩
theorem or_gt : OpR X (compareOp .Gt) (rOp G .gt) := by
  intro pins s σ H x y v u Q I rx ry ⟨Fz, d, e, own, r, dom, rd, re, he, k⟩
  obtain ⟨i, j, rfl, rfl, rfl, hf⟩ := num2_ints (show num2 _ d e = _ from he)
  cases hf
  exact op_gt pins s σ H x y v u Q I rx ry ⟨i, j, repC_int rd, repC_int re, k _ _ (res_val (.bl _))⟩
theorem or_ge : OpR X (compareOp .GtE) (rOp G .ge) := by
  intro pins s σ H x y v u Q I rx ry ⟨Fz, d, e, own, r, dom, rd, re, he, k⟩
  obtain ⟨i, j, rfl, rfl, rfl, hf⟩ := num2_ints (show num2 _ d e = _ from he)
  cases hf
  exact op_ge pins s σ H x y v u Q I rx ry ⟨i, j, repC_int rd, repC_int re, k _ _ (res_val (.bl _))⟩
theorem or_lt : OpR X (compareOp .Lt) (rOp G .lt) := by
  intro pins s σ H x y v u Q I rx ry ⟨Fz, d, e, own, r, dom, rd, re, he, k⟩
  cases d <;> cases e <;> first | (simp [op2] at he; done) | skip
  · rename_i i j
    simp [op2] at he
    obtain ⟨rfl, rfl⟩ := he
    exact op_lt pins s σ H x y v u Q I rx ry ⟨i, j, repC_int rd, repC_int re, k _ _ (res_val (.bl _))⟩
  · rename_i i j
    simp only [op2, Option.some.injEq, Prod.mk.injEq] at he
    obtain ⟨rfl, rfl⟩ := he
    exact op_lt_str pins s σ H x y v u Q I rx ry ⟨i, j, (repC_str rd).1, (repC_str re).1, k _ _ (res_val (.bl _))⟩
theorem sOk_append {x y : Str} (h : sOk x = true) (h' : sOk y = true) : sOk (x ++ y) = true := by
  show ((x.cps ++ y.cps).all _) = true
  rw [Array.all_append, show x.cps.all _ = true from h, show y.cps.all _ = true from h']
  rfl
theorem or_add (hK : X.K = G.K) : OpR X (binaryOp .Add) (rOp G .add) := by
  intro pins s σ H x y v u Q I rx ry ⟨Fz, d, e, own, r, dom, rd, re, he, k⟩
  cases d <;> cases e <;> first | (simp [op2] at he; done) | skip
  · rename_i i j
    simp [op2] at he
    obtain ⟨rfl, rfl⟩ := he
    exact op_add pins s σ H x y v u Q I rx ry ⟨i, j, repC_int rd, repC_int re, k _ _ (res_val (.int _))⟩
  · rename_i i j
    simp only [op2] at he
    split at he
    · rename_i hl
      cases he
      obtain ⟨e1, o1⟩ := repC_str rd
      obtain ⟨e2, o2⟩ := repC_str re
      exact op_add_str pins s σ H x y v u Q I rx ry ⟨i, j, e1, e2, by rw [← line_eq]; exact hl, k _ _ (res_val (.str _ (sOk_append o1 o2)))⟩
    · cases he
  · rename_i ds es
    simp only [op2] at he
    split at he
    · rename_i hl
      cases he
      obtain ⟨a, xs, rfl, h1, r1⟩ := repC_tup rd
      obtain ⟨b, ys, rfl, h2, r2⟩ := repC_tup re
      have l1 := r1.length
      have l2 := r2.length
      refine op_catA pins s σ H _ _ v u Q I rx ry ⟨a, b, xs, ys, rfl, rfl, by rw [hK]; exact h1, by rw [hK]; exact h2, by rw [← line_eq, ← l1, ← l2]; exact hl, fun e => ?_, fun e e' => ?_, fun e e' p n => k _ _ (res_tup n (r1.append r2))⟩
      · subst e
        have : ds = [] := List.eq_nil_of_length_eq_zero l1
        subst this
        exact k _ _ (res_val (.tup h2 r2))
      · subst e'
        have : es = [] := List.eq_nil_of_length_eq_zero l2
        subst this
        exact k _ _ (res_val (.tup h1 (by rw [List.append_nil]; exact r1)))
    · cases he
  · rename_i ds es
    simp only [op2] at he
    split at he
    · rename_i hl
      cases he
      obtain ⟨a, xs, rfl, h1, r1⟩ := repC_lst rd
      obtain ⟨b, ys, rfl, h2, r2⟩ := repC_lst re
      have l1 := r1.length
      have l2 := r2.length
      exact op_cat pins s σ H _ _ v u Q I rx ry ⟨a, b, xs, ys, rfl, rfl, h1, h2, by rw [← line_eq, ← l1, ← l2]; exact hl, fun p n => k _ _ (res_lst n (r1.append r2))⟩
    · cases he
theorem or_mul (hK : X.K = G.K) : OpR X (binaryOp .Mult) (rOp G .mul) := by
  intro pins s σ H x y v u Q I rx ry ⟨Fz, d, e, own, r, dom, rd, re, he, k⟩
  cases d <;> cases e <;> first | (simp [op2] at he; done) | skip
  · rename_i i j
    simp only [op2] at he
    split at he
    · rename_i hc
      cases he
      simp only [Bool.or_eq_true, small, Bool.and_eq_true, decide_eq_true_eq] at hc
      rcases hc with hc | hc
      · exact op_mul pins s σ H x y v u Q I rx ry ⟨i, j, repC_int rd, repC_int re, hc, k _ _ (res_val (.int _))⟩
      · exact op_mulX pins s σ H x y v u Q I rx ry ⟨i, j, repC_int rd, repC_int re, mulx_ok hc.1 hc.2 (by decide), k _ _ (res_val (.int _))⟩
    · cases he
  · rename_i z n
    simp only [op2] at he
    split at he
    · rename_i hc
      cases he
      obtain ⟨e1, o1⟩ := repC_str rd
      have e2 := repC_int re
      subst e1 e2
      obtain ⟨t, rfl⟩ := rx
      obtain ⟨t', rfl⟩ := ry
      obtain ⟨h0, h1, h2⟩ := hc
      have rb : sOk ⟨(rep n z.cps.toList).toArray⟩ = true := by
        show ((rep n z.cps.toList).toArray.all _) = true
        rw [List.all_toArray, List.all_eq_true]
        intro c hc
        unfold rep at hc
        obtain ⟨l, hl, hcl⟩ := List.mem_flatten.mp hc
        have hl := (List.mem_replicate.mp hl).2
        subst hl
        have := (Array.all_eq_true_iff_forall_mem.mp (show z.cps.all _ = true from o1)) c (Array.mem_toList_iff.mp hcl)
        exact this
      have hlen : z.length * n.toNat ≤ sizeLine := by
        have a1 : z.length * n.toNat ≤ 1000 * 1000 := Nat.mul_le_mul h2 (by omega)
        rw [sizeLine_eq]
        omega
      have fl : ∀ m : Nat, (List.replicate m z.cps).foldl (· ++ ·) #[] = (List.replicate m z.cps.toList).flatten.toArray := fun m => by
        have gen : ∀ (m : Nat) (acc : List Nat), (List.replicate m z.cps).foldl (· ++ ·) acc.toArray = (acc ++ (List.replicate m z.cps.toList).flatten).toArray := by
          intro m
          induction m with
          | zero => intro acc; simp
          | succ m ih =>
            intro acc
            rw [List.replicate_succ, List.replicate_succ, List.foldl_cons, List.flatten_cons]
            have e : acc.toArray ++ z.cps = (acc ++ z.cps.toList).toArray := by simp
            rw [e, ih, List.append_assoc]
        have := gen m []
        simpa using this
      refine PySem.P.mul_str ?_ ?_ ?_ ?_
      · rw [decide_eq_false (by omega), decide_eq_false (by omega)] <;> rfl
      · intro hn _ z1
        have a1 : (z.length : Int) ≤ 1000 := by omega
        have a2 : (1000 : Int) ≤ (2 ^ 63 - 1) / n := by
          rw [Int.le_ediv_iff_mul_le (by omega)]
          omega
        omega
      · intro _ _
        show decide (z.length * n.toNat > sizeLine) = false
        exact decide_eq_false (Nat.not_lt.mpr hlen)
      · have fin : ∀ (tk : Tok) (t2 : Nat), EP X pins σ Q (.str ⟨(rep n z.cps.toList).toArray⟩ tk) { s with toks := t2 } := fun tk t2 => ⟨.str ⟨(rep n z.cps.toList).toArray⟩, H, I.kept (t' := t2) fun _ _ e => e, ⟨tk, rfl⟩, k _ _ (res_val (.str _ rb))⟩
        split
        · rename_i hn
          have h0' : n = 0 := by omega
          subst h0'
          exact ⟨Nat.zero_le _, fin _ _⟩
        · split
          · rename_i hn
            have e : (⟨(rep n z.cps.toList).toArray⟩ : Str) = z := by
              rw [Bool.or_eq_true, beq_iff_eq, beq_iff_eq] at hn
              rcases hn with hn | hn
              · subst hn
                show (⟨((List.replicate 1 z.cps.toList).flatten).toArray⟩ : Str) = z
                simp
              · have e0 : z.cps = #[] := Array.eq_empty_of_size_eq_zero hn
                obtain ⟨zc⟩ := z
                simp only at e0
                subst e0
                show (⟨((List.replicate n.toNat ([] : List Nat)).flatten).toArray⟩ : Str) = ⟨#[]⟩
                simp
            have := fin t s.toks
            rw [e] at this
            exact this
          · rw [fl]
            refine ⟨?_, fin _ _⟩
            show (List.replicate n.toNat z.cps.toList).flatten.toArray.size ≤ sizeLine
            rw [List.size_toArray, PyProof.Rows.lm_len_rep_flat, Array.length_toList, Nat.mul_comm]
            exact hlen
    · cases he
  · rename_i ds n
    simp only [op2] at he
    split at he
    · rename_i hc
      cases he
      obtain ⟨a, xs, rfl, h1, r1⟩ := repC_tup rd
      have l1 := r1.length
      obtain ⟨c1, c2, c3, c4⟩ := hc
      refine op_repT pins s σ H _ _ v u Q I rx ry ⟨a, n, xs, rfl, repC_int re, by rw [hK]; exact h1, fun e => c1 (List.eq_nil_of_length_eq_zero (by rw [l1, e]; rfl)), c2, c3, by omega, fun p hp => k _ _ (res_tup hp (r1.rep _))⟩
    · cases he
  · rename_i ds n
    simp only [op2] at he
    split at he
    · rename_i hc
      cases he
      obtain ⟨a, xs, rfl, h1, r1⟩ := repC_lst rd
      have l1 := r1.length
      obtain ⟨c1, c2, c3⟩ := hc
      exact op_rep pins s σ H _ _ v u Q I rx ry ⟨a, n, xs, rfl, repC_int re, h1, c1, c2, by rw [← line_eq, ← l1]; exact c3, fun p hp => k _ _ (res_lst hp (r1.rep _))⟩
    · cases he
/-! ### == -/
mutual
def pyD : D → PyData
  | .non => .none
  | .bl b => .bool b
  | .int i => .int i
  | .str x => .str x
  | .tup ds => .tuple (pyDs ds)
  | .lst ds => .list (pyDs ds)
  | .dct _ _ => .none
  | .fn _ => .none
  | .fls _ => .none
def pyDs : List D → List PyData
  | [] => []
  | d :: r => pyD d :: pyDs r
end
mutual
theorem dp_of : ∀ (d : D) (n : Nat) (v : V), pl d n = true → Rep G Fz H d v → Dp G.K H v (pyD d)
  | .non, _, _, _, h => by cases h; exact .non
  | .bl b, _, _, _, h => by cases h; exact .bl b
  | .int i, _, _, _, h => by cases h; exact .int i
  | .str x, _, _, _, h => by cases h; exact .str x
  | .tup ds, 0, _, p, h => by unfold pl at p; cases p
  | .tup ds, n + 1, _, p, h => by
    unfold pl at p
    cases h with | tup h1 h2 => exact .tup h1 (dps_of ds n _ p h2)
  | .lst ds, 0, _, p, h => by unfold pl at p; cases p
  | .lst ds, n + 1, _, p, h => by
    unfold pl at p
    cases h with | lst h0 h1 h2 => exact .lst (.of h1) (dps_of ds n _ p h2)
  | .dct _ _, _, _, p, _ => by unfold pl at p; cases p
  | .fn _, _, _, p, _ => by unfold pl at p; cases p
  | .fls _, _, _, p, _ => by unfold pl at p; cases p
theorem dps_of : ∀ (ds : List D) (n : Nat) (vs : List V), pls ds n = true → Reps G Fz H ds vs → DpAll G.K H vs (pyDs ds)
  | [], _, _, _, h => by cases h; exact .nil
  | d :: r, n, _, p, h => by
    unfold pls at p
    rw [Bool.and_eq_true] at p
    cases h with | cons h1 h2 => exact .cons (dp_of d n _ p.1 h1) (dps_of r n _ p.2 h2)
end
theorem dp_ofC {d : D} {n : Nat} {v : V} (p : pl d n = true) (h : RepC G Fz H d v) : Dp G.K H v (pyD d) := by
  cases d with
  | lst ds =>
    obtain ⟨a, xs, rfl, h1, h2⟩ := h
    cases n with
    | zero => unfold pl at p; cases p
    | succ n =>
      unfold pl at p
      exact .lst (.of h1) (dps_of ds n _ p h2)
  | dct ks vs => unfold pl at p; cases p
  | non => exact dp_of (G := G) (Fz := Fz) _ n _ p h
  | bl _ => exact dp_of (G := G) (Fz := Fz) _ n _ p h
  | int _ => exact dp_of (G := G) (Fz := Fz) _ n _ p h
  | str _ => exact dp_of (G := G) (Fz := Fz) _ n _ p h
  | tup _ => exact dp_of (G := G) (Fz := Fz) _ n _ p h
  | fn _ => unfold pl at p; cases p
  | fls _ => unfold pl at p; cases p
mutual
theorem lay_of : ∀ (d : D) (n : Nat) (v : V), pl d n = true → Rep G Fz H d v → (pyD d).canLay0 = true ∧ (pyD d).depth ≤ n
  | .non, _, _, _, h => ⟨rfl, Nat.zero_le _⟩
  | .bl b, _, _, _, h => ⟨rfl, Nat.zero_le _⟩
  | .int i, _, _, _, h => ⟨rfl, Nat.zero_le _⟩
  | .str x, _, _, _, h => by
    cases h with
    | str _ e => exact ⟨by unfold pyD PyData.canLay0; exact e, Nat.zero_le _⟩
  | .tup ds, 0, _, p, h => by unfold pl at p; cases p
  | .tup ds, n + 1, _, p, h => by
    unfold pl at p
    cases h with
    | tup h1 h2 =>
      obtain ⟨q1, q2⟩ := lays_of ds n _ p h2
      exact ⟨by unfold pyD PyData.canLay0; exact q1, by unfold pyD PyData.depth; omega⟩
  | .lst ds, 0, _, p, h => by unfold pl at p; cases p
  | .lst ds, n + 1, _, p, h => by
    unfold pl at p
    cases h with
    | lst h0 h1 h2 =>
      obtain ⟨q1, q2⟩ := lays_of ds n _ p h2
      exact ⟨by unfold pyD PyData.canLay0; exact q1, by unfold pyD PyData.depth; omega⟩
  | .dct _ _, _, _, p, _ => by unfold pl at p; cases p
  | .fn _, _, _, p, _ => by unfold pl at p; cases p
  | .fls _, _, _, p, _ => by unfold pl at p; cases p
theorem lays_of : ∀ (ds : List D) (n : Nat) (vs : List V), pls ds n = true → Reps G Fz H ds vs → PyData.canLayAll0 (pyDs ds) = true ∧ PyData.depthAll (pyDs ds) ≤ n
  | [], _, _, _, h => ⟨rfl, Nat.zero_le _⟩
  | d :: r, n, _, p, h => by
    unfold pls at p
    rw [Bool.and_eq_true] at p
    cases h with
    | cons h1 h2 =>
      obtain ⟨q1, q2⟩ := lay_of d n _ p.1 h1
      obtain ⟨q3, q4⟩ := lays_of r n _ p.2 h2
      exact ⟨by unfold pyDs PyData.canLayAll0; rw [q1, q3]; rfl, by unfold pyDs PyData.depthAll; omega⟩
end
theorem lay_ofC {d : D} {n : Nat} {v : V} (p : pl d n = true) (h : RepC G Fz H d v) : (pyD d).canLay0 = true ∧ (pyD d).depth ≤ n := by
  cases d with
  | lst ds =>
    obtain ⟨a, xs, rfl, h1, h2⟩ := h
    cases n with
    | zero => unfold pl at p; cases p
    | succ n =>
      unfold pl at p
      obtain ⟨q1, q2⟩ := lays_of ds n _ p h2
      exact ⟨by unfold pyD PyData.canLay0; exact q1, by unfold pyD PyData.depth; omega⟩
  | dct ks vs => unfold pl at p; cases p
  | non => exact lay_of (G := G) (Fz := Fz) _ n _ p h
  | bl _ => exact lay_of (G := G) (Fz := Fz) _ n _ p h
  | int _ => exact lay_of (G := G) (Fz := Fz) _ n _ p h
  | str _ => exact lay_of (G := G) (Fz := Fz) _ n _ p h
  | tup _ => exact lay_of (G := G) (Fz := Fz) _ n _ p h
  | fn _ => unfold pl at p; cases p
  | fls _ => unfold pl at p; cases p
mutual
theorem eqv_py : ∀ (d e : D) (n m : Nat), pl d n = true → pl e m = true → PyData.eqv (pyD d) (pyD e) = eqv d e
  | .tup ds, .tup es, n, m, p, q => by
    cases n <;> cases m <;> (unfold pl at p q) <;> first | cases p | cases q | skip
    unfold pyD PyData.eqv eqv
    exact eqvs_py ds es _ _ p q
  | .lst ds, .lst es, n, m, p, q => by
    cases n <;> cases m <;> (unfold pl at p q) <;> first | cases p | cases q | skip
    unfold pyD PyData.eqv eqv
    exact eqvs_py ds es _ _ p q
  | .non, .non, n, m, p, q => by simp only [pyD, PyData.eqv, eqv]
  | .non, .bl b, n, m, p, q => by simp only [pyD, PyData.eqv, eqv]
  | .non, .int b, n, m, p, q => by simp only [pyD, PyData.eqv, eqv]
  | .non, .str b, n, m, p, q => by simp only [pyD, PyData.eqv, eqv]
  | .non, .tup b, n, m, p, q => by simp only [pyD, PyData.eqv, eqv]
  | .non, .lst b, n, m, p, q => by simp only [pyD, PyData.eqv, eqv]
  | .non, .dct b b2, n, m, p, q => by unfold pl at q; cases q
  | .non, .fn b, n, m, p, q => by unfold pl at q; cases q
  | .bl a, .non, n, m, p, q => by simp only [pyD, PyData.eqv, eqv]
  | .bl a, .bl b, n, m, p, q => by simp only [pyD, PyData.eqv, eqv]
  | .bl a, .int b, n, m, p, q => by simp only [pyD, PyData.eqv, eqv]
  | .bl a, .str b, n, m, p, q => by simp only [pyD, PyData.eqv, eqv]
  | .bl a, .tup b, n, m, p, q => by simp only [pyD, PyData.eqv, eqv]
  | .bl a, .lst b, n, m, p, q => by simp only [pyD, PyData.eqv, eqv]
  | .bl a, .dct b b2, n, m, p, q => by unfold pl at q; cases q
  | .bl a, .fn b, n, m, p, q => by unfold pl at q; cases q
  | .int a, .non, n, m, p, q => by simp only [pyD, PyData.eqv, eqv]
  | .int a, .bl b, n, m, p, q => by simp only [pyD, PyData.eqv, eqv]
  | .int a, .int b, n, m, p, q => by simp only [pyD, PyData.eqv, eqv]
  | .int a, .str b, n, m, p, q => by simp only [pyD, PyData.eqv, eqv]
  | .int a, .tup b, n, m, p, q => by simp only [pyD, PyData.eqv, eqv]
  | .int a, .lst b, n, m, p, q => by simp only [pyD, PyData.eqv, eqv]
  | .int a, .dct b b2, n, m, p, q => by unfold pl at q; cases q
  | .int a, .fn b, n, m, p, q => by unfold pl at q; cases q
  | .str a, .non, n, m, p, q => by simp only [pyD, PyData.eqv, eqv]
  | .str a, .bl b, n, m, p, q => by simp only [pyD, PyData.eqv, eqv]
  | .str a, .int b, n, m, p, q => by simp only [pyD, PyData.eqv, eqv]
  | .str a, .str b, n, m, p, q => by simp only [pyD, PyData.eqv, eqv]
  | .str a, .tup b, n, m, p, q => by simp only [pyD, PyData.eqv, eqv]
  | .str a, .lst b, n, m, p, q => by simp only [pyD, PyData.eqv, eqv]
  | .str a, .dct b b2, n, m, p, q => by unfold pl at q; cases q
  | .str a, .fn b, n, m, p, q => by unfold pl at q; cases q
  | .tup a, .non, n, m, p, q => by simp only [pyD, PyData.eqv, eqv]
  | .tup a, .bl b, n, m, p, q => by simp only [pyD, PyData.eqv, eqv]
  | .tup a, .int b, n, m, p, q => by simp only [pyD, PyData.eqv, eqv]
  | .tup a, .str b, n, m, p, q => by simp only [pyD, PyData.eqv, eqv]
  | .tup a, .lst b, n, m, p, q => by simp only [pyD, PyData.eqv, eqv]
  | .tup a, .dct b b2, n, m, p, q => by unfold pl at q; cases q
  | .tup a, .fn b, n, m, p, q => by unfold pl at q; cases q
  | .lst a, .non, n, m, p, q => by simp only [pyD, PyData.eqv, eqv]
  | .lst a, .bl b, n, m, p, q => by simp only [pyD, PyData.eqv, eqv]
  | .lst a, .int b, n, m, p, q => by simp only [pyD, PyData.eqv, eqv]
  | .lst a, .str b, n, m, p, q => by simp only [pyD, PyData.eqv, eqv]
  | .lst a, .tup b, n, m, p, q => by simp only [pyD, PyData.eqv, eqv]
  | .lst a, .dct b b2, n, m, p, q => by unfold pl at q; cases q
  | .lst a, .fn b, n, m, p, q => by unfold pl at q; cases q
  | .dct a a2, .non, n, m, p, q => by unfold pl at p; cases p
  | .dct a a2, .bl b, n, m, p, q => by unfold pl at p; cases p
  | .dct a a2, .int b, n, m, p, q => by unfold pl at p; cases p
  | .dct a a2, .str b, n, m, p, q => by unfold pl at p; cases p
  | .dct a a2, .tup b, n, m, p, q => by unfold pl at p; cases p
  | .dct a a2, .lst b, n, m, p, q => by unfold pl at p; cases p
  | .dct a a2, .dct b b2, n, m, p, q => by unfold pl at p; cases p
  | .dct a a2, .fn b, n, m, p, q => by unfold pl at p; cases p
  | .fn a, .non, n, m, p, q => by unfold pl at p; cases p
  | .fn a, .bl b, n, m, p, q => by unfold pl at p; cases p
  | .fn a, .int b, n, m, p, q => by unfold pl at p; cases p
  | .fn a, .str b, n, m, p, q => by unfold pl at p; cases p
  | .fn a, .tup b, n, m, p, q => by unfold pl at p; cases p
  | .fn a, .lst b, n, m, p, q => by unfold pl at p; cases p
  | .fn a, .dct b b2, n, m, p, q => by unfold pl at p; cases p
  | .fn a, .fn b, n, m, p, q => by unfold pl at p; cases p
  | .fls a, .non, n, m, p, q => by unfold pl at p; cases p
  | .fls a, .bl b, n, m, p, q => by unfold pl at p; cases p
  | .fls a, .int b, n, m, p, q => by unfold pl at p; cases p
  | .fls a, .str b, n, m, p, q => by unfold pl at p; cases p
  | .fls a, .tup b, n, m, p, q => by unfold pl at p; cases p
  | .fls a, .lst b, n, m, p, q => by unfold pl at p; cases p
  | .fls a, .dct b b2, n, m, p, q => by unfold pl at p; cases p
  | .fls a, .fn b, n, m, p, q => by unfold pl at p; cases p
  | .fls a, .fls b, n, m, p, q => by unfold pl at p; cases p
  | .non, .fls b, n, m, p, q => by unfold pl at q; cases q
  | .bl a, .fls b, n, m, p, q => by unfold pl at q; cases q
  | .int a, .fls b, n, m, p, q => by unfold pl at q; cases q
  | .str a, .fls b, n, m, p, q => by unfold pl at q; cases q
  | .tup a, .fls b, n, m, p, q => by unfold pl at q; cases q
  | .lst a, .fls b, n, m, p, q => by unfold pl at q; cases q
  | .dct a a2, .fls b, n, m, p, q => by unfold pl at q; cases q
  | .fn a, .fls b, n, m, p, q => by unfold pl at q; cases q
theorem eqvs_py : ∀ (ds es : List D) (n m : Nat), pls ds n = true → pls es m = true → PyData.eqvAll (pyDs ds) (pyDs es) = eqvs ds es
  | [], [], _, _, _, _ => rfl
  | d :: ds, e :: es, n, m, p, q => by
    unfold pls at p q
    rw [Bool.and_eq_true] at p q
    unfold pyDs PyData.eqvAll eqvs
    rw [eqv_py d e n m p.1 q.1, eqvs_py ds es n m p.2 q.2]
  | [], _ :: _, _, _, _, _ => rfl
  | _ :: _, [], _, _, _, _ => rfl
end
theorem shaped_of {d : D} {n : Nat} {v : V} (p : pl d n = true) (hn : n ≤ 64) (h : RepC G Fz H d v) : SeqAt.shaped (pyD d) = true := by
  obtain ⟨h1, h2⟩ := lay_ofC p h
  unfold SeqAt.shaped
  rw [h1, decide_eq_true (by omega)]
  rfl
theorem or_eq (hK : X.K = G.K) (hu : X.A.units + 64 < cLine) : OpR X (compareOp .Eq) (rOp G .eq) := by
  intro pins s σ H x y v u Q I rx ry ⟨Fz, d, e, own, r, dom, rd, re, he, k⟩
  have he : (if pl d 64 && pl e 64 then some (false, D.bl (eqv d e)) else none) = some (own, r) := by
    cases d <;> cases e <;> exact he
  split at he
  · rename_i hp
    cases he
    rw [Bool.and_eq_true] at hp
    refine op_eqD hu pins s σ H x y v u Q I rx ry ⟨pyD d, pyD e, by rw [hK]; exact dp_ofC hp.1 rd, by rw [hK]; exact dp_ofC hp.2 re, shaped_of hp.1 (Nat.le_refl _) rd, shaped_of hp.2 (Nat.le_refl _) re, k _ _ (res_val ?_)⟩
    rw [eqv_py d e _ _ hp.1 hp.2]
    exact .bl _
  · cases he
theorem or_ne (hK : X.K = G.K) (hu : X.A.units + 64 < cLine) : OpR X (compareOp .NotEq) (rOp G .ne) := by
  intro pins s σ H x y v u Q I rx ry ⟨Fz, d, e, own, r, dom, rd, re, he, k⟩
  have he : (if pl d 64 && pl e 64 then some (false, D.bl (!eqv d e)) else none) = some (own, r) := by
    cases d <;> cases e <;> exact he
  split at he
  · rename_i hp
    cases he
    rw [Bool.and_eq_true] at hp
    refine op_neD hu pins s σ H x y v u Q I rx ry ⟨pyD d, pyD e, by rw [hK]; exact dp_ofC hp.1 rd, by rw [hK]; exact dp_ofC hp.2 re, shaped_of hp.1 (Nat.le_refl _) rd, shaped_of hp.2 (Nat.le_refl _) re, k _ _ (res_val ?_)⟩
    rw [eqv_py d e _ _ hp.1 hp.2]
    exact .bl _
  · cases he
/-! ### is -/
theorem V_ne_non {d : D} {v : V} (h : RepC G Fz H d v) (n : d ≠ .non) : v ≠ .non := by
  cases d with
  | non => exact absurd rfl n
  | lst ds => obtain ⟨a, xs, rfl, _⟩ := h; exact fun z => nomatch z
  | dct ks vs => obtain ⟨a, es, o, rfl, _⟩ := h; exact fun z => nomatch z
  | bl _ => rw [repC_bl h]; exact fun z => nomatch z
  | int _ => rw [repC_int h]; exact fun z => nomatch z
  | str _ => rw [(repC_str h).1]; exact fun z => nomatch z
  | tup _ => obtain ⟨a, xs, rfl, _⟩ := repC_tup h; exact fun z => nomatch z
  | fn _ => cases (show Rep G Fz H (.fn _) v from h) with | fn _ => exact fun z => nomatch z
  | fls _ => cases (show Rep G Fz H (.fls _) v from h) with | fls _ => exact fun z => nomatch z
theorem isn_eq {d e : D} {own : Bool} {r : D} (h : op2 .isn d e = some (own, r)) : e = .non ∧ own = false ∧ ∃ b, r = .bl b ∧ (b = true ↔ d = .non) := by
  cases e <;> first | (cases d <;> (simp [op2] at h; done)) | skip
  cases d <;> (simp only [op2, Option.some.injEq, Prod.mk.injEq] at h; obtain ⟨rfl, rfl⟩ := h; exact ⟨rfl, rfl, _, rfl, by simp⟩)
theorem notn_eq {d e : D} {own : Bool} {r : D} (h : op2 .notn d e = some (own, r)) : e = .non ∧ own = false ∧ ∃ b, r = .bl b ∧ (b = true ↔ d ≠ .non) := by
  cases e <;> first | (cases d <;> (simp [op2] at h; done)) | skip
  cases d <;> (simp only [op2, Option.some.injEq, Prod.mk.injEq] at h; obtain ⟨rfl, rfl⟩ := h; exact ⟨rfl, rfl, _, rfl, by simp⟩)
theorem or_isn : OpR X (compareOp .Is) (rOp G .isn) := by
  intro pins s σ H x y v u Q I rx ry ⟨Fz, d, e, own, r, dom, rd, re, he, k⟩
  obtain ⟨rfl, rfl, b, rfl, hb⟩ := isn_eq he
  refine op_isN pins s σ H x y v u Q I rx ry ⟨repC_non re, k _ _ (res_val ?_)⟩
  have : decide (x = V.non) = b := by
    by_cases hd : d = .non
    · subst hd
      rw [repC_non rd, hb.mpr rfl]
      rfl
    · rw [decide_eq_false (V_ne_non rd hd)]
      cases b with
      | true => exact absurd (hb.mp rfl) hd
      | false => rfl
  rw [this]
  exact .bl _
theorem or_notn : OpR X (compareOp .IsNot) (rOp G .notn) := by
  intro pins s σ H x y v u Q I rx ry ⟨Fz, d, e, own, r, dom, rd, re, he, k⟩
  obtain ⟨rfl, rfl, b, rfl, hb⟩ := notn_eq he
  refine op_notN pins s σ H x y v u Q I rx ry ⟨repC_non re, k _ _ (res_val ?_)⟩
  have : (!decide (x = V.non)) = b := by
    by_cases hd : d = .non
    · subst hd
      rw [repC_non rd]
      cases b with
      | true => exact absurd rfl (hb.mp rfl)
      | false => rfl
    · rw [decide_eq_false (V_ne_non rd hd), hb.mpr hd]
      rfl
  rw [this]
  exact .bl _
theorem or_isb : OpR X (compareOp .Is) (rOp G .isb) := by
  intro pins s σ H x y v u Q I rx ry ⟨Fz, d, e, own, r, dom, rd, re, he, k⟩
  cases d <;> cases e <;> first | (simp [op2] at he; done) | skip
  rename_i a b
  simp only [op2, Option.some.injEq, Prod.mk.injEq] at he
  obtain ⟨rfl, rfl⟩ := he
  refine op_isBl pins s σ H x y v u Q I rx ry ⟨a, b, repC_bl rd, repC_bl re, k _ _ (res_val ?_)⟩
  have : decide (a = b) = (a == b) := by cases a <;> cases b <;> rfl
  rw [this]
  exact .bl _
theorem or_notb : OpR X (compareOp .IsNot) (rOp G .notb) := by
  intro pins s σ H x y v u Q I rx ry ⟨Fz, d, e, own, r, dom, rd, re, he, k⟩
  cases d <;> cases e <;> first | (simp [op2] at he; done) | skip
  rename_i a b
  simp only [op2, Option.some.injEq, Prod.mk.injEq] at he
  obtain ⟨rfl, rfl⟩ := he
  refine op_notBl pins s σ H x y v u Q I rx ry ⟨a, b, repC_bl rd, repC_bl re, k _ _ (res_val ?_)⟩
  have : (!decide (a = b)) = (a != b) := by cases a <;> cases b <;> rfl
  rw [this]
  exact .bl _
end
end MP
set_option maxRecDepth 100000
set_option maxHeartbeats 2000000
/-! MP18: dicts by values; in, subscripts, stores, slices. -/
namespace MP
open PySem PySem.Spec PyProof.Rows L2
section
variable {G : Gx} {X : Cx} {Fz : Addr → Prop} {H H' : Hp}
/-! ### keys -/
mutual
theorem ky_eq : ∀ (d e : D) (n m : Nat), ky d n = true → ky e m = true → (eqv d e = true ↔ keyOf d = keyOf e)
  | .int i, .int j, n, m, p, q => by simp [eqv, keyOf]
  | .str x, .str y, n, m, p, q => by simp [eqv, keyOf]
  | .tup ds, .tup es, n, m, p, q => by
    cases n <;> cases m <;> (unfold ky at p q) <;> first | cases p | cases q | skip
    have := kys_eq ds es _ _ p q
    simp [eqv, keyOf, this]
  | .int i, .str y, n, m, p, q => by simp [eqv, keyOf]
  | .int i, .tup y, n, m, p, q => by simp [eqv, keyOf]
  | .str i, .int y, n, m, p, q => by simp [eqv, keyOf]
  | .str i, .tup y, n, m, p, q => by simp [eqv, keyOf]
  | .tup i, .int y, n, m, p, q => by simp [eqv, keyOf]
  | .tup i, .str y, n, m, p, q => by simp [eqv, keyOf]
  | .non, _, n, m, p, q => by simp [ky] at p
  | .bl _, _, n, m, p, q => by simp [ky] at p
  | .lst _, _, n, m, p, q => by simp [ky] at p
  | .dct _ _, _, n, m, p, q => by simp [ky] at p
  | .fn _, _, n, m, p, q => by simp [ky] at p
  | .fls _, _, n, m, p, q => by simp [ky] at p
  | _, .non, n, m, p, q => by simp [ky] at q
  | _, .bl _, n, m, p, q => by simp [ky] at q
  | _, .lst _, n, m, p, q => by simp [ky] at q
  | _, .dct _ _, n, m, p, q => by simp [ky] at q
  | _, .fn _, n, m, p, q => by simp [ky] at q
  | _, .fls _, n, m, p, q => by simp [ky] at q
theorem kys_eq : ∀ (ds es : List D) (n m : Nat), kys ds n = true → kys es m = true → (eqvs ds es = true ↔ keysOf ds = keysOf es)
  | [], [], n, m, p, q => by simp [eqvs, keysOf]
  | [], _ :: _, n, m, p, q => by simp [eqvs, keysOf]
  | _ :: _, [], n, m, p, q => by simp [eqvs, keysOf]
  | d :: ds, e :: es, n, m, p, q => by
    unfold kys at p q
    rw [Bool.and_eq_true] at p q
    have h1 := ky_eq d e n m p.1 q.1
    have h2 := kys_eq ds es n m p.2 q.2
    simp [eqvs, keysOf, h1, h2]
end
theorem kk_ky {d : D} (h : kk d = true) : ∃ ds, d = .tup ds ∧ ky (.tup ds) 8 = true := by
  unfold kk at h
  split at h
  · exact ⟨_, rfl, h⟩
  · cases h
theorem kk_eq {d e : D} (h : kk d = true) (h' : kk e = true) : eqv d e = decide (keyOf d = keyOf e) := by
  obtain ⟨ds, rfl, p⟩ := kk_ky h
  obtain ⟨es, rfl, q⟩ := kk_ky h'
  have := ky_eq _ _ _ _ p q
  by_cases hd : keyOf (.tup ds) = keyOf (.tup es)
  · rw [decide_eq_true hd, this.mpr hd]
  · rw [decide_eq_false hd]
    cases hb : eqv (.tup ds) (.tup es) with
    | true => exact absurd (this.mp hb) hd
    | false => rfl
section
variable {pins : List (Addr × Obj)} {σ : L2.St} {s : Shared}
mutual
theorem nest_is (hK : X.K = G.K) (I : Inv X pins σ H s) : ∀ (d : D) (n : Nat) (v : V) (u : Value), ky d n = true → Rep G Fz H d v → RelV v u → NestedIs s.heap (keyOf d) u ∧ (keyOf d).depth ≤ n
  | .int i, _, _, _, _, h, r => by cases h; obtain ⟨t, rfl⟩ := r; exact ⟨.int _ _, Nat.zero_le _⟩
  | .str x, _, _, _, _, h, r => by cases h; obtain ⟨t, rfl⟩ := r; exact ⟨.text _ _, Nat.zero_le _⟩
  | .tup ds, 0, _, _, p, _, _ => by simp [ky] at p
  | .tup ds, n + 1, _, _, p, h, r => by
    unfold ky at p
    cases h with
    | tup h1 h2 =>
      cases r
      obtain ⟨its, rv, ⟨o, ho, hc, m, hd⟩, _⟩ := I.tuple (by rw [hK]; exact h1)
      obtain ⟨q1, q2⟩ := nests_is hK I ds n _ _ p h2 rv
      exact ⟨.tup ho hc hd q1, by unfold keyOf NestedKey.depth; omega⟩
  | .non, _, _, _, p, _, _ => by simp [ky] at p
  | .bl _, _, _, _, p, _, _ => by simp [ky] at p
  | .lst _, _, _, _, p, _, _ => by simp [ky] at p
  | .dct _ _, _, _, _, p, _, _ => by simp [ky] at p
  | .fn _, _, _, _, p, _, _ => by simp [ky] at p
  | .fls _, _, _, _, p, _, _ => by simp [ky] at p
theorem nests_is (hK : X.K = G.K) (I : Inv X pins σ H s) : ∀ (ds : List D) (n : Nat) (vs : List V) (us : List Value), kys ds n = true → Reps G Fz H ds vs → Vals vs us → NestedAll s.heap (keysOf ds) us ∧ NestedKey.depthAll (keysOf ds) ≤ n
  | [], _, _, _, _, h, r => by cases h; cases r; exact ⟨.nil, Nat.zero_le _⟩
  | d :: ds, n, _, _, p, h, r => by
    unfold kys at p
    rw [Bool.and_eq_true] at p
    cases h with
    | cons h1 h2 =>
      cases r with
      | cons r1 r2 =>
        obtain ⟨q1, q2⟩ := nest_is hK I d n _ _ p.1 h1 r1
        obtain ⟨q3, q4⟩ := nests_is hK I ds n _ _ p.2 h2 r2
        exact ⟨.cons q1 q3, by unfold keysOf NestedKey.depthAll; omega⟩
end
theorem key_is (hK : X.K = G.K) (I : Inv X pins σ H s) {d : D} {v : V} (p : kk d = true) (h : RepC G Fz H d v) : ∃ a, v = .ref a ∧ Rep G Fz H d v ∧ (nestedKind X.prog X.w).is s.heap (keyOf d) a := by
  obtain ⟨ds, rfl, p⟩ := kk_ky p
  have h : Rep G Fz H (.tup ds) v := h
  have h' := h
  cases h' with
  | tup h1 h2 => exact ⟨_, rfl, h, nest_is hK I _ 8 _ _ p h rfl⟩
/-- the entries of a dict in the heap -/
def EntR (e : DE) (u : NestedKey × Addr × Value) : Prop := e.1 = u.1 ∧ e.2.1 = u.2.1 ∧ RelV e.2.2 u.2.2
theorem dct_of (hP : X.prog = G.P) (hw : X.w = G.w) (hK : X.K = G.K) (I : Inv X pins σ H s) {a : Addr} {es : List DE} {o : Obj} {ks : List D} (h : H a = some (dctO G a es o)) (hk : KeyL ks es) (rk : Reps G Fz H ks (es.map fun e => V.ref e.2.1)) :
    (a == sysModules) = false ∧ es.length ≤ sizeLine ∧ ∃ us, Paired EntR es us ∧ s.heap.DictOfH (nestedKind X.prog X.w) a us := by
  obtain ⟨ho, h1, h2, us, pr, des, ep, hx, hd, he, nd⟩ := dctO_at (I.hok a _ h)
  refine ⟨h1, h2, us, pr, o, des, ep, ho, hx, hd, by rw [hP, hw]; exact he, ?_, nd⟩
  have key : ∀ {ks : List D} {es : List DE} {us : List (NestedKey × Addr × Value)}, KeyL ks es → Reps G Fz H ks (es.map fun e => V.ref e.2.1) → Paired EntR es us → ∀ x ∈ us, (nestedKind X.prog X.w).is s.heap x.1 x.2.1 := by
    intro ks es
    induction es generalizing ks with
    | nil => intro us _ _ p x hx; cases p; cases hx
    | cons e es ih =>
      intro us hk rk p x hx
      cases p with
      | cons p1 p2 =>
        rename_i u us
        obtain ⟨k1, k2⟩ := hk
        cases ks with
        | nil => cases rk
        | cons k ks =>
          cases rk with
          | cons r1 r2 =>
            have k2 : (kk k && ks.all kk) = true := k2
            rw [Bool.and_eq_true] at k2
            have k1 : e.1 :: es.map (·.1) = keyOf k :: keysOf ks := k1
            injection k1 with k3 k4
            rcases List.mem_cons.mp hx with rfl | hx
            · obtain ⟨b, eb, _, q⟩ := key_is (G := G) (Fz := Fz) hK I k2.1 (Rep.c r1)
              cases eb
              rw [← p1.1, k3, ← p1.2.1]
              exact q
            · exact ih ⟨k4, k2.2⟩ r2 p2 x hx
  exact key hk rk pr
/-- what stands at a key -/
theorem dget_at {k : D} (hkk : kk k = true) : ∀ {ks vs : List D} {es : List DE} {us : List (NestedKey × Addr × Value)}, KeyL ks es → Reps G Fz H vs (es.map (·.2.2)) → Paired EntR es us →
    (dget ks vs k = none → atKey us (keyOf k) = none) ∧ ∀ d, dget ks vs k = some d → ∃ p v, atKey us (keyOf k) = some p ∧ RelV v p.2 ∧ Rep G Fz H d v
  | ks, vs, [], us, hk, rv, pr => by
    cases pr
    cases rv
    cases ks with
    | cons _ _ => exact absurd hk.1 (by simp [keysOf])
    | nil => exact ⟨fun _ => rfl, fun d h => by simp [dget] at h⟩
  | ks, vs, e :: es, us, hk, rv, pr => by
    cases pr with
    | cons p1 p2 =>
      rename_i u us
      obtain ⟨k1, k2⟩ := hk
      cases ks with
      | nil => exact absurd k1 (by simp [keysOf])
      | cons c ks =>
        cases vs with
        | nil => cases rv
        | cons b vs =>
          cases rv with
          | cons r1 r2 =>
            have k2 : (kk c && ks.all kk) = true := k2
            rw [Bool.and_eq_true] at k2
            have k1 : e.1 :: es.map (·.1) = keyOf c :: keysOf ks := k1
            injection k1 with k3 k4
            obtain ⟨g1, g2⟩ := dget_at (k := k) hkk (ks := ks) (vs := vs) ⟨k4, k2.2⟩ r2 p2
            have e1 : eqv c k = decide (u.1 = keyOf k) := by rw [kk_eq k2.1 hkk, ← p1.1, k3]
            unfold dget
            by_cases hq : u.1 = keyOf k
            · rw [e1, decide_eq_true hq]
              refine ⟨fun h => (by simp at h), fun d h => ?_⟩
              simp only [if_true, Option.some.injEq] at h
              subst h
              exact ⟨u.2, e.2.2, by unfold atKey; rw [List.find?_cons_of_pos (by simpa using hq)]; rfl, p1.2.2, r1⟩
            · rw [e1, decide_eq_false hq]
              have : atKey (u :: us) (keyOf k) = atKey us (keyOf k) := by unfold atKey; rw [List.find?_cons_of_neg (by simpa using hq)]
              rw [this]
              exact ⟨fun h => g1 (by simpa using h), fun d h => g2 d (by simpa using h)⟩
theorem keysOf_eq (ds : List D) : keysOf ds = ds.map keyOf := by
  induction ds with
  | nil => rfl
  | cons d ds ih => simp [keysOf, ih]
/-- a store -/
theorem dput_at {k d : D} {a : Addr} {v : V} {w : Value} (hkk : kk k = true) (rk0 : Rep G Fz H k (.ref a)) (rd0 : Rep G Fz H d v) (rv0 : RelV v w) : ∀ {ks vs : List D} {es : List DE} {us : List (NestedKey × Addr × Value)}, KeyL ks es → Reps G Fz H ks (es.map fun e => V.ref e.2.1) → Reps G Fz H vs (es.map (·.2.2)) → Paired EntR es us → (us.map (·.1)).Nodup →
    ∃ es', Paired EntR es' (storedH us (keyOf k) a w) ∧ KeyL (dputK ks k) es' ∧ Reps G Fz H (dputK ks k) (es'.map fun e => V.ref e.2.1) ∧ Reps G Fz H (dputV ks vs k d) (es'.map (·.2.2)) ∧ es'.length ≤ es.length + 1
  | ks, vs, [], us, hk, rk, rv, pr, nd => by
    cases pr
    cases rv
    cases ks with
    | cons _ _ => exact absurd hk.1 (by simp [keysOf])
    | nil =>
      refine ⟨[(keyOf k, a, v)], .cons ⟨rfl, rfl, rv0⟩ .nil, ⟨rfl, by simp [dputK, kks, hkk]⟩, .cons rk0 .nil, .cons rd0 .nil, by simp⟩
  | ks, vs, e :: es, us, hk, rk, rv, pr, nd => by
    cases pr with
    | cons p1 p2 =>
      rename_i u us
      obtain ⟨k1, k2⟩ := hk
      cases ks with
      | nil => exact absurd k1 (by simp [keysOf])
      | cons c ks =>
        cases vs with
        | nil => cases rv
        | cons b vs =>
          cases rv with
          | cons r1 r2 =>
            cases rk with
            | cons q1 q2 =>
              have k2 : (kk c && ks.all kk) = true := k2
              rw [Bool.and_eq_true] at k2
              have k1' := k1
              have k1 : e.1 :: es.map (·.1) = keyOf c :: keysOf ks := k1
              injection k1 with k3 k4
              rw [List.map_cons, List.nodup_cons] at nd
              have e1 : eqv c k = decide (u.1 = keyOf k) := by rw [kk_eq k2.1 hkk, ← p1.1, k3]
              by_cases hq : u.1 = keyOf k
              · have e2 : eqv c k = true := by rw [e1, decide_eq_true hq]
                have hk1 : dputK (c :: ks) k = c :: ks := by unfold dputK; rw [if_pos e2]
                have hk2 : dputV (c :: ks) (b :: vs) k d = d :: vs := by unfold dputV; rw [if_pos e2]
                have hs : storedH (u :: us) (keyOf k) a w = (u.1, u.2.1, w) :: us := by
                  have : (atKey (u :: us) (keyOf k)).isSome = true := by unfold atKey; rw [List.find?_cons_of_pos (by simpa using hq)]; rfl
                  unfold storedH
                  rw [if_pos this, List.map_cons, map_putAt_of_not_mem us _ _ (by rw [← hq]; exact nd.1), putAt, if_pos hq]
                rw [hk1, hk2, hs]
                exact ⟨(e.1, e.2.1, v) :: es, .cons ⟨p1.1, p1.2.1, rv0⟩ p2, ⟨k1', by show (kk c && ks.all kk) = true; rw [k2.1, k2.2]; rfl⟩, .cons q1 q2, .cons rd0 r2, by simp⟩
              · have e2 : ¬ eqv c k = true := by rw [e1, decide_eq_false hq]; exact Bool.false_ne_true
                have hk1 : dputK (c :: ks) k = c :: dputK ks k := by rw [dputK, if_neg e2]
                have hk2 : dputV (c :: ks) (b :: vs) k d = b :: dputV ks vs k d := by rw [dputV, if_neg e2]
                have ha : atKey (u :: us) (keyOf k) = atKey us (keyOf k) := by unfold atKey; rw [List.find?_cons_of_neg (by simpa using hq)]
                have hs : storedH (u :: us) (keyOf k) a w = u :: storedH us (keyOf k) a w := by
                  unfold storedH
                  rw [ha]
                  split
                  · rw [List.map_cons, putAt, if_neg hq]
                  · rfl
                obtain ⟨es', g1, g2, g3, g4, g5⟩ := dput_at hkk rk0 rd0 rv0 (ks := ks) (vs := vs) ⟨k4, k2.2⟩ q2 r2 p2 nd.2
                rw [hk1, hk2, hs]
                refine ⟨e :: es', .cons p1 g1, ⟨?_, ?_⟩, .cons q1 g3, .cons r1 g4, by simp; omega⟩
                · show e.1 :: es'.map (·.1) = keyOf c :: keysOf (dputK ks k)
                  rw [k3, g2.1]
                · show (kk c && (dputK ks k).all kk) = true
                  rw [k2.1, show (dputK ks k).all kk = true from g2.2]
                  rfl
end
end
end MP
set_option maxRecDepth 100000
set_option maxHeartbeats 2000000
/-! MP19: in, subscripts, stores, slices by values. -/
namespace MP
open PySem PySem.Spec PyProof.Rows L2
section
variable {G : Gx} {X : Cx} {Fz : Addr → Prop} {H H' : Hp}
theorem inn_lst (d : D) (ds : List D) : op2 .inn d (.lst ds) = if pl d 60 && pls ds 60 then some (false, .bl (ds.any fun z => eqv z d)) else none := by cases d <;> rfl
theorem inn_tup (d : D) (ds : List D) : op2 .inn d (.tup ds) = if pl d 60 && pls ds 60 then some (false, .bl (ds.any fun z => eqv z d)) else none := by cases d <;> rfl
theorem inn_dct (d : D) (ks vs : List D) : op2 .inn d (.dct ks vs) = if kk d then some (false, .bl (dget ks vs d).isSome) else none := by cases d <;> rfl
theorem nin_lst (d : D) (ds : List D) : op2 .nin d (.lst ds) = if pl d 60 && pls ds 60 then some (false, .bl (!ds.any fun z => eqv z d)) else none := by cases d <;> rfl
theorem nin_tup (d : D) (ds : List D) : op2 .nin d (.tup ds) = if pl d 60 && pls ds 60 then some (false, .bl (!ds.any fun z => eqv z d)) else none := by cases d <;> rfl
theorem nin_dct (d : D) (ks vs : List D) : op2 .nin d (.dct ks vs) = if kk d then some (false, .bl (!(dget ks vs d).isSome)) else none := by cases d <;> rfl
theorem any_py {d : D} {n : Nat} (p : pl d n = true) : ∀ {ds : List D}, pls ds n = true → ((pyDs ds).any fun z => PyData.eqv z (pyD d)) = ds.any fun z => eqv z d
  | [], _ => rfl
  | e :: ds, q => by
    unfold pls at q
    rw [Bool.and_eq_true] at q
    unfold pyDs
    rw [List.any_cons, List.any_cons, any_py p q.2, eqv_py e d n n q.1 p]
theorem pl_up : ∀ (n : Nat) {ds : List D}, pls ds n = true → pl (.lst ds) (n + 1) = true ∧ pl (.tup ds) (n + 1) = true := fun n ds h => ⟨by unfold pl; exact h, by unfold pl; exact h⟩
/-- x in d, d a dict -/
theorem in_core (hP : X.prog = G.P) (hw : X.w = G.w) (hK : X.K = G.K) (hu : X.A.units + 65 < cLine) {pins : List (Addr × Obj)} {s : Shared} {σ : L2.St} {k : D} {ks vs : List D} {x y : V} {v u : Value} (I : Inv X pins σ H s) (rx : RelV x v) (ry : RelV y u) (hk : kk k = true) (rk : RepC G Fz H k x) (rd : RepC G Fz H (.dct ks vs) y) :
    ∃ (a d : Addr) (us : List (NestedKey × Addr × Value)), v = .ref a ∧ u = .ref d ∧ x = .ref a ∧ y = .ref d ∧ Rep G Fz H k x ∧ (d == sysModules) = false ∧ (nestedKind X.prog X.w).room X.A.in1 ∧ (nestedKind X.prog X.w).is s.heap (keyOf k) a ∧ s.heap.DictOfH (nestedKind X.prog X.w) d us ∧
      (dget ks vs k = none → atKey us (keyOf k) = none) ∧ ∀ d, dget ks vs k = some d → ∃ p v, atKey us (keyOf k) = some p ∧ RelV v p.2 ∧ Rep G Fz H d v := by
  obtain ⟨a, rfl, rk', isk⟩ := key_is hK I hk rk
  obtain ⟨d, es, o, rfl, h1, h2, h3, h4⟩ := repC_dct rd
  obtain ⟨sm, ln, us, pr, dh⟩ := dct_of hP hw hK I h1 h2 h3
  obtain ⟨g1, g2⟩ := dget_at (G := G) (Fz := Fz) (H := H) hk h2 h4 pr
  exact ⟨a, d, us, rx, ry, rfl, rfl, rk', sm, (show X.A.units + 1 + 8 < cLine by omega), isk, dh, g1, g2⟩
theorem or_in (hP : X.prog = G.P) (hw : X.w = G.w) (hK : X.K = G.K) (hu : X.A.units + 65 < cLine) : OpR X (compareOp .In) (rOp G .inn) := by
  intro pins s σ H x y v u Q I rx ry ⟨Fz, d, e, own, r, dom, rd, re, he, k⟩
  cases e with
  | lst ds =>
    rw [inn_lst] at he
    split at he
    · rename_i hp
      cases he
      rw [Bool.and_eq_true] at hp
      obtain ⟨a, xs, rfl, h1, h2⟩ := repC_lst re
      refine op_inD hu pins s σ H x _ v u Q I rx ry ⟨pyD d, pyDs ds, by rw [hK]; exact dp_ofC hp.1 rd, by rw [hK]; exact .lst (.of h1) (dps_of ds _ _ hp.2 h2), shaped_of hp.1 (by decide) rd, shaped_of (d := .lst ds) (n := 61) (pl_up _ hp.2).1 (by decide) re, k _ _ (res_val ?_)⟩
      rw [any_py hp.1 hp.2]
      exact .bl _
    · cases he
  | tup ds =>
    rw [inn_tup] at he
    split at he
    · rename_i hp
      cases he
      rw [Bool.and_eq_true] at hp
      obtain ⟨as, r1⟩ := Dp.reads I (pyD d) x v (by rw [hK]; exact dp_ofC hp.1 rd) rx
      obtain ⟨bs, r2⟩ := Dp.reads I (pyD (.tup ds)) y u (by rw [hK]; exact dp_ofC (n := 61) (pl_up _ hp.2).2 re) ry
      have sd := shaped_of hp.1 (by decide) rd
      have se := shaped_of (d := .tup ds) (n := 61) (pl_up _ hp.2).2 (by decide) re
      refine SeqAt.in_tuple_reads (xs := pyDs ds) r2 r1 (SeqAt.canLay_of_shaped se) (SeqAt.canLay_of_shaped sd) (room_in_shaped sd hu) ⟨.bl _, H, I, rfl, k _ _ (res_val ?_)⟩
      rw [any_py hp.1 hp.2]
      exact .bl _
    · cases he
  | dct ks vs =>
    rw [inn_dct] at he
    split at he
    · rename_i hp
      cases he
      obtain ⟨a, dd, us, rfl, rfl, _, _, _, sm, rm, isk, dh, g1, g2⟩ := in_core hP hw hK hu I rx ry hp rd re
      refine PySem.wpAny_in_heap rm isk sm dh ⟨.bl _, H, I.kept (t' := s.toks + (nestedKind X.prog X.w).draws (keyOf d)) fun _ _ e => e, rfl, k _ _ (res_val ?_)⟩
      have : (atKey us (keyOf d)).isSome = (dget ks vs d).isSome := by
        cases hg : dget ks vs d with
        | none => rw [g1 hg]; rfl
        | some z => obtain ⟨p, v, e, _⟩ := g2 z hg; rw [e]; rfl
      rw [this]
      exact .bl _
    · cases he
  | str z =>
    cases d with
    | str y =>
      simp only [op2, Option.some.injEq, Prod.mk.injEq] at he
      obtain ⟨rfl, rfl⟩ := he
      exact op_in_str pins s σ H _ _ v u Q I rx ry ⟨y, z, (repC_str rd).1, (repC_str re).1, k _ _ (res_val (.bl _))⟩
    | _ => simp [op2] at he
  | non => cases d <;> simp [op2] at he
  | bl _ => cases d <;> simp [op2] at he
  | int _ => cases d <;> simp [op2] at he
  | fn _ => cases d <;> simp [op2] at he
  | fls _ => cases d <;> simp [op2] at he
theorem or_nin (hP : X.prog = G.P) (hw : X.w = G.w) (hK : X.K = G.K) (hu : X.A.units + 65 < cLine) : OpR X (compareOp .NotIn) (rOp G .nin) := by
  intro pins s σ H x y v u Q I rx ry ⟨Fz, d, e, own, r, dom, rd, re, he, k⟩
  cases e with
  | lst ds =>
    rw [nin_lst] at he
    split at he
    · rename_i hp
      cases he
      rw [Bool.and_eq_true] at hp
      obtain ⟨a, xs, rfl, h1, h2⟩ := repC_lst re
      refine op_notInD hu pins s σ H x _ v u Q I rx ry ⟨pyD d, pyDs ds, by rw [hK]; exact dp_ofC hp.1 rd, by rw [hK]; exact .lst (.of h1) (dps_of ds _ _ hp.2 h2), shaped_of hp.1 (by decide) rd, shaped_of (d := .lst ds) (n := 61) (pl_up _ hp.2).1 (by decide) re, k _ _ (res_val ?_)⟩
      rw [any_py hp.1 hp.2]
      exact .bl _
    · cases he
  | tup ds =>
    rw [nin_tup] at he
    split at he
    · rename_i hp
      cases he
      rw [Bool.and_eq_true] at hp
      obtain ⟨as, r1⟩ := Dp.reads I (pyD d) x v (by rw [hK]; exact dp_ofC hp.1 rd) rx
      obtain ⟨bs, r2⟩ := Dp.reads I (pyD (.tup ds)) y u (by rw [hK]; exact dp_ofC (n := 61) (pl_up _ hp.2).2 re) ry
      have sd := shaped_of hp.1 (by decide) rd
      have se := shaped_of (d := .tup ds) (n := 61) (pl_up _ hp.2).2 (by decide) re
      refine SeqAt.notIn_tuple_reads (xs := pyDs ds) r2 r1 (SeqAt.canLay_of_shaped se) (SeqAt.canLay_of_shaped sd) (room_in_shaped sd hu) ⟨.bl _, H, I, rfl, k _ _ (res_val ?_)⟩
      rw [any_py hp.1 hp.2]
      exact .bl _
    · cases he
  | dct ks vs =>
    rw [nin_dct] at he
    split at he
    · rename_i hp
      cases he
      obtain ⟨a, dd, us, rfl, rfl, _, _, _, sm, rm, isk, dh, g1, g2⟩ := in_core hP hw hK hu I rx ry hp rd re
      refine PyProof.Rows.wpAny_notIn_heap rm isk sm dh ⟨.bl _, H, I.kept (t' := s.toks + (nestedKind X.prog X.w).draws (keyOf d)) fun _ _ e => e, rfl, k _ _ (res_val ?_)⟩
      have : (atKey us (keyOf d)).isSome = (dget ks vs d).isSome := by
        cases hg : dget ks vs d with
        | none => rw [g1 hg]; rfl
        | some z => obtain ⟨p, v, e, _⟩ := g2 z hg; rw [e]; rfl
      rw [this]
      exact .bl _
    · cases he
  | str z =>
    cases d with
    | str y =>
      simp only [op2, Option.some.injEq, Prod.mk.injEq] at he
      obtain ⟨rfl, rfl⟩ := he
      refine op_notIn_str pins s σ H _ _ v u Q I rx ry ⟨y, z, (repC_str rd).1, (repC_str re).1, k _ _ (res_val (.bl _))⟩
    | _ => simp [op2] at he
  | non => cases d <;> simp [op2] at he
  | bl _ => cases d <;> simp [op2] at he
  | int _ => cases d <;> simp [op2] at he
  | fn _ => cases d <;> simp [op2] at he
  | fls _ => cases d <;> simp [op2] at he
/-! ### a[b] -/
theorem atI_l2 {α : Type} (xs : List α) (i : Int) : L2.atI xs i = (if 0 ≤ i then (if i < xs.length then xs[i.toNat]? else none) else if -(xs.length : Int) ≤ i then xs[(i + xs.length).toNat]? else none) := by
  unfold L2.atI L2.ixN
  split
  · split <;> rfl
  · split <;> rfl
theorem atI_rep {ds : List D} {xs : List V} {i : Int} {d : D} (r : Reps G Fz H ds xs) (h : MP.atI ds i = some d) : ∃ v, L2.atI xs i = some v ∧ Rep G Fz H d v := by
  rw [atI_l2, ← r.length]
  unfold MP.atI at h
  split at h
  · rename_i h0
    split at h
    · rename_i h1
      simp only [if_pos h0, if_pos h1]
      exact r.get h
    · cases h
  · rename_i h0
    split at h
    · rename_i h1
      simp only [if_neg h0, if_pos h1]
      exact r.get h
    · cases h
theorem ix_all (hP : X.prog = G.P) (hw : X.w = G.w) (hK : X.K = G.K) (hu : X.A.units + 65 < cLine) : IxR X (rOp G .idx) := by
  intro value slice pins s σ H x y v u Q I rx ry ⟨Fz, d, e, own, r, dom, rd, re, he, k⟩ hs
  cases d with
  | lst ds =>
    cases e with
    | int i =>
      have he : ((MP.atI ds i).map fun d => (false, d)) = some (own, r) := he
      cases ha : MP.atI ds i with
      | none => rw [ha] at he; cases he
      | some z =>
        rw [ha] at he
        cases he
        obtain ⟨a, xs, rfl, h1, h2⟩ := repC_lst rd
        obtain ⟨w, hw', rw'⟩ := atI_rep h2 ha
        exact ix_list value slice pins s σ H _ _ v u Q I rx ry ⟨a, xs, i, w, rfl, repC_int re, .of h1, hw', k _ _ (res_val rw')⟩ hs
    | _ => simp [op2] at he
  | tup ds =>
    cases e with
    | int i =>
      have he : ((MP.atI ds i).map fun d => (false, d)) = some (own, r) := he
      cases ha : MP.atI ds i with
      | none => rw [ha] at he; cases he
      | some z =>
        rw [ha] at he
        cases he
        obtain ⟨a, xs, rfl, h1, h2⟩ := repC_tup rd
        obtain ⟨w, hw', rw'⟩ := atI_rep h2 ha
        exact ix_tup value slice pins s σ H _ _ v u Q I rx ry ⟨a, xs, i, w, rfl, repC_int re, by rw [hK]; exact h1, hw', k _ _ (res_val rw')⟩ hs
    | _ => simp [op2] at he
  | str z =>
    cases e with
    | int i =>
      have he : (if z.length ≤ LINE then (atC z.cps.toList i).map fun c => (false, D.str ⟨#[c]⟩) else none) = some (own, r) := he
      split at he
      · rename_i hl
        cases ha : atC z.cps.toList i with
        | none => rw [ha] at he; cases he
        | some c =>
          rw [ha] at he
          cases he
          have e1 : L2.atI z.cps.toList i = some c := by rw [atI_l2]; exact ha
          obtain ⟨ez, oz⟩ := repC_str rd
          have oc : sOk ⟨#[c]⟩ = true := by
            obtain ⟨j, _, hj, _⟩ := atI_get e1
            have hm : c ∈ z.cps := Array.mem_toList_iff.mp (List.mem_of_getElem? hj)
            have := (Array.all_eq_true_iff_forall_mem.mp (show z.cps.all _ = true from oz)) c hm
            simpa using this
          exact ix_str value slice pins s σ H _ _ v u Q I rx ry ⟨z, i, c, ez, repC_int re, by rw [← line_eq]; exact hl, e1, k _ _ (res_val (.str _ oc))⟩ hs
      · cases he
    | _ => simp [op2] at he
  | dct ks vs =>
    have he : (if kk e then (dget ks vs e).map fun d => (false, d) else none) = some (own, r) := by
      cases e <;> exact he
    split at he
    · rename_i hp
      cases hg : dget ks vs e with
      | none => rw [hg] at he; cases he
      | some z =>
        rw [hg] at he
        cases he
        obtain ⟨a, dd, us, rfl, rfl, _, _, _, sm, rm, isk, dh, g1, g2⟩ := in_core hP hw hK hu I ry rx hp re rd
        obtain ⟨p, w, hp', rv, rz⟩ := g2 _ hg
        exact tail_any dh.typeIs F.slot_dict_getitem.lookup (PySem.wpAny_getItem_heap rm isk dh hp' ⟨w, H, I.kept (t' := s.toks + (nestedKind X.prog X.w).draws (keyOf e)) fun _ _ e => e, rv, k _ _ (res_val rz)⟩) hs
    · cases he
  | non => cases e <;> simp [op2] at he
  | bl _ => cases e <;> simp [op2] at he
  | int _ => cases e <;> simp [op2] at he
  | fn _ => cases e <;> simp [op2] at he
  | fls ns =>
    cases e with
    | int i =>
      have he : ((MP.atI (ns.map D.int) i).map fun d => (false, d)) = some (own, r) := he
      cases ha : MP.atI (ns.map D.int) i with
      | none => rw [ha] at he; cases he
      | some z =>
        rw [ha] at he
        cases he
        cases (show Rep G Fz H (.fls ns) x from rd) with
        | fls h1 =>
          obtain ⟨w, hw', rw'⟩ := atI_rep (reps_ints (G := G) (Fz1 := Fz) (H1 := H) ns) ha
          exact ix_list value slice pins s σ H _ _ v u Q I rx ry ⟨_, _, i, w, rfl, repC_int re, by rw [hK]; exact h1.sq, hw', k _ _ (res_val rw')⟩ hs
    | _ => simp [op2] at he
/-! ### o[k] = v -/
theorem set_all (hP : X.prog = G.P) (hw : X.w = G.w) (hK : X.K = G.K) (hu : X.A.units + 65 < cLine) : PSet X (rSub G) := by
  intro pins s σ H o i v ov iv u Q I ro ri rv ⟨Fz, a, d, kd, vd, d', ho, nf, dom, oc, rk, rd, hs, k⟩
  subst ho
  cases d with
  | lst ds =>
    cases kd with
    | int n =>
      have hs : (if (MP.atI ds n).isSome then some (D.lst (setAt ds n vd)) else none) = some d' := hs
      split at hs
      · rename_i hi
        cases hs
        obtain ⟨xs, h1, h2⟩ := oc
        have hl := h2.length
        have hj : L2.ixN xs.length n = some (if 0 ≤ n then n.toNat else (n + ds.length).toNat) := by
          unfold MP.atI at hi
          unfold L2.ixN
          rw [← hl]
          by_cases h0 : 0 ≤ n
          · rw [if_pos h0] at hi ⊢
            by_cases h3 : n < ds.length
            · rw [if_pos h3] at hi ⊢
              rw [if_pos h0]
            · rw [if_neg h3] at hi
              cases hi
          · rw [if_neg h0] at hi ⊢
            by_cases h3 : -(ds.length : Int) ≤ n
            · rw [if_pos h3] at hi ⊢
              rw [if_neg h0]
            · rw [if_neg h3] at hi
              cases hi
        refine set_list pins s σ H _ i v ov iv u Q I ro ri rv ⟨a, xs, n, _, rfl, repC_int rk, h1, hj, k _ (fun b o n e => by rw [upd_ne n]; exact e) ⟨_, upd_same, ?_⟩⟩
        exact Reps.other (h2.set rd _) nf h1 trivial (fun b o n e => by rw [upd_ne n]; exact e)
      · cases hs
    | _ => simp [subD] at hs
  | dct ks vs =>
    have hs : (if kk kd && decide (ks.length < LINE) then some (D.dct (dputK ks kd) (dputV ks vs kd vd)) else none) = some d' := hs
    split at hs
    · rename_i hp
      cases hs
      rw [Bool.and_eq_true, decide_eq_true_eq] at hp
      obtain ⟨b, rfl, rk', isk⟩ := key_is hK I hp.1 rk
      obtain ⟨es, ob, h1, h2, h3, h4⟩ := oc
      obtain ⟨sm, ln, us, pr, dh⟩ := dct_of hP hw hK I h1 h2 h3
      obtain rfl : ov = Value.ref a := ro
      obtain rfl : iv = Value.ref b := ri
      obtain ⟨_, _, _, _, _, _, _, _, nd⟩ := id dh
      obtain ⟨es', g1, g2, g3, g4, g5⟩ := dput_at (w := u) hp.1 rk' rd rv h2 h3 h4 pr nd
      have hul := Paired.length pr
      refine PySem.wpAny_setItem_heap (show X.A.units + 1 + 8 < cLine by omega) isk dh (fun h' hm' sb => ?_) (by rw [← hul]; exact ln)
      obtain ⟨o', des, ep, q1, q2, q3, q4, q5, q6⟩ := hm'
      have hk : ∀ c o, c ≠ a → H c = some o → upd H a (dctO G a es' o') c = some o := fun c o n e => by rw [upd_ne n]; exact e
      have hlen : es'.length ≤ sizeLine := by
        have e1 : es.length = ks.length := by
          have := h3.length
          rw [List.length_map] at this
          exact this.symm
        rw [← line_eq]
        omega
      refine ⟨upd H a (dctO G a es' o'), I.write (x := a) (e := a) (t' := s.toks + (nestedKind X.prog X.w).draws (keyOf kd)) (by rw [h1]; unfold dctO; trivial) (.inl rfl) (fun c o n e => (sb.2 c n).trans e) ⟨o', q1⟩ ?_, k _ hk ⟨es', o', upd_same, g2, ?_, ?_⟩⟩
      · refine ⟨⟨q1, sm, hlen, _, g1, des, ep, q2, q3, by rw [← hP, ← hw]; exact q4, q6⟩, ⟨o', q1⟩, fun h1 h2 z q => ⟨q _ z.1, z.2⟩⟩
      · exact Reps.other g3 nf h1 dctO_cell hk
      · exact Reps.other g4 nf h1 dctO_cell hk
    · cases hs
  | _ => simp [subD] at hs
/-! ### slices -/
theorem sIx_eq (n d : Nat) (o : Option Int) : MP.sIx n d o = HT.sIx n d o := by
  cases o with
  | none => rfl
  | some v =>
    show (if v < 0 then (max (v + (n : Int)) 0).toNat else min v.toNat n) = (if v < 0 then (v + (n : Int)).toNat else min v.toNat n)
    split
    · omega
    · rfl
theorem cut_rep {ds : List D} {xs : List V} {lo hi : Option Int} (r : Reps G Fz H ds xs) : Reps G Fz H (cut ds lo hi) (cutV xs lo hi) := by
  unfold cut cutV
  rw [sIx_eq, sIx_eq, r.length]
  exact (r.drop _).take _
theorem sl_all (hK : X.K = G.K) : SlR X (rSl G) := by
  intro pins s σ H x v vl vu lo hi sl Q I rx hs pl pu ⟨Fz, d, own, r, dom, rd, hc, k⟩
  cases d with
  | lst ds =>
    cases hc
    obtain ⟨a, xs, rfl, h1, h2⟩ := repC_lst rd
    exact sl_list pins s σ H _ v vl vu lo hi sl Q I rx hs pl pu ⟨a, xs, rfl, .of h1, fun p n => k _ _ (res_lst n (cut_rep h2))⟩
  | tup ds =>
    cases hc
    obtain ⟨a, xs, rfl, h1, h2⟩ := repC_tup rd
    refine sl_tupA pins s σ H _ v vl vu lo hi sl Q I rx hs pl pu ⟨a, xs, rfl, by rw [hK]; exact h1, fun e => k _ _ (res_val (.tup h1 ?_)), fun e p n => k _ _ (res_tup n (cut_rep h2))⟩
    have : cut ds lo hi = ds := by
      unfold cut
      rw [sIx_eq, sIx_eq, h2.length, e.1, e.2, List.drop_zero, Nat.sub_zero, ← h2.length, List.take_length]
    rw [this]
    exact h2
  | str z =>
    have hc : (if z.length ≤ LINE then some (false, D.str ⟨(cut z.cps.toList lo hi).toArray⟩) else none) = some (own, r) := hc
    split at hc
    · rename_i hl
      cases hc
      obtain ⟨ez, oz⟩ := repC_str rd
      have e : (⟨(cut z.cps.toList lo hi).toArray⟩ : Str) = cutS z lo hi := by
        unfold cut cutS
        rw [sIx_eq, sIx_eq]
        rfl
      have oc : sOk ⟨(cut z.cps.toList lo hi).toArray⟩ = true := by
        show ((cut z.cps.toList lo hi).toArray.all _) = true
        rw [List.all_toArray, List.all_eq_true]
        intro c hc
        unfold cut at hc
        have hm := List.mem_of_mem_drop (List.mem_of_mem_take hc)
        exact (Array.all_eq_true_iff_forall_mem.mp (show z.cps.all _ = true from oz)) c (Array.mem_toList_iff.mp hm)
      rw [e] at k oc
      exact sl_str pins s σ H _ v vl vu lo hi sl Q I rx hs pl pu ⟨z, ez, by rw [← line_eq]; exact hl, k _ _ (res_val (.str _ oc))⟩
    · cases hc
  | _ => cases hc
end
end MP
set_option maxRecDepth 100000
set_option maxHeartbeats 2000000
/-! MP20: displays of dicts, d.get(k, v), xs.pop(). -/
namespace MP
open PySem PySem.Spec PyProof.Rows L2
section
variable {G : Gx} {cf : CF} {cl : Nat → LF → List SV → Out (SV × List SV)} {lf : Option LF} {W : WX} {X : Cx} {pos : Pos} {Fz Fz' Fz1 : Addr → Prop} {H H' H1 : Hp} {σ : L2.St} {env env' : En}
theorem res_dct {p : Addr} {es : List DE} {o : Obj} {ks vs : List D} (n : H p = none) (hk : KeyL ks es) (rk : Reps G Fz H ks (es.map fun e => V.ref e.2.1)) (rv : Reps G Fz H vs (es.map (·.2.2))) : ResP G Fz H (upd H p (dctO G p es o)) true (.dct ks vs) (.ref p) := by
  have e := upd_same_of (o := dctO G p es o) n
  exact ⟨e, p, rfl, n, es, o, upd_same, hk, Reps.keep (O := fun _ => False) (same_keep e) owOk_false (fun _ h => h) _ _ rk, Reps.keep (O := fun _ => False) (same_keep e) owOk_false (fun _ h => h) _ _ rv⟩
theorem dct_obj {P : Program} {w : World} {h : Heap} {a : Addr} {es : List DE} {o : Obj} (hP : P = G.P) (hw : w = G.w) (sm : (a == sysModules) = false) (hl : es.length ≤ sizeLine) {us : List (NestedKey × Addr × Value)} (pr : Paired EntR es us) (ho : h.get? a = some o) {des : Array DictEntry} {ep : Nat} (hx : o.ExactDict) (hd : o.data = .dict des ep) (he : des.toList = us.map (entryOfKey (nestedKind P w))) (nd : (us.map (·.1)).Nodup) : ObjOk P w H h a (dctO G a es o) :=
  ⟨⟨ho, sm, hl, us, pr, des, ep, hx, hd, by rw [← hP, ← hw]; exact he, nd⟩, ⟨o, ho⟩, fun h1 h2 z q => ⟨q _ z.1, z.2⟩⟩
theorem me_dct0 (hP : X.prog = G.P) (hw : X.w = G.w) : PE X (.Dict [] [] pos) (rd G cf cl lf W (.dct .nil .nil)) := ⟨fun pins s σ H Q I ⟨Fz, env, m, q⟩ => by
  unfold evA evAs at q
  have q : OP G W σ Fz H env (kDct [] [] env) _ := q
  have hn : H s.heap.objs.size = none := I.hok.fresh (Nat.le_refl _)
  have sm : (s.heap.objs.size == sysModules) = false := beq_eq_false_iff_ne.mpr (Ne.symm (Nat.ne_of_lt I.big))
  refine wpAny_Dict_empty ⟨.ref s.heap.objs.size, _, I.laid (a := s.heap.objs.size) (o := dctO G s.heap.objs.size [] { cls := .type "dict", data := .dict #[] }) (t' := s.toks) (fun _ _ q => Heap.get?_push_of_some _ q) (Nat.le_refl _) (dct_obj hP hw sm (Nat.zero_le _) (us := []) .nil (Heap.get?_push_size _ rfl) ⟨rfl, rfl, rfl⟩ rfl rfl List.nodup_nil), rfl, ?_⟩
  have rp := res_dct (G := G) (Fz := Fz) (o := { cls := .type "dict", data := .dict #[] }) hn (show KeyL [] [] from ⟨rfl, rfl⟩) .nil .nil
  obtain ⟨p, r, f⟩ := rp.po m
  exact OP.ret (W := W) (α := AV) q _ Fz _ p r f⟩
/-- {k: v}: the new dict stands empty while the pair is made -/
def tD1 (G : Gx) (tk tv : TE) : TE := fun σ H Q => ∀ p o0, H p = none → tk σ (upd H p (dctO G p [] o0)) fun x H1 => tv σ H1 fun y H2 => H2 p = some (dctO G p [] o0) ∧ ∃ Fz kd a, x = .ref a ∧ Rep G Fz H2 kd x ∧ kk kd = true ∧ ∀ o', Q (.ref p) (upd H2 p (dctO G p [(keyOf kd, a, y)] o'))
theorem pe_d1 {k v : Expr} {tk tv : TE} (hP : X.prog = G.P) (hw : X.w = G.w) (hK : X.K = G.K) (hu : X.A.units + 65 < cLine) (hk : PE X k tk) (hv : PE X v tv) (hs : (evalEachOpt [some k] X.env).zip ((evalEach [v] X.env).map fun v => do let x ← v; standAt pos; pure x) = [(some (eval k X.env), do let x ← eval v X.env; standAt pos; pure x)]) :
    PE X (.Dict [some k] [v] pos) (tD1 G tk tv) := ⟨fun pins s σ H Q I h => by
  rw [arm_eval_Dict, hs, show [(some (eval k X.env), (do let x ← eval v X.env; standAt pos; pure x : Sem Value))] = ([(eval k X.env, (do let x ← eval v X.env; standAt pos; pure x : Sem Value))] : List (Sem Value × Sem Value)).map (fun p => (some p.1, p.2)) from rfl, dictDisplay_pairs _ (by simp) (by simp)]
  have hn : H s.heap.objs.size = none := I.hok.fresh (Nat.le_refl _)
  have gd : (s.heap.push { cls := .type "dict", data := .dict #[] }).get? s.heap.objs.size = some { cls := .type "dict", data := .dict #[] } := Heap.get?_push_size _ rfl
  have sm : (s.heap.objs.size == sysModules) = false := beq_eq_false_iff_ne.mpr (Ne.symm (Nat.ne_of_lt I.big))
  have I1 := I.laid (a := s.heap.objs.size) (o := dctO G s.heap.objs.size [] { cls := .type "dict", data := .dict #[] }) (t' := s.toks) (fun _ _ q => Heap.get?_push_of_some _ q) (Nat.le_refl _) (dct_obj hP hw sm (Nat.zero_le _) (us := []) .nil gd ⟨rfl, rfl, rfl⟩ rfl rfl List.nodup_nil)
  refine wpAny_bind (wpAny_standAt (wpAny_bind (wpAny_subDictH (knd := nestedKind X.prog X.w) (Q := fun d s' => wpAny (model X.prog X.w) X.A (pure (Value.ref d)) (EP X pins σ Q) X.xe s') (show X.A.units + 8 < cLine by omega) (by simp) ?_)))
  unfold evalPairs
  refine wpAny_bind (thn (hk.run _ _ σ _ _ I1 (h _ _ hn)) fun kv s1 ⟨x, H1, I2, r1, q1⟩ => ?_)
  refine wpAny_bind (wpAny_holding (wpAny_bind (thn (hv.run _ s1 σ H1 _ I2 q1) fun vv s2 ⟨y, H2, I3, r2, q2⟩ => wpAny_bind (wpAny_standAt (wpAny_pure ?_)))))
  unfold evalPairs
  refine wpAny_bind (wpAny_holding (wpAny_pure (wpAny_pure ?_)))
  obtain ⟨e0, Fz, kd, a, rfl, rk, hkk, fin⟩ := q2
  obtain ⟨b, eb, _, isk⟩ := key_is hK I3 hkk (Rep.c rk)
  cases eb
  obtain rfl : kv = Value.ref a := r1
  obtain ⟨g0, _⟩ := dctO_at (I3.hok _ _ e0)
  refine ⟨[(keyOf kd, a, vv)], ⟨rfl, rfl, isk, trivial⟩, ⟨_, #[], 0, g0, ⟨rfl, rfl, rfl⟩, rfl, rfl, (fun x hx => nomatch hx), List.nodup_nil⟩, fun h' tk hm sb => wpAny_pure ?_⟩
  obtain ⟨o', des, ep, d1, d2, d3, d4, d5, d6⟩ := hm
  have hs1 : storedAllH (K := NestedKey) [] [(keyOf kd, a, vv)] = [(keyOf kd, a, vv)] := rfl
  rw [hs1] at d4 d6
  have I5 : Inv X pins σ (upd H2 s.heap.objs.size (dctO G s.heap.objs.size [(keyOf kd, a, y)] o')) { s2 with heap := h', toks := tk } :=
    I3.write (x := s.heap.objs.size) (e := s.heap.objs.size) (by rw [e0]; unfold dctO; trivial) (.inl rfl) (fun c o n e => (sb.2 c n).trans e) ⟨o', d1⟩ (dct_obj hP hw sm (by show 1 ≤ sizeLine; decide) (us := [(keyOf kd, a, vv)]) (.cons ⟨rfl, rfl, r2⟩ .nil) d1 d2 d3 d4 d6)
  exact ⟨.ref s.heap.objs.size, _, I5, rfl, fin o'⟩⟩
theorem Po.over {Fz2 : Addr → Prop} {H2 H3 : Hp} {env2 : En} {p : Addr} {o : HO} (q : Po G σ Fz H env Fz2 H2 env2) (hp : H p = none) (nf : ¬ Fz2 p) (no : ¬ Ow σ env2 p) (h2 : H2 p = some o) (hc : isCell o) (hk : ∀ b o, b ≠ p → H2 b = some o → H3 b = some o) : Po G σ Fz H env Fz2 H3 env2 := by
  have ne : ∀ b o, H b = some o → b ≠ p := fun b o h z => by rw [z, hp] at h; cases h
  refine ⟨⟨fun b o h n t => hk b o (ne b o h) (q.keep.k _ _ h n t), fun b ps h n => ?_, fun b o h => ?_⟩, q.sub, q.new, q.mt.other nf no h2 hc hk, q.fl⟩
  · obtain ⟨qs, e⟩ := q.keep.t _ _ h n
    exact ⟨qs, hk b _ (ne b _ h) e⟩
  · obtain ⟨o1, e⟩ := q.keep.dm _ _ h
    exact ⟨o1, hk b _ (ne b o h) e⟩
theorem me_dct1 {k v : Expr} {ek ev : Ex} (hP : X.prog = G.P) (hw : X.w = G.w) (hK : X.K = G.K) (hu : X.A.units + 65 < cLine) (hk : PE X k (rd G cf cl lf W ek)) (hv : PE X v (rd G cf cl lf W ev)) (hs : (evalEachOpt [some k] X.env).zip ((evalEach [v] X.env).map fun v => do let x ← v; standAt pos; pure x) = [(some (eval k X.env), do let x ← eval v X.env; standAt pos; pure x)]) :
    PE X (.Dict [some k] [v] pos) (rd G cf cl lf W (.dct (.cons ek .nil) (.cons ev .nil))) := (pe_d1 hP hw hK hu hk hv hs).imp fun σ H Q ⟨Fz, env, m, q⟩ p o0 hp => by
  have q : OP G W σ Fz H env ((evA cf cl lf ek env).bind fun r => (evA cf cl lf ev r.2).bind fun r' => kDct [r.1] [r'.1] r'.2) fun av env' => ∀ v Fz' H', Po G σ Fz H env Fz' H' env' → AvR G σ Fz' H' env' av v → Fre H av v → Q v H' := by
    unfold evA at q
    simp only [evAs] at q
    cases h1 : evA cf cl lf ek env with
    | exn x l e => rw [h1] at q; exact q
    | fail => rw [h1] at q; exact q
    | ok r =>
      rw [h1] at q
      have q : OP G W σ Fz H env (((evA cf cl lf ev r.2).bind fun r' => Out.ok ([r'.1], r'.2)).bind fun r' => kDct [r.1] r'.1 r'.2) _ := q
      show OP G W σ Fz H env ((evA cf cl lf ev r.2).bind fun r' => kDct [r.1] [r'.1] r'.2) _
      cases h2 : evA cf cl lf ev r.2 with
      | exn x l e => rw [h2] at q; exact q
      | fail => rw [h2] at q; exact q
      | ok r' => rw [h2] at q; exact q
  have e0 := upd_same_of (o := dctO G p [] o0) hp
  have p0 := Po.same m e0
  have m0 := p0.mt
  have nfp : ¬ Fz p := fun z => by
    obtain ⟨o, ho⟩ := m.dom p z
    rw [hp] at ho; cases ho
  have nop : ¬ Ow σ env p := fun z => by
    obtain ⟨_, o, ho, _⟩ := m.owOk p z
    rw [hp] at ho; cases ho
  refine rd2 (k := fun a b e => kDct [a] [b] e) m0 (OP.base m p0 q) fun a b x y Fz1 H1 env1 p1 r q1 => ?_
  have hp1 : H1 p = some (dctO G p [] o0) := p1.keep.k _ _ upd_same nop dctO_ne
  have nf1 : ¬ Fz1 p := fun z => by
    rcases p1.new _ z with w | w | w
    · exact nfp w
    · rw [upd_same] at w; cases w
    · exact nop w
  refine ⟨hp1, ?_⟩
  unfold kDct at q1
  cases h1 : rds env1 [a] with
  | none => rw [h1] at q1; exact q1.elim
  | some kds =>
    cases h2 : uses env1 [b] with
    | none => rw [h1, h2] at q1; exact q1.elim
    | some z =>
      obtain ⟨vds, env2⟩ := z
      rw [h1, h2] at q1
      simp only at q1
      split at q1
      · rename_i hc
        simp only [rds] at h1
        cases ha : a.rd env1 with
        | none => rw [ha] at h1; cases h1
        | some kd =>
          rw [ha] at h1
          cases h1
          simp only [uses] at h2
          cases hb : b.use env1 with
          | none => rw [hb] at h2; cases h2
          | some w =>
            obtain ⟨vd, env3⟩ := w
            rw [hb] at h2
            cases h2
            simp only [kks, List.all_cons, List.all_nil, Bool.and_true, Bool.and_eq_true] at hc
            have hkk := hc.1.1
            have rk := r.1.rd p1.mt ha
            obtain ⟨ds, rfl, hky⟩ := kk_ky hkk
            have rk0 : Rep G Fz1 H1 (.tup ds) x := rk
            obtain ⟨Fz2, p2, rv, sub2, new2, ow2, sl2⟩ := use_ok m0 p1 r.2.2.2.1 r.2.2.2.2.1 hb
            have rk2 : Rep G Fz2 H1 (.tup ds) x := Rep.keep (O := fun _ => False) Keep.refl owOk_false sub2 _ _ rk0
            have nf2 : ¬ Fz2 p := fun z => by
              rcases p2.new _ z with w | w | w
              · exact nfp w
              · rw [upd_same] at w; cases w
              · exact nop w
            obtain ⟨ka, kx, rfl, _, _⟩ := repC_tup (Rep.c rk2)
            refine ⟨Fz2, .tup ds, ka, rfl, rk2, hkk, fun o' => ?_⟩
            have pp : Po G σ Fz H env Fz2 H1 env2 := p0.trans m p2
            have no2 : ¬ Ow σ env2 p := fun z => nop (p2.ow _ z)
            have hk3 : ∀ b o, b ≠ p → H1 b = some o → upd H1 p (dctO G p [(keyOf (.tup ds), ka, y)] o') b = some o := fun b o n e => by rw [upd_ne n]; exact e
            have p3 := pp.over hp nf2 no2 hp1 dctO_cell hk3
            refine OP.ret q1 _ Fz2 _ p3 ⟨p, rfl, nf2, no2, _, o', upd_same, ⟨rfl, by simp [kks, hkk]⟩, ?_, ?_⟩ hp
            · exact Reps.other (.cons rk2 .nil) nf2 hp1 dctO_cell hk3
            · exact Reps.other (.cons rv .nil) nf2 hp1 dctO_cell hk3
      · exact q1.elim
end
end MP
set_option maxRecDepth 100000
set_option maxHeartbeats 2000000
/-! MP21: d.get(k, v), xs.pop(), methods. -/
namespace MP
open PySem PySem.Spec PyProof.Rows L2
section
variable {G : Gx} {cf : CF} {cl : Nat → LF → List SV → Out (SV × List SV)} {lf : Option LF} {W : WX} {X : Cx} {pos : Pos} {Fz Fz' Fz1 : Addr → Prop} {H H' H1 : Hp} {σ : L2.St} {env env' : En}
/-- what a method is called on, by its type -/
def TyG (G : Gx) (T : String) (x : V) (H : Hp) : Prop := ∃ Fz d, RepC G Fz H d x ∧ match d with
  | .str _ => T = "str"
  | .lst _ => T = "list"
  | .dct _ _ => T = "dict"
  | _ => False
theorem tyG_is {pins : List (Addr × Obj)} {s : Shared} {T : String} {x : V} {v : Value} (I : Inv X pins σ H s) (r : RelV x v) (ty : TyG G T x H) : s.TypeIs v T ∧ ∀ a, v = .ref a → ∃ ob, s.heap.get? a = some ob ∧ ob.dict = none := by
  obtain ⟨Fz, d, rd, ty⟩ := ty
  cases d with
  | str z =>
    cases (show T = "str" from ty)
    obtain ⟨rfl, _⟩ := repC_str rd
    obtain ⟨t, rfl⟩ := r
    exact ⟨typeIs_str s z t, fun _ e => nomatch e⟩
  | lst ds =>
    cases (show T = "list" from ty)
    obtain ⟨a, xs, rfl, h1, _⟩ := repC_lst rd
    obtain rfl : v = Value.ref a := r
    obtain ⟨its, n, rv, e, _⟩ := I.lst h1
    exact ⟨⟨_, e, rfl⟩, fun b eb => by cases eb; exact ⟨_, e, rfl⟩⟩
  | dct ks vs =>
    cases (show T = "dict" from ty)
    obtain ⟨a, es, o, rfl, h1, _⟩ := repC_dct rd
    obtain rfl : v = Value.ref a := r
    obtain ⟨ho, ok⟩ := dctO_at (I.hok a _ h1)
    obtain ⟨des, ep, hx, hd, _⟩ := ok.entry
    exact ⟨⟨o, ho, hx.1⟩, fun b eb => by cases eb; exact ⟨o, ho, hx.2.1⟩⟩
  | _ => exact ty.elim
def tMG (G : Gx) (T : String) (r : V → List V → Hp → VK → Prop) (to : TE) (t : TA) : TE := fun σ H Q => to σ H fun x H1 => TyG G T x H1 ∧ t σ H1 fun xs H2 => r x xs H2 Q
theorem pe_mg {o e : Expr} {es : List Expr} {to : TE} {t : TA} {name : Str} {apos cpos : Pos} {T id : String} {r : V → List V → Hp → VK → Prop} (pa : PlainAttrs T) (slot : Slot T name id) (hty : typeOf (.builtin id) = pure (.type "method_descriptor")) (hm : MtR X id r) (ho : PE X o to) (ha : PA X (e :: es) t)
    (hbase : attributeBase o name X.env (eval o X.env) = eval o X.env)
    (hfew : ((backTo cpos (starEach (e :: es) X.env)).all (fun x => !x.1) && (backToKw cpos (keywordEach [] X.env)).all (fun x => x.1.isSome)
      && decide ((e :: es).length + ([] : List Keyword).length + (if ([] : List Keyword).isEmpty then 0 else 1) < 30)) = true)
    (hline : (apos.endLine == cpos.line) = true) (hs : starEach (e :: es) X.env = (false, eval e X.env) :: starEach es X.env) (hplain : (backTo cpos (starEach es X.env)).any (·.1) = false) :
    PE X (.Call (.Attribute o name apos) (e :: es) [] cpos) (tMG G T r to t) := by
  refine ⟨fun pins s σ H Q I h => ?_⟩
  refine wpAny_Call_method_late hbase hfew hline rfl (thn (ho.run pins s σ H _ I h) fun v s1 ⟨x, H1, I1, r1, ty, q1⟩ => ?_)
  obtain ⟨h1, h2⟩ := tyG_is I1 r1 ty
  refine ⟨T, id, pa, slot, hty, h1, h2, ?_⟩
  have hA := ha.run cpos pins s1 σ H1 _ I1 q1
  rw [hs] at hA ⊢
  refine Calls.callWith_builtin (by show (false || (backTo cpos (starEach es X.env)).any (·.1)) = false; rw [hplain] <;> rfl) (Calls.evalArgs_plain ?_)
  exact thn hA fun us s2 ⟨vs, H2, I2, r2, q2⟩ => hm pins s2 σ H2 x vs v us Q I2 r1 r2 q2
theorem pe_mg0 {o : Expr} {to : TE} {name : Str} {apos cpos : Pos} {T id : String} {r : V → List V → Hp → VK → Prop} (pa : PlainAttrs T) (slot : Slot T name id) (hty : typeOf (.builtin id) = pure (.type "method_descriptor")) (hm : MtR X id r) (ho : PE X o to)
    (hbase : attributeBase o name X.env (eval o X.env) = eval o X.env) (hline : (apos.endLine == cpos.line) = true) : PE X (.Call (.Attribute o name apos) [] [] cpos) (tMG G T r to fun σ H Q => Q [] H) := by
  refine ⟨fun pins s σ H Q I h => ?_⟩
  refine wpAny_Call_method0_late hbase hline (thn (ho.run pins s σ H _ I h) fun v s1 ⟨x, H1, I1, r1, ty, q1⟩ => ?_)
  obtain ⟨h1, h2⟩ := tyG_is I1 r1 ty
  exact ⟨T, id, pa, slot, hty, h1, h2, Calls.callWith_builtin rfl (PySem.evalArgs_none (hm pins s1 σ H1 x [] v [] Q I1 r1 .nil q1))⟩
/-! ### d.get(k, v) -/
def rGet2 (G : Gx) : V → List V → Hp → VK → Prop := fun x xs H Q => ∃ Fz ks vs k d y z, xs = [y, z] ∧ RepC G Fz H (.dct ks vs) x ∧ Rep G Fz H k y ∧ Rep G Fz H d z ∧ kk k = true ∧ ∀ w, Rep G Fz H ((dget ks vs k).getD d) w → Q w H
theorem mt_get2 (hP : X.prog = G.P) (hw : X.w = G.w) (hK : X.K = G.K) (hu : X.A.units + 65 < cLine) : MtR X "dict.get" (rGet2 G) := by
  intro pins s σ H x xs v us Q I rx rs h
  obtain ⟨Fz, ks, vs, k, d, y, z, rfl, rc, rk, rd, hkk, fin⟩ := h
  cases rs with
  | cons r1 rr =>
    cases rr with
    | cons r2 rr =>
      cases rr
      obtain ⟨a, dd, us', rfl, rfl, _, _, _, sm, rm, isk, dh, g1, g2⟩ := in_core hP hw hK hu I r1 rx hkk (Rep.c rk) rc
      refine call_meetsIn PySem.F.slot_dict_get dh.typeIs PySem.F.entry_dict_get (PySem.F.args_dict_get_3 _ _ _) (meetsH_dict_get_default _ dd a sm _) ⟨rm, _, _, isk, dh, ?_⟩
      cases hg : dget ks vs k with
      | none =>
        rw [hg] at fin
        rw [g1 hg]
        exact ⟨z, H, I.kept (t' := s.toks + (nestedKind X.prog X.w).draws (keyOf k)) fun _ _ e => e, r2, fin z rd⟩
      | some e =>
        rw [hg] at fin
        obtain ⟨p, w, e1, rv, rz⟩ := g2 e hg
        rw [e1]
        exact ⟨w, H, I.kept (t' := s.toks + (nestedKind X.prog X.w).draws (keyOf k)) fun _ _ e => e, rv, fin w rz⟩
theorem isDct_at {av : AV} {v : V} (m : Mt G Fz1 σ H1 env) (r : AvR G σ Fz1 H1 env av v) (h : isDct (av.rd env) = true) : TyG G "dict" v H1 := by
  cases hr : av.rd env with
  | none => rw [hr] at h; cases h
  | some d =>
    rw [hr] at h
    cases d with
    | dct ks vs => exact ⟨Fz1, _, r.rd m hr, rfl⟩
    | _ => cases h
theorem me_get2' {e : Expr} {ed ek ev : Ex} (h : PE X e (tMG G "dict" (rGet2 G) (rd G cf cl lf W ed) (fun σ H Q => rd G cf cl lf W ek σ H fun y H1 => rd G cf cl lf W ev σ H1 fun z H2 => Q [y, z] H2))) : PE X e (rd G cf cl lf W (.get2 ed ek ev)) := h.imp fun σ H Q ⟨Fz, env, m, q⟩ => by
  unfold evA at q
  refine ⟨Fz, env, m, q.bind.imp fun dv env0 q0 x Fz0 H0 p0 r0 f0 => ?_⟩
  cases hd : isDct (dv.rd env0) with
  | false =>
    simp only [hd] at q0
    exact q0.elim
  | true =>
    simp only [hd] at q0
    refine ⟨isDct_at p0.mt r0 hd, ?_⟩
    have q0 : OP G W σ Fz H env ((evA cf cl lf ek env0).bind fun rk => (evA cf cl lf ev rk.2).bind fun rv => kGet2 dv rk.1 rv.1 rv.2) _ := q0
    refine rd2 (k := fun a b e => kGet2 dv a b e) p0.mt (OP.base m p0 q0) fun a b y z Fz1 H1 env1 p1 r q1 => ?_
    unfold kGet2 at q1
    cases h1 : dv.rd env1 with
    | none => rw [h1] at q1; exact q1.elim
    | some dd =>
      cases h2 : a.rd env1 with
      | none =>
        rw [h1, h2] at q1
        cases dd <;> exact q1.elim
      | some kd =>
        cases h3 : b.use env1 with
        | none =>
          rw [h1, h2, h3] at q1
          cases dd <;> exact q1.elim
        | some w =>
          obtain ⟨vd, env2⟩ := w
          rw [h1, h2, h3] at q1
          cases dd with
          | dct ks vs =>
            simp only at q1
            split at q1
            · rename_i hkk
              have rc := (r0.keep p0.mt p1).rd p1.mt h1
              have rk := r.1.rd p1.mt h2
              obtain ⟨ds, rfl, hky⟩ := kk_ky hkk
              obtain ⟨Fz2, p2, rv, sub2, new2, ow2, sl2⟩ := use_ok p0.mt p1 r.2.2.2.1 r.2.2.2.2.1 h3
              have rk2 : Rep G Fz2 H1 (.tup ds) y := Rep.keep (O := fun _ => False) Keep.refl owOk_false sub2 _ _ (show Rep G Fz1 H1 (.tup ds) y from rk)
              obtain ⟨da, es, o, rfl, g1, g2, g3, g4⟩ := repC_dct rc
              refine ⟨Fz2, ks, vs, .tup ds, vd, y, z, rfl, ⟨da, es, o, rfl, g1, g2, Reps.keep (O := fun _ => False) Keep.refl owOk_false sub2 _ _ g3, Reps.keep (O := fun _ => False) Keep.refl owOk_false sub2 _ _ g4⟩, rk2, rv, hkk, fun w rw' => ?_⟩
              exact OP.ret q1 w Fz2 H1 (p0.trans m p2) rw' trivial
            · exact q1.elim
          | _ => exact q1.elim
/-! ### xs.pop() -/
theorem Mt.put (m : Mt G Fz σ H env) {i : Nat} {fl : Fl} {d d' : D} {a : Addr} (h : env.at i = some (fl, d)) (ho : fl.own = true) (hv : σ[i]? = some (some (.ref a))) (hk : ∀ b o, b ≠ a → H b = some o → H' b = some o) (hn : OwnC G Fz H' a d') : Po G σ Fz H env Fz H' (env.set i (some (fl, d'))) := by
  have mf : MF G env.length [] (Ow σ env) H Fz (fun _ _ => False) Fz σ H env := ⟨m, Keep.refl, fun b z => .inl z, fun b z => .inl z, fun b z => z, fun i s a hi h => absurd (En.at_lt h) (Nat.not_lt.mpr hi), fun i a h => (by simp at h), fun b o z => z.elim⟩
  have m2 := mf.put h ho hv hk hn
  refine ⟨m2.keep, fun _ z => z, fun _ z => .inl z, m2.mt, fun j => ?_⟩
  rw [En.at_set (En.at_lt h)]
  split
  · rename_i hj
    subst hj
    rw [h]
    exact .inl rfl
  · exact FlO.refl _
theorem reps_get_last : ∀ {ds : List D} {xs : List V} {d : D}, Reps G Fz H ds xs → ds.getLast? = some d → ∃ y, xs[xs.length - 1]? = some y ∧ Rep G Fz H d y := fun {ds xs d} r h => by
  rw [List.getLast?_eq_getElem?] at h
  rw [← r.length]
  exact r.get h
theorem me_pop {e : Expr} {i : Nat} (h : PE X e (tMG G "list" rPop (tVar i) fun σ H Q => Q [] H)) : PE X e (rd G cf cl lf W (.pop i)) := h.imp fun σ H Q ⟨Fz, env, m, q⟩ => by
  unfold evA at q
  cases h0 : ownAt env i with
  | none => rw [h0] at q; exact q.elim
  | some s =>
    obtain ⟨fl, d⟩ := s
    rw [h0] at q
    cases d with
    | lst ds =>
      simp only at q
      cases hl : ds.getLast? with
      | none => rw [hl] at q; exact q.elim
      | some z =>
        rw [hl] at q
        obtain ⟨g1, g2⟩ := ownAt_eq h0
        obtain ⟨a, ha, nf, xs, hx, rs⟩ := m.own g1 g2
        obtain ⟨y, hy, ry⟩ := reps_get_last rs hl
        refine ⟨_, ha, ⟨Fz, .lst ds, ⟨a, xs, rfl, hx, rs⟩, rfl⟩, a, xs, y, rfl, rfl, hx, hy, ?_⟩
        have hk : ∀ b o, b ≠ a → H b = some o → upd H a (.lst xs.dropLast) b = some o := fun b o n e => by rw [upd_ne n]; exact e
        have p := m.put g1 g2 ha hk (d' := .lst ds.dropLast) ⟨_, upd_same, Reps.other rs.dropLast nf hx trivial hk⟩
        have ry2 : Reps G Fz (upd H a (.lst xs.dropLast)) [z] [y] := Reps.other (.cons ry .nil) nf hx trivial hk
        cases ry2 with
        | cons r1 _ => exact OP.ret (W := W) (α := AV) q y Fz _ p r1 trivial
    | _ => exact q.elim
theorem me_pop0 {e : Expr} {i : Nat} (h : PE X e (tMG G "list" rPopAt (tVar i) fun σ H Q => Q [.int 0] H)) : PE X e (rd G cf cl lf W (.pop0 i)) := h.imp fun σ H Q ⟨Fz, env, m, q⟩ => by
  unfold evA at q
  cases h0 : ownAt env i with
  | none => rw [h0] at q; exact q.elim
  | some s =>
    obtain ⟨fl, d⟩ := s
    rw [h0] at q
    cases d with
    | lst ds =>
      cases ds with
      | nil => exact q.elim
      | cons z ds =>
        obtain ⟨g1, g2⟩ := ownAt_eq h0
        obtain ⟨a, ha, nf, xs, hx, rs⟩ := m.own g1 g2
        cases rs with
        | cons ry rs =>
          rename_i y ys
          refine ⟨_, ha, ⟨Fz, .lst (z :: ds), ⟨a, y :: ys, rfl, hx, .cons ry rs⟩, rfl⟩, a, y :: ys, 0, 0, y, rfl, rfl, hx, by decide, by decide, seqIndex_of (k := 0) (by decide) (by show (0 : Int) < ((y :: ys).length : Nat); simp), rfl, ?_⟩
          have hk : ∀ b o, b ≠ a → H b = some o → upd H a (.lst ys) b = some o := fun b o n e => by rw [upd_ne n]; exact e
          have p := m.put g1 g2 ha hk (d' := .lst ds) ⟨_, upd_same, Reps.other rs nf hx trivial hk⟩
          have ry2 : Reps G Fz (upd H a (.lst ys)) [z] [y] := Reps.other (.cons ry .nil) nf hx trivial hk
          cases ry2 with
          | cons r1 _ => exact OP.ret (W := W) (α := AV) q y Fz _ p r1 trivial
    | _ => exact q.elim
end
end MP
set_option maxRecDepth 100000
set_option maxHeartbeats 2000000
/-! MP22: built-in functions. -/
namespace MP
open PySem PySem.Spec PyProof.Rows L2
section
variable {G : Gx} {cf : CF} {cl : Nat → LF → List SV → Out (SV × List SV)} {lf : Option LF} {W : WX} {X : Cx} {pos : Pos} {Fz Fz' Fz1 : Addr → Prop} {H H' H1 : Hp} {σ : L2.St} {env env' : En}
theorem repCs_1 {d : D} {vs : List V} (h : RepCs G Fz H [d] vs) : ∃ v, vs = [v] ∧ RepC G Fz H d v := by
  cases h with
  | cons h1 h2 => cases h2; exact ⟨_, rfl, h1⟩
theorem repCs_2 {d e : D} {vs : List V} (h : RepCs G Fz H [d, e] vs) : ∃ v u, vs = [v, u] ∧ RepC G Fz H d v ∧ RepC G Fz H e u := by
  cases h with
  | cons h1 h2 =>
    obtain ⟨u, rfl, h3⟩ := repCs_1 h2
    exact ⟨_, _, rfl, h1, h3⟩
theorem ints_rep : ∀ {ds : List D} {ns : List Int} {xs : List V}, intsD ds = some ns → Reps G Fz H ds xs → xs = ns.map V.int
  | [], ns, xs, h, r => by cases h; cases r; rfl
  | .int i :: ds, ns, xs, h, r => by
    unfold intsD at h
    cases hi : intsD ds with
    | none => rw [hi] at h; cases h
    | some ms =>
      rw [hi] at h
      cases h
      cases r with
      | cons r1 r2 =>
        cases r1
        rw [ints_rep hi r2]
        rfl
  | .non :: _, _, _, h, _ => by simp [intsD] at h
  | .bl _ :: _, _, _, h, _ => by simp [intsD] at h
  | .str _ :: _, _, _, h, _ => by simp [intsD] at h
  | .tup _ :: _, _, _, h, _ => by simp [intsD] at h
  | .lst _ :: _, _, _, h, _ => by simp [intsD] at h
  | .dct _ _ :: _, _, _, h, _ => by simp [intsD] at h
  | .fn _ :: _, _, _, h, _ => by simp [intsD] at h
  | .fls _ :: _, _, _, h, _ => by simp [intsD] at h
theorem bools_rep : ∀ {ds : List D} {ns : List Bool} {xs : List V}, boolsD ds = some ns → Reps G Fz H ds xs → xs = ns.map V.bl
  | [], ns, xs, h, r => by cases h; cases r; rfl
  | .bl i :: ds, ns, xs, h, r => by
    unfold boolsD at h
    cases hi : boolsD ds with
    | none => rw [hi] at h; cases h
    | some ms =>
      rw [hi] at h
      cases h
      cases r with
      | cons r1 r2 =>
        cases r1
        rw [bools_rep hi r2]
        rfl
  | .non :: _, _, _, h, _ => by simp [boolsD] at h
  | .int _ :: _, _, _, h, _ => by simp [boolsD] at h
  | .str _ :: _, _, _, h, _ => by simp [boolsD] at h
  | .tup _ :: _, _, _, h, _ => by simp [boolsD] at h
  | .lst _ :: _, _, _, h, _ => by simp [boolsD] at h
  | .dct _ _ :: _, _, _, h, _ => by simp [boolsD] at h
  | .fn _ :: _, _, _, h, _ => by simp [boolsD] at h
  | .fls _ :: _, _, _, h, _ => by simp [boolsD] at h
/-- the arguments of a built-in that is known by b -/
theorem bi_1 {b : Bi} {ds : List D} {own : Bool} {r : D} (h : bi b ds = some (own, r)) (hb : b ∈ [Bi.neg, .len, .int, .abs, .str, .sum, .max1, .min1, .all, .list, .lvals, .litems, .tuple, .dict, .sorted, .lenset, .sorset, .isInt, .isBool, .isStr, .isTup, .isList, .rev]) : ∃ d, ds = [d] := by
  match ds with
  | [d] => exact ⟨d, rfl⟩
  | [] => simp at hb; rcases hb with h' | h' | h' | h' | h' | h' | h' | h' | h' | h' | h' | h' | h' | h' | h' | h' | h' | h' | h' | h' | h' | h' | h' <;> (subst h'; simp [bi] at h)
  | [d, e] => simp at hb; rcases hb with h' | h' | h' | h' | h' | h' | h' | h' | h' | h' | h' | h' | h' | h' | h' | h' | h' | h' | h' | h' | h' | h' | h' <;> (subst h'; simp [bi] at h)
  | d :: e :: f :: t => simp at hb; rcases hb with h' | h' | h' | h' | h' | h' | h' | h' | h' | h' | h' | h' | h' | h' | h' | h' | h' | h' | h' | h' | h' | h' | h' <;> (subst h'; simp [bi] at h)
theorem cr_neg : UnR X (unaryOp .USub) (fun x H Q => rBi G .neg [x] H Q) := by
  intro pins s σ H x v Q I rx ⟨Fz, ds, own, r, dom, rc, hb, k⟩
  obtain ⟨d, rfl⟩ := bi_1 hb (by simp)
  obtain ⟨x', ex, rd⟩ := repCs_1 rc
  cases ex
  cases d <;> simp [bi] at hb
  obtain ⟨rfl, rfl⟩ := hb
  exact un_neg pins s σ H x v Q I rx ⟨_, repC_int rd, k _ _ (res_val (.int _))⟩
theorem cr_len (hP : X.prog = G.P) (hw : X.w = G.w) (hK : X.K = G.K) : CallR X (.builtin "len") (rBi G .len) := by
  intro pins s σ H xs us Q I rx ⟨Fz, ds, own, r, dom, rc, hb, k⟩
  obtain ⟨d, rfl⟩ := bi_1 hb (by simp)
  obtain ⟨x, rfl, rd⟩ := repCs_1 rc
  cases d with
  | lst es =>
    simp only [bi, Option.some.injEq, Prod.mk.injEq] at hb
    obtain ⟨rfl, rfl⟩ := hb
    obtain ⟨a, ys, rfl, h1, h2⟩ := repC_lst rd
    refine call_len_seq pins s σ H _ us Q I rx ⟨a, ys, rfl, .inl (.of h1), k _ _ (res_val ?_)⟩
    rw [← h2.length]
    exact .int _
  | tup es =>
    simp only [bi, Option.some.injEq, Prod.mk.injEq] at hb
    obtain ⟨rfl, rfl⟩ := hb
    obtain ⟨a, ys, rfl, h1, h2⟩ := repC_tup rd
    refine call_len_seq pins s σ H _ us Q I rx ⟨a, ys, rfl, .inr (by rw [hK]; exact h1), k _ _ (res_val ?_)⟩
    rw [← h2.length]
    exact .int _
  | str z =>
    simp only [bi] at hb
    split at hb
    · rename_i hl
      cases hb
      exact call_len_str pins s σ H _ us Q I rx ⟨z, by rw [(repC_str rd).1], by rw [← line_eq]; exact hl, k _ _ (res_val (.int _))⟩
    · cases hb
  | dct ks vs =>
    simp only [bi, Option.some.injEq, Prod.mk.injEq] at hb
    obtain ⟨rfl, rfl⟩ := hb
    obtain ⟨a, es, o, rfl, h1, h2, h3, h4⟩ := repC_dct rd
    obtain ⟨sm, ln, us', pr, dh⟩ := dct_of hP hw hK I h1 h2 h3
    cases rx with
    | cons r1 rr =>
      cases rr
      cases r1
      have hl : ks.length = us'.length := by
        have := h3.length
        rw [List.length_map] at this
        rw [this, Paired.length pr]
      have hul := Paired.length pr
      refine call_len_dictH sm dh (by have := line63; omega) ⟨.int us'.length, H, I.kept (t' := s.toks + 1 + 1) fun _ _ e => e, ⟨_, rfl⟩, k _ _ (res_val ?_)⟩
      rw [hl]
      exact .int _
  | fls ns =>
    simp only [bi, Option.some.injEq, Prod.mk.injEq] at hb
    obtain ⟨rfl, rfl⟩ := hb
    cases (show Rep G Fz H (.fls ns) x from rd) with
    | fls h1 =>
      refine call_len_seq pins s σ H _ us Q I rx ⟨_, _, rfl, .inl (by rw [hK]; exact h1.sq), k _ _ (res_val ?_)⟩
      rw [List.length_map]
      exact .int _
  | _ => simp [bi] at hb
theorem cr_int : CallR X (.type "int") (rBi G .int) := by
  intro pins s σ H xs us Q I rx ⟨Fz, ds, own, r, dom, rc, hb, k⟩
  obtain ⟨d, rfl⟩ := bi_1 hb (by simp)
  obtain ⟨x, rfl, rd⟩ := repCs_1 rc
  cases d <;> simp only [bi, reduceCtorEq, Option.some.injEq, Prod.mk.injEq] at hb
  · obtain ⟨rfl, rfl⟩ := hb
    exact call_int1 pins s σ H _ us Q I rx (.inr ⟨_, by rw [repC_bl rd], k _ _ (res_val (.int _))⟩)
  · obtain ⟨rfl, rfl⟩ := hb
    exact call_int1 pins s σ H _ us Q I rx (.inl ⟨_, by rw [repC_int rd], k _ _ (res_val (.int _))⟩)
theorem cr_abs : CallR X (.builtin "abs") (rBi G .abs) := by
  intro pins s σ H xs us Q I rx ⟨Fz, ds, own, r, dom, rc, hb, k⟩
  obtain ⟨d, rfl⟩ := bi_1 hb (by simp)
  obtain ⟨x, rfl, rd⟩ := repCs_1 rc
  cases d <;> simp only [bi, reduceCtorEq, Option.some.injEq, Prod.mk.injEq] at hb
  obtain ⟨rfl, rfl⟩ := hb
  exact call_abs pins s σ H _ us Q I rx ⟨_, by rw [repC_int rd], k _ _ (res_val (.int _))⟩
theorem cr_sum' (hc : X.calm = true) : CallR X (.builtin "sum") (rBi G .sum) := by
  intro pins s σ H xs us Q I rx ⟨Fz, ds, own, r, dom, rc, hb, k⟩
  obtain ⟨d, rfl⟩ := bi_1 hb (by simp)
  obtain ⟨x, rfl, rd⟩ := repCs_1 rc
  cases d <;> simp only [bi, reduceCtorEq] at hb
  rename_i es
  cases hi : intsD es with
  | none => rw [hi] at hb; cases hb
  | some ns =>
    rw [hi] at hb
    cases hb
    obtain ⟨a, ys, rfl, h1, h2⟩ := repC_lst rd
    rw [ints_rep hi h2] at h1
    exact cr_sum hc pins s σ H _ us Q I rx ⟨a, ns, rfl, .of h1, k _ _ (res_val (.int _))⟩
theorem cr_all' (hc : X.calm = true) : CallR X (.builtin "all") (rBi G .all) := by
  intro pins s σ H xs us Q I rx ⟨Fz, ds, own, r, dom, rc, hb, k⟩
  obtain ⟨d, rfl⟩ := bi_1 hb (by simp)
  obtain ⟨x, rfl, rd⟩ := repCs_1 rc
  cases d <;> simp only [bi, reduceCtorEq] at hb
  rename_i es
  cases hi : boolsD es with
  | none => rw [hi] at hb; cases hb
  | some ns =>
    rw [hi] at hb
    cases hb
    obtain ⟨a, ys, rfl, h1, h2⟩ := repC_lst rd
    rw [bools_rep hi h2] at h1
    exact cr_all hc pins s σ H _ us Q I rx ⟨a, ns, rfl, .of h1, k _ _ (res_val (.bl _))⟩
theorem maxL_mem : ∀ (ns : List Int) (n : Int), maxL n ns ∈ n :: ns ∧ ∀ y ∈ n :: ns, y ≤ maxL n ns
  | [], n => ⟨by simp [maxL], fun y hy => by simp at hy; subst hy; exact Int.le_refl _⟩
  | m :: ns, n => by
    obtain ⟨h1, h2⟩ := maxL_mem ns (max n m)
    have e : maxL n (m :: ns) = maxL (max n m) ns := rfl
    rw [e]
    refine ⟨?_, fun y hy => ?_⟩
    · rcases List.mem_cons.mp h1 with h | h
      · rw [h]
        rcases Int.le_total n m with q | q
        · rw [Int.max_eq_right q]; simp
        · rw [Int.max_eq_left q]; simp
      · exact List.mem_cons_of_mem _ (List.mem_cons_of_mem _ h)
    · have h3 := h2 (max n m) (by simp)
      rcases List.mem_cons.mp hy with h | h
      · subst h; exact Int.le_trans (Int.le_max_left _ _) h3
      · rcases List.mem_cons.mp h with h | h
        · subst h; exact Int.le_trans (Int.le_max_right _ _) h3
        · exact h2 y (List.mem_cons_of_mem _ h)
theorem minL_mem : ∀ (ns : List Int) (n : Int), minL n ns ∈ n :: ns ∧ ∀ y ∈ n :: ns, minL n ns ≤ y
  | [], n => ⟨by simp [minL], fun y hy => by simp at hy; subst hy; exact Int.le_refl _⟩
  | m :: ns, n => by
    obtain ⟨h1, h2⟩ := minL_mem ns (min n m)
    have e : minL n (m :: ns) = minL (min n m) ns := rfl
    rw [e]
    refine ⟨?_, fun y hy => ?_⟩
    · rcases List.mem_cons.mp h1 with h | h
      · rw [h]
        rcases Int.le_total n m with q | q
        · rw [Int.min_eq_left q]; simp
        · rw [Int.min_eq_right q]; simp
      · exact List.mem_cons_of_mem _ (List.mem_cons_of_mem _ h)
    · have h3 := h2 (min n m) (by simp)
      rcases List.mem_cons.mp hy with h | h
      · subst h; exact Int.le_trans h3 (Int.min_le_left _ _)
      · rcases List.mem_cons.mp h with h | h
        · subst h; exact Int.le_trans h3 (Int.min_le_right _ _)
        · exact h2 y (List.mem_cons_of_mem _ h)
theorem cr_max1 (hc : X.calm = true) : CallR X (.builtin "max") (rBi G .max1) := by
  intro pins s σ H xs us Q I rx ⟨Fz, ds, own, r, dom, rc, hb, k⟩
  obtain ⟨d, rfl⟩ := bi_1 hb (by simp)
  obtain ⟨x, rfl, rd⟩ := repCs_1 rc
  cases d <;> simp only [bi, reduceCtorEq] at hb
  rename_i es
  split at hb
  · rename_i n ns hi
    cases hb
    obtain ⟨a, ys, rfl, h1, h2⟩ := repC_lst rd
    rw [ints_rep hi h2] at h1
    refine cr_max hc pins s σ H _ us Q I rx ⟨a, n :: ns, rfl, .of h1, by simp, fun m hm hmax => k _ _ (res_val ?_)⟩
    obtain ⟨g1, g2⟩ := maxL_mem ns n
    have : m = maxL n ns := Int.le_antisymm (g2 m hm) (hmax _ g1)
    rw [this]
    exact .int _
  · cases hb
theorem cr_min1 (hc : X.calm = true) : CallR X (.builtin "min") (rBi G .min1) := by
  intro pins s σ H xs us Q I rx ⟨Fz, ds, own, r, dom, rc, hb, k⟩
  obtain ⟨d, rfl⟩ := bi_1 hb (by simp)
  obtain ⟨x, rfl, rd⟩ := repCs_1 rc
  cases d <;> simp only [bi, reduceCtorEq] at hb
  rename_i es
  split at hb
  · rename_i n ns hi
    cases hb
    obtain ⟨a, ys, rfl, h1, h2⟩ := repC_lst rd
    rw [ints_rep hi h2] at h1
    refine cr_min hc pins s σ H _ us Q I rx ⟨a, n :: ns, rfl, .of h1, by simp, fun m hm hmin => k _ _ (res_val ?_)⟩
    obtain ⟨g1, g2⟩ := minL_mem ns n
    have : m = minL n ns := Int.le_antisymm (hmin _ g1) (g2 m hm)
    rw [this]
    exact .int _
  · cases hb
theorem bi_mm {b : Bi} (hb : b = .max2 ∨ b = .min2) {ds : List D} {own : Bool} {r : D} (h : bi b ds = some (own, r)) : ∃ i j, ds = [.int i, .int j] := by
  rcases hb with rfl | rfl <;> (unfold bi at h; split at h <;> first | (simp_all; done) | exact ⟨_, _, rfl⟩ | cases h)
theorem cr_max2 (hc : X.calm = true) : CallR X (.builtin "max") (rBi G .max2) := by
  intro pins s σ H xs us Q I rx ⟨Fz, ds, own, r, dom, rc, hb, k⟩
  obtain ⟨i, j, rfl⟩ := bi_mm (.inl rfl) hb
  obtain ⟨x, y, rfl, r1, r2⟩ := repCs_2 rc
  simp only [bi, Option.some.injEq, Prod.mk.injEq] at hb
  obtain ⟨rfl, rfl⟩ := hb
  exact call_max2 hc pins s σ H _ us Q I rx ⟨i, j, by rw [repC_int r1, repC_int r2], k _ _ (res_val (.int _))⟩
theorem cr_min2 (hc : X.calm = true) : CallR X (.builtin "min") (rBi G .min2) := by
  intro pins s σ H xs us Q I rx ⟨Fz, ds, own, r, dom, rc, hb, k⟩
  obtain ⟨i, j, rfl⟩ := bi_mm (.inr rfl) hb
  obtain ⟨x, y, rfl, r1, r2⟩ := repCs_2 rc
  simp only [bi, Option.some.injEq, Prod.mk.injEq] at hb
  obtain ⟨rfl, rfl⟩ := hb
  exact call_min2 hc pins s σ H _ us Q I rx ⟨i, j, by rw [repC_int r1, repC_int r2], k _ _ (res_val (.int _))⟩
theorem cr_tuple (hK : X.K = G.K) : CallR X (.type "tuple") (rBi G .tuple) := by
  intro pins s σ H xs us Q I rx ⟨Fz, ds, own, r, dom, rc, hb, k⟩
  obtain ⟨d, rfl⟩ := bi_1 hb (by simp)
  obtain ⟨x, rfl, rd⟩ := repCs_1 rc
  cases d <;> simp only [bi, reduceCtorEq, Option.some.injEq, Prod.mk.injEq] at hb
  · obtain ⟨rfl, rfl⟩ := hb
    obtain ⟨a, ys, rfl, h1, h2⟩ := repC_tup rd
    exact call_tuple_of pins s σ H _ us Q I rx ⟨a, ys, rfl, .inr ⟨by rw [hK]; exact h1, k _ _ (res_val (.tup h1 h2))⟩⟩
  · obtain ⟨rfl, rfl⟩ := hb
    obtain ⟨a, ys, rfl, h1, h2⟩ := repC_lst rd
    exact call_tuple_of pins s σ H _ us Q I rx ⟨a, ys, rfl, .inl ⟨.of h1, fun p n => k _ _ (res_tup n h2)⟩⟩
theorem kit_b : ∀ (K : PySem.W.Frag), PySem.W.kitOne K (.type "int") (.type "bool") = some false := fun K => by rfl
end
end MP
set_option maxRecDepth 100000
set_option maxHeartbeats 2000000
/-! MP23: isinstance, list. -/
namespace MP
open PySem PySem.Spec PyProof.Rows L2
section
variable {G : Gx} {cf : CF} {cl : Nat → LF → List SV → Out (SV × List SV)} {lf : Option LF} {W : WX} {X : Cx} {pos : Pos} {Fz Fz' Fz1 : Addr → Prop} {H H' H1 : Hp} {σ : L2.St} {env env' : En}
/-- a datum's type -/
def tyD : D → Option String
  | .non => some "NoneType"
  | .bl _ => some "bool"
  | .int _ => some "int"
  | .str _ => some "str"
  | .tup _ => some "tuple"
  | .lst _ => some "list"
  | _ => none
theorem tyX_of {d : D} {v : V} {t : String} (r : RepC G Fz H d v) (h : tyD d = some t) : TyX G.K H v (.type t) := by
  cases d with
  | non => cases h; rw [repC_non r]; exact .base .non
  | bl b => cases h; rw [repC_bl r]; exact .base (.bl b)
  | int i => cases h; rw [repC_int r]; exact .base (.int i)
  | str x => cases h; rw [(repC_str r).1]; exact .base (.str x)
  | tup ds =>
    cases h
    obtain ⟨a, xs, rfl, h1, _⟩ := repC_tup r
    rcases h1 with (h1 | ⟨o, h1⟩) | ⟨o, its, n, h1, hc, _⟩
    · exact .base (.tup h1)
    · exact .fTuple h1
    · exact .kTuple h1 hc
  | lst ds =>
    cases h
    obtain ⟨a, xs, rfl, h1, _⟩ := repC_lst r
    exact .base (.lst h1)
  | dct _ _ => cases h
  | fn _ => cases h
  | fls _ => cases h
/-- what isinstance tells -/
def isT : Bi → Option String
  | .isInt => some "int"
  | .isBool => some "bool"
  | .isStr => some "str"
  | .isTup => some "tuple"
  | .isList => some "list"
  | _ => none
theorem isT_bi {b : Bi} {T : String} (hT : isT b = some T) {ds : List D} {own : Bool} {r : D} (h : bi b ds = some (own, r)) : ∃ d t z, ds = [d] ∧ tyD d = some t ∧ own = false ∧ r = .bl z ∧ ∀ K : PySem.W.Frag, PySem.W.kitOne K (.type t) (.type T) = some z := by
  cases b <;> first | (simp [isT] at hT; done) | skip
  all_goals
    obtain ⟨d, rfl⟩ := bi_1 h (by simp)
    cases hT
    cases d <;> first | (simp [bi] at h; done) | skip
    all_goals
      simp only [bi, Option.some.injEq, Prod.mk.injEq] at h
      obtain ⟨rfl, rfl⟩ := h
      exact ⟨_, _, _, rfl, rfl, rfl, rfl, fun K => rfl⟩
theorem me_isi {b : Bi} {T : String} {e c : Expr} {ex : Ex} {p : Pos} (hK : X.K = G.K) (hT : isT b = some T) (hg : Gl X "isinstance") (hm : X.mg "isinstance" = none) (he : PE X e (rd G cf cl lf W ex)) (hc : PE X c (tC (.ty T)))
    (hs : starEach [e, c] X.env = (false, eval e X.env) :: starEach [c] X.env) (hs2 : starEach [c] X.env = (false, eval c X.env) :: starEach [] X.env) :
    PE X (.Call (.Name "isinstance" p) [e, c] [] pos) (rd G cf cl lf W (.bi b (.cons ex .nil))) :=
  (pe_callB call_isi hg hm (by rfl) (pa_cons he (pa_cons hc pa_nil hs2) hs) (by decide) (by decide) hs (by rw [hs2]; rfl)).imp fun σ H Q ⟨Fz, env, m, q⟩ => by
    unfold evA at q
    simp only [evAs] at q
    refine ⟨Fz, env, m, ?_⟩
    cases h1 : evA cf cl lf ex env with
    | exn x l e => rw [h1] at q; exact q
    | fail => rw [h1] at q; exact q.elim
    | ok z =>
      obtain ⟨av, env1⟩ := z
      rw [h1] at q
      have q : OP G W σ Fz H env (kBi b [av] env1) _ := q
      intro v Fz1 H1 p1 r1 f1
      unfold kBi at q
      simp only [MP.rds] at q
      cases h2 : av.rd env1 with
      | none => rw [h2] at q; exact q.elim
      | some d =>
        rw [h2] at q
        simp only at q
        cases h3 : bi b [d] with
        | none => rw [h3] at q; exact q.elim
        | some w =>
          obtain ⟨own, r⟩ := w
          rw [h3] at q
          obtain ⟨d', t, z, hd, ht, rfl, rfl, hk⟩ := isT_bi hT h3
          cases hd
          refine ⟨v, .ty T, .type t, .type T, z, rfl, .ty T, ?_, hk _, OP.ret (W := W) q (.bl z) Fz1 H1 p1 (Rep.bl _) trivial⟩
          rw [hK]
          exact tyX_of (r1.rd p1.mt h2) ht
/-! ### list(x) -/
theorem cr_list (hP : X.prog = G.P) (hw : X.w = G.w) (hK : X.K = G.K) (hc : X.calm = true) : CallR X (.type "list") (rBi G .list) := by
  intro pins s σ H xs us Q I rx ⟨Fz, ds, own, r, dom, rc, hb, k⟩
  obtain ⟨d, rfl⟩ := bi_1 hb (by simp)
  obtain ⟨x, rfl, rd⟩ := repCs_1 rc
  cases d <;> simp only [bi, reduceCtorEq, Option.some.injEq, Prod.mk.injEq] at hb
  · obtain ⟨rfl, rfl⟩ := hb
    obtain ⟨a, ys, rfl, h1, h2⟩ := repC_tup rd
    exact call_list_of pins s σ H _ us Q I rx ⟨a, ys, rfl, .inr (by rw [hK]; exact h1), fun p n => k _ _ (res_lst n h2)⟩
  · obtain ⟨rfl, rfl⟩ := hb
    obtain ⟨a, ys, rfl, h1, h2⟩ := repC_lst rd
    exact call_list_of pins s σ H _ us Q I rx ⟨a, ys, rfl, .inl (.of h1), fun p n => k _ _ (res_lst n h2)⟩
  · obtain ⟨rfl, rfl⟩ := hb
    obtain ⟨a, es, o, rfl, h1, h2, h3, h4⟩ := repC_dct rd
    obtain ⟨u, rfl, rx'⟩ := rx.one
    cases rx'
    obtain ⟨ho, ok⟩ := dctO_at (I.hok a _ h1)
    obtain ⟨des, ep, hx, hd, hs, ent⟩ := ok.entry
    refine PySem.W.kdl_call (kdl_raw ok.1 hx hd) (I.ok.hd hc) ho (by rw [hs]; exact ok.2.1) fun h' tk acc' c' kp e it => ?_
    have rv : Vals (es.map fun e => V.ref e.2.1) acc'.toList := by
      have hl : acc'.toList.length = es.length := by rw [Array.length_toList, it.1, hs]
      refine vals_of_at (by rw [List.length_map, hl]) fun j y w' g1 g2 => ?_
      rw [List.getElem?_map] at g1
      cases hj : es[j]? with
      | none => rw [hj] at g1; cases g1
      | some z =>
        rw [hj] at g1
        cases g1
        obtain ⟨en, hen, hv⟩ := it.2 j w' (by rw [← Array.getElem?_toList]; exact g2)
        obtain ⟨hjl, ej⟩ := Array.getElem?_eq_some_iff.mp hen
        obtain ⟨e', he', hk', _⟩ := ent j hjl
        rw [hj] at he'
        cases he'
        rw [hv, ← ej, hk']
        rfl
    have hz : (es.map fun e => V.ref e.2.1).length ≤ sizeLine := by rw [List.length_map]; exact ok.2.1
    refine ⟨.ref s.heap.objs.size, _, I.laid (t' := tk) (o := .lst (es.map fun e => V.ref e.2.1)) kp (Nat.le_refl _) ?_, rfl, k _ _ (res_lst (I.hok.fresh (Nat.le_refl _)) h3)⟩
    exact ⟨hz, acc'.toList, c', rv, by rw [Array.toArray_toList]; exact e⟩
end
end MP
set_option maxRecDepth 100000
set_option maxHeartbeats 2000000
/-! MP24: calls. -/
namespace MP
open PySem PySem.Spec PyProof.Rows L2
/-- the owned arguments' objects -/
def OwA (ss : List SV) (vs : List V) (b : Addr) : Prop := ∃ (i : Nat) (s : SV), ss[i]? = some s ∧ s.1.own = true ∧ vs[i]? = some (.ref b)
/-- arguments -/
structure ArgR (G : Gx) (Fz : Addr → Prop) (H : Hp) (ss : List SV) (vs : List V) : Prop where
  len : ss.length = vs.length
  slot : ∀ (i : Nat) (s : SV) (v : V), ss[i]? = some s → vs[i]? = some v → SlotR G Fz H s v
  dis : ∀ (i j : Nat) (a : Addr) (s t : SV), ss[i]? = some s → ss[j]? = some t → s.1.own = true → t.1.own = true → vs[i]? = some (.ref a) → vs[j]? = some (.ref a) → i = j
/-- what a call leaves of the heap -/
structure Aft (G : Gx) (O : Addr → Prop) (Fz : Addr → Prop) (H : Hp) (Fz' : Addr → Prop) (H' : Hp) : Prop where
  keep : Keep O H H'
  sub : ∀ b, Fz b → Fz' b
  new : ∀ b, Fz' b → Fz b ∨ H b = none ∨ O b
  dom : ∀ b, Fz' b → ∃ o, H' b = some o
  tabs : TabF G Fz' H'
/-- what a def promises: g its evaluator -/
def spF (G : Gx) (g : List SV → Out (SV × List SV)) (np : Nat) : Sp := fun vs H Q E => vs.length = np ∧ ∃ (Fz : Addr → Prop) (ss : List SV), TabF G Fz H ∧ (∀ b, Fz b → ∃ o, H b = some o) ∧ ArgR G Fz H ss vs ∧ match g ss with
  | .ok (s, outs) => ∀ v Fz' H', Aft G (OwA ss vs) Fz H Fz' H' → (∀ (i : Nat) (s0 : SV) (a : Addr), ss[i]? = some s0 → s0.1 = .p → vs[i]? = some (.ref a) → ∃ fl d', outs[i]? = some (fl, d') ∧ (fl = .p ∨ fl = .q) ∧ SlotR G Fz' H' (fl, d') (.ref a)) →
      (if s.1.own = true then ∃ a, v = .ref a ∧ ¬ Fz' a ∧ OwnC G Fz' H' a s.2 ∧ H a = none else Rep G Fz' H' s.2 v) → Q v H'
  | .exn x l _ => ∀ cls d Fz' H', ExcR G x l cls d H' → Aft G (OwA ss vs) Fz H Fz' H' → E cls d H'
  | .fail => False
section
variable {G : Gx} {cf : CF} {cl : Nat → LF → List SV → Out (SV × List SV)} {lf : Option LF} {W : WX} {X : Cx} {pos : Pos} {Fz Fz' Fz1 : Addr → Prop} {H H' H1 H0 : Hp} {σ : L2.St} {env env' env1 : En}
theorem start_get (N : List Str) (vs : List V) (i : Nat) (hl : vs.length ≤ N.length) : (L2.start N vs)[i]? = if i < vs.length then some (vs[i]?) else if i < N.length then some none else none := by
  unfold L2.start
  by_cases h : i < vs.length
  · rw [List.getElem?_append_left (by simpa using h), List.getElem?_map, List.getElem?_eq_getElem h, if_pos h]
    rfl
  · rw [List.getElem?_append_right (by simpa using h), if_neg h, List.length_map, List.getElem?_replicate]
    by_cases h2 : i < N.length
    · rw [if_pos (by omega), if_pos h2]
    · rw [if_neg (by omega), if_neg h2]
/-- a body's names at its entry -/
def env0 (ns np : Nat) (ss : List SV) : En := ss.map some ++ List.replicate (ns - np) none
theorem env0_at {ns np : Nat} {ss : List SV} (i : Nat) : En.at (env0 ns np ss) i = ss[i]? := by
  unfold En.at env0
  by_cases h : i < ss.length
  · rw [List.getElem?_append_left (by simpa using h), List.getElem?_map, List.getElem?_eq_getElem h]
    rfl
  · rw [List.getElem?_append_right (by simpa using h), List.length_map, List.getElem?_replicate, List.getElem?_eq_none (by omega)]
    split <;> rfl
def lentP (ss : List SV) (vs : List V) (i : Nat) : Option (Nat × Addr) := match ss[i]?, vs[i]? with
  | some (Fl.p, _), some (V.ref a) => some (i, a)
  | _, _ => none
theorem entry_mf {ns np : Nat} {ss : List SV} {vs : List V} {N : List Str} (hns : N.length = ns) (hnp : np ≤ ns) (hv : vs.length = np) (a : ArgR G Fz H ss vs) (t : TabF G Fz H) (dm : ∀ b, Fz b → ∃ o, H b = some o) :
    MF G np ((List.range np).filterMap (lentP ss vs)) (OwA ss vs) H Fz (fun _ _ => False) Fz (L2.start N vs) H (env0 ns np ss) := by
  have hl := a.len
  have hlN : vs.length ≤ N.length := by omega
  have lt : ∀ {i : Nat} {s : SV}, ss[i]? = some s → i < vs.length := fun {i s} h => by
    rw [← hl]; exact (List.getElem?_eq_some_iff.mp h).1
  have sg : ∀ {i : Nat} {s : SV}, ss[i]? = some s → (L2.start N vs)[i]? = some (vs[i]?) := fun {i s} h => by
    rw [start_get N vs i hlN, if_pos (lt h)]
  refine ⟨⟨?_, fun i s h => ?_, fun i j x s u h1 h2 o1 o2 e1 e2 => ?_, dm, t⟩, Keep.refl, fun b ⟨i, s, h1, h2, h3⟩ => ?_, fun b z => .inl z, fun b z => z, fun i s x hi h => ?_, fun i x h => ?_, fun b o z => z.elim⟩
  · unfold env0 L2.start
    rw [List.length_append, List.length_append, List.length_map, List.length_map, List.length_replicate, List.length_replicate]
    omega
  · rw [env0_at] at h
    have hv' : vs[i]? = some (vs[i]'(lt h)) := by rw [List.getElem?_eq_getElem (lt h)]
    exact ⟨_, by rw [sg h, hv'], a.slot i s _ h hv'⟩
  · rw [env0_at] at h1 h2
    rw [sg h1] at e1
    rw [sg h2] at e2
    exact a.dis i j x s u h1 h2 o1 o2 (Option.some.inj e1) (Option.some.inj e2)
  · rw [env0_at] at h1
    rw [sg h1] at h3
    exact .inl ⟨i, s, h1, h2, Option.some.inj h3⟩
  · rw [env0_at] at h
    have := lt h
    omega
  · obtain ⟨j, hj, hm⟩ := List.mem_filterMap.mp h
    unfold lentP at hm
    split at hm
    · rename_i d y e1 e2
      cases hm
      refine ⟨by rw [sg e1, e2], .p, d, by rw [env0_at]; exact e1, .inl rfl⟩
    · cases hm
theorem outsOf_get (e : En) : ∀ (n i : Nat), i < n → (outsOf e n)[i]? = some ((e.at i).getD (.f, .non))
  | n + 1, i, h => by
    unfold outsOf
    have hl : ∀ n, (outsOf e n).length = n := fun n => by
      induction n with
      | zero => rfl
      | succ n ih => unfold outsOf; rw [List.length_append, ih]; rfl
    by_cases hi : i < n
    · rw [List.getElem?_append_left (by rw [hl]; exact hi)]
      exact outsOf_get e n i hi
    · have : i = n := by omega
      subst this
      rw [List.getElem?_append_right (by rw [hl]; exact Nat.le_refl _), hl, Nat.sub_self]
      rfl
theorem MF.aft {np : Nat} {Pr : List (Nat × Addr)} {O : Addr → Prop} {Fz0 : Addr → Prop} {Z : Addr → HO → Prop} (m : MF G np Pr O H0 Fz0 Z Fz σ H env) : Aft G O Fz0 H0 Fz H := ⟨m.keep, m.sub, m.fz, m.mt.dom, m.mt.tabs⟩
/-- the callee -/
theorem body_ok {d : Df} {N : List Str} {vs : List V} {Q : VK} {E : XK} (hns : N.length = d.ns) (hnp : d.np ≤ d.ns) (h : spF G (fun us => runD cf cl lf d us) d.np vs H Q E) :
    rdSs G cf cl lf (fun cls x _ H => E cls x H) d.np d.body { nx := fun _ H' => Q .non H', rt := Q } (L2.start N vs) H := by
  obtain ⟨hl, Fz, ss, t, dm, a, q⟩ := h
  have hss : ss.length = d.np := by rw [a.len]; exact hl
  refine ⟨_, _, H, Fz, _, Fz, env0 d.ns d.np ss, entry_mf hns hnp hl a t dm, ?_⟩
  unfold runD at q
  simp only [hss, if_true] at q
  have q : match ((evSs cf cl lf d.body (env0 d.ns d.np ss)).bind fun r => match r.1 with
    | .nx => Out.ok (((Fl.f, D.non) : SV), outsOf r.2 d.np)
    | .rt s => .ok (s, outsOf r.2 d.np)
    | _ => .fail) with
    | .ok (s, outs) => ∀ v Fz' H', Aft G (OwA ss vs) Fz H Fz' H' → (∀ (i : Nat) (s0 : SV) (a : Addr), ss[i]? = some s0 → s0.1 = .p → vs[i]? = some (.ref a) → ∃ fl d', outs[i]? = some (fl, d') ∧ (fl = .p ∨ fl = .q) ∧ SlotR G Fz' H' (fl, d') (.ref a)) →
      (if s.1.own = true then ∃ a, v = .ref a ∧ ¬ Fz' a ∧ OwnC G Fz' H' a s.2 ∧ H a = none else Rep G Fz' H' s.2 v) → Q v H'
    | .exn x l _ => ∀ cls d Fz' H', ExcR G x l cls d H' → Aft G (OwA ss vs) Fz H Fz' H' → E cls d H'
    | .fail => False := q
  -- the lent ones at the end
  have outs : ∀ {σ' : L2.St} {Fz' : Addr → Prop} {H' : Hp} {e : En}, MF G d.np ((List.range d.np).filterMap (lentP ss vs)) (OwA ss vs) H Fz (fun _ _ => False) Fz' σ' H' e →
      ∀ (i : Nat) (s0 : SV) (a : Addr), ss[i]? = some s0 → s0.1 = .p → vs[i]? = some (.ref a) → ∃ fl d', (outsOf e d.np)[i]? = some (fl, d') ∧ (fl = .p ∨ fl = .q) ∧ SlotR G Fz' H' (fl, d') (.ref a) := fun {σ' Fz' H' e} m i s0 x h1 h2 h3 => by
    obtain ⟨fl0, d0⟩ := s0
    cases h2
    have hi : i < d.np := by rw [← hss]; exact (List.getElem?_eq_some_iff.mp h1).1
    obtain ⟨g1, fl, d', g2, g3⟩ := m.par i x (List.mem_filterMap.mpr ⟨i, List.mem_range.mpr hi, by unfold lentP; rw [h1, h3]⟩)
    obtain ⟨v, hv, r⟩ := m.mt.slot i _ g2
    rw [g1] at hv
    cases hv
    exact ⟨fl, d', by rw [outsOf_get e d.np i hi, g2]; rfl, g3, r⟩
  cases he : evSs cf cl lf d.body (env0 d.ns d.np ss) with
  | fail => rw [he] at q; exact q.elim
  | exn x l e =>
    rw [he] at q
    exact fun cls dd σ' Fz' H' er m => q cls dd Fz' H' er m.aft
  | ok r =>
    obtain ⟨w, e⟩ := r
    rw [he] at q
    cases w with
    | nx => exact fun σ' Fz' H' m => q .non Fz' H' m.aft (outs m) Rep.non
    | bk => exact q.elim
    | ct => exact q.elim
    | rt s =>
      refine fun σ' Fz' H' v m rr => q v Fz' H' m.aft (outs m) ?_
      unfold RetR at rr
      split at rr
      · rename_i ho
        rw [if_pos ho]
        obtain ⟨x, rfl, n, no, c, hn⟩ := rr
        exact ⟨x, rfl, n, c, hn⟩
      · rename_i ho
        rw [if_neg ho]
        exact rr
end
end MP
set_option maxRecDepth 100000
set_option maxHeartbeats 2000000
/-! MP25: calls, the caller. -/
namespace MP
open PySem PySem.Spec PyProof.Rows L2
section
variable {G : Gx} {cf : CF} {cl : Nat → LF → List SV → Out (SV × List SV)} {lf : Option LF} {W : WX} {X : Cx} {pos : Pos} {Fz Fz' Fz1 Fz2 : Addr → Prop} {H H' H1 H2 H0 : Hp} {σ : L2.St} {env env' env1 : En}
/-- what one argument is handed over as -/
def passV (env : En) : AV → Option SV
  | .val own d => some (if own then .o else .f, d)
  | .slot i => (env.at i).map fun s => (if s.1.own then .p else .f, s.2)
theorem passA_get : ∀ {as : List AV} {ss : List SV}, passA env as = some ss → ss.length = as.length ∧ ∀ (i : Nat) (a : AV), as[i]? = some a → ∃ s, ss[i]? = some s ∧ passV env a = some s
  | [], ss, h => by cases h; exact ⟨rfl, fun i a h => by simp at h⟩
  | a :: as, ss, h => by
    unfold passA at h
    cases h1 : passA env as with
    | none => rw [h1] at h; cases h
    | some ts =>
      rw [h1] at h
      obtain ⟨hl, hg⟩ := passA_get h1
      have key : ∃ s, ss = s :: ts ∧ passV env a = some s := by
        cases a with
        | val own d => cases h; exact ⟨_, rfl, rfl⟩
        | slot i =>
          simp only at h
          cases h2 : env.at i with
          | none => rw [h2] at h; cases h
          | some s =>
            obtain ⟨fl, d⟩ := s
            rw [h2] at h
            cases h
            exact ⟨_, rfl, by show (env.at i).map _ = _; rw [h2]; rfl⟩
      obtain ⟨s, rfl, hs⟩ := key
      refine ⟨by simp [hl], fun i b hb => ?_⟩
      cases i with
      | zero => simp at hb; subst hb; exact ⟨s, rfl, hs⟩
      | succ i => exact hg i b (by simpa using hb)
theorem mem_lent : ∀ {as : List AV} {i : Nat} {s : SV}, AV.slot i ∈ as → env.at i = some s → s.1.own = true → i ∈ lent env as
  | [], i, s, h, _, _ => by simp at h
  | a :: as, i, s, h, hs, ho => by
    rcases List.mem_cons.mp h with rfl | h
    · unfold lent
      rw [hs]
      simp only [ho, if_true]
      exact List.mem_cons_self ..
    · have := mem_lent h hs ho
      unfold lent
      cases a with
      | val own d => exact this
      | slot j =>
        simp only
        split
        · split
          · exact List.mem_cons_of_mem _ this
          · exact this
        · exact this
theorem lent_mem : ∀ {as : List AV} {i : Nat}, i ∈ lent env as → AV.slot i ∈ as ∧ ∃ s, env.at i = some s ∧ s.1.own = true
  | [], i, h => by unfold lent at h; simp at h
  | a :: as, i, h => by
    unfold lent at h
    cases a with
    | val own d =>
      obtain ⟨h1, h2⟩ := lent_mem (as := as) h
      exact ⟨List.mem_cons_of_mem _ h1, h2⟩
    | slot j =>
      simp only at h
      split at h
      · rename_i s fl d hs
        split at h
        · rename_i ho
          rcases List.mem_cons.mp h with rfl | h
          · exact ⟨List.mem_cons_self .., _, hs, ho⟩
          · obtain ⟨h1, h2⟩ := lent_mem (as := as) h
            exact ⟨List.mem_cons_of_mem _ h1, h2⟩
        · obtain ⟨h1, h2⟩ := lent_mem (as := as) h
          exact ⟨List.mem_cons_of_mem _ h1, h2⟩
      · obtain ⟨h1, h2⟩ := lent_mem (as := as) h
        exact ⟨List.mem_cons_of_mem _ h1, h2⟩
/-- two places of one lent slot are one -/
theorem lent_inj : ∀ {as : List AV} {i j k : Nat} {s : SV}, (lent env as).Nodup → as[j]? = some (.slot i) → as[k]? = some (.slot i) → env.at i = some s → s.1.own = true → j = k
  | [], _, _, _, _, _, h, _, _, _ => by simp at h
  | a :: as, i, j, k, s, nd, h1, h2, hs, ho => by
    have tail : (lent env as).Nodup := by
      unfold lent at nd
      cases a with
      | val own d => exact nd
      | slot l =>
        simp only at nd
        split at nd
        · split at nd
          · exact (List.nodup_cons.mp nd).2
          · exact nd
        · exact nd
    have no : ∀ (l : Nat), as[l]? = some (AV.slot i) → a ≠ AV.slot i := fun l hl e => by
      subst e
      unfold lent at nd
      rw [hs] at nd
      simp only [ho, if_true] at nd
      exact (List.nodup_cons.mp nd).1 (mem_lent (List.mem_of_getElem? hl) hs ho)
    cases j with
    | zero =>
      cases k with
      | zero => rfl
      | succ k =>
        simp at h1 h2
        exact absurd h1 (no k h2)
    | succ j =>
      cases k with
      | zero =>
        simp at h1 h2
        exact absurd h2 (no j h1)
      | succ k =>
        have := lent_inj tail (show as[j]? = some (.slot i) by simpa using h1) (show as[k]? = some (.slot i) by simpa using h2) hs ho
        omega
/-- the arguments of a call -/
theorem arg_of (m : Mt G Fz1 σ H1 env1) {as : List AV} {vs : List V} {ss : List SV} (av : Avs G σ H Fz1 H1 env1 as vs) (h : passA env1 as = some ss) (nd : (lent env1 as).Nodup) :
    ArgR G Fz1 H1 ss vs ∧ (∀ b, OwA ss vs b → Ow σ env1 b ∨ H b = none) := by
  obtain ⟨hl, hg⟩ := passA_get h
  have hv := av.length
  -- by place
  have pl : ∀ (i : Nat) (s : SV) (v : V), ss[i]? = some s → vs[i]? = some v → ∃ a, as[i]? = some a ∧ passV env1 a = some s ∧ AvR G σ Fz1 H1 env1 a v ∧ Fre H a v := fun i s v h1 h2 => by
    have hi : i < as.length := by rw [← hl]; exact (List.getElem?_eq_some_iff.mp h1).1
    have ha : as[i]? = some (as[i]'hi) := List.getElem?_eq_getElem hi
    obtain ⟨s', e1, e2⟩ := hg i _ ha
    rw [h1] at e1
    cases e1
    obtain ⟨v', e3, r, f⟩ := Avs.get av ha
    rw [h2] at e3
    cases e3
    exact ⟨_, ha, e2, r, f⟩
  -- an owned one
  have own : ∀ (i : Nat) (s : SV) (b : Addr), ss[i]? = some s → s.1.own = true → vs[i]? = some (.ref b) → (∃ j t, as[i]? = some (.slot j) ∧ env1.at j = some t ∧ t.1.own = true ∧ σ[j]? = some (some (.ref b))) ∨ ∃ d, as[i]? = some (.val true d) ∧ H b = none ∧ ¬ Ow σ env1 b := fun i s b h1 ho h2 => by
    obtain ⟨a, ha, hp, r, f⟩ := pl i s _ h1 h2
    cases a with
    | val own d =>
      cases own with
      | true =>
        obtain ⟨x, ex, n, no, c⟩ := r
        cases ex
        exact .inr ⟨d, ha, f, no⟩
      | false => cases hp; cases ho
    | slot j =>
      obtain ⟨k1, t, k2⟩ := r
      have hp : (env1.at j).map _ = some s := hp
      rw [k2] at hp
      cases hp
      refine .inl ⟨j, t, ha, k2, ?_, k1⟩
      cases hto : t.1.own with
      | true => rfl
      | false => simp only [hto] at ho; cases ho
  refine ⟨⟨by rw [hl, hv], fun i s v h1 h2 => ?_, fun i j x s t h1 h2 o1 o2 e1 e2 => ?_⟩, fun b ⟨i, s, h1, h2, h3⟩ => ?_⟩
  · obtain ⟨a, ha, hp, r, f⟩ := pl i s v h1 h2
    cases a with
    | val own d =>
      cases own with
      | true =>
        cases hp
        obtain ⟨x, rfl, n, no, c⟩ := r
        exact ⟨x, rfl, n, c⟩
      | false =>
        cases hp
        exact r
    | slot j =>
      obtain ⟨k1, t, k2⟩ := r
      have hp : (env1.at j).map _ = some s := hp
      rw [k2] at hp
      cases hp
      obtain ⟨u, hu, q⟩ := m.slot j t k2
      rw [k1] at hu
      cases hu
      unfold SlotR at q ⊢
      cases hto : t.1.own with
      | true =>
        simp only [hto, if_true] at q ⊢
        exact q
      | false =>
        simp only [hto] at q ⊢
        exact q
  · rcases own i s x h1 o1 e1 with ⟨k, u, k1, k2, k3, k4⟩ | ⟨d, k1, k2, k3⟩ <;> rcases own j t x h2 o2 e2 with ⟨l, w, l1, l2, l3, l4⟩ | ⟨d', l1, l2, l3⟩
    · have := m.dis k l x u w k2 l2 k3 l3 k4 l4
      subst this
      exact lent_inj nd k1 l1 k2 k3
    · exact absurd ⟨k, u, k2, k3, k4⟩ l3
    · exact absurd ⟨l, w, l2, l3, l4⟩ k3
    · -- two new ones
      have key : ∀ {as : List AV} {vs : List V} {i j : Nat}, Avs G σ H Fz1 H1 env1 as vs → as[i]? = some (.val true d) → as[j]? = some (.val true d') → vs[i]? = some (.ref x) → vs[j]? = some (.ref x) → i = j := by
        intro as
        induction as with
        | nil => intro vs i j _ h; simp at h
        | cons a as ih =>
          intro vs i j av h1 h2 h3 h4
          cases vs with
          | nil => simp at h3
          | cons v vs =>
            cases i with
            | zero =>
              cases j with
              | zero => rfl
              | succ j =>
                simp at h1 h2 h3 h4
                exact absurd h4 (av.2.2.1 d x h1 h3 j d' h2)
            | succ i =>
              cases j with
              | zero =>
                simp at h1 h2 h3 h4
                exact absurd h3 (av.2.2.1 d' x h2 h4 i d h1)
              | succ j =>
                have := ih av.2.2.2 (show as[i]? = _ by simpa using h1) (show as[j]? = _ by simpa using h2) (show vs[i]? = _ by simpa using h3) (show vs[j]? = _ by simpa using h4)
                omega
      exact key av k1 l1 e1 e2
  · rcases own i s b h1 h2 h3 with ⟨k, u, k1, k2, k3, k4⟩ | ⟨d, k1, k2, k3⟩
    · exact .inl ⟨k, u, k2, k3, k4⟩
    · exact .inr k2
/-- the lent ones come back -/
theorem backA_at : ∀ {as : List AV} {outs : List SV} {env : En}, (lent env as).Nodup → as.length ≤ outs.length → ∀ j, (∃ (k : Nat) (s : SV) (fl' : Fl) (d' : D), as[k]? = some (AV.slot j) ∧ env.at j = some s ∧ s.1.own = true ∧ outs[k]? = some (fl', d') ∧ (backA env as outs).at j = some (if fl' = Fl.p then s.1 else s.1.frz, d')) ∨ (j ∉ lent env as ∧ (backA env as outs).at j = env.at j)
  | [], outs, env, nd, hl, j => .inr ⟨by unfold lent; simp, rfl⟩
  | a :: as, [], env, nd, hl, j => by simp at hl
  | .val own d :: as, o :: outs, env, nd, hl, j => by
    have e1 : lent env (.val own d :: as) = lent env as := rfl
    have e2 : backA env (.val own d :: as) (o :: outs) = backA env as outs := rfl
    rw [e1] at nd
    rw [e1, e2]
    rcases backA_at (as := as) (outs := outs) nd (by simpa using hl) j with ⟨k, s, fl', d', h1, h2⟩ | h
    · exact .inl ⟨k + 1, s, fl', d', by simpa using h1, h2⟩
    · exact .inr h
  | .slot i :: as, (fl', d') :: outs, env, nd, hl, j => by
    cases hs : env.at i with
    | none =>
      have e1 : lent env (.slot i :: as) = lent env as := by rw [lent, hs]
      have e2 : backA env (.slot i :: as) ((fl', d') :: outs) = backA env as outs := by rw [backA, hs]
      rw [e1] at nd
      rw [e1, e2]
      rcases backA_at (as := as) (outs := outs) nd (by simpa using hl) j with ⟨k, s, fl', d', h1, h2⟩ | h
      · exact .inl ⟨k + 1, s, fl', d', by simpa using h1, h2⟩
      · exact .inr h
    | some s =>
      obtain ⟨fl, d⟩ := s
      cases ho : fl.own with
      | false =>
        have e1 : lent env (.slot i :: as) = lent env as := by rw [lent, hs]; simp only [ho]; rfl
        have e2 : backA env (.slot i :: as) ((fl', d') :: outs) = backA env as outs := by rw [backA, hs]; simp only [ho]; rfl
        rw [e1] at nd
        rw [e1, e2]
        rcases backA_at (as := as) (outs := outs) nd (by simpa using hl) j with ⟨k, s, fl', d', h1, h2⟩ | h
        · exact .inl ⟨k + 1, s, fl', d', by simpa using h1, h2⟩
        · exact .inr h
      | true =>
        have e1 : lent env (.slot i :: as) = i :: lent env as := by rw [lent, hs]; simp only [ho]; rfl
        have e2 : backA env (.slot i :: as) ((fl', d') :: outs) = backA (env.set i (some (if fl' = .p then fl else fl.frz, d'))) as outs := by rw [backA, hs]; simp only [ho]; rfl
        rw [e1] at nd
        obtain ⟨ni, nd⟩ := List.nodup_cons.mp nd
        have hi := En.at_lt hs
        -- i is in no further place
        have no : ∀ (k : Nat), as[k]? ≠ some (AV.slot i) := fun k hk => ni (mem_lent (List.mem_of_getElem? hk) hs ho)
        have le : lent (env.set i (some (if fl' = .p then fl else fl.frz, d'))) as = lent env as := by
          have gen : ∀ (bs : List AV), (∀ (k : Nat), bs[k]? ≠ some (AV.slot i)) → lent (env.set i (some (if fl' = .p then fl else fl.frz, d'))) bs = lent env bs := by
            intro bs
            induction bs with
            | nil => intro _; rfl
            | cons b bs ih =>
              intro hb
              have ih := ih fun k hk => hb (k + 1) (by simpa using hk)
              cases b with
              | val own d => exact ih
              | slot l =>
                have hl : l ≠ i := fun z => hb 0 (by rw [z]; rfl)
                unfold lent
                rw [En.at_set hi, if_neg hl, ih]
          exact gen as no
        rw [e1, e2]
        rcases backA_at (as := as) (outs := outs) (env := env.set i (some (if fl' = .p then fl else fl.frz, d'))) (by rw [le]; exact nd) (by simpa using hl) j with ⟨k, s, fl2, d2, h1, h2, h3⟩ | ⟨h1, h2⟩
        · have hj : j ≠ i := fun z => no k (by rw [← z]; exact h1)
          rw [En.at_set hi, if_neg hj] at h2
          exact .inl ⟨k + 1, s, fl2, d2, by simpa using h1, h2, h3⟩
        · by_cases hj : j = i
          · subst hj
            rw [En.at_set hi, if_pos rfl] at h2
            exact .inl ⟨0, (fl, d), fl', d', rfl, hs, ho, rfl, h2⟩
          · rw [En.at_set hi, if_neg hj] at h2
            refine .inr ⟨fun z => ?_, h2⟩
            rcases List.mem_cons.mp z with z | z
            · exact hj z
            · rw [le] at h1; exact h1 z
theorem backA_len : ∀ (as : List AV) (outs : List SV) (env : En), (backA env as outs).length = env.length
  | [], _, _ => by simp [backA]
  | .val _ _ :: _, [], _ => rfl
  | .slot _ :: _, [], _ => rfl
  | .val own d :: as, o :: outs, env => backA_len as outs env
  | .slot i :: as, (fl', d') :: outs, env => by
    unfold backA
    split
    · split
      · rw [backA_len, List.length_set]
      · exact backA_len as outs env
    · exact backA_len as outs env
/-- behind a call -/
theorem call_aft (m : Mt G Fz σ H env) (p1 : Po G σ Fz H env Fz1 H1 env1) {as : List AV} {vs : List V} {ss : List SV} (av : Avs G σ H Fz1 H1 env1 as vs) (hp : passA env1 as = some ss) (nd : (lent env1 as).Nodup) (a : Aft G (OwA ss vs) Fz1 H1 Fz2 H2) {outs : List SV} (ho : as.length ≤ outs.length)
    (hs : ∀ (i : Nat) (s0 : SV) (a : Addr), ss[i]? = some s0 → s0.1 = .p → vs[i]? = some (.ref a) → ∃ fl d', outs[i]? = some (fl, d') ∧ (fl = .p ∨ fl = .q) ∧ SlotR G Fz2 H2 (fl, d') (.ref a)) :
    Po G σ Fz H env Fz2 H2 (backA env1 as outs) := by
  obtain ⟨ar, own⟩ := arg_of p1.mt av hp nd
  obtain ⟨hl, hg⟩ := passA_get hp
  have m1 := p1.mt
  have okA : OwOk Fz1 H1 (OwA ss vs) := fun b ⟨i, s, h1, h2, h3⟩ => by
    have r := ar.slot i s _ h1 h3
    unfold SlotR at r
    rw [if_pos h2] at r
    obtain ⟨x, ex, n, c⟩ := r
    cases ex
    exact ⟨n, c.there⟩
  have notA : ∀ b o, H b = some o → ¬ Ow σ env b → ¬ OwA ss vs b := fun b o h n z => by
    rcases own b z with w | w
    · exact n (p1.ow b w)
    · rw [h] at w; cases w
  -- a lent slot and its object
  have lentA : ∀ {k j : Nat} {s : SV}, as[k]? = some (.slot j) → env1.at j = some s → s.1.own = true → ∃ x, σ[j]? = some (some (.ref x)) ∧ vs[k]? = some (.ref x) ∧ ss[k]? = some (.p, s.2) := fun {k j s} h1 h2 h3 => by
    obtain ⟨x, hx, _⟩ := m1.own (fl := s.1) (d := s.2) h2 h3
    obtain ⟨v, hv, r, _⟩ := Avs.get av h1
    obtain ⟨k1, _⟩ := r
    rw [hx] at k1
    cases k1
    obtain ⟨t, ht, hq⟩ := hg k _ h1
    have hq : (env1.at j).map _ = some t := hq
    rw [h2] at hq
    cases hq
    refine ⟨x, hx, hv, ?_⟩
    rw [ht]
    simp only [h3, if_true]
  refine ⟨⟨fun b o h n t => a.keep.k _ _ (p1.keep.k _ _ h n t) (notA b o h n) t, fun b ps h n => ?_, fun b o h => ?_⟩, fun b z => a.sub b (p1.sub b z), fun b z => ?_, ⟨by rw [backA_len]; exact m1.len, fun j s h => ?_, fun i j x s t h1 h2 o1 o2 e1 e2 => ?_, a.dom, a.tabs⟩, fun j => ?_⟩
  · obtain ⟨qs, e⟩ := p1.keep.t _ _ h n
    exact a.keep.t _ _ e (notA b _ h n)
  · obtain ⟨o1, e⟩ := p1.keep.dm _ _ h
    exact a.keep.dm _ _ e
  · rcases a.new b z with w | w | w
    · exact p1.new b w
    · exact .inr (.inl (p1.keep.none w))
    · rcases own b w with q | q
      · exact .inr (.inr (p1.ow b q))
      · exact .inr (.inl q)
  · rcases backA_at nd ho j with ⟨k, s0, fl', d', h1, h2, h3, h4, h5⟩ | ⟨h1, h2⟩
    · rw [h5] at h
      cases h
      obtain ⟨x, hx, hv, hss⟩ := lentA h1 h2 h3
      obtain ⟨fl, d2, g1, g2, g3⟩ := hs k _ x hss rfl hv
      rw [h4] at g1
      cases g1
      refine ⟨_, hx, ?_⟩
      unfold SlotR at g3 ⊢
      rcases g2 with rfl | rfl
      · rw [if_pos (show (Fl.p, d').1.own = true from rfl)] at g3
        simp only [if_true, h3]
        exact g3
      · rw [if_neg (show ¬ (Fl.q, d').1.own = true from Bool.false_ne_true)] at g3
        have : ¬ (Fl.q = Fl.p) := by decide
        simp only [if_neg this, Fl.frz_own, Bool.false_eq_true, if_false]
        exact g3
    · rw [h2] at h
      obtain ⟨v, hv, r⟩ := m1.slot j s h
      refine ⟨v, hv, ?_⟩
      unfold SlotR at r ⊢
      split at r
      · rename_i os
        rw [if_pos os]
        obtain ⟨x, rfl, n, c⟩ := r
        have na : ¬ OwA ss vs x := fun ⟨i, t, g1, g2, g3⟩ => by
          have hi : i < as.length := by rw [← hl]; exact (List.getElem?_eq_some_iff.mp g1).1
          have ha : as[i]? = some (as[i]'hi) := List.getElem?_eq_getElem hi
          obtain ⟨v', e3, r', f'⟩ := Avs.get av ha
          rw [g3] at e3
          cases e3
          obtain ⟨t', e1, e2⟩ := hg i _ ha
          rw [g1] at e1
          cases e1
          cases hav : as[i]'hi with
          | val ow d =>
            rw [hav] at r' e2 f'
            cases ow with
            | true =>
              obtain ⟨y, ey, _, no, _⟩ := r'
              cases ey
              exact no ⟨j, s, h, os, hv⟩
            | false => cases e2; cases g2
          | slot l =>
            rw [hav] at r' e2
            obtain ⟨k1, u, k2⟩ := r'
            have e2 : (env1.at l).map _ = some t := e2
            rw [k2] at e2
            cases e2
            cases huo : u.1.own with
            | false => simp only [huo] at g2; cases g2
            | true =>
              have := m1.dis j l x s u h k2 os huo hv k1
              subst this
              exact h1 (mem_lent (by rw [← hav]; exact List.getElem_mem hi) k2 huo)
        obtain ⟨o, hx, _⟩ := c.there
        refine ⟨x, rfl, fun z => ?_, c.keep a.keep okA a.sub na⟩
        rcases a.new x z with w | w | w
        · exact n w
        · rw [hx] at w; cases w
        · exact na w
      · rename_i os
        rw [if_neg os]
        exact Rep.keep a.keep okA a.sub _ _ r
  · have back : ∀ {j : Nat} {s : SV}, (backA env1 as outs).at j = some s → s.1.own = true → ∃ s', env1.at j = some s' ∧ s'.1.own = true := fun {j s} h o => by
      rcases backA_at nd ho j with ⟨k, s0, fl', d', g1, g2, g3, g4, g5⟩ | ⟨g1, g2⟩
      · exact ⟨s0, g2, g3⟩
      · rw [g2] at h; exact ⟨s, h, o⟩
    obtain ⟨s', k1, k2⟩ := back h1 o1
    obtain ⟨t', l1, l2⟩ := back h2 o2
    exact m1.dis i j x s' t' k1 l1 k2 l2 e1 e2
  · refine (p1.fl j).trans ?_
    rcases backA_at nd ho j with ⟨k, s0, fl', d', g1, g2, g3, g4, g5⟩ | ⟨g1, g2⟩
    · rw [g2, g5]
      split
      · exact .inl rfl
      · exact .inr rfl
    · rw [g2]
      exact FlO.refl _
/-- the caller -/
theorem call_core {g : List SV → Out (SV × List SV)} {np : Nat} {as : List AV} {vs : List V} {Q : VK} (m : Mt G Fz σ H env) (p1 : Po G σ Fz H env Fz1 H1 env1) (av : Avs G σ H Fz1 H1 env1 as vs) (hv : vs.length = np) (hout : ∀ ss s outs, g ss = .ok (s, outs) → outs.length = np)
    (q : OP G W σ Fz H env (kCall g as env1) fun av env' => ∀ v Fz' H', Po G σ Fz H env Fz' H' env' → AvR G σ Fz' H' env' av v → Fre H av v → Q v H') : spF G g np vs H1 Q (WE W σ) := by
  unfold kCall at q
  cases hp : passA env1 as with
  | none => rw [hp] at q; exact q.elim
  | some ss =>
    rw [hp] at q
    simp only at q
    split at q
    · rename_i nd
      obtain ⟨ar, own⟩ := arg_of p1.mt av hp nd
      refine ⟨hv, Fz1, ss, p1.mt.tabs, p1.mt.dom, ar, ?_⟩
      have hlen := av.length
      cases hg : g ss with
      | fail => rw [hg] at q; exact q.elim
      | ok r =>
        obtain ⟨s, outs⟩ := r
        rw [hg] at q
        intro v Fz2 H2 a hs hr
        have ho := hout _ _ _ hg
        have po := call_aft m p1 av hp nd a (by rw [ho, ← hv, hlen]; exact Nat.le_refl _) hs
        refine OP.ret q v Fz2 H2 po ?_ ?_
        · cases hso : s.1.own with
          | true =>
            rw [if_pos hso] at hr
            obtain ⟨x, rfl, n, c, hn⟩ := hr
            refine ⟨x, rfl, n, fun z => ?_, c⟩
            have z1 := p1.ow x (show Ow σ env1 x from ?_)
            · obtain ⟨_, o, e, _⟩ := m.owOk x z1
              obtain ⟨o1, e1⟩ := p1.keep.dm _ _ e
              rw [hn] at e1; cases e1
            · obtain ⟨j, t, z1, z2, z3⟩ := z
              rcases backA_at nd (by rw [ho, ← hv, hlen]; exact Nat.le_refl _) j with ⟨k, s0, fl', d', g1, g2, g3, g4, g5⟩ | ⟨g1, g2⟩
              · exact ⟨j, s0, g2, g3, z3⟩
              · rw [g2] at z1
                exact ⟨j, t, z1, z2, z3⟩
          | false =>
            rw [if_neg (by rw [hso]; exact Bool.false_ne_true)] at hr
            exact hr
        · cases hso : s.1.own with
          | true =>
            rw [if_pos hso] at hr
            obtain ⟨x, rfl, n, c, hn⟩ := hr
            exact p1.keep.none hn
          | false => trivial
      | exn x l e =>
        rw [hg] at q
        simp only at q
        split at q
        · rename_i he
          intro cls d Fz2 H2 er a
          have le : lent env1 as = [] := List.isEmpty_iff.mp he
          -- no slot comes back
          have hb : ∀ j, (backA env1 as (List.replicate np (.f, .non))).at j = env1.at j := fun j => by
            rcases backA_at nd (outs := List.replicate np (.f, .non)) (by rw [List.length_replicate, ← hv, hlen]; exact Nat.le_refl _) j with ⟨k, s0, fl', d', g1, g2, g3, g4, g5⟩ | ⟨g1, g2⟩
            · have := mem_lent (List.mem_of_getElem? g1) g2 g3
              rw [le] at this
              simp at this
            · exact g2
          have po := call_aft m p1 av hp nd a (outs := List.replicate np (.f, .non)) (by rw [List.length_replicate, ← hv, hlen]; exact Nat.le_refl _) (fun i s0 x h1 h2 h3 => by
            obtain ⟨hl, hgt⟩ := passA_get hp
            have hi : i < as.length := by rw [← hl]; exact (List.getElem?_eq_some_iff.mp h1).1
            have ha : as[i]? = some (as[i]'hi) := List.getElem?_eq_getElem hi
            obtain ⟨t', e1, e2⟩ := hgt i _ ha
            rw [h1] at e1
            cases e1
            exfalso
            cases hav : as[i]'hi with
            | val ow d =>
              rw [hav] at e2
              cases e2
              cases ow <;> cases h2
            | slot l =>
              rw [hav] at e2
              cases hl2 : env1.at l with
              | none =>
                have e2 : (env1.at l).map _ = some s0 := e2
                rw [hl2] at e2; cases e2
              | some u =>
                have e2 : (env1.at l).map _ = some s0 := e2
                rw [hl2] at e2
                cases e2
                cases huo : u.1.own with
                | false => simp only [huo] at h2; cases h2
                | true =>
                  have := mem_lent (as := as) (by rw [← hav]; exact List.getElem_mem hi) hl2 huo
                  rw [le] at this
                  simp at this)
          have ee : backA env1 as (List.replicate np (.f, .non)) = env1 := by
            have gen : ∀ (as : List AV) (outs : List SV) (env : En), lent env as = [] → backA env as outs = env := by
              intro as
              induction as with
              | nil => intro outs env _; simp [backA]
              | cons a as ih =>
                intro outs env h
                cases outs with
                | nil => cases a <;> rfl
                | cons o outs =>
                  obtain ⟨fl', d'⟩ := o
                  cases a with
                  | val ow d => exact ih outs env h
                  | slot l =>
                    unfold lent at h
                    unfold backA
                    cases hl2 : env.at l with
                    | none => rw [hl2] at h; exact ih outs env h
                    | some u =>
                      obtain ⟨fl, d⟩ := u
                      rw [hl2] at h
                      simp only at h ⊢
                      split at h
                      · cases h
                      · rename_i ho
                        rw [if_neg ho]
                        exact ih outs env h
            exact gen as _ env1 le
          rw [ee] at po
          exact q cls d Fz2 H2 er po
        · exact q.elim
    · exact q.elim
theorem me_call {e : Expr} {es : Exs} {f np : Nat} (hn : es.len = np) (hout : ∀ ss s outs, cf f ss = .ok (s, outs) → outs.length = np) (h : PE X e (tCallS (spF G (cf f) np) (WE W) (rdAs G cf cl lf W es))) : PE X e (rd G cf cl lf W (.call f es)) := h.imp fun σ H Q ⟨Fz, env, m, q⟩ => by
  unfold evA at q
  exact ⟨Fz, env, m, q.bind.len.imp fun avs env1 ⟨hl, q1⟩ vs Fz1 H1 p1 av => call_core m p1 av (by rw [av.length, hl]; exact hn) hout q1⟩
end
end MP
set_option maxRecDepth 100000
set_option maxHeartbeats 2000000
/-! MP26: the words of the printed walks. -/
namespace MP
open PySem PySem.Spec PyProof.Rows L2
/-- a context -/
structure Cc (G : Gx) (X : Cx) (W : WX) (k : Nat) : Prop where
  hP : X.prog = G.P
  hw : X.w = G.w
  hK : X.K = G.K
  calm : X.calm = true
  nd : X.N.Nodup
  room : Room k X.A
  tk : L2.Takes X W
structure Cs (G : Gx) (X : Cx) (W : WX) (k : Nat) : Prop extends Cc G X W k where
  pass : PassesOwn (model X.prog X.w) X.A X.env X.xe
/-- a def that may be called -/
def Cal (G : Gx) (mg : Str → Option Value) (base : Heap) (k : Nat) (cf : CF) (x : Str) (id np : Nat) : Prop := ∃ f fd ps, FnOk G.P G.w G.K mg base (L2.CX G.P G.w) k f fd ps (spF G (cf id) np) ∧ mg x = some (.ref f) ∧ PySem.W.keepIn G.K (.ref f) = true ∧ Binds G.K fd ps [] ∧ ps.length = np ∧ ∀ ss s outs, cf id ss = .ok (s, outs) → outs.length = np
/-- a constant of a module -/
def Con (G : Gx) (mg : Str → Option Value) (x : Str) (d : D) : Prop := ∃ v u, mg x = some u ∧ RelV v u ∧ ∀ Fz H, Rep G Fz H d v
/-- an exception of the program's own -/
def Exn (G : Gx) (mg : Str → Option Value) (x : Str) : Prop := ∃ (C : Addr) (bmB : List Value) (B newId initId : String), ExcBaseFacts B newId initId bmB ∧ PySem.W.excIn G.K C bmB newId = true ∧ mg x = some (.ref C) ∧ PySem.W.keepIn G.K (.ref C) = true ∧ PySem.W.subIn G.K (.ref C) (.type "BaseException") = some true ∧ PySem.W.typeIn G.K (.ref C) = some (.type "type") ∧ G.xa x = some C
section
variable {G : Gx} {cf : CF} {cl : Nat → LF → List SV → Out (SV × List SV)} {lf : Option LF} {W : WX} {X : Cx} {pos : Pos} {k np : Nat} {a b cc e : Expr} {A B C : Ex}
theorem Cc.un (c : Cc G X W k) : X.A.units + 65 < cLine := by have := c.room.un; omega
theorem Cc.un64 (c : Cc G X W k) : X.A.units + 64 < cLine := by have := c.room.un; omega
theorem Cc.blk (c : Cc G X W k) (s : Shared) (H : Hp) (scope : Scope) (C : Addr) (cl : List (Str × Addr)) (fp : List Addr) : Cc G (X.blk s H scope (compEnvC scope cl C X.env) fp) WF k :=
  ⟨c.hP, c.hw, c.hK, c.calm, c.nd, c.room, fun u s' ⟨_, _, _, _, _, _, _, _, _, _, _, _, _, _, _, _, w⟩ => w.elim⟩
/-! #### leaves -/
theorem x_var (i : Nat) {x : Str} (h : PE X (.Name x pos) (tVar i)) : PE X (.Name x pos) (rd G cf cl lf W (.var i)) := me_var h
theorem x_int {i : Int} {j} : PE X (.Constant (.int i) j pos) (rd G cf cl lf W (.cst (.int i))) := me_cst pe_int fun _ _ => .int i
theorem x_bl {i : Bool} {j} : PE X (.Constant (.bool i) j pos) (rd G cf cl lf W (.cst (.bl i))) := me_cst pe_bl fun _ _ => .bl i
theorem x_str {x : Str} {j} (h : sOk x = true := by decide +kernel) : PE X (.Constant (.str x) j pos) (rd G cf cl lf W (.cst (.str x))) := me_cst pe_str fun _ _ => .str x h
theorem x_non {j} : PE X (.Constant .none j pos) (rd G cf cl lf W (.cst .non)) := me_cst pe_non fun _ _ => .non
theorem x_con {x : Str} {d : D} (h : Con G X.mg x d) (hg : Gl X x := by rfl) (hd : (x == ("__debug__" : Str)) = false := by decide) : PE X (.Name x pos) (rd G cf cl lf W (.cst d)) := by
  obtain ⟨v, u, h1, h2, h3⟩ := h
  exact me_cst (pe_glob hg h1 h2 hd) h3
/-! #### operators -/
theorem x_add (c : Cc G X W k) (ha : PE X a (rd G cf cl lf W A)) (hb : PE X b (rd G cf cl lf W B)) : PE X (.BinOp a .Add b pos) (rd G cf cl lf W (.op .add A B)) := me_op (pe_op (or_add c.hK) ha hb)
theorem x_sub (ha : PE X a (rd G cf cl lf W A)) (hb : PE X b (rd G cf cl lf W B)) : PE X (.BinOp a .Sub b pos) (rd G cf cl lf W (.op .sub A B)) := me_op (pe_op or_sub ha hb)
theorem x_mul (c : Cc G X W k) (ha : PE X a (rd G cf cl lf W A)) (hb : PE X b (rd G cf cl lf W B)) : PE X (.BinOp a .Mult b pos) (rd G cf cl lf W (.op .mul A B)) := me_op (pe_op (or_mul c.hK) ha hb)
theorem x_fdiv (ha : PE X a (rd G cf cl lf W A)) (hb : PE X b (rd G cf cl lf W B)) : PE X (.BinOp a .FloorDiv b pos) (rd G cf cl lf W (.op .fdiv A B)) := me_op (pe_op or_fdiv ha hb)
theorem x_mod (ha : PE X a (rd G cf cl lf W A)) (hb : PE X b (rd G cf cl lf W B)) : PE X (.BinOp a .Mod b pos) (rd G cf cl lf W (.op .mod A B)) := me_op (pe_op or_mod ha hb)
theorem x_pow (ha : PE X a (rd G cf cl lf W A)) (hb : PE X b (rd G cf cl lf W B)) : PE X (.BinOp a .Pow b pos) (rd G cf cl lf W (.op .pow A B)) := me_op (pe_op or_pow ha hb)
/-- an operator of a comparison -/
structure Cop (G : Gx) (X : Cx) (p : CmpOp) (o : Op2) : Prop where
  r : OpR X (compareOp p) (rOp G o)
theorem c_eq (c : Cc G X W k) : Cop G X .Eq .eq := ⟨or_eq c.hK c.un64⟩
theorem c_ne (c : Cc G X W k) : Cop G X .NotEq .ne := ⟨or_ne c.hK c.un64⟩
theorem c_lt : Cop G X .Lt .lt := ⟨or_lt⟩
theorem c_le : Cop G X .LtE .le := ⟨or_le⟩
theorem c_gt : Cop G X .Gt .gt := ⟨or_gt⟩
theorem c_ge : Cop G X .GtE .ge := ⟨or_ge⟩
theorem c_isn : Cop G X .Is .isn := ⟨or_isn⟩
theorem c_notn : Cop G X .IsNot .notn := ⟨or_notn⟩
theorem c_isb : Cop G X .Is .isb := ⟨or_isb⟩
theorem c_notb : Cop G X .IsNot .notb := ⟨or_notb⟩
theorem c_inn (c : Cc G X W k) : Cop G X .In .inn := ⟨or_in c.hP c.hw c.hK c.un⟩
theorem c_nin (c : Cc G X W k) : Cop G X .NotIn .nin := ⟨or_nin c.hP c.hw c.hK c.un⟩
theorem x_cmp {p : CmpOp} {o : Op2} (h : Cop G X p o) (ha : PE X a (rd G cf cl lf W A)) (hb : PE X b (rd G cf cl lf W B)) (hm : behindInMarks p b = false := by with_unfolding_all rfl) : PE X (.Compare a [p] [b] pos) (rd G cf cl lf W (.op o A B)) := me_op (pe_cmpR h.r ha hb hm)
theorem t_cmp {p : CmpOp} {o : Op2} (h : Cop G X p o) (ha : PE X a (rd G cf cl lf W A)) (hb : PE X b (rd G cf cl lf W B)) (hm : behindInMarks p b = false := by with_unfolding_all rfl) : PT X (.Compare a [p] [b] pos) (rdT G cf cl lf W (.op o A B)) := mt_op (pt_cmpR h.r ha hb hm)
theorem x_chain {p q : CmpOp} {o o' : Op2} (h : Cop G X p o) (h' : Cop G X q o') (ha : PE X a (rd G cf cl lf W A)) (hb : PE X b (rd G cf cl lf W B)) (hc : PE X cc (rd G cf cl lf W C)) (hm : lastMarks [p, q] [b, cc] = false := by with_unfolding_all rfl) : PE X (.Compare a [p, q] [b, cc] pos) (rd G cf cl lf W (.chain o o' A B C)) := me_chain (pe_chain h.r h'.r ha hb hc hm)
theorem t_chain {p q : CmpOp} {o o' : Op2} (h : Cop G X p o) (h' : Cop G X q o') (ha : PE X a (rd G cf cl lf W A)) (hb : PE X b (rd G cf cl lf W B)) (hc : PE X cc (rd G cf cl lf W C)) (hm : lastMarks [p, q] [b, cc] = false := by with_unfolding_all rfl) : PT X (.Compare a [p, q] [b, cc] pos) (rdT G cf cl lf W (.chain o o' A B C)) := mt_chain (pt_chain h.r h'.r ha hb hc hm)
theorem t_val (h : PE X e (rd G cf cl lf W A)) (he : ∀ whole, isTrue e X.env whole = (do let v ← whole; standAt e.pos; holding [v] (truthy v)) := by intro _; rfl) : PT X e (rdT G cf cl lf W A) := mt_val h he
/-! #### parts -/
theorem a_nil : PA X [] (rdAs G cf cl lf W .nil) := ma_nil
theorem a_cons {es : List Expr} {S : Exs} (he : PE X e (rd G cf cl lf W A)) (hr : PA X es (rdAs G cf cl lf W S)) (hs : starEach (e :: es) X.env = (false, eval e X.env) :: starEach es X.env := by rfl) : PA X (e :: es) (rdAs G cf cl lf W (.cons A S)) := ma_cons he hr hs
theorem x_tup {es : List Expr} {S : Exs} {x1} (h : PA X es (rdAs G cf cl lf W S)) (hl : S.len ≤ 1000 := by decide) : PE X (.Tuple es x1 pos) (rd G cf cl lf W (.tup S)) := me_tup h hl
theorem x_lst {es : List Expr} {S : Exs} (h : PA X es (rdAs G cf cl lf W S)) (hl : S.len ≤ 1000 := by decide) : PE X (.List es pos) (rd G cf cl lf W (.lst S)) := me_lst h hl
theorem x_ix (c : Cc G X W k) (ha : PE X a (rd G cf cl lf W A)) (hb : PE X b (rd G cf cl lf W B)) (hs : PlainIx b := by intro _ _; rfl) : PE X (.Subscript a b pos) (rd G cf cl lf W (.op .idx A B)) := me_op (pe_ix (ix_all c.hP c.hw c.hK c.un) ha hb hs)
theorem x_slc (c : Cc G X W k) {lo hi : Option Expr} {L U : Exs} {p2 : Pos} (ha : PE X a (rd G cf cl lf W A)) (hl : PO X lo (rdP G cf cl lf W L)) (hh : PO X hi (rdP G cf cl lf W U)) : PE X (.Subscript a (.Slice lo hi none p2) pos) (rd G cf cl lf W (.slc A L U)) := me_slc (sl_all c.hK) ha hl hh
/-! #### built-in functions -/
theorem x_b {id : String} {bb : Bi} {es : List Expr} {S : Exs} {x : Str} {p : Pos} (hc : CallR X (.builtin id) (rBi G bb)) (hv : bootBuiltins x = some (.builtin id)) (hm : X.mg x = none) (ha : PA X (e :: es) (rdAs G cf cl lf W S)) (hg : Gl X x := by rfl) (hn : x ≠ "__name__" := by decide) (hdb : (x == ("__debug__" : Str)) = false := by decide)
    (he : starEach (e :: es) X.env = (false, eval e X.env) :: starEach es X.env := by rfl) (hpl : (backTo pos (starEach es X.env)).any (·.1) = false := by rfl) : PE X (.Call (.Name x p) (e :: es) [] pos) (rd G cf cl lf W (.bi bb S)) := me_bi (pe_callB hc hg hm hv ha hn hdb he hpl)
theorem x_t {T : String} {bb : Bi} {es : List Expr} {S : Exs} {x : Str} {p : Pos} (hc : CallR X (.type T) (rBi G bb)) (hv : bootBuiltins x = some (.type T)) (hm : X.mg x = none) (ha : PA X (e :: es) (rdAs G cf cl lf W S)) (hg : Gl X x := by rfl) (hn : x ≠ "__name__" := by decide) (hdb : (x == ("__debug__" : Str)) = false := by decide)
    (he : starEach (e :: es) X.env = (false, eval e X.env) :: starEach es X.env := by rfl) (hpl : (backTo pos (starEach es X.env)).any (·.1) = false := by rfl) : PE X (.Call (.Name x p) (e :: es) [] pos) (rd G cf cl lf W (.bi bb S)) := me_bi (pe_callTy hc hg hm hv ha hn hdb he hpl)
theorem x_neg (ha : PE X a (rd G cf cl lf W A)) : PE X (.UnaryOp .USub a pos) (rd G cf cl lf W (.bi .neg (.cons A .nil))) := (pe_un cr_neg ha).imp fun σ H Q ⟨Fz, env, m, q⟩ => by
  unfold evA at q
  simp only [evAs] at q
  refine ⟨Fz, env, m, ?_⟩
  cases h1 : evA cf cl lf A env with
  | exn x l e => rw [h1] at q; exact q
  | fail => rw [h1] at q; exact q.elim
  | ok z =>
    obtain ⟨av, env1⟩ := z
    rw [h1] at q
    have q : OP G W σ Fz H env (kBi .neg [av] env1) _ := q
    intro v Fz1 H1 p1 r1 f1
    unfold kBi at q
    simp only [MP.rds] at q
    cases h2 : av.rd env1 with
    | none => rw [h2] at q; exact q.elim
    | some d =>
      rw [h2] at q
      simp only at q
      cases h3 : bi .neg [d] with
      | none => rw [h3] at q; exact q.elim
      | some w =>
        obtain ⟨own, r⟩ := w
        rw [h3] at q
        refine ⟨Fz1, [d], own, r, p1.mt.dom, .cons (r1.rd p1.mt h2) .nil, h3, fun z H2 rp => ?_⟩
        obtain ⟨p2, r2, f2⟩ := rp.po p1.mt
        exact OP.ret q z Fz1 H2 (p1.trans m p2) r2 (f2.of p1.keep)
/-! #### calls -/
theorem x_call (c : Cc G X W k) {x : Str} {id n : Nat} {es : List Expr} {S : Exs} {p : Pos} (F : Cal G X.mg X.base k cf x id n) (ha : PA X (e :: es) (rdAs G cf cl lf W S)) (hn : S.len = n := by rfl) (hg : Gl X x := by rfl) (hdb : (x == ("__debug__" : Str)) = false := by decide) (he : starEach (e :: es) X.env = (false, eval e X.env) :: starEach es X.env := by rfl) (hpl : (backTo pos (starEach es X.env)).any (·.1) = false := by rfl) :
    PE X (.Call (.Name x p) (e :: es) [] pos) (rd G cf cl lf W (.call id S)) := by
  obtain ⟨f, fd, ps, F, hm, hk, hb, hl, ho⟩ := F
  have F' : FnOk X.prog X.w X.K X.mg X.base (L2.CX X.prog X.w) k f fd ps (spF G (cf id) n) := by rw [c.hP, c.hw, c.hK]; exact F
  exact me_call hn ho (pe_callS F' c.room hg hm (by rw [c.hK]; exact hk) (by rw [c.hK]; exact hb) (fun σ => passAt c.tk σ) ha hdb he hpl)
/-! #### statements -/
theorem s_raise (c : Cs G X W k) {x m : Str} {j : Nat} {p p2 p3 : Pos} (h : Exn G X.mg x) (hg : Gl X x := by rfl) (hdb : (x == ("__debug__" : Str)) = false := by decide) : PS X (.Raise (some (.Call (.Name x p) [.Constant (.str m) j p2] [] p3)) none pos) (rdS G cf cl lf W np (.raise x)) := by
  obtain ⟨C, bmB, B, newId, initId, F, q, gC, kC, s1, s2, hx⟩ := h
  refine (ps_raise c.calm c.tk (pmk_own F (by rw [c.hK]; exact q) gC (by rw [c.hK]; exact kC) (raises_own (by rw [c.hK]; exact s1) (by rw [c.hK]; exact s2)) hg hdb)).imp fun D σ H ⟨Pr, Pm, H0, Fz0, Z, Fz, env, m, q⟩ => ?_
  unfold evS at q
  exact q _ _ σ Fz H ⟨C, hx, rfl, rfl⟩ m
end
end MP
set_option maxRecDepth 100000
set_option maxHeartbeats 2000000
/-! MP27: further words. -/
namespace MP
open PySem PySem.Spec PyProof.Rows L2
section
variable {G : Gx} {cf : CF} {cl : Nat → LF → List SV → Out (SV × List SV)} {lf : Option LF} {W : WX} {X : Cx} {pos : Pos} {k np : Nat} {a b cc e : Expr} {A B C : Ex}
/-! #### tests -/
theorem t_not (h : PT X a (rdT G cf cl lf W A)) : PT X (.UnaryOp .Not a pos) (rdT G cf cl lf W (.not A)) := mt_not h
theorem w_and1 (h : PT X e (rdT G cf cl lf W A)) : PW X (.BoolOp .And [e] pos) (rdT G cf cl lf W A) := mw_and1 h
theorem w_or1 (h : PT X e (rdT G cf cl lf W A)) : PW X (.BoolOp .Or [e] pos) (rdT G cf cl lf W A) := mw_or1 h
theorem w_and {r : List Expr} (ha : PT X a (rdT G cf cl lf W A)) (hb : PW X (.BoolOp .And (b :: r) pos) (rdT G cf cl lf W B)) : PW X (.BoolOp .And (a :: b :: r) pos) (rdT G cf cl lf W (.and A B)) := mw_and ha hb
theorem w_or {r : List Expr} (ha : PT X a (rdT G cf cl lf W A)) (hb : PW X (.BoolOp .Or (b :: r) pos) (rdT G cf cl lf W B)) : PW X (.BoolOp .Or (a :: b :: r) pos) (rdT G cf cl lf W (.or A B)) := mw_or ha hb
theorem t_bool (h : PW X e (rdT G cf cl lf W A)) : PT X e (rdT G cf cl lf W A) := h.pt
theorem x_ite (hc : PT X cc (rdT G cf cl lf W C)) (ha : PE X a (rd G cf cl lf W A)) (hb : PE X b (rd G cf cl lf W B)) : PE X (.IfExp cc a b pos) (rd G cf cl lf W (.ite C A B)) := me_ite hc ha hb
/-! #### isinstance -/
theorem x_isi (c : Cc G X W k) {bb : Bi} {T : String} {p p2 : Pos} {x : Str} (hT : isT bb = some T) (hv : bootBuiltins x = some (.type T)) (hm : X.mg "isinstance" = none) (hm2 : X.mg x = none) (he : PE X e (rd G cf cl lf W A)) (hg : Gl X "isinstance" := by rfl) (hg2 : Gl X x := by rfl) (hn : x ≠ "__name__" := by decide) (hdb : (x == ("__debug__" : Str)) = false := by decide)
    (hs : starEach [e, .Name x p2] X.env = (false, eval e X.env) :: starEach [.Name x p2] X.env := by rfl) : PE X (.Call (.Name "isinstance" p) [e, .Name x p2] [] pos) (rd G cf cl lf W (.bi bb (.cons A .nil))) :=
  me_isi c.hK hT hg hm he (pe_bltn hg2 hm2 hv rfl hn hdb) hs rfl
/-! #### dicts -/
theorem x_dct0 (c : Cc G X W k) : PE X (.Dict [] [] pos) (rd G cf cl lf W (.dct .nil .nil)) := me_dct0 c.hP c.hw
theorem x_dct1 (c : Cc G X W k) (ha : PE X a (rd G cf cl lf W A)) (hb : PE X b (rd G cf cl lf W B)) : PE X (.Dict [some a] [b] pos) (rd G cf cl lf W (.dct (.cons A .nil) (.cons B .nil))) := me_dct1 c.hP c.hw c.hK c.un ha hb rfl
theorem x_get2 (c : Cc G X W k) {apos : Pos} (ha : PE X a (rd G cf cl lf W A)) (hb : PE X b (rd G cf cl lf W B)) (hc : PE X cc (rd G cf cl lf W C)) (hbase : attributeBase a "get" X.env (eval a X.env) = eval a X.env := by rfl) (hline : (apos.endLine == pos.line) = true := by rfl)
    (h1 : starEach [b, cc] X.env = (false, eval b X.env) :: starEach [cc] X.env := by rfl) (h2 : starEach [cc] X.env = (false, eval cc X.env) :: starEach [] X.env := by rfl) : PE X (.Call (.Attribute a "get" apos) [b, cc] [] pos) (rd G cf cl lf W (.get2 A B C)) :=
  me_get2' (pe_mg PySem.F.plainAttrs_dict PySem.F.slot_dict_get PySem.F.type_dict_get (mt_get2 c.hP c.hw c.hK c.un) ha (pa_cons hb (pa_cons hc pa_nil h2) h1) hbase (by rw [h1, h2]; rfl) hline h1 (by rw [h2]; rfl))
theorem x_pop {i : Nat} {apos : Pos} (ha : PE X a (tVar i)) (hbase : attributeBase a "pop" X.env (eval a X.env) = eval a X.env := by rfl) (hline : (apos.endLine == pos.line) = true := by rfl) : PE X (.Call (.Attribute a "pop" apos) [] [] pos) (rd G cf cl lf W (.pop i)) :=
  me_pop (pe_mg0 PySem.F.plainAttrs_list PySem.F.slot_list_pop PySem.F.type_list_pop mt_pop ha hbase hline)
theorem x_pop0 {i : Nat} {apos p2 : Pos} {j} (ha : PE X a (tVar i)) (hbase : attributeBase a "pop" X.env (eval a X.env) = eval a X.env := by rfl) (hline : (apos.endLine == pos.line) = true := by rfl) : PE X (.Call (.Attribute a "pop" apos) [.Constant (.int 0) j p2] [] pos) (rd G cf cl lf W (.pop0 i)) :=
  me_pop0 (pe_mg PySem.F.plainAttrs_list PySem.F.slot_list_pop PySem.F.type_list_pop mt_popAt ha (pa_cons pe_int pa_nil rfl) hbase rfl hline rfl rfl)
/-! #### what is walked -/
variable {tg : Expr}
theorem i_seq (c : Cc G X W k) (ha : PE X a (rd G cf cl lf W A)) : PI X tg a (rdI G cf cl lf W (.seq A)) := pi_seq c.hK ha
theorem i_rng1 {p : Pos} (hm : X.mg "range" = none) (ha : PE X a (rd G cf cl lf W A)) (hg : Gl X "range" := by rfl) (hs : starEach [a] X.env = (false, eval a X.env) :: starEach [] X.env := by rfl) : PI X tg (.Call (.Name "range" p) [a] [] pos) (rdI G cf cl lf W (.rng1 A)) := mi_rng1 hg hm ha hs
theorem i_rng2 {p : Pos} (hm : X.mg "range" = none) (ha : PE X a (rd G cf cl lf W A)) (hb : PE X b (rd G cf cl lf W B)) (hg : Gl X "range" := by rfl) (hs : starEach [a, b] X.env = (false, eval a X.env) :: starEach [b] X.env := by rfl) (hs2 : starEach [b] X.env = (false, eval b X.env) :: starEach [] X.env := by rfl) : PI X tg (.Call (.Name "range" p) [a, b] [] pos) (rdI G cf cl lf W (.rng2 A B)) := mi_rng2 hg hm ha hb hs hs2
theorem i_enu (c : Cc G X W k) {p tpos : Pos} {elts : List Expr} {kk : Nat} (hm : X.mg "enumerate" = none) (ha : PE X a (rd G cf cl lf W A)) (hg : Gl X "enumerate" := by rfl) (hs : starEach [a] X.env = (false, eval a X.env) :: starEach [] X.env := by rfl) : PI X (.Tuple elts kk tpos) (.Call (.Name "enumerate" p) [a] [] pos) (rdI G cf cl lf W (.enu A)) := mi_enu c.hK hg hm ha hs
theorem i_zip (c : Cc G X W k) {p tpos : Pos} {elts : List Expr} {kk : Nat} (hm : X.mg "zip" = none) (ha : PE X a (rd G cf cl lf W A)) (hb : PE X b (rd G cf cl lf W B)) (hg : Gl X "zip" := by rfl) (hs : starEach [a, b] X.env = (false, eval a X.env) :: starEach [b] X.env := by rfl) (hs2 : starEach [b] X.env = (false, eval b X.env) :: starEach [] X.env := by rfl) : PI X (.Tuple elts kk tpos) (.Call (.Name "zip" p) [a, b] [] pos) (rdI G cf cl lf W (.zip A B)) := mi_zip c.hK hg hm ha hb hs hs2
theorem i_items (c : Cc G X W k) {tpos apos : Pos} {elts : List Expr} {kk : Nat} (ha : PE X a (rd G cf cl lf W A)) (hbase : attributeBase a "items" X.env (eval a X.env) = eval a X.env := by rfl) (hline : (apos.endLine == pos.line) = true := by rfl) : PI X (.Tuple elts kk tpos) (.Call (.Attribute a "items" apos) [] [] pos) (rdI G cf cl lf W (.items A)) := mi_items c.hP c.hw ha hbase hline
/-! #### targets -/
theorem g_nm (i : Nat) {x : Str} (h : PG X (.Name x pos) (gName i)) : PG X (.Name x pos) (gT G.K (.nm i)) := by unfold gT; exact h
/-- a row of targets -/
structure Gs (G : Gx) (X : Cx) (es : List Expr) (ts : List Tg) : Prop where
  h : PGs X es (gTs G.K ts)
  n : (assignEach es X.env).length = ts.length
  s : (assignEach es X.env).findIdx? (·.1) = none
theorem gs_nil : Gs G X [] [] := ⟨by unfold gTs; exact pgs_nil, rfl, rfl⟩
theorem gs_cons {es : List Expr} {t : Tg} {ts : List Tg} (h : PG X e (gT G.K t)) (r : Gs G X es ts) (hs : assignEach (e :: es) X.env = (false, assign e X.env) :: assignEach es X.env := by rfl) : Gs G X (e :: es) (t :: ts) :=
  ⟨by unfold gTs; exact pgs_cons h r.h (by rw [hs]; rfl), by rw [hs]; simp [r.n], by rw [hs, List.findIdx?_cons]; simp [r.s]⟩
theorem g_tp (c : Cc G X W k) {es : List Expr} {ts : List Tg} {kk : Nat} (h : Gs G X es ts) : PG X (.Tuple es kk pos) (gT G.K (.tp ts)) := by
  unfold gT
  rw [← c.hK]
  exact pg_tup c.calm (by rw [c.hK]; exact h.h) h.n h.s
/-! #### comprehensions -/
theorem o_nil : PO X none (rdP G cf cl lf W .nil) := mp_nil
theorem o_some (h : PE X e (rd G cf cl lf W A)) : PO X (some e) (rdP G cf cl lf W (.cons A .nil)) := mp_some h
theorem d_nil : PTs X [] (rdC G cf cl lf W .nil) := mc_nil
theorem d_one (h : PT X e (rdT G cf cl lf W A)) : PTs X [e] (rdC G cf cl lf W (.cons A .nil)) := mc_one h
theorem x_comp (c : Cc G X W k) {ifs : List Expr} {scope : Scope} (ownL : List (Str × Nat)) {t : Tg} {it : Wk} {D : Exs} (hi : PI X tg a (rdI G cf cl lf W it))
    (hg : ∀ (s : Shared) (H : Hp) (C : Addr) (cll : List (Str × Addr)) (fp : List Addr), Cc G (X.blk s H scope (compEnvC scope cll C X.env) fp) WF k → PG (X.blk s H scope (compEnvC scope cll C X.env) fp) tg (gT G.K t))
    (ht : ∀ (s : Shared) (H : Hp) (C : Addr) (cll : List (Str × Addr)) (fp : List Addr), Cc G (X.blk s H scope (compEnvC scope cll C X.env) fp) WF k → PTs (X.blk s H scope (compEnvC scope cll C X.env) fp) ifs (rdC G cf cl lf WF D))
    (he : ∀ (s : Shared) (H : Hp) (C : Addr) (cll : List (Str × Addr)) (fp : List Addr), Cc G (X.blk s H scope (compEnvC scope cll C X.env) fp) WF k → PE (X.blk s H scope (compEnvC scope cll C X.env) fp) e (rd G cf cl lf WF A))
    (ok : blkC X.N X.env.scope scope ownL = true := by kernel_rfl) (hs : ∀ x, foldedSetIterable a X.env x = pure x := by intro _; rfl) (hti : ∀ i ∈ t.ns, i ∈ ownL.map (·.2) := by decide) : PE X (.ListComp e [⟨tg, a, ifs, 0⟩] scope pos) (rd G cf cl lf W (.comp A t it (ownL.map (·.2)) D)) :=
  me_comp c.calm c.nd hi (blkOk_by ok) (fun s H C cll fp => hg s H C cll fp (c.blk s H scope C cll fp)) (fun s H C cll fp => ht s H C cll fp (c.blk s H scope C cll fp)) (fun s H C cll fp => he s H C cll fp (c.blk s H scope C cll fp)) hs hti
theorem s_setComp (c : Cs G X W k) {i : Nat} {y : Str} {py : Pos} {ifs : List Expr} {scope : Scope} {pos2 : Pos} (ownL : List (Str × Nat)) {t : Tg} {it : Wk} {D : Exs} (hi : PI X tg a (rdI G cf cl lf W it))
    (hg : ∀ (s : Shared) (H : Hp) (C : Addr) (cll : List (Str × Addr)) (fp : List Addr), Cc G (X.blk s H scope (compEnvC scope cll C X.env) fp) WF k → PG (X.blk s H scope (compEnvC scope cll C X.env) fp) tg (gT G.K t))
    (ht : ∀ (s : Shared) (H : Hp) (C : Addr) (cll : List (Str × Addr)) (fp : List Addr), Cc G (X.blk s H scope (compEnvC scope cll C X.env) fp) WF k → PTs (X.blk s H scope (compEnvC scope cll C X.env) fp) ifs (rdC G cf cl lf WF D))
    (he : ∀ (s : Shared) (H : Hp) (C : Addr) (cll : List (Str × Addr)) (fp : List Addr), Cc G (X.blk s H scope (compEnvC scope cll C X.env) fp) WF k → PE (X.blk s H scope (compEnvC scope cll C X.env) fp) e (rd G cf cl lf WF A))
    (hy : X.N[i]? = some y := by rfl) (hyl : X.env.scope.names.lookup y = some .local := by rfl) (hsw : swapsWith (.ListComp e [⟨tg, a, ifs, 0⟩] scope pos) (some (.Name y py)) pos2.line X.env = pure true := by exact sw_true rfl rfl rfl rfl)
    (ok : blkC X.N X.env.scope scope ownL = true := by kernel_rfl) (hs : ∀ x, foldedSetIterable a X.env x = pure x := by intro _; rfl) (hti : ∀ i ∈ t.ns, i ∈ ownL.map (·.2) := by decide) : PS X (.Assign [.Name y py] (.ListComp e [⟨tg, a, ifs, 0⟩] scope pos) pos2) (rdS G cf cl lf W np (.asg i (.comp A t it (ownL.map (·.2)) D))) :=
  ms_setComp c.calm c.nd hy hyl hsw hi (blkOk_by ok) (fun s H C cll fp => hg s H C cll fp (c.toCc.blk s H scope C cll fp)) (fun s H C cll fp => ht s H C cll fp (c.toCc.blk s H scope C cll fp)) (fun s H C cll fp => he s H C cll fp (c.toCc.blk s H scope C cll fp)) hs hti
/-! #### statements -/
theorem s_set (c : Cs G X W k) {i : Nat} {x : Str} {pos' : Pos} (he : PE X e (rd G cf cl lf W A)) (hi : X.N[i]? = some x := by rfl) (hx : Loc X.env.scope x := by first | exact Or.inl rfl | exact Or.inr rfl) (hs : swapsWith e (some (.Name x pos')) pos.line X.env = pure false := by rfl) (hf : X.fn x = true ∨ X.env.scope.names.lookup x = some .local := by first | exact .inl rfl | exact .inr rfl) :
    PS X (.Assign [.Name x pos'] e pos) (rdS G cf cl lf W np (.asg i A)) := ms_asg c.nd hi hx he hs hf
theorem s_par2 (c : Cs G X W k) {i j : Nat} {x y : Str} {S : Exs} {px py pt : Pos} {kt k2 pt2} (ha : PA X [a, b] (rdAs G cf cl lf W S)) (hi : X.N[i]? = some x := by rfl) (hj : X.N[j]? = some y := by rfl) (hij : i ≠ j := by decide)
    (hx : X.env.scope.names.lookup x = some .local := by rfl) (hy : X.env.scope.names.lookup y = some .local := by rfl)
    (hw : swappedStores [.Tuple [.Name x px, .Name y py] kt pt] (.Tuple [a, b] k2 pt2) X.env = pure (some [x, y]) := by rfl)
    (hs : swapsWithSole [.Tuple [.Name x px, .Name y py] kt pt] (.Tuple [a, b] k2 pt2) pos.line X.env = pure false := by rfl) :
    PS X (.Assign [.Tuple [.Name x px, .Name y py] kt pt] (.Tuple [a, b] k2 pt2) pos) (rdS G cf cl lf W np (.par [i, j] S)) := ms_par2 c.calm c.nd hi hj hij hx hy ha hw hs
theorem s_par3 (c : Cs G X W k) {i j l : Nat} {x y z : Str} {S : Exs} {px py pz pt : Pos} {kt k2 pt2} (ha : PA X [a, b, cc] (rdAs G cf cl lf W S)) (hi : X.N[i]? = some x := by rfl) (hj : X.N[j]? = some y := by rfl) (hl : X.N[l]? = some z := by rfl) (hij : i ≠ j := by decide) (hil : i ≠ l := by decide) (hjl : j ≠ l := by decide)
    (hx : X.env.scope.names.lookup x = some .local := by rfl) (hy : X.env.scope.names.lookup y = some .local := by rfl) (hz : X.env.scope.names.lookup z = some .local := by rfl)
    (hw : swappedStores [.Tuple [.Name x px, .Name y py, .Name z pz] kt pt] (.Tuple [a, b, cc] k2 pt2) X.env = pure (some [x, y, z]) := by rfl)
    (hs : swapsWithSole [.Tuple [.Name x px, .Name y py, .Name z pz] kt pt] (.Tuple [a, b, cc] k2 pt2) pos.line X.env = pure false := by rfl) :
    PS X (.Assign [.Tuple [.Name x px, .Name y py, .Name z pz] kt pt] (.Tuple [a, b, cc] k2 pt2) pos) (rdS G cf cl lf W np (.par [i, j, l] S)) := ms_par3 c.calm c.nd hi hj hl hij hil hjl hx hy hz ha hw hs
theorem s_parT (c : Cs G X W k) (is : List Nat) {ts es : List Expr} {S : Exs} {pt pt2 : Pos} {kt k2 : Nat} (ha : PA X es (rdAs G cf cl lf W S)) (hg : Gs G X ts (is.map .nm)) (hn : is.length ≤ 1000 := by decide)
    (hs : swapsWithSole [.Tuple ts kt pt] (.Tuple es k2 pt2) pos.line X.env = pure false := by rfl) (hw : swappedStores [.Tuple ts kt pt] (.Tuple es k2 pt2) X.env = pure none := by rfl) (h1 : (assignEach [.Tuple ts kt pt] X.env).map (·.2) = [assign (.Tuple ts kt pt) X.env] := by rfl) :
    PS X (.Assign [.Tuple ts kt pt] (.Tuple es k2 pt2) pos) (rdS G cf cl lf W np (.par is S)) := ms_parT c.hK ha (g_tp c.toCc hg) hn hs hw h1
theorem s_unp {t : Tg} (he : PE X e (rd G cf cl lf W A)) (hg : PG X tg (gT G.K t)) (hs : swapsWithSole [tg] e pos.line X.env = pure false := by rfl) (hw : swappedStores [tg] e X.env = pure none := by rfl) (h1 : (assignEach [tg] X.env).map (·.2) = [assign tg X.env] := by rfl) : PS X (.Assign [tg] e pos) (rdS G cf cl lf W np (.unp t A)) := ms_unp he hg hs hw h1
theorem s_sub (c : Cs G X W k) {i : Nat} {p2 : Pos} (ho : PE X a (tVar i)) (hk : PE X b (rd G cf cl lf W B)) (he : PE X e (rd G cf cl lf W A))
    (ha : ∀ v, assign (.Subscript a b p2) X.env v = (do
      let ov ← holding [v] (eval a X.env)
      let iv ← holding [v, ov] (eval b X.env)
      standAt p2
      holding [v, ov, iv] (setItem ov iv v)
      release [v, ov, iv] []) := by intro _; rfl)
    (hs : swapsWithSole [.Subscript a b p2] e pos.line X.env = pure false := by rfl) (hw : swappedStores [.Subscript a b p2] e X.env = pure none := by rfl) (h1 : (assignEach [.Subscript a b p2] X.env).map (·.2) = [assign (.Subscript a b p2) X.env] := by rfl) :
    PS X (.Assign [.Subscript a b p2] e pos) (rdS G cf cl lf W np (.sub i B A)) := ms_sub he ho hk (set_all c.hP c.hw c.hK c.toCc.un) ha hs hw h1
theorem s_drop (he : PE X e (rd G cf cl lf W A)) (hs : swapsWith e none pos.line X.env = pure false := by rfl) : PS X (.Expr e pos) (rdS G cf cl lf W np (.drop A)) := ms_drop he hs
theorem s_app (c : Cs G X W k) {i : Nat} {apos p2 : Pos} (ho : PE X a (tVar i)) (he : PE X e (rd G cf cl lf W A)) (hbase : attributeBase a "append" X.env (eval a X.env) = eval a X.env := by rfl) (hline : (apos.endLine == p2.line) = true := by rfl) (h1 : starEach [e] X.env = (false, eval e X.env) :: starEach [] X.env := by rfl) (hs : swapsWith (.Call (.Attribute a "append" apos) [e] [] p2) none pos.line X.env = pure false := by rfl) :
    PS X (.Expr (.Call (.Attribute a "append" apos) [e] [] p2) pos) (rdS G cf cl lf W np (.app i A)) :=
  ms_app (ps_expr (pe_bm PySem.F.plainAttrs_list PySem.F.slot_list_append PySem.F.type_list_append mt_append ho (pa_cons he pa_nil h1) hbase (by rw [h1]; rfl) hline h1 rfl) hs) c.hK
theorem s_ext (c : Cs G X W k) {i : Nat} {apos p2 : Pos} (ho : PE X a (tVar i)) (he : PE X e (rd G cf cl lf W A)) (hbase : attributeBase a "extend" X.env (eval a X.env) = eval a X.env := by rfl) (hline : (apos.endLine == p2.line) = true := by rfl) (h1 : starEach [e] X.env = (false, eval e X.env) :: starEach [] X.env := by rfl) (hs : swapsWith (.Call (.Attribute a "extend" apos) [e] [] p2) none pos.line X.env = pure false := by rfl) :
    PS X (.Expr (.Call (.Attribute a "extend" apos) [e] [] p2) pos) (rdS G cf cl lf W np (.ext i A)) :=
  ms_ext (ps_expr (pe_bm PySem.F.plainAttrs_list PySem.F.slot_list_extend PySem.F.type_list_extend mt_extend ho (pa_cons he pa_nil h1) hbase (by rw [h1]; rfl) hline h1 rfl) hs) c.hK
theorem s_if {p q : List Stmt} {P Q : Sms} (hc : PT X cc (rdT G cf cl lf W C)) (h1 : PSs X p (rdSs G cf cl lf W np P)) (h2 : PSs X q (rdSs G cf cl lf W np Q)) : PS X (.If cc p q pos) (rdS G cf cl lf W np (.ifs C P Q)) := ms_if hc h1 h2
theorem s_whl (c : Cs G X W k) {p : List Stmt} {P : Sms} (hc : PT X cc (rdT G cf cl lf W C)) (h1 : PSs X p (rdSs G cf cl lf W np P)) : PS X (.While cc p [] pos) (rdS G cf cl lf W np (.whl C P)) := ms_whl c.pass hc h1
theorem s_for (c : Cs G X W k) {p : List Stmt} {P : Sms} {t : Tg} {it : Wk} (hi : PI X tg a (rdI G cf cl lf W it)) (hg : PG X tg (gT G.K t)) (h1 : PSs X p (rdSs G cf cl lf W np P)) (hs : ∀ x, foldedSetIterable a X.env x = pure x := by intro _; rfl) : PS X (.For tg a p [] pos) (rdS G cf cl lf W np (.for t it P)) := ms_for c.pass c.calm hi hg h1 hs
theorem s_ret (he : PE X e (rd G cf cl lf W A)) : PS X (.Return (some e) pos) (rdS G cf cl lf W np (.ret np A)) := ms_ret he
theorem s_retN : PS X (.Return none pos) (rdS G cf cl lf W np .retN) := ms_retN
theorem s_pass : PS X (.Pass pos) (rdS G cf cl lf W np .pass) := ms_pass
theorem s_brk : PS X (.Break pos) (rdS G cf cl lf W np .brk) := ms_brk
theorem s_cnt : PS X (.Continue pos) (rdS G cf cl lf W np .cnt) := ms_cnt
theorem n_nil : PSs X [] (rdSs G cf cl lf W np .nil) := ms_nil
theorem n_cons {st : Stmt} {r : List Stmt} {s : Sm} {S : Sms} (h1 : PS X st (rdS G cf cl lf W np s)) (h2 : PSs X r (rdSs G cf cl lf W np S)) : PSs X (st :: r) (rdSs G cf cl lf W np (.cons s S)) := ms_cons h1 h2
end
end MP
set_option maxRecDepth 100000
set_option maxHeartbeats 2000000
/-! MP28: a def, by its printed walk. -/
namespace MP
open PySem PySem.Spec PyProof.Rows L2
abbrev cxM (G : Gx) (mg : Str → Option Value) (base : Heap) (N : List Str) (x : Str) (st : Stmt) (f : Addr) (cdv : Value) (A : Around) (outer : List Env) (s : Shared) (H : Hp) (E : XK) : Cx := cxOf (L2.CX G.P G.w) G.P G.w G.K mg base N x (defScope st) f cdv A outer s H E
abbrev WM (E : XK) : WX := fun cls y _ H => E cls y H
theorem bt_len : bootBuiltins "len" = some (.builtin "len") := by decide +kernel
theorem bt_int : bootBuiltins "int" = some (.type "int") := by decide +kernel
theorem bt_abs : bootBuiltins "abs" = some (.builtin "abs") := by decide +kernel
theorem bt_sum : bootBuiltins "sum" = some (.builtin "sum") := by decide +kernel
theorem bt_all : bootBuiltins "all" = some (.builtin "all") := by decide +kernel
theorem bt_tuple : bootBuiltins "tuple" = some (.type "tuple") := by decide +kernel
theorem bt_list : bootBuiltins "list" = some (.type "list") := by decide +kernel
theorem bt_max : bootBuiltins "max" = some (.builtin "max") := by decide +kernel
theorem bt_min : bootBuiltins "min" = some (.builtin "min") := by decide +kernel
theorem bt_bool : bootBuiltins "bool" = some (.type "bool") := by decide +kernel
theorem bt_str : bootBuiltins "str" = some (.type "str") := by decide +kernel
theorem bt_sorted : bootBuiltins "sorted" = some (.builtin "sorted") := by decide +kernel
theorem bt_dict : bootBuiltins "dict" = some (.type "dict") := by decide +kernel
/-- the printed walk of a def -/
def Wlk (G : Gx) (mg : Str → Option Value) (base : Heap) (k : Nat) (cf : CF) (cl : Nat → LF → List SV → Out (SV × List SV)) (N : List Str) (x : Str) (st : Stmt) (d : Df) : Prop :=
  ∀ (f : Addr) (cdv : Value) (A : Around) (outer : List Env) (s : Shared) (H : Hp) (E : XK), Cs G (cxM G mg base N x st f cdv A outer s H E) (WM E) k → PSs (cxM G mg base N x st f cdv A outer s H E) (defBody st) (rdSs G cf cl none (WM E) d.np d.body)
section
variable {G : Gx} {mg : Str → Option Value} {base : Heap} {k : Nat} {cf : CF} {cl : Nat → LF → List SV → Out (SV × List SV)} {X : Cx} {W : WX} {lf : Option LF} {pos : Pos} {a e : Expr} {A : Ex}
theorem x_one {op} (h : PE X a (rd G cf cl lf W A)) : PE X (.BoolOp op [a] pos) (rd G cf cl lf W A) := pe_one h
theorem df_ok {x : Str} {st : Stmt} {f : Addr} {fd : FuncData} {N ps : List Str} {d : Df} (F : Fun G.K x x st f fd) (S : FnScope N ps (defScope st)) (hps : ps.length = d.np) (hns : N.length = d.ns) (hw : Wlk G mg base k cf cl N x st d) :
    FnOk G.P G.w G.K mg base (L2.CX G.P G.w) (k + 1) f fd ps (spF G (fun us => runD cf cl none d us) d.np) := by
  have hnp : d.np ≤ d.ns := by
    rw [← hps, ← hns, ← S.pre, List.length_take]
    omega
  obtain ⟨oc, od, kV, doc, pm, an, cdv, ct, osl, rfl, lk, hcd⟩ := F.ex
  refine fn_of lk hcd S (fun vs H Q E h => h.1.trans hps.symm) fun A outer s H vs Q E hr hsp => ?_
  have c : Cs G (cxM G mg base N x st f cdv A outer s H E) (WM E) k :=
    { hP := rfl, hw := rfl, hK := rfl, calm := rfl, nd := S.nd, room := hr, tk := takes_of rfl rfl rfl rfl, pass := passes_of rfl }
  exact ⟨_, hw f cdv A outer s H E c, body_ok hns hnp hsp⟩
/-- a def of the text: where it stands -/
structure Std (G : Gx) (mg : Str → Option Value) (x : Str) (st : Stmt) (ps : List Str) : Prop where
  ex : ∃ f fd, Fun G.K x x st f fd ∧ Binds G.K fd ps [] ∧ mg x = some (.ref f)
theorem runD_len {d : Df} {lf : Option LF} {ss : List SV} {s : SV} {outs : List SV} (h : runD cf cl lf d ss = .ok (s, outs)) : outs.length = d.np := by
  have hl : ∀ (e : En) n, (outsOf e n).length = n := fun e n => by
    induction n with
    | zero => rfl
    | succ n ih => unfold outsOf; rw [List.length_append, ih]; rfl
  unfold runD at h
  split at h
  · obtain ⟨r, h1, h2⟩ := Out.bind_ok h
    obtain ⟨w, e⟩ := r
    cases w with
    | nx => cases h2; exact hl _ _
    | rt s => cases h2; exact hl _ _
    | bk => cases h2
    | ct => cases h2
  · cases h
/-- one level up -/
theorem cal_up {pg : Nat → Option Df} {n id : Nat} {x : Str} {st : Stmt} {N ps : List Str} {d : Df} (hd : pg id = some d) (h : Std G mg x st ps) (S : FnScope N ps (defScope st)) (hps : ps.length = d.np) (hns : N.length = d.ns)
    (hw : Wlk G mg base n (fun g us => callL pg n g none us) (fun g l us => callL pg n g (some l) us) N x st d) : Cal G mg base (n + 1) (fun g us => callL pg (n + 1) g none us) x id d.np := by
  obtain ⟨f, fd, F, hb, hm⟩ := h.ex
  have e : (fun us => callL pg (n + 1) id none us) = fun us => runD (fun g us => callL pg n g none us) (fun g l us => callL pg n g (some l) us) none d us := by
    funext us
    show (match pg id with | some d => runD (fun g us => callL pg n g none us) (fun g l us => callL pg n g (some l) us) none d us | none => .fail) = _
    rw [hd]
  have ok := df_ok F S hps hns hw
  rw [← e] at ok
  refine ⟨f, fd, ps, ok, hm, F.kp, hb, hps, fun ss s outs h => ?_⟩
  have h : callL pg (n + 1) id none ss = .ok (s, outs) := h
  have h' : runD (fun g us => callL pg n g none us) (fun g l us => callL pg n g (some l) us) none d ss = .ok (s, outs) := by
    rw [← h]
    show _ = (match pg id with | some d => runD (fun g us => callL pg n g none us) (fun g l us => callL pg n g (some l) us) none d ss | none => .fail)
    rw [hd]
  exact runD_len h'
theorem cal_zero {pg : Nat → Option Df} {id np : Nat} {x : Str} {st : Stmt} {ps : List Str} (h : Std G mg x st ps) (hps : ps.length = np) : Cal G mg base 0 (fun g us => callL pg 0 g none us) x id np := by
  obtain ⟨f, fd, F, hb, hm⟩ := h.ex
  have no : ∀ vs H Q E, ¬ spF G (fun us => callL pg 0 id none us) np vs H Q E := fun vs H Q E ⟨_, _, _, _, _, _, q⟩ => q
  exact ⟨f, fd, ps, ⟨fun vs H Q E h => absurd h (no vs H Q E), fun A outer s H args us vs Q E _ _ _ _ h => absurd h (no vs H Q E)⟩, hm, F.kp, hb, hps, fun ss s outs h => by cases h⟩
end
end MP
set_option maxRecDepth 100000
set_option maxHeartbeats 2000000
/-! MP29: the law's end. -/
namespace MP
open PySem PySem.Spec PyProof.Rows L2
/-- what a law's def promises -/
def spLaw (K : PySem.W.Frag) : Sp := fun vs H Q _ => ∃ (a : Addr) (ns : List Int), vs = [.ref a] ∧ Only H ∧ SqL K H a (ns.map V.int) ∧ ns.length ≤ 63 ∧ ∀ H', Q (.bl true) H'
/-- the ground of a row without tables -/
def gx (P : Program) (w : World) (K : PySem.W.Frag) (mg : Str → Option Value) : Gx where
  P := P
  w := w
  K := K
  T := []
  fa := fun _ => none
  xa := fun x => match mg x with
    | some (.ref a) => some a
    | _ => none
theorem law_fn {P : Program} {w : World} {K : PySem.W.Frag} {mg : Str → Option Value} {base : Heap} {k : Nat} {f : Addr} {fd : FuncData} {ps : List Str} {g : List SV → Out (SV × List SV)}
    (F : FnOk P w K mg base (L2.CX P w) k f fd ps (spF (gx P w K mg) g 1)) (h : ∀ ns : List Int, ns.length ≤ 63 → ∃ fl outs, g [(.f, .fls ns)] = .ok ((fl, .bl true), outs)) : FnOk P w K mg base (L2.CX P w) k f fd ps (spLaw K) :=
  F.imp fun vs H Q E ⟨a, ns, e, hO, hS, hl, q⟩ => by
    subst e
    have hf : FlsR (gx P w K mg) H a ns := by
      rcases hS with (z | z) | z
      · rcases hO a with y | ⟨o, xs, y⟩
        · rw [y] at z; cases z
        · rw [y] at z; cases z
      · exact .inl z
      · exact .inr z
    refine ⟨rfl, fun _ => False, [(.f, .fls ns)], (fun p hp => by cases hp), (fun b z => z.elim), ⟨rfl, fun i s v h1 h2 => ?_, fun i j x s t h1 h2 o1 => ?_⟩, ?_⟩
    · cases i with
      | zero =>
        cases h1; cases h2
        exact Rep.fls hf
      | succ i => simp at h1
    · cases i with
      | zero => cases h1; cases o1
      | succ i => simp at h1
    · obtain ⟨fl, outs, hg⟩ := h ns hl
      rw [hg]
      intro v Fz' H' aft hs hr
      cases ho : fl.own with
      | true =>
        rw [if_pos ho] at hr
        obtain ⟨x, _, _, c, _⟩ := hr
        exact c.elim
      | false =>
        rw [if_neg (by rw [ho]; exact Bool.false_ne_true)] at hr
        cases (show Rep (gx P w K mg) Fz' H' (.bl true) v from hr)
        exact q H'
theorem exn_of {P : Program} {w : World} {K : PySem.W.Frag} {mg : Str → Option Value} {x : Str} {C : Addr} (g : mg x = some (.ref C)) (e : PySem.W.excIn K C [.type "ValueError", .type "Exception", .type "BaseException", .type "object"] "ValueError.__new__" = true) (k : PySem.W.keepIn K (.ref C) = true) (b : PySem.W.subIn K (.ref C) (.type "BaseException") = some true) (t : PySem.W.typeIn K (.ref C) = some (.type "type")) : Exn (gx P w K mg) mg x :=
  ⟨C, _, _, _, _, PySem.F.excBase_ValueError, e, g, k, b, t, by show (match mg x with | some (.ref a) => some a | _ => none) = _; rw [g]⟩
theorem con_int {G : Gx} {mg : Str → Option Value} {x : Str} {i : Int} {t : Tok} (g : mg x = some (.int i t)) : Con G mg x (.int i) := ⟨.int i, _, g, ⟨_, rfl⟩, fun _ _ => .int i⟩
theorem con_str {G : Gx} {mg : Str → Option Value} {x y : Str} {t : Tok} (g : mg x = some (.str y t)) (h : sOk y = true) : Con G mg x (.str y) := ⟨.str y, _, g, ⟨_, rfl⟩, fun _ _ => .str y h⟩
/-- a tuple of ints or texts -/
theorem con_tup {G : Gx} {mg : Str → Option Value} {x : Str} {a : Addr} {o : Obj} {ds : List D} {xs : List V} {its : Array Value} {n : Nat} (g : mg x = some (.ref a)) (l : G.K.lookup a = some o) (hc : o.cls = .type "tuple") (hd : o.data = .seq its n) (hz : its.size ≤ sizeLine) (rv : Vals xs its.toList) (rs : ∀ Fz H, Reps G Fz H ds xs) : Con G mg x (.tup ds) :=
  ⟨.ref a, _, g, rfl, fun Fz H => .tup (.inr ⟨o, its, n, l, hc, hd, hz, rv⟩) (rs Fz H)⟩
theorem std_of {G : Gx} {mg : Str → Option Value} {x : Str} {st : Stmt} {ps : List Str} {f : Addr} {oc : Value} {od an : Option Addr} {osl : Array (Option Value)} {kV doc pm cdv ct : Value} (l : G.K.lookup f = some ⟨oc, od, .func (PySem.W.fnOf x x (defArgs st) (defBody st) (defScope st) .none kV doc pm an cdv ct), osl⟩)
    (c : PySem.W.codeIn G.K cdv x = true) (k : PySem.W.keepIn G.K (.ref f) = true) (g : mg x = some (.ref f))
    (h : ∀ (kV doc pm : Value) (an : Option Addr) (cdv ct : Value) (us : List Value), us.length = ps.length → bindArgs (PySem.W.fnOf x x (defArgs st) (defBody st) (defScope st) .none kV doc pm an cdv ct) ⟨us, []⟩ = pure (ps.zip us)) : Std G mg x st ps :=
  ⟨⟨f, _, fun_mk l c k, (fun_mk l c k).binds h, g⟩⟩
theorem walkM {l : PySem.W.OpenLaw} {q : Program} {loose : List Str} {XP : (Str → Option Value) → Heap → Prop} {YP : World → Heap → Prop} {d : DefRec} {K : Params → PySem.W.Frag} {k : Nat} (hr : Room k callerA) (hn : l.most = some 63) (hdf : d.params.defaults = [])
    (hY : ∀ (w : World) (h : Heap), YP w h → (K w.params).In h)
    (F : ∀ (w : World) (mg : Str → Option Value) (fa : Addr) (h : Heap), (K w.params).In h → h.Ns mainGlobals mg → mg d.name = some (.ref fa) →
      ∃ fd : FuncData, (∀ (s : Shared) (u : Value), BindsTo s fd ⟨[u], []⟩ [("script", u)]) ∧ ∀ base : Heap, (K w.params).In base → base.Ns mainGlobals mg → FnOk l.prog w (K w.params) mg base (L2.CX l.prog w) k fa fd ["script"] (spLaw (K w.params))) :
    PySem.W.WalkO q loose XP YP l.row.toRowW d [] (fun f vs => PySem.call f vs) :=
  L2.walk_of (n := 63) (k := k) (x := "script") (CX := fun w => L2.CX l.prog w) (sp := fun w => spLaw (K w.params)) hn (by decide) hdf hr hY F (fun _ _ a ns hl hO hS => ⟨a, ns, rfl, hO, hS, hl, fun _ => rfl⟩) fun _ _ _ _ _ ⟨_, _, _, _, _, _, _, _, _, _, _, _, z⟩ => z
end MP
set_option maxRecDepth 100000
set_option maxHeartbeats 2000000
/-! MP30: more words: xs.index(x). -/
namespace MP
open PySem PySem.Spec PyProof.Rows L2
section
variable {G : Gx} {cf : CF} {cl : Nat → LF → List SV → Out (SV × List SV)} {lf : Option LF} {W : WX} {X : Cx} {pos : Pos} {Fz Fz' Fz1 : Addr → Prop} {H H' H1 : Hp} {σ : L2.St} {env env' : En} {k np : Nat} {a b e : Expr} {A B : Ex}
theorem strs_rep : ∀ {ds : List D} {ns : List Str} {xs : List V}, strsD ds = some ns → Reps G Fz H ds xs → xs = ns.map V.str
  | [], ns, xs, h, r => by cases h; cases r; rfl
  | .str i :: ds, ns, xs, h, r => by
    unfold strsD at h
    cases hi : strsD ds with
    | none => rw [hi] at h; cases h
    | some ms =>
      rw [hi] at h
      cases h
      cases r with
      | cons r1 r2 =>
        cases r1
        rw [strs_rep hi r2]
        rfl
  | .non :: _, _, _, h, _ => by simp [strsD] at h
  | .bl _ :: _, _, _, h, _ => by simp [strsD] at h
  | .int _ :: _, _, _, h, _ => by simp [strsD] at h
  | .tup _ :: _, _, _, h, _ => by simp [strsD] at h
  | .lst _ :: _, _, _, h, _ => by simp [strsD] at h
  | .dct _ _ :: _, _, _, h, _ => by simp [strsD] at h
  | .fn _ :: _, _, _, h, _ => by simp [strsD] at h
  | .fls _ :: _, _, _, h, _ => by simp [strsD] at h
/-- the method b of one argument, by values -/
def rM1 (G : Gx) (b : Bi) : V → List V → Hp → VK → Prop := fun x xs H Q => ∃ y, xs = [y] ∧ rBi G b [x, y] H Q
theorem mr_index (hK : X.K = G.K) : MtR X "list.index" (rM1 G .index) := by
  intro pins s σ H x xs v us Q I rx rs h
  obtain ⟨y, rfl, Fz, ds, own, r, dom, rc, hb, fin⟩ := h
  match ds, rc with
  | [d, d2], .cons r1 (.cons r2 .nil) =>
    cases d <;> try (simp [bi] at hb; done)
    cases d2 <;> try (simp [bi] at hb; done)
    rename_i es z
    simp only [bi] at hb
    cases hs : strsD es with
    | none => rw [hs] at hb; cases hb
    | some ns =>
      rw [hs] at hb
      simp only [Option.map_eq_some_iff] at hb
      obtain ⟨j, hj, hb⟩ := hb
      cases hb
      obtain ⟨p, ys, rfl, h1, h2⟩ := repC_lst r1
      obtain ⟨rfl, _⟩ := repC_str r2
      rw [strs_rep hs h2] at h1
      obtain ⟨hlt, hp, hmin⟩ := List.findIdx?_eq_some_iff_getElem.mp hj
      refine mt_index pins s σ H _ _ v us Q I rx rs ⟨p, ns.map V.str, .str z, j, .str ns[j], rfl, rfl, .of h1, rfl, by rw [List.all_map]; exact List.all_eq_true.mpr fun _ _ => rfl, ?_, ?_, fun m z' hm hz' => ?_, fin _ _ (res_val (.int _))⟩
      · rw [List.getElem?_map, List.getElem?_eq_getElem hlt]; rfl
      · show eqV (V.str ns[j]) (V.str z) = true
        simpa [eqV] using hp
      · rw [List.getElem?_map, List.getElem?_eq_getElem (Nat.lt_trans hm hlt)] at hz'
        cases hz'
        have := hmin m hm
        simpa [eqV] using this
theorem me_m1 {e : Expr} {ed ea : Ex} {T : String} {b : Bi} (hT : ∀ d, rcv b (some d) = true → (match d with | .str _ => T = "str" | .lst _ => T = "list" | .dct _ _ => T = "dict" | _ => False)) (hn : rcv b none = false)
    (h : PE X e (tMG G T (rM1 G b) (rd G cf cl lf W ed) (fun σ H Q => rd G cf cl lf W ea σ H fun y H1 => Q [y] H1))) : PE X e (rd G cf cl lf W (.mth b ed (.cons ea .nil))) := h.imp fun σ H Q ⟨Fz, env, m, q⟩ => by
  unfold evA at q
  refine ⟨Fz, env, m, q.bind.imp fun dv env0 q0 x Fz0 H0 p0 r0 f0 => ?_⟩
  cases hd : dv.rd env0 with
  | none =>
    simp only [hd, hn] at q0
    exact q0.elim
  | some d0 =>
    cases hc : rcv b (some d0) with
    | false =>
      simp only [hd, hc] at q0
      exact q0.elim
    | true =>
      simp only [hd, hc] at q0
      refine ⟨⟨Fz0, d0, r0.rd p0.mt hd, hT d0 hc⟩, ?_⟩
      have q0 : OP G W σ Fz H env ((evAs cf cl lf (.cons ea .nil) env0).bind fun r' => kBi b (dv :: r'.1) r'.2) (fun (av : AV) (env' : En) => ∀ (v : V) (Fz' : Addr → Prop) (H' : Hp), Po G σ Fz H env Fz' H' env' → AvR G σ Fz' H' env' av v → Fre H av v → Q v H') := q0
      have q1 : OP G W σ Fz H env ((evA cf cl lf ea env0).bind fun r => kBi b [dv, r.1] r.2) (fun (av : AV) (env' : En) => ∀ (v : V) (Fz' : Addr → Prop) (H' : Hp), Po G σ Fz H env Fz' H' env' → AvR G σ Fz' H' env' av v → Fre H av v → Q v H') := by
        have e0 : ((evAs cf cl lf (.cons ea .nil) env0).bind fun r' => kBi b (dv :: r'.1) r'.2) = ((evA cf cl lf ea env0).bind fun r => kBi b [dv, r.1] r.2) := by
          unfold evAs evAs
          cases evA cf cl lf ea env0 <;> rfl
        rw [← e0]; exact q0
      refine ⟨Fz0, env0, p0.mt, (OP.base m p0 q1.bind).imp fun av env1 q2 y Fz1 H1 p1 r1 f1 => ⟨y, rfl, ?_⟩⟩
      have q2 : OP G W σ Fz H env (kBi b [dv, av] env1) (fun (av : AV) (env' : En) => ∀ (v : V) (Fz' : Addr → Prop) (H' : Hp), Po G σ Fz H env Fz' H' env' → AvR G σ Fz' H' env' av v → Fre H av v → Q v H') := q2
      unfold kBi at q2
      cases h1 : dv.rd env1 with
      | none =>
        rw [show rds env1 [dv, av] = none by unfold rds; rw [h1]] at q2
        exact q2.elim
      | some d1 =>
        cases h2 : av.rd env1 with
        | none =>
          rw [show rds env1 [dv, av] = none by unfold rds rds; rw [h1, h2]] at q2
          exact q2.elim
        | some d2 =>
          rw [show rds env1 [dv, av] = some [d1, d2] by unfold rds rds rds; rw [h1, h2]] at q2
          simp only at q2
          cases h3 : bi b [d1, d2] with
          | none => rw [h3] at q2; exact q2.elim
          | some z =>
            obtain ⟨own, w⟩ := z
            rw [h3] at q2
            refine ⟨Fz1, [d1, d2], own, w, p1.mt.dom, .cons ((r0.keep p0.mt p1).rd p1.mt h1) (.cons (r1.rd p1.mt h2) .nil), h3, fun z H2 rp => ?_⟩
            obtain ⟨p2, r2, f2⟩ := rp.po p1.mt
            exact OP.ret q2 z Fz1 H2 ((p0.trans m p1).trans m p2) r2 (f2.of (p0.trans m p1).keep)
theorem x_index (c : Cc G X W k) {apos : Pos} (ha : PE X a (rd G cf cl lf W A)) (hb : PE X b (rd G cf cl lf W B)) (hbase : attributeBase a "index" X.env (eval a X.env) = eval a X.env := by rfl) (hline : (apos.endLine == pos.line) = true := by rfl)
    (h1 : starEach [b] X.env = (false, eval b X.env) :: starEach [] X.env := by rfl) : PE X (.Call (.Attribute a "index" apos) [b] [] pos) (rd G cf cl lf W (.mth .index A (.cons B .nil))) :=
  me_m1 (T := "list") (fun d h => by cases d <;> simp [rcv] at h ⊢) rfl (pe_mg PySem.F.plainAttrs_list PySem.F.slot_list_index PySem.F.type_list_index (mr_index c.hK) ha (pa_cons hb pa_nil h1) hbase (by rw [h1]; rfl) hline h1 rfl)
end
end MP
/-! TD: the MP code of the defs. -/
namespace MP
open PySem (Str)
set_option maxRecDepth 100000
noncomputable section
abbrev S (s : String) : Str := Str.ofString s
def t_is_from : Df := ⟨3, 3, 
(.cons (.ret 3 (.and (.bi .isInt (.cons (.var 0) .nil)) (.and (.not (.bi .isBool (.cons (.var 0) .nil))) (.chain .le .le (.var 1) (.var 0) (.var 2)))))
.nil)⟩
def t_is_name : Df := ⟨1, 2, 
(.cons (.ifs (.or (.not (.bi .isStr (.cons (.var 0) .nil))) (.not (.chain .le .le (.cst (.int 1)) (.bi .len (.cons (.var 0) .nil)) (.cst (.int 8)))))
(.cons (.ret 1 (.cst (.bl false)))
.nil)
.nil)
(.cons (.ret 1 (.bi .all (.cons (.comp (.op .inn (.var 1) (.cst (.str (S "abcdefghijklmnopqrstuvwxyz")))) (.nm 1) (.seq (.var 0)) [1] .nil) .nil)))
.nil))⟩
def t_are_parts : Df := ⟨1, 2, 
(.cons (.ifs (.op .isn (.var 0) (.cst .non))
(.cons (.ret 1 (.cst (.bl true)))
.nil)
.nil)
(.cons (.ret 1 (.and (.bi .isTup (.cons (.var 0) .nil)) (.and (.op .eq (.bi .len (.cons (.var 0) .nil)) (.cst (.int 2))) (.bi .all (.cons (.comp (.call 0 (.cons (.var 1) (.cons (.cst (.int 1)) (.cons (.cst (.int 3)) .nil)))) (.nm 1) (.seq (.var 0)) [1] .nil) .nil)))))
.nil))⟩
def t_is_kind : Df := ⟨1, 1, 
(.cons (.ifs (.or (.not (.bi .isTup (.cons (.var 0) .nil))) (.or (.op .ne (.bi .len (.cons (.var 0) .nil)) (.cst (.int 5))) (.or (.not (.call 1 (.cons (.op .idx (.var 0) (.cst (.int 0))) .nil))) (.not (.call 0 (.cons (.op .idx (.var 0) (.cst (.int 1))) (.cons (.cst (.int 1)) (.cons (.cst (.int 6)) .nil))))))))
(.cons (.ret 1 (.cst (.bl false)))
.nil)
.nil)
(.cons (.ret 1 (.and (.call 2 (.cons (.op .idx (.var 0) (.cst (.int 2))) .nil)) (.and (.bi .isBool (.cons (.op .idx (.var 0) (.cst (.int 3))) .nil)) (.bi .isBool (.cons (.op .idx (.var 0) (.cst (.int 4))) .nil)))))
.nil))⟩
def t_is_book : Df := ⟨1, 4, 
(.cons (.ifs (.or (.not (.bi .isTup (.cons (.var 0) .nil))) (.or (.op .ne (.bi .len (.cons (.var 0) .nil)) (.cst (.int 2))) (.not (.call 0 (.cons (.op .idx (.var 0) (.cst (.int 0))) (.cons (.cst (.int 2)) (.cons (.cst (.int 6)) .nil)))))))
(.cons (.ret 1 (.cst (.bl false)))
.nil)
.nil)
(.cons (.ifs (.or (.not (.bi .isTup (.cons (.op .idx (.var 0) (.cst (.int 1))) .nil))) (.or (.not (.chain .le .le (.cst (.int 1)) (.bi .len (.cons (.op .idx (.var 0) (.cst (.int 1))) .nil)) (.cst (.int 3)))) (.not (.bi .all (.cons (.comp (.call 3 (.cons (.var 1) .nil)) (.nm 1) (.seq (.op .idx (.var 0) (.cst (.int 1)))) [1] .nil) .nil)))))
(.cons (.ret 1 (.cst (.bl false)))
.nil)
.nil)
(.cons (.asg 2 (.comp (.op .idx (.var 1) (.cst (.int 0))) (.nm 1) (.seq (.op .idx (.var 0) (.cst (.int 1)))) [1] .nil))
(.cons (.ifs (.not (.bi .all (.cons (.comp (.op .lt (.var 1) (.var 3)) (.tp [(.nm 1), (.nm 3)]) (.zip (.var 2) (.slc (.var 2) (.cons (.cst (.int 1)) .nil) .nil)) [1, 3] .nil) .nil)))
(.cons (.ret 1 (.cst (.bl false)))
.nil)
.nil)
(.cons (.ret 1 (.op .le (.bi .sum (.cons (.comp (.op .idx (.var 1) (.cst (.int 1))) (.nm 1) (.seq (.op .idx (.var 0) (.cst (.int 1)))) [1] .nil) .nil)) (.cst (.int 8))))
.nil)))))⟩
def t_check_book : Df := ⟨1, 1, 
(.cons (.ifs (.not (.call 4 (.cons (.var 0) .nil)))
(.cons (.raise (S "InvalidBook"))
.nil)
.nil)
.nil)⟩
def t_kind_of : Df := ⟨2, 3, 
(.cons (.for (.nm 2) (.seq (.op .idx (.var 0) (.cst (.int 1))))
(.cons (.ifs (.op .eq (.op .idx (.var 2) (.cst (.int 0))) (.var 1))
(.cons (.ret 2 (.var 2))
.nil)
.nil)
.nil))
(.cons (.ret 2 (.cst .non))
.nil))⟩
def t_is_block : Df := ⟨2, 3, 
(.cons (.ifs (.or (.not (.bi .isTup (.cons (.var 1) .nil))) (.or (.op .ne (.bi .len (.cons (.var 1) .nil)) (.cst (.int 2))) (.not (.bi .isStr (.cons (.op .idx (.var 1) (.cst (.int 0))) .nil)))))
(.cons (.ret 2 (.cst (.bl false)))
.nil)
.nil)
(.cons (.asg 2 (.call 6 (.cons (.var 0) (.cons (.op .idx (.var 1) (.cst (.int 0))) .nil))))
(.cons (.ret 2 (.and (.op .notn (.var 2) (.cst .non)) (.call 0 (.cons (.op .idx (.var 1) (.cst (.int 1))) (.cons (.cst (.int 1)) (.cons (.op .idx (.var 2) (.cst (.int 1))) .nil))))))
.nil)))⟩
def t_is_row : Df := ⟨2, 3, 
(.cons (.ret 2 (.and (.bi .isTup (.cons (.var 1) .nil)) (.bi .all (.cons (.comp (.call 7 (.cons (.var 0) (.cons (.var 2) .nil))) (.nm 2) (.seq (.var 1)) [2] .nil) .nil))))
.nil)⟩
def t_all_blocks : Df := ⟨1, 4, 
(.cons (.asg 1 (.lst .nil))
(.cons (.for (.nm 2) (.seq (.op .idx (.var 0) (.cst (.int 1))))
(.cons (.ext 1 (.comp (.tup (.cons (.op .idx (.var 2) (.cst (.int 0))) (.cons (.var 3) .nil))) (.nm 3) (.rng2 (.cst (.int 1)) (.op .add (.op .idx (.var 2) (.cst (.int 1))) (.cst (.int 1)))) [3] .nil))
.nil))
(.cons (.ret 1 (.var 1))
.nil)))⟩
def t__law_draws : Df := ⟨2, 5, 
(.cons (.ifs (.op .lt (.var 1) (.bi .len (.cons (.var 0) .nil)))
(.cons (.asg 2 (.op .mod (.bi .int (.cons (.bi .abs (.cons (.op .idx (.var 0) (.var 1)) .nil)) .nil)) (.op .mul (.op .mul (.op .mul (.op .pow (.cst (.int 10)) (.cst (.int 60))) (.op .pow (.cst (.int 10)) (.cst (.int 58)))) (.op .pow (.cst (.int 10)) (.cst (.int 57)))) (.op .pow (.cst (.int 10)) (.cst (.int 55))))))
.nil)
(.cons (.asg 2 (.op .add (.op .mul (.cst (.int 32452843)) (.var 1)) (.bi .sum (.cons (.comp (.op .mod (.bi .int (.cons (.bi .abs (.cons (.var 3) .nil)) .nil)) (.cst (.int 1000003))) (.nm 3) (.seq (.var 0)) [3] .nil) .nil))))
.nil))
(.cons (.asg 4 (.op .mod (.bi .int (.cons (.op .add (.op .mod (.var 2) (.cst (.int 4294967291))) (.op .mul (.cst (.int 49979687)) (.op .add (.var 1) (.cst (.int 1))))) .nil)) (.cst (.int 4294967279))))
(.cons (.ret 2 (.lst (.cons (.ite (.op .ge (.var 2) (.op .pow (.cst (.int 10)) (.cst (.int 18)))) (.var 2) (.cst (.int 0))) (.cons (.op .add (.cst (.int 1)) (.var 4)) .nil))))
.nil)))⟩
def t__law_draw : Df := ⟨2, 4, 
(.cons (.ifs (.op .gt (.op .idx (.var 0) (.cst (.int 0))) (.cst (.int 0)))
(.cons (.asg 2 (.op .mod (.bi .int (.cons (.op .idx (.var 0) (.cst (.int 0))) .nil)) (.var 1)))
(.cons (.sub 0 (.cst (.int 0)) (.op .fdiv (.op .idx (.var 0) (.cst (.int 0))) (.var 1)))
(.cons (.ret 2 (.var 2))
.nil)))
.nil)
(.cons (.par [2, 3] (.cons (.cst (.int 0)) (.cons (.cst (.int 0)) .nil)))
(.cons (.whl (.op .lt (.var 3) (.var 1))
(.cons (.sub 0 (.cst (.int 1)) (.op .mod (.bi .int (.cons (.op .add (.op .mul (.op .idx (.var 0) (.cst (.int 1))) (.cst (.int 1664525))) (.cst (.int 1013904223))) .nil)) (.cst (.int 4294967291))))
(.cons (.asg 2 (.op .add (.op .mul (.var 2) (.cst (.int 65536))) (.op .mod (.bi .int (.cons (.op .fdiv (.op .idx (.var 0) (.cst (.int 1))) (.cst (.int 65521))) .nil)) (.cst (.int 65536)))))
(.cons (.asg 3 (.op .mul (.bi .max2 (.cons (.cst (.int 1)) (.cons (.var 3) .nil))) (.cst (.int 65536))))
.nil))))
(.cons (.ret 2 (.op .mod (.bi .int (.cons (.var 2) .nil)) (.var 1)))
.nil))))⟩
def t__law_of : Df := ⟨2, 2, 
(.cons (.ret 2 (.op .idx (.var 1) (.call 13 (.cons (.var 0) (.cons (.bi .len (.cons (.var 1) .nil)) .nil)))))
.nil)⟩
def t__law_names : Df := ⟨1, 2, 
(.cons (.asg 1 (.lst (.cons (.lst (.cons (.cst (.str (S "a"))) (.cons (.cst (.str (S "b"))) (.cons (.cst (.str (S "c"))) .nil)))) (.cons (.lst (.cons (.cst (.str (S "head"))) (.cons (.cst (.str (S "text"))) (.cons (.cst (.str (S "verse"))) .nil)))) (.cons (.lst (.cons (.cst (.str (S "abcdefgh"))) (.cons (.cst (.str (S "abcdefgx"))) (.cons (.cst (.str (S "b"))) .nil)))) (.cons (.lst (.cons (.cst (.str (S "joins"))) (.cons (.cst (.str (S "kind"))) (.cons (.cst (.str (S "parts"))) .nil)))) .nil))))))
(.cons (.ret 1 (.call 14 (.cons (.var 0) (.cons (.var 1) .nil))))
.nil))⟩
def t__law_kind : Df := ⟨3, 4, 
(.cons (.asg 3 (.cst .non))
(.cons (.ifs (.op .gt (.call 13 (.cons (.var 0) (.cons (.cst (.int 3)) .nil))) (.cst (.int 0)))
(.cons (.asg 3 (.tup (.cons (.op .add (.cst (.int 1)) (.call 13 (.cons (.var 0) (.cons (.cst (.int 3)) .nil)))) (.cons (.op .add (.cst (.int 1)) (.call 13 (.cons (.var 0) (.cons (.cst (.int 3)) .nil)))) .nil))))
.nil)
.nil)
(.cons (.ret 3 (.tup (.cons (.var 1) (.cons (.op .add (.cst (.int 1)) (.call 13 (.cons (.var 0) (.cons (.var 2) .nil)))) (.cons (.var 3) (.cons (.op .eq (.call 13 (.cons (.var 0) (.cons (.cst (.int 3)) .nil))) (.cst (.int 0))) (.cons (.op .eq (.call 13 (.cons (.var 0) (.cons (.cst (.int 6)) .nil))) (.cst (.int 0))) .nil)))))))
.nil)))⟩
def t__law_book : Df := ⟨3, 8, 
(.cons (.par [3, 4, 5] (.cons (.call 17 (.cons (.var 0) .nil)) (.cons (.lst .nil) (.cons (.var 2) .nil))))
(.cons (.for (.nm 6) (.rng1 (.op .add (.cst (.int 1)) (.call 13 (.cons (.var 0) (.cons (.cst (.int 3)) .nil)))))
(.cons (.ifs (.op .gt (.var 5) (.cst (.int 0)))
(.cons (.asg 7 (.call 18 (.cons (.var 0) (.cons (.op .idx (.var 3) (.var 6)) (.cons (.bi .min2 (.cons (.var 5) (.cons (.cst (.int 4)) .nil))) .nil)))))
(.cons (.asg 5 (.op .sub (.var 5) (.op .idx (.var 7) (.cst (.int 1)))))
(.cons (.app 4 (.var 7))
.nil)))
.nil)
.nil))
(.cons (.ret 3 (.tup (.cons (.op .add (.cst (.int 2)) (.call 13 (.cons (.var 0) (.cons (.op .sub (.var 1) (.cst (.int 1))) .nil)))) (.cons (.bi .tuple (.cons (.var 4) .nil)) .nil))))
.nil)))⟩
def t__law_blocks : Df := ⟨1, 4, 
(.cons (.asg 1 (.lst .nil))
(.cons (.for (.nm 2) (.seq (.op .idx (.var 0) (.cst (.int 1))))
(.cons (.asg 1 (.op .add (.var 1) (.comp (.tup (.cons (.op .idx (.var 2) (.cst (.int 0))) (.cons (.var 3) .nil))) (.nm 3) (.rng2 (.cst (.int 1)) (.op .add (.op .idx (.var 2) (.cst (.int 1))) (.cst (.int 1)))) [3] .nil)))
.nil))
(.cons (.ret 1 (.var 1))
.nil)))⟩
def t__law_document : Df := ⟨3, 7, 
(.cons (.par [3, 4] (.cons (.call 20 (.cons (.var 1) .nil)) (.cons (.lst .nil) .nil)))
(.cons (.asg 5 (.lst (.cons (.call 14 (.cons (.var 0) (.cons (.var 3) .nil))) (.cons (.call 14 (.cons (.var 0) (.cons (.var 3) .nil))) .nil))))
(.cons (.for (.nm 6) (.rng1 (.call 13 (.cons (.var 0) (.cons (.op .add (.var 2) (.cst (.int 1))) .nil))))
(.cons (.app 4 (.call 14 (.cons (.var 0) (.cons (.op .add (.op .add (.op .add (.var 3) (.var 5)) (.var 5)) (.var 5)) .nil))))
.nil))
(.cons (.ret 3 (.bi .tuple (.cons (.var 4) .nil)))
.nil))))⟩
def t_check_block : Df := ⟨2, 2, 
(.cons (.ifs (.not (.call 7 (.cons (.var 0) (.cons (.var 1) .nil))))
(.cons (.raise (S "InvalidBlock"))
.nil)
.nil)
.nil)⟩
def t_greatest_part : Df := ⟨3, 4, 
(.cons (.ifs (.op .isn (.var 0) (.cst .non))
(.cons (.ret 3 (.cst (.int 0)))
.nil)
.nil)
(.cons (.asg 3 (.bi .min2 (.cons (.var 1) (.cons (.op .sub (.var 2) (.op .idx (.var 0) (.cst (.int 1)))) .nil))))
(.cons (.ret 3 (.ite (.op .ge (.var 3) (.op .idx (.var 0) (.cst (.int 0)))) (.var 3) (.cst (.int 0))))
.nil)))⟩
def t_filled : Df := ⟨3, 13, 
(.cons (.par [3, 4] (.cons (.op .idx (.var 0) (.cst (.int 0))) (.cons (.call 6 (.cons (.var 0) (.cons (.op .idx (.var 2) (.cst (.int 0))) .nil))) .nil)))
(.cons (.unp (.tp [(.nm 5), (.nm 6)]) (.var 1))
(.cons (.asg 7 (.op .idx (.var 2) (.cst (.int 1))))
(.cons (.par [8, 9, 10] (.cons (.lst .nil) (.cons (.lst .nil) (.cons (.lst .nil) .nil))))
(.cons (.ifs (.and (.op .idx (.var 4) (.cst (.int 4))) (.op .gt (.var 5) (.cst (.int 0))))
(.cons (.app 8 (.op .sub (.var 3) (.var 5)))
(.cons (.app 10 (.cst (.int 0)))
(.cons (.ifs (.op .gt (.var 6) (.cst (.int 0)))
(.cons (.app 9 (.cst (.str (S "left"))))
.nil)
.nil)
(.cons (.par [5, 6] (.cons (.cst (.int 0)) (.cons (.cst (.int 0)) .nil)))
.nil))))
.nil)
(.cons (.whl (.op .gt (.var 7) (.op .sub (.var 3) (.var 5)))
(.cons (.asg 11 (.call 37 (.cons (.op .idx (.var 4) (.cst (.int 2))) (.cons (.op .sub (.var 3) (.var 5)) (.cons (.var 7) .nil)))))
(.cons (.ifs (.and (.op .eq (.var 11) (.cst (.int 0))) (.op .gt (.var 5) (.var 6)))
(.cons (.app 8 (.op .add (.op .sub (.var 3) (.var 5)) (.var 6)))
(.cons (.app 10 (.op .sub (.cst (.int 0)) (.var 6)))
(.cons (.asg 5 (.var 6))
.nil)))
(.cons (.ifs (.and (.op .eq (.var 11) (.cst (.int 0))) (.op .gt (.var 5) (.cst (.int 0))))
(.cons (.app 8 (.op .sub (.var 3) (.var 5)))
(.cons (.app 10 (.cst (.int 0)))
(.cons (.app 9 (.cst (.str (S "left"))))
(.cons (.par [5, 6] (.cons (.cst (.int 0)) (.cons (.cst (.int 0)) .nil)))
.nil))))
(.cons (.ifs (.op .eq (.var 11) (.cst (.int 0)))
(.cons (.asg 11 (.var 3))
(.cons (.app 9 (.ite (.op .isn (.op .idx (.var 4) (.cst (.int 2))) (.cst .non)) (.cst (.str (S "cut"))) (.cst (.str (S "few")))))
.nil))
.nil)
(.cons (.asg 7 (.op .sub (.var 7) (.var 11)))
(.cons (.app 8 (.op .sub (.op .sub (.var 3) (.var 5)) (.var 11)))
(.cons (.app 10 (.op .sub (.op .idx (.var 2) (.cst (.int 1))) (.var 7)))
(.cons (.par [5, 6] (.cons (.cst (.int 0)) (.cons (.cst (.int 0)) .nil)))
.nil))))))
.nil))
.nil)))
(.cons (.asg 12 (.tup (.cons (.op .add (.var 5) (.var 7)) (.cons (.ite (.op .idx (.var 4) (.cst (.int 3))) (.op .add (.var 6) (.var 7)) (.cst (.int 0))) .nil))))
(.cons (.ret 3 (.tup (.cons (.var 12) (.cons (.bi .tuple (.cons (.var 8) .nil)) (.cons (.bi .tuple (.cons (.var 9) .nil)) (.cons (.bi .tuple (.cons (.var 10) .nil)) .nil))))))
.nil))))))))⟩
def t_check_stand : Df := ⟨2, 2, 
(.cons (.ifs (.or (.not (.bi .isTup (.cons (.var 1) .nil))) (.or (.op .ne (.bi .len (.cons (.var 1) .nil)) (.cst (.int 2))) (.not (.call 0 (.cons (.op .idx (.var 1) (.cst (.int 0))) (.cons (.cst (.int 0)) (.cons (.op .idx (.var 0) (.cst (.int 0))) .nil)))))))
(.cons (.raise (S "InvalidStand"))
.nil)
.nil)
(.cons (.ifs (.not (.call 0 (.cons (.op .idx (.var 1) (.cst (.int 1))) (.cons (.cst (.int 0)) (.cons (.op .idx (.var 1) (.cst (.int 0))) .nil)))))
(.cons (.raise (S "InvalidStand"))
.nil)
.nil)
.nil))⟩
def t_after : Df := ⟨3, 3, 
(.cons (.drop (.call 5 (.cons (.var 0) .nil)))
(.cons (.drop (.call 39 (.cons (.var 0) (.cons (.var 1) .nil))))
(.cons (.drop (.call 36 (.cons (.var 0) (.cons (.var 2) .nil))))
(.cons (.ret 3 (.slc (.call 38 (.cons (.var 0) (.cons (.var 1) (.cons (.var 2) .nil)))) .nil (.cons (.cst (.int 3)) .nil)))
.nil))))⟩
def t_check_document : Df := ⟨2, 2, 
(.cons (.ifs (.not (.call 8 (.cons (.var 0) (.cons (.var 1) .nil))))
(.cons (.raise (S "InvalidDocument"))
.nil)
.nil)
.nil)⟩
def t_steps : Df := ⟨2, 5, 
(.cons (.par [2, 3] (.cons (.lst .nil) (.cons (.cst (.tup [(.int 0), (.int 0)])) .nil)))
(.cons (.for (.nm 4) (.seq (.var 1))
(.cons (.app 2 (.call 38 (.cons (.var 0) (.cons (.var 3) (.cons (.var 4) .nil)))))
(.cons (.asg 3 (.op .idx (.op .idx (.var 2) (.bi .neg (.cons (.cst (.int 1)) .nil))) (.cst (.int 0))))
.nil)))
(.cons (.ret 2 (.var 2))
.nil)))⟩
def t_pages_of : Df := ⟨2, 10, 
(.cons (.par [2, 3] (.cons (.lst .nil) (.cons (.cst (.int 0)) .nil)))
(.cons (.for (.tp [(.nm 4), (.nm 5)]) (.zip (.call 45 (.cons (.var 0) (.cons (.var 1) .nil))) (.var 1))
(.cons (.asg 2 (.op .add (.var 2) (.comp (.op .add (.var 3) (.var 6)) (.nm 6) (.seq (.op .idx (.var 4) (.cst (.int 3)))) [6] .nil)))
(.cons (.asg 3 (.op .add (.var 3) (.op .idx (.var 5) (.cst (.int 1)))))
.nil)))
(.cons (.par [7, 8] (.cons (.lst .nil) (.cons (.cst (.int 0)) .nil)))
(.cons (.for (.nm 9) (.seq (.op .add (.var 2) (.op .mul (.lst (.cons (.var 3) .nil)) (.bi .int (.cons (.op .gt (.var 3) (.cst (.int 0))) .nil)))))
(.cons (.app 7 (.call 47 (.cons (.var 1) (.cons (.var 8) (.cons (.var 9) .nil)))))
(.cons (.asg 8 (.var 9))
.nil)))
(.cons (.ret 2 (.var 7))
.nil)))))⟩
def t_pieces : Df := ⟨3, 8, 
(.cons (.par [3, 4] (.cons (.lst .nil) (.cons (.cst (.int 0)) .nil)))
(.cons (.for (.tp [(.nm 5), (.nm 6)]) (.enu (.var 0))
(.cons (.asg 7 (.op .sub (.bi .min2 (.cons (.var 2) (.cons (.op .add (.var 4) (.op .idx (.var 6) (.cst (.int 1)))) .nil))) (.bi .max2 (.cons (.var 1) (.cons (.var 4) .nil)))))
(.cons (.ifs (.op .gt (.var 7) (.cst (.int 0)))
(.cons (.app 3 (.tup (.cons (.var 5) (.cons (.var 7) .nil))))
.nil)
.nil)
(.cons (.asg 4 (.op .add (.var 4) (.op .idx (.var 6) (.cst (.int 1)))))
.nil))))
(.cons (.ret 3 (.bi .tuple (.cons (.var 3) .nil)))
.nil)))⟩
def t_pages_number : Df := ⟨2, 3, 
(.cons (.ret 2 (.op .add (.bi .sum (.cons (.comp (.bi .len (.cons (.op .idx (.var 2) (.cst (.int 1))) .nil)) (.nm 2) (.seq (.call 45 (.cons (.var 0) (.cons (.var 1) .nil)))) [2] .nil) .nil)) (.bi .int (.cons (.op .ne (.var 1) (.tup .nil)) .nil))))
.nil)⟩
def t_broken_in : Df := ⟨2, 6, 
(.cons (.asg 2 (.lst .nil))
(.cons (.for (.tp [(.nm 3), (.nm 4)]) (.enu (.call 45 (.cons (.var 0) (.cons (.var 1) .nil))))
(.cons (.ext 2 (.comp (.tup (.cons (.var 3) (.cons (.var 5) .nil))) (.nm 5) (.seq (.op .idx (.var 4) (.cst (.int 2)))) [5] .nil))
.nil))
(.cons (.ret 2 (.var 2))
.nil)))⟩
def t_pages : Df := ⟨2, 2, 
(.cons (.drop (.call 5 (.cons (.var 0) .nil)))
(.cons (.drop (.call 44 (.cons (.var 0) (.cons (.var 1) .nil))))
(.cons (.ret 2 (.call 46 (.cons (.var 0) (.cons (.var 1) .nil))))
.nil)))⟩
def t_count_pages : Df := ⟨2, 2, 
(.cons (.drop (.call 5 (.cons (.var 0) .nil)))
(.cons (.drop (.call 44 (.cons (.var 0) (.cons (.var 1) .nil))))
(.cons (.ret 2 (.call 48 (.cons (.var 0) (.cons (.var 1) .nil))))
.nil)))⟩
def t_blanks : Df := ⟨2, 4, 
(.cons (.drop (.call 5 (.cons (.var 0) .nil)))
(.cons (.drop (.call 44 (.cons (.var 0) (.cons (.var 1) .nil))))
(.cons (.asg 2 (.lst .nil))
(.cons (.for (.nm 3) (.seq (.call 45 (.cons (.var 0) (.cons (.var 1) .nil))))
(.cons (.ext 2 (.bi .list (.cons (.op .idx (.var 3) (.cst (.int 1))) .nil)))
.nil))
(.cons (.ret 2 (.var 2))
.nil)))))⟩
def t_broken : Df := ⟨2, 2, 
(.cons (.drop (.call 5 (.cons (.var 0) .nil)))
(.cons (.drop (.call 44 (.cons (.var 0) (.cons (.var 1) .nil))))
(.cons (.ret 2 (.call 49 (.cons (.var 0) (.cons (.var 1) .nil))))
.nil)))⟩
def t_stand_of : Df := ⟨2, 3, 
(.cons (.ret 2 (.op .idx (.op .add (.lst (.cons (.cst (.tup [(.int 0), (.int 0)])) .nil)) (.comp (.op .idx (.var 2) (.cst (.int 0))) (.nm 2) (.seq (.call 45 (.cons (.var 0) (.cons (.var 1) .nil)))) [2] .nil)) (.bi .neg (.cons (.cst (.int 1)) .nil))))
.nil)⟩
def t_stand_behind : Df := ⟨2, 2, 
(.cons (.drop (.call 5 (.cons (.var 0) .nil)))
(.cons (.drop (.call 44 (.cons (.var 0) (.cons (.var 1) .nil))))
(.cons (.ret 2 (.call 56 (.cons (.var 0) (.cons (.var 1) .nil))))
.nil)))⟩
def t__law_in_order : Df := ⟨2, 8, 
(.cons (.asg 2 (.lst .nil))
(.cons (.for (.nm 3) (.seq (.var 1))
(.cons (.for (.tp [(.nm 4), (.nm 5)]) (.seq (.var 3))
(.cons (.asg 2 (.op .add (.var 2) (.op .mul (.lst (.cons (.var 4) .nil)) (.var 5))))
.nil))
.nil))
(.cons (.asg 6 (.lst .nil))
(.cons (.for (.nm 7) (.rng1 (.bi .len (.cons (.var 0) .nil)))
(.cons (.asg 6 (.op .add (.var 6) (.op .mul (.lst (.cons (.var 7) .nil)) (.op .idx (.op .idx (.var 0) (.var 7)) (.cst (.int 1))))))
.nil))
(.cons (.ret 2 (.and (.op .eq (.var 2) (.var 6)) (.op .eq (.comp (.var 3) (.nm 3) (.seq (.var 1)) [3] (.cons (.op .eq (.var 3) (.tup .nil)) .nil)) (.lst .nil))))
.nil)))))⟩
def t__law_near : Df := ⟨2, 11, 
(.cons (.unp (.tp [(.nm 2), (.nm 3)]) (.var 1))
(.cons (.par [4, 5] (.cons (.call 13 (.cons (.var 0) (.cons (.bi .len (.cons (.var 3) .nil)) .nil))) (.cons (.call 13 (.cons (.var 0) (.cons (.cst (.int 4)) .nil))) .nil)))
(.cons (.ifs (.op .eq (.var 5) (.cst (.int 0)))
(.cons (.ret 2 (.tup (.cons (.op .add (.cst (.int 2)) (.call 13 (.cons (.var 0) (.cons (.cst (.int 5)) .nil)))) (.cons (.var 3) .nil))))
.nil)
.nil)
(.cons (.unp (.tp [(.nm 6), (.nm 7), (.nm 8), (.nm 9), (.nm 10)]) (.op .idx (.var 3) (.var 4)))
(.cons (.ifs (.op .eq (.var 5) (.cst (.int 1)))
(.cons (.asg 8 (.call 14 (.cons (.var 0) (.cons (.lst (.cons (.cst .non) (.cons (.tup (.cons (.cst (.int 1)) (.cons (.cst (.int 1)) .nil))) (.cons (.tup (.cons (.cst (.int 2)) (.cons (.cst (.int 2)) .nil))) (.cons (.tup (.cons (.cst (.int 1)) (.cons (.cst (.int 3)) .nil))) (.cons (.tup (.cons (.cst (.int 2)) (.cons (.cst (.int 1)) .nil))) .nil)))))) .nil))))
.nil)
.nil)
(.cons (.ifs (.op .eq (.var 5) (.cst (.int 2)))
(.cons (.asg 9 (.not (.var 9)))
.nil)
.nil)
(.cons (.ifs (.op .eq (.var 5) (.cst (.int 3)))
(.cons (.asg 10 (.not (.var 10)))
.nil)
.nil)
(.cons (.ret 2 (.tup (.cons (.var 2) (.cons (.op .add (.op .add (.slc (.var 3) .nil (.cons (.var 4) .nil)) (.tup (.cons (.tup (.cons (.var 6) (.cons (.var 7) (.cons (.var 8) (.cons (.var 9) (.cons (.var 10) .nil)))))) .nil))) (.slc (.var 3) (.cons (.op .add (.var 4) (.cst (.int 1))) .nil) .nil)) .nil))))
.nil))))))))⟩
def t_check_both : Df := ⟨2, 3, 
(.cons (.drop (.call 5 (.cons (.var 0) .nil)))
(.cons (.drop (.call 5 (.cons (.var 1) .nil)))
(.cons (.ifs (.op .ne (.comp (.slc (.var 2) .nil (.cons (.cst (.int 2)) .nil)) (.nm 2) (.seq (.op .idx (.var 0) (.cst (.int 1)))) [2] .nil) (.comp (.slc (.var 2) .nil (.cons (.cst (.int 2)) .nil)) (.nm 2) (.seq (.op .idx (.var 1) (.cst (.int 1)))) [2] .nil))
(.cons (.raise (S "Unlike"))
.nil)
.nil)
.nil)))⟩
def t_parted : Df := ⟨2, 11, 
(.cons (.par [2, 3] (.cons (.dct (.cons (.tup (.cons (.cst (.tup [(.int 0), (.int 0)])) (.cons (.cst (.tup [(.int 0), (.int 0)])) .nil))) .nil) (.cons (.cst (.bl true)) .nil)) (.cons (.lst (.cons (.tup (.cons (.tup (.cons (.cst (.tup [(.int 0), (.int 0)])) (.cons (.cst (.tup [(.int 0), (.int 0)])) .nil))) (.cons (.tup .nil) .nil))) .nil)) .nil)))
(.cons (.whl (.op .ne (.var 3) (.lst .nil))
(.cons (.asg 4 (.lst .nil))
(.cons (.for (.tp [(.nm 5), (.nm 6)]) (.seq (.var 3))
(.cons (.for (.nm 7) (.seq (.call 9 (.cons (.var 0) .nil)))
(.cons (.par [8, 9] (.cons (.call 38 (.cons (.var 0) (.cons (.op .idx (.var 5) (.cst (.int 0))) (.cons (.var 7) .nil)))) (.cons (.call 38 (.cons (.var 1) (.cons (.op .idx (.var 5) (.cst (.int 1))) (.cons (.var 7) .nil)))) .nil)))
(.cons (.ifs (.op .ne (.op .idx (.var 8) (.cst (.int 3))) (.op .idx (.var 9) (.cst (.int 3))))
(.cons (.ret 2 (.op .add (.var 6) (.tup (.cons (.var 7) .nil))))
.nil)
.nil)
(.cons (.asg 10 (.tup (.cons (.op .idx (.var 8) (.cst (.int 0))) (.cons (.op .idx (.var 9) (.cst (.int 0))) .nil))))
(.cons (.ifs (.op .nin (.var 10) (.var 2))
(.cons (.sub 2 (.var 10) (.cst (.bl true)))
(.cons (.app 4 (.tup (.cons (.var 10) (.cons (.op .add (.var 6) (.tup (.cons (.var 7) .nil))) .nil))))
.nil))
.nil)
.nil)))))
.nil))
(.cons (.asg 3 (.var 4))
.nil))))
(.cons (.ret 2 (.cst .non))
.nil)))⟩
def t_are_alike : Df := ⟨2, 2, 
(.cons (.drop (.call 119 (.cons (.var 0) (.cons (.var 1) .nil))))
(.cons (.ret 2 (.op .isn (.call 120 (.cons (.var 0) (.cons (.var 1) .nil))) (.cst .non)))
.nil))⟩
def t_parting_document : Df := ⟨2, 2, 
(.cons (.drop (.call 119 (.cons (.var 0) (.cons (.var 1) .nil))))
(.cons (.ret 2 (.call 120 (.cons (.var 0) (.cons (.var 1) .nil))))
.nil))⟩
def t_taken_back : Df := ⟨3, 6, 
(.cons (.asg 3 (.lst .nil))
(.cons (.for (.nm 4) (.seq (.op .idx (.var 0) (.cst (.int 1))))
(.cons (.ifs (.op .eq (.op .idx (.var 4) (.cst (.int 0))) (.var 1))
(.cons (.asg 5 (.ite (.op .eq (.var 2) (.cst (.str (S "parts")))) (.tup (.cons (.cst (.int 1)) (.cons (.cst (.int 1)) .nil))) (.op .idx (.var 4) (.cst (.int 2)))))
(.cons (.asg 4 (.op .add (.slc (.var 4) .nil (.cons (.cst (.int 2)) .nil)) (.tup (.cons (.var 5) (.cons (.and (.op .idx (.var 4) (.cst (.int 3))) (.op .ne (.var 2) (.cst (.str (S "joins"))))) (.cons (.and (.op .idx (.var 4) (.cst (.int 4))) (.op .ne (.var 2) (.cst (.str (S "opens"))))) .nil))))))
.nil))
.nil)
(.cons (.app 3 (.var 4))
.nil)))
(.cons (.ret 3 (.tup (.cons (.op .idx (.var 0) (.cst (.int 0))) (.cons (.bi .tuple (.cons (.var 3) .nil)) .nil))))
.nil)))⟩
def t_rules_of : Df := ⟨1, 9, 
(.cons (.asg 1 (.lst .nil))
(.cons (.for (.tp [(.nm 2), (.nm 3), (.nm 4), (.nm 5), (.nm 6)]) (.seq (.op .idx (.var 0) (.cst (.int 1))))
(.cons (.for (.tp [(.nm 7), (.nm 8)]) (.zip (.cst (.tup [(.str (S "joins")), (.str (S "opens")), (.str (S "parts"))])) (.tup (.cons (.var 5) (.cons (.var 6) (.cons (.and (.op .notn (.var 4) (.cst .non)) (.op .ne (.var 4) (.tup (.cons (.cst (.int 1)) (.cons (.cst (.int 1)) .nil))))) .nil)))))
(.cons (.ifs (.var 8)
(.cons (.app 1 (.tup (.cons (.var 2) (.cons (.var 7) .nil))))
.nil)
.nil)
.nil))
.nil))
(.cons (.ret 1 (.var 1))
.nil)))⟩
def t_needless_rules : Df := ⟨1, 2, 
(.cons (.drop (.call 5 (.cons (.var 0) .nil)))
(.cons (.ret 1 (.comp (.var 1) (.nm 1) (.seq (.call 125 (.cons (.var 0) .nil))) [1] (.cons (.op .isn (.call 120 (.cons (.var 0) (.cons (.call 124 (.cons (.var 0) (.cons (.op .idx (.var 1) (.cst (.int 0))) (.cons (.op .idx (.var 1) (.cst (.int 1))) .nil)))) .nil))) (.cst .non)) .nil)))
.nil))⟩
def t__law_taken : Df := ⟨3, 7, 
(.cons (.asg 3 (.lst .nil))
(.cons (.for (.nm 4) (.seq (.op .idx (.var 0) (.cst (.int 1))))
(.cons (.asg 5 (.bi .list (.cons (.var 4) .nil)))
(.cons (.ifs (.op .eq (.op .idx (.var 4) (.cst (.int 0))) (.var 1))
(.cons (.asg 6 (.op .add (.mth .index (.lst (.cons (.cst (.str (S "parts"))) (.cons (.cst (.str (S "joins"))) (.cons (.cst (.str (S "opens"))) .nil)))) (.cons (.var 2) .nil)) (.cst (.int 2))))
(.cons (.sub 5 (.var 6) (.ite (.op .eq (.var 2) (.cst (.str (S "parts")))) (.tup (.cons (.cst (.int 1)) (.cons (.cst (.int 1)) .nil))) (.cst (.bl false))))
.nil))
.nil)
(.cons (.app 3 (.bi .tuple (.cons (.var 5) .nil)))
.nil))))
(.cons (.ret 3 (.tup (.cons (.op .idx (.var 0) (.cst (.int 0))) (.cons (.bi .tuple (.cons (.var 3) .nil)) .nil))))
.nil)))⟩
def t_law_k18 : Df := ⟨1, 11, 
(.cons (.for (.nm 1) (.rng1 (.bi .max2 (.cons (.cst (.int 1)) (.cons (.bi .min2 (.cons (.cst (.int 8)) (.cons (.bi .len (.cons (.var 0) .nil)) .nil))) .nil))))
(.cons (.asg 2 (.call 12 (.cons (.var 0) (.cons (.var 1) .nil))))
(.cons (.asg 3 (.call 19 (.cons (.var 2) (.cons (.cst (.int 6)) (.cons (.cst (.int 8)) .nil)))))
(.cons (.asg 4 (.lst (.cons (.call 68 (.cons (.var 2) (.cons (.var 3) .nil))) (.cons (.call 68 (.cons (.var 2) (.cons (.var 3) .nil))) .nil))))
(.cons (.for (.tp [(.nm 5), (.nm 6)]) (.seq (.call 126 (.cons (.var 3) .nil)))
(.cons (.app 4 (.call 131 (.cons (.var 3) (.cons (.var 5) (.cons (.var 6) .nil)))))
(.cons (.ifs (.not (.call 121 (.cons (.var 3) (.cons (.op .idx (.var 4) (.bi .neg (.cons (.cst (.int 1)) .nil))) .nil))))
(.cons (.ret 1 (.cst (.bl false)))
.nil)
.nil)
.nil)))
(.cons (.for (.nm 7) (.seq (.var 4))
(.cons (.asg 8 (.call 122 (.cons (.var 3) (.cons (.var 7) .nil))))
(.cons (.ifs (.op .ne (.op .isn (.var 8) (.cst .non)) (.call 121 (.cons (.var 3) (.cons (.var 7) .nil))))
(.cons (.ret 1 (.cst (.bl false)))
.nil)
.nil)
(.cons (.ifs (.and (.op .notn (.var 8) (.cst .non)) (.or (.op .eq (.call 50 (.cons (.var 3) (.cons (.var 8) .nil))) (.call 50 (.cons (.var 7) (.cons (.var 8) .nil)))) (.op .eq (.var 8) (.tup .nil))))
(.cons (.ret 1 (.cst (.bl false)))
.nil)
.nil)
(.cons (.ifs (.and (.op .notn (.var 8) (.cst .non)) (.op .ne (.call 50 (.cons (.var 3) (.cons (.slc (.var 8) .nil (.cons (.bi .neg (.cons (.cst (.int 1)) .nil)) .nil)) .nil))) (.call 50 (.cons (.var 7) (.cons (.slc (.var 8) .nil (.cons (.bi .neg (.cons (.cst (.int 1)) .nil)) .nil)) .nil)))))
(.cons (.ret 1 (.cst (.bl false)))
.nil)
.nil)
(.cons (.for (.nm 9) (.rng1 (.cst (.int 4)))
(.cons (.asg 10 (.call 21 (.cons (.var 2) (.cons (.var 3) (.cons (.ite (.op .isn (.var 8) (.cst .non)) (.cst (.int 40)) (.op .sub (.bi .len (.cons (.var 8) .nil)) (.cst (.int 1)))) .nil)))))
(.cons (.ifs (.op .ne (.call 50 (.cons (.var 3) (.cons (.var 10) .nil))) (.call 50 (.cons (.var 7) (.cons (.var 10) .nil))))
(.cons (.ret 1 (.cst (.bl false)))
.nil)
.nil)
.nil)))
.nil))))))
.nil))))))
(.cons (.ret 1 (.cst (.bl true)))
.nil))⟩
structure K_is_from (pg : Nat → Option Df) : Prop where
  s : pg 0 = some t_is_from
structure K_is_name (pg : Nat → Option Df) : Prop where
  s : pg 1 = some t_is_name
structure K_are_parts (pg : Nat → Option Df) : Prop where
  s : pg 2 = some t_are_parts
  is_from : K_is_from pg
structure K_is_kind (pg : Nat → Option Df) : Prop where
  s : pg 3 = some t_is_kind
  are_parts : K_are_parts pg
  is_name : K_is_name pg
  is_from : K_is_from pg
structure K_is_book (pg : Nat → Option Df) : Prop where
  s : pg 4 = some t_is_book
  is_from : K_is_from pg
  is_kind : K_is_kind pg
structure K_check_book (pg : Nat → Option Df) : Prop where
  s : pg 5 = some t_check_book
  is_book : K_is_book pg
structure K_kind_of (pg : Nat → Option Df) : Prop where
  s : pg 6 = some t_kind_of
structure K_is_block (pg : Nat → Option Df) : Prop where
  s : pg 7 = some t_is_block
  kind_of : K_kind_of pg
  is_from : K_is_from pg
structure K_is_row (pg : Nat → Option Df) : Prop where
  s : pg 8 = some t_is_row
  is_block : K_is_block pg
structure K_all_blocks (pg : Nat → Option Df) : Prop where
  s : pg 9 = some t_all_blocks
structure K__law_draws (pg : Nat → Option Df) : Prop where
  s : pg 12 = some t__law_draws
structure K__law_draw (pg : Nat → Option Df) : Prop where
  s : pg 13 = some t__law_draw
structure K__law_of (pg : Nat → Option Df) : Prop where
  s : pg 14 = some t__law_of
  _law_draw : K__law_draw pg
structure K__law_names (pg : Nat → Option Df) : Prop where
  s : pg 17 = some t__law_names
  _law_of : K__law_of pg
structure K__law_kind (pg : Nat → Option Df) : Prop where
  s : pg 18 = some t__law_kind
  _law_draw : K__law_draw pg
structure K__law_book (pg : Nat → Option Df) : Prop where
  s : pg 19 = some t__law_book
  _law_names : K__law_names pg
  _law_draw : K__law_draw pg
  _law_kind : K__law_kind pg
structure K__law_blocks (pg : Nat → Option Df) : Prop where
  s : pg 20 = some t__law_blocks
structure K__law_document (pg : Nat → Option Df) : Prop where
  s : pg 21 = some t__law_document
  _law_blocks : K__law_blocks pg
  _law_of : K__law_of pg
  _law_draw : K__law_draw pg
structure K_check_block (pg : Nat → Option Df) : Prop where
  s : pg 36 = some t_check_block
  is_block : K_is_block pg
structure K_greatest_part (pg : Nat → Option Df) : Prop where
  s : pg 37 = some t_greatest_part
structure K_filled (pg : Nat → Option Df) : Prop where
  s : pg 38 = some t_filled
  kind_of : K_kind_of pg
  greatest_part : K_greatest_part pg
structure K_check_stand (pg : Nat → Option Df) : Prop where
  s : pg 39 = some t_check_stand
  is_from : K_is_from pg
structure K_after (pg : Nat → Option Df) : Prop where
  s : pg 40 = some t_after
  check_book : K_check_book pg
  check_stand : K_check_stand pg
  check_block : K_check_block pg
  filled : K_filled pg
structure K_check_document (pg : Nat → Option Df) : Prop where
  s : pg 44 = some t_check_document
  is_row : K_is_row pg
structure K_steps (pg : Nat → Option Df) : Prop where
  s : pg 45 = some t_steps
  filled : K_filled pg
structure K_pieces (pg : Nat → Option Df) : Prop where
  s : pg 47 = some t_pieces
structure K_pages_of (pg : Nat → Option Df) : Prop where
  s : pg 46 = some t_pages_of
  steps : K_steps pg
  pieces : K_pieces pg
structure K_pages_number (pg : Nat → Option Df) : Prop where
  s : pg 48 = some t_pages_number
  steps : K_steps pg
structure K_broken_in (pg : Nat → Option Df) : Prop where
  s : pg 49 = some t_broken_in
  steps : K_steps pg
structure K_pages (pg : Nat → Option Df) : Prop where
  s : pg 50 = some t_pages
  check_book : K_check_book pg
  check_document : K_check_document pg
  pages_of : K_pages_of pg
structure K_count_pages (pg : Nat → Option Df) : Prop where
  s : pg 51 = some t_count_pages
  check_book : K_check_book pg
  check_document : K_check_document pg
  pages_number : K_pages_number pg
structure K_blanks (pg : Nat → Option Df) : Prop where
  s : pg 52 = some t_blanks
  check_book : K_check_book pg
  check_document : K_check_document pg
  steps : K_steps pg
structure K_broken (pg : Nat → Option Df) : Prop where
  s : pg 53 = some t_broken
  check_book : K_check_book pg
  check_document : K_check_document pg
  broken_in : K_broken_in pg
structure K_stand_of (pg : Nat → Option Df) : Prop where
  s : pg 56 = some t_stand_of
  steps : K_steps pg
structure K_stand_behind (pg : Nat → Option Df) : Prop where
  s : pg 57 = some t_stand_behind
  check_book : K_check_book pg
  check_document : K_check_document pg
  stand_of : K_stand_of pg
structure K__law_in_order (pg : Nat → Option Df) : Prop where
  s : pg 58 = some t__law_in_order
structure K__law_near (pg : Nat → Option Df) : Prop where
  s : pg 68 = some t__law_near
  _law_draw : K__law_draw pg
  _law_of : K__law_of pg
structure K_check_both (pg : Nat → Option Df) : Prop where
  s : pg 119 = some t_check_both
  check_book : K_check_book pg
structure K_parted (pg : Nat → Option Df) : Prop where
  s : pg 120 = some t_parted
  all_blocks : K_all_blocks pg
  filled : K_filled pg
structure K_are_alike (pg : Nat → Option Df) : Prop where
  s : pg 121 = some t_are_alike
  check_both : K_check_both pg
  parted : K_parted pg
structure K_parting_document (pg : Nat → Option Df) : Prop where
  s : pg 122 = some t_parting_document
  check_both : K_check_both pg
  parted : K_parted pg
structure K_taken_back (pg : Nat → Option Df) : Prop where
  s : pg 124 = some t_taken_back
structure K_rules_of (pg : Nat → Option Df) : Prop where
  s : pg 125 = some t_rules_of
structure K_needless_rules (pg : Nat → Option Df) : Prop where
  s : pg 126 = some t_needless_rules
  check_book : K_check_book pg
  rules_of : K_rules_of pg
  parted : K_parted pg
  taken_back : K_taken_back pg
structure K__law_taken (pg : Nat → Option Df) : Prop where
  s : pg 131 = some t__law_taken
structure K_law_k18 (pg : Nat → Option Df) : Prop where
  s : pg 35 = some t_law_k18
  _law_draws : K__law_draws pg
  _law_book : K__law_book pg
  needless_rules : K_needless_rules pg
  _law_near : K__law_near pg
  parting_document : K_parting_document pg
  _law_taken : K__law_taken pg
  are_alike : K_are_alike pg
  _law_document : K__law_document pg
  pages : K_pages pg
end
end MP
/-! PA: how the evaluator is stepped. -/
namespace MP.Q
open PySem (Str)
set_option maxRecDepth 100000
abbrev GF := List SV → Out (SV × List SV)
def qTup  (z : List AV × En) : Out (AV × En) := kTup z.1 z.2
theorem u_qTup  {a : List AV} {e : En} : qTup  (a, e) = kTup a e := rfl
def qLst  (z : List AV × En) : Out (AV × En) := kLst z.1 z.2
theorem u_qLst  {a : List AV} {e : En} : qLst  (a, e) = kLst a e := rfl
def qDct2 (x : List AV) (z : List AV × En) : Out (AV × En) := kDct x z.1 z.2
theorem u_qDct2 {x : List AV} {a : List AV} {e : En} : qDct2 x (a, e) = kDct x a e := rfl
def qDct1 (cf : CF) (cl : Nat → LF → List SV → Out (SV × List SV)) (lf : Option LF) (vs : Exs) (z : List AV × En) : Out (AV × En) := (evAs cf cl lf vs z.2).bind (qDct2 z.1)
theorem u_qDct1 {cf : CF} {cl : Nat → LF → List SV → Out (SV × List SV)} {lf : Option LF} {vs : Exs} {a : List AV} {e : En} : qDct1 cf cl lf vs (a, e) = (evAs cf cl lf vs e).bind (qDct2 a) := rfl
def qOp2 (o : Op2) (x : AV) (z : AV × En) : Out (AV × En) := kOp o x z.1 z.2
theorem u_qOp2 {o : Op2} {x : AV} {a : AV} {e : En} : qOp2 o x (a, e) = kOp o x a e := rfl
def qOp1 (cf : CF) (cl : Nat → LF → List SV → Out (SV × List SV)) (lf : Option LF) (o : Op2) (b : Ex) (z : AV × En) : Out (AV × En) := (evA cf cl lf b z.2).bind (qOp2 o z.1)
theorem u_qOp1 {cf : CF} {cl : Nat → LF → List SV → Out (SV × List SV)} {lf : Option LF} {o : Op2} {b : Ex} {a : AV} {e : En} : qOp1 cf cl lf o b (a, e) = (evA cf cl lf b e).bind (qOp2 o a) := rfl
def qCh3 (cf : CF) (cl : Nat → LF → List SV → Out (SV × List SV)) (lf : Option LF) (o2 : Op2) (c : Ex) (y : AV) (e0 : En) (z : Bool) : Out (AV × En) := if z then (evA cf cl lf c e0).bind (qOp2 o2 y) else .ok (.val false (.bl false), e0)
theorem u_qCh3 {cf : CF} {cl : Nat → LF → List SV → Out (SV × List SV)} {lf : Option LF} {o2 : Op2} {c : Ex} {y : AV} {e0 : En} {a : Bool} : qCh3 cf cl lf o2 c y e0 a = if a then (evA cf cl lf c e0).bind (qOp2 o2 y) else .ok (.val false (.bl false), e0) := rfl
def qCh2 (cf : CF) (cl : Nat → LF → List SV → Out (SV × List SV)) (lf : Option LF) (o1 o2 : Op2) (c : Ex) (x : AV) (z : AV × En) : Out (AV × En) := (kCmp o1 x z.1 z.2).bind (qCh3 cf cl lf o2 c z.1 z.2)
theorem u_qCh2 {cf : CF} {cl : Nat → LF → List SV → Out (SV × List SV)} {lf : Option LF} {o1 o2 : Op2} {c : Ex} {x : AV} {a : AV} {e : En} : qCh2 cf cl lf o1 o2 c x (a, e) = (kCmp o1 x a e).bind (qCh3 cf cl lf o2 c a e) := rfl
def qCh1 (cf : CF) (cl : Nat → LF → List SV → Out (SV × List SV)) (lf : Option LF) (o1 o2 : Op2) (b c : Ex) (z : AV × En) : Out (AV × En) := (evA cf cl lf b z.2).bind (qCh2 cf cl lf o1 o2 c z.1)
theorem u_qCh1 {cf : CF} {cl : Nat → LF → List SV → Out (SV × List SV)} {lf : Option LF} {o1 o2 : Op2} {b c : Ex} {a : AV} {e : En} : qCh1 cf cl lf o1 o2 b c (a, e) = (evA cf cl lf b e).bind (qCh2 cf cl lf o1 o2 c a) := rfl
def qBi (b : Bi) (z : List AV × En) : Out (AV × En) := kBi b z.1 z.2
theorem u_qBi {b : Bi} {a : List AV} {e : En} : qBi b (a, e) = kBi b a e := rfl
def qMth2 (b : Bi) (x : AV) (z : List AV × En) : Out (AV × En) := kBi b (x :: z.1) z.2
theorem u_qMth2 {b : Bi} {x : AV} {a : List AV} {e : En} : qMth2 b x (a, e) = kBi b (x :: a) e := rfl
def qMth1 (cf : CF) (cl : Nat → LF → List SV → Out (SV × List SV)) (lf : Option LF) (b : Bi) (es : Exs) (z : AV × En) : Out (AV × En) := if rcv b (z.1.rd z.2) then (evAs cf cl lf es z.2).bind (qMth2 b z.1) else .fail
theorem u_qMth1 {cf : CF} {cl : Nat → LF → List SV → Out (SV × List SV)} {lf : Option LF} {b : Bi} {es : Exs} {a : AV} {e : En} : qMth1 cf cl lf b es (a, e) = if rcv b (a.rd e) then (evAs cf cl lf es e).bind (qMth2 b a) else .fail := rfl
def qSl3 (x : AV) (l : Option Int) (z : Option Int × En) : Out (AV × En) := kSlc x l z.1 z.2
theorem u_qSl3 {x : AV} {l : Option Int} {a : Option Int} {e : En} : qSl3 x l (a, e) = kSlc x l a e := rfl
def qSl2 (cf : CF) (cl : Nat → LF → List SV → Out (SV × List SV)) (lf : Option LF) (hi : Exs) (x : AV) (z : Option Int × En) : Out (AV × En) := (evP cf cl lf hi z.2).bind (qSl3 x z.1)
theorem u_qSl2 {cf : CF} {cl : Nat → LF → List SV → Out (SV × List SV)} {lf : Option LF} {hi : Exs} {x : AV} {a : Option Int} {e : En} : qSl2 cf cl lf hi x (a, e) = (evP cf cl lf hi e).bind (qSl3 x a) := rfl
def qSl1 (cf : CF) (cl : Nat → LF → List SV → Out (SV × List SV)) (lf : Option LF) (lo hi : Exs) (z : AV × En) : Out (AV × En) := (evP cf cl lf lo z.2).bind (qSl2 cf cl lf hi z.1)
theorem u_qSl1 {cf : CF} {cl : Nat → LF → List SV → Out (SV × List SV)} {lf : Option LF} {lo hi : Exs} {a : AV} {e : En} : qSl1 cf cl lf lo hi (a, e) = (evP cf cl lf lo e).bind (qSl2 cf cl lf hi a) := rfl
def qNotP  (z : Bool × En) : Out (AV × En) := kNot z.1 z.2
theorem u_qNotP  {a : Bool} {e : En} : qNotP  (a, e) = kNot a e := rfl
def qTst  (z : AV × En) : Out (AV × En) := (Out.bool z.1 z.2).bind qNotP
theorem u_qTst  {a : AV} {e : En} : qTst  (a, e) = (Out.bool a e).bind qNotP := rfl
def qAnd2 (cf : CF) (cl : Nat → LF → List SV → Out (SV × List SV)) (lf : Option LF) (b : Ex) (z : Bool × En) : Out (AV × En) := if z.1 then (evA cf cl lf b z.2).bind qTst else kNot false z.2
theorem u_qAnd2 {cf : CF} {cl : Nat → LF → List SV → Out (SV × List SV)} {lf : Option LF} {b : Ex} {a : Bool} {e : En} : qAnd2 cf cl lf b (a, e) = if a then (evA cf cl lf b e).bind qTst else kNot false e := rfl
def qAnd1 (cf : CF) (cl : Nat → LF → List SV → Out (SV × List SV)) (lf : Option LF) (b : Ex) (z : AV × En) : Out (AV × En) := (Out.bool z.1 z.2).bind (qAnd2 cf cl lf b)
theorem u_qAnd1 {cf : CF} {cl : Nat → LF → List SV → Out (SV × List SV)} {lf : Option LF} {b : Ex} {a : AV} {e : En} : qAnd1 cf cl lf b (a, e) = (Out.bool a e).bind (qAnd2 cf cl lf b) := rfl
def qOr2 (cf : CF) (cl : Nat → LF → List SV → Out (SV × List SV)) (lf : Option LF) (b : Ex) (z : Bool × En) : Out (AV × En) := if z.1 then kNot true z.2 else (evA cf cl lf b z.2).bind qTst
theorem u_qOr2 {cf : CF} {cl : Nat → LF → List SV → Out (SV × List SV)} {lf : Option LF} {b : Ex} {a : Bool} {e : En} : qOr2 cf cl lf b (a, e) = if a then kNot true e else (evA cf cl lf b e).bind qTst := rfl
def qOr1 (cf : CF) (cl : Nat → LF → List SV → Out (SV × List SV)) (lf : Option LF) (b : Ex) (z : AV × En) : Out (AV × En) := (Out.bool z.1 z.2).bind (qOr2 cf cl lf b)
theorem u_qOr1 {cf : CF} {cl : Nat → LF → List SV → Out (SV × List SV)} {lf : Option LF} {b : Ex} {a : AV} {e : En} : qOr1 cf cl lf b (a, e) = (Out.bool a e).bind (qOr2 cf cl lf b) := rfl
def qNot2  (z : Bool × En) : Out (AV × En) := kNot (!z.1) z.2
theorem u_qNot2  {a : Bool} {e : En} : qNot2  (a, e) = kNot (!a) e := rfl
def qNot1  (z : AV × En) : Out (AV × En) := (Out.bool z.1 z.2).bind qNot2
theorem u_qNot1  {a : AV} {e : En} : qNot1  (a, e) = (Out.bool a e).bind qNot2 := rfl
def qIte2 (cf : CF) (cl : Nat → LF → List SV → Out (SV × List SV)) (lf : Option LF) (x y : Ex) (z : Bool × En) : Out (AV × En) := if z.1 then evA cf cl lf x z.2 else evA cf cl lf y z.2
theorem u_qIte2 {cf : CF} {cl : Nat → LF → List SV → Out (SV × List SV)} {lf : Option LF} {x y : Ex} {a : Bool} {e : En} : qIte2 cf cl lf x y (a, e) = if a then evA cf cl lf x e else evA cf cl lf y e := rfl
def qIte1 (cf : CF) (cl : Nat → LF → List SV → Out (SV × List SV)) (lf : Option LF) (x y : Ex) (z : AV × En) : Out (AV × En) := (Out.bool z.1 z.2).bind (qIte2 cf cl lf x y)
theorem u_qIte1 {cf : CF} {cl : Nat → LF → List SV → Out (SV × List SV)} {lf : Option LF} {x y : Ex} {a : AV} {e : En} : qIte1 cf cl lf x y (a, e) = (Out.bool a e).bind (qIte2 cf cl lf x y) := rfl
def qCall (g : GF) (z : List AV × En) : Out (AV × En) := kCall g z.1 z.2
theorem u_qCall {g : GF} {a : List AV} {e : En} : qCall g (a, e) = kCall g a e := rfl
def qG3 (d x : AV) (z : AV × En) : Out (AV × En) := kGet2 d x z.1 z.2
theorem u_qG3 {d x : AV} {a : AV} {e : En} : qG3 d x (a, e) = kGet2 d x a e := rfl
def qG2 (cf : CF) (cl : Nat → LF → List SV → Out (SV × List SV)) (lf : Option LF) (v : Ex) (d : AV) (z : AV × En) : Out (AV × En) := (evA cf cl lf v z.2).bind (qG3 d z.1)
theorem u_qG2 {cf : CF} {cl : Nat → LF → List SV → Out (SV × List SV)} {lf : Option LF} {v : Ex} {d : AV} {a : AV} {e : En} : qG2 cf cl lf v d (a, e) = (evA cf cl lf v e).bind (qG3 d a) := rfl
def qG1 (cf : CF) (cl : Nat → LF → List SV → Out (SV × List SV)) (lf : Option LF) (x v : Ex) (z : AV × En) : Out (AV × En) := if !isDct (z.1.rd z.2) then .fail else (evA cf cl lf x z.2).bind (qG2 cf cl lf v z.1)
theorem u_qG1 {cf : CF} {cl : Nat → LF → List SV → Out (SV × List SV)} {lf : Option LF} {x v : Ex} {a : AV} {e : En} : qG1 cf cl lf x v (a, e) = if !isDct (a.rd e) then .fail else (evA cf cl lf x e).bind (qG2 cf cl lf v a) := rfl
def qCmE (own : List Nat) (e0 : En) (z : List D × En) : Out (AV × En) := .ok (.val true (.lst z.1), unown e0 z.2 own)
theorem u_qCmE {own : List Nat} {e0 : En} {a : List D} {e : En} : qCmE own e0 (a, e) = .ok (.val true (.lst a), unown e0 e own) := rfl
def qEs2 (x : AV) (z : List AV × En) : Out (List AV × En) := .ok (x :: z.1, z.2)
theorem u_qEs2 {x : AV} {a : List AV} {e : En} : qEs2 x (a, e) = .ok (x :: a, e) := rfl
def qEs1 (cf : CF) (cl : Nat → LF → List SV → Out (SV × List SV)) (lf : Option LF) (es : Exs) (z : AV × En) : Out (List AV × En) := (evAs cf cl lf es z.2).bind (qEs2 z.1)
theorem u_qEs1 {cf : CF} {cl : Nat → LF → List SV → Out (SV × List SV)} {lf : Option LF} {es : Exs} {a : AV} {e : En} : qEs1 cf cl lf es (a, e) = (evAs cf cl lf es e).bind (qEs2 a) := rfl
def qBool  (z : AV × En) : Out (Bool × En) := Out.bool z.1 z.2
theorem u_qBool  {a : AV} {e : En} : qBool  (a, e) = Out.bool a e := rfl
def qPart  (z : AV × En) : Out (Option Int × En) := kPart z.1 z.2
theorem u_qPart  {a : AV} {e : En} : qPart  (a, e) = kPart a e := rfl
def qSq2  (z : D × En) : Out (List D × En) := kSeq z.1 z.2
theorem u_qSq2  {a : D} {e : En} : qSq2  (a, e) = kSeq a e := rfl
def qSq1  (z : AV × En) : Out (List D × En) := (kUse z.1 z.2).bind qSq2
theorem u_qSq1  {a : AV} {e : En} : qSq1  (a, e) = (kUse a e).bind qSq2 := rfl
def qR2  (z : Int × En) : Out (List D × En) := .ok (rng 0 z.1, z.2)
theorem u_qR2  {a : Int} {e : En} : qR2  (a, e) = .ok (rng 0 a, e) := rfl
def qR1  (z : AV × En) : Out (List D × En) := (kInt z.1 z.2).bind qR2
theorem u_qR1  {a : AV} {e : En} : qR1  (a, e) = (kInt a e).bind qR2 := rfl
def qR6 (w : Int) (z : Int × En) : Out (List D × En) := .ok (rng w z.1, z.2)
theorem u_qR6 {w : Int} {a : Int} {e : En} : qR6 w (a, e) = .ok (rng w a, e) := rfl
def qR5 (y : AV) (z : Int × En) : Out (List D × En) := (kInt y z.2).bind (qR6 z.1)
theorem u_qR5 {y : AV} {a : Int} {e : En} : qR5 y (a, e) = (kInt y e).bind (qR6 a) := rfl
def qR4 (x : AV) (z : AV × En) : Out (List D × En) := (kInt x z.2).bind (qR5 z.1)
theorem u_qR4 {x : AV} {a : AV} {e : En} : qR4 x (a, e) = (kInt x e).bind (qR5 a) := rfl
def qR3 (cf : CF) (cl : Nat → LF → List SV → Out (SV × List SV)) (lf : Option LF) (b : Ex) (z : AV × En) : Out (List D × En) := (evA cf cl lf b z.2).bind (qR4 z.1)
theorem u_qR3 {cf : CF} {cl : Nat → LF → List SV → Out (SV × List SV)} {lf : Option LF} {b : Ex} {a : AV} {e : En} : qR3 cf cl lf b (a, e) = (evA cf cl lf b e).bind (qR4 a) := rfl
def qEn2  (z : D × En) : Out (List D × En) := kEnu z.1 z.2
theorem u_qEn2  {a : D} {e : En} : qEn2  (a, e) = kEnu a e := rfl
def qEn1  (z : AV × En) : Out (List D × En) := (kUse z.1 z.2).bind qEn2
theorem u_qEn1  {a : AV} {e : En} : qEn1  (a, e) = (kUse a e).bind qEn2 := rfl
def qZ4 (d : D) (z : D × En) : Out (List D × En) := kZip d z.1 z.2
theorem u_qZ4 {d : D} {a : D} {e : En} : qZ4 d (a, e) = kZip d a e := rfl
def qZ3 (y : AV) (z : D × En) : Out (List D × En) := (kUse y z.2).bind (qZ4 z.1)
theorem u_qZ3 {y : AV} {a : D} {e : En} : qZ3 y (a, e) = (kUse y e).bind (qZ4 a) := rfl
def qZ2 (x : AV) (z : AV × En) : Out (List D × En) := (kUse x z.2).bind (qZ3 z.1)
theorem u_qZ2 {x : AV} {a : AV} {e : En} : qZ2 x (a, e) = (kUse x e).bind (qZ3 a) := rfl
def qZ1 (cf : CF) (cl : Nat → LF → List SV → Out (SV × List SV)) (lf : Option LF) (b : Ex) (z : AV × En) : Out (List D × En) := (evA cf cl lf b z.2).bind (qZ2 z.1)
theorem u_qZ1 {cf : CF} {cl : Nat → LF → List SV → Out (SV × List SV)} {lf : Option LF} {b : Ex} {a : AV} {e : En} : qZ1 cf cl lf b (a, e) = (evA cf cl lf b e).bind (qZ2 a) := rfl
def qI2  (z : D × En) : Out (List D × En) := kItems z.1 z.2
theorem u_qI2  {a : D} {e : En} : qI2  (a, e) = kItems a e := rfl
def qI1  (z : AV × En) : Out (List D × En) := (kUse z.1 z.2).bind qI2
theorem u_qI1  {a : AV} {e : En} : qI1  (a, e) = (kUse a e).bind qI2 := rfl
def qNx  (z : En) : Out (Fw × En) := .ok (.nx, z)
theorem u_qNx  {a : En} : qNx  a = .ok (.nx, a) := rfl
def qAsg (i : Nat) (z : AV × En) : Out (Fw × En) := (bindV z.2 i z.1).bind qNx
theorem u_qAsg {i : Nat} {a : AV} {e : En} : qAsg i (a, e) = (bindV e i a).bind qNx := rfl
def qPar (is : List Nat) (z : List AV × En) : Out (Fw × En) := kPar is z.1 z.2
theorem u_qPar {is : List Nat} {a : List AV} {e : En} : qPar is (a, e) = kPar is a e := rfl
def qU2 (tg : Tg) (z : D × En) : Out (Fw × En) := (tg.set z.2 z.1).bind qNx
theorem u_qU2 {tg : Tg} {a : D} {e : En} : qU2 tg (a, e) = (tg.set e a).bind qNx := rfl
def qU1 (tg : Tg) (z : AV × En) : Out (Fw × En) := (kUse z.1 z.2).bind (qU2 tg)
theorem u_qU1 {tg : Tg} {a : AV} {e : En} : qU1 tg (a, e) = (kUse a e).bind (qU2 tg) := rfl
def qS2 (i : Nat) (x : AV) (z : AV × En) : Out (Fw × En) := kSub i x z.1 z.2
theorem u_qS2 {i : Nat} {x : AV} {a : AV} {e : En} : qS2 i x (a, e) = kSub i x a e := rfl
def qS1 (cf : CF) (cl : Nat → LF → List SV → Out (SV × List SV)) (lf : Option LF) (i : Nat) (k : Ex) (z : AV × En) : Out (Fw × En) := if (z.2.at i).isSome then (evA cf cl lf k z.2).bind (qS2 i z.1) else .fail
theorem u_qS1 {cf : CF} {cl : Nat → LF → List SV → Out (SV × List SV)} {lf : Option LF} {i : Nat} {k : Ex} {a : AV} {e : En} : qS1 cf cl lf i k (a, e) = if (e.at i).isSome then (evA cf cl lf k e).bind (qS2 i a) else .fail := rfl
def qDr  (z : AV × En) : Out (Fw × En) := .ok (.nx, z.2)
theorem u_qDr  {a : AV} {e : En} : qDr  (a, e) = .ok (.nx, e) := rfl
def qApp (i : Nat) (z : AV × En) : Out (Fw × En) := kApp i z.1 z.2
theorem u_qApp {i : Nat} {a : AV} {e : En} : qApp i (a, e) = kApp i a e := rfl
def qExt (i : Nat) (z : AV × En) : Out (Fw × En) := kExt i z.1 z.2
theorem u_qExt {i : Nat} {a : AV} {e : En} : qExt i (a, e) = kExt i a e := rfl
def qIf (cf : CF) (cl : Nat → LF → List SV → Out (SV × List SV)) (lf : Option LF) (x y : Sms) (z : Bool × En) : Out (Fw × En) := if z.1 then evSs cf cl lf x z.2 else evSs cf cl lf y z.2
theorem u_qIf {cf : CF} {cl : Nat → LF → List SV → Out (SV × List SV)} {lf : Option LF} {x y : Sms} {a : Bool} {e : En} : qIf cf cl lf x y (a, e) = if a then evSs cf cl lf x e else evSs cf cl lf y e := rfl
def qRet (np : Nat) (z : AV × En) : Out (Fw × En) := kRet np z.1 z.2
theorem u_qRet {np : Nat} {a : AV} {e : En} : qRet np (a, e) = kRet np a e := rfl
/-- a name's slot may be set -/
def cs (v : Option SV) : Bool := match v with
  | some (.p, _) => false
  | some (.q, _) => false
  | _ => true
theorem canSet_eq {e : En} {i : Nat} : canSet e i = (cs (e.at i) && decide (i < e.length)) := by
  unfold canSet cs
  cases e.at i with
  | none => simp
  | some s => obtain ⟨fl, d⟩ := s; cases fl <;> simp
theorem cs_n : cs none = true := rfl
theorem cs_f {d : D} : cs (some (.f, d)) = true := rfl
theorem cs_o {d : D} : cs (some (.o, d)) = true := rfl
/-- what a loop's name may hold -/
def jk (v : Option D) : Option SV := v.map (Prod.mk .f)
theorem cs_jk {v : Option D} : cs (jk v) = true := by cases v <;> rfl
/-- a body's statement, and what is behind -/
def _root_.MP.Sms.getS : Sms → Nat → Sm
  | .nil, _ => .pass
  | .cons s _, 0 => s
  | .cons _ r, n + 1 => Sms.getS r n
def _root_.MP.Sms.dropS : Sms → Nat → Sms
  | s, 0 => s
  | .nil, _ => .nil
  | .cons _ r, n + 1 => Sms.dropS r n
theorem jk_none : jk none = none := rfl
theorem jk_some {d : D} : jk (some d) = some (.f, d) := rfl
/-- a loop's body -/
def _root_.MP.Sm.forB : Sm → Sms
  | .for _ _ b => b
  | .whl _ b => b
  | _ => .nil
/-- one statement is done: on -/
def kNext (cf : CF) (cl : Nat → LF → List SV → Out (SV × List SV)) (lf : Option LF) (r : Sms) (z : Fw × En) : Out (Fw × En) := match z.1 with
  | .nx => evSs cf cl lf r z.2
  | w => .ok (w, z.2)
def forS (cf : CF) (cl : Nat → LF → List SV → Out (SV × List SV)) (lf : Option LF) (tg : Tg) (b : Sms) (ds : List D) (e : En) : Out (Fw × En) := forF tg (fun e => evSs cf cl lf b e) ds e
def kFor (cf : CF) (cl : Nat → LF → List SV → Out (SV × List SV)) (lf : Option LF) (tg : Tg) (b : Sms) (r : List D × En) : Out (Fw × En) := forS cf cl lf tg b r.1 r.2
def whlS (cf : CF) (cl : Nat → LF → List SV → Out (SV × List SV)) (lf : Option LF) (c : Ex) (b : Sms) (e : En) : Out (Fw × En) := whlF (fun e => evT cf cl lf c e) (fun e => evSs cf cl lf b e) FUEL e
def turnS (cf : CF) (cl : Nat → LF → List SV → Out (SV × List SV)) (lf : Option LF) (elt : Ex) (tg : Tg) (own : List Nat) (cond : Exs) (d : D) (e : En) : Out (Option D × En) := kTurn tg own (fun e => evC cf cl lf cond e) (fun e => evA cf cl lf elt e) d e
def compS (cf : CF) (cl : Nat → LF → List SV → Out (SV × List SV)) (lf : Option LF) (elt : Ex) (tg : Tg) (own : List Nat) (cond : Exs) (ds : List D) (e : En) : Out (List D × En) := compF (turnS cf cl lf elt tg own cond) ds [] e
def kComp (cf : CF) (cl : Nat → LF → List SV → Out (SV × List SV)) (lf : Option LF) (elt : Ex) (tg : Tg) (own : List Nat) (cond : Exs) (r : List D × En) : Out (AV × En) :=
  (compS cf cl lf elt tg own cond r.1 (wipe r.2 own)).bind (qCmE own r.2)
section
variable {cf : CF} {cl : Nat → LF → List SV → Out (SV × List SV)} {lf : Option LF}
theorem at_z {x : Option SV} {e : En} : En.at (x :: e) 0 = x := rfl
theorem at_s {x : Option SV} {e : En} {n : Nat} : En.at (x :: e) (n + 1) = En.at e n := rfl
theorem st_z {α : Type} {x y : α} {e : List α} : List.set (x :: e) 0 y = y :: e := rfl
theorem st_s {α : Type} {x y : α} {e : List α} {n : Nat} : List.set (x :: e) (n + 1) y = x :: List.set e n y := rfl
theorem ln_c {α : Type} {x : α} {e : List α} : List.length (x :: e) = e.length + 1 := rfl
theorem ln_n {α : Type} : List.length ([] : List α) = 0 := rfl
theorem ob_ok {α β : Type} {a : α} {f : α → Out β} : Out.bind (.ok a) f = f a := rfl
theorem ob_exn {α β : Type} {x l e} {f : α → Out β} : Out.bind (.exn x l e : Out α) f = .exn x l e := rfl
theorem nx_ok {α : Type} {a : α} : Out.nox (.ok a) = .ok a := rfl
theorem own_o : Fl.own .o = true := by decide
theorem own_p : Fl.own .p = true := by decide
theorem own_f : Fl.own .f = false := by decide
theorem own_q : Fl.own .q = false := by decide
theorem frz_o : Fl.frz .o = .f := rfl
theorem frz_p : Fl.frz .p = .q := rfl
theorem frz_f : Fl.frz .f = .f := rfl
theorem frz_q : Fl.frz .q = .q := rfl
theorem ev_var {i env} : evA cf cl lf (.var i) env = match env.at i with
    | some (fl, d) => if fl.own then .ok (.slot i, env) else .ok (.val false d, env)
    | none => .fail := by rw [evA] <;> rfl
theorem ev_cst {d env} : evA cf cl lf (.cst d) env = .ok (.val false d, env) := by rw [evA]
theorem ev_tup {es env} : evA cf cl lf (.tup es) env = (evAs cf cl lf es env).bind qTup := by rw [evA] <;> rfl
theorem ev_lst {es env} : evA cf cl lf (.lst es) env = (evAs cf cl lf es env).bind qLst := by rw [evA] <;> rfl
theorem ev_dct {ks vs env} : evA cf cl lf (.dct ks vs) env = (evAs cf cl lf ks env).bind (qDct1 cf cl lf vs) := by rw [evA] <;> rfl
theorem ev_op {o a b env} : evA cf cl lf (.op o a b) env = (evA cf cl lf a env).bind (qOp1 cf cl lf o b) := by rw [evA] <;> rfl
theorem ev_chain {o1 o2 a b c env} : evA cf cl lf (.chain o1 o2 a b c) env = (evA cf cl lf a env).bind (qCh1 cf cl lf o1 o2 b c) := by rw [evA] <;> rfl
theorem ev_bi {b es env} : evA cf cl lf (.bi b es) env = (evAs cf cl lf es env).bind (qBi b) := by rw [evA] <;> rfl
theorem ev_mth {b e es env} : evA cf cl lf (.mth b e es) env = (evA cf cl lf e env).bind (qMth1 cf cl lf b es) := by rw [evA] <;> rfl
theorem ev_slc {a lo hi env} : evA cf cl lf (.slc a lo hi) env = (evA cf cl lf a env).bind (qSl1 cf cl lf lo hi) := by rw [evA] <;> rfl
theorem ev_and {a b env} : evA cf cl lf (.and a b) env = (evA cf cl lf a env).bind (qAnd1 cf cl lf b) := by rw [evA] <;> rfl
theorem ev_or {a b env} : evA cf cl lf (.or a b) env = (evA cf cl lf a env).bind (qOr1 cf cl lf b) := by rw [evA] <;> rfl
theorem ev_not {a env} : evA cf cl lf (.not a) env = (evA cf cl lf a env).bind qNot1 := by rw [evA] <;> rfl
theorem ev_ite {c a b env} : evA cf cl lf (.ite c a b) env = (evA cf cl lf c env).bind (qIte1 cf cl lf a b) := by rw [evA] <;> rfl
theorem ev_call {f es env} : evA cf cl lf (.call f es) env = (evAs cf cl lf es env).bind (qCall (cf f)) := by rw [evA] <;> rfl
theorem ev_pop {i env} : evA cf cl lf (.pop i) env = match ownAt env i with
    | some (fl, .lst ds) => match ds.getLast? with
      | some d => .ok (.val false d, env.set i (some (fl, .lst ds.dropLast)))
      | none => .fail
    | _ => .fail := by rw [evA] <;> rfl
theorem ev_pop0 {i env} : evA cf cl lf (.pop0 i) env = match ownAt env i with
    | some (fl, .lst (d :: ds)) => .ok (.val false d, env.set i (some (fl, .lst ds)))
    | _ => .fail := by rw [evA] <;> rfl
theorem ev_get2 {d k v env} : evA cf cl lf (.get2 d k v) env = (evA cf cl lf d env).bind (qG1 cf cl lf k v) := by rw [evA] <;> rfl
theorem ev_comp {elt tg it own cond env} : evA cf cl lf (.comp elt tg it own cond) env = (evI cf cl lf it env).bind (kComp cf cl lf elt tg own cond) := by rw [evA] <;> rfl
theorem es_nil {env} : evAs cf cl lf .nil env = .ok ([], env) := by rw [evAs]
theorem es_cons {e es env} : evAs cf cl lf (.cons e es) env = (evA cf cl lf e env).bind (qEs1 cf cl lf es) := by rw [evAs] <;> rfl
theorem ec_nil {env} : evC cf cl lf .nil env = .ok (true, env) := by rw [evC]
theorem ec_cons {e es env} : evC cf cl lf (.cons e es) env = (evA cf cl lf e env).bind qBool := by rw [evC] <;> rfl
theorem ep_nil {env} : evP cf cl lf .nil env = .ok (none, env) := by rw [evP]
theorem ep_cons {e es env} : evP cf cl lf (.cons e es) env = (evA cf cl lf e env).bind qPart := by rw [evP] <;> rfl
theorem ei_seq {e env} : evI cf cl lf (.seq e) env = (evA cf cl lf e env).bind qSq1 := by rw [evI] <;> rfl
theorem ei_rng1 {a env} : evI cf cl lf (.rng1 a) env = (evA cf cl lf a env).bind qR1 := by rw [evI] <;> rfl
theorem ei_rng2 {a b env} : evI cf cl lf (.rng2 a b) env = (evA cf cl lf a env).bind (qR3 cf cl lf b) := by rw [evI] <;> rfl
theorem ei_enu {e env} : evI cf cl lf (.enu e) env = (evA cf cl lf e env).bind qEn1 := by rw [evI] <;> rfl
theorem ei_zip {a b env} : evI cf cl lf (.zip a b) env = (evA cf cl lf a env).bind (qZ1 cf cl lf b) := by rw [evI] <;> rfl
theorem ei_items {e env} : evI cf cl lf (.items e) env = (evA cf cl lf e env).bind qI1 := by rw [evI] <;> rfl
theorem et_eq {c env} : evT cf cl lf c env = (evA cf cl lf c env).bind qBool := rfl
theorem ss_nil {env} : evSs cf cl lf .nil env = .ok (.nx, env) := by rw [evSs]
theorem ss_cons {s r env} : evSs cf cl lf (.cons s r) env = (evS cf cl lf s env).bind (kNext cf cl lf r) := by
  rw [evSs]
  rfl
theorem s_asg {i e env} : evS cf cl lf (.asg i e) env = (evA cf cl lf e env).bind (qAsg i) := by rw [evS] <;> rfl
theorem s_par {is es env} : evS cf cl lf (.par is es) env = (evAs cf cl lf es env).bind (qPar is) := by rw [evS] <;> rfl
theorem s_unp {tg e env} : evS cf cl lf (.unp tg e) env = (evA cf cl lf e env).bind (qU1 tg) := by rw [evS] <;> rfl
theorem s_sub {i k e env} : evS cf cl lf (.sub i k e) env = (evA cf cl lf e env).bind (qS1 cf cl lf i k) := by rw [evS] <;> rfl
theorem s_drop {e env} : evS cf cl lf (.drop e) env = (evA cf cl lf e env).bind qDr := by rw [evS] <;> rfl
theorem s_app {i e env} : evS cf cl lf (.app i e) env = if isLst (ownAt env i) then (evA cf cl lf e env).bind (qApp i) else .fail := by rw [evS] <;> rfl
theorem s_ext {i e env} : evS cf cl lf (.ext i e) env = if isLst (ownAt env i) then (evA cf cl lf e env).bind (qExt i) else .fail := by rw [evS] <;> rfl
theorem s_ifs {c a b env} : evS cf cl lf (.ifs c a b) env = (evT cf cl lf c env).bind (qIf cf cl lf a b) := by rw [evS] <;> rfl
theorem s_whl {c b env} : evS cf cl lf (.whl c b) env = whlS cf cl lf c b env := by rw [evS] <;> rfl
theorem s_for {tg it b env} : evS cf cl lf (.for tg it b) env = (evI cf cl lf it env).bind (kFor cf cl lf tg b) := by rw [evS] <;> rfl
theorem s_ret {np e env} : evS cf cl lf (.ret np e) env = (evA cf cl lf e env).bind (qRet np) := by rw [evS] <;> rfl
theorem s_retN {env} : evS cf cl lf .retN env = .ok (.rt (.f, .non), env) := by rw [evS]
theorem s_raise {x env} : evS cf cl lf (.raise x) env = .exn x none env := by rw [evS]
theorem s_pass {env} : evS cf cl lf .pass env = .ok (.nx, env) := by rw [evS]
theorem s_brk {env} : evS cf cl lf .brk env = .ok (.bk, env) := by rw [evS]
theorem s_cnt {env} : evS cf cl lf .cnt env = .ok (.ct, env) := by rw [evS]
theorem kn_nx {r e} : kNext cf cl lf r (.nx, e) = evSs cf cl lf r e := rfl
theorem kn_rt {r s e} : kNext cf cl lf r (.rt s, e) = .ok (.rt s, e) := rfl
theorem kn_bk {r e} : kNext cf cl lf r (.bk, e) = .ok (.bk, e) := rfl
theorem kn_ct {r e} : kNext cf cl lf r (.ct, e) = .ok (.ct, e) := rfl
end
theorem ob_assoc {α β γ : Type} {x : Out α} {f : α → Out β} {g : β → Out γ} : (x.bind f).bind g = x.bind fun a => (f a).bind g := by
  cases x <;> rfl
theorem call_eq {pg : Nat → Option Df} {n f : Nat} {lf : Option LF} {vs : List SV} {d : Df} (h : pg f = some d) :
    callL pg (n + 1) f lf vs = runD (fun g us => callL pg n g none us) (fun g l us => callL pg n g (some l) us) lf d vs := by rw [callL, h]
/-- a def's first names -/
def env1 : List SV → Nat → En
  | [], k => nones k
  | v :: vs, k => some v :: env1 vs k
where nones : Nat → En
  | 0 => []
  | k + 1 => none :: nones k
theorem env1_eq (vs : List SV) (k : Nat) : vs.map some ++ List.replicate k none = env1 vs k := by
  have h : ∀ k, List.replicate k none = env1.nones k := fun k => by
    induction k with
    | zero => rfl
    | succ k ih => rw [List.replicate_succ, ih]; rfl
  induction vs with
  | nil => exact h k
  | cons v vs ih => rw [List.map_cons, List.cons_append, ih]; rfl
def kRun (np : Nat) (r : Fw × En) : Out (SV × List SV) := match r.1 with
    | .nx => .ok ((.f, .non), outsOf r.2 np)
    | .rt s => .ok (s, outsOf r.2 np)
    | _ => .fail
theorem run_eq {cf : CF} {cl : Nat → LF → List SV → Out (SV × List SV)} {lf : Option LF} {d : Df} {vs : List SV} {np ns : Nat} {b : Sms} (e : d = ⟨np, ns, b⟩) (h : vs.length = np) :
    runD cf cl lf d vs = (evSs cf cl lf b (env1 vs (ns - np))).bind (kRun np) := by
  subst e
  unfold runD
  rw [if_pos h, env1_eq]
  rfl
theorem go {pg : Nat → Option Df} {n f : Nat} {lf : Option LF} {vs : List SV} {d : Df} {np ns : Nat} {b : Sms} (h : pg f = some d) (e : d = ⟨np, ns, b⟩) (hl : vs.length = np) :
    callL pg (n + 1) f lf vs = (evSs (fun g us => callL pg n g none us) (fun g l us => callL pg n g (some l) us) lf b (env1 vs (ns - np))).bind (kRun np) := by
  rw [call_eq h, run_eq e hl]
def isNon : D → Bool
  | .non => true
  | _ => false
theorem nn_non : isNon .non = true := by decide
theorem nn_bl {b : Bool} : isNon (.bl b) = false := (rfl)
theorem nn_int {i : Int} : isNon (.int i) = false := (rfl)
theorem nn_str {x : Str} : isNon (.str x) = false := (rfl)
theorem nn_tup {l : List D} : isNon (.tup l) = false := (rfl)
theorem nn_lst {l : List D} : isNon (.lst l) = false := (rfl)
theorem op_isn_non {d : D} : op2 .isn d .non = some (false, .bl (isNon d)) := by cases d <;> rfl
theorem op_notn_non {d : D} : op2 .notn d .non = some (false, .bl (!isNon d)) := by cases d <;> rfl
theorem op_addi {i j : Int} : op2 .add (.int i) (.int j) = some (false, .int (i + j)) := rfl
theorem op_subi {i j : Int} : op2 .sub (.int i) (.int j) = some (false, .int (i - j)) := rfl
theorem op_lti {i j : Int} : op2 .lt (.int i) (.int j) = some (false, .bl (decide (i < j))) := rfl
theorem op_lei {i j : Int} : op2 .le (.int i) (.int j) = some (false, .bl (decide (i ≤ j))) := rfl
theorem op_gti {i j : Int} : op2 .gt (.int i) (.int j) = some (false, .bl (decide (j < i))) := rfl
theorem op_gei {i j : Int} : op2 .ge (.int i) (.int j) = some (false, .bl (decide (j ≤ i))) := rfl
theorem eqv_int {i j : Int} : eqv (.int i) (.int j) = (i == j) := by rw [eqv]
theorem eqv_str {i j : Str} : eqv (.str i) (.str j) = (i == j) := by rw [eqv]
theorem op_eqi {i j : Int} : op2 .eq (.int i) (.int j) = some (false, .bl (i == j)) := by simp [op2, pl, eqv_int]
theorem op_nei {i j : Int} : op2 .ne (.int i) (.int j) = some (false, .bl (!(i == j))) := by simp [op2, pl, eqv_int]
theorem op_eqs {i j : Str} : op2 .eq (.str i) (.str j) = some (false, .bl (i == j)) := by simp [op2, pl, eqv_str]
theorem op_nes {i j : Str} : op2 .ne (.str i) (.str j) = some (false, .bl (!(i == j))) := by simp [op2, pl, eqv_str]
theorem op_tup0 {x : D} {xs : List D} : op2 .idx (.tup (x :: xs)) (.int 0) = some (false, x) := by
  simp [op2, atI]
theorem op_tupn {x : D} {xs : List D} {n : Nat} : op2 .idx (.tup (x :: xs)) (.int ((n : Int) + 1)) = op2 .idx (.tup xs) (.int n) := by
  have e : ((n : Int) + 1).toNat = n + 1 := by omega
  have h0 : (0 : Int) ≤ (n : Int) + 1 := by omega
  have h1 : (0 : Int) ≤ (n : Int) := by omega
  have h2 : ((n : Int) + 1 < ((x :: xs).length : Int)) ↔ ((n : Int) < (xs.length : Int)) := by simp only [List.length_cons]; omega
  simp only [op2, atI, if_pos h0, if_pos h1, e, h2, Int.toNat_natCast, List.getElem?_cons_succ]
theorem op_tup1 {x y : D} {xs : List D} : op2 .idx (.tup (x :: y :: xs)) (.int 1) = some (false, y) := (op_tupn (n := 0)).trans op_tup0
theorem op_tup2 {x y z : D} {xs : List D} : op2 .idx (.tup (x :: y :: z :: xs)) (.int 2) = some (false, z) := (op_tupn (n := 1)).trans op_tup1
theorem op_tup3 {x y z u : D} {xs : List D} : op2 .idx (.tup (x :: y :: z :: u :: xs)) (.int 3) = some (false, u) := (op_tupn (n := 2)).trans op_tup2
theorem op_tup4 {x y z u v : D} {xs : List D} : op2 .idx (.tup (x :: y :: z :: u :: v :: xs)) (.int 4) = some (false, v) := (op_tupn (n := 3)).trans op_tup3
theorem bi_min2 {i j : Int} : bi .min2 [.int i, .int j] = some (false, .int (min i j)) := by
  have : (if j < i then j else i) = min i j := by split <;> omega
  simp only [bi, this]
theorem bi_max2 {i j : Int} : bi .max2 [.int i, .int j] = some (false, .int (max i j)) := by
  have : (if j > i then j else i) = max i j := by split <;> omega
  simp only [bi, this]
theorem bi_int {i : Int} : bi .int [.int i] = some (false, .int i) := rfl
theorem bi_intb {b : Bool} : bi .int [.bl b] = some (false, .int (if b then 1 else 0)) := rfl
theorem bi_neg {i : Int} : bi .neg [.int i] = some (false, .int (-i)) := rfl
theorem bi_lent {l : List D} : bi .len [.tup l] = some (false, .int l.length) := rfl
theorem bi_lenl {l : List D} : bi .len [.lst l] = some (false, .int l.length) := rfl
theorem bi_tupl {l : List D} : bi .tuple [.lst l] = some (false, .tup l) := rfl
theorem bi_tupt {l : List D} : bi .tuple [.tup l] = some (false, .tup l) := rfl
theorem bi_listl {l : List D} : bi .list [.lst l] = some (true, .lst l) := rfl
theorem bi_listt {l : List D} : bi .list [.tup l] = some (true, .lst l) := rfl
theorem fn_true : (false = true) = False := by decide
theorem tt_true : (true = true) = True := by decide
theorem cutD_l {ds : List D} {lo hi : Option Int} : cutD (.lst ds) lo hi = some (true, .lst (cut ds lo hi)) := rfl
theorem cutD_t {ds : List D} {lo hi : Option Int} : cutD (.tup ds) lo hi = some (false, .tup (cut ds lo hi)) := rfl
theorem op_lts {x y : Str} : op2 .lt (.str x) (.str y) = some (false, .bl (decide (x.cps.toList < y.cps.toList))) := rfl
theorem un_nil {a b : En} : unown a b [] = b := rfl
theorem un_cons {a b : En} {i : Nat} {is : List Nat} : unown a b (i :: is) = (unown a b is).set i (a.at i) := rfl
theorem nc0 : ((0 : Nat) : Int) = 0 := rfl
theorem nc1 : ((1 : Nat) : Int) = 1 := rfl
theorem nc2 : ((2 : Nat) : Int) = 2 := rfl
theorem nc3 : ((3 : Nat) : Int) = 3 := rfl
theorem nc4 : ((4 : Nat) : Int) = 4 := rfl
theorem nc5 : ((5 : Nat) : Int) = 5 := rfl
end MP.Q
/-! PB: loops and comprehensions. -/
open Classical in
section
end
namespace MP.Q
open PySem (Str)
set_option maxRecDepth 100000
local macro_rules
  | `(tactic| simp_arith [$xs:simpLemma,*]) => `(tactic| simp -implicitDefEqProofs only [AV.rd, En.frz, AV.use, rds, uses, passA, lent, backA, setV, bindV, takes, bindOs, Tg.set, Tg.sets, seqOf, seqLT, Out.bool, wipe, ownAt, kTup, kLst, kDct, kOp, kCmp, kBi, rcv, isDct, kSlc, kPart, kNot, kCall, kGet2, kUse, kInt, kSeq, kEnu, kZip, kItems, kTurn, kPar, kSub, kApp, isLst, kExt, kRet, outsOf, u_qTup, u_qLst, u_qDct2, u_qDct1, u_qOp2, u_qOp1, u_qCh3, u_qCh2, u_qCh1, u_qBi, u_qMth2, u_qMth1, u_qSl3, u_qSl2, u_qSl1, u_qNotP, u_qTst, u_qAnd2, u_qAnd1, u_qOr2, u_qOr1, u_qNot2, u_qNot1, u_qIte2, u_qIte1, u_qCall, u_qG3, u_qG2, u_qG1, u_qCmE, u_qEs2, u_qEs1, u_qBool, u_qPart, u_qSq2, u_qSq1, u_qR2, u_qR1, u_qR6, u_qR5, u_qR4, u_qR3, u_qEn2, u_qEn1, u_qZ4, u_qZ3, u_qZ2, u_qZ1, u_qI2, u_qI1, u_qNx, u_qAsg, u_qPar, u_qU2, u_qU1, u_qS2, u_qS1, u_qDr, u_qApp, u_qExt, u_qIf, u_qRet, canSet_eq, cs_n, cs_f, cs_o, cs_jk, jk_none, jk_some, kFor, turnS, kComp, at_z, at_s, st_z, st_s, ln_c, ln_n, ob_ok, ob_exn, nx_ok, own_o, own_p, own_f, own_q, frz_o, frz_p, frz_f, frz_q, ev_var, ev_cst, ev_tup, ev_lst, ev_dct, ev_op, ev_chain, ev_bi, ev_mth, ev_slc, ev_and, ev_or, ev_not, ev_ite, ev_call, ev_pop, ev_pop0, ev_get2, ev_comp, es_nil, es_cons, ec_nil, ec_cons, ep_nil, ep_cons, ei_seq, ei_rng1, ei_rng2, ei_enu, ei_zip, ei_items, et_eq, ss_nil, ss_cons, s_asg, s_par, s_unp, s_sub, s_drop, s_app, s_ext, s_ifs, s_whl, s_for, s_ret, s_retN, s_raise, s_pass, s_brk, s_cnt, kn_nx, kn_rt, kn_bk, kn_ct, env1, kRun, nn_non, nn_bl, nn_int, nn_str, nn_tup, nn_lst, op_isn_non, op_notn_non, op_addi, op_subi, op_lti, op_lei, op_gti, op_gei, op_eqi, op_nei, op_eqs, op_nes, op_tup0, op_tup1, op_tup2, op_tup3, op_tup4, bi_min2, bi_max2, bi_int, bi_intb, bi_neg, bi_lent, bi_lenl, bi_tupl, bi_tupt, bi_listl, bi_listt, fn_true, tt_true, cutD_l, cutD_t, op_lts, un_nil, un_cons, nc0, nc1, nc2, nc3, nc4, nc5, env1.nones, ite_true, ite_false, Option.map_some, Option.map_none, Option.getD_some, List.nodup_nil, List.nodup_cons, List.not_mem_nil, not_false_eq_true, true_and, List.isEmpty_nil, id, List.nil_append, List.cons_append, Bool.true_and, Bool.and_true, ↓reduceIte, Nat.reduceSub, Nat.reduceAdd, Nat.reduceLT, Nat.reduceLeDiff, Nat.reduceEqDiff, List.mem_cons, or_false, false_or, and_self, and_true, false_and, and_false, Int.reduceBEq, Int.reduceLE, Int.reduceLT, decide_true, decide_false, decide_eq_true_eq, Bool.not_eq_true', decide_eq_false_iff_not, Bool.not_true, Bool.not_false, Bool.and_eq_true, Bool.or_eq_true, Bool.false_eq_true, Bool.true_eq_false, $xs,*])
theorem comp_go {α : Type} {f : D → En → Out (Option D × En)} {e : α → D} {g : α → Option D} {env : En} :
    ∀ (xs : List α) (acc : List D), (∀ x ∈ xs, f (e x) env = .ok (g x, env)) → acc.length + (xs.filterMap g).length ≤ LINE → compF f (xs.map e) acc env = .ok (acc.reverse ++ xs.filterMap g, env)
  | [], acc, _, _ => by simp [compF]
  | x :: xs, acc, h, hl => by
    rw [List.map_cons, compF, h x (List.mem_cons_self ..), ob_ok]
    cases hg : g x with
    | none =>
      rw [List.filterMap_cons_none hg] at hl ⊢
      exact comp_go xs acc (fun y hy => h y (List.mem_cons_of_mem _ hy)) hl
    | some y =>
      rw [List.filterMap_cons_some hg] at hl ⊢
      simp only [List.length_cons] at hl
      show (if acc.length < LINE then compF f (xs.map e) (y :: acc) env else .fail) = _
      rw [if_pos (by omega)]
      rw [comp_go xs (y :: acc) (fun y hy => h y (List.mem_cons_of_mem _ hy)) (by simp only [List.length_cons]; omega)]
      simp
section
variable {cf : CF} {cl : Nat → LF → List SV → Out (SV × List SV)} {lf : Option LF} {tg : Tg} {own : List Nat} {cond : Exs} {elt : Ex} {env : En}
theorem comp_mapE {α : Type} {ds : List D} (xs : List α) (e : α → D) (g : α → D) (hd : ds = xs.map e) (h : ∀ x ∈ xs, turnS cf cl lf elt tg own cond (e x) env = .ok (some (g x), env)) (hl : xs.length ≤ LINE) :
    compS cf cl lf elt tg own cond ds env = .ok (xs.map g, env) := by
  subst hd
  have := comp_go (f := turnS cf cl lf elt tg own cond) (e := e) (g := fun x => some (g x)) (env := env) xs [] h (by simpa using hl)
  unfold compS
  simpa using this
theorem comp_map {α : Type} {xs : List α} (e : α → D) (g : α → D) (h : ∀ x ∈ xs, turnS cf cl lf elt tg own cond (e x) env = .ok (some (g x), env)) (hl : xs.length ≤ LINE) :
    compS cf cl lf elt tg own cond (xs.map e) env = .ok (xs.map g, env) := comp_mapE xs e g rfl h hl
theorem comp_filterE {α : Type} {ds : List D} (xs : List α) (e : α → D) (g : α → D) (p : α → Bool) (hd : ds = xs.map e) (h : ∀ x ∈ xs, turnS cf cl lf elt tg own cond (e x) env = .ok (if p x then some (g x) else none, env)) (hl : xs.length ≤ LINE) :
    compS cf cl lf elt tg own cond ds env = .ok ((xs.filter p).map g, env) := by
  subst hd
  have hh : xs.filterMap (fun x => if p x then some (g x) else none) = (xs.filter p).map g := by
    clear h hl
    induction xs with
    | nil => rfl
    | cons x xs ih =>
      by_cases hp : p x = true
      · rw [List.filterMap_cons_some (b := g x) (by simp [hp]), List.filter_cons_of_pos hp, ih]; rfl
      · rw [List.filterMap_cons_none (by simp [hp]), List.filter_cons_of_neg hp, ih]
  have hlen : (xs.filterMap (fun x => if p x then some (g x) else none)).length ≤ xs.length := List.length_filterMap_le ..
  have := comp_go (f := turnS cf cl lf elt tg own cond) (e := e) (g := fun x => if p x then some (g x) else none) (env := env) xs [] h (by simp; omega)
  unfold compS
  simpa [hh] using this
end
/-- a for with an invariant over the items done; early returns are told apart -/
theorem for_ret {α : Type} {tg : Tg} {b : En → Out (Fw × En)} (enc : α → D) (P : List α → En → Prop) (Q : List α → α → SV → En → Prop) :
    ∀ (post pre : List α) (env : En), P pre env →
    (∀ pr x po e, pre ++ post = pr ++ x :: po → P pr e → (∃ e', ((tg.set e (enc x)).bind b = .ok (.nx, e') ∨ (tg.set e (enc x)).bind b = .ok (.ct, e')) ∧ P (pr ++ [x]) e') ∨ ∃ s e', (tg.set e (enc x)).bind b = .ok (.rt s, e') ∧ Q pr x s e') →
    (∃ e', forF tg b (post.map enc) env = .ok (.nx, e') ∧ P (pre ++ post) e') ∨ ∃ pr x po s e', pre ++ post = pr ++ x :: po ∧ forF tg b (post.map enc) env = .ok (.rt s, e') ∧ Q pr x s e'
  | [], pre, env, p, h => .inl ⟨env, by rw [List.map_nil, forF], by simpa using p⟩
  | x :: post, pre, env, p, h => by
    have eq : ∀ r, (tg.set env (enc x)).bind b = .ok r → forF tg b ((x :: post).map enc) env = (match r.1 with
        | .nx => forF tg b (post.map enc) r.2
        | .ct => forF tg b (post.map enc) r.2
        | .bk => .ok (.nx, r.2)
        | .rt s => .ok (.rt s, r.2)) := fun r hr => by
      rw [List.map_cons, forF]
      cases hs : tg.set env (enc x) with
      | ok e1 => rw [hs, ob_ok] at hr; rw [ob_ok, hr, ob_ok] <;> rfl
      | exn _ _ _ => rw [hs] at hr; cases hr
      | fail => rw [hs] at hr; cases hr
    rcases h pre x post env rfl p with ⟨e', he, p'⟩ | ⟨s, e', he, q⟩
    · have := for_ret enc P Q post (pre ++ [x]) e' p' (fun pr y po e hh => h pr y po e (by simpa using hh))
      have e2 : forF tg b ((x :: post).map enc) env = forF tg b (post.map enc) e' := by
        rcases he with he | he <;> rw [eq _ he]
      rw [e2]
      simpa using this
    · refine .inr ⟨pre, x, post, s, e', rfl, ?_, q⟩
      rw [eq _ he]
section
variable {cf : CF} {cl : Nat → LF → List SV → Out (SV × List SV)} {lf : Option LF} {tg : Tg} {b : Sms} {env : En} {R : Type} {k : Fw × En → Out R} {res : Out R}
/-- one turn of a for -/
def turnF (cf : CF) (cl : Nat → LF → List SV → Out (SV × List SV)) (lf : Option LF) (tg : Tg) (b : Sms) (e : En) (d : D) : Out (Fw × En) := (tg.set e d).bind (evSs cf cl lf b)
theorem turnF_eq {e d} : turnF cf cl lf tg b e d = (tg.set e d).bind (evSs cf cl lf b) := rfl
theorem for_retB {α : Type} {ds : List D} (xs : List α) (enc : α → D) (P : List α → En → Prop) (Q : List α → α → SV → En → Prop) (hd : ds = xs.map enc) (p : P [] env)
    (h : ∀ pr x po e, xs = pr ++ x :: po → P pr e → (∃ e', (turnF cf cl lf tg b e (enc x) = .ok (.nx, e') ∨ turnF cf cl lf tg b e (enc x) = .ok (.ct, e')) ∧ P (pr ++ [x]) e') ∨ ∃ s e', turnF cf cl lf tg b e (enc x) = .ok (.rt s, e') ∧ Q pr x s e')
    (hn : ∀ e', P xs e' → k (.nx, e') = res) (hr : ∀ pr x po s e', xs = pr ++ x :: po → Q pr x s e' → k (.rt s, e') = res) :
    (forS cf cl lf tg b ds env).bind k = res := by
  subst hd
  rcases for_ret (tg := tg) (b := fun e => evSs cf cl lf b e) enc P Q xs [] env p (fun pr x po e hh pp => h pr x po e (by simpa using hh) pp) with ⟨e', h1, h2⟩ | ⟨pr, x, po, s, e', h0, h1, q⟩
  · unfold forS
    rw [h1, ob_ok]
    exact hn e' (by simpa using h2)
  · unfold forS
    rw [h1, ob_ok]
    exact hr pr x po s e' (by simpa using h0) q
theorem for_invB {α : Type} {ds : List D} (xs : List α) (enc : α → D) (P : List α → En → Prop) (hd : ds = xs.map enc) (p : P [] env)
    (h : ∀ pr x po e, xs = pr ++ x :: po → P pr e → ∃ e', (turnF cf cl lf tg b e (enc x) = .ok (.nx, e') ∨ turnF cf cl lf tg b e (enc x) = .ok (.ct, e')) ∧ P (pr ++ [x]) e')
    (hn : ∀ e', P xs e' → k (.nx, e') = res) :
    (forS cf cl lf tg b ds env).bind k = res :=
  for_retB xs enc P (fun _ _ _ _ => False) hd p (fun pr x po e hh pp => .inl (h pr x po e hh pp)) hn (fun _ _ _ _ _ _ q => q.elim)
theorem for_foldB {α σ : Type} {ds : List D} (xs : List α) (enc : α → D) (step : σ → α → σ) (s0 : σ) (I : σ → En → Prop) (hd : ds = xs.map enc) (p : I s0 env)
    (h : ∀ pr x po e, xs = pr ++ x :: po → I (pr.foldl step s0) e → ∃ e', (turnF cf cl lf tg b e (enc x) = .ok (.nx, e') ∨ turnF cf cl lf tg b e (enc x) = .ok (.ct, e')) ∧ I (step (pr.foldl step s0) x) e')
    (hn : ∀ e', I (xs.foldl step s0) e' → k (.nx, e') = res) :
    (forS cf cl lf tg b ds env).bind k = res :=
  for_invB xs enc (fun pr e => I (pr.foldl step s0) e) hd p (fun pr x po e hh pp => by
    obtain ⟨e', h1, h2⟩ := h pr x po e hh pp
    exact ⟨e', h1, by rw [List.foldl_append]; exact h2⟩) hn
theorem for_rangeB {ds : List D} (c : Nat) (enc : Nat → D) (P : Nat → En → Prop) (hd : ds = (List.range c).map enc) (p : P 0 env)
    (h : ∀ i e, i < c → P i e → ∃ e', (turnF cf cl lf tg b e (enc i) = .ok (.nx, e') ∨ turnF cf cl lf tg b e (enc i) = .ok (.ct, e')) ∧ P (i + 1) e')
    (hn : ∀ e', P c e' → k (.nx, e') = res) :
    (forS cf cl lf tg b ds env).bind k = res := by
  refine for_invB (List.range c) enc (fun pr e => P pr.length e) hd p (fun pr x po e hh pp => ?_) (fun e' pp => hn e' (by simpa using pp))
  have hl : pr.length < c := by
    have := congrArg List.length hh
    simp at this
    omega
  have hx : x = pr.length := by
    have h1 : (List.range c)[pr.length]? = some pr.length := List.getElem?_range hl
    rw [hh, List.getElem?_append_right (Nat.le_refl _)] at h1
    simpa using h1
  subst hx
  obtain ⟨e', h1, h2⟩ := h pr.length e hl pp
  exact ⟨e', h1, by simpa using h2⟩
theorem for_rangeR {ds : List D} (c : Nat) (enc : Nat → D) (P : Nat → En → Prop) (Q : Nat → SV → En → Prop) (hd : ds = (List.range c).map enc) (p : P 0 env)
    (h : ∀ i e, i < c → P i e → (∃ e', (turnF cf cl lf tg b e (enc i) = .ok (.nx, e') ∨ turnF cf cl lf tg b e (enc i) = .ok (.ct, e')) ∧ P (i + 1) e') ∨ ∃ s e', turnF cf cl lf tg b e (enc i) = .ok (.rt s, e') ∧ Q i s e')
    (hn : ∀ e', P c e' → k (.nx, e') = res) (hr : ∀ i s e', i < c → Q i s e' → k (.rt s, e') = res) :
    (forS cf cl lf tg b ds env).bind k = res := by
  refine for_retB (List.range c) enc (fun pr e => P pr.length e) (fun pr _ s e => pr.length < c ∧ Q pr.length s e) hd p (fun pr x po e hh pp => ?_) (fun e' pp => hn e' (by simpa using pp)) (fun pr x po s e' _ q => hr _ s e' q.1 q.2)
  have hl : pr.length < c := by
    have := congrArg List.length hh
    simp at this
    omega
  have hx : x = pr.length := by
    have h1 : (List.range c)[pr.length]? = some pr.length := List.getElem?_range hl
    rw [hh, List.getElem?_append_right (Nat.le_refl _)] at h1
    simpa using h1
  subst hx
  rcases h pr.length e hl pp with ⟨e', h1, h2⟩ | ⟨s, e', h1, h2⟩
  · exact .inl ⟨e', h1, by simpa using h2⟩
  · exact .inr ⟨s, e', h1, hl, h2⟩
theorem for_invX {α : Type} {ds : List D} (xs : List α) (enc : α → D) (P : List α → En → Prop) (hd : ds = xs.map enc) (p : P [] env)
    (h : ∀ pr x po e, xs = pr ++ x :: po → P pr e → ∃ e', (turnF cf cl lf tg b e (enc x) = .ok (.nx, e') ∨ turnF cf cl lf tg b e (enc x) = .ok (.ct, e')) ∧ P (pr ++ [x]) e') :
    ∃ e', forS cf cl lf tg b ds env = .ok (.nx, e') ∧ P xs e' := by
  subst hd
  rcases for_ret (tg := tg) (b := fun e => evSs cf cl lf b e) enc P (fun _ _ _ _ => False) xs [] env p (fun pr x po e hh pp => .inl (h pr x po e (by simpa using hh) pp)) with ⟨e', h1, h2⟩ | ⟨_, _, _, _, _, _, _, q⟩
  · exact ⟨e', h1, by simpa using h2⟩
  · exact q.elim
open Classical in
theorem for_rangeX {ds : List D} (c : Nat) (enc : Nat → D) (P : Nat → En → Prop) (hd : ds = (List.range c).map enc) (p : P 0 env)
    (h : ∀ i e, i < c → P i e → ∃ e', (turnF cf cl lf tg b e (enc i) = .ok (.nx, e') ∨ turnF cf cl lf tg b e (enc i) = .ok (.ct, e')) ∧ P (i + 1) e') :
    ∃ e', forS cf cl lf tg b ds env = .ok (.nx, e') ∧ P c e' := by
  let k : Fw × En → Out (Fw × En) := fun r => .ok r
  have e : forS cf cl lf tg b ds env = (forS cf cl lf tg b ds env).bind k := by cases forS cf cl lf tg b ds env <;> rfl
  by_cases z : ∃ e', forS cf cl lf tg b ds env = .ok (.nx, e') ∧ P c e'
  · exact z
  · have := for_rangeB (k := fun r => if (∃ e', r = (Fw.nx, e') ∧ P c e') then (Out.fail : Out Unit) else .ok ()) (res := .fail) c enc P hd p h (fun e' pp => by rw [if_pos ⟨e', rfl, pp⟩])
    cases hf : forS cf cl lf tg b ds env with
    | ok r =>
      rw [hf, ob_ok] at this
      split at this
      · rename_i hh
        obtain ⟨e', rfl, pp⟩ := hh
        exact ⟨e', rfl, pp⟩
      · cases this
    | exn x l e => rw [hf] at this; cases this
    | fail =>
      exfalso
      have e2 := for_rangeB (k := fun _ => (Out.ok () : Out Unit)) (res := .ok ()) c enc P hd p h (fun e' pp => rfl)
      rw [hf] at e2
      cases e2
end
/-- a state that is gone on with as long as a test holds -/
def iter {σ : Type} (c : σ → Bool) (f : σ → σ) : Nat → σ → σ
  | 0, s => s
  | n + 1, s => if c s then iter c f n (f s) else s
theorem iter_stop {σ : Type} {c : σ → Bool} {f : σ → σ} {s : σ} (h : c s = false) : ∀ n, iter c f n s = s
  | 0 => rfl
  | n + 1 => by rw [iter, h]; rfl
/-- a while by a state and a measure -/
theorem whl_go {σ : Type} {cn : En → Out (Bool × En)} {b : En → Out (Fw × En)} (c : σ → Bool) (f : σ → σ) (μ : σ → Nat) (I : σ → En → Prop)
    (h : ∀ s e, I s e → ∃ e1, cn e = .ok (c s, e1) ∧ (c s = false → I s e1) ∧ (c s = true → ∃ e2, (b e1 = .ok (.nx, e2) ∨ b e1 = .ok (.ct, e2)) ∧ I (f s) e2 ∧ μ (f s) < μ s)) :
    ∀ (n : Nat) (s : σ) (e : En) (m : Nat), μ s ≤ n → μ s < m → I s e → ∃ e', whlF cn b m e = .ok (.nx, e') ∧ I (iter c f n s) e' ∧ c (iter c f n s) = false
  | n, s, e, 0, _, hm, _ => absurd hm (Nat.not_lt_zero _)
  | n, s, e, m + 1, hn, hm, i => by
    obtain ⟨e1, h1, h2, h3⟩ := h s e i
    rw [whlF, h1, ob_ok]
    cases hc : c s with
    | false => exact ⟨e1, rfl, by rw [iter_stop hc]; exact h2 hc, by rw [iter_stop hc]; exact hc⟩
    | true =>
      obtain ⟨e2, h4, h5, h6⟩ := h3 hc
      cases n with
      | zero => omega
      | succ n =>
        obtain ⟨e', g1, g2, g3⟩ := whl_go c f μ I h n (f s) e2 m (by omega) (by omega) h5
        refine ⟨e', ?_, ?_, ?_⟩
        · rcases h4 with h4 | h4 <;> · simp only [if_true, h4, ob_ok]; exact g1
        · rw [iter, hc]; exact g2
        · rw [iter, hc]; exact g3
/-- a while; I: what holds ahead of the test -/
theorem whl_invB {cf : CF} {cl : Nat → LF → List SV → Out (SV × List SV)} {lf : Option LF} {cn : Ex} {b : Sms} {env : En} {R : Type} {k : Fw × En → Out R} {res : Out R} {σ : Type} (s : σ) (c : σ → Bool) (f : σ → σ) (μ : σ → Nat) (I : σ → En → Prop) (n : Nat) (hn : μ s ≤ n) (hf : μ s < FUEL) (i : I s env)
    (h : ∀ s e, I s e → ∃ e1, evT cf cl lf cn e = .ok (c s, e1) ∧ (c s = false → I s e1) ∧ (c s = true → ∃ e2, (evSs cf cl lf b e1 = .ok (.nx, e2) ∨ evSs cf cl lf b e1 = .ok (.ct, e2)) ∧ I (f s) e2 ∧ μ (f s) < μ s))
    (hr : ∀ e', I (iter c f n s) e' → c (iter c f n s) = false → k (.nx, e') = res) :
    (whlS cf cl lf cn b env).bind k = res := by
  obtain ⟨e', h1, h2, h3⟩ := whl_go c f μ I h n s env FUEL hn hf i
  unfold whlS
  rw [h1, ob_ok]
  exact hr e' h2 h3
end MP.Q
/-! PM1: books, by typed mirrors. -/
namespace MP.Q
open PySem (Str)
set_option maxRecDepth 100000
local macro_rules
  | `(tactic| simp_arith [$xs:simpLemma,*]) => `(tactic| simp -implicitDefEqProofs only [AV.rd, En.frz, AV.use, rds, uses, passA, lent, backA, setV, bindV, takes, bindOs, Tg.set, Tg.sets, seqOf, seqLT, Out.bool, wipe, ownAt, kTup, kLst, kDct, kOp, kCmp, kBi, rcv, isDct, kSlc, kPart, kNot, kCall, kGet2, kUse, kInt, kSeq, kEnu, kZip, kItems, kTurn, kPar, kSub, kApp, isLst, kExt, kRet, outsOf, u_qTup, u_qLst, u_qDct2, u_qDct1, u_qOp2, u_qOp1, u_qCh3, u_qCh2, u_qCh1, u_qBi, u_qMth2, u_qMth1, u_qSl3, u_qSl2, u_qSl1, u_qNotP, u_qTst, u_qAnd2, u_qAnd1, u_qOr2, u_qOr1, u_qNot2, u_qNot1, u_qIte2, u_qIte1, u_qCall, u_qG3, u_qG2, u_qG1, u_qCmE, u_qEs2, u_qEs1, u_qBool, u_qPart, u_qSq2, u_qSq1, u_qR2, u_qR1, u_qR6, u_qR5, u_qR4, u_qR3, u_qEn2, u_qEn1, u_qZ4, u_qZ3, u_qZ2, u_qZ1, u_qI2, u_qI1, u_qNx, u_qAsg, u_qPar, u_qU2, u_qU1, u_qS2, u_qS1, u_qDr, u_qApp, u_qExt, u_qIf, u_qRet, canSet_eq, cs_n, cs_f, cs_o, cs_jk, jk_none, jk_some, kFor, turnS, kComp, at_z, at_s, st_z, st_s, ln_c, ln_n, ob_ok, ob_exn, nx_ok, own_o, own_p, own_f, own_q, frz_o, frz_p, frz_f, frz_q, ev_var, ev_cst, ev_tup, ev_lst, ev_dct, ev_op, ev_chain, ev_bi, ev_mth, ev_slc, ev_and, ev_or, ev_not, ev_ite, ev_call, ev_pop, ev_pop0, ev_get2, ev_comp, es_nil, es_cons, ec_nil, ec_cons, ep_nil, ep_cons, ei_seq, ei_rng1, ei_rng2, ei_enu, ei_zip, ei_items, et_eq, ss_nil, ss_cons, s_asg, s_par, s_unp, s_sub, s_drop, s_app, s_ext, s_ifs, s_whl, s_for, s_ret, s_retN, s_raise, s_pass, s_brk, s_cnt, kn_nx, kn_rt, kn_bk, kn_ct, env1, kRun, nn_non, nn_bl, nn_int, nn_str, nn_tup, nn_lst, op_isn_non, op_notn_non, op_addi, op_subi, op_lti, op_lei, op_gti, op_gei, op_eqi, op_nei, op_eqs, op_nes, op_tup0, op_tup1, op_tup2, op_tup3, op_tup4, bi_min2, bi_max2, bi_int, bi_intb, bi_neg, bi_lent, bi_lenl, bi_tupl, bi_tupt, bi_listl, bi_listt, fn_true, tt_true, cutD_l, cutD_t, op_lts, un_nil, un_cons, nc0, nc1, nc2, nc3, nc4, nc5, turnF_eq, env1.nones, ite_true, ite_false, Option.map_some, Option.map_none, Option.getD_some, List.nodup_nil, List.nodup_cons, List.not_mem_nil, not_false_eq_true, true_and, List.isEmpty_nil, id, List.nil_append, List.cons_append, Bool.true_and, Bool.and_true, ↓reduceIte, Nat.reduceSub, Nat.reduceAdd, Nat.reduceLT, Nat.reduceLeDiff, Nat.reduceEqDiff, List.mem_cons, or_false, false_or, and_self, and_true, false_and, and_false, Int.reduceBEq, Int.reduceLE, Int.reduceLT, decide_true, decide_false, decide_eq_true_eq, Bool.not_eq_true', decide_eq_false_iff_not, Bool.not_true, Bool.not_false, Bool.and_eq_true, Bool.or_eq_true, Bool.false_eq_true, Bool.true_eq_false, $xs,*])
set_option maxHeartbeats 1000000
mutual
/-- a value: plain, of depth at most n, texts not too long -/
def vd : D → Nat → Bool
  | .str x, _ => decide (x.length ≤ 1000000)
  | .tup ds, n => match n with | 0 => false | n + 1 => decide (ds.length ≤ 1000000) && vds ds n
  | .lst ds, n => match n with | 0 => false | n + 1 => decide (ds.length ≤ 1000000) && vds ds n
  | .dct _ _, _ => false
  | .fn _, _ => false
  | .fls _, _ => false
  | .non, _ => true
  | .bl _, _ => true
  | .int _, _ => true
def vds : List D → Nat → Bool
  | [], _ => true
  | d :: ds, n => vd d n && vds ds n
end
/-- what stands at a def's name: not a def, a dict or the script -/
def tp : D → Bool
  | .dct _ _ => false
  | .fn _ => false
  | .fls _ => false
  | .str x => decide (x.length ≤ 1000000)
  | _ => true
theorem vd_tp {d : D} {n : Nat} (h : vd d n = true) : tp d = true := by
  cases d <;> simp_all [vd, tp]
theorem vds_mem {ds : List D} {n : Nat} (h : vds ds n = true) : ∀ d ∈ ds, vd d n = true := by
  induction ds with
  | nil => intro d hd; cases hd
  | cons a ds ih =>
    simp only [vds, Bool.and_eq_true] at h
    intro d hd
    rcases List.mem_cons.mp hd with rfl | hd
    · exact h.1
    · exact ih h.2 d hd
theorem vd_tup {ds : List D} {n : Nat} (h : vd (.tup ds) n = true) : ∃ m, n = m + 1 ∧ ds.length ≤ 1000000 ∧ ∀ d ∈ ds, vd d m = true := by
  cases n with
  | zero => simp [vd] at h
  | succ n =>
    simp only [vd, Bool.and_eq_true, decide_eq_true_eq] at h
    exact ⟨n, rfl, h.1, vds_mem h.2⟩
theorem vd_lst {ds : List D} {n : Nat} (h : vd (.lst ds) n = true) : ∃ m, n = m + 1 ∧ ds.length ≤ 1000000 ∧ ∀ d ∈ ds, vd d m = true := by
  cases n with
  | zero => simp [vd] at h
  | succ n =>
    simp only [vd, Bool.and_eq_true, decide_eq_true_eq] at h
    exact ⟨n, rfl, h.1, vds_mem h.2⟩
mutual
theorem vd_pl : ∀ (d : D) (n : Nat), vd d n = true → pl d n = true
  | .str x, n, h => by simp [pl]
  | .tup ds, n, h => by
    cases n with
    | zero => simp [vd] at h
    | succ n =>
      simp only [vd, Bool.and_eq_true, decide_eq_true_eq] at h
      simp only [pl]; exact vds_pls ds n h.2
  | .lst ds, n, h => by
    cases n with
    | zero => simp [vd] at h
    | succ n =>
      simp only [vd, Bool.and_eq_true, decide_eq_true_eq] at h
      simp only [pl]; exact vds_pls ds n h.2
  | .dct _ _, n, h => by simp [vd] at h
  | .fn _, n, h => by simp [vd] at h
  | .fls _, n, h => by simp [vd] at h
  | .non, n, h => by simp [pl]
  | .bl _, n, h => by simp [pl]
  | .int _, n, h => by simp [pl]
theorem vds_pls : ∀ (ds : List D) (n : Nat), vds ds n = true → pls ds n = true
  | [], n, h => by simp [pls]
  | d :: ds, n, h => by
    simp only [vds, Bool.and_eq_true] at h
    simp only [pls, Bool.and_eq_true]
    exact ⟨vd_pl d n h.1, vds_pls ds n h.2⟩
end
def isInt : D → Bool | .int _ => true | .bl _ => true | _ => false
def isBool : D → Bool | .bl _ => true | _ => false
def isStr : D → Bool | .str _ => true | _ => false
def isTup : D → Bool | .tup _ => true | _ => false
def isList : D → Bool | .lst _ => true | _ => false
theorem bi_isInt {d : D} (h : tp d = true) : bi .isInt [d] = some (false, .bl (isInt d)) := by cases d <;> simp_all [bi, tp, isInt]
theorem bi_isBool {d : D} (h : tp d = true) : bi .isBool [d] = some (false, .bl (isBool d)) := by cases d <;> simp_all [bi, tp, isBool]
theorem bi_isStr {d : D} (h : tp d = true) : bi .isStr [d] = some (false, .bl (isStr d)) := by cases d <;> simp_all [bi, tp, isStr]
theorem bi_isTup {d : D} (h : tp d = true) : bi .isTup [d] = some (false, .bl (isTup d)) := by cases d <;> simp_all [bi, tp, isTup]
theorem bi_isList {d : D} (h : tp d = true) : bi .isList [d] = some (false, .bl (isList d)) := by cases d <;> simp_all [bi, tp, isList]
theorem boolsD_map {α : Type} (p : α → Bool) : ∀ xs : List α, boolsD (xs.map fun x => .bl (p x)) = some (xs.map p)
  | [] => rfl
  | x :: xs => by rw [List.map_cons, boolsD, boolsD_map p xs]; rfl
theorem intsD_map {α : Type} (p : α → Int) : ∀ xs : List α, intsD (xs.map fun x => .int (p x)) = some (xs.map p)
  | [] => rfl
  | x :: xs => by rw [List.map_cons, intsD, intsD_map p xs]; rfl
theorem intsD_int : ∀ xs : List Int, intsD (xs.map D.int) = some xs
  | [] => rfl
  | x :: xs => by rw [List.map_cons, intsD, intsD_int xs]; rfl
theorem bi_all {α : Type} (p : α → Bool) (xs : List α) : bi .all [.lst (xs.map fun x => .bl (p x))] = some (false, .bl (xs.all p)) := by
  have : (xs.map p).all id = xs.all p := by induction xs with
    | nil => rfl
    | cons x xs ih => simp [ih]
  simp only [bi, boolsD_map, Option.map_some, this]
theorem bi_sum {α : Type} (p : α → Int) (xs : List α) : bi .sum [.lst (xs.map fun x => .int (p x))] = some (false, .int (xs.map p).sum) := by
  simp only [bi, intsD_map, Option.map_some]
theorem bi_sumI (xs : List Int) : bi .sum [.lst (xs.map D.int)] = some (false, .int xs.sum) := by
  simp only [bi, intsD_int, Option.map_some]
theorem le_line {n : Nat} (h : n ≤ 1000000) : n ≤ LINE := by unfold LINE; omega
theorem bi_lens {x : Str} (h : x.length ≤ 1000000) : bi .len [.str x] = some (false, .int x.length) := by
  simp only [bi]; rw [if_pos (le_line h)]
/-- whether a value is an integer from one to another -/
def fromD (d : D) (lo hi : Int) : Bool := match d with
  | .int i => decide (lo ≤ i) && decide (i ≤ hi)
  | _ => false
section
variable {pg : Nat → Option Df} {n : Nat}
theorem c_is_from (K : K_is_from pg) {d : D} {lo hi : Int} {f1 f2 f3 : Fl} (hd : tp d = true) (h2 : f2.own = false) (h3 : f3.own = false) :
    callL pg (n + 1) 0 none [(f1, d), (f2, .int lo), (f3, .int hi)] = .ok ((.f, .bl (fromD d lo hi)), [(f1, d), (f2, .int lo), (f3, .int hi)]) := by
  rw [go K.s rfl rfl]
  cases d with
  | int i =>
    by_cases h : lo ≤ i
    · cases f1 <;> simp_arith [h2, h3, fromD, bi_isInt hd, bi_isBool hd, isInt, isBool, h]
    · cases f1 <;> simp_arith [h2, h3, fromD, bi_isInt hd, bi_isBool hd, isInt, isBool, h, Bool.false_and]
  | dct _ _ => cases hd
  | fn _ => cases hd
  | fls _ => cases hd
  | _ => cases f1 <;> simp_arith [h2, h3, fromD, bi_isInt hd, bi_isBool hd, isInt, isBool]
def letters : Str := S "abcdefghijklmnopqrstuvwxyz"
def signOk (c : Nat) : Bool := subStr ⟨#[c]⟩ letters
def nameOk (x : Str) : Bool := decide (1 ≤ x.length) && decide (x.length ≤ 8) && x.cps.toList.all signOk
/-- whether a value is a name -/
def nameD (d : D) : Bool := match d with
  | .str x => nameOk x
  | _ => false
theorem cps_len (x : Str) : x.cps.toList.length = x.length := by rfl
theorem c_is_name (K : K_is_name pg) {d : D} {f1 : Fl} (hd : tp d = true) (h1 : f1.own = false) :
    callL pg (n + 1) 1 none [(f1, d)] = .ok ((.f, .bl (nameD d)), [(f1, d)]) := by
  rw [go K.s rfl rfl]
  cases d with
  | str x =>
    have hx : x.length ≤ 1000000 := by simpa [tp] using hd
    by_cases g1 : 1 ≤ x.length
    · by_cases g2 : x.length ≤ 8
      · have h1' : (1 : Int) ≤ x.length := by omega
        have h2' : (x.length : Int) ≤ 8 := by omega
        have e : nameOk x = x.cps.toList.all signOk := by simp [nameOk, g1, g2]
        simp_arith [h1, nameD, bi_isStr hd, isStr, bi_lens hx, h1', h2']
        rw [comp_map (fun c => D.str ⟨#[c]⟩) (fun c => D.bl (signOk c))]
        · simp_arith [bi_all, e]
        · intro c _
          simp_arith [h1, op2, signOk, letters]
        · rw [cps_len]; exact le_line hx
      · have h1' : (1 : Int) ≤ x.length := by omega
        have h2' : ¬ (x.length : Int) ≤ 8 := by omega
        have e : nameOk x = false := by simp [nameOk, g1, g2]
        simp_arith [h1, nameD, bi_isStr hd, isStr, bi_lens hx, h1', h2', e]
    · have h1' : ¬ (1 : Int) ≤ x.length := by omega
      have e : nameOk x = false := by simp [nameOk, g1]
      simp_arith [h1, nameD, bi_isStr hd, isStr, bi_lens hx, h1', e]
  | dct _ _ => cases hd
  | fn _ => cases hd
  | fls _ => cases hd
  | _ => simp_arith [h1, nameD, bi_isStr hd, isStr]
/-- whether a value tells whether a block may be parted -/
def partsD (d : D) : Bool := match d with
  | .non => true
  | .tup [a, b] => fromD a 1 3 && fromD b 1 3
  | _ => false
theorem c_are_parts (K : K_are_parts pg) {d : D} {f1 : Fl} {m : Nat} (hd : vd d m = true) (h1 : f1.own = false) :
    callL pg (n + 2) 2 none [(f1, d)] = .ok ((.f, .bl (partsD d)), [(f1, d)]) := by
  rw [go K.s rfl rfl]
  have ht := vd_tp hd
  cases d with
  | tup ds =>
    obtain ⟨m, rfl, hl, hm⟩ := vd_tup hd
    by_cases g : ds.length = 2
    · match ds, g with
      | [a, b], _ =>
        have g' : ((([a, b] : List D).length : Int) == 2) = true := by rfl
        simp_arith [h1, bi_isTup ht, isTup, g']
        rw [show ([a, b] : List D) = [a, b].map id from rfl, comp_map id (fun d => D.bl (fromD d 1 3))]
        · simp_arith [bi, boolsD, partsD, List.all_cons, List.all_nil, Bool.and_true, List.map_id, id, List.map_cons, List.map_nil]
        · intro x hx
          simp_arith [h1, c_is_from K.is_from (vd_tp (hm x hx)), id]
        · exact le_line hl
    · have e : partsD (.tup ds) = false := by
        match ds, g with
        | [], _ => rfl
        | [_], _ => rfl
        | _ :: _ :: _ :: _, _ => rfl
        | [_, _], g => exact absurd rfl g
      have g' : ((ds.length : Int) == 2) = false := by rw [beq_eq_false_iff_ne]; omega
      simp_arith [h1, bi_isTup ht, isTup, g', e]
  | dct _ _ => cases ht
  | fn _ => cases ht
  | fls _ => cases ht
  | _ => simp_arith [h1, bi_isTup ht, isTup, partsD]
/-- a kind -/
structure Kd where
  nm : Str
  most : Int
  parts : Option (Int × Int)
  joins : Bool
  opens : Bool
structure Bk where
  h : Int
  ks : List Kd
def eO : Option (Int × Int) → D
  | none => .non
  | some (a, b) => .tup [.int a, .int b]
def eK (k : Kd) : D := .tup [.str k.nm, .int k.most, eO k.parts, .bl k.joins, .bl k.opens]
def eBk (b : Bk) : D := .tup [.int b.h, .tup (b.ks.map eK)]
def partsOk : Option (Int × Int) → Bool
  | none => true
  | some (a, b) => decide (1 ≤ a) && decide (a ≤ 3) && (decide (1 ≤ b) && decide (b ≤ 3))
def Kd.ok (k : Kd) : Bool := nameOk k.nm && (decide (1 ≤ k.most) && decide (k.most ≤ 6)) && partsOk k.parts
/-- whether a value is a kind -/
def kindD (d : D) : Bool := match d with
  | .tup [a, b, c, j, o] => nameD a && fromD b 1 6 && partsD c && isBool j && isBool o
  | _ => false
theorem fromD_some {d : D} {lo hi : Int} (h : fromD d lo hi = true) : ∃ i, d = .int i ∧ lo ≤ i ∧ i ≤ hi := by
  cases d <;> simp_all [fromD]
theorem partsD_some {d : D} (h : partsD d = true) : ∃ p, d = eO p ∧ partsOk p = true := by
  unfold partsD at h
  split at h
  · exact ⟨none, rfl, rfl⟩
  · rename_i a b
    simp only [Bool.and_eq_true] at h
    obtain ⟨i, rfl, h1, h2⟩ := fromD_some h.1
    obtain ⟨j, rfl, h3, h4⟩ := fromD_some h.2
    exact ⟨some (i, j), rfl, by simp [partsOk, h1, h2, h3, h4]⟩
  · cases h
theorem kindD_some {d : D} (h : kindD d = true) : ∃ k, d = eK k ∧ k.ok = true := by
  unfold kindD at h
  split at h
  · rename_i a b c j o
    simp only [Bool.and_eq_true] at h
    obtain ⟨⟨⟨⟨h1, h2⟩, h3⟩, h4⟩, h5⟩ := h
    obtain ⟨i, rfl, h6, h7⟩ := fromD_some h2
    obtain ⟨p, rfl, h8⟩ := partsD_some h3
    cases a <;> simp only [nameD, Bool.false_eq_true] at h1
    cases j <;> simp only [isBool, Bool.false_eq_true] at h4
    cases o <;> simp only [isBool, Bool.false_eq_true] at h5
    rename_i x j o
    exact ⟨⟨x, i, p, j, o⟩, rfl, by simp [Kd.ok, h1, h6, h7, h8]⟩
  · cases h
theorem fromD_int {i lo hi : Int} : fromD (.int i) lo hi = (decide (lo ≤ i) && decide (i ≤ hi)) := rfl
theorem partsD_eO (p : Option (Int × Int)) : partsD (eO p) = partsOk p := by
  rcases p with _ | ⟨a, b⟩ <;> rfl
theorem kindD_eK (k : Kd) : kindD (eK k) = k.ok := by
  simp [kindD, eK, nameD, fromD, partsD_eO, isBool, Kd.ok]
theorem c_is_kind (K : K_is_kind pg) {d : D} {f1 : Fl} {m : Nat} (hd : vd d m = true) (h1 : f1.own = false) :
    callL pg (n + 3) 3 none [(f1, d)] = .ok ((.f, .bl (kindD d)), [(f1, d)]) := by
  rw [go K.s rfl rfl]
  have ht := vd_tp hd
  cases d with
  | tup ds =>
    obtain ⟨m, rfl, hl, hm⟩ := vd_tup hd
    by_cases g : ds.length = 5
    · match ds, g with
      | [a, b, c, j, o], _ =>
        have ta := vd_tp (hm a (by simp))
        have tb := vd_tp (hm b (by simp))
        have tc := hm c (by simp)
        have tj := vd_tp (hm j (by simp))
        have to := vd_tp (hm o (by simp))
        have e : kindD (.tup [a, b, c, j, o]) = (nameD a && fromD b 1 6 && partsD c && isBool j && isBool o) := rfl
        simp_arith [h1, bi_isTup ht, isTup, c_is_name K.is_name ta, e]
        cases ha : nameD a with
        | false => simp_arith [h1, Bool.false_and]
        | true =>
          simp_arith [h1, c_is_from K.is_from tb, Bool.true_and]
          cases hb : fromD b 1 6 with
          | false => simp_arith [h1, Bool.false_and]
          | true =>
            simp_arith [h1, c_are_parts K.are_parts tc, Bool.true_and]
            cases hc : partsD c with
            | false => simp_arith [h1, Bool.false_and]
            | true =>
              simp_arith [h1, bi_isBool tj, bi_isBool to, Bool.true_and]
              cases isBool j <;> simp_arith [h1, Bool.true_and, Bool.false_and, bi_isBool to]
    · have e : kindD (.tup ds) = false := by
        match ds, g with
        | [], _ => rfl
        | [_], _ => rfl
        | [_, _], _ => rfl
        | [_, _, _], _ => rfl
        | [_, _, _, _], _ => rfl
        | _ :: _ :: _ :: _ :: _ :: _ :: _, _ => rfl
        | [_, _, _, _, _], g => exact absurd rfl g
      have g' : ((ds.length : Int) == 5) = false := by rw [beq_eq_false_iff_ne]; omega
      simp_arith [h1, bi_isTup ht, isTup, g', e]
  | dct _ _ => cases ht
  | fn _ => cases ht
  | fls _ => cases ht
  | _ => simp_arith [h1, bi_isTup ht, isTup, kindD]
def ltS (x y : Str) : Bool := decide (x.cps.toList < y.cps.toList)
def ascS : List Str → Bool
  | x :: y :: r => ltS x y && ascS (y :: r)
  | _ => true
def Bk.ok (b : Bk) : Bool := decide (2 ≤ b.h) && decide (b.h ≤ 6) && (decide (1 ≤ b.ks.length) && decide (b.ks.length ≤ 3)) && b.ks.all Kd.ok && ascS (b.ks.map Kd.nm) && decide ((b.ks.map Kd.most).sum ≤ 8)
def toKd (d : D) : Option Kd := match d with
  | .tup [.str x, .int m, .non, .bl j, .bl o] => some ⟨x, m, none, j, o⟩
  | .tup [.str x, .int m, .tup [.int a, .int b], .bl j, .bl o] => some ⟨x, m, some (a, b), j, o⟩
  | _ => none
theorem toKd_eK (k : Kd) : toKd (eK k) = some k := by
  obtain ⟨x, m, p, j, o⟩ := k
  rcases p with _ | ⟨a, b⟩ <;> rfl
def toKds : List D → Option (List Kd)
  | [] => some []
  | d :: r => match toKd d, toKds r with
    | some k, some ks => some (k :: ks)
    | _, _ => none
theorem toKds_eK : ∀ ks : List Kd, toKds (ks.map eK) = some ks
  | [] => rfl
  | k :: ks => by rw [List.map_cons, toKds, toKd_eK, toKds_eK ks]
/-- the book that a value is, or nothing -/
def toBk (d : D) : Option Bk := match d with
  | .tup [.int h, .tup ks] => match toKds ks with
    | some l => if (Bk.mk h l).ok then some ⟨h, l⟩ else none
    | none => none
  | _ => none
theorem toKd_some {d : D} {k : Kd} (h : toKd d = some k) : d = eK k := by
  unfold toKd at h
  split at h <;> first | cases h; rfl | cases h
theorem toKds_some : ∀ {ds : List D} {ks : List Kd}, toKds ds = some ks → ds = ks.map eK
  | [], ks, h => by cases h; rfl
  | d :: ds, ks, h => by
    rw [toKds] at h
    split at h
    · rename_i k l h1 h2
      cases h
      rw [toKd_some h1, toKds_some h2]; rfl
    · cases h
theorem toBk_some {d : D} {b : Bk} (h : toBk d = some b) : d = eBk b ∧ b.ok = true := by
  unfold toBk at h
  split at h
  · split at h
    · split at h
      · cases h
        rename_i h1 h2
        exact ⟨by rw [toKds_some h1]; rfl, h2⟩
      · cases h
    · cases h
  · cases h
theorem toBk_eBk {b : Bk} : toBk (eBk b) = if b.ok then some b else none := by
  show (match toKds (b.ks.map eK) with | some l => if (Bk.mk b.h l).ok then some (Bk.mk b.h l) else none | none => none) = _
  rw [toKds_eK]
theorem toKds_none {ds : List D} (h : ds.all kindD = true) : ∃ ks : List Kd, ds = ks.map eK ∧ ks.all Kd.ok = true := by
  induction ds with
  | nil => exact ⟨[], rfl, rfl⟩
  | cons d ds ih =>
    simp only [List.all_cons, Bool.and_eq_true] at h
    obtain ⟨k, rfl, hk⟩ := kindD_some h.1
    obtain ⟨ks, rfl, hks⟩ := ih h.2
    exact ⟨k :: ks, rfl, by simp [hk, hks]⟩
/-- what walking beside the row without the first gives -/
theorem zip_asc (xs : List Str) : (xs.zip (xs.drop 1)).all (fun p => ltS p.1 p.2) = ascS xs := by
  induction xs with
  | nil => rfl
  | cons x xs ih =>
    cases xs with
    | nil => rfl
    | cons y r =>
      simp only [List.drop_succ_cons, List.drop_zero, List.zip_cons_cons, List.all_cons, ascS] at ih ⊢
      rw [ih]
theorem cut1 {α : Type} (xs : List α) : cut xs (some 1) none = xs.drop 1 := by
  unfold cut sIx
  simp only [show ¬ (1 : Int) < 0 by decide, if_false]
  cases xs with
  | nil => rfl
  | cons x xs =>
    rw [show min (1 : Int).toNat (x :: xs).length = 1 by simp]
    simp
theorem c_is_book (K : K_is_book pg) {d : D} {f1 : Fl} {m : Nat} (hd : vd d m = true) :
    callL pg (n + 4) 4 none [(f1, d)] = .ok ((.f, .bl (toBk d).isSome), [(f1, d)]) := by
  rw [go K.s rfl rfl]
  have ht := vd_tp hd
  cases d with
  | tup ds =>
    obtain ⟨m, rfl, hl, hm⟩ := vd_tup hd
    by_cases g : ds.length = 2
    · match ds, g with
      | [a, b], _ =>
        have ta := vd_tp (hm a (by simp))
        have tb := vd_tp (hm b (by simp))
        cases ha : fromD a 2 6 with
        | false =>
          have e : toBk (.tup [a, b]) = none := by
            unfold toBk
            split
            · rename_i h ks e
              cases e
              split
              · rename_i l _
                simp only [fromD, Bool.and_eq_false_iff, decide_eq_false_iff_not] at ha
                rw [if_neg]
                simp only [Bk.ok, Bool.and_eq_true, decide_eq_true_eq]
                omega
              · rfl
            · rfl
          rcases f0 : f1.own with _ | _ <;> simp_arith [f0, bi_isTup ht, isTup, c_is_from K.is_from ta, ha, e, Option.isSome_none]
        | true =>
          obtain ⟨h, rfl, h2, h6⟩ := fromD_some ha
          cases b with
          | tup ks =>
            obtain ⟨m, rfl, kl, km⟩ := vd_tup (hm (.tup ks) (by simp))
            have no : (toKds ks = none ∨ ¬ (1 ≤ ks.length ∧ ks.length ≤ 3)) → toBk (.tup [.int h, .tup ks]) = none := fun hh => by
              show (match toKds ks with | some l => if (Bk.mk h l).ok then some (Bk.mk h l) else none | none => none) = none
              cases ek : toKds ks with
              | none => rfl
              | some l =>
                have := toKds_some ek
                subst this
                rcases hh with hh | hh
                · rw [hh] at ek; cases ek
                · rw [List.length_map] at hh
                  exact if_neg (by simp only [Bk.ok, Bool.and_eq_true, decide_eq_true_eq]; intro z; exact hh ⟨z.1.1.1.2.1, z.1.1.1.2.2⟩)
            by_cases g1 : 1 ≤ ks.length
            · by_cases g3 : ks.length ≤ 3
              · have g1' : (1 : Int) ≤ ks.length := by omega
                have g3' : (ks.length : Int) ≤ 3 := by omega
                have le3 : ks.length ≤ LINE := le_line (by omega)
                cases hk : ks.all kindD with
                | false =>
                  have e : toBk (.tup [.int h, .tup ks]) = none := by
                    cases ek : toKds ks with
                    | none => exact no (.inl ek)
                    | some l =>
                      show (match toKds ks with | some l => if (Bk.mk h l).ok then some (Bk.mk h l) else none | none => none) = none
                      rw [ek]
                      have := toKds_some ek
                      subst this
                      refine if_neg fun z => ?_
                      simp only [Bk.ok, Bool.and_eq_true, decide_eq_true_eq] at z
                      have : (l.map eK).all kindD = l.all Kd.ok := by simp [List.all_map, Function.comp_def, kindD_eK]
                      rw [this, z.1.1.2] at hk
                      cases hk
                  rcases f0 : f1.own with _ | _ <;>
                  · simp_arith [f0, bi_isTup ht, isTup, c_is_from K.is_from ta, ha, e, Option.isSome_none, bi_isTup tb, g1', g3']
                    rw [comp_mapE ks id (fun d => D.bl (kindD d)) (List.map_id ks).symm]
                    · simp_arith [f0, bi_all, hk]
                    · intro x hx
                      simp_arith [f0, c_is_kind K.is_kind (km x hx), id]
                    · exact le3
                | true =>
                  obtain ⟨l, rfl, hall⟩ := toKds_none hk
                  rw [List.length_map] at le3 g1 g3
                  have eb : toBk (.tup [.int h, .tup (l.map eK)]) = if (Bk.mk h l).ok then some ⟨h, l⟩ else none := toBk_eBk (b := ⟨h, l⟩)
                  have ok : (Bk.mk h l).ok = (ascS (l.map Kd.nm) && decide ((l.map Kd.most).sum ≤ 8)) := by
                    simp [Bk.ok, h2, h6, g1, g3, hall]
                  rcases f0 : f1.own with _ | _ <;>
                  · simp_arith [f0, bi_isTup ht, isTup, c_is_from K.is_from ta, ha, bi_isTup tb, g1', g3']
                    rw [comp_mapE (l.map eK) id (fun d => D.bl (kindD d)) (List.map_id _).symm]
                    · simp_arith [f0, bi_all, hk]
                      rw [comp_mapE l eK (fun k => D.str k.nm) rfl]
                      · simp_arith [f0]
                        rw [comp_mapE ((l.map Kd.nm).zip ((l.map Kd.nm).drop 1)) (fun p => D.tup [.str p.1, .str p.2]) (fun p => D.bl (ltS p.1 p.2))]
                        · simp_arith [f0, bi_all, zip_asc]
                          cases hs : ascS (l.map Kd.nm) with
                          | false => simp_arith [f0, eb, ok, hs, Bool.false_and, Option.isSome_none]
                          | true =>
                            simp_arith [f0, eb, ok, hs]
                            rw [comp_mapE l eK (fun k => D.int k.most) rfl]
                            · by_cases h8 : (l.map Kd.most).sum ≤ 8 <;> simp_arith [f0, bi_sum, h8, Option.isSome_some, Option.isSome_none]
                            · intro x _
                              simp_arith [f0, eK]
                            · exact le3
                        · rw [cut1, ← List.map_drop, ← List.map_drop, List.zip_map, List.zip_map, List.map_map, List.map_map]
                          rfl
                        · intro x _
                          simp_arith [f0, ltS]
                        · simp; omega
                      · intro x _
                        simp_arith [f0, eK]
                      · exact le3
                    · intro x hx
                      simp_arith [f0, c_is_kind K.is_kind (km x hx), id]
                    · rw [List.length_map]; exact le3
              · have g1' : (1 : Int) ≤ ks.length := by omega
                have g3' : ¬ (ks.length : Int) ≤ 3 := by omega
                rcases f0 : f1.own with _ | _ <;> simp_arith [f0, bi_isTup ht, isTup, c_is_from K.is_from ta, ha, no (.inr (fun z => g3 z.2)), Option.isSome_none, bi_isTup tb, g1', g3']
            · have g1' : ¬ (1 : Int) ≤ ks.length := by omega
              rcases f0 : f1.own with _ | _ <;> simp_arith [f0, bi_isTup ht, isTup, c_is_from K.is_from ta, ha, no (.inr (fun z => g1 z.1)), Option.isSome_none, bi_isTup tb, g1']
          | dct _ _ => cases tb
          | fn _ => cases tb
          | fls _ => cases tb
          | _ => rcases f0 : f1.own with _ | _ <;> simp_arith [f0, bi_isTup ht, isTup, c_is_from K.is_from ta, ha, toBk, Option.isSome_none, bi_isTup tb]
    · have e : toBk (.tup ds) = none := by
        match ds, g with
        | [], _ => rfl
        | [_], _ => simp [toBk]
        | _ :: _ :: _ :: _, _ => simp [toBk]
        | [_, _], g => exact absurd rfl g
      have g' : ((ds.length : Int) == 2) = false := by rw [beq_eq_false_iff_ne]; omega
      rcases f0 : f1.own with _ | _ <;> simp_arith [f0, bi_isTup ht, isTup, g', e, Option.isSome_none]
  | dct _ _ => cases ht
  | fn _ => cases ht
  | fls _ => cases ht
  | _ => rcases f0 : f1.own with _ | _ <;> simp_arith [f0, bi_isTup ht, isTup, toBk, Option.isSome_none]
end
end MP.Q
/-! PM2: what is checked, and pages filled. -/
namespace MP.Q
open PySem (Str)
set_option maxRecDepth 100000
local macro_rules
  | `(tactic| simp_arith [$xs:simpLemma,*]) => `(tactic| simp -implicitDefEqProofs only [AV.rd, En.frz, AV.use, rds, uses, passA, lent, backA, setV, bindV, takes, bindOs, Tg.set, Tg.sets, seqOf, seqLT, Out.bool, wipe, ownAt, kTup, kLst, kDct, kOp, kCmp, kBi, rcv, isDct, kSlc, kPart, kNot, kCall, kGet2, kUse, kInt, kSeq, kEnu, kZip, kItems, kTurn, kPar, kSub, kApp, isLst, kExt, kRet, outsOf, u_qTup, u_qLst, u_qDct2, u_qDct1, u_qOp2, u_qOp1, u_qCh3, u_qCh2, u_qCh1, u_qBi, u_qMth2, u_qMth1, u_qSl3, u_qSl2, u_qSl1, u_qNotP, u_qTst, u_qAnd2, u_qAnd1, u_qOr2, u_qOr1, u_qNot2, u_qNot1, u_qIte2, u_qIte1, u_qCall, u_qG3, u_qG2, u_qG1, u_qCmE, u_qEs2, u_qEs1, u_qBool, u_qPart, u_qSq2, u_qSq1, u_qR2, u_qR1, u_qR6, u_qR5, u_qR4, u_qR3, u_qEn2, u_qEn1, u_qZ4, u_qZ3, u_qZ2, u_qZ1, u_qI2, u_qI1, u_qNx, u_qAsg, u_qPar, u_qU2, u_qU1, u_qS2, u_qS1, u_qDr, u_qApp, u_qExt, u_qIf, u_qRet, canSet_eq, cs_n, cs_f, cs_o, cs_jk, jk_none, jk_some, kFor, turnS, kComp, at_z, at_s, st_z, st_s, ln_c, ln_n, ob_ok, ob_exn, nx_ok, own_o, own_p, own_f, own_q, frz_o, frz_p, frz_f, frz_q, ev_var, ev_cst, ev_tup, ev_lst, ev_dct, ev_op, ev_chain, ev_bi, ev_mth, ev_slc, ev_and, ev_or, ev_not, ev_ite, ev_call, ev_pop, ev_pop0, ev_get2, ev_comp, es_nil, es_cons, ec_nil, ec_cons, ep_nil, ep_cons, ei_seq, ei_rng1, ei_rng2, ei_enu, ei_zip, ei_items, et_eq, ss_nil, ss_cons, s_asg, s_par, s_unp, s_sub, s_drop, s_app, s_ext, s_ifs, s_whl, s_for, s_ret, s_retN, s_raise, s_pass, s_brk, s_cnt, kn_nx, kn_rt, kn_bk, kn_ct, env1, kRun, nn_non, nn_bl, nn_int, nn_str, nn_tup, nn_lst, op_isn_non, op_notn_non, op_addi, op_subi, op_lti, op_lei, op_gti, op_gei, op_eqi, op_nei, op_eqs, op_nes, op_tup0, op_tup1, op_tup2, op_tup3, op_tup4, bi_min2, bi_max2, bi_int, bi_intb, bi_neg, bi_lent, bi_lenl, bi_tupl, bi_tupt, bi_listl, bi_listt, fn_true, tt_true, cutD_l, cutD_t, op_lts, un_nil, un_cons, nc0, nc1, nc2, nc3, nc4, nc5, turnF_eq, env1.nones, ite_true, ite_false, Option.map_some, Option.map_none, Option.getD_some, List.nodup_nil, List.nodup_cons, List.not_mem_nil, not_false_eq_true, true_and, List.isEmpty_nil, id, List.nil_append, List.cons_append, Bool.true_and, Bool.and_true, ↓reduceIte, Nat.reduceSub, Nat.reduceAdd, Nat.reduceLT, Nat.reduceLeDiff, Nat.reduceEqDiff, List.mem_cons, or_false, false_or, and_self, and_true, false_and, and_false, Int.reduceBEq, Int.reduceLE, Int.reduceLT, decide_true, decide_false, decide_eq_true_eq, Bool.not_eq_true', decide_eq_false_iff_not, Bool.not_true, Bool.not_false, Bool.and_eq_true, Bool.or_eq_true, Bool.false_eq_true, Bool.true_eq_false, $xs,*])
set_option maxHeartbeats 1000000
section
variable {pg : Nat → Option Df} {n : Nat}
/-- what a check does: nothing, or an error -/
def chk (b : Bool) (x : String) (outs : List SV) (env : En) : Out (SV × List SV) := if b then .ok ((.f, .non), outs) else .exn (S x) none env
theorem c_check_book (K : K_check_book pg) {d : D} {f1 : Fl} {m : Nat} (hd : vd d m = true) :
    callL pg (n + 5) 5 none [(f1, d)] = if (toBk d).isSome then .ok ((.f, .non), [(f1, d)]) else .exn (S "InvalidBook") none [some (f1, d)] := by
  rw [go K.s rfl rfl]
  rcases f0 : f1.own with _ | _ <;> cases hb : (toBk d).isSome <;> simp_arith [f0, c_is_book K.is_book hd, hb]
/-- the kind with a name -/
def kindOf (b : Bk) (x : Str) : Option Kd := b.ks.find? fun k => k.nm == x
def oK : Option Kd → D
  | none => .non
  | some k => eK k
theorem c_kind_of (K : K_kind_of pg) {b : Bk} {x : Str} {f1 f2 : Fl} (h1 : f1.own = false) (h2 : f2.own = false) :
    callL pg (n + 1) 6 none [(f1, eBk b), (f2, .str x)] = .ok ((.f, oK (kindOf b x)), [(f1, eBk b), (f2, .str x)]) := by
  rw [go K.s rfl rfl]
  simp_arith [h1, h2, eBk]
  rw [ob_assoc]
  refine for_retB b.ks eK (fun pr e => (∀ k ∈ pr, (k.nm == x) = false) ∧ ∃ v, e = [some (f1, eBk b), some (f2, .str x), jk v])
    (fun pr k s e => s = (.f, eK k) ∧ (k.nm == x) = true ∧ (∀ k ∈ pr, (k.nm == x) = false) ∧ ∃ v, e = [some (f1, eBk b), some (f2, .str x), v]) rfl ⟨by simp, none, rfl⟩ ?_ ?_ ?_
  · rintro pr k po e _ ⟨hp, v, rfl⟩
    cases hk : k.nm == x with
    | false =>
      refine .inl ⟨[some (f1, eBk b), some (f2, .str x), some (.f, eK k)], .inl ?_, fun y hy => ?_, some (eK k), rfl⟩
      · simp_arith [eK, h1, h2, hk]
      · rcases List.mem_append.mp hy with hy | hy
        · exact hp y hy
        · rw [List.mem_singleton.mp hy]; exact hk
    | true =>
      refine .inr ⟨_, _, ?_, rfl, rfl, hp, some (.f, eK k), rfl⟩
      simp_arith [eK, h1, h2, hk]
  · rintro e' ⟨hp, v, rfl⟩
    have e : kindOf b x = none := by
      unfold kindOf
      rw [List.find?_eq_none]
      intro k hk
      rw [hp k hk]
      decide
    simp_arith [e, oK, eBk]
  · rintro pr k po s e' e0 ⟨rfl, hk, hp, v, rfl⟩
    have e : kindOf b x = some k := by
      unfold kindOf
      rw [e0, List.find?_append, List.find?_eq_none.mpr (fun y hy => by rw [hp y hy]; decide)]
      simp [hk]
    simp_arith [e, oK, eBk]
theorem ix_bk0 {b : Bk} : op2 .idx (eBk b) (.int 0) = some (false, .int b.h) := op_tup0
theorem ix_bk1 {b : Bk} : op2 .idx (eBk b) (.int 1) = some (false, .tup (b.ks.map eK)) := op_tup1
theorem ix_k0 {k : Kd} : op2 .idx (eK k) (.int 0) = some (false, .str k.nm) := op_tup0
theorem ix_k1 {k : Kd} : op2 .idx (eK k) (.int 1) = some (false, .int k.most) := op_tup1
theorem ix_k2 {k : Kd} : op2 .idx (eK k) (.int 2) = some (false, eO k.parts) := op_tup2
theorem ix_k3 {k : Kd} : op2 .idx (eK k) (.int 3) = some (false, .bl k.joins) := op_tup3
theorem ix_k4 {k : Kd} : op2 .idx (eK k) (.int 4) = some (false, .bl k.opens) := op_tup4
theorem nn_k {k : Kd} : isNon (eK k) = false := (rfl)
theorem nn_bk {k : Bk} : isNon (eBk k) = false := (rfl)
theorem nn_O {p : Option (Int × Int)} : isNon (eO p) = p.isNone := by rcases p with _ | ⟨a, b⟩ <;> rfl
abbrev Blk := Str × Int
def eB (b : Blk) : D := .tup [.str b.1, .int b.2]
theorem ix_b0 {b : Blk} : op2 .idx (eB b) (.int 0) = some (false, .str b.1) := op_tup0
theorem ix_b1 {b : Blk} : op2 .idx (eB b) (.int 1) = some (false, .int b.2) := op_tup1
local macro_rules
  | `(tactic| simp_arith [$xs:simpLemma,*]) => `(tactic| simp -implicitDefEqProofs only [AV.rd, En.frz, AV.use, rds, uses, passA, lent, backA, setV, bindV, takes, bindOs, Tg.set, Tg.sets, seqOf, seqLT, Out.bool, wipe, ownAt, kTup, kLst, kDct, kOp, kCmp, kBi, rcv, isDct, kSlc, kPart, kNot, kCall, kGet2, kUse, kInt, kSeq, kEnu, kZip, kItems, kTurn, kPar, kSub, kApp, isLst, kExt, kRet, outsOf, u_qTup, u_qLst, u_qDct2, u_qDct1, u_qOp2, u_qOp1, u_qCh3, u_qCh2, u_qCh1, u_qBi, u_qMth2, u_qMth1, u_qSl3, u_qSl2, u_qSl1, u_qNotP, u_qTst, u_qAnd2, u_qAnd1, u_qOr2, u_qOr1, u_qNot2, u_qNot1, u_qIte2, u_qIte1, u_qCall, u_qG3, u_qG2, u_qG1, u_qCmE, u_qEs2, u_qEs1, u_qBool, u_qPart, u_qSq2, u_qSq1, u_qR2, u_qR1, u_qR6, u_qR5, u_qR4, u_qR3, u_qEn2, u_qEn1, u_qZ4, u_qZ3, u_qZ2, u_qZ1, u_qI2, u_qI1, u_qNx, u_qAsg, u_qPar, u_qU2, u_qU1, u_qS2, u_qS1, u_qDr, u_qApp, u_qExt, u_qIf, u_qRet, canSet_eq, cs_n, cs_f, cs_o, cs_jk, jk_none, jk_some, kFor, turnS, kComp, at_z, at_s, st_z, st_s, ln_c, ln_n, ob_ok, ob_exn, nx_ok, own_o, own_p, own_f, own_q, frz_o, frz_p, frz_f, frz_q, ev_var, ev_cst, ev_tup, ev_lst, ev_dct, ev_op, ev_chain, ev_bi, ev_mth, ev_slc, ev_and, ev_or, ev_not, ev_ite, ev_call, ev_pop, ev_pop0, ev_get2, ev_comp, es_nil, es_cons, ec_nil, ec_cons, ep_nil, ep_cons, ei_seq, ei_rng1, ei_rng2, ei_enu, ei_zip, ei_items, et_eq, ss_nil, ss_cons, s_asg, s_par, s_unp, s_sub, s_drop, s_app, s_ext, s_ifs, s_whl, s_for, s_ret, s_retN, s_raise, s_pass, s_brk, s_cnt, kn_nx, kn_rt, kn_bk, kn_ct, env1, kRun, nn_non, nn_bl, nn_int, nn_str, nn_tup, nn_lst, op_isn_non, op_notn_non, op_addi, op_subi, op_lti, op_lei, op_gti, op_gei, op_eqi, op_nei, op_eqs, op_nes, op_tup0, op_tup1, op_tup2, op_tup3, op_tup4, bi_min2, bi_max2, bi_int, bi_intb, bi_neg, bi_lent, bi_lenl, bi_tupl, bi_tupt, bi_listl, bi_listt, fn_true, tt_true, cutD_l, cutD_t, op_lts, un_nil, un_cons, nc0, nc1, nc2, nc3, nc4, nc5, turnF_eq, ix_bk0, ix_bk1, ix_k0, ix_k1, ix_k2, ix_k3, ix_k4, nn_k, nn_bk, nn_O, ix_b0, ix_b1, env1.nones, ite_true, ite_false, Option.map_some, Option.map_none, Option.getD_some, List.nodup_nil, List.nodup_cons, List.not_mem_nil, not_false_eq_true, true_and, List.isEmpty_nil, id, List.nil_append, List.cons_append, Bool.true_and, Bool.and_true, ↓reduceIte, Nat.reduceSub, Nat.reduceAdd, Nat.reduceLT, Nat.reduceLeDiff, Nat.reduceEqDiff, List.mem_cons, or_false, false_or, and_self, and_true, false_and, and_false, Int.reduceBEq, Int.reduceLE, Int.reduceLT, decide_true, decide_false, decide_eq_true_eq, Bool.not_eq_true', decide_eq_false_iff_not, Bool.not_true, Bool.not_false, Bool.and_eq_true, Bool.or_eq_true, Bool.false_eq_true, Bool.true_eq_false, $xs,*])
abbrev eDoc (l : List Blk) : D := .tup (l.map eB)
def blockD (b : Bk) (d : D) : Bool := match d with
  | .tup [.str x, v] => match kindOf b x with
    | some k => fromD v 1 k.most
    | none => false
  | _ => false
def rowD (b : Bk) (d : D) : Bool := match d with
  | .tup ds => ds.all (blockD b)
  | _ => false
def blkOk (b : Bk) (l : Blk) : Bool := match kindOf b l.1 with
  | some k => decide (1 ≤ l.2) && decide (l.2 ≤ k.most)
  | none => false
theorem blockD_eB {b : Bk} {l : Blk} : blockD b (eB l) = blkOk b l := rfl
theorem rowD_eDoc {b : Bk} {l : List Blk} : rowD b (eDoc l) = l.all (blkOk b) := by
  show (l.map eB).all (blockD b) = _
  rw [List.all_map]; rfl
theorem blockD_some {b : Bk} {d : D} (h : blockD b d = true) : ∃ l, d = eB l ∧ blkOk b l = true := by
  unfold blockD at h
  split at h
  · rename_i x v
    split at h
    · rename_i k hk
      obtain ⟨i, rfl, h1, h2⟩ := fromD_some h
      exact ⟨(x, i), rfl, by simp [blkOk, hk, h1, h2]⟩
    · cases h
  · cases h
theorem c_is_block (K : K_is_block pg) {b : Bk} {d : D} {f1 f2 : Fl} {m : Nat} (hd : vd d m = true) (h1 : f1.own = false) :
    callL pg (n + 2) 7 none [(f1, eBk b), (f2, d)] = .ok ((.f, .bl (blockD b d)), [(f1, eBk b), (f2, d)]) := by
  rw [go K.s rfl rfl]
  have ht := vd_tp hd
  cases d with
  | tup ds =>
    obtain ⟨m, rfl, hl, hm⟩ := vd_tup hd
    by_cases g : ds.length = 2
    · match ds, g with
      | [a, v], _ =>
        have ta := vd_tp (hm a (by simp))
        have tv := vd_tp (hm v (by simp))
        cases a with
        | str x =>
          cases hk : kindOf b x with
          | none => rcases f0 : f2.own with _ | _ <;> simp_arith [f0, h1, bi_isTup ht, isTup, bi_isStr ta, isStr, c_kind_of K.kind_of, hk, oK, blockD]
          | some k =>
            have e : blockD b (.tup [.str x, v]) = fromD v 1 k.most := by
              show (match kindOf b x with | some k => fromD v 1 k.most | none => false) = _
              rw [hk]
            rcases f0 : f2.own with _ | _ <;> simp_arith [f0, h1, bi_isTup ht, isTup, bi_isStr ta, isStr, c_kind_of K.kind_of, hk, oK, eK, c_is_from K.is_from tv, e]
        | dct _ _ => cases ta
        | fn _ => cases ta
        | fls _ => cases ta
        | _ => rcases f0 : f2.own with _ | _ <;> simp_arith [f0, h1, bi_isTup ht, isTup, bi_isStr ta, isStr, blockD]
    · have e : blockD b (.tup ds) = false := by
        match ds, g with
        | [], _ => rfl
        | [_], _ => simp [blockD]
        | _ :: _ :: _ :: _, _ => simp [blockD]
        | [_, _], g => exact absurd rfl g
      have g' : ((ds.length : Int) == 2) = false := by rw [beq_eq_false_iff_ne]; omega
      rcases f0 : f2.own with _ | _ <;> simp_arith [f0, h1, bi_isTup ht, isTup, g', e]
  | dct _ _ => cases ht
  | fn _ => cases ht
  | fls _ => cases ht
  | _ => rcases f0 : f2.own with _ | _ <;> simp_arith [f0, h1, bi_isTup ht, isTup, blockD]
theorem c_check_block (K : K_check_block pg) {b : Bk} {d : D} {f1 f2 : Fl} {m : Nat} (hd : vd d m = true) (h1 : f1.own = false) :
    callL pg (n + 3) 36 none [(f1, eBk b), (f2, d)] = if blockD b d then .ok ((.f, .non), [(f1, eBk b), (f2, d)]) else .exn (S "InvalidBlock") none [some (f1, eBk b), some (f2, d)] := by
  rw [go K.s rfl rfl]
  rcases f0 : f2.own with _ | _ <;> cases hb : blockD b d <;> simp_arith [f0, h1, c_is_block K.is_block hd, hb]
theorem c_is_row (K : K_is_row pg) {b : Bk} {d : D} {f1 f2 : Fl} {m : Nat} (hd : vd d m = true) (h1 : f1.own = false) (hf : isTup d = true → f2.own = false) :
    callL pg (n + 3) 8 none [(f1, eBk b), (f2, d)] = .ok ((.f, .bl (rowD b d)), [(f1, eBk b), (f2, d)]) := by
  rw [go K.s rfl rfl]
  have ht := vd_tp hd
  cases d with
  | tup ds =>
    obtain ⟨m, rfl, hl, hm⟩ := vd_tup hd
    have f0 := hf rfl
    simp_arith [f0, h1, bi_isTup ht, isTup]
    rw [comp_mapE ds id (fun d => D.bl (blockD b d)) (List.map_id ds).symm]
    · simp_arith [f0, h1, bi_all, rowD]
    · intro x hx
      simp_arith [f0, h1, c_is_block K.is_block (hm x hx), id]
    · exact le_line hl
  | dct _ _ => cases ht
  | fn _ => cases ht
  | fls _ => cases ht
  | _ => rcases f0 : f2.own with _ | _ <;> simp_arith [f0, h1, bi_isTup ht, isTup, rowD]
theorem c_check_document (K : K_check_document pg) {b : Bk} {d : D} {f1 f2 : Fl} {m : Nat} (hd : vd d m = true) (h1 : f1.own = false) (hf : isTup d = true → f2.own = false) :
    callL pg (n + 4) 44 none [(f1, eBk b), (f2, d)] = if rowD b d then .ok ((.f, .non), [(f1, eBk b), (f2, d)]) else .exn (S "InvalidDocument") none [some (f1, eBk b), some (f2, d)] := by
  rw [go K.s rfl rfl]
  rcases f0 : f2.own with _ | _
  · cases hb : rowD b d <;> simp_arith [f0, h1, c_is_row K.is_row hd h1 hf, c_is_row K.is_row (f1 := .f) (f2 := .f) hd own_f (fun _ => own_f), hb]
  · have ht : isTup d = false := by
      cases h : isTup d with
      | false => rfl
      | true => rw [hf h] at f0; cases f0
    cases hb : rowD b d <;> simp_arith [f0, h1, c_is_row K.is_row (f1 := .f) (f2 := .p) hd own_f (fun h => by rw [ht] at h; cases h), hb]
/-- the values 1 .. m -/
def upto (m : Int) : List Int := (List.range m.toNat).map fun (i : Nat) => 1 + (i : Int)
theorem rng_upto {m : Int} : rng 1 (m + 1) = (upto m).map D.int := by
  unfold rng upto
  rw [show (m + 1 - 1).toNat = m.toNat by congr 1; omega, List.map_map]
  rfl
/-- all blocks of a kind -/
def kBlocks (k : Kd) : List Blk := (upto k.most).map fun i => (k.nm, i)
def allBlocks (b : Bk) : List Blk := (b.ks.map kBlocks).flatten
theorem kBlocks_len {k : Kd} (h : k.most ≤ 6) : (kBlocks k).length ≤ 6 := by
  unfold kBlocks upto
  simp
  omega
theorem flat_len {α : Type} {N : Nat} : ∀ (ls : List (List α)), (∀ l ∈ ls, l.length ≤ N) → ls.flatten.length ≤ N * ls.length
  | [], _ => by simp
  | l :: ls, h => by
    have h1 := h l (by simp)
    have h2 := flat_len ls (fun x hx => h x (by simp [hx]))
    rw [List.flatten_cons, List.length_append, List.length_cons, Nat.mul_succ]
    omega
/-- what is needed of a book: heights, lines, not too many kinds -/
structure Bk.fit (b : Bk) : Prop where
  h2 : 2 ≤ b.h
  h6 : b.h ≤ 7
  few : b.ks.length ≤ 4
  most : ∀ k ∈ b.ks, 1 ≤ k.most ∧ k.most ≤ 6
  parts : ∀ k ∈ b.ks, partsOk k.parts = true
theorem Bk.ok.fit {b : Bk} (h : b.ok = true) : b.fit := by
  simp only [Bk.ok, Bool.and_eq_true, decide_eq_true_eq, List.all_eq_true] at h
  obtain ⟨⟨⟨⟨⟨h1, h2⟩, h3, h4⟩, h5⟩, h6⟩, h7⟩ := h
  refine ⟨h1, by omega, by omega, fun k hk => ?_, fun k hk => ?_⟩
  · have := h5 k hk
    simp only [Kd.ok, Bool.and_eq_true, decide_eq_true_eq] at this
    exact this.1.2
  · have := h5 k hk
    simp only [Kd.ok, Bool.and_eq_true, decide_eq_true_eq] at this
    exact this.2
theorem allBlocks_len {b : Bk} (h : b.fit) (pr po : List Kd) (e : b.ks = pr ++ po) : ((pr.map kBlocks).flatten).length ≤ 24 := by
  have h1 := flat_len (N := 6) (pr.map kBlocks) (fun l hl => by
    obtain ⟨k, hk, rfl⟩ := List.mem_map.mp hl
    exact kBlocks_len (h.most k (by rw [e]; simp [hk])).2)
  have h2 := h.few
  rw [e, List.length_append] at h2
  rw [List.length_map] at h1
  omega
theorem inRng_small {i : Int} (h1 : -1000000 ≤ i) (h2 : i ≤ 1000000) : inRng i = true := by
  unfold inRng
  simp only [Bool.and_eq_true, decide_eq_true_eq]
  omega
theorem c_all_blocks (K : K_all_blocks pg) {b : Bk} {f1 : Fl} (h1 : f1.own = false) (hb : b.fit) :
    callL pg (n + 1) 9 none [(f1, eBk b)] = .ok ((.o, .lst ((allBlocks b).map eB)), [(f1, eBk b)]) := by
  rw [go K.s rfl rfl]
  simp_arith [h1]
  rw [ob_assoc]
  refine for_invB b.ks eK (fun pr e => ∃ v, e = [some (f1, eBk b), some (.o, .lst (((pr.map kBlocks).flatten).map eB)), jk v, none]) rfl ⟨none, rfl⟩ ?_ ?_
  · rintro pr k po e e0 ⟨v, rfl⟩
    have hk := hb.most k (by rw [e0]; simp)
    refine ⟨[some (f1, eBk b), some (.o, .lst ((((pr ++ [k]).map kBlocks).flatten).map eB)), some (.f, eK k), none], .inl ?_, some (eK k), rfl⟩
    simp_arith [eK, h1, inRng_small (i := 1) (by decide) (by decide), inRng_small (i := k.most + 1) (by omega) (by omega), rng_upto]
    rw [comp_mapE (upto k.most) D.int (fun i => eB (k.nm, i)) rfl]
    · have l1 := allBlocks_len hb pr (k :: po) e0
      have l2 := kBlocks_len (k := k) hk.2
      have l3 : (upto k.most).length = (kBlocks k).length := by simp [kBlocks]
      have l4 : (((pr.map kBlocks).flatten).map eB).length + ((upto k.most).map fun i => eB (k.nm, i)).length ≤ LINE := by
        rw [List.length_map, List.length_map]
        exact le_line (by omega)
      simp_arith [l4]
      simp [kBlocks, List.map_map, Function.comp_def]
    · intro i _
      simp_arith [h1, eB]
    · have l2 := kBlocks_len (k := k) hk.2
      have l3 : (upto k.most).length = (kBlocks k).length := by simp [kBlocks]
      exact le_line (by omega)
  · rintro e' ⟨v, rfl⟩
    simp_arith [h1, allBlocks]
/-- a stand -/
def eS (s : Int × Int) : D := .tup [.int s.1, .int s.2]
def gpM (p : Option (Int × Int)) (room rest : Int) : Int := match p with
  | none => 0
  | some (a, b) => if a ≤ min room (rest - b) then min room (rest - b) else 0
theorem c_greatest_part (K : K_greatest_part pg) {p : Option (Int × Int)} {room rest : Int} {f1 f2 f3 : Fl} (h1 : f1.own = false) (h2 : f2.own = false) (h3 : f3.own = false) :
    callL pg (n + 1) 37 none [(f1, eO p), (f2, .int room), (f3, .int rest)] = .ok ((.f, .int (gpM p room rest)), [(f1, eO p), (f2, .int room), (f3, .int rest)]) := by
  rw [go K.s rfl rfl]
  rcases p with _ | ⟨a, b⟩
  · simp_arith [eO, h1, h2, h3, gpM]
  · by_cases h : a ≤ min room (rest - b) <;> simp_arith [eO, h1, h2, h3, h, gpM]
/-- what is filled so far -/
structure Fs where
  used : Int
  held : Int
  rest : Int
  bl : List Int
  wd : List Str
  ct : List Int
/-- one turn of filling: n lines in all -/
def fStep (h : Int) (k : Kd) (n : Int) (s : Fs) : Fs :=
  let part := gpM k.parts (h - s.used) s.rest
  if part = 0 ∧ s.held < s.used then { s with bl := s.bl ++ [h - s.used + s.held], ct := s.ct ++ [0 - s.held], used := s.held }
  else if part = 0 ∧ 0 < s.used then { s with bl := s.bl ++ [h - s.used], ct := s.ct ++ [0], wd := s.wd ++ [S "left"], used := 0, held := 0 }
  else if part = 0 then { used := 0, held := 0, rest := s.rest - h, bl := s.bl ++ [h - s.used - h], ct := s.ct ++ [n - (s.rest - h)], wd := s.wd ++ [if k.parts.isNone then S "cut" else S "few"] }
  else { used := 0, held := 0, rest := s.rest - part, bl := s.bl ++ [h - s.used - part], ct := s.ct ++ [n - (s.rest - part)], wd := s.wd }
def fGo (h : Int) (s : Fs) : Bool := decide (h - s.used < s.rest)
def fFirst (h : Int) (k : Kd) (st : Int × Int) (n : Int) : Fs :=
  if k.opens ∧ 0 < st.1 then { used := 0, held := 0, rest := n, bl := [h - st.1], ct := [0], wd := if 0 < st.2 then [S "left"] else [] }
  else { used := st.1, held := st.2, rest := n, bl := [], ct := [], wd := [] }
/-- the measure -/
def fMu (s : Fs) : Nat := 3 * s.rest.toNat + (if s.held < s.used then 2 else if 0 < s.used then 1 else 0)
def fLast (h : Int) (k : Kd) (st : Int × Int) (n : Int) : Fs := iter (fGo h) (fStep h k n) 40 (fFirst h k st n)
/-- what comes of a block -/
structure Fd where
  st : Int × Int
  bl : List Int
  wd : List Str
  ct : List Int
def fDone (k : Kd) (s : Fs) : Fd := ⟨(s.used + s.rest, if k.joins then s.held + s.rest else 0), s.bl, s.wd, s.ct⟩
def fillK (h : Int) (k : Kd) (st : Int × Int) (n : Int) : Fd := fDone k (fLast h k st n)
def fill (b : Bk) (st : Int × Int) (l : Blk) : Fd := match kindOf b l.1 with
  | some k => fillK b.h k st l.2
  | none => ⟨(0, 0), [], [], []⟩
abbrev eI (l : List Int) : D := .tup (l.map D.int)
abbrev eW (l : List Str) : D := .tup (l.map D.str)
def eFd (f : Fd) : D := .tup [eS f.st, eI f.bl, eW f.wd, eI f.ct]
/-- what holds while filling -/
structure FsOk (h : Int) (n : Int) (s : Fs) : Prop where
  r1 : 1 ≤ s.rest
  rn : s.rest ≤ n
  u0 : 0 ≤ s.held
  uh : s.held ≤ s.used
  uu : s.used ≤ h
theorem gpM_pos {p : Option (Int × Int)} {room rest : Int} (hp : partsOk p = true) (h : gpM p room rest ≠ 0) : 1 ≤ gpM p room rest ∧ gpM p room rest ≤ room ∧ gpM p room rest ≤ rest - 1 := by
  unfold gpM at h ⊢
  rcases p with _ | ⟨a, b⟩
  · exact absurd rfl h
  · simp only [partsOk, Bool.and_eq_true, decide_eq_true_eq] at hp
    by_cases g : a ≤ min room (rest - b)
    · simp only [if_pos g]; omega
    · simp only [if_neg g] at h; exact absurd rfl h
theorem fStep_ok {h n : Int} {k : Kd} {s : Fs} (hh : 2 ≤ h) (hp : partsOk k.parts = true) (o : FsOk h n s) (g : fGo h s = true) : FsOk h n (fStep h k n s) ∧ fMu (fStep h k n s) < fMu s := by
  obtain ⟨r1, rn, u0, uh, uu⟩ := o
  simp only [fGo, decide_eq_true_eq] at g
  unfold fStep
  by_cases p0 : gpM k.parts (h - s.used) s.rest = 0
  · by_cases a : s.held < s.used
    · simp only [p0, a, and_self, if_true]
      refine ⟨⟨r1, rn, u0, by simp, by simp; omega⟩, ?_⟩
      simp only [fMu, a, if_true]
      split <;> simp_all <;> split <;> omega
    · by_cases c : 0 < s.used
      · simp only [p0, a, c, and_false, and_true, if_true, if_false]
        refine ⟨⟨r1, rn, by simp, by simp, by simp; omega⟩, ?_⟩
        simp [fMu, a, c]
      · simp only [p0, a, c, and_false, if_true, if_false]
        refine ⟨⟨by simp; omega, by simp; omega, by simp, by simp, by simp; omega⟩, ?_⟩
        simp [fMu, a, c]
        omega
  · have := gpM_pos hp p0
    simp only [p0, false_and, if_false]
    refine ⟨⟨by simp; omega, by simp; omega, by simp, by simp, by simp; omega⟩, ?_⟩
    simp [fMu]
    omega
theorem fFirst_ok {h n : Int} {k : Kd} {st : Int × Int} (hh : 2 ≤ h) (hn : 1 ≤ n) (h1 : 0 ≤ st.2) (h2 : st.2 ≤ st.1) (h3 : st.1 ≤ h) : FsOk h n (fFirst h k st n) := by
  unfold fFirst
  split
  · exact ⟨hn, by simp, by simp, by simp, by simp; omega⟩
  · exact ⟨hn, by simp, h1, h2, h3⟩
end
end MP.Q
/-! PM3: pages filled, the walk. -/
namespace MP.Q
open PySem (Str)
set_option maxRecDepth 100000
local macro_rules
  | `(tactic| simp_arith [$xs:simpLemma,*]) => `(tactic| simp -implicitDefEqProofs only [AV.rd, En.frz, AV.use, rds, uses, passA, lent, backA, setV, bindV, takes, bindOs, Tg.set, Tg.sets, seqOf, seqLT, Out.bool, wipe, ownAt, kTup, kLst, kDct, kOp, kCmp, kBi, rcv, isDct, kSlc, kPart, kNot, kCall, kGet2, kUse, kInt, kSeq, kEnu, kZip, kItems, kTurn, kPar, kSub, kApp, isLst, kExt, kRet, outsOf, u_qTup, u_qLst, u_qDct2, u_qDct1, u_qOp2, u_qOp1, u_qCh3, u_qCh2, u_qCh1, u_qBi, u_qMth2, u_qMth1, u_qSl3, u_qSl2, u_qSl1, u_qNotP, u_qTst, u_qAnd2, u_qAnd1, u_qOr2, u_qOr1, u_qNot2, u_qNot1, u_qIte2, u_qIte1, u_qCall, u_qG3, u_qG2, u_qG1, u_qCmE, u_qEs2, u_qEs1, u_qBool, u_qPart, u_qSq2, u_qSq1, u_qR2, u_qR1, u_qR6, u_qR5, u_qR4, u_qR3, u_qEn2, u_qEn1, u_qZ4, u_qZ3, u_qZ2, u_qZ1, u_qI2, u_qI1, u_qNx, u_qAsg, u_qPar, u_qU2, u_qU1, u_qS2, u_qS1, u_qDr, u_qApp, u_qExt, u_qIf, u_qRet, canSet_eq, cs_n, cs_f, cs_o, cs_jk, jk_none, jk_some, kFor, turnS, kComp, at_z, at_s, st_z, st_s, ln_c, ln_n, ob_ok, ob_exn, nx_ok, own_o, own_p, own_f, own_q, frz_o, frz_p, frz_f, frz_q, ev_var, ev_cst, ev_tup, ev_lst, ev_dct, ev_op, ev_chain, ev_bi, ev_mth, ev_slc, ev_and, ev_or, ev_not, ev_ite, ev_call, ev_pop, ev_pop0, ev_get2, ev_comp, es_nil, es_cons, ec_nil, ec_cons, ep_nil, ep_cons, ei_seq, ei_rng1, ei_rng2, ei_enu, ei_zip, ei_items, et_eq, ss_nil, ss_cons, s_asg, s_par, s_unp, s_sub, s_drop, s_app, s_ext, s_ifs, s_whl, s_for, s_ret, s_retN, s_raise, s_pass, s_brk, s_cnt, kn_nx, kn_rt, kn_bk, kn_ct, env1, kRun, nn_non, nn_bl, nn_int, nn_str, nn_tup, nn_lst, op_isn_non, op_notn_non, op_addi, op_subi, op_lti, op_lei, op_gti, op_gei, op_eqi, op_nei, op_eqs, op_nes, op_tup0, op_tup1, op_tup2, op_tup3, op_tup4, bi_min2, bi_max2, bi_int, bi_intb, bi_neg, bi_lent, bi_lenl, bi_tupl, bi_tupt, bi_listl, bi_listt, fn_true, tt_true, cutD_l, cutD_t, op_lts, un_nil, un_cons, nc0, nc1, nc2, nc3, nc4, nc5, turnF_eq, ix_bk0, ix_bk1, ix_k0, ix_k1, ix_k2, ix_k3, ix_k4, nn_k, nn_bk, nn_O, ix_b0, ix_b1, env1.nones, ite_true, ite_false, Option.map_some, Option.map_none, Option.getD_some, List.nodup_nil, List.nodup_cons, List.not_mem_nil, not_false_eq_true, true_and, List.isEmpty_nil, id, List.nil_append, List.cons_append, Bool.true_and, Bool.and_true, ↓reduceIte, Nat.reduceSub, Nat.reduceAdd, Nat.reduceLT, Nat.reduceLeDiff, Nat.reduceEqDiff, List.mem_cons, or_false, false_or, and_self, and_true, false_and, and_false, Int.reduceBEq, Int.reduceLE, Int.reduceLT, decide_true, decide_false, decide_eq_true_eq, Bool.not_eq_true', decide_eq_false_iff_not, Bool.not_true, Bool.not_false, Bool.and_eq_true, Bool.or_eq_true, Bool.false_eq_true, Bool.true_eq_false, $xs,*])
set_option maxHeartbeats 1000000
section
variable {pg : Nat → Option Df} {n : Nat}
def fEnv (f1 f2 f3 : Fl) (b : Bk) (st : Int × Int) (l : Blk) (k : Kd) (s : Fs) (v : Option D) : En :=
  [some (f1, eBk b), some (f2, eS st), some (f3, eB l), some (.f, .int b.h), some (.f, eK k), some (.f, .int s.used), some (.f, .int s.held), some (.f, .int s.rest), some (.o, .lst (s.bl.map D.int)), some (.o, .lst (s.wd.map D.str)), some (.o, .lst (s.ct.map D.int)), jk v, none]
def fLen (s : Fs) : Prop := s.bl.length + fMu s ≤ 60 ∧ s.wd.length + fMu s ≤ 60 ∧ s.ct.length + fMu s ≤ 60
theorem fStep_len {h n : Int} {k : Kd} {s : Fs} (hl : fLen s) (hm : fMu (fStep h k n s) < fMu s) : fLen (fStep h k n s) := by
  obtain ⟨h1, h2, h3⟩ := hl
  have e : (fStep h k n s).bl.length ≤ s.bl.length + 1 ∧ (fStep h k n s).wd.length ≤ s.wd.length + 1 ∧ (fStep h k n s).ct.length ≤ s.ct.length + 1 := by
    unfold fStep
    simp only []
    split
    · simp
    · split
      · simp
      · split <;> simp
  refine ⟨?_, ?_, ?_⟩ <;> omega
theorem lline {α β : Type} {xs : List α} {f : α → β} (h : xs.length ≤ 60) : (xs.map f).length < LINE := by
  rw [List.length_map]
  have : (1000000 : Nat) < LINE := by unfold LINE; omega
  omega
theorem map_snoc {α β : Type} {xs : List α} {x : α} {f : α → β} : xs.map f ++ [f x] = (xs ++ [x]).map f := by simp
theorem c_filled (K : K_filled pg) {b : Bk} {st : Int × Int} {l : Blk} {k : Kd} {f1 f2 f3 : Fl} (h1 : f1.own = false) (h2 : f2.own = false) (h3 : f3.own = false) (hb : b.fit) (hk : kindOf b l.1 = some k) (l1 : 1 ≤ l.2) (l6 : l.2 ≤ 6) (s0 : 0 ≤ st.2) (s1 : st.2 ≤ st.1) (s2 : st.1 ≤ b.h) :
    callL pg (n + 2) 38 none [(f1, eBk b), (f2, eS st), (f3, eB l)] = .ok ((.f, eFd (fill b st l)), [(f1, eBk b), (f2, eS st), (f3, eB l)]) := by
  have kp : partsOk k.parts = true := hb.parts k (List.mem_of_find?_eq_some hk)
  have ff := fFirst_ok (k := k) hb.h2 l1 s0 s1 s2
  have fl : fLen (fFirst b.h k st l.2) ∧ fMu (fFirst b.h k st l.2) ≤ 20 := by
    have h6 := hb.h6
    unfold fFirst fLen fMu
    split
    · refine ⟨⟨?_, ?_, ?_⟩, ?_⟩ <;> simp <;> (try split) <;> (try simp) <;> omega
    · refine ⟨⟨?_, ?_, ?_⟩, ?_⟩ <;> simp <;> (try split) <;> (try split) <;> omega
  rw [go K.s rfl rfl]
  have first : ∀ (cf : CF) cl (lf : Option LF), evS cf cl lf (t_filled.body.getS 4) (fEnv f1 f2 f3 b st l k ⟨st.1, st.2, l.2, [], [], []⟩ none) = .ok (.nx, fEnv f1 f2 f3 b st l k (fFirst b.h k st l.2) none) := fun cf cl lf => by
    have z : (0 : Nat) < LINE := by unfold LINE; omega
    cases ho : k.opens
    · simp_arith [t_filled, Sms.getS, fEnv, h1, h2, h3, ho, fFirst, List.map_nil]
    · by_cases hu : 0 < st.1
      · by_cases hv : 0 < st.2 <;> simp_arith [t_filled, Sms.getS, fEnv, h1, h2, h3, ho, hu, hv, fFirst, List.map_nil, List.map_cons, z]
      · simp_arith [t_filled, Sms.getS, fEnv, h1, h2, h3, ho, hu, fFirst, List.map_nil]
  simp only [t_filled, Sms.getS, fEnv, List.map_nil, eS, jk_none] at first
  simp_arith [h1, h2, h3, c_kind_of K.kind_of, hk, oK, eS, ↓first]
  rw [ob_assoc]
  refine whl_invB (fFirst b.h k st l.2) (fGo b.h) (fStep b.h k l.2) fMu (fun s e => FsOk b.h l.2 s ∧ fLen s ∧ ∃ v, e = fEnv f1 f2 f3 b st l k s v) 40 (by omega) (by unfold FUEL; omega) ⟨ff, fl.1, none, rfl⟩ ?_ ?_
  · rintro s e ⟨o, le, v, rfl⟩
    obtain ⟨la, lb, lc⟩ := le
    have ba : (s.bl.map D.int).length < LINE := lline (by omega)
    have bb : (s.wd.map D.str).length < LINE := lline (by omega)
    have bc : (s.ct.map D.int).length < LINE := lline (by omega)
    refine ⟨fEnv f1 f2 f3 b st l k s v, ?_, fun _ => ⟨o, ⟨la, lb, lc⟩, v, rfl⟩, fun g => ?_⟩
    · simp_arith [fEnv, h1, h2, h3, fGo]
    · have so := fStep_ok hb.h2 kp o g
      refine ⟨fEnv f1 f2 f3 b st l k (fStep b.h k l.2 s) (some (.int (if gpM k.parts (b.h - s.used) s.rest = 0 ∧ ¬ 0 < s.used then b.h else gpM k.parts (b.h - s.used) s.rest))), .inl ?_, ⟨so.1, fStep_len ⟨la, lb, lc⟩ so.2, _, rfl⟩, so.2⟩
      have gp := c_greatest_part K.greatest_part (n := n) (p := k.parts) (room := b.h - s.used) (rest := s.rest) (f1 := .f) (f2 := .f) (f3 := .f) own_f own_f own_f
      by_cases p0 : gpM k.parts (b.h - s.used) s.rest = 0
      · have p0' : (gpM k.parts (b.h - s.used) s.rest == 0) = true := by rw [p0]; rfl
        by_cases a : s.held < s.used
        · have a0 : 0 < s.used := by have := o.u0; omega
          simp_arith [fEnv, h1, h2, h3, gp, p0', p0, a, a0, fStep, ba, bb, bc, map_snoc, not_true_eq_false]
        · by_cases c : 0 < s.used
          · simp_arith [fEnv, h1, h2, h3, gp, p0', p0, a, c, fStep, ba, bb, bc, map_snoc, not_true_eq_false]
          · cases hp : k.parts.isNone <;> simp_arith [fEnv, h1, h2, h3, gp, p0', p0, a, c, fStep, ba, bb, bc, map_snoc, hp]
      · have p0' : (gpM k.parts (b.h - s.used) s.rest == 0) = false := by rw [beq_eq_false_iff_ne]; exact p0
        simp_arith [fEnv, h1, h2, h3, gp, p0', p0, fStep, ba, bb, bc, map_snoc]
  · rintro e' ⟨o, le, v, rfl⟩ _
    have e : eFd (fill b st l) = eFd (fDone k (iter (fGo b.h) (fStep b.h k l.2) 40 (fFirst b.h k st l.2))) := by
      unfold fill
      rw [hk]
      rfl
    rw [e]
    cases hj : k.joins <;> simp_arith [fEnv, h1, h2, h3, fDone, eFd, eS, eI, eW, hj]
end
end MP.Q
/-! PM4: what is drawn. -/
namespace MP.Q
open PySem (Str)
set_option maxRecDepth 100000
local macro_rules
  | `(tactic| simp_arith [$xs:simpLemma,*]) => `(tactic| simp -implicitDefEqProofs only [AV.rd, En.frz, AV.use, rds, uses, passA, lent, backA, setV, bindV, takes, bindOs, Tg.set, Tg.sets, seqOf, seqLT, Out.bool, wipe, ownAt, kTup, kLst, kDct, kOp, kCmp, kBi, rcv, isDct, kSlc, kPart, kNot, kCall, kGet2, kUse, kInt, kSeq, kEnu, kZip, kItems, kTurn, kPar, kSub, kApp, isLst, kExt, kRet, outsOf, u_qTup, u_qLst, u_qDct2, u_qDct1, u_qOp2, u_qOp1, u_qCh3, u_qCh2, u_qCh1, u_qBi, u_qMth2, u_qMth1, u_qSl3, u_qSl2, u_qSl1, u_qNotP, u_qTst, u_qAnd2, u_qAnd1, u_qOr2, u_qOr1, u_qNot2, u_qNot1, u_qIte2, u_qIte1, u_qCall, u_qG3, u_qG2, u_qG1, u_qCmE, u_qEs2, u_qEs1, u_qBool, u_qPart, u_qSq2, u_qSq1, u_qR2, u_qR1, u_qR6, u_qR5, u_qR4, u_qR3, u_qEn2, u_qEn1, u_qZ4, u_qZ3, u_qZ2, u_qZ1, u_qI2, u_qI1, u_qNx, u_qAsg, u_qPar, u_qU2, u_qU1, u_qS2, u_qS1, u_qDr, u_qApp, u_qExt, u_qIf, u_qRet, canSet_eq, cs_n, cs_f, cs_o, cs_jk, jk_none, jk_some, kFor, turnS, kComp, at_z, at_s, st_z, st_s, ln_c, ln_n, ob_ok, ob_exn, nx_ok, own_o, own_p, own_f, own_q, frz_o, frz_p, frz_f, frz_q, ev_var, ev_cst, ev_tup, ev_lst, ev_dct, ev_op, ev_chain, ev_bi, ev_mth, ev_slc, ev_and, ev_or, ev_not, ev_ite, ev_call, ev_pop, ev_pop0, ev_get2, ev_comp, es_nil, es_cons, ec_nil, ec_cons, ep_nil, ep_cons, ei_seq, ei_rng1, ei_rng2, ei_enu, ei_zip, ei_items, et_eq, ss_nil, ss_cons, s_asg, s_par, s_unp, s_sub, s_drop, s_app, s_ext, s_ifs, s_whl, s_for, s_ret, s_retN, s_raise, s_pass, s_brk, s_cnt, kn_nx, kn_rt, kn_bk, kn_ct, env1, kRun, nn_non, nn_bl, nn_int, nn_str, nn_tup, nn_lst, op_isn_non, op_notn_non, op_addi, op_subi, op_lti, op_lei, op_gti, op_gei, op_eqi, op_nei, op_eqs, op_nes, op_tup0, op_tup1, op_tup2, op_tup3, op_tup4, bi_min2, bi_max2, bi_int, bi_intb, bi_neg, bi_lent, bi_lenl, bi_tupl, bi_tupt, bi_listl, bi_listt, fn_true, tt_true, cutD_l, cutD_t, op_lts, un_nil, un_cons, nc0, nc1, nc2, nc3, nc4, nc5, turnF_eq, ix_bk0, ix_bk1, ix_k0, ix_k1, ix_k2, ix_k3, ix_k4, nn_k, nn_bk, nn_O, ix_b0, ix_b1, env1.nones, Option.isSome_some, Option.isSome_none, ite_true, ite_false, Option.map_some, Option.map_none, Option.getD_some, List.nodup_nil, List.nodup_cons, List.not_mem_nil, not_false_eq_true, true_and, List.isEmpty_nil, id, List.nil_append, List.cons_append, Bool.true_and, Bool.and_true, ↓reduceIte, Nat.reduceSub, Nat.reduceAdd, Nat.reduceLT, Nat.reduceLeDiff, Nat.reduceEqDiff, List.mem_cons, or_false, false_or, and_self, and_true, false_and, and_false, Int.reduceBEq, Int.reduceLE, Int.reduceLT, decide_true, decide_false, decide_eq_true_eq, Bool.not_eq_true', decide_eq_false_iff_not, Bool.not_true, Bool.not_false, Bool.and_eq_true, Bool.or_eq_true, Bool.false_eq_true, Bool.true_eq_false, $xs,*])
set_option maxHeartbeats 1000000
section
variable {pg : Nat → Option Df} {n : Nat}
theorem op_fdiv {i j : Int} (h0 : j ≠ 0) (h1 : j.natAbs < 1073741824) : op2 .fdiv (.int i) (.int j) = some (false, .int (i.fdiv j)) := by
  simp [op2, num2, h0, h1]
theorem op_mod {i j : Int} (h0 : j ≠ 0) : op2 .mod (.int i) (.int j) = some (false, .int (i.fmod j)) := by
  simp [op2, num2, h0]
theorem op_mulr {i j : Int} (h0 : small j = true) : op2 .mul (.int i) (.int j) = some (false, .int (i * j)) := by
  simp only [op2, h0, Bool.or_true, Bool.true_or, if_true]
theorem op_mull {i j : Int} (h0 : small i = true) : op2 .mul (.int i) (.int j) = some (false, .int (i * j)) := by
  simp only [op2, h0, Bool.or_true, Bool.true_or, if_true]
theorem op_lst {ds : List D} {i : Nat} {d : D} (h : ds[i]? = some d) : op2 .idx (.lst ds) (.int i) = some (false, d) := by
  obtain ⟨hl, _⟩ := List.getElem?_eq_some_iff.mp h
  simp only [op2, atI]
  rw [if_pos (by omega), if_pos (by omega), Int.toNat_natCast, h]
  rfl
theorem op_tupi {ds : List D} {i : Nat} {d : D} (h : ds[i]? = some d) : op2 .idx (.tup ds) (.int i) = some (false, d) := by
  obtain ⟨hl, _⟩ := List.getElem?_eq_some_iff.mp h
  simp only [op2, atI]
  rw [if_pos (by omega), if_pos (by omega), Int.toNat_natCast, h]
  rfl
theorem op_lst0 {x : D} {xs : List D} : op2 .idx (.lst (x :: xs)) (.int 0) = some (false, x) := op_lst (i := 0) rfl
theorem op_lst1 {x y : D} {xs : List D} : op2 .idx (.lst (x :: y :: xs)) (.int 1) = some (false, y) := op_lst (i := 1) rfl
local macro_rules
  | `(tactic| simp_arith [$xs:simpLemma,*]) => `(tactic| simp -implicitDefEqProofs only [AV.rd, En.frz, AV.use, rds, uses, passA, lent, backA, setV, bindV, takes, bindOs, Tg.set, Tg.sets, seqOf, seqLT, Out.bool, wipe, ownAt, kTup, kLst, kDct, kOp, kCmp, kBi, rcv, isDct, kSlc, kPart, kNot, kCall, kGet2, kUse, kInt, kSeq, kEnu, kZip, kItems, kTurn, kPar, kSub, kApp, isLst, kExt, kRet, outsOf, u_qTup, u_qLst, u_qDct2, u_qDct1, u_qOp2, u_qOp1, u_qCh3, u_qCh2, u_qCh1, u_qBi, u_qMth2, u_qMth1, u_qSl3, u_qSl2, u_qSl1, u_qNotP, u_qTst, u_qAnd2, u_qAnd1, u_qOr2, u_qOr1, u_qNot2, u_qNot1, u_qIte2, u_qIte1, u_qCall, u_qG3, u_qG2, u_qG1, u_qCmE, u_qEs2, u_qEs1, u_qBool, u_qPart, u_qSq2, u_qSq1, u_qR2, u_qR1, u_qR6, u_qR5, u_qR4, u_qR3, u_qEn2, u_qEn1, u_qZ4, u_qZ3, u_qZ2, u_qZ1, u_qI2, u_qI1, u_qNx, u_qAsg, u_qPar, u_qU2, u_qU1, u_qS2, u_qS1, u_qDr, u_qApp, u_qExt, u_qIf, u_qRet, canSet_eq, cs_n, cs_f, cs_o, cs_jk, jk_none, jk_some, kFor, turnS, kComp, at_z, at_s, st_z, st_s, ln_c, ln_n, ob_ok, ob_exn, nx_ok, own_o, own_p, own_f, own_q, frz_o, frz_p, frz_f, frz_q, ev_var, ev_cst, ev_tup, ev_lst, ev_dct, ev_op, ev_chain, ev_bi, ev_mth, ev_slc, ev_and, ev_or, ev_not, ev_ite, ev_call, ev_pop, ev_pop0, ev_get2, ev_comp, es_nil, es_cons, ec_nil, ec_cons, ep_nil, ep_cons, ei_seq, ei_rng1, ei_rng2, ei_enu, ei_zip, ei_items, et_eq, ss_nil, ss_cons, s_asg, s_par, s_unp, s_sub, s_drop, s_app, s_ext, s_ifs, s_whl, s_for, s_ret, s_retN, s_raise, s_pass, s_brk, s_cnt, kn_nx, kn_rt, kn_bk, kn_ct, env1, kRun, nn_non, nn_bl, nn_int, nn_str, nn_tup, nn_lst, op_isn_non, op_notn_non, op_addi, op_subi, op_lti, op_lei, op_gti, op_gei, op_eqi, op_nei, op_eqs, op_nes, op_tup0, op_tup1, op_tup2, op_tup3, op_tup4, bi_min2, bi_max2, bi_int, bi_intb, bi_neg, bi_lent, bi_lenl, bi_tupl, bi_tupt, bi_listl, bi_listt, fn_true, tt_true, cutD_l, cutD_t, op_lts, un_nil, un_cons, nc0, nc1, nc2, nc3, nc4, nc5, turnF_eq, ix_bk0, ix_bk1, ix_k0, ix_k1, ix_k2, ix_k3, ix_k4, nn_k, nn_bk, nn_O, ix_b0, ix_b1, op_lst0, op_lst1, env1.nones, Option.isSome_some, Option.isSome_none, ite_true, ite_false, Option.map_some, Option.map_none, Option.getD_some, List.nodup_nil, List.nodup_cons, List.not_mem_nil, not_false_eq_true, true_and, List.isEmpty_nil, id, List.nil_append, List.cons_append, Bool.true_and, Bool.and_true, ↓reduceIte, Nat.reduceSub, Nat.reduceAdd, Nat.reduceLT, Nat.reduceLeDiff, Nat.reduceEqDiff, List.mem_cons, or_false, false_or, and_self, and_true, false_and, and_false, Int.reduceBEq, Int.reduceLE, Int.reduceLT, decide_true, decide_false, decide_eq_true_eq, Bool.not_eq_true', decide_eq_false_iff_not, Bool.not_true, Bool.not_false, Bool.and_eq_true, Bool.or_eq_true, Bool.false_eq_true, Bool.true_eq_false, $xs,*])
def eDr (a b : Int) : D := .lst [.int a, .int b]
theorem sub_dr0 {a b : Int} {d : D} : subD (.lst [.int a, .int b]) (.int 0) d = some (.lst [d, .int b]) := rfl
theorem sub_dr1 {a b : Int} {d : D} : subD (.lst [.int a, .int b]) (.int 1) d = some (.lst [.int a, d]) := rfl
theorem fmod_lt {i j : Int} (h : 0 < j) : 0 ≤ i.fmod j ∧ i.fmod j < j := by
  rw [Int.fmod_eq_emod_of_nonneg _ (by omega)]
  exact ⟨Int.emod_nonneg _ (by omega), Int.emod_lt_of_pos _ h⟩
theorem fdiv_nn {i j : Int} (h : 0 ≤ i) (hj : 0 < j) : 0 ≤ i.fdiv j := by
  rw [Int.fdiv_eq_ediv_of_nonneg _ (by omega)]
  exact Int.ediv_nonneg h (by omega)
theorem c_draw (K : K__law_draw pg) {a b many : Int} {f2 : Fl} (h2 : f2.own = false) (ha : 0 ≤ a) (hb : 0 ≤ b) (m1 : 1 ≤ many) (m2 : many ≤ 65536) :
    ∃ r a' b' : Int, 0 ≤ a' ∧ 0 ≤ b' ∧ 0 ≤ r ∧ r < many ∧ callL pg (n + 1) 13 none [(.p, eDr a b), (f2, .int many)] = .ok ((.f, .int r), [(.p, eDr a' b'), (f2, .int many)]) := by
  rw [go K.s rfl rfl]
  have hm0 : many ≠ 0 := by omega
  have hm1 : many.natAbs < 1073741824 := by omega
  by_cases h : 0 < a
  · refine ⟨a.fmod many, a.fdiv many, b, fdiv_nn ha (by omega), hb, (fmod_lt (by omega)).1, (fmod_lt (by omega)).2, ?_⟩
    simp_arith [eDr, h2, h, op_mod hm0, op_fdiv hm0 hm1, sub_dr0, Option.isSome_some]
  · refine ⟨((0 : Int) * 65536 + (((b * 1664525 + 1013904223).fmod 4294967291).fdiv 65521).fmod 65536).fmod many, a, (b * 1664525 + 1013904223).fmod 4294967291, ha, (fmod_lt (by omega)).1, (fmod_lt (by omega)).1, (fmod_lt (by omega)).2, ?_⟩
    obtain ⟨m, e⟩ : ∃ m, FUEL = m + 1 + 1 := ⟨999998, rfl⟩
    have g0 : (0 : Int) < many := by omega
    have g1 : ¬ ((65536 : Int) < many) := by omega
    have k1 : max (1 : Int) 0 * 65536 = 65536 := by decide
    have x1 : small 1664525 = true := by decide
    have x2 : small 65536 = true := by decide
    have x3 : (65521 : Int).natAbs < 1073741824 := by decide
    have x4 : (65521 : Int) ≠ 0 := by decide
    have x5 : (65536 : Int) ≠ 0 := by decide
    have x6 : (4294967291 : Int) ≠ 0 := by decide
    simp_arith [eDr, h2, h]
    simp_arith [whlS, e, whlF, g0, h2, op_mulr x1, op_mulr x2, op_fdiv x4 x3, op_mod x5, op_mod x6, op_mod hm0, sub_dr1, Option.isSome_some, k1, g1]
theorem c_of (K : K__law_of pg) {a b : Int} {ds : List D} {f2 : Fl} (ha : 0 ≤ a) (hb : 0 ≤ b) (h0 : ds ≠ []) (hl : ds.length ≤ 65536) (hq : f2 ≠ .q) :
    ∃ d ∈ ds, ∃ a' b' : Int, 0 ≤ a' ∧ 0 ≤ b' ∧ callL pg (n + 2) 14 none [(.p, eDr a b), (f2, .lst ds)] = .ok ((.f, d), [(.p, eDr a' b'), (f2, .lst ds)]) := by
  have h1 : 1 ≤ (ds.length : Int) := by
    have : ds.length ≠ 0 := fun h => h0 (List.length_eq_zero_iff.mp h)
    omega
  obtain ⟨r, a', b', ha', hb', r0, r1, hc⟩ := c_draw K._law_draw (n := n) (f2 := .f) own_f ha hb h1 (by omega)
  obtain ⟨i, rfl⟩ : ∃ i : Nat, r = i := ⟨r.toNat, by omega⟩
  have hi : i < ds.length := by omega
  refine ⟨ds[i], List.getElem_mem hi, a', b', ha', hb', ?_⟩
  rw [go K.s rfl rfl]
  have hg : ds[i]? = some ds[i] := List.getElem?_eq_getElem hi
  cases f2 with
  | q => exact absurd rfl hq
  | _ => simp_arith [hc, op_lst hg]
/-- what a name may be -/
def nameIn (xs : List String) (ds : List Str) : Prop := ds = xs.map S
def menus : List (List Str) := [[S "a", S "b", S "c"], [S "head", S "text", S "verse"], [S "abcdefgh", S "abcdefgx", S "b"], [S "joins", S "kind", S "parts"]]
theorem c_names (K : K__law_names pg) {a b : Int} (ha : 0 ≤ a) (hb : 0 ≤ b) :
    ∃ ns ∈ menus, ∃ a' b' : Int, 0 ≤ a' ∧ 0 ≤ b' ∧ callL pg (n + 3) 17 none [(.p, eDr a b)] = .ok ((.f, .lst (ns.map D.str)), [(.p, eDr a' b')]) := by
  obtain ⟨d, hd, a', b', ha', hb', hc⟩ := c_of K._law_of (n := n) (ds := menus.map fun ns => .lst (ns.map D.str)) (f2 := .p) ha hb (by simp [menus]) (by simp [menus]) (by decide)
  obtain ⟨ns, hns, rfl⟩ := List.mem_map.mp hd
  refine ⟨ns, hns, a', b', ha', hb', ?_⟩
  rw [go K.s rfl rfl]
  simp only [menus, List.map_cons, List.map_nil] at hc
  simp_arith [hc]
theorem c_kind (K : K__law_kind pg) {a b : Int} {x : Str} {most : Int} {f2 f3 : Fl} (h2 : f2.own = false) (h3 : f3.own = false) (ha : 0 ≤ a) (hb : 0 ≤ b) (m1 : 1 ≤ most) (m2 : most ≤ 6) (hx : nameOk x = true) :
    ∃ k : Kd, k.nm = x ∧ k.ok = true ∧ k.most ≤ most ∧ ∃ a' b' : Int, 0 ≤ a' ∧ 0 ≤ b' ∧ callL pg (n + 2) 18 none [(.p, eDr a b), (f2, .str x), (f3, .int most)] = .ok ((.f, eK k), [(.p, eDr a' b'), (f2, .str x), (f3, .int most)]) := by
  obtain ⟨r1, a1, b1, ha1, hb1, _, _, c1⟩ := c_draw K._law_draw (n := n) (f2 := .f) (many := 3) own_f ha hb (by decide) (by decide)
  obtain ⟨r2, a2, b2, ha2, hb2, p20, p21, c2⟩ := c_draw K._law_draw (n := n) (f2 := .f) (many := 3) own_f ha1 hb1 (by decide) (by decide)
  obtain ⟨r3, a3, b3, ha3, hb3, p30, p31, c3⟩ := c_draw K._law_draw (n := n) (f2 := .f) (many := 3) own_f ha2 hb2 (by decide) (by decide)
  by_cases hr : 0 < r1
  · obtain ⟨r4, a4, b4, ha4, hb4, p40, p41, c4⟩ := c_draw K._law_draw (n := n) (f2 := .f) (many := most) own_f ha3 hb3 m1 (by omega)
    obtain ⟨r5, a5, b5, ha5, hb5, _, _, c5⟩ := c_draw K._law_draw (n := n) (f2 := .f) (many := 3) own_f ha4 hb4 (by decide) (by decide)
    obtain ⟨r6, a6, b6, ha6, hb6, _, _, c6⟩ := c_draw K._law_draw (n := n) (f2 := .f) (many := 6) own_f ha5 hb5 (by decide) (by decide)
    refine ⟨⟨x, 1 + r4, some (1 + r2, 1 + r3), r5 == 0, r6 == 0⟩, rfl, ?_, by simp; omega, a6, b6, ha6, hb6, ?_⟩
    · simp only [Kd.ok, hx, partsOk, Bool.true_and, Bool.and_eq_true, decide_eq_true_eq]; omega
    · rw [go K.s rfl rfl]
      simp_arith [h2, h3, c1, hr, c2, c3, c4, c5, c6, eK, eO]
  · obtain ⟨r4, a4, b4, ha4, hb4, p40, p41, c4⟩ := c_draw K._law_draw (n := n) (f2 := .f) (many := most) own_f ha1 hb1 m1 (by omega)
    obtain ⟨r5, a5, b5, ha5, hb5, _, _, c5⟩ := c_draw K._law_draw (n := n) (f2 := .f) (many := 3) own_f ha4 hb4 (by decide) (by decide)
    obtain ⟨r6, a6, b6, ha6, hb6, _, _, c6⟩ := c_draw K._law_draw (n := n) (f2 := .f) (many := 6) own_f ha5 hb5 (by decide) (by decide)
    refine ⟨⟨x, 1 + r4, none, r5 == 0, r6 == 0⟩, rfl, ?_, by simp; omega, a6, b6, ha6, hb6, ?_⟩
    · simp only [Kd.ok, hx, partsOk, Bool.true_and, Bool.and_true, Bool.and_eq_true, decide_eq_true_eq]; omega
    · rw [go K.s rfl rfl]
      simp_arith [h2, h3, c1, hr, c4, c5, c6, eK, eO]
theorem menus_ok : (menus.all fun ns => ns.length == 3 && ns.all nameOk && (List.range 4).all fun m => ascS (ns.take m)) = true := by decide +kernel
theorem menu_of {ns : List Str} (h : ns ∈ menus) : ns.length = 3 ∧ (∀ x ∈ ns, nameOk x = true) ∧ ∀ m, m ≤ 3 → ascS (ns.take m) = true := by
  have := List.all_eq_true.mp menus_ok ns h
  simp only [Bool.and_eq_true, beq_iff_eq, List.all_eq_true, List.mem_range] at this
  exact ⟨this.1.1, this.1.2, fun m hm => this.2 m (by omega)⟩
/-- the numbers 0 .. c - 1, as a range gives them -/
def eN (i : Nat) : D := .int (0 + (i : Int))
theorem rng_n {z : Int} {c : Nat} (h : z.toNat = c) : rng 0 z = (List.range c).map eN := by
  unfold rng
  rw [show (z - 0).toNat = c by omega]
  rfl
theorem lt_line {k : Nat} (h : k < 1000000) : k < LINE := by unfold LINE; omega
theorem c_book (K : K__law_book pg) {a b high su : Int} {f2 f3 : Fl} (h2 : f2.own = false) (h3 : f3.own = false) (ha : 0 ≤ a) (hb : 0 ≤ b) (hh : 2 ≤ high) (hh6 : high ≤ 6) (s1 : 1 ≤ su) (s8 : su ≤ 8) :
    ∃ bk : Bk, bk.ok = true ∧ bk.h ≤ high ∧ (bk.ks.map Kd.most).sum ≤ su ∧ (∃ ns ∈ menus, bk.ks.map Kd.nm = ns.take bk.ks.length) ∧ ∃ a' b' : Int, 0 ≤ a' ∧ 0 ≤ b' ∧ callL pg (n + 4) 19 none [(.p, eDr a b), (f2, .int high), (f3, .int su)] = .ok ((.f, eBk bk), [(.p, eDr a' b'), (f2, .int high), (f3, .int su)]) := by
  obtain ⟨ns, hns, a1, b1, ha1, hb1, c1⟩ := c_names K._law_names (n := n) ha hb
  obtain ⟨r, a2, b2, ha2, hb2, r0, r3, c2⟩ := c_draw K._law_draw (n := n + 2) (f2 := .f) (many := 3) own_f ha1 hb1 (by decide) (by decide)
  obtain ⟨nl, nk, na⟩ := menu_of hns
  let P : Nat → En → Prop := fun i e => ∃ (a b left : Int) (ks : List Kd) (v w : Option D), 0 ≤ a ∧ 0 ≤ b ∧ ks.length ≤ i ∧ ks.map Kd.nm = ns.take ks.length ∧ (∀ k ∈ ks, k.ok = true) ∧ left = su - (ks.map Kd.most).sum ∧ 0 ≤ left ∧ (0 < left → ks.length = i) ∧ (0 < i → 0 < ks.length) ∧
    e = [some (.p, eDr a b), some (f2, .int high), some (f3, .int su), some (.f, .lst (ns.map D.str)), some (.o, .lst (ks.map eK)), some (.f, .int left), jk v, jk w]
  have L : ∃ e', forS (fun g us => callL pg (n + 3) g none us) (fun g l us => callL pg (n + 3) g (some l) us) none (.nm 6) ((t__law_book.body.getS 1).forB) (rng 0 (1 + r)) [some (.p, eDr a2 b2), some (f2, .int high), some (f3, .int su), some (.f, .lst (ns.map D.str)), some (.o, .lst []), some (.f, .int su), none, none] = .ok (.nx, e') ∧ P (1 + r).toNat e' := by
    refine for_rangeX (1 + r).toNat eN P (rng_n rfl) ⟨a2, b2, su, [], none, none, ha2, hb2, by simp, by simp, by simp, by simp, by omega, by simp, by omega, rfl⟩ ?_
    rintro i e hi ⟨a, b, left, ks, v, w, ha, hb, hl, hn, hk, le, l0, l1, l2, rfl⟩
    by_cases hp : 0 < left
    · have hki := l1 hp
      have hin : i < ns.length := by omega
      have hg : (ns.map D.str)[i]? = some (.str ns[i]) := by rw [List.getElem?_map, List.getElem?_eq_getElem hin]; rfl
      obtain ⟨k, kn, ko, km, a3, b3, ha3, hb3, c3⟩ := c_kind K._law_kind (n := n + 1) (x := ns[i]) (most := min left 4) (f2 := .f) (f3 := .f) own_f own_f ha hb (by omega) (by omega) (nk _ (List.getElem_mem hin))
      have km1 : 1 ≤ k.most := by
        simp only [Kd.ok, Bool.and_eq_true, decide_eq_true_eq] at ko
        exact ko.1.2.1
      refine ⟨_, .inl ?_, a3, b3, left - k.most, ks ++ [k], some (eN i), some (eK k), ha3, hb3, by simp; omega, ?_, ?_, ?_, by omega, fun _ => by simp; omega, fun _ => by simp, rfl⟩
      · have e0 : (0 : Int) + (i : Int) = i := by omega
        have lk : (ks.map eK).length < LINE := by rw [List.length_map]; exact lt_line (by omega)
        simp_arith [t__law_book, Sms.getS, Sm.forB, h2, h3, hp, eN, e0, op_lst hg, c3, lk, map_snoc]
      · rw [List.map_append, hn, List.length_append, List.map_singleton, kn, hki]
        exact List.take_append_getElem hin
      · intro y hy
        rcases List.mem_append.mp hy with hy | hy
        · exact hk y hy
        · rw [List.mem_singleton.mp hy]; exact ko
      · rw [List.map_append, List.sum_append, List.map_singleton, List.sum_singleton]; omega
    · refine ⟨_, .inl ?_, a, b, left, ks, some (eN i), w, ha, hb, by omega, hn, hk, le, l0, fun z => absurd z hp, fun _ => ?_, rfl⟩
      · simp_arith [t__law_book, Sms.getS, Sm.forB, h2, h3, hp, eN]
      · by_cases i0 : 0 < i
        · exact l2 i0
        · have : ks.length = 0 := by omega
          rw [List.length_eq_zero_iff] at this
          subst this
          simp at le
          omega
  obtain ⟨e', hf, a, b, left, ks, v, w, ha, hb, hl, hn, hk, le, l0, l1, l2, rfl⟩ := L
  obtain ⟨q, a3, b3, ha3, hb3, q0, q1, c3⟩ := c_draw K._law_draw (n := n + 2) (f2 := .f) (many := high - 1) own_f ha hb (by omega) (by omega)
  have kl : 0 < ks.length := l2 (by omega)
  simp only [t__law_book, Sms.getS, Sm.forB] at hf
  refine ⟨⟨2 + q, ks⟩, ?_, by simp; omega, by simp; omega, ⟨ns, hns, hn⟩, a3, b3, ha3, hb3, ?_⟩
  · simp only [Bk.ok, Bool.and_eq_true, decide_eq_true_eq, List.all_eq_true]
    refine ⟨⟨⟨⟨⟨by omega, by omega⟩, by omega, by omega⟩, hk⟩, ?_⟩, by omega⟩
    rw [hn]
    exact na _ (by omega)
  · rw [go K.s rfl rfl]
    have rr : inRng (1 + r) = true := inRng_small (by omega) (by omega)
    simp_arith [h2, h3, c1, c2, rr, hf, c3, eBk]
theorem c_lblocks (K : K__law_blocks pg) {b : Bk} {f1 : Fl} (h1 : f1.own = false) (hb : b.fit) :
    callL pg (n + 1) 20 none [(f1, eBk b)] = .ok ((.o, .lst ((allBlocks b).map eB)), [(f1, eBk b)]) := by
  rw [go K.s rfl rfl]
  simp_arith [h1]
  rw [ob_assoc]
  refine for_invB b.ks eK (fun pr e => ∃ v, e = [some (f1, eBk b), some (.o, .lst (((pr.map kBlocks).flatten).map eB)), jk v, none]) rfl ⟨none, rfl⟩ ?_ ?_
  · rintro pr k po e e0 ⟨v, rfl⟩
    have hk := hb.most k (by rw [e0]; simp)
    refine ⟨[some (f1, eBk b), some (.o, .lst ((((pr ++ [k]).map kBlocks).flatten).map eB)), some (.f, eK k), none], .inl ?_, some (eK k), rfl⟩
    simp_arith [h1, inRng_small (i := 1) (by decide) (by decide), inRng_small (i := k.most + 1) (by omega) (by omega), rng_upto]
    rw [comp_mapE (upto k.most) D.int (fun i => eB (k.nm, i)) rfl]
    · have l1 := allBlocks_len hb pr (k :: po) e0
      have l2 := kBlocks_len (k := k) hk.2
      have l3 : (upto k.most).length = (kBlocks k).length := by simp [kBlocks]
      have l4 : (((pr.map kBlocks).flatten).map eB).length + ((upto k.most).map fun i => eB (k.nm, i)).length ≤ LINE := by
        rw [List.length_map, List.length_map]
        exact le_line (by omega)
      simp_arith [op2, l4]
      simp [kBlocks, List.map_map, Function.comp_def]
    · intro i _
      simp_arith [h1, eB]
    · have l2 := kBlocks_len (k := k) hk.2
      have l3 : (upto k.most).length = (kBlocks k).length := by simp [kBlocks]
      exact le_line (by omega)
  · rintro e' ⟨v, rfl⟩
    simp_arith [h1, allBlocks]
theorem upto_mem {m i : Int} : i ∈ upto m ↔ 1 ≤ i ∧ i ≤ m := by
  unfold upto
  simp only [List.mem_map, List.mem_range]
  constructor
  · rintro ⟨j, hj, rfl⟩; omega
  · rintro ⟨h1, h2⟩
    exact ⟨(i - 1).toNat, by omega, by omega⟩
theorem str_ne_of_lt {x y : Str} (h : ltS x y = true) : (x == y) = false := by
  rw [beq_eq_false_iff_ne]
  rintro rfl
  simp [ltS, List.lt_irrefl] at h
theorem ltS_trans {x y z : Str} (h1 : ltS x y = true) (h2 : ltS y z = true) : ltS x z = true := by
  simp only [ltS, decide_eq_true_eq] at *
  exact List.lt_trans h1 h2
theorem ascS_head {x : Str} {xs : List Str} (h : ascS (x :: xs) = true) : ∀ y ∈ xs, ltS x y = true := by
  induction xs generalizing x with
  | nil => simp
  | cons z xs ih =>
    simp only [ascS, Bool.and_eq_true] at h
    intro y hy
    rcases List.mem_cons.mp hy with rfl | hy
    · exact h.1
    · exact ltS_trans h.1 (ih h.2 y hy)
theorem ascS_tail {x : Str} {xs : List Str} (h : ascS (x :: xs) = true) : ascS xs = true := by
  cases xs with
  | nil => rfl
  | cons z xs => simp only [ascS, Bool.and_eq_true] at h; exact h.2
theorem find_kind {ks : List Kd} (h : ascS (ks.map Kd.nm) = true) {k : Kd} (hk : k ∈ ks) : ks.find? (fun j => j.nm == k.nm) = some k := by
  induction ks with
  | nil => cases hk
  | cons a ks ih =>
    rw [List.map_cons] at h
    rcases List.mem_cons.mp hk with rfl | hk
    · rw [List.find?_cons_of_pos (by simp)]
    · have := ascS_head h k.nm (List.mem_map.mpr ⟨k, hk, rfl⟩)
      rw [List.find?_cons_of_neg (by rw [str_ne_of_lt this]; decide)]
      exact ih (ascS_tail h) hk
theorem Bk.ok.asc {b : Bk} (h : b.ok = true) : ascS (b.ks.map Kd.nm) = true := by
  simp only [Bk.ok, Bool.and_eq_true] at h
  exact h.1.2
theorem mem_allBlocks {b : Bk} {l : Blk} : l ∈ allBlocks b ↔ ∃ k ∈ b.ks, l.1 = k.nm ∧ 1 ≤ l.2 ∧ l.2 ≤ k.most := by
  unfold allBlocks kBlocks
  simp only [List.mem_flatten, List.mem_map]
  constructor
  · rintro ⟨_, ⟨k, hk, rfl⟩, hl⟩
    obtain ⟨i, hi, rfl⟩ := List.mem_map.mp hl
    exact ⟨k, hk, rfl, (upto_mem.mp hi)⟩
  · rintro ⟨k, hk, e, h1⟩
    exact ⟨_, ⟨k, hk, rfl⟩, List.mem_map.mpr ⟨l.2, upto_mem.mpr h1, by rw [← e]⟩⟩
/-- a block of a book -/
theorem blkOk_iff {b : Bk} (h : b.ok = true) {l : Blk} : blkOk b l = true ↔ l ∈ allBlocks b := by
  rw [mem_allBlocks]
  unfold blkOk kindOf
  constructor
  · intro hh
    split at hh
    · rename_i k hk
      have := List.find?_some hk
      simp only [beq_iff_eq] at this
      simp only [Bool.and_eq_true, decide_eq_true_eq] at hh
      exact ⟨k, List.mem_of_find?_eq_some hk, this.symm, hh⟩
    · cases hh
  · rintro ⟨k, hk, e, h1, h2⟩
    rw [e, find_kind (Bk.ok.asc h) hk]
    simp [h1, h2]
theorem kindOf_of {b : Bk} {l : Blk} (h : blkOk b l = true) : ∃ k, kindOf b l.1 = some k ∧ 1 ≤ l.2 ∧ l.2 ≤ k.most := by
  unfold blkOk at h
  split at h
  · rename_i k hk
    simp only [Bool.and_eq_true, decide_eq_true_eq] at h
    exact ⟨k, hk, h⟩
  · cases h
theorem op_addl {xs ys : List D} (h : xs.length + ys.length ≤ 1000000) : op2 .add (.lst xs) (.lst ys) = some (true, .lst (xs ++ ys)) := by
  simp only [op2]
  rw [if_pos (le_line h)]
theorem op_addt {xs ys : List D} (h : xs.length + ys.length ≤ 1000000) : op2 .add (.tup xs) (.tup ys) = some (false, .tup (xs ++ ys)) := by
  simp only [op2]
  rw [if_pos (le_line h)]
theorem allBlocks_le {b : Bk} (h : b.fit) : (allBlocks b).length ≤ 24 := by
  have := allBlocks_len h b.ks [] (by simp)
  unfold allBlocks
  exact this
theorem allBlocks_ne {b : Bk} (h : b.fit) (h0 : b.ks ≠ []) : allBlocks b ≠ [] := by
  obtain ⟨k, hk⟩ := List.exists_mem_of_ne_nil _ h0
  have := (mem_allBlocks (b := b) (l := (k.nm, 1))).mpr ⟨k, hk, rfl, Int.le_refl 1, (h.most k hk).1⟩
  intro z
  rw [z] at this
  cases this
theorem Bk.ok.ne {b : Bk} (h : b.ok = true) : b.ks ≠ [] := by
  simp only [Bk.ok, Bool.and_eq_true, decide_eq_true_eq] at h
  intro z
  rw [z] at h
  simp at h
theorem c_document (K : K__law_document pg) {a b most : Int} {bk : Bk} {f2 f3 : Fl} (h2 : f2.own = false) (h3 : f3.own = false) (ha : 0 ≤ a) (hb : 0 ≤ b) (hk : bk.ok = true) (m0 : 0 ≤ most) (m1 : most ≤ 60000) :
    ∃ doc : List Blk, (∀ l ∈ doc, l ∈ allBlocks bk) ∧ doc.length ≤ most ∧ ∃ a' b' : Int, 0 ≤ a' ∧ 0 ≤ b' ∧ callL pg (n + 3) 21 none [(.p, eDr a b), (f2, eBk bk), (f3, .int most)] = .ok ((.f, eDoc doc), [(.p, eDr a' b'), (f2, eBk bk), (f3, .int most)]) := by
  have hf := Bk.ok.fit hk
  have le := allBlocks_le hf
  have c0 := c_lblocks K._law_blocks (n := n + 1) (f1 := .f) own_f hf
  have ne : (allBlocks bk).map eB ≠ [] := by
    intro z
    exact allBlocks_ne hf (Bk.ok.ne hk) (List.map_eq_nil_iff.mp z)
  obtain ⟨d1, hd1, a1, b1, ha1, hb1, c1⟩ := c_of K._law_of (n := n) (f2 := .p) ha hb ne (by rw [List.length_map]; omega) (by decide)
  obtain ⟨d2, hd2, a2, b2, ha2, hb2, c2⟩ := c_of K._law_of (n := n) (f2 := .p) ha1 hb1 ne (by rw [List.length_map]; omega) (by decide)
  obtain ⟨l1, hl1, rfl⟩ := List.mem_map.mp hd1
  obtain ⟨l2, hl2, rfl⟩ := List.mem_map.mp hd2
  obtain ⟨r, a3, b3, ha3, hb3, r0, r1, c3⟩ := c_draw K._law_draw (n := n + 1) (f2 := .f) (many := most + 1) own_f ha2 hb2 (by omega) (by omega)
  let P : Nat → En → Prop := fun i e => ∃ (a b : Int) (doc : List Blk) (v : Option D), 0 ≤ a ∧ 0 ≤ b ∧ doc.length = i ∧ (∀ l ∈ doc, l ∈ allBlocks bk) ∧
    e = [some (.p, eDr a b), some (f2, eBk bk), some (f3, .int most), some (.o, .lst ((allBlocks bk).map eB)), some (.o, .lst (doc.map eB)), some (.o, .lst [eB l1, eB l2]), jk v]
  have L : ∃ e', forS (fun g us => callL pg (n + 2) g none us) (fun g l us => callL pg (n + 2) g (some l) us) none (.nm 6) ((t__law_document.body.getS 2).forB) (rng 0 r) [some (.p, eDr a3 b3), some (f2, eBk bk), some (f3, .int most), some (.o, .lst ((allBlocks bk).map eB)), some (.o, .lst []), some (.o, .lst [eB l1, eB l2]), none] = .ok (.nx, e') ∧ P r.toNat e' := by
    refine for_rangeX r.toNat eN P (rng_n rfl) ⟨a3, b3, [], none, ha3, hb3, rfl, by simp, rfl⟩ ?_
    rintro i e hi ⟨a, b, doc, v, ha, hb, hl, hd, rfl⟩
    have ne4 : (allBlocks bk).map eB ++ [eB l1, eB l2] ++ [eB l1, eB l2] ++ [eB l1, eB l2] ≠ [] := by simp
    obtain ⟨d, hdm, a4, b4, ha4, hb4, c4⟩ := c_of K._law_of (n := n) (f2 := .o) ha hb ne4 (by simp; omega) (by decide)
    obtain ⟨l, hl', rfl⟩ : ∃ l ∈ allBlocks bk, eB l = d := by
      simp only [List.mem_append, List.mem_map, List.mem_cons, List.not_mem_nil, or_false] at hdm
      rcases hdm with ((h | h | h) | h | h) | h | h
      · exact h
      all_goals first | exact ⟨l1, hl1, h.symm⟩ | exact ⟨l2, hl2, h.symm⟩
    have ll : ((allBlocks bk).map eB).length ≤ 24 := by rw [List.length_map]; exact le
    have lk : (doc.map eB).length < LINE := by rw [List.length_map]; exact lt_line (by omega)
    refine ⟨_, .inl ?_, a4, b4, doc ++ [l], some (eN i), ha4, hb4, by simp; omega, ?_, rfl⟩
    · simp_arith [t__law_document, Sms.getS, Sm.forB, h2, h3, eN]
      rw [op_addl (by simp; omega)]
      simp_arith [h2, h3]
      rw [op_addl (by simp; omega)]
      simp_arith [h2, h3]
      rw [op_addl (by simp; omega)]
      simp_arith [h2, h3]
      rw [c4]
      simp_arith [lk, map_snoc, eN]
    · intro y hy
      rcases List.mem_append.mp hy with hy | hy
      · exact hd y hy
      · rw [List.mem_singleton.mp hy]; exact hl'
  obtain ⟨e', hf', a, b, doc, v, ha, hb, hl, hd, rfl⟩ := L
  simp only [t__law_document, Sms.getS, Sm.forB] at hf'
  refine ⟨doc, hd, by omega, a, b, ha, hb, ?_⟩
  rw [go K.s rfl rfl]
  have rr : inRng r = true := inRng_small (by omega) (by omega)
  simp_arith [h2, h3, c0, c1, c2, c3, rr, hf', eDoc]
theorem bi_abs {i : Int} : bi .abs [.int i] = some (false, .int (if i < 0 then -i else i)) := rfl
theorem op_pow {i : Int} {j : Nat} (hj : j ≤ 1000) (hi : i.natAbs < 2 ^ 64) : op2 .pow (.int i) (.int j) = some (false, .int (i ^ j)) := by
  simp only [op2, num2]
  rw [if_pos ⟨by omega, by omega, hi⟩]
  rfl
theorem op_mulb {i j : Int} (h : i.natAbs < 2 ^ 4096 ∧ j.natAbs < 2 ^ 4096) : op2 .mul (.int i) (.int j) = some (false, .int (i * j)) := by
  simp only [op2]
  rw [if_pos]
  simp only [Bool.or_eq_true, decide_eq_true_eq]
  exact .inr h
theorem fls_seq {xs : List Int} : seqOf (.fls xs) = some (xs.map D.int) := rfl
theorem bi_lenf {ns : List Int} : bi .len [.fls ns] = some (false, .int ns.length) := rfl
local macro_rules
  | `(tactic| simp_arith [$xs:simpLemma,*]) => `(tactic| simp -implicitDefEqProofs only [AV.rd, En.frz, AV.use, rds, uses, passA, lent, backA, setV, bindV, takes, bindOs, Tg.set, Tg.sets, seqOf, seqLT, Out.bool, wipe, ownAt, kTup, kLst, kDct, kOp, kCmp, kBi, rcv, isDct, kSlc, kPart, kNot, kCall, kGet2, kUse, kInt, kSeq, kEnu, kZip, kItems, kTurn, kPar, kSub, kApp, isLst, kExt, kRet, outsOf, u_qTup, u_qLst, u_qDct2, u_qDct1, u_qOp2, u_qOp1, u_qCh3, u_qCh2, u_qCh1, u_qBi, u_qMth2, u_qMth1, u_qSl3, u_qSl2, u_qSl1, u_qNotP, u_qTst, u_qAnd2, u_qAnd1, u_qOr2, u_qOr1, u_qNot2, u_qNot1, u_qIte2, u_qIte1, u_qCall, u_qG3, u_qG2, u_qG1, u_qCmE, u_qEs2, u_qEs1, u_qBool, u_qPart, u_qSq2, u_qSq1, u_qR2, u_qR1, u_qR6, u_qR5, u_qR4, u_qR3, u_qEn2, u_qEn1, u_qZ4, u_qZ3, u_qZ2, u_qZ1, u_qI2, u_qI1, u_qNx, u_qAsg, u_qPar, u_qU2, u_qU1, u_qS2, u_qS1, u_qDr, u_qApp, u_qExt, u_qIf, u_qRet, canSet_eq, cs_n, cs_f, cs_o, cs_jk, jk_none, jk_some, kFor, turnS, kComp, at_z, at_s, st_z, st_s, ln_c, ln_n, ob_ok, ob_exn, nx_ok, own_o, own_p, own_f, own_q, frz_o, frz_p, frz_f, frz_q, ev_var, ev_cst, ev_tup, ev_lst, ev_dct, ev_op, ev_chain, ev_bi, ev_mth, ev_slc, ev_and, ev_or, ev_not, ev_ite, ev_call, ev_pop, ev_pop0, ev_get2, ev_comp, es_nil, es_cons, ec_nil, ec_cons, ep_nil, ep_cons, ei_seq, ei_rng1, ei_rng2, ei_enu, ei_zip, ei_items, et_eq, ss_nil, ss_cons, s_asg, s_par, s_unp, s_sub, s_drop, s_app, s_ext, s_ifs, s_whl, s_for, s_ret, s_retN, s_raise, s_pass, s_brk, s_cnt, kn_nx, kn_rt, kn_bk, kn_ct, env1, kRun, nn_non, nn_bl, nn_int, nn_str, nn_tup, nn_lst, op_isn_non, op_notn_non, op_addi, op_subi, op_lti, op_lei, op_gti, op_gei, op_eqi, op_nei, op_eqs, op_nes, op_tup0, op_tup1, op_tup2, op_tup3, op_tup4, bi_min2, bi_max2, bi_int, bi_intb, bi_neg, bi_lent, bi_lenl, bi_tupl, bi_tupt, bi_listl, bi_listt, fn_true, tt_true, cutD_l, cutD_t, op_lts, un_nil, un_cons, nc0, nc1, nc2, nc3, nc4, nc5, turnF_eq, ix_bk0, ix_bk1, ix_k0, ix_k1, ix_k2, ix_k3, ix_k4, nn_k, nn_bk, nn_O, ix_b0, ix_b1, op_lst0, op_lst1, bi_lenf, env1.nones, Option.isSome_some, Option.isSome_none, ite_true, ite_false, Option.map_some, Option.map_none, Option.getD_some, List.nodup_nil, List.nodup_cons, List.not_mem_nil, not_false_eq_true, true_and, List.isEmpty_nil, id, List.nil_append, List.cons_append, Bool.true_and, Bool.and_true, ↓reduceIte, Nat.reduceSub, Nat.reduceAdd, Nat.reduceLT, Nat.reduceLeDiff, Nat.reduceEqDiff, List.mem_cons, or_false, false_or, and_self, and_true, false_and, and_false, Int.reduceBEq, Int.reduceLE, Int.reduceLT, decide_true, decide_false, decide_eq_true_eq, Bool.not_eq_true', decide_eq_false_iff_not, Bool.not_true, Bool.not_false, Bool.and_eq_true, Bool.or_eq_true, Bool.false_eq_true, Bool.true_eq_false, $xs,*])
theorem op_fls {ns : List Int} {i : Nat} (h : i < ns.length) : op2 .idx (.fls ns) (.int i) = some (false, .int ns[i]) := by
  simp only [op2, atI]
  have hl : (ns.map D.int).length = ns.length := List.length_map ..
  rw [if_pos (by omega), if_pos (by omega), Int.toNat_natCast, List.getElem?_map, List.getElem?_eq_getElem h]
  rfl
theorem c_draws (K : K__law_draws pg) {ns : List Int} {k : Nat} {f1 f2 : Fl} (h1 : f1.own = false) (h2 : f2.own = false) (hn : ns.length ≤ 63) (hk : k ≤ 1000) :
    ∃ a b : Int, 0 ≤ a ∧ 0 ≤ b ∧ callL pg (n + 1) 12 none [(f1, .fls ns), (f2, .int k)] = .ok ((.o, eDr a b), [(f1, .fls ns), (f2, .int k)]) := by
  have big : (10 : Int) ^ 60 * 10 ^ 58 * 10 ^ 57 * 10 ^ 55 ≠ 0 := by decide +kernel
  have w1 : op2 .pow (.int 10) (.int 60) = some (false, .int (10 ^ 60)) := op_pow (j := 60) (by decide) (by decide)
  have w2 : op2 .pow (.int 10) (.int 58) = some (false, .int (10 ^ 58)) := op_pow (j := 58) (by decide) (by decide)
  have w3 : op2 .pow (.int 10) (.int 57) = some (false, .int (10 ^ 57)) := op_pow (j := 57) (by decide) (by decide)
  have w4 : op2 .pow (.int 10) (.int 55) = some (false, .int (10 ^ 55)) := op_pow (j := 55) (by decide) (by decide)
  have w5 : op2 .pow (.int 10) (.int 18) = some (false, .int (10 ^ 18)) := op_pow (j := 18) (by decide) (by decide)
  have v1 : op2 .mul (.int (10 ^ 60)) (.int (10 ^ 58)) = some (false, .int (10 ^ 60 * 10 ^ 58)) := op_mulb (by decide +kernel)
  have v2 : op2 .mul (.int (10 ^ 60 * 10 ^ 58)) (.int (10 ^ 57)) = some (false, .int (10 ^ 60 * 10 ^ 58 * 10 ^ 57)) := op_mulb (by decide +kernel)
  have v3 : op2 .mul (.int (10 ^ 60 * 10 ^ 58 * 10 ^ 57)) (.int (10 ^ 55)) = some (false, .int (10 ^ 60 * 10 ^ 58 * 10 ^ 57 * 10 ^ 55)) := op_mulb (by decide +kernel)
  have x1 : (4294967291 : Int) ≠ 0 := by decide
  have x2 : (4294967279 : Int) ≠ 0 := by decide
  have x3 : (1000003 : Int) ≠ 0 := by decide
  have x4 : small 49979687 = true := by decide
  have x5 : small 32452843 = true := by decide
  -- the end
  have fin : ∀ cell : Int, 0 ≤ cell → ∀ v : Option D, ∃ a b : Int, 0 ≤ a ∧ 0 ≤ b ∧ (evSs (fun g us => callL pg n g none us) (fun g l us => callL pg n g (some l) us) none (t__law_draws.body.dropS 1) [some (f1, .fls ns), some (f2, .int k), some (.f, .int cell), none, none]).bind (kRun 2) = .ok ((.o, eDr a b), [(f1, .fls ns), (f2, .int k)]) := fun cell hc v => by
    refine ⟨if (10 : Int) ^ 18 ≤ cell then cell else 0, 1 + (cell.fmod 4294967291 + 49979687 * ((k : Int) + 1)).fmod 4294967279, ?_, ?_, ?_⟩
    · split <;> omega
    · have := (fmod_lt (i := cell.fmod 4294967291 + 49979687 * ((k : Int) + 1)) (j := 4294967279) (by decide)).1
      omega
    · by_cases h : (10 : Int) ^ 18 ≤ cell <;> simp_arith [t__law_draws, Sms.dropS, h1, h2, op_mod x1, op_mod x2, op_mull x4, w5, h, eDr]
  have e0 : ∀ (g : Int), (if g < 0 then -g else g) ≥ 0 := fun g => by split <;> omega
  by_cases h : k < ns.length
  · have h' : (k : Int) < ns.length := by omega
    obtain ⟨a, b, ha, hb, hf⟩ := fin ((if ns[k] < 0 then -ns[k] else ns[k]).fmod (10 ^ 60 * 10 ^ 58 * 10 ^ 57 * 10 ^ 55)) (fmod_lt (by decide +kernel)).1 none
    refine ⟨a, b, ha, hb, ?_⟩
    rw [← hf, go K.s rfl rfl]
    simp_arith [t__law_draws, Sms.dropS, h1, h2, h', op_fls h, bi_abs, w1, w2, w3, w4, v1, v2, v3, op_mod big]
  · have h' : ¬ (k : Int) < ns.length := by omega
    have sm : ∀ l : List Int, 0 ≤ (l.map fun i => (if i < 0 then -i else i).fmod 1000003).sum := fun l => by
      induction l with
      | nil => simp
      | cons x l ih =>
        rw [List.map_cons, List.sum_cons]
        have := (fmod_lt (i := if x < 0 then -x else x) (j := 1000003) (by decide)).1
        omega
    obtain ⟨a, b, ha, hb, hf⟩ := fin (32452843 * (k : Int) + (ns.map fun i => (if i < 0 then -i else i).fmod 1000003).sum) (by have := sm ns; omega) none
    refine ⟨a, b, ha, hb, ?_⟩
    rw [← hf, go K.s rfl rfl]
    simp_arith [h1, h2, h', op_mull x5]
    rw [comp_mapE ns D.int (fun i => .int ((if i < 0 then -i else i).fmod 1000003)) rfl]
    · simp_arith [t__law_draws, Sms.dropS, h1, h2, bi_sum]
    · intro i _
      simp_arith [h1, h2, bi_abs, op_mod x3]
    · exact le_line (by omega)
end
end MP.Q
/-! PM5: pages of documents. -/
namespace MP.Q
open PySem (Str)
set_option maxRecDepth 100000
local macro_rules
  | `(tactic| simp_arith [$xs:simpLemma,*]) => `(tactic| simp -implicitDefEqProofs only [AV.rd, En.frz, AV.use, rds, uses, passA, lent, backA, setV, bindV, takes, bindOs, Tg.set, Tg.sets, seqOf, seqLT, Out.bool, wipe, ownAt, kTup, kLst, kDct, kOp, kCmp, kBi, rcv, isDct, kSlc, kPart, kNot, kCall, kGet2, kUse, kInt, kSeq, kEnu, kZip, kItems, kTurn, kPar, kSub, kApp, isLst, kExt, kRet, outsOf, u_qTup, u_qLst, u_qDct2, u_qDct1, u_qOp2, u_qOp1, u_qCh3, u_qCh2, u_qCh1, u_qBi, u_qMth2, u_qMth1, u_qSl3, u_qSl2, u_qSl1, u_qNotP, u_qTst, u_qAnd2, u_qAnd1, u_qOr2, u_qOr1, u_qNot2, u_qNot1, u_qIte2, u_qIte1, u_qCall, u_qG3, u_qG2, u_qG1, u_qCmE, u_qEs2, u_qEs1, u_qBool, u_qPart, u_qSq2, u_qSq1, u_qR2, u_qR1, u_qR6, u_qR5, u_qR4, u_qR3, u_qEn2, u_qEn1, u_qZ4, u_qZ3, u_qZ2, u_qZ1, u_qI2, u_qI1, u_qNx, u_qAsg, u_qPar, u_qU2, u_qU1, u_qS2, u_qS1, u_qDr, u_qApp, u_qExt, u_qIf, u_qRet, canSet_eq, cs_n, cs_f, cs_o, cs_jk, jk_none, jk_some, kFor, turnS, kComp, at_z, at_s, st_z, st_s, ln_c, ln_n, ob_ok, ob_exn, nx_ok, own_o, own_p, own_f, own_q, frz_o, frz_p, frz_f, frz_q, ev_var, ev_cst, ev_tup, ev_lst, ev_dct, ev_op, ev_chain, ev_bi, ev_mth, ev_slc, ev_and, ev_or, ev_not, ev_ite, ev_call, ev_pop, ev_pop0, ev_get2, ev_comp, es_nil, es_cons, ec_nil, ec_cons, ep_nil, ep_cons, ei_seq, ei_rng1, ei_rng2, ei_enu, ei_zip, ei_items, et_eq, ss_nil, ss_cons, s_asg, s_par, s_unp, s_sub, s_drop, s_app, s_ext, s_ifs, s_whl, s_for, s_ret, s_retN, s_raise, s_pass, s_brk, s_cnt, kn_nx, kn_rt, kn_bk, kn_ct, env1, kRun, nn_non, nn_bl, nn_int, nn_str, nn_tup, nn_lst, op_isn_non, op_notn_non, op_addi, op_subi, op_lti, op_lei, op_gti, op_gei, op_eqi, op_nei, op_eqs, op_nes, op_tup0, op_tup1, op_tup2, op_tup3, op_tup4, bi_min2, bi_max2, bi_int, bi_intb, bi_neg, bi_lent, bi_lenl, bi_tupl, bi_tupt, bi_listl, bi_listt, fn_true, tt_true, cutD_l, cutD_t, op_lts, un_nil, un_cons, nc0, nc1, nc2, nc3, nc4, nc5, turnF_eq, ix_bk0, ix_bk1, ix_k0, ix_k1, ix_k2, ix_k3, ix_k4, nn_k, nn_bk, nn_O, ix_b0, ix_b1, op_lst0, op_lst1, bi_lenf, env1.nones, Option.isSome_some, Option.isSome_none, ite_true, ite_false, Option.map_some, Option.map_none, Option.getD_some, List.nodup_nil, List.nodup_cons, List.not_mem_nil, not_false_eq_true, true_and, List.isEmpty_nil, id, List.nil_append, List.cons_append, Bool.true_and, Bool.and_true, ↓reduceIte, Nat.reduceSub, Nat.reduceAdd, Nat.reduceLT, Nat.reduceLeDiff, Nat.reduceEqDiff, List.mem_cons, or_false, false_or, and_self, and_true, false_and, and_false, Int.reduceBEq, Int.reduceLE, Int.reduceLT, decide_true, decide_false, decide_eq_true_eq, Bool.not_eq_true', decide_eq_false_iff_not, Bool.not_true, Bool.not_false, Bool.and_eq_true, Bool.or_eq_true, Bool.false_eq_true, Bool.true_eq_false, $xs,*])
set_option maxHeartbeats 1000000
/-- a stand of a book -/
structure sOk (b : Bk) (st : Int × Int) : Prop where
  h0 : 0 ≤ st.2
  h1 : st.2 ≤ st.1
  h2 : st.1 ≤ b.h
theorem sOk_0 {b : Bk} (h : b.fit) : sOk b (0, 0) := ⟨by simp, by simp, by have := h.h2; simp; omega⟩
theorem iter_ind {σ : Type} {c : σ → Bool} {f : σ → σ} (P : σ → Prop) (h : ∀ s, P s → c s = true → P (f s)) : ∀ (n : Nat) (s : σ), P s → P (iter c f n s)
  | 0, s, p => p
  | n + 1, s, p => by
    rw [iter]
    cases hc : c s with
    | false => exact p
    | true => exact iter_ind P h n (f s) (h s p hc)
theorem iter_done {σ : Type} {c : σ → Bool} {f : σ → σ} (P : σ → Prop) (μ : σ → Nat) (h : ∀ s, P s → c s = true → P (f s) ∧ μ (f s) < μ s) : ∀ (n : Nat) (s : σ), P s → μ s ≤ n → c (iter c f n s) = false
  | 0, s, p, hm => by
    cases hc : c s with
    | false => exact hc
    | true => have := (h s p hc).2; omega
  | n + 1, s, p, hm => by
    rw [iter]
    cases hc : c s with
    | false => exact hc
    | true =>
      have := h s p hc
      exact iter_done P μ h n (f s) this.1 (by omega)
section
variable {pg : Nat → Option Df} {n : Nat}
theorem fMu_first {h m : Int} {k : Kd} {st : Int × Int} (hm : m ≤ 6) : fMu (fFirst h k st m) ≤ 20 ∧ fLen (fFirst h k st m) := by
  unfold fFirst fLen fMu
  split
  · refine ⟨?_, ?_, ?_, ?_⟩ <;> simp <;> (try split) <;> (try simp) <;> omega
  · refine ⟨?_, ?_, ?_, ?_⟩ <;> simp <;> (try split) <;> (try split) <;> omega
theorem fLast_ok {h m : Int} {k : Kd} {st : Int × Int} (hh : 2 ≤ h) (hp : partsOk k.parts = true) (m1 : 1 ≤ m) (m6 : m ≤ 6) (h1 : 0 ≤ st.2) (h2 : st.2 ≤ st.1) (h3 : st.1 ≤ h) :
    FsOk h m (fLast h k st m) ∧ fLen (fLast h k st m) ∧ fGo h (fLast h k st m) = false := by
  have f0 := fFirst_ok (k := k) hh m1 h1 h2 h3
  have f1 := fMu_first (h := h) (k := k) (st := st) m6
  have hi := iter_ind (c := fGo h) (f := fStep h k m) (fun s => FsOk h m s ∧ fLen s) (fun s p g => ⟨(fStep_ok hh hp p.1 g).1, fStep_len p.2 (fStep_ok hh hp p.1 g).2⟩) 40 _ ⟨f0, f1.2⟩
  refine ⟨hi.1, hi.2, ?_⟩
  exact iter_done (fun s => FsOk h m s) fMu (fun s p g => fStep_ok hh hp p g) 40 _ f0 (by omega)
/-- what comes of filling -/
structure FdOk (b : Bk) (f : Fd) : Prop where
  st : sOk b f.st
  bl : f.bl.length ≤ 60
  wd : f.wd.length ≤ 60
  ct : f.ct.length ≤ 60
theorem blk_fit {b : Bk} (hb : b.fit) {l : Blk} (hl : blkOk b l = true) : ∃ k, kindOf b l.1 = some k ∧ k ∈ b.ks ∧ 1 ≤ l.2 ∧ l.2 ≤ 6 ∧ partsOk k.parts = true := by
  obtain ⟨k, hk, h1, h2⟩ := kindOf_of hl
  have hm := List.mem_of_find?_eq_some hk
  exact ⟨k, hk, hm, h1, by have := hb.most k hm; omega, hb.parts k hm⟩
theorem fill_ok {b : Bk} (hb : b.fit) {st : Int × Int} (hs : sOk b st) {l : Blk} (hl : blkOk b l = true) : FdOk b (fill b st l) := by
  obtain ⟨k, hk, hm, l1, l6, kp⟩ := blk_fit hb hl
  unfold fill
  rw [hk]
  obtain ⟨o, le, g⟩ := fLast_ok (k := k) hb.h2 kp l1 l6 hs.h0 hs.h1 hs.h2
  simp only [fGo, decide_eq_false_iff_not] at g
  obtain ⟨r1, rn, u0, uh, uu⟩ := o
  obtain ⟨b1, b2, b3⟩ := le
  show FdOk b (fDone k (fLast b.h k st l.2))
  refine ⟨⟨?_, ?_, ?_⟩, ?_, ?_, ?_⟩ <;> simp only [fDone] <;> (try split) <;> omega
def stepsFrom (b : Bk) (st : Int × Int) : List Blk → List Fd
  | [] => []
  | l :: r => fill b st l :: stepsFrom b (fill b st l).st r
def standFrom (b : Bk) (st : Int × Int) (d : List Blk) : Int × Int := d.foldl (fun s l => (fill b s l).st) st
theorem stepsFrom_snoc {b : Bk} : ∀ (d : List Blk) (st : Int × Int) (l : Blk), stepsFrom b st (d ++ [l]) = stepsFrom b st d ++ [fill b (standFrom b st d) l]
  | [], st, l => rfl
  | x :: d, st, l => by rw [List.cons_append, stepsFrom, stepsFrom_snoc d]; rfl
theorem stepsFrom_len {b : Bk} : ∀ (d : List Blk) (st : Int × Int), (stepsFrom b st d).length = d.length
  | [], st => rfl
  | x :: d, st => by rw [stepsFrom, List.length_cons, stepsFrom_len d, List.length_cons]
theorem standFrom_ok {b : Bk} (hb : b.fit) : ∀ (d : List Blk) (st : Int × Int), sOk b st → (∀ l ∈ d, blkOk b l = true) → sOk b (standFrom b st d)
  | [], st, h, _ => h
  | x :: d, st, h, hd => standFrom_ok hb d _ (fill_ok hb h (hd x (by simp))).st (fun l hl => hd l (by simp [hl]))
theorem standFrom_snoc {b : Bk} {d : List Blk} {st : Int × Int} {l : Blk} : standFrom b st (d ++ [l]) = (fill b (standFrom b st d) l).st := by
  unfold standFrom
  rw [List.foldl_append]
  rfl
mutual
theorem eqv_refl : ∀ (d : D) (n : Nat), pl d n = true → eqv d d = true
  | .non, n, h => by simp [eqv]
  | .bl b, n, h => by simp [eqv]
  | .int i, n, h => by simp [eqv]
  | .str x, n, h => by simp [eqv]
  | .tup ds, n, h => by
    cases n with
    | zero => simp [pl] at h
    | succ n => simp only [pl] at h; simp only [eqv]; exact eqvs_refl ds n h
  | .lst ds, n, h => by
    cases n with
    | zero => simp [pl] at h
    | succ n => simp only [pl] at h; simp only [eqv]; exact eqvs_refl ds n h
  | .dct _ _, n, h => by simp [pl] at h
  | .fn _, n, h => by simp [pl] at h
  | .fls _, n, h => by simp [pl] at h
theorem eqvs_refl : ∀ (ds : List D) (n : Nat), pls ds n = true → eqvs ds ds = true
  | [], n, h => by simp [eqvs]
  | d :: ds, n, h => by
    simp only [pls, Bool.and_eq_true] at h
    simp only [eqvs, Bool.and_eq_true]
    exact ⟨eqv_refl d n h.1, eqvs_refl ds n h.2⟩
end
theorem op_eq_of {a b : D} (ha : pl a 64 = true) (hb : pl b 64 = true) : op2 .eq a b = some (false, .bl (eqv a b)) := by
  simp only [op2, ha, hb, Bool.and_self, if_true]
theorem op_ne_of {a b : D} (ha : pl a 64 = true) (hb : pl b 64 = true) : op2 .ne a b = some (false, .bl (!eqv a b)) := by
  simp only [op2, ha, hb, Bool.and_self, if_true]
theorem op_eq_self {a : D} (ha : pl a 64 = true) : op2 .eq a a = some (false, .bl true) := by rw [op_eq_of ha ha, eqv_refl a 64 ha]
theorem op_ne_self {a : D} (ha : pl a 64 = true) : op2 .ne a a = some (false, .bl false) := by rw [op_ne_of ha ha, eqv_refl a 64 ha]; rfl
theorem pls_map {α : Type} {f : α → D} {k : Nat} : ∀ {xs : List α}, (∀ x ∈ xs, pl (f x) k = true) → pls (xs.map f) k = true
  | [], _ => by simp [pls]
  | x :: xs, h => by
    rw [List.map_cons, pls, Bool.and_eq_true]
    exact ⟨h x (by simp), pls_map (fun y hy => h y (by simp [hy]))⟩
theorem pl_tup {α : Type} {f : α → D} {k : Nat} {xs : List α} (h : ∀ x ∈ xs, pl (f x) k = true) : pl (.tup (xs.map f)) (k + 1) = true := by simp only [pl]; exact pls_map h
theorem pl_lst {α : Type} {f : α → D} {k : Nat} {xs : List α} (h : ∀ x ∈ xs, pl (f x) k = true) : pl (.lst (xs.map f)) (k + 1) = true := by simp only [pl]; exact pls_map h
theorem pl_eB {l : Blk} {k : Nat} : pl (eB l) (k + 1) = true := by simp [eB, pl, pls]
theorem pl_eS {l : Int × Int} {k : Nat} : pl (eS l) (k + 1) = true := by simp [eS, pl, pls]
theorem pl_doc {d : List Blk} {k : Nat} : pl (eDoc d) (k + 2) = true := pl_tup fun _ _ => pl_eB
theorem eqv_doc0 {d : List Blk} : eqv (eDoc d) (.tup []) = d.isEmpty := by cases d <;> simp [eDoc, eqv, eqvs]
theorem op_last {ds : List D} {d : D} (h : ds.getLast? = some d) : op2 .idx (.lst ds) (.int (-1)) = some (false, d) := by
  have hn : ds ≠ [] := by rintro rfl; cases h
  have hl : 0 < ds.length := List.length_pos_iff.mpr hn
  simp only [op2, atI]
  rw [if_neg (by decide), if_pos (by omega), show ((-1 : Int) + ds.length).toNat = ds.length - 1 by omega, ← List.getLast?_eq_getElem?, h]
  rfl
theorem op_lastS {xs : List D} {d : D} : op2 .idx (.lst (xs ++ [d])) (.int (-1)) = some (false, d) := op_last (by simp)
theorem op_lastM {α : Type} {xs : List α} {x : α} {f : α → D} : op2 .idx (.lst ((xs ++ [x]).map f)) (.int (-1)) = some (false, f x) := op_last (by simp)
theorem ix_fd0 {f : Fd} : op2 .idx (eFd f) (.int 0) = some (false, eS f.st) := op_tup0
theorem ix_fd1 {f : Fd} : op2 .idx (eFd f) (.int 1) = some (false, eI f.bl) := op_tup1
theorem ix_fd2 {f : Fd} : op2 .idx (eFd f) (.int 2) = some (false, eW f.wd) := op_tup2
theorem ix_fd3 {f : Fd} : op2 .idx (eFd f) (.int 3) = some (false, eI f.ct) := op_tup3
theorem ix_s0 {s : Int × Int} : op2 .idx (eS s) (.int 0) = some (false, .int s.1) := op_tup0
theorem ix_s1 {s : Int × Int} : op2 .idx (eS s) (.int 1) = some (false, .int s.2) := op_tup1
local macro_rules
  | `(tactic| simp_arith [$xs:simpLemma,*]) => `(tactic| simp -implicitDefEqProofs only [AV.rd, En.frz, AV.use, rds, uses, passA, lent, backA, setV, bindV, takes, bindOs, Tg.set, Tg.sets, seqOf, seqLT, Out.bool, wipe, ownAt, kTup, kLst, kDct, kOp, kCmp, kBi, rcv, isDct, kSlc, kPart, kNot, kCall, kGet2, kUse, kInt, kSeq, kEnu, kZip, kItems, kTurn, kPar, kSub, kApp, isLst, kExt, kRet, outsOf, u_qTup, u_qLst, u_qDct2, u_qDct1, u_qOp2, u_qOp1, u_qCh3, u_qCh2, u_qCh1, u_qBi, u_qMth2, u_qMth1, u_qSl3, u_qSl2, u_qSl1, u_qNotP, u_qTst, u_qAnd2, u_qAnd1, u_qOr2, u_qOr1, u_qNot2, u_qNot1, u_qIte2, u_qIte1, u_qCall, u_qG3, u_qG2, u_qG1, u_qCmE, u_qEs2, u_qEs1, u_qBool, u_qPart, u_qSq2, u_qSq1, u_qR2, u_qR1, u_qR6, u_qR5, u_qR4, u_qR3, u_qEn2, u_qEn1, u_qZ4, u_qZ3, u_qZ2, u_qZ1, u_qI2, u_qI1, u_qNx, u_qAsg, u_qPar, u_qU2, u_qU1, u_qS2, u_qS1, u_qDr, u_qApp, u_qExt, u_qIf, u_qRet, canSet_eq, cs_n, cs_f, cs_o, cs_jk, jk_none, jk_some, kFor, turnS, kComp, at_z, at_s, st_z, st_s, ln_c, ln_n, ob_ok, ob_exn, nx_ok, own_o, own_p, own_f, own_q, frz_o, frz_p, frz_f, frz_q, ev_var, ev_cst, ev_tup, ev_lst, ev_dct, ev_op, ev_chain, ev_bi, ev_mth, ev_slc, ev_and, ev_or, ev_not, ev_ite, ev_call, ev_pop, ev_pop0, ev_get2, ev_comp, es_nil, es_cons, ec_nil, ec_cons, ep_nil, ep_cons, ei_seq, ei_rng1, ei_rng2, ei_enu, ei_zip, ei_items, et_eq, ss_nil, ss_cons, s_asg, s_par, s_unp, s_sub, s_drop, s_app, s_ext, s_ifs, s_whl, s_for, s_ret, s_retN, s_raise, s_pass, s_brk, s_cnt, kn_nx, kn_rt, kn_bk, kn_ct, env1, kRun, nn_non, nn_bl, nn_int, nn_str, nn_tup, nn_lst, op_isn_non, op_notn_non, op_addi, op_subi, op_lti, op_lei, op_gti, op_gei, op_eqi, op_nei, op_eqs, op_nes, op_tup0, op_tup1, op_tup2, op_tup3, op_tup4, bi_min2, bi_max2, bi_int, bi_intb, bi_neg, bi_lent, bi_lenl, bi_tupl, bi_tupt, bi_listl, bi_listt, fn_true, tt_true, cutD_l, cutD_t, op_lts, un_nil, un_cons, nc0, nc1, nc2, nc3, nc4, nc5, turnF_eq, ix_bk0, ix_bk1, ix_k0, ix_k1, ix_k2, ix_k3, ix_k4, nn_k, nn_bk, nn_O, ix_b0, ix_b1, op_lst0, op_lst1, bi_lenf, ix_fd0, ix_fd1, ix_fd2, ix_fd3, ix_s0, ix_s1, env1.nones, Option.isSome_some, Option.isSome_none, ite_true, ite_false, Option.map_some, Option.map_none, Option.getD_some, List.nodup_nil, List.nodup_cons, List.not_mem_nil, not_false_eq_true, true_and, List.isEmpty_nil, id, List.nil_append, List.cons_append, Bool.true_and, Bool.and_true, ↓reduceIte, Nat.reduceSub, Nat.reduceAdd, Nat.reduceLT, Nat.reduceLeDiff, Nat.reduceEqDiff, List.mem_cons, or_false, false_or, and_self, and_true, false_and, and_false, Int.reduceBEq, Int.reduceLE, Int.reduceLT, decide_true, decide_false, decide_eq_true_eq, Bool.not_eq_true', decide_eq_false_iff_not, Bool.not_true, Bool.not_false, Bool.and_eq_true, Bool.or_eq_true, Bool.false_eq_true, Bool.true_eq_false, $xs,*])
theorem c_fill (K : K_filled pg) {b : Bk} {st : Int × Int} {l : Blk} {f1 f2 f3 : Fl} (h1 : f1.own = false) (h2 : f2.own = false) (h3 : f3.own = false) (hb : b.fit) (hl : blkOk b l = true) (hs : sOk b st) :
    callL pg (n + 2) 38 none [(f1, eBk b), (f2, eS st), (f3, eB l)] = .ok ((.f, eFd (fill b st l)), [(f1, eBk b), (f2, eS st), (f3, eB l)]) := by
  obtain ⟨k, hk, hm, l1, l6, kp⟩ := blk_fit hb hl
  exact c_filled K h1 h2 h3 hb hk l1 l6 hs.h0 hs.h1 hs.h2
theorem c_steps (K : K_steps pg) {b : Bk} {d : List Blk} {f1 f2 : Fl} (h1 : f1.own = false) (h2 : f2.own = false) (hb : b.fit) (hd : ∀ l ∈ d, blkOk b l = true) (hl : d.length ≤ 10000) :
    callL pg (n + 3) 45 none [(f1, eBk b), (f2, eDoc d)] = .ok ((.o, .lst ((stepsFrom b (0, 0) d).map eFd)), [(f1, eBk b), (f2, eDoc d)]) := by
  rw [go K.s rfl rfl]
  simp_arith [h1, h2, eDoc]
  rw [ob_assoc]
  refine for_invB d eB (fun pr e => ∃ v, e = [some (f1, eBk b), some (f2, .tup (d.map eB)), some (.o, .lst ((stepsFrom b (0, 0) pr).map eFd)), some (.f, eS (standFrom b (0, 0) pr)), jk v]) rfl ⟨none, rfl⟩ ?_ ?_
  · rintro pr l po e e0 ⟨v, rfl⟩
    have hp : ∀ l ∈ pr, blkOk b l = true := fun l hl => hd l (by rw [e0]; simp [hl])
    have so := standFrom_ok hb pr (0, 0) (sOk_0 hb) hp
    have lk : ((stepsFrom b (0, 0) pr).map eFd).length < LINE := by
      rw [List.length_map, stepsFrom_len]
      have := congrArg List.length e0
      rw [List.length_append] at this
      exact lt_line (by omega)
    refine ⟨_, .inl ?_, some (eB l), rfl⟩
    simp_arith [h1, h2, c_fill K.filled (f1 := .f) (f2 := .f) (f3 := .f) own_f own_f own_f hb (hd l (by rw [e0]; simp)) so, lk, op_lastM, map_snoc, stepsFrom_snoc, standFrom_snoc]
  · rintro e' ⟨v, rfl⟩
    simp_arith [h1, h2]
theorem bi_sumL {α : Type} (p : α → Int) (xs : List α) : bi .sum [.lst (xs.map fun x => .int (p x))] = some (false, .int (xs.map p).sum) := bi_sum p xs
theorem stepsFrom_ok {b : Bk} (hb : b.fit) : ∀ (d : List Blk) (st : Int × Int), sOk b st → (∀ l ∈ d, blkOk b l = true) → ∀ f ∈ stepsFrom b st d, FdOk b f
  | [], st, h, _, f, hf => by cases hf
  | x :: d, st, h, hd, f, hf => by
    have := fill_ok hb h (hd x (by simp))
    rcases List.mem_cons.mp hf with rfl | hf
    · exact this
    · exact stepsFrom_ok hb d _ this.st (fun l hl => hd l (by simp [hl])) f hf
theorem standFrom_steps {b : Bk} (d : List Blk) (st : Int × Int) : (st :: (stepsFrom b st d).map Fd.st).getLast? = some (standFrom b st d) := by
  induction d generalizing st with
  | nil => rfl
  | cons x d ih =>
    rw [stepsFrom, List.map_cons, List.getLast?_cons_cons, ih]
    rfl
theorem c_stand_of (K : K_stand_of pg) {b : Bk} {d : List Blk} {f1 f2 : Fl} (h1 : f1.own = false) (h2 : f2.own = false) (hb : b.fit) (hd : ∀ l ∈ d, blkOk b l = true) (hl : d.length ≤ 10000) :
    callL pg (n + 4) 56 none [(f1, eBk b), (f2, eDoc d)] = .ok ((.f, eS (standFrom b (0, 0) d)), [(f1, eBk b), (f2, eDoc d)]) := by
  rw [go K.s rfl rfl]
  have sl := stepsFrom_len (b := b) d (0, 0)
  simp_arith [h1, h2, c_steps K.steps (f1 := .f) (f2 := .f) own_f own_f hb hd hl]
  rw [comp_mapE (stepsFrom b (0, 0) d) eFd (fun f => eS f.st) rfl]
  · simp_arith [h1, h2]
    rw [op_addl (by simp; omega)]
    have e : [D.tup [D.int 0, D.int 0]] ++ (stepsFrom b (0, 0) d).map (fun f => eS f.st) = ((0, 0) :: (stepsFrom b (0, 0) d).map Fd.st).map eS := by
      rw [List.map_cons, List.map_map]; rfl
    have hg : (((0, 0) :: (stepsFrom b (0, 0) d).map Fd.st).map eS).getLast? = some (eS (standFrom b (0, 0) d)) := by
      rw [List.getLast?_map, standFrom_steps]; rfl
    rw [e]
    simp_arith [op_last hg]
  · intro f _
    simp_arith [h1, h2]
  · rw [sl]; exact le_line (by omega)
theorem vds_map {α : Type} {f : α → D} {k : Nat} : ∀ {xs : List α}, (∀ x ∈ xs, vd (f x) k = true) → vds (xs.map f) k = true
  | [], _ => by simp [vds]
  | x :: xs, h => by
    rw [List.map_cons, vds, Bool.and_eq_true]
    exact ⟨h x (by simp), vds_map (fun y hy => h y (by simp [hy]))⟩
theorem vd_k {k : Kd} (h : k.ok = true) : vd (eK k) 3 = true := by
  simp only [Kd.ok, nameOk, Bool.and_eq_true, decide_eq_true_eq] at h
  obtain ⟨⟨⟨⟨h1, h2⟩, _⟩, _⟩, _⟩ := h
  have : k.nm.length ≤ 1000000 := by omega
  rcases hp : k.parts with _ | ⟨a, b⟩ <;> simp [eK, vd, vds, this, eO, hp]
theorem vd_bk {b : Bk} (h : b.ok = true) : vd (eBk b) 5 = true := by
  have hh := h
  simp only [Bk.ok, Bool.and_eq_true, decide_eq_true_eq, List.all_eq_true] at h
  have h1 : (b.ks.map eK).length ≤ 1000000 := by rw [List.length_map]; omega
  simp only [eBk, vd, vds, h1, decide_true, Bool.true_and, Bool.and_true, List.length_cons, List.length_nil]
  exact vds_map fun k hk => vd_k (h.1.1.2 k hk)
theorem name_len {b : Bk} (h : b.ok = true) {l : Blk} (hl : blkOk b l = true) : l.1.length ≤ 8 := by
  obtain ⟨k, hk, _⟩ := kindOf_of hl
  have hm := List.mem_of_find?_eq_some hk
  have e := List.find?_some hk
  simp only [beq_iff_eq] at e
  simp only [Bk.ok, Bool.and_eq_true, decide_eq_true_eq, List.all_eq_true] at h
  have := h.1.1.2 k hm
  simp only [Kd.ok, nameOk, Bool.and_eq_true, decide_eq_true_eq] at this
  rw [← e]
  exact this.1.1.1.2
theorem vd_blk {b : Bk} (h : b.ok = true) {l : Blk} (hl : blkOk b l = true) (k : Nat) : vd (eB l) (k + 1) = true := by
  have := name_len h hl
  simp [eB, vd, vds]
  omega
theorem vd_doc {b : Bk} (h : b.ok = true) {d : List Blk} (hd : ∀ l ∈ d, blkOk b l = true) (hl : d.length ≤ 1000000) : vd (eDoc d) 5 = true := by
  have : (d.map eB).length ≤ 1000000 := by rw [List.length_map]; exact hl
  simp only [eDoc, vd, this, decide_true, Bool.true_and]
  exact vds_map fun l hl => vd_blk h (hd l hl) 3
theorem row_doc {b : Bk} {d : List Blk} (hd : ∀ l ∈ d, blkOk b l = true) : rowD b (eDoc d) = true := by rw [rowD_eDoc, List.all_eq_true]; exact hd
theorem isB {b : Bk} (hb : b.ok = true) : (toBk (eBk b)).isSome = true := by rw [toBk_eBk, if_pos hb]; rfl
theorem c_stand_behind (K : K_stand_behind pg) {b : Bk} {d : List Blk} {f1 f2 : Fl} (h1 : f1.own = false) (h2 : f2.own = false) (hb : b.ok = true) (hd : ∀ l ∈ d, blkOk b l = true) (hl : d.length ≤ 10000) :
    callL pg (n + 6) 57 none [(f1, eBk b), (f2, eDoc d)] = .ok ((.f, eS (standFrom b (0, 0) d)), [(f1, eBk b), (f2, eDoc d)]) := by
  rw [go K.s rfl rfl]
  simp_arith [h1, h2, c_check_book K.check_book (f1 := .f) (vd_bk hb), isB hb, c_check_document K.check_document (f1 := .f) (f2 := .f) (vd_doc hb hd (by omega)) own_f (fun _ => own_f), row_doc hd, c_stand_of K.stand_of (f1 := .f) (f2 := .f) own_f own_f (Bk.ok.fit hb) hd hl]
/-- the lines of a document -/
def total (d : List Blk) : Int := (d.map Prod.snd).sum
def epStep (s : List Int × Int) (p : Fd × Blk) : List Int × Int := (s.1 ++ p.1.ct.map (s.2 + ·), s.2 + p.2.2)
def endsOf (b : Bk) (d : List Blk) : List Int × Int := ((stepsFrom b (0, 0) d).zip d).foldl epStep ([], 0)
def pcStep (lo hi : Int) (s : List (Int × Int) × Int) (p : Blk × Nat) : List (Int × Int) × Int :=
  (if 0 < min hi (s.2 + p.1.2) - max lo s.2 then s.1 ++ [((p.2 : Int), min hi (s.2 + p.1.2) - max lo s.2)] else s.1, s.2 + p.1.2)
def piecesM (d : List Blk) (lo hi : Int) : List (Int × Int) := (d.zipIdx.foldl (pcStep lo hi) ([], 0)).1
abbrev eRow (r : List (Int × Int)) : D := .tup (r.map eS)
theorem enu_map {α : Type} {e : α → D} : ∀ (xs : List α) (k : Nat), enu k (xs.map e) = (xs.zipIdx k).map fun p => .tup [.int (p.2 : Int), e p.1]
  | [], k => rfl
  | x :: xs, k => by
    rw [List.map_cons, enu, List.zipIdx_cons, List.map_cons, ← enu_map xs (k + 1)]
    rfl
theorem enu_map0 {α : Type} {e : α → D} {xs : List α} : enu 0 (xs.map e) = xs.zipIdx.map fun p => .tup [.int (p.2 : Int), e p.1] := enu_map xs 0
theorem pc_len {lo hi : Int} (xs : List (Blk × Nat)) : ∀ s, (xs.foldl (pcStep lo hi) s).1.length ≤ s.1.length + xs.length := by
  induction xs with
  | nil => intro s; simp
  | cons x xs ih =>
    intro s
    rw [List.foldl_cons, List.length_cons]
    have := ih (pcStep lo hi s x)
    have h2 : (pcStep lo hi s x).1.length ≤ s.1.length + 1 := by unfold pcStep; simp only []; split <;> simp
    omega
theorem c_pieces (K : K_pieces pg) {d : List Blk} {lo hi : Int} {f1 f2 f3 : Fl} (h1 : f1.own = false) (h2 : f2.own = false) (h3 : f3.own = false) (hl : d.length ≤ 10000) :
    callL pg (n + 1) 47 none [(f1, eDoc d), (f2, .int lo), (f3, .int hi)] = .ok ((.f, eRow (piecesM d lo hi)), [(f1, eDoc d), (f2, .int lo), (f3, .int hi)]) := by
  rw [go K.s rfl rfl]
  simp_arith [h1, h2, h3, eDoc]
  rw [ob_assoc]
  refine for_foldB d.zipIdx (fun p => .tup [.int (p.2 : Int), eB p.1]) (pcStep lo hi) ([], 0) (fun s e => ∃ u v w, e = [some (f1, .tup (d.map eB)), some (f2, .int lo), some (f3, .int hi), some (.o, .lst (s.1.map eS)), some (.f, .int s.2), jk u, jk v, jk w]) enu_map0 ⟨none, none, none, rfl⟩ ?_ ?_
  · rintro pr p po e e0 ⟨u, v, w, rfl⟩
    have lk : (((pr.foldl (pcStep lo hi) ([], 0)).1).map eS).length < LINE := by
      rw [List.length_map]
      have := pc_len (lo := lo) (hi := hi) pr ([], 0)
      have h4 := congrArg List.length e0
      rw [List.length_append, List.length_zipIdx] at h4
      simp only [List.length_nil] at this
      exact lt_line (by omega)
    generalize pr.foldl (pcStep lo hi) ([], 0) = s at lk
    by_cases hp : 0 < min hi (s.2 + p.1.2) - max lo s.2
    · refine ⟨_, .inl ?_, some (.int p.2), some (eB p.1), some (.int (min hi (s.2 + p.1.2) - max lo s.2)), rfl⟩
      have e1 : D.tup [.int (p.2 : Int), .int (min hi (s.2 + p.1.2) - max lo s.2)] = eS ((p.2 : Int), min hi (s.2 + p.1.2) - max lo s.2) := rfl
      simp_arith [h1, h2, h3, hp, lk, pcStep, e1, map_snoc]
    · refine ⟨_, .inl ?_, some (.int p.2), some (eB p.1), some (.int (min hi (s.2 + p.1.2) - max lo s.2)), rfl⟩
      simp_arith [h1, h2, h3, hp, pcStep]
  · rintro e' ⟨u, v, w, rfl⟩
    simp_arith [h1, h2, h3, eRow, piecesM]
theorem c_pages_number (K : K_pages_number pg) {b : Bk} {d : List Blk} {f1 f2 : Fl} (h1 : f1.own = false) (h2 : f2.own = false) (hb : b.fit) (hd : ∀ l ∈ d, blkOk b l = true) (hl : d.length ≤ 10000) :
    callL pg (n + 4) 48 none [(f1, eBk b), (f2, eDoc d)] = .ok ((.f, .int (((stepsFrom b (0, 0) d).map fun f => (f.bl.length : Int)).sum + (if d = [] then 0 else 1))), [(f1, eBk b), (f2, eDoc d)]) := by
  rw [go K.s rfl rfl]
  have sl := stepsFrom_len (b := b) d (0, 0)
  have e0 : op2 .ne (eDoc d) (.tup []) = some (false, .bl (!d.isEmpty)) := by
    rw [op_ne_of pl_doc (by simp [pl, pls]), eqv_doc0]
  simp_arith [h1, h2, c_steps K.steps (f1 := .f) (f2 := .f) own_f own_f hb hd hl]
  rw [comp_mapE (stepsFrom b (0, 0) d) eFd (fun f => .int (f.bl.length : Int)) rfl]
  · cases d <;> simp_arith [h1, h2, bi_sum, e0, List.isEmpty_nil, List.isEmpty_cons, reduceCtorEq]
  · intro f _
    simp_arith [h1, h2, eI, List.length_map]
  · rw [sl]; exact le_line (by omega)
def brStep (s : List (Int × Str)) (p : Fd × Nat) : List (Int × Str) := s ++ p.1.wd.map fun w => ((p.2 : Int), w)
def brokenM (b : Bk) (d : List Blk) : List (Int × Str) := (stepsFrom b (0, 0) d).zipIdx.foldl brStep []
def eIW (p : Int × Str) : D := .tup [.int p.1, .str p.2]
theorem br_len (xs : List (Fd × Nat)) (h : ∀ p ∈ xs, p.1.wd.length ≤ 60) : ∀ s, (xs.foldl brStep s).length ≤ s.length + 60 * xs.length := by
  induction xs with
  | nil => intro s; simp
  | cons x xs ih =>
    intro s
    rw [List.foldl_cons, List.length_cons]
    have := ih (fun p hp => h p (by simp [hp])) (brStep s x)
    have h2 : (brStep s x).length ≤ s.length + 60 := by
      unfold brStep
      rw [List.length_append, List.length_map]
      have := h x (by simp)
      omega
    omega
theorem c_broken_in (K : K_broken_in pg) {b : Bk} {d : List Blk} {f1 f2 : Fl} (h1 : f1.own = false) (h2 : f2.own = false) (hb : b.fit) (hd : ∀ l ∈ d, blkOk b l = true) (hl : d.length ≤ 10000) :
    callL pg (n + 4) 49 none [(f1, eBk b), (f2, eDoc d)] = .ok ((.o, .lst ((brokenM b d).map eIW)), [(f1, eBk b), (f2, eDoc d)]) := by
  rw [go K.s rfl rfl]
  have sl := stepsFrom_len (b := b) d (0, 0)
  have so := stepsFrom_ok hb d (0, 0) (sOk_0 hb) hd
  simp_arith [h1, h2, c_steps K.steps (f1 := .f) (f2 := .f) own_f own_f hb hd hl]
  rw [ob_assoc]
  have wl : ∀ p ∈ (stepsFrom b (0, 0) d).zipIdx, p.1.wd.length ≤ 60 := fun p hp => (so p.1 (List.fst_mem_of_mem_zipIdx hp)).wd
  refine for_foldB (stepsFrom b (0, 0) d).zipIdx (fun p => .tup [.int (p.2 : Int), eFd p.1]) brStep [] (fun s e => ∃ u v, e = [some (f1, eBk b), some (f2, eDoc d), some (.o, .lst (s.map eIW)), jk u, jk v, none]) enu_map0 ⟨none, none, rfl⟩ ?_ ?_
  · rintro pr p po e e0 ⟨u, v, rfl⟩
    have pl60 : p.1.wd.length ≤ 60 := wl p (by rw [e0]; simp)
    have lk := br_len pr (fun q hq => wl q (by rw [e0]; simp [hq])) []
    have h4 := congrArg List.length e0
    rw [List.length_append, List.length_zipIdx] at h4
    simp only [List.length_nil] at lk
    generalize pr.foldl brStep [] = s at lk
    refine ⟨_, .inl ?_, some (.int p.2), some (eFd p.1), rfl⟩
    simp_arith [h1, h2, eW]
    rw [comp_mapE p.1.wd D.str (fun w => eIW ((p.2 : Int), w)) rfl]
    · have l4 : (s.map eIW).length + (p.1.wd.map fun w => eIW ((p.2 : Int), w)).length ≤ LINE := by
        rw [List.length_map, List.length_map]
        exact le_line (by omega)
      simp_arith [h1, h2, l4, brStep, List.map_append, List.map_map, Function.comp_def]
    · intro w _
      simp_arith [h1, h2, eIW]
    · exact le_line (by omega)
  · rintro e' ⟨u, v, rfl⟩
    simp_arith [h1, h2, brokenM]
def blanksM (b : Bk) (d : List Blk) : List Int := ((stepsFrom b (0, 0) d).map Fd.bl).flatten
theorem bl_len {b : Bk} (xs : List Fd) (h : ∀ f ∈ xs, f.bl.length ≤ 60) : ((xs.map Fd.bl).flatten).length ≤ 60 * xs.length := by
  have := flat_len (N := 60) (xs.map Fd.bl) (fun l hl => by
    obtain ⟨f, hf, rfl⟩ := List.mem_map.mp hl
    exact h f hf)
  rwa [List.length_map] at this
theorem c_blanks (K : K_blanks pg) {b : Bk} {d : List Blk} {f1 f2 : Fl} (h1 : f1.own = false) (h2 : f2.own = false) (hb : b.ok = true) (hd : ∀ l ∈ d, blkOk b l = true) (hl : d.length ≤ 10000) :
    callL pg (n + 6) 52 none [(f1, eBk b), (f2, eDoc d)] = .ok ((.o, .lst ((blanksM b d).map D.int)), [(f1, eBk b), (f2, eDoc d)]) := by
  rw [go K.s rfl rfl]
  have hf := Bk.ok.fit hb
  have so := stepsFrom_ok hf d (0, 0) (sOk_0 hf) hd
  have sl := stepsFrom_len (b := b) d (0, 0)
  simp_arith [h1, h2, c_check_book K.check_book (f1 := .f) (vd_bk hb), isB hb, c_check_document K.check_document (f1 := .f) (f2 := .f) (vd_doc hb hd (by omega)) own_f (fun _ => own_f), row_doc hd, c_steps K.steps (f1 := .f) (f2 := .f) own_f own_f hf hd hl]
  rw [ob_assoc]
  refine for_invB (stepsFrom b (0, 0) d) eFd (fun pr e => ∃ v, e = [some (f1, eBk b), some (f2, eDoc d), some (.o, .lst (((pr.map Fd.bl).flatten).map D.int)), jk v]) rfl ⟨none, rfl⟩ ?_ ?_
  · rintro pr f po e e0 ⟨v, rfl⟩
    have b1 := bl_len (b := b) pr (fun f hf => (so f (by rw [e0]; simp [hf])).bl)
    have b2 := (so f (by rw [e0]; simp)).bl
    have h4 := congrArg List.length e0
    rw [List.length_append, List.length_cons] at h4
    have l4 : (((pr.map Fd.bl).flatten).map D.int).length + (f.bl.map D.int).length ≤ LINE := by
      rw [List.length_map, List.length_map]
      exact le_line (by omega)
    refine ⟨_, .inl ?_, some (eFd f), rfl⟩
    simp_arith [h1, h2, eI, l4]
    simp
  · rintro e' ⟨v, rfl⟩
    simp_arith [h1, h2, blanksM]
theorem c_broken (K : K_broken pg) {b : Bk} {d : List Blk} {f1 f2 : Fl} (h1 : f1.own = false) (h2 : f2.own = false) (hb : b.ok = true) (hd : ∀ l ∈ d, blkOk b l = true) (hl : d.length ≤ 10000) :
    callL pg (n + 6) 53 none [(f1, eBk b), (f2, eDoc d)] = .ok ((.o, .lst ((brokenM b d).map eIW)), [(f1, eBk b), (f2, eDoc d)]) := by
  rw [go K.s rfl rfl]
  simp_arith [h1, h2, c_check_book K.check_book (f1 := .f) (vd_bk hb), isB hb, c_check_document K.check_document (f1 := .f) (f2 := .f) (vd_doc hb hd (by omega)) own_f (fun _ => own_f), row_doc hd, c_broken_in K.broken_in (f1 := .f) (f2 := .f) own_f own_f (Bk.ok.fit hb) hd hl]
def countM (b : Bk) (d : List Blk) : Int := ((stepsFrom b (0, 0) d).map fun f => (f.bl.length : Int)).sum + (if d = [] then 0 else 1)
theorem c_count_pages (K : K_count_pages pg) {b : Bk} {d : List Blk} {f1 f2 : Fl} (h1 : f1.own = false) (h2 : f2.own = false) (hb : b.ok = true) (hd : ∀ l ∈ d, blkOk b l = true) (hl : d.length ≤ 10000) :
    callL pg (n + 6) 51 none [(f1, eBk b), (f2, eDoc d)] = .ok ((.f, .int (countM b d)), [(f1, eBk b), (f2, eDoc d)]) := by
  rw [go K.s rfl rfl]
  simp_arith [h1, h2, c_check_book K.check_book (f1 := .f) (vd_bk hb), isB hb, c_check_document K.check_document (f1 := .f) (f2 := .f) (vd_doc hb hd (by omega)) own_f (fun _ => own_f), row_doc hd, c_pages_number K.pages_number (f1 := .f) (f2 := .f) own_f own_f (Bk.ok.fit hb) hd hl, countM]
theorem op_mul1 {xs : List D} (h : xs.length ≤ 1000) : op2 .mul (.lst xs) (.int 1) = some (true, .lst xs) := by
  have e : rep 1 xs = xs := by unfold rep; simp
  simp only [op2]
  rw [if_pos ⟨by decide, by decide, by simp; exact le_line (by omega)⟩, e]
theorem op_mul0 {xs : List D} : op2 .mul (.lst xs) (.int 0) = some (true, .lst []) := by
  have e : rep 0 xs = [] := by unfold rep; simp
  simp only [op2]
  rw [if_pos ⟨by decide, by decide, by simp⟩, e]
def rwStep (d : List Blk) (s : List (List (Int × Int)) × Int) (hi : Int) : List (List (Int × Int)) × Int := (s.1 ++ [piecesM d s.2 hi], hi)
def allEnds (b : Bk) (d : List Blk) : List Int := (endsOf b d).1 ++ (if 0 < (endsOf b d).2 then [(endsOf b d).2] else [])
def pagesM (b : Bk) (d : List Blk) : List (List (Int × Int)) := ((allEnds b d).foldl (rwStep d) ([], 0)).1
theorem rw_len {d : List Blk} (xs : List Int) : ∀ s, (xs.foldl (rwStep d) s).1.length = s.1.length + xs.length := by
  induction xs with
  | nil => intro s; simp
  | cons x xs ih =>
    intro s
    rw [List.foldl_cons, List.length_cons, ih]
    simp [rwStep]
    omega
theorem ep_len (xs : List (Fd × Blk)) (h : ∀ p ∈ xs, p.1.ct.length ≤ 60) : ∀ s, (xs.foldl epStep s).1.length ≤ s.1.length + 60 * xs.length := by
  induction xs with
  | nil => intro s; simp
  | cons x xs ih =>
    intro s
    rw [List.foldl_cons, List.length_cons]
    have := ih (fun p hp => h p (by simp [hp])) (epStep s x)
    have h2 : (epStep s x).1.length ≤ s.1.length + 60 := by
      unfold epStep
      rw [List.length_append, List.length_map]
      have := h x (by simp)
      omega
    omega
theorem zip_ok {b : Bk} (hb : b.fit) {d : List Blk} (hd : ∀ l ∈ d, blkOk b l = true) : ∀ p ∈ (stepsFrom b (0, 0) d).zip d, p.1.ct.length ≤ 60 := fun p hp =>
  (stepsFrom_ok hb d (0, 0) (sOk_0 hb) hd p.1 (List.of_mem_zip hp).1).ct
theorem zip_len {b : Bk} {d : List Blk} : ((stepsFrom b (0, 0) d).zip d).length = d.length := by
  rw [List.length_zip, stepsFrom_len, Nat.min_self]
theorem allEnds_len {b : Bk} (hb : b.fit) {d : List Blk} (hd : ∀ l ∈ d, blkOk b l = true) : (allEnds b d).length ≤ 60 * d.length + 1 := by
  have := ep_len _ (zip_ok hb hd) ([], 0)
  rw [zip_len] at this
  unfold allEnds endsOf
  rw [List.length_append]
  simp only [List.length_nil] at this
  split <;> simp <;> omega
theorem c_pages_of (K : K_pages_of pg) {b : Bk} {d : List Blk} {f1 f2 : Fl} (h1 : f1.own = false) (h2 : f2.own = false) (hb : b.fit) (hd : ∀ l ∈ d, blkOk b l = true) (hl : d.length ≤ 10000) :
    callL pg (n + 4) 46 none [(f1, eBk b), (f2, eDoc d)] = .ok ((.o, .lst ((pagesM b d).map eRow)), [(f1, eBk b), (f2, eDoc d)]) := by
  rw [go K.s rfl rfl]
  have zo := zip_ok hb hd
  have zl := zip_len (b := b) (d := d)
  have ae := allEnds_len hb hd
  simp_arith [h1, h2, c_steps K.steps (f1 := .f) (f2 := .f) own_f own_f hb hd hl, eDoc]
  rw [ob_assoc]
  refine for_foldB ((stepsFrom b (0, 0) d).zip d) (fun p => .tup [eFd p.1, eB p.2]) epStep ([], 0) (fun s e => ∃ u v, e = [some (f1, eBk b), some (f2, .tup (d.map eB)), some (.o, .lst (s.1.map D.int)), some (.f, .int s.2), jk u, jk v, none, none, none, none]) ?_ ⟨none, none, rfl⟩ ?_ ?_
  · rw [List.zip_map, List.map_map]; rfl
  · rintro pr p po e e0 ⟨u, v, rfl⟩
    have pl60 : p.1.ct.length ≤ 60 := zo p (by rw [e0]; simp)
    have lk := ep_len pr (fun q hq => zo q (by rw [e0]; simp [hq])) ([], 0)
    have h4 := congrArg List.length e0
    rw [List.length_append, zl] at h4
    simp only [List.length_nil] at lk
    generalize pr.foldl epStep ([], 0) = s at lk
    refine ⟨_, .inl ?_, some (eFd p.1), some (eB p.2), rfl⟩
    simp_arith [h1, h2, eI]
    rw [comp_mapE p.1.ct D.int (fun c => .int (s.2 + c)) rfl]
    · simp_arith [h1, h2]
      rw [op_addl (by rw [List.length_map, List.length_map]; omega)]
      simp_arith [h1, h2, epStep, List.map_append, List.map_map, Function.comp_def]
    · intro w _
      simp_arith [h1, h2]
    · exact le_line (by omega)
  · rintro e' ⟨u, v, rfl⟩
    have eal : allEnds b d = (endsOf b d).1 ++ (if 0 < (endsOf b d).2 then [(endsOf b d).2] else []) := rfl
    have le1 : (endsOf b d).1.length ≤ 60 * d.length + 1 := by rw [eal, List.length_append] at ae; omega
    have eps : ((stepsFrom b (0, 0) d).zip d).foldl epStep ([], 0) = endsOf b d := rfl
    rw [eps]
    have st : seqOf (.lst ((allEnds b d).map D.int)) = some ((allEnds b d).map D.int) := rfl
    have loop : ∀ u v, (forS (fun g us => callL pg (n + 3) g none us) (fun g l us => callL pg (n + 3) g (some l) us) none (.nm 9) (t_pages_of.body.getS 3).forB ((allEnds b d).map D.int) [some (f1, eBk b), some (f2, .tup (d.map eB)), some (.o, .lst ((endsOf b d).1.map D.int)), some (.f, .int (endsOf b d).2), jk u, jk v, none, some (.o, .lst []), some (.f, .int 0), none]).bind (fun a => (kNext (fun g us => callL pg (n + 3) g none us) (fun g l us => callL pg (n + 3) g (some l) us) none (t_pages_of.body.dropS 4) a).bind (kRun 2)) = .ok ((.o, .lst ((pagesM b d).map eRow)), [(f1, eBk b), (f2, .tup (d.map eB))]) := fun u v => by
      refine for_foldB (allEnds b d) D.int (rwStep d) ([], 0) (fun s e => ∃ w, e = [some (f1, eBk b), some (f2, .tup (d.map eB)), some (.o, .lst ((endsOf b d).1.map D.int)), some (.f, .int (endsOf b d).2), jk u, jk v, none, some (.o, .lst (s.1.map eRow)), some (.f, .int s.2), jk w]) rfl ⟨none, rfl⟩ ?_ ?_
      · rintro pr p po e e0 ⟨w, rfl⟩
        have lk := rw_len (d := d) pr ([], 0)
        have h4 := congrArg List.length e0
        rw [List.length_append] at h4
        simp only [List.length_nil] at lk
        generalize pr.foldl (rwStep d) ([], 0) = s at lk
        have l3 : (s.1.map eRow).length < LINE := by rw [List.length_map]; exact lt_line (by omega)
        have cp := c_pieces K.pieces (n := n + 2) (d := d) (lo := s.2) (hi := p) (f1 := .f) (f2 := .f) (f3 := .f) own_f own_f own_f hl
        rw [eDoc] at cp
        refine ⟨_, .inl ?_, some (.int p), rfl⟩
        simp_arith [t_pages_of, Sms.getS, Sm.forB, h1, h2, cp, l3, rwStep, map_snoc]
      · rintro e' ⟨w, rfl⟩
        simp_arith [t_pages_of, Sms.dropS, h1, h2, pagesM]
    have loop := loop u v
    simp only [t_pages_of, Sms.getS, Sms.dropS, Sm.forB] at loop
    by_cases hp : 0 < (endsOf b d).2
    · rw [if_pos hp] at eal
      rw [eal, List.map_append, List.map_cons, List.map_nil] at loop
      simp_arith [h1, h2, hp, op_mul1]
      rw [op_addl (by simp; omega)]
      simp_arith [h1, h2]
      rw [ob_assoc]
      exact loop
    · rw [if_neg hp, List.append_nil] at eal
      rw [eal] at loop
      simp_arith [h1, h2, hp, op_mul0]
      rw [op_addl (by simp; omega), List.append_nil]
      simp_arith [h1, h2]
      rw [ob_assoc]
      exact loop
theorem c_pages (K : K_pages pg) {b : Bk} {d : List Blk} {f1 f2 : Fl} (h1 : f1.own = false) (h2 : f2.own = false) (hb : b.ok = true) (hd : ∀ l ∈ d, blkOk b l = true) (hl : d.length ≤ 10000) :
    callL pg (n + 6) 50 none [(f1, eBk b), (f2, eDoc d)] = .ok ((.o, .lst ((pagesM b d).map eRow)), [(f1, eBk b), (f2, eDoc d)]) := by
  rw [go K.s rfl rfl]
  simp_arith [h1, h2, c_check_book K.check_book (f1 := .f) (vd_bk hb), isB hb, c_check_document K.check_document (f1 := .f) (f2 := .f) (vd_doc hb hd (by omega)) own_f (fun _ => own_f), row_doc hd, c_pages_of K.pages_of (f1 := .f) (f2 := .f) own_f own_f (Bk.ok.fit hb) hd hl]
end
end MP.Q
/-! PM6: one block at a stand. -/
namespace MP.Q
open PySem (Str)
set_option maxRecDepth 100000
local macro_rules
  | `(tactic| simp_arith [$xs:simpLemma,*]) => `(tactic| simp -implicitDefEqProofs only [AV.rd, En.frz, AV.use, rds, uses, passA, lent, backA, setV, bindV, takes, bindOs, Tg.set, Tg.sets, seqOf, seqLT, Out.bool, wipe, ownAt, kTup, kLst, kDct, kOp, kCmp, kBi, rcv, isDct, kSlc, kPart, kNot, kCall, kGet2, kUse, kInt, kSeq, kEnu, kZip, kItems, kTurn, kPar, kSub, kApp, isLst, kExt, kRet, outsOf, u_qTup, u_qLst, u_qDct2, u_qDct1, u_qOp2, u_qOp1, u_qCh3, u_qCh2, u_qCh1, u_qBi, u_qMth2, u_qMth1, u_qSl3, u_qSl2, u_qSl1, u_qNotP, u_qTst, u_qAnd2, u_qAnd1, u_qOr2, u_qOr1, u_qNot2, u_qNot1, u_qIte2, u_qIte1, u_qCall, u_qG3, u_qG2, u_qG1, u_qCmE, u_qEs2, u_qEs1, u_qBool, u_qPart, u_qSq2, u_qSq1, u_qR2, u_qR1, u_qR6, u_qR5, u_qR4, u_qR3, u_qEn2, u_qEn1, u_qZ4, u_qZ3, u_qZ2, u_qZ1, u_qI2, u_qI1, u_qNx, u_qAsg, u_qPar, u_qU2, u_qU1, u_qS2, u_qS1, u_qDr, u_qApp, u_qExt, u_qIf, u_qRet, canSet_eq, cs_n, cs_f, cs_o, cs_jk, jk_none, jk_some, kFor, turnS, kComp, at_z, at_s, st_z, st_s, ln_c, ln_n, ob_ok, ob_exn, nx_ok, own_o, own_p, own_f, own_q, frz_o, frz_p, frz_f, frz_q, ev_var, ev_cst, ev_tup, ev_lst, ev_dct, ev_op, ev_chain, ev_bi, ev_mth, ev_slc, ev_and, ev_or, ev_not, ev_ite, ev_call, ev_pop, ev_pop0, ev_get2, ev_comp, es_nil, es_cons, ec_nil, ec_cons, ep_nil, ep_cons, ei_seq, ei_rng1, ei_rng2, ei_enu, ei_zip, ei_items, et_eq, ss_nil, ss_cons, s_asg, s_par, s_unp, s_sub, s_drop, s_app, s_ext, s_ifs, s_whl, s_for, s_ret, s_retN, s_raise, s_pass, s_brk, s_cnt, kn_nx, kn_rt, kn_bk, kn_ct, env1, kRun, nn_non, nn_bl, nn_int, nn_str, nn_tup, nn_lst, op_isn_non, op_notn_non, op_addi, op_subi, op_lti, op_lei, op_gti, op_gei, op_eqi, op_nei, op_eqs, op_nes, op_tup0, op_tup1, op_tup2, op_tup3, op_tup4, bi_min2, bi_max2, bi_int, bi_intb, bi_neg, bi_lent, bi_lenl, bi_tupl, bi_tupt, bi_listl, bi_listt, fn_true, tt_true, cutD_l, cutD_t, op_lts, un_nil, un_cons, nc0, nc1, nc2, nc3, nc4, nc5, turnF_eq, ix_bk0, ix_bk1, ix_k0, ix_k1, ix_k2, ix_k3, ix_k4, nn_k, nn_bk, nn_O, ix_b0, ix_b1, op_lst0, op_lst1, bi_lenf, ix_fd0, ix_fd1, ix_fd2, ix_fd3, ix_s0, ix_s1, env1.nones, Option.isSome_some, Option.isSome_none, ite_true, ite_false, Option.map_some, Option.map_none, Option.getD_some, List.nodup_nil, List.nodup_cons, List.not_mem_nil, not_false_eq_true, true_and, List.isEmpty_nil, id, List.nil_append, List.cons_append, Bool.true_and, Bool.and_true, ↓reduceIte, Nat.reduceSub, Nat.reduceAdd, Nat.reduceLT, Nat.reduceLeDiff, Nat.reduceEqDiff, List.mem_cons, or_false, false_or, and_self, and_true, false_and, and_false, Int.reduceBEq, Int.reduceLE, Int.reduceLT, decide_true, decide_false, decide_eq_true_eq, Bool.not_eq_true', decide_eq_false_iff_not, Bool.not_true, Bool.not_false, Bool.and_eq_true, Bool.or_eq_true, Bool.false_eq_true, Bool.true_eq_false, $xs,*])
set_option maxHeartbeats 1000000
section
variable {pg : Nat → Option Df} {n : Nat}
/-- whether a value is a stand -/
def standD (b : Bk) (d : D) : Bool := match d with
  | .tup [.int u, .int h] => decide (0 ≤ u) && decide (u ≤ b.h) && (decide (0 ≤ h) && decide (h ≤ u))
  | _ => false
theorem c_check_stand (K : K_check_stand pg) {b : Bk} {d : D} {f1 f2 : Fl} {m : Nat} (hd : vd d m = true) (h1 : f1.own = false) :
    ∃ env, callL pg (n + 2) 39 none [(f1, eBk b), (f2, d)] = if standD b d then .ok ((.f, .non), [(f1, eBk b), (f2, d)]) else .exn (S "InvalidStand") none env := by
  refine ⟨[some (f1, eBk b), some (f2, d)], ?_⟩
  rw [go K.s rfl rfl]
  have ht := vd_tp hd
  cases d with
  | tup ds =>
    obtain ⟨m, rfl, hl, hm⟩ := vd_tup hd
    by_cases g : ds.length = 2
    · match ds, g with
      | [a, v], _ =>
        have ta := vd_tp (hm a (by simp))
        have tv := vd_tp (hm v (by simp))
        cases ha : fromD a 0 b.h with
        | false =>
          have e : standD b (.tup [a, v]) = false := by
            unfold standD
            split
            · rename_i u h e
              cases e
              simp only [fromD] at ha
              simp only [ha, Bool.false_and]
            · rfl
          rcases f0 : f2.own with _ | _ <;> simp_arith [f0, h1, bi_isTup ht, isTup, c_is_from K.is_from ta, ha, e]
        | true =>
          obtain ⟨u, rfl, u0, u1⟩ := fromD_some ha
          have e : standD b (.tup [.int u, v]) = fromD v 0 u := by
            unfold standD
            cases v <;> simp [fromD, u0, u1]
          cases hv : fromD v 0 u <;> rcases f0 : f2.own with _ | _ <;> simp_arith [f0, h1, bi_isTup ht, isTup, c_is_from K.is_from ta, c_is_from K.is_from tv, ha, e, hv]
    · have e : standD b (.tup ds) = false := by
        match ds, g with
        | [], _ => rfl
        | [_], _ => simp [standD]
        | _ :: _ :: _ :: _, _ => simp [standD]
        | [_, _], g => exact absurd rfl g
      have g' : ((ds.length : Int) == 2) = false := by rw [beq_eq_false_iff_ne]; omega
      rcases f0 : f2.own with _ | _ <;> simp_arith [f0, h1, bi_isTup ht, isTup, g', e]
  | dct _ _ => cases ht
  | fn _ => cases ht
  | fls _ => cases ht
  | _ => rcases f0 : f2.own with _ | _ <;> simp_arith [f0, h1, bi_isTup ht, isTup, standD]
theorem cut3 {α : Type} {a b c d : α} : cut [a, b, c, d] none (some 3) = [a, b, c] := rfl
theorem standD_eS {b : Bk} {st : Int × Int} (h : sOk b st) : standD b (eS st) = true := by
  obtain ⟨h0, h1, h2⟩ := h
  simp only [standD, eS, Bool.and_eq_true, decide_eq_true_eq]
  omega
theorem vd_eS {st : Int × Int} {k : Nat} : vd (eS st) (k + 1) = true := by simp [eS, vd, vds]
def eAft (f : Fd) : D := .tup [eS f.st, eI f.bl, eW f.wd]
theorem slc_fd {f : Fd} : cutD (eFd f) none (some 3) = some (false, eAft f) := rfl
theorem c_after (K : K_after pg) {b : Bk} {st : Int × Int} {l : Blk} {f1 f2 f3 : Fl} (h1 : f1.own = false) (h2 : f2.own = false) (h3 : f3.own = false) (hb : b.ok = true) (hl : blkOk b l = true) (hs : sOk b st) :
    callL pg (n + 6) 40 none [(f1, eBk b), (f2, eS st), (f3, eB l)] = .ok ((.f, eAft (fill b st l)), [(f1, eBk b), (f2, eS st), (f3, eB l)]) := by
  rw [go K.s rfl rfl]
  obtain ⟨env, cs⟩ := c_check_stand K.check_stand (n := n + 3) (b := b) (f1 := .f) (f2 := .f) (vd_eS (st := st) (k := 0)) own_f
  rw [standD_eS hs] at cs
  have e : blockD b (eB l) = true := hl
  simp_arith [h1, h2, h3, c_check_book K.check_book (f1 := .f) (vd_bk hb), isB hb, cs, c_check_block K.check_block (f1 := .f) (f2 := .f) (vd_blk hb hl 0) own_f, e, c_fill K.filled (f1 := .f) (f2 := .f) (f3 := .f) own_f own_f own_f (Bk.ok.fit hb) hl hs, slc_fd]
/-! #### whether pages have all lines in order -/
def expand (rows : List (List (Int × Int))) : List Int := (rows.flatten.map fun p => List.replicate p.2.toNat p.1).flatten
def owners (d : List Blk) : List Int := (d.zipIdx.map fun p => List.replicate p.1.2.toNat (p.2 : Int)).flatten
theorem op_mulk {x : D} {k : Int} (h0 : 0 ≤ k) (h : k ≤ 1000000) : op2 .mul (.lst [x]) (.int k) = some (true, .lst (List.replicate k.toNat x)) := by
  have e : rep k [x] = List.replicate k.toNat x := by
    unfold rep
    generalize k.toNat = j
    induction j with
    | zero => rfl
    | succ j ih => rw [List.replicate_succ, List.flatten_cons, ih]; rfl
  have l : [x].length * k.toNat ≤ LINE := le_line (by simp; omega)
  simp only [op2]
  rw [if_pos ⟨by omega, by omega, l⟩, e]
theorem rep_map {k : Nat} {i : Int} : List.replicate k (D.int i) = (List.replicate k i).map D.int := by rw [List.map_replicate]
theorem expand_snoc {rows : List (List (Int × Int))} {r : List (Int × Int)} : expand (rows ++ [r]) = expand rows ++ expand [r] := by
  simp [expand]
theorem expand1 {r : List (Int × Int)} {p : Int × Int} : expand [r ++ [p]] = expand [r] ++ List.replicate p.2.toNat p.1 := by
  simp [expand]
theorem expand_nil : expand [[]] = [] := rfl
theorem expand_app {r s : List (List (Int × Int))} : expand (r ++ s) = expand r ++ expand s := by simp [expand]
theorem expand1_app {r s : List (Int × Int)} : expand [r ++ s] = expand [r] ++ expand [s] := by simp [expand]
theorem owners_len (d : List Blk) (hd : ∀ l ∈ d, 1 ≤ l.2 ∧ l.2 ≤ 6) : (owners d).length ≤ 6 * d.length := by
  unfold owners
  have := flat_len (N := 6) (d.zipIdx.map fun p => List.replicate p.1.2.toNat (p.2 : Int)) (fun l hl => by
    obtain ⟨p, hp, rfl⟩ := List.mem_map.mp hl
    have := hd p.1 (List.fst_mem_of_mem_zipIdx hp)
    rw [List.length_replicate]
    omega)
  rwa [List.length_map, List.length_zipIdx] at this
theorem owners_take {d : List Blk} {i : Nat} (hi : i < d.length) : owners (d.take (i + 1)) = owners (d.take i) ++ List.replicate d[i].2.toNat (i : Int) := by
  unfold owners
  rw [← List.take_append_getElem hi, List.zipIdx_append, List.map_append, List.flatten_append]
  simp [Nat.min_eq_left (Nat.le_of_lt hi)]
theorem in_order1 {d : List Blk} {rows : List (List (Int × Int))} {f1 f2 : Fl} (h1 : f1.own = false) (h2 : f2.own = false) (hd : ∀ l ∈ d, 1 ≤ l.2 ∧ l.2 ≤ 6) (hl : d.length ≤ 10000) (hr : ∀ r ∈ rows, r ≠ [] ∧ ∀ p ∈ r, 0 ≤ p.2) (he : expand rows = owners d) :
    ∃ e', forS (fun g us => callL pg n g none us) (fun g l us => callL pg n g (some l) us) none (.nm 3) ((t__law_in_order.body.getS 1).forB) (rows.map eRow) [some (f1, eDoc d), some (f2, .lst (rows.map eRow)), some (.o, .lst []), none, none, none, none, none] = .ok (.nx, e') ∧
      ∃ u v w, e' = [some (f1, eDoc d), some (f2, .lst (rows.map eRow)), some (.o, .lst ((expand rows).map D.int)), jk u, jk v, jk w, none, none] := by
  have ol := owners_len d hd
  refine for_invX rows eRow (fun pr e => ∃ u v w, e = [some (f1, eDoc d), some (f2, .lst (rows.map eRow)), some (.o, .lst ((expand pr).map D.int)), jk u, jk v, jk w, none, none]) rfl ⟨none, none, none, rfl⟩ ?_
  rintro pr r po e e0 ⟨u, v, w, rfl⟩
  have L2 : ∃ e', forS (fun g us => callL pg n g none us) (fun g l us => callL pg n g (some l) us) none (.tp [.nm 4, .nm 5]) (((t__law_in_order.body.getS 1).forB.getS 0).forB) (r.map eS) [some (f1, eDoc d), some (f2, .lst (rows.map eRow)), some (.o, .lst ((expand pr).map D.int)), some (.f, eRow r), jk v, jk w, none, none] = .ok (.nx, e') ∧
      ∃ v w, e' = [some (f1, eDoc d), some (f2, .lst (rows.map eRow)), some (.o, .lst ((expand (pr ++ [r])).map D.int)), some (.f, eRow r), jk v, jk w, none, none] := by
    obtain ⟨e', g1, v, w, g2⟩ := for_invX (cf := fun g us => callL pg n g none us) (cl := fun g l us => callL pg n g (some l) us) (lf := none) (tg := .tp [.nm 4, .nm 5]) (b := ((t__law_in_order.body.getS 1).forB.getS 0).forB) (env := [some (f1, eDoc d), some (f2, .lst (rows.map eRow)), some (.o, .lst ((expand pr).map D.int)), some (.f, eRow r), jk v, jk w, none, none]) r eS (fun q e => ∃ v w, e = [some (f1, eDoc d), some (f2, .lst (rows.map eRow)), some (.o, .lst ((expand pr ++ expand [q]).map D.int)), some (.f, eRow r), jk v, jk w, none, none]) rfl ⟨v, w, by rw [expand_nil, List.append_nil]⟩ (by
      rintro q p po' e e1 ⟨v, w, rfl⟩
      have hp := (hr r (by rw [e0]; simp)).2 p (by rw [e1]; simp)
      have tl : (expand pr).length + ((expand [q]).length + p.2.toNat) ≤ 6 * d.length := by
        have h5 : (expand rows).length = (owners d).length := by rw [he]
        rw [e0, expand_app, List.length_append, show r :: po = [r] ++ po from rfl, expand_app, List.length_append, e1, show q ++ p :: po' = (q ++ [p]) ++ po' by simp, expand1_app, List.length_append, expand1, List.length_append, List.length_replicate] at h5
        omega
      refine ⟨_, .inl ?_, some (.int p.1), some (.int p.2), rfl⟩
      simp_arith [t__law_in_order, Sms.getS, Sm.forB, h1, h2, eS]
      rw [op_mulk hp (by omega)]
      simp_arith [h1, h2]
      rw [op_addl (by simp only [List.length_map, List.length_append, List.length_replicate]; omega)]
      simp_arith [h1, h2, rep_map, expand1, List.map_append, List.append_assoc])
    exact ⟨e', g1, v, w, by rw [g2, expand_snoc]⟩
  obtain ⟨e2, hf, v, w, rfl⟩ := L2
  simp only [t__law_in_order, Sms.getS, Sm.forB] at hf
  refine ⟨_, .inl ?_, some (eRow r), v, w, rfl⟩
  simp_arith [t__law_in_order, Sms.getS, Sm.forB, h1, h2, hf]
theorem in_order2 {d : List Blk} {rows : List (List (Int × Int))} {f1 f2 : Fl} (h1 : f1.own = false) (h2 : f2.own = false) (hd : ∀ l ∈ d, 1 ≤ l.2 ∧ l.2 ≤ 6) (hl : d.length ≤ 10000) (u v w : Option D) :
    ∃ e', forS (fun g us => callL pg n g none us) (fun g l us => callL pg n g (some l) us) none (.nm 7) ((t__law_in_order.body.getS 3).forB) (rng 0 d.length) [some (f1, eDoc d), some (f2, .lst (rows.map eRow)), some (.o, .lst ((expand rows).map D.int)), jk u, jk v, jk w, some (.o, .lst []), none] = .ok (.nx, e') ∧
      ∃ z, e' = [some (f1, eDoc d), some (f2, .lst (rows.map eRow)), some (.o, .lst ((expand rows).map D.int)), jk u, jk v, jk w, some (.o, .lst ((owners (d.take d.length)).map D.int)), jk z] := by
  refine for_rangeX d.length eN (fun i e => ∃ z, e = [some (f1, eDoc d), some (f2, .lst (rows.map eRow)), some (.o, .lst ((expand rows).map D.int)), jk u, jk v, jk w, some (.o, .lst ((owners (d.take i)).map D.int)), jk z]) (rng_n (by omega)) ⟨none, rfl⟩ ?_
  rintro i e hi ⟨z, rfl⟩
  have e0 : (0 : Int) + (i : Int) = i := by omega
  have hg : (d.map eB)[i]? = some (eB d[i]) := by rw [List.getElem?_map, List.getElem?_eq_getElem hi]; rfl
  have hi6 := hd d[i] (List.getElem_mem hi)
  have ll := owners_len (d.take i) (fun l hl => hd l (List.mem_of_mem_take hl))
  rw [List.length_take] at ll
  refine ⟨_, .inl ?_, some (eN i), rfl⟩
  simp_arith [t__law_in_order, Sms.getS, Sm.forB, h1, h2, eN, e0, op_tupi hg]
  rw [op_mulk (by omega) (by omega)]
  simp_arith [h1, h2]
  rw [op_addl (by simp only [List.length_map, List.length_replicate]; omega)]
  simp_arith [h1, h2, rep_map, owners_take hi, List.map_append]
theorem c_in_order (K : K__law_in_order pg) {d : List Blk} {rows : List (List (Int × Int))} {f1 f2 : Fl} (h1 : f1.own = false) (h2 : f2.own = false) (hd : ∀ l ∈ d, 1 ≤ l.2 ∧ l.2 ≤ 6) (hl : d.length ≤ 10000)
    (hr : ∀ r ∈ rows, r ≠ [] ∧ ∀ p ∈ r, 0 ≤ p.2) (he : expand rows = owners d) (rl : rows.length ≤ 700000) :
    callL pg (n + 1) 58 none [(f1, eDoc d), (f2, .lst (rows.map eRow))] = .ok ((.f, .bl true), [(f1, eDoc d), (f2, .lst (rows.map eRow))]) := by
  have ol := owners_len d hd
  obtain ⟨e', hf, u, v, w, rfl⟩ := in_order1 (pg := pg) (n := n) h1 h2 hd hl hr he
  obtain ⟨e', hf3, z, rfl⟩ := in_order2 (pg := pg) (n := n) (rows := rows) h1 h2 hd hl u v w
  simp only [t__law_in_order, Sms.getS, Sm.forB, List.take_length] at hf hf3
  rw [he] at hf hf3
  rw [go K.s rfl rfl]
  have pe : pl (.lst ((owners d).map D.int)) 64 = true := pl_lst fun _ _ => by simp [pl]
  have rd : inRng d.length = true := inRng_small (by omega) (by omega)
  simp_arith [h1, h2]
  rw [hf]
  simp_arith [h1, h2, List.length_map, rd]
  rw [hf3]
  simp_arith [h1, h2, op_eq_self pe]
  rw [comp_filterE rows eRow eRow (fun _ => false) rfl]
  · have p0 : pl (.lst []) 64 = true := by simp [pl, pls]
    have ff : rows.filter (fun _ => false) = [] := by simp
    simp_arith [h1, h2, ff, List.map_nil, op_eq_self p0]
  · intro r hr'
    have ne := (hr r hr').1
    have q : op2 .eq (eRow r) (.tup []) = some (false, .bl false) := by
      rw [op_eq_of (pl_tup fun _ _ => pl_eS) (by simp [pl, pls])]
      cases r with
      | nil => exact absurd rfl ne
      | cons a r => simp [eqv, eqvs]
    simp_arith [h1, h2, q]
  · exact le_line (by omega)
end
end MP.Q
/-! PT1: what holds of pages, in plain words. -/
namespace MP.Q
open PySem (Str)
/-- pages of h lines: where they end, how many lines lack -/
def chain (h : Int) : Int → List Int → List Int → Int → Prop
  | p, [], [], q => p = q
  | p, c :: ct, b :: bl, q => p < c ∧ c - p = h - b ∧ 0 ≤ b ∧ chain h c ct bl q
  | _, _, _, _ => False
theorem chain_app {h : Int} : ∀ {ct bl : List Int} {p q : Int} {ct2 bl2 : List Int} {r : Int}, chain h p ct bl q → chain h q ct2 bl2 r → chain h p (ct ++ ct2) (bl ++ bl2) r
  | [], [], p, q, _, _, _, h1, h2 => by cases h1; exact h2
  | c :: ct, b :: bl, p, q, _, _, _, h1, h2 => ⟨h1.1, h1.2.1, h1.2.2.1, chain_app h1.2.2.2 h2⟩
  | [], _ :: _, _, _, _, _, _, h1, _ => h1.elim
  | _ :: _, [], _, _, _, _, _, h1, _ => h1.elim
theorem chain_one {h p c b : Int} (h1 : p < c) (h2 : c - p = h - b) (h3 : 0 ≤ b) : chain h p [c] [b] c := ⟨h1, h2, h3, rfl⟩
theorem chain_shift {h a : Int} : ∀ {ct bl : List Int} {p q : Int}, chain h p ct bl q → chain h (a + p) (ct.map (a + ·)) bl (a + q)
  | [], [], p, q, h1 => by cases h1; rfl
  | c :: ct, b :: bl, p, q, h1 => ⟨by have := h1.1; show a + p < a + c; omega, by have := h1.2.1; show a + c - (a + p) = h - b; omega, h1.2.2.1, chain_shift h1.2.2.2⟩
  | [], _ :: _, _, _, h1 => h1.elim
  | _ :: _, [], _, _, h1 => h1.elim
theorem chain_len {h : Int} : ∀ {ct bl : List Int} {p q : Int}, chain h p ct bl q → ct.length = bl.length
  | [], [], _, _, _ => rfl
  | _ :: ct, _ :: bl, _, _, h1 => by simp [chain_len h1.2.2.2]
  | [], _ :: _, _, _, h1 => h1.elim
  | _ :: _, [], _, _, h1 => h1.elim
/-- what holds while filling: where pages end -/
structure FsCh (h n u0 : Int) (s : Fs) : Prop where
  ok : FsOk h n s
  ch : chain h (0 - u0) s.ct s.bl (n - s.rest - s.used)
  un : 0 < s.used → s.rest = n
theorem fsCh_first {h n : Int} {k : Kd} {st : Int × Int} (hh : 2 ≤ h) (hn : 1 ≤ n) (h1 : 0 ≤ st.2) (h2 : st.2 ≤ st.1) (h3 : st.1 ≤ h) : FsCh h n st.1 (fFirst h k st n) := by
  refine ⟨fFirst_ok hh hn h1 h2 h3, ?_, ?_⟩
  · unfold fFirst
    split
    · rename_i g
      have := g.2
      have e : n - n - 0 = 0 := by omega
      simp only [e]
      exact chain_one (by omega) (by omega) (by omega)
    · show 0 - st.1 = n - n - st.1
      omega
  · unfold fFirst
    split <;> simp
theorem fsCh_step {h n u0 : Int} {k : Kd} {s : Fs} (hh : 2 ≤ h) (hp : partsOk k.parts = true) (o : FsCh h n u0 s) (g : fGo h s = true) : FsCh h n u0 (fStep h k n s) := by
  have so := (fStep_ok hh hp o.ok g).1
  obtain ⟨⟨r1, rn, u1, uh, uu⟩, ch, un⟩ := o
  simp only [fGo, decide_eq_true_eq] at g
  refine ⟨so, ?_, ?_⟩
  · unfold fStep
    by_cases p0 : gpM k.parts (h - s.used) s.rest = 0
    · by_cases a : s.held < s.used
      · have := un (by omega)
        simp only [p0, a, and_self, if_true]
        refine chain_app ch ?_
        have e : n - s.rest - s.held = 0 - s.held := by omega
        rw [e]
        exact chain_one (by omega) (by omega) (by omega)
      · by_cases c : 0 < s.used
        · have := un c
          simp only [p0, a, c, and_false, and_true, if_true, if_false]
          refine chain_app ch ?_
          have e : n - s.rest - 0 = 0 := by omega
          rw [e]
          exact chain_one (by omega) (by omega) (by omega)
        · simp only [p0, a, c, and_false, if_true, if_false]
          refine chain_app ch ?_
          have e : n - (s.rest - h) - 0 = n - (s.rest - h) := by omega
          rw [e]
          exact chain_one (by omega) (by omega) (by omega)
    · have := gpM_pos hp p0
      simp only [p0, false_and, if_false]
      refine chain_app ch ?_
      have e : ∀ x : Int, n - (s.rest - x) - 0 = n - (s.rest - x) := fun x => by omega
      rw [e]
      exact chain_one (by omega) (by omega) (by omega)
  · unfold fStep
    by_cases p0 : gpM k.parts (h - s.used) s.rest = 0
    · by_cases a : s.held < s.used
      · have := un (by omega)
        simp only [p0, a, and_self, if_true]
        intro _
        exact this
      · by_cases c : 0 < s.used
        · simp [p0, a, c]
        · simp [p0, a, c]
    · simp [p0]
theorem fill_chain {b : Bk} (hb : b.fit) {st : Int × Int} (hs : sOk b st) {l : Blk} (hl : blkOk b l = true) : chain b.h (0 - st.1) (fill b st l).ct (fill b st l).bl (l.2 - (fill b st l).st.1) ∧ 1 ≤ (fill b st l).st.1 := by
  obtain ⟨k, hk, hm, l1, l6, kp⟩ := blk_fit hb hl
  have e : fill b st l = fDone k (fLast b.h k st l.2) := by unfold fill; rw [hk]; rfl
  have hi := iter_ind (c := fGo b.h) (f := fStep b.h k l.2) (FsCh b.h l.2 st.1) (fun s p g => fsCh_step hb.h2 kp p g) 40 _ (fsCh_first (k := k) hb.h2 l1 hs.h0 hs.h1 hs.h2)
  have hi : FsCh b.h l.2 st.1 (fLast b.h k st l.2) := hi
  obtain ⟨⟨r1, rn, u1, uh, uu⟩, ch, un⟩ := hi
  rw [e]
  constructor
  · have e2 : l.2 - (fDone k (fLast b.h k st l.2)).st.1 = l.2 - (fLast b.h k st l.2).rest - (fLast b.h k st l.2).used := by simp only [fDone]; omega
    rw [e2]
    exact ch
  · simp only [fDone]; omega
/-! #### documents -/
theorem stepsFrom_app {b : Bk} : ∀ (d e : List Blk) (st : Int × Int), stepsFrom b st (d ++ e) = stepsFrom b st d ++ stepsFrom b (standFrom b st d) e
  | [], e, st => rfl
  | x :: d, e, st => by rw [List.cons_append, stepsFrom, stepsFrom, stepsFrom_app d]; rfl
theorem standFrom_app {b : Bk} {d e : List Blk} {st : Int × Int} : standFrom b st (d ++ e) = standFrom b (standFrom b st d) e := by
  unfold standFrom
  rw [List.foldl_append]
theorem ends_chain {b : Bk} (hb : b.fit) : ∀ (d : List Blk) (st : Int × Int) (E : List Int) (at' : Int) (BL : List Int), sOk b st → (∀ l ∈ d, blkOk b l = true) → chain b.h 0 E BL (at' - st.1) →
    chain b.h 0 (((stepsFrom b st d).zip d).foldl epStep (E, at')).1 (BL ++ ((stepsFrom b st d).map Fd.bl).flatten) (at' + total d - (standFrom b st d).1) ∧ (((stepsFrom b st d).zip d).foldl epStep (E, at')).2 = at' + total d
  | [], st, E, at', BL, hs, hd, hc => by
    have e : at' + total [] - (standFrom b st []).1 = at' - st.1 := by simp [total, standFrom]
    simp only [stepsFrom, List.zip_nil_right, List.foldl_nil, List.map_nil, List.flatten_nil, List.append_nil, e]
    exact ⟨hc, by simp [total]⟩
  | l :: d, st, E, at', BL, hs, hd, hc => by
    have hl := hd l (by simp)
    have fc := (fill_chain hb hs hl).1
    have sh := chain_shift (a := at') fc
    have e1 : at' + (0 - st.1) = at' - st.1 := by omega
    rw [e1] at sh
    have c2 := chain_app hc sh
    have e2 : at' + (l.2 - (fill b st l).st.1) = at' + l.2 - (fill b st l).st.1 := by omega
    rw [e2] at c2
    have ih := ends_chain hb d (fill b st l).st _ (at' + l.2) _ (fill_ok hb hs hl).st (fun x hx => hd x (by simp [hx])) c2
    have et : total (l :: d) = l.2 + total d := by simp [total]
    have es : standFrom b st (l :: d) = standFrom b (fill b st l).st d := rfl
    rw [stepsFrom, List.zip_cons_cons, List.foldl_cons, List.map_cons, List.flatten_cons, et, es, ← List.append_assoc]
    have e3 : at' + (l.2 + total d) = at' + l.2 + total d := by omega
    rw [e3]
    exact ih
theorem endsOf_chain {b : Bk} (hb : b.fit) {d : List Blk} (hd : ∀ l ∈ d, blkOk b l = true) : chain b.h 0 (endsOf b d).1 (blanksM b d) (total d - (standFrom b (0, 0) d).1) ∧ (endsOf b d).2 = total d := by
  have := ends_chain hb d (0, 0) [] 0 [] (sOk_0 hb) hd rfl
  simpa [endsOf, blanksM] using this
theorem stand_pos {b : Bk} (hb : b.fit) {d : List Blk} (hd : ∀ l ∈ d, blkOk b l = true) (h0 : d ≠ []) : 1 ≤ (standFrom b (0, 0) d).1 := by
  rcases List.eq_nil_or_concat d with h | ⟨d', l, rfl⟩
  · exact absurd h h0
  · rw [List.concat_eq_append] at *
    rw [standFrom_snoc]
    exact (fill_chain hb (standFrom_ok hb d' (0, 0) (sOk_0 hb) (fun x hx => hd x (by simp [hx]))) (hd l (by simp))).2
theorem total_pos {b : Bk} {d : List Blk} (hd : ∀ l ∈ d, blkOk b l = true) : 0 ≤ total d ∧ (d ≠ [] → 0 < total d) := by
  induction d with
  | nil => simp [total]
  | cons l d ih =>
    obtain ⟨k, hk, h1, h2⟩ := kindOf_of (hd l (by simp))
    have := ih (fun x hx => hd x (by simp [hx]))
    have e : total (l :: d) = l.2 + total d := by simp [total]
    rw [e]
    exact ⟨by omega, fun _ => by omega⟩
/-! #### pieces -/
def slice {α : Type} (lo hi : Nat) (xs : List α) : List α := (xs.drop lo).take (hi - lo)
theorem slice_app {α : Type} {lo hi : Nat} (h : lo ≤ hi) (a b : List α) : slice lo hi (a ++ b) = slice lo hi a ++ slice (lo - a.length) (hi - a.length) b := by
  unfold slice
  rw [List.drop_append, List.take_append, List.length_drop]
  congr 2
  omega
theorem slice_rep {α : Type} {lo hi n : Nat} {x : α} : slice lo hi (List.replicate n x) = List.replicate (min hi n - lo) x := by
  unfold slice
  rw [List.drop_replicate, List.take_replicate]
  congr 1
  omega
theorem slice_join {α : Type} {a b c : Nat} (h1 : a ≤ b) (h2 : b ≤ c) (xs : List α) : slice a b xs ++ slice b c xs = slice a c xs := by
  unfold slice
  have e : c - a = (b - a) + (c - b) := by omega
  rw [e, List.take_add, List.drop_drop, show a + (b - a) = b by omega]
theorem slice_len {α : Type} {a b : Nat} (h1 : a ≤ b) {xs : List α} (h2 : b ≤ xs.length) : (slice a b xs).length = b - a := by
  unfold slice
  rw [List.length_take, List.length_drop]
  omega
def ownersK (k : Nat) (d : List Blk) : List Int := ((d.zipIdx k).map fun p => List.replicate p.1.2.toNat (p.2 : Int)).flatten
theorem pieces_go {lo hi : Int} (h : lo ≤ hi) : ∀ (d : List Blk) (k : Nat) (acc : List (Int × Int)) (at' : Int), (∀ l ∈ d, 1 ≤ l.2) →
    ∃ X, ((d.zipIdx k).foldl (pcStep lo hi) (acc, at')).1 = acc ++ X ∧ (∀ p ∈ X, 0 < p.2) ∧ expand [X] = slice (lo - at').toNat (hi - at').toNat (ownersK k d)
  | [], k, acc, at', _ => ⟨[], by simp, by simp, by simp [expand, ownersK, slice]⟩
  | l :: d, k, acc, at', hd => by
    have l1 := hd l (by simp)
    rw [List.zipIdx_cons, List.foldl_cons]
    obtain ⟨X, h1, h2, h3⟩ := pieces_go h d (k + 1) (pcStep lo hi (acc, at') (l, k)).1 (at' + l.2) (fun x hx => hd x (by simp [hx]))
    have e : pcStep lo hi (acc, at') (l, k) = ((pcStep lo hi (acc, at') (l, k)).1, at' + l.2) := rfl
    rw [e, h1]
    have eo : ownersK k (l :: d) = List.replicate l.2.toNat (k : Int) ++ ownersK (k + 1) d := by
      simp [ownersK, List.zipIdx_cons]
    have es : slice (lo - at').toNat (hi - at').toNat (ownersK k (l :: d)) = List.replicate (min hi (at' + l.2) - max lo at').toNat (k : Int) ++ expand [X] := by
      rw [eo, slice_app (by omega), slice_rep, List.length_replicate, h3]
      have ea : (lo - at').toNat - l.2.toNat = (lo - (at' + l.2)).toNat := by omega
      have eb : (hi - at').toNat - l.2.toNat = (hi - (at' + l.2)).toNat := by omega
      have ec : min (hi - at').toNat l.2.toNat - (lo - at').toNat = (min hi (at' + l.2) - max lo at').toNat := by omega
      rw [ea, eb, ec]
    rw [es]
    by_cases hp : 0 < min hi (at' + l.2) - max lo at'
    · refine ⟨((k : Int), min hi (at' + l.2) - max lo at') :: X, ?_, ?_, ?_⟩
      · simp only [pcStep, if_pos hp]
        simp
      · intro p hp'
        rcases List.mem_cons.mp hp' with rfl | hp'
        · exact hp
        · exact h2 p hp'
      · rw [show ((k : Int), min hi (at' + l.2) - max lo at') :: X = [((k : Int), min hi (at' + l.2) - max lo at')] ++ X from rfl, expand1_app]
        congr 1
        simp [expand]
    · refine ⟨X, ?_, h2, ?_⟩
      · simp only [pcStep, if_neg hp]
      · rw [show (min hi (at' + l.2) - max lo at').toNat = 0 by omega]; rfl
theorem pieces_spec {d : List Blk} {lo hi : Int} (h0 : 0 ≤ lo) (h : lo ≤ hi) (hd : ∀ l ∈ d, 1 ≤ l.2) : (∀ p ∈ piecesM d lo hi, 0 < p.2) ∧ expand [piecesM d lo hi] = slice lo.toNat hi.toNat (owners d) := by
  obtain ⟨X, h1, h2, h3⟩ := pieces_go h d 0 [] 0 hd
  unfold piecesM
  rw [h1, List.nil_append]
  refine ⟨h2, ?_⟩
  rw [h3, Int.sub_zero, Int.sub_zero]
  rfl
theorem sum_expand : ∀ (r : List (Int × Int)), (∀ p ∈ r, 0 < p.2) → (r.map Prod.snd).sum = (expand [r]).length
  | [], _ => rfl
  | p :: r, h => by
    have ih := sum_expand r (fun q hq => h q (by simp [hq]))
    have hp := h p (by simp)
    rw [show p :: r = [p] ++ r from rfl, expand1_app, List.length_append, List.map_append, List.sum_append, ih]
    simp [expand]
    omega
theorem owners_total (d : List Blk) (hd : ∀ l ∈ d, 1 ≤ l.2) : ((owners d).length : Int) = total d := by
  have : ∀ (d : List Blk) (k : Nat), (∀ l ∈ d, 1 ≤ l.2) → ((ownersK k d).length : Int) = total d := fun d => by
    induction d with
    | nil => intro k _; rfl
    | cons l d ih =>
      intro k hd
      have e : ownersK k (l :: d) = List.replicate l.2.toNat (k : Int) ++ ownersK (k + 1) d := by simp [ownersK, List.zipIdx_cons]
      have l1 := hd l (by simp)
      have := ih (k + 1) (fun x hx => hd x (by simp [hx]))
      rw [e, List.length_append, List.length_replicate]
      have et : total (l :: d) = l.2 + total d := by simp [total]
      rw [et]
      omega
  exact this d 0 hd
/-- the pages between places that grow -/
theorem rows_go {h : Int} {d : List Blk} (hd : ∀ l ∈ d, 1 ≤ l.2) : ∀ (ct bl : List Int) (p q : Int) (acc : List (List (Int × Int))), 0 ≤ p → chain h p ct bl q → q ≤ total d →
    ∃ R, (ct.foldl (rwStep d) (acc, p)) = (acc ++ R, q) ∧ R.length = ct.length ∧ (∀ r ∈ R, r ≠ [] ∧ ∀ x ∈ r, 0 < x.2) ∧ expand R = slice p.toNat q.toNat (owners d) ∧ R.map (fun r => (r.map Prod.snd).sum) = bl.map (h - ·) ∧ p ≤ q
  | [], [], p, q, acc, _, hc, _ => by
    cases hc
    exact ⟨[], by simp, rfl, by simp, by simp [expand, slice], rfl, Int.le_refl _⟩
  | c :: ct, b :: bl, p, q, acc, h0, hc, hq => by
    obtain ⟨c1, c2, c3, c4⟩ := hc
    obtain ⟨R, r1, r2, r3, r4, r5, r6⟩ := rows_go hd ct bl c q (acc ++ [piecesM d p c]) (by omega) c4 hq
    obtain ⟨s1, s2⟩ := pieces_spec (d := d) h0 (by omega : p ≤ c) hd
    have ot := owners_total d hd
    have sl : (slice p.toNat c.toNat (owners d)).length = c.toNat - p.toNat := slice_len (by omega) (by omega)
    have ss := sum_expand _ s1
    rw [s2, sl] at ss
    refine ⟨piecesM d p c :: R, ?_, by simp [r2], ?_, ?_, ?_, by omega⟩
    · rw [List.foldl_cons]
      show ct.foldl (rwStep d) (acc ++ [piecesM d p c], c) = _
      rw [r1]; simp
    · intro r hr
      rcases List.mem_cons.mp hr with rfl | hr
      · refine ⟨?_, s1⟩
        intro z
        rw [z] at ss
        simp at ss
        omega
      · exact r3 r hr
    · rw [show piecesM d p c :: R = [piecesM d p c] ++ R from rfl, expand_app, s2, r4, slice_join (by omega) (by omega)]
    · rw [List.map_cons, List.map_cons, r5, ss]
      congr 1
      omega
  | [], _ :: _, _, _, _, _, h1, _ => h1.elim
  | _ :: _, [], _, _, _, _, h1, _ => h1.elim
/-- what the pages are -/
structure PagesOk (b : Bk) (d : List Blk) : Prop where
  ne : ∀ r ∈ pagesM b d, r ≠ [] ∧ ∀ x ∈ r, 0 < x.2
  ex : expand (pagesM b d) = owners d
  full : (pagesM b d).map (fun r => (r.map Prod.snd).sum) = if d = [] then [] else (blanksM b d).map (b.h - ·) ++ [(standFrom b (0, 0) d).1]
  len : ((pagesM b d).length : Int) = countM b d
  le : ∀ x ∈ (pagesM b d).map (fun r => (r.map Prod.snd).sum), x ≤ b.h
theorem chain_bl {h : Int} : ∀ {ct bl : List Int} {p q : Int}, chain h p ct bl q → ∀ x ∈ bl, 0 ≤ x
  | [], [], _, _, _, x, hx => by cases hx
  | _ :: ct, _ :: bl, _, _, h1, x, hx => by
    rcases List.mem_cons.mp hx with rfl | hx
    · exact h1.2.2.1
    · exact chain_bl h1.2.2.2 x hx
  | [], _ :: _, _, _, h1, _, _ => h1.elim
  | _ :: _, [], _, _, h1, _, _ => h1.elim
theorem count_eq {b : Bk} {d : List Blk} : countM b d = (blanksM b d).length + (if d = [] then 0 else 1) := by
  unfold countM blanksM
  congr 1
  generalize stepsFrom b (0, 0) d = fs
  induction fs with
  | nil => rfl
  | cons f fs ih => rw [List.map_cons, List.sum_cons, List.map_cons, List.flatten_cons, List.length_append, ih]; omega
theorem pages_ok {b : Bk} (hb : b.fit) {d : List Blk} (hd : ∀ l ∈ d, blkOk b l = true) : PagesOk b d := by
  have l1 : ∀ l ∈ d, 1 ≤ l.2 := fun l hl => by obtain ⟨k, _, h1, _⟩ := kindOf_of (hd l hl); exact h1
  obtain ⟨ch, ea⟩ := endsOf_chain hb hd
  have tp := total_pos hd
  by_cases h0 : d = []
  · subst h0
    refine ⟨?_, ?_, ?_, ?_, ?_⟩ <;> simp [pagesM, allEnds, endsOf, stepsFrom, expand, owners, countM]
  · have sp := stand_pos hb hd h0
    have so := standFrom_ok hb d (0, 0) (sOk_0 hb) hd
    have tp := tp.2 h0
    have c2 : chain b.h 0 (allEnds b d) (blanksM b d ++ [b.h - (standFrom b (0, 0) d).1]) (total d) := by
      unfold allEnds
      rw [ea, if_pos tp]
      refine chain_app ch (chain_one (by omega) (by omega) ?_)
      have := so.h2
      omega
    obtain ⟨R, r1, r2, r3, r4, r5, r6⟩ := rows_go l1 _ _ 0 (total d) [] (Int.le_refl 0) c2 (Int.le_refl _)
    have ep : pagesM b d = R := by
      unfold pagesM
      rw [r1]; simp
    have ff : R.map (fun r => (r.map Prod.snd).sum) = (blanksM b d).map (b.h - ·) ++ [(standFrom b (0, 0) d).1] := by
      rw [r5, List.map_append]
      congr 1
      simp
      omega
    refine ⟨?_, ?_, ?_, ?_, ?_⟩
    · rw [ep]; exact r3
    · rw [ep, r4]
      have ot := owners_total d l1
      unfold slice
      rw [show (0 : Int).toNat = 0 from rfl, List.drop_zero, Nat.sub_zero, List.take_of_length_le (by omega)]
    · rw [ep, if_neg h0, ff]
    · rw [ep, count_eq, if_neg h0]
      have := congrArg List.length ff
      simp at this
      omega
    · rw [ep, ff]
      intro x hx
      rcases List.mem_append.mp hx with hx | hx
      · obtain ⟨y, hy, rfl⟩ := List.mem_map.mp hx
        have := chain_bl ch y hy
        show b.h - y ≤ b.h
        omega
      · rw [List.mem_singleton.mp hx]
        exact so.h2
/-! #### behind a document all goes on -/
theorem blanks_app {b : Bk} {d e : List Blk} : blanksM b (d ++ e) = blanksM b d ++ ((stepsFrom b (standFrom b (0, 0) d) e).map Fd.bl).flatten := by
  unfold blanksM
  rw [stepsFrom_app, List.map_append, List.flatten_append]
theorem br_fold (xs : List (Fd × Nat)) : ∀ s, xs.foldl brStep s = s ++ xs.foldl brStep [] := by
  induction xs with
  | nil => intro s; simp
  | cons x xs ih =>
    intro s
    rw [List.foldl_cons, List.foldl_cons, ih, ih (brStep [] x)]
    simp [brStep]
/-- the broken words of what is filled from a stand on, the blocks counted from k -/
def brFrom (b : Bk) (st : Int × Int) (k : Nat) (d : List Blk) : List (Int × Str) := ((stepsFrom b st d).zipIdx k).foldl brStep []
theorem broken_app {b : Bk} {d e : List Blk} : brokenM b (d ++ e) = brokenM b d ++ brFrom b (standFrom b (0, 0) d) d.length e := by
  unfold brokenM brFrom
  rw [stepsFrom_app, List.zipIdx_append, List.foldl_append, br_fold, stepsFrom_len]
  simp
theorem brFrom_snoc {b : Bk} {st : Int × Int} {k : Nat} {d : List Blk} {l : Blk} : brFrom b st k (d ++ [l]) = brFrom b st k d ++ (fill b (standFrom b st d) l).wd.map fun w => (((k + d.length : Nat) : Int), w) := by
  unfold brFrom
  rw [stepsFrom_snoc, List.zipIdx_append, List.foldl_append, br_fold, stepsFrom_len]
  simp [brStep]
end MP.Q
/-! PG: documents put together. -/
namespace MP.Q
open PySem (Str)
set_option maxRecDepth 100000
local macro_rules
  | `(tactic| simp_arith [$xs:simpLemma,*]) => `(tactic| simp -implicitDefEqProofs only [AV.rd, En.frz, AV.use, rds, uses, passA, lent, backA, setV, bindV, takes, bindOs, Tg.set, Tg.sets, seqOf, seqLT, Out.bool, wipe, ownAt, kTup, kLst, kDct, kOp, kCmp, kBi, rcv, isDct, kSlc, kPart, kNot, kCall, kGet2, kUse, kInt, kSeq, kEnu, kZip, kItems, kTurn, kPar, kSub, kApp, isLst, kExt, kRet, outsOf, u_qTup, u_qLst, u_qDct2, u_qDct1, u_qOp2, u_qOp1, u_qCh3, u_qCh2, u_qCh1, u_qBi, u_qMth2, u_qMth1, u_qSl3, u_qSl2, u_qSl1, u_qNotP, u_qTst, u_qAnd2, u_qAnd1, u_qOr2, u_qOr1, u_qNot2, u_qNot1, u_qIte2, u_qIte1, u_qCall, u_qG3, u_qG2, u_qG1, u_qCmE, u_qEs2, u_qEs1, u_qBool, u_qPart, u_qSq2, u_qSq1, u_qR2, u_qR1, u_qR6, u_qR5, u_qR4, u_qR3, u_qEn2, u_qEn1, u_qZ4, u_qZ3, u_qZ2, u_qZ1, u_qI2, u_qI1, u_qNx, u_qAsg, u_qPar, u_qU2, u_qU1, u_qS2, u_qS1, u_qDr, u_qApp, u_qExt, u_qIf, u_qRet, canSet_eq, cs_n, cs_f, cs_o, cs_jk, jk_none, jk_some, kFor, turnS, kComp, at_z, at_s, st_z, st_s, ln_c, ln_n, ob_ok, ob_exn, nx_ok, own_o, own_p, own_f, own_q, frz_o, frz_p, frz_f, frz_q, ev_var, ev_cst, ev_tup, ev_lst, ev_dct, ev_op, ev_chain, ev_bi, ev_mth, ev_slc, ev_and, ev_or, ev_not, ev_ite, ev_call, ev_pop, ev_pop0, ev_get2, ev_comp, es_nil, es_cons, ec_nil, ec_cons, ep_nil, ep_cons, ei_seq, ei_rng1, ei_rng2, ei_enu, ei_zip, ei_items, et_eq, ss_nil, ss_cons, s_asg, s_par, s_unp, s_sub, s_drop, s_app, s_ext, s_ifs, s_whl, s_for, s_ret, s_retN, s_raise, s_pass, s_brk, s_cnt, kn_nx, kn_rt, kn_bk, kn_ct, env1, kRun, nn_non, nn_bl, nn_int, nn_str, nn_tup, nn_lst, op_isn_non, op_notn_non, op_addi, op_subi, op_lti, op_lei, op_gti, op_gei, op_eqi, op_nei, op_eqs, op_nes, op_tup0, op_tup1, op_tup2, op_tup3, op_tup4, bi_min2, bi_max2, bi_int, bi_intb, bi_neg, bi_lent, bi_lenl, bi_tupl, bi_tupt, bi_listl, bi_listt, fn_true, tt_true, cutD_l, cutD_t, op_lts, un_nil, un_cons, nc0, nc1, nc2, nc3, nc4, nc5, turnF_eq, ix_bk0, ix_bk1, ix_k0, ix_k1, ix_k2, ix_k3, ix_k4, nn_k, nn_bk, nn_O, ix_b0, ix_b1, op_lst0, op_lst1, bi_lenf, ix_fd0, ix_fd1, ix_fd2, ix_fd3, ix_s0, ix_s1, env1.nones, Option.isSome_some, Option.isSome_none, ite_true, ite_false, Option.map_some, Option.map_none, Option.getD_some, List.nodup_nil, List.nodup_cons, List.not_mem_nil, not_false_eq_true, true_and, List.isEmpty_nil, id, List.nil_append, List.cons_append, Bool.true_and, Bool.and_true, ↓reduceIte, Nat.reduceSub, Nat.reduceAdd, Nat.reduceLT, Nat.reduceLeDiff, Nat.reduceEqDiff, List.mem_cons, or_false, false_or, and_self, and_true, false_and, and_false, Int.reduceBEq, Int.reduceLE, Int.reduceLT, decide_true, decide_false, decide_eq_true_eq, Bool.not_eq_true', decide_eq_false_iff_not, Bool.not_true, Bool.not_false, Bool.and_eq_true, Bool.or_eq_true, Bool.false_eq_true, Bool.true_eq_false, $xs,*])
set_option maxHeartbeats 1000000
theorem cut_m1 {α : Type} (xs : List α) : cut xs none (some (-1)) = xs.dropLast := by
  unfold cut sIx
  simp only [show (-1 : Int) < 0 by decide, if_true, List.drop_zero]
  rw [List.dropLast_eq_take]
  congr 1
  omega
theorem all_cs {e : En} {i : Nat} (h : e.all cs = true) : cs (e.at i) = true := by
  unfold En.at
  cases hg : e[i]? with
  | none => rfl
  | some x => exact List.all_eq_true.mp h x (List.mem_of_getElem? hg)
theorem blk_16 {b : Bk} (hb : b.fit) {d : List Blk} (hd : ∀ l ∈ d, blkOk b l = true) : ∀ l ∈ d, 1 ≤ l.2 ∧ l.2 ≤ 6 := fun l hl => by
  obtain ⟨k, _, _, h1, h6, _⟩ := blk_fit hb (hd l hl)
  exact ⟨h1, h6⟩
theorem zipIdx_split {α : Type} {xs : List α} {pr po : List (α × Nat)} {x : α × Nat} (h : xs.zipIdx = pr ++ x :: po) : xs = pr.map Prod.fst ++ x.1 :: po.map Prod.fst ∧ x.2 = pr.length := by
  constructor
  · have := congrArg (List.map Prod.fst) h
    simpa using this
  · have h1 : xs.zipIdx[pr.length]? = some x := by rw [h, List.getElem?_append_right (Nat.le_refl _)]; simp
    rw [List.getElem?_zipIdx] at h1
    cases hx : xs[pr.length]? with
    | none => rw [hx] at h1; cases h1
    | some y => rw [hx] at h1; cases h1; simp
theorem op_addd {d e : List Blk} (h : d.length + e.length ≤ 1000000) : op2 .add (eDoc d) (eDoc e) = some (false, eDoc (d ++ e)) := by
  unfold eDoc
  rw [op_addt (by rw [List.length_map, List.length_map]; exact h), ← List.map_append]
theorem op_addm {α : Type} {f : α → D} {xs ys : List α} (h : xs.length + ys.length ≤ 1000000) : op2 .add (.lst (xs.map f)) (.lst (ys.map f)) = some (true, .lst ((xs ++ ys).map f)) := by
  rw [op_addl (by rw [List.length_map, List.length_map]; exact h), ← List.map_append]
theorem broken_len {b : Bk} (hb : b.fit) {d : List Blk} (hd : ∀ l ∈ d, blkOk b l = true) : (brokenM b d).length ≤ 60 * d.length := by
  have := br_len (stepsFrom b (0, 0) d).zipIdx (fun p hp => (stepsFrom_ok hb d (0, 0) (sOk_0 hb) hd p.1 (List.fst_mem_of_mem_zipIdx hp)).wd) []
  rw [List.length_zipIdx, stepsFrom_len] at this
  simpa [brokenM] using this
def fullM (b : Bk) (d : List Blk) : List Int := (pagesM b d).map fun r => (r.map Prod.snd).sum
end MP.Q
/-! PM7: books compared. -/
namespace MP.Q
open PySem (Str)
set_option maxRecDepth 100000
local macro_rules
  | `(tactic| simp_arith [$xs:simpLemma,*]) => `(tactic| simp -implicitDefEqProofs only [AV.rd, En.frz, AV.use, rds, uses, passA, lent, backA, setV, bindV, takes, bindOs, Tg.set, Tg.sets, seqOf, seqLT, Out.bool, wipe, ownAt, kTup, kLst, kDct, kOp, kCmp, kBi, rcv, isDct, kSlc, kPart, kNot, kCall, kGet2, kUse, kInt, kSeq, kEnu, kZip, kItems, kTurn, kPar, kSub, kApp, isLst, kExt, kRet, outsOf, u_qTup, u_qLst, u_qDct2, u_qDct1, u_qOp2, u_qOp1, u_qCh3, u_qCh2, u_qCh1, u_qBi, u_qMth2, u_qMth1, u_qSl3, u_qSl2, u_qSl1, u_qNotP, u_qTst, u_qAnd2, u_qAnd1, u_qOr2, u_qOr1, u_qNot2, u_qNot1, u_qIte2, u_qIte1, u_qCall, u_qG3, u_qG2, u_qG1, u_qCmE, u_qEs2, u_qEs1, u_qBool, u_qPart, u_qSq2, u_qSq1, u_qR2, u_qR1, u_qR6, u_qR5, u_qR4, u_qR3, u_qEn2, u_qEn1, u_qZ4, u_qZ3, u_qZ2, u_qZ1, u_qI2, u_qI1, u_qNx, u_qAsg, u_qPar, u_qU2, u_qU1, u_qS2, u_qS1, u_qDr, u_qApp, u_qExt, u_qIf, u_qRet, canSet_eq, cs_n, cs_f, cs_o, cs_jk, jk_none, jk_some, kFor, turnS, kComp, at_z, at_s, st_z, st_s, ln_c, ln_n, ob_ok, ob_exn, nx_ok, own_o, own_p, own_f, own_q, frz_o, frz_p, frz_f, frz_q, ev_var, ev_cst, ev_tup, ev_lst, ev_dct, ev_op, ev_chain, ev_bi, ev_mth, ev_slc, ev_and, ev_or, ev_not, ev_ite, ev_call, ev_pop, ev_pop0, ev_get2, ev_comp, es_nil, es_cons, ec_nil, ec_cons, ep_nil, ep_cons, ei_seq, ei_rng1, ei_rng2, ei_enu, ei_zip, ei_items, et_eq, ss_nil, ss_cons, s_asg, s_par, s_unp, s_sub, s_drop, s_app, s_ext, s_ifs, s_whl, s_for, s_ret, s_retN, s_raise, s_pass, s_brk, s_cnt, kn_nx, kn_rt, kn_bk, kn_ct, env1, kRun, nn_non, nn_bl, nn_int, nn_str, nn_tup, nn_lst, op_isn_non, op_notn_non, op_addi, op_subi, op_lti, op_lei, op_gti, op_gei, op_eqi, op_nei, op_eqs, op_nes, op_tup0, op_tup1, op_tup2, op_tup3, op_tup4, bi_min2, bi_max2, bi_int, bi_intb, bi_neg, bi_lent, bi_lenl, bi_tupl, bi_tupt, bi_listl, bi_listt, fn_true, tt_true, cutD_l, cutD_t, op_lts, un_nil, un_cons, nc0, nc1, nc2, nc3, nc4, nc5, turnF_eq, ix_bk0, ix_bk1, ix_k0, ix_k1, ix_k2, ix_k3, ix_k4, nn_k, nn_bk, nn_O, ix_b0, ix_b1, op_lst0, op_lst1, bi_lenf, ix_fd0, ix_fd1, ix_fd2, ix_fd3, ix_s0, ix_s1, env1.nones, Option.isSome_some, Option.isSome_none, ite_true, ite_false, Option.map_some, Option.map_none, Option.getD_some, List.nodup_nil, List.nodup_cons, List.not_mem_nil, not_false_eq_true, true_and, List.isEmpty_nil, id, List.nil_append, List.cons_append, Bool.true_and, Bool.and_true, ↓reduceIte, Nat.reduceSub, Nat.reduceAdd, Nat.reduceLT, Nat.reduceLeDiff, Nat.reduceEqDiff, List.mem_cons, or_false, false_or, and_self, and_true, false_and, and_false, Int.reduceBEq, Int.reduceLE, Int.reduceLT, decide_true, decide_false, decide_eq_true_eq, Bool.not_eq_true', decide_eq_false_iff_not, Bool.not_true, Bool.not_false, Bool.and_eq_true, Bool.or_eq_true, Bool.false_eq_true, Bool.true_eq_false, $xs,*])
set_option maxHeartbeats 1000000
/-- a row without the same twice, out of another row -/
theorem nodup_len {α : Type} [DecidableEq α] : ∀ {xs ys : List α}, xs.Nodup → (∀ x ∈ xs, x ∈ ys) → xs.length ≤ ys.length
  | [], ys, _, _ => Nat.zero_le _
  | x :: xs, ys, hn, hs => by
    rw [List.nodup_cons] at hn
    have hx := hs x (by simp)
    have := nodup_len (xs := xs) (ys := ys.erase x) hn.2 fun y hy => by
      have : y ≠ x := fun e => hn.1 (e ▸ hy)
      exact (List.mem_erase_of_ne this).mpr (hs y (by simp [hy]))
    rw [List.length_erase_of_mem hx] at this
    have : 0 < ys.length := List.length_pos_of_mem hx
    rw [List.length_cons]
    omega
abbrev PP := (Int × Int) × (Int × Int)
def ePP (p : PP) : D := .tup [eS p.1, eS p.2]
theorem ix_p0 {p : PP} : op2 .idx (ePP p) (.int 0) = some (false, eS p.1) := op_tup0
theorem ix_p1 {p : PP} : op2 .idx (ePP p) (.int 1) = some (false, eS p.2) := op_tup1
local macro_rules
  | `(tactic| simp_arith [$xs:simpLemma,*]) => `(tactic| simp -implicitDefEqProofs only [AV.rd, En.frz, AV.use, rds, uses, passA, lent, backA, setV, bindV, takes, bindOs, Tg.set, Tg.sets, seqOf, seqLT, Out.bool, wipe, ownAt, kTup, kLst, kDct, kOp, kCmp, kBi, rcv, isDct, kSlc, kPart, kNot, kCall, kGet2, kUse, kInt, kSeq, kEnu, kZip, kItems, kTurn, kPar, kSub, kApp, isLst, kExt, kRet, outsOf, u_qTup, u_qLst, u_qDct2, u_qDct1, u_qOp2, u_qOp1, u_qCh3, u_qCh2, u_qCh1, u_qBi, u_qMth2, u_qMth1, u_qSl3, u_qSl2, u_qSl1, u_qNotP, u_qTst, u_qAnd2, u_qAnd1, u_qOr2, u_qOr1, u_qNot2, u_qNot1, u_qIte2, u_qIte1, u_qCall, u_qG3, u_qG2, u_qG1, u_qCmE, u_qEs2, u_qEs1, u_qBool, u_qPart, u_qSq2, u_qSq1, u_qR2, u_qR1, u_qR6, u_qR5, u_qR4, u_qR3, u_qEn2, u_qEn1, u_qZ4, u_qZ3, u_qZ2, u_qZ1, u_qI2, u_qI1, u_qNx, u_qAsg, u_qPar, u_qU2, u_qU1, u_qS2, u_qS1, u_qDr, u_qApp, u_qExt, u_qIf, u_qRet, canSet_eq, cs_n, cs_f, cs_o, cs_jk, jk_none, jk_some, kFor, turnS, kComp, at_z, at_s, st_z, st_s, ln_c, ln_n, ob_ok, ob_exn, nx_ok, own_o, own_p, own_f, own_q, frz_o, frz_p, frz_f, frz_q, ev_var, ev_cst, ev_tup, ev_lst, ev_dct, ev_op, ev_chain, ev_bi, ev_mth, ev_slc, ev_and, ev_or, ev_not, ev_ite, ev_call, ev_pop, ev_pop0, ev_get2, ev_comp, es_nil, es_cons, ec_nil, ec_cons, ep_nil, ep_cons, ei_seq, ei_rng1, ei_rng2, ei_enu, ei_zip, ei_items, et_eq, ss_nil, ss_cons, s_asg, s_par, s_unp, s_sub, s_drop, s_app, s_ext, s_ifs, s_whl, s_for, s_ret, s_retN, s_raise, s_pass, s_brk, s_cnt, kn_nx, kn_rt, kn_bk, kn_ct, env1, kRun, nn_non, nn_bl, nn_int, nn_str, nn_tup, nn_lst, op_isn_non, op_notn_non, op_addi, op_subi, op_lti, op_lei, op_gti, op_gei, op_eqi, op_nei, op_eqs, op_nes, op_tup0, op_tup1, op_tup2, op_tup3, op_tup4, bi_min2, bi_max2, bi_int, bi_intb, bi_neg, bi_lent, bi_lenl, bi_tupl, bi_tupt, bi_listl, bi_listt, fn_true, tt_true, cutD_l, cutD_t, op_lts, un_nil, un_cons, nc0, nc1, nc2, nc3, nc4, nc5, turnF_eq, ix_bk0, ix_bk1, ix_k0, ix_k1, ix_k2, ix_k3, ix_k4, nn_k, nn_bk, nn_O, ix_b0, ix_b1, op_lst0, op_lst1, bi_lenf, ix_fd0, ix_fd1, ix_fd2, ix_fd3, ix_s0, ix_s1, ix_p0, ix_p1, env1.nones, Option.isSome_some, Option.isSome_none, ite_true, ite_false, Option.map_some, Option.map_none, Option.getD_some, List.nodup_nil, List.nodup_cons, List.not_mem_nil, not_false_eq_true, true_and, List.isEmpty_nil, id, List.nil_append, List.cons_append, Bool.true_and, Bool.and_true, ↓reduceIte, Nat.reduceSub, Nat.reduceAdd, Nat.reduceLT, Nat.reduceLeDiff, Nat.reduceEqDiff, List.mem_cons, or_false, false_or, and_self, and_true, false_and, and_false, Int.reduceBEq, Int.reduceLE, Int.reduceLT, decide_true, decide_false, decide_eq_true_eq, Bool.not_eq_true', decide_eq_false_iff_not, Bool.not_true, Bool.not_false, Bool.and_eq_true, Bool.or_eq_true, Bool.false_eq_true, Bool.true_eq_false, $xs,*])
theorem eqv_S {a b : Int × Int} : eqv (eS a) (eS b) = decide (a = b) := by
  obtain ⟨a1, a2⟩ := a
  obtain ⟨b1, b2⟩ := b
  simp only [eS, eqv, eqvs, Bool.and_true, Prod.mk.injEq]
  by_cases h1 : a1 = b1 <;> by_cases h2 : a2 = b2 <;> simp [h1, h2]
theorem eqv_PP {a b : PP} : eqv (ePP a) (ePP b) = decide (a = b) := by
  obtain ⟨a1, a2⟩ := a
  obtain ⟨b1, b2⟩ := b
  simp only [ePP, eqv, eqvs, Bool.and_true, Prod.mk.injEq, eqv_S]
  by_cases h1 : a1 = b1 <;> by_cases h2 : a2 = b2 <;> simp [h1, h2]
theorem kk_PP {p : PP} : kk (ePP p) = true := by simp [kk, ePP, eS, ky, kys]
theorem kk_S {p : Int × Int} : kk (eS p) = true := by simp [kk, eS, ky, kys]
/-- a dict whose keys are these, by their codes -/
theorem dget_map {α β : Type} [DecidableEq α] (e : α → D) (v : α → D) (he : ∀ a b, eqv (e a) (e b) = decide (a = b)) (k : α) : ∀ F : List α, dget (F.map e) (F.map v) (e k) = if k ∈ F then some (v k) else none
  | [] => rfl
  | a :: F => by
    rw [List.map_cons, List.map_cons, dget, he, dget_map (β := β) e v he k F]
    by_cases h : a = k
    · subst h; simp
    · simp [h, Ne.symm h]
theorem dputK_map {α : Type} [DecidableEq α] (e : α → D) (he : ∀ a b, eqv (e a) (e b) = decide (a = b)) (k : α) : ∀ F : List α, k ∉ F → dputK (F.map e) (e k) = (F ++ [k]).map e
  | [], _ => rfl
  | a :: F, h => by
    have h1 : a ≠ k := fun z => h (by simp [z])
    rw [List.map_cons, dputK, he, dputK_map e he k F (fun z => h (by simp [z]))]
    simp [h1]
theorem dputV_map {α : Type} [DecidableEq α] (e v : α → D) (he : ∀ a b, eqv (e a) (e b) = decide (a = b)) (k : α) : ∀ F : List α, k ∉ F → dputV (F.map e) (F.map v) (e k) (v k) = (F ++ [k]).map v
  | [], _ => rfl
  | a :: F, h => by
    have h1 : a ≠ k := fun z => h (by simp [z])
    rw [List.map_cons, List.map_cons, dputV, he, dputV_map e v he k F (fun z => h (by simp [z]))]
    simp [h1]
def tru {α : Type} (_ : α) : D := .bl true
theorem in_found {p : PP} {F : List PP} : op2 .nin (ePP p) (.dct (F.map ePP) (F.map tru)) = some (false, .bl (!decide (p ∈ F))) := by
  have : op2 .nin (ePP p) (.dct (F.map ePP) (F.map tru)) = if kk (ePP p) then some (false, .bl (!(dget (F.map ePP) (F.map tru) (ePP p)).isSome)) else none := rfl
  rw [this, kk_PP, dget_map (β := Unit) ePP tru (fun _ _ => eqv_PP)]
  by_cases h : p ∈ F <;> simp [h]
theorem put_found {p : PP} {F : List PP} (h : p ∉ F) (hl : F.length ≤ 100000) : subD (.dct (F.map ePP) (F.map tru)) (ePP p) (.bl true) = some (.dct ((F ++ [p]).map ePP) ((F ++ [p]).map tru)) := by
  have e : subD (.dct (F.map ePP) (F.map tru)) (ePP p) (.bl true) = if kk (ePP p) && decide ((F.map ePP).length < LINE) then some (.dct (dputK (F.map ePP) (ePP p)) (dputV (F.map ePP) (F.map tru) (ePP p) (.bl true))) else none := rfl
  have l : (F.map ePP).length < LINE := by rw [List.length_map]; exact lt_line (by omega)
  rw [e, kk_PP, decide_eq_true l]
  rw [dputK_map ePP (fun _ _ => eqv_PP) p F h, show (D.bl true) = tru p from rfl, dputV_map ePP tru (fun _ _ => eqv_PP) p F h]
  rfl
/-! #### the search -/
section
variable (one other : Bk)
def badP (p : PP) (l : Blk) : Bool := !decide ((fill one p.1 l).ct = (fill other p.2 l).ct)
def nxtP (p : PP) (l : Blk) : PP := ((fill one p.1 l).st, (fill other p.2 l).st)
/-- a pair all of whose blocks were looked at -/
def doneP (F : List PP) (p : PP) : Prop := ∀ l ∈ allBlocks one, badP one other p l = false ∧ nxtP one other p l ∈ F
def runP (d : List Blk) : PP := (standFrom one (0, 0) d, standFrom other (0, 0) d)
/-- what is asked of the first one apart -/
def PartR : Option (List Blk) → Prop
  | none => ∀ d, (∀ l ∈ d, l ∈ allBlocks one) → ∀ l ∈ allBlocks one, badP one other (runP one other d) l = false
  | some w => ∃ d l, w = d ++ [l] ∧ (∀ x ∈ w, x ∈ allBlocks one) ∧ badP one other (runP one other d) l = true ∧ w.length ≤ 5000 ∧
    ∀ d', d'.length < d.length → (∀ x ∈ d', x ∈ allBlocks one) → ∀ l ∈ allBlocks one, badP one other (runP one other d') l = false
/-- at the begin of a level -/
structure LevP (n : Nat) (F : List PP) (L : List (PP × List Blk)) : Prop where
  nd : F.Nodup
  ok : ∀ p ∈ F, sOk one p.1 ∧ sOk other p.2
  ln : ∀ q ∈ L, q.1 ∈ F ∧ q.2.length = n ∧ (∀ x ∈ q.2, x ∈ allBlocks one) ∧ runP one other q.2 = q.1
  dn : ∀ p ∈ F, (∃ q ∈ L, q.1 = p) ∨ doneP one other F p
  all : ∀ d, d.length ≤ n → (∀ x ∈ d, x ∈ allBlocks one) → runP one other d ∈ F
  few : ∀ d, d.length < n → (∀ x ∈ d, x ∈ allBlocks one) → ∀ l ∈ allBlocks one, badP one other (runP one other d) l = false
  nF : L ≠ [] → n ≤ F.length
/-- within a level: D of the line are done, of the next one E of the blocks -/
structure MidP (n : Nat) (F0 F : List PP) (L : List (PP × List Blk)) (Lt : List (PP × List Blk)) (D : List (PP × List Blk)) : Prop where
  nd : F.Nodup
  ok : ∀ p ∈ F, sOk one p.1 ∧ sOk other p.2
  ex : F = F0 ++ Lt.map Prod.fst
  lt : ∀ q ∈ Lt, q.2.length = n + 1 ∧ (∀ x ∈ q.2, x ∈ allBlocks one) ∧ runP one other q.2 = q.1
  dn : ∀ q ∈ D, doneP one other F q.1
end
/-- all pairs of stands -/
def boxP : List PP := (List.range 8).flatMap fun (a : Nat) => (List.range 8).flatMap fun (b : Nat) => (List.range 8).flatMap fun (c : Nat) => (List.range 8).map fun (d : Nat) => (((a : Int), (b : Int)), ((c : Int), (d : Int)))
theorem box_len : boxP.length = 4096 := by decide +kernel
theorem box_mem {one other : Bk} (h1 : one.fit) (h2 : other.fit) {p : PP} (h : sOk one p.1 ∧ sOk other p.2) : p ∈ boxP := by
  obtain ⟨⟨a, b⟩, c, d⟩ := p
  obtain ⟨⟨p1, p2, p3⟩, q1, q2, q3⟩ := h
  have := h1.h6
  have := h2.h6
  simp only at p1 p2 p3 q1 q2 q3
  unfold boxP
  simp only [List.mem_flatMap, List.mem_range, List.mem_map, Prod.mk.injEq]
  exact ⟨a.toNat, by omega, b.toNat, by omega, c.toNat, by omega, d.toNat, by omega, ⟨by omega, by omega⟩, by omega, by omega⟩
theorem found_len {one other : Bk} (h1 : one.fit) (h2 : other.fit) {F : List PP} (nd : F.Nodup) (ok : ∀ p ∈ F, sOk one p.1 ∧ sOk other p.2) : F.length ≤ 4096 := by
  rw [← box_len]
  exact nodup_len nd fun p hp => box_mem h1 h2 (ok p hp)
/-- the same names and lines -/
def likeB (one other : Bk) : Prop := one.ks.map (fun k => (k.nm, k.most)) = other.ks.map (fun k => (k.nm, k.most))
theorem like_blocks {one other : Bk} (h : likeB one other) : allBlocks one = allBlocks other := by
  have : ∀ ks : List Kd, ks.map kBlocks = (ks.map (fun k => (k.nm, k.most))).map (fun p => (upto p.2).map fun i => (p.1, i)) := fun ks => by
    rw [List.map_map]; rfl
  unfold allBlocks
  rw [this, this, h]
section
variable {cf : CF} {cl : Nat → LF → List SV → Out (SV × List SV)} {lf : Option LF} {tg : Tg} {b : Sms} {env : En}
theorem for_retX {α : Type} {ds : List D} (xs : List α) (enc : α → D) (P : List α → En → Prop) (Q : List α → α → SV → En → Prop) (hd : ds = xs.map enc) (p : P [] env)
    (h : ∀ pr x po e, xs = pr ++ x :: po → P pr e → (∃ e', (turnF cf cl lf tg b e (enc x) = .ok (.nx, e') ∨ turnF cf cl lf tg b e (enc x) = .ok (.ct, e')) ∧ P (pr ++ [x]) e') ∨ ∃ s e', turnF cf cl lf tg b e (enc x) = .ok (.rt s, e') ∧ Q pr x s e') :
    (∃ e', forS cf cl lf tg b ds env = .ok (.nx, e') ∧ P xs e') ∨ ∃ pr x po s e', xs = pr ++ x :: po ∧ forS cf cl lf tg b ds env = .ok (.rt s, e') ∧ Q pr x s e' := by
  subst hd
  have := for_ret (tg := tg) (b := fun e => evSs cf cl lf b e) enc P Q xs [] env p (fun pr x po e hh pp => h pr x po e (by simpa using hh) pp)
  unfold forS
  simpa using this
theorem whl_retX {σ : Type} {cn : Ex} (μ : σ → Nat) (I J : σ → En → Prop) (Q : SV → En → Prop)
    (h : ∀ s e, I s e → (∃ e1, evT cf cl lf cn e = .ok (false, e1) ∧ J s e1) ∨ ∃ e1, evT cf cl lf cn e = .ok (true, e1) ∧ ((∃ s' e2, evSs cf cl lf b e1 = .ok (.nx, e2) ∧ I s' e2 ∧ μ s' < μ s) ∨ ∃ r e2, evSs cf cl lf b e1 = .ok (.rt r, e2) ∧ Q r e2)) :
    ∀ (s : σ), I s env → μ s < FUEL → (∃ s' e', whlS cf cl lf cn b env = .ok (.nx, e') ∧ J s' e') ∨ ∃ r e', whlS cf cl lf cn b env = .ok (.rt r, e') ∧ Q r e' := by
  have go : ∀ (m : Nat) (s : σ) (env : En), I s env → μ s < m → (∃ s' e', whlF (fun e => evT cf cl lf cn e) (fun e => evSs cf cl lf b e) m env = .ok (.nx, e') ∧ J s' e') ∨ ∃ r e', whlF (fun e => evT cf cl lf cn e) (fun e => evSs cf cl lf b e) m env = .ok (.rt r, e') ∧ Q r e' := by
    intro m
    induction m with
    | zero => intro s env _ hm; exact absurd hm (Nat.not_lt_zero _)
    | succ m ih =>
      intro s env i hm
      rcases h s env i with ⟨e1, h1, j⟩ | ⟨e1, h1, ⟨s', e2, h2, i2, h3⟩ | ⟨r, e2, h2, q⟩⟩
      · refine .inl ⟨s, e1, ?_, j⟩
        rw [whlF]
        simp only [h1, ob_ok]
        rfl
      · have e : whlF (fun e => evT cf cl lf cn e) (fun e => evSs cf cl lf b e) (m + 1) env = whlF (fun e => evT cf cl lf cn e) (fun e => evSs cf cl lf b e) m e2 := by
          rw [whlF]
          simp only [h1, ob_ok, if_true, h2]
        rw [e]
        exact ih s' e2 i2 (by omega)
      · refine .inr ⟨r, e2, ?_, q⟩
        rw [whlF]
        simp only [h1, ob_ok, if_true, h2]
  exact fun s i hm => go FUEL s env i hm
end
theorem doneP_mono {one other : Bk} {F F' : List PP} {p : PP} (h : doneP one other F p) (hs : ∀ x ∈ F, x ∈ F') : doneP one other F' p := fun l hl => ⟨(h l hl).1, hs _ (h l hl).2⟩
theorem op_addd1 {d : List Blk} {l : Blk} (h : d.length ≤ 100000) : op2 .add (eDoc d) (.tup [eB l]) = some (false, eDoc (d ++ [l])) := op_addd (d := d) (e := [l]) (by simp; omega)
theorem eqv_ints : ∀ {xs ys : List Int}, eqvs (xs.map D.int) (ys.map D.int) = decide (xs = ys)
  | [], [] => by simp [eqvs]
  | [], y :: ys => by simp [eqvs]
  | x :: xs, [] => by simp [eqvs]
  | x :: xs, y :: ys => by
    simp only [List.map_cons, eqvs, eqv, eqv_ints, List.cons.injEq]
    by_cases h1 : x = y <;> by_cases h2 : xs = ys <;> simp [h1, h2]
theorem ne_ints {xs ys : List Int} : op2 .ne (eI xs) (eI ys) = some (false, .bl (!decide (xs = ys))) := by
  rw [op_ne_of (pl_tup fun _ _ => by simp [pl]) (pl_tup fun _ _ => by simp [pl])]
  simp only [eqv, eqv_ints]
def eLn (q : PP × List Blk) : D := .tup [ePP q.1, eDoc q.2]
section
variable {pg : Nat → Option Df} {n : Nat} {one other : Bk}
theorem fill_S {b : Bk} (hb : b.fit) {st : Int × Int} (hs : sOk b st) {l : Blk} (hl : blkOk b l = true) : sOk b (fill b st l).st := (fill_ok hb hs hl).st
def pEnv (f1 f2 : Fl) (one other : Bk) (F : List PP) (L Lt : List (PP × List Blk)) (u v w x y z : Option D) : En :=
  [some (f1, eBk one), some (f2, eBk other), some (.o, .dct (F.map ePP) (F.map tru)), some (.f, .lst (L.map eLn)), some (.o, .lst (Lt.map eLn)), jk u, jk v, jk w, jk x, jk y, jk z]
theorem run_app {d : List Blk} {l : Blk} : runP one other (d ++ [l]) = nxtP one other (runP one other d) l := by
  unfold runP nxtP
  rw [standFrom_snoc, standFrom_snoc]
/-- all blocks at a pair -/
theorem part_row (Ka : K_all_blocks pg) (Kf : K_filled pg) {f1 f2 : Fl} (h1 : f1.own = false) (h2 : f2.own = false) (o1 : one.fit) (o2 : other.fit) (b1 : ∀ l ∈ allBlocks one, blkOk one l = true) (b2 : ∀ l ∈ allBlocks one, blkOk other l = true)
    {m : Nat} {F0 F : List PP} {L Lt Dn : List (PP × List Blk)} {p : PP} {d : List Blk} (M : MidP one other m F0 F L Lt Dn) (hp : sOk one p.1 ∧ sOk other p.2) (hd : d.length = m) (hda : ∀ x ∈ d, x ∈ allBlocks one) (hr : runP one other d = p) (hm : m ≤ 4096) {u v w x y z : Option D} :
    (∃ (F' : List PP) (Lt' : List (PP × List Blk)) (w' x' y' z' : Option D), forS (fun g us => callL pg (n + 3) g none us) (fun g l us => callL pg (n + 3) g (some l) us) none (.nm 7) (((((t_parted.body.getS 1).forB.getS 1).forB).getS 0).forB) ((allBlocks one).map eB) (pEnv f1 f2 one other F L Lt (some (ePP p)) (some (eDoc d)) w x y z) =
      .ok (.nx, pEnv f1 f2 one other F' L Lt' (some (ePP p)) (some (eDoc d)) w' x' y' z') ∧ MidP one other m F0 F' L Lt' (Dn ++ [(p, d)])) ∨
    ∃ l e', l ∈ allBlocks one ∧ badP one other p l = true ∧ forS (fun g us => callL pg (n + 3) g none us) (fun g l us => callL pg (n + 3) g (some l) us) none (.nm 7) (((((t_parted.body.getS 1).forB.getS 1).forB).getS 0).forB) ((allBlocks one).map eB) (pEnv f1 f2 one other F L Lt (some (ePP p)) (some (eDoc d)) w x y z) =
      .ok (.rt (.f, eDoc (d ++ [l])), e') ∧ ∃ r, e' = some (f1, eBk one) :: some (f2, eBk other) :: r := by
  have fl : ∀ {F' : List PP} {Lt' : List (PP × List Blk)}, MidP one other m F0 F' L Lt' Dn → F'.length ≤ 4096 ∧ Lt'.length ≤ 4096 := fun {F' Lt'} M => by
    have h3 := found_len o1 o2 M.nd M.ok
    have h4 := congrArg List.length M.ex
    rw [List.length_append, List.length_map] at h4
    omega
  rcases for_retX (cf := fun g us => callL pg (n + 3) g none us) (cl := fun g l us => callL pg (n + 3) g (some l) us) (lf := none) (tg := .nm 7) (b := (((((t_parted.body.getS 1).forB.getS 1).forB).getS 0).forB)) (env := pEnv f1 f2 one other F L Lt (some (ePP p)) (some (eDoc d)) w x y z) (ds := (allBlocks one).map eB) (allBlocks one) eB
    (fun pr e => ∃ F' Lt' w x y z, e = pEnv f1 f2 one other F' L Lt' (some (ePP p)) (some (eDoc d)) w x y z ∧ MidP one other m F0 F' L Lt' Dn ∧ ∀ l ∈ pr, badP one other p l = false ∧ nxtP one other p l ∈ F')
    (fun _ l s e => s = (.f, eDoc (d ++ [l])) ∧ badP one other p l = true ∧ ∃ r, e = some (f1, eBk one) :: some (f2, eBk other) :: r)
    rfl ⟨F, Lt, w, x, y, z, rfl, M, by simp⟩ (by
      rintro pr l po e e0 ⟨F', Lt', w, x, y, z, rfl, M', hq⟩
      have hl : l ∈ allBlocks one := by rw [e0]; simp
      have l1 := b1 l hl
      have l2 := b2 l hl
      have c1 := c_fill Kf (n := n + 1) (f1 := .f) (f2 := .f) (f3 := .f) own_f own_f own_f o1 l1 hp.1
      have c2 := c_fill Kf (n := n + 1) (f1 := .f) (f2 := .f) (f3 := .f) own_f own_f own_f o2 l2 hp.2
      obtain ⟨g1, g2⟩ := fl M'
      have lk : (Lt'.map eLn).length < LINE := by rw [List.length_map]; exact lt_line (by omega)
      have ad := op_addd1 (d := d) (l := l) (by omega)
      have e1 : D.tup [eS (fill one p.1 l).st, eS (fill other p.2 l).st] = ePP (nxtP one other p l) := rfl
      have e2 : D.tup [ePP (nxtP one other p l), eDoc (d ++ [l])] = eLn (nxtP one other p l, d ++ [l]) := rfl
      by_cases hb : (fill one p.1 l).ct = (fill other p.2 l).ct
      · have hbad : badP one other p l = false := by simp [badP, hb]
        have ne : op2 .ne (eI (fill one p.1 l).ct) (eI (fill other p.2 l).ct) = some (false, .bl false) := by rw [ne_ints, decide_eq_true hb]; rfl
        by_cases hf : nxtP one other p l ∈ F'
        · refine .inl ⟨_, .inl ?_, F', Lt', some (eB l), some (eFd (fill one p.1 l)), some (eFd (fill other p.2 l)), some (ePP (nxtP one other p l)), rfl, M', fun k hk => ?_⟩
          · have nin : op2 .nin (ePP (nxtP one other p l)) (.dct (F'.map ePP) (F'.map tru)) = some (false, .bl false) := by rw [in_found, decide_eq_true hf]; rfl
            simp_arith [t_parted, Sms.getS, Sm.forB, pEnv, h1, h2, c1, c2, ne, e1, nin]
          · rcases List.mem_append.mp hk with hk | hk
            · exact hq k hk
            · rw [List.mem_singleton.mp hk]; exact ⟨hbad, hf⟩
        · refine .inl ⟨_, .inl ?_, F' ++ [nxtP one other p l], Lt' ++ [(nxtP one other p l, d ++ [l])], some (eB l), some (eFd (fill one p.1 l)), some (eFd (fill other p.2 l)), some (ePP (nxtP one other p l)), rfl, ⟨?_, ?_, ?_, ?_, ?_⟩, fun k hk => ?_⟩
          · have nin : op2 .nin (ePP (nxtP one other p l)) (.dct (F'.map ePP) (F'.map tru)) = some (false, .bl true) := by rw [in_found, decide_eq_false hf]; rfl
            have pf := put_found (p := nxtP one other p l) hf (by omega)
            simp_arith [t_parted, Sms.getS, Sm.forB, pEnv, h1, h2, c1, c2, ne, e1, nin, pf, Option.isSome_some, ad, e2, lk, map_snoc]
          · rw [List.nodup_append]
            refine ⟨M'.nd, by simp, fun a ha b hb' => ?_⟩
            rw [List.mem_singleton] at hb'
            rintro rfl
            exact hf (hb' ▸ ha)
          · intro q hq'
            rcases List.mem_append.mp hq' with hq' | hq'
            · exact M'.ok q hq'
            · rw [List.mem_singleton.mp hq']
              exact ⟨fill_S o1 hp.1 l1, fill_S o2 hp.2 l2⟩
          · rw [M'.ex]; simp
          · intro q hq'
            rcases List.mem_append.mp hq' with hq' | hq'
            · exact M'.lt q hq'
            · rw [List.mem_singleton.mp hq']
              refine ⟨by simp [hd], fun y hy => ?_, by rw [run_app, hr]⟩
              rcases List.mem_append.mp hy with hy | hy
              · exact hda y hy
              · rw [List.mem_singleton.mp hy]; exact hl
          · exact fun q hq' => doneP_mono (M'.dn q hq') (fun y hy => List.mem_append_left _ hy)
          · rcases List.mem_append.mp hk with hk | hk
            · exact ⟨(hq k hk).1, List.mem_append_left _ (hq k hk).2⟩
            · rw [List.mem_singleton.mp hk]; exact ⟨hbad, by simp⟩
      · have hbad : badP one other p l = true := by simp [badP, hb]
        have ne : op2 .ne (eI (fill one p.1 l).ct) (eI (fill other p.2 l).ct) = some (false, .bl true) := by rw [ne_ints, decide_eq_false hb]; rfl
        refine .inr ⟨(.f, eDoc (d ++ [l])), [some (f1, eBk one), some (f2, eBk other), some (.o, .dct (F'.map ePP) (F'.map tru)), some (.f, .lst (L.map eLn)), some (.o, .lst (Lt'.map eLn)), some (.f, ePP p), some (.f, eDoc d), some (.f, eB l), some (.f, eFd (fill one p.1 l)), some (.f, eFd (fill other p.2 l)), jk z], ?_, rfl, hbad, _, rfl⟩
        simp_arith [t_parted, Sms.getS, Sm.forB, pEnv, h1, h2, c1, c2, ne, ad]) with ⟨e', hf, F', Lt', w', x', y', z', rfl, M', hq⟩ | ⟨pr, l, po, s, e', e0, hf, rfl, hb, r, rfl⟩
  · refine .inl ⟨F', Lt', w', x', y', z', hf, M'.nd, M'.ok, M'.ex, M'.lt, fun q hq' => ?_⟩
    rcases List.mem_append.mp hq' with hq' | hq'
    · exact M'.dn q hq'
    · rw [List.mem_singleton.mp hq']; exact hq
  · exact .inr ⟨l, _, by rw [e0]; simp, hb, hf, r, rfl⟩
theorem lev_next {m : Nat} {F0 F : List PP} {L Lt : List (PP × List Blk)} (V : LevP one other m F0 L) (M : MidP one other m F0 F L Lt L) (h3 : L ≠ []) : LevP one other (m + 1) F Lt := by
  have sub : ∀ x ∈ F0, x ∈ F := fun x hx => by rw [M.ex]; exact List.mem_append_left _ hx
  have dn : ∀ p ∈ F0, doneP one other F p := fun p hp => by
    rcases V.dn p hp with ⟨q, hq, rfl⟩ | hd
    · exact M.dn q hq
    · exact doneP_mono hd sub
  refine ⟨M.nd, M.ok, fun q hq => ⟨by rw [M.ex]; exact List.mem_append_right _ (List.mem_map.mpr ⟨q, hq, rfl⟩), M.lt q hq⟩, fun p hp => ?_, fun d hd hda => ?_, fun d hd hda => ?_, fun hne => ?_⟩
  · rw [M.ex] at hp
    rcases List.mem_append.mp hp with hp | hp
    · exact .inr (dn p hp)
    · obtain ⟨q, hq, rfl⟩ := List.mem_map.mp hp
      exact .inl ⟨q, hq, rfl⟩
  · rcases List.eq_nil_or_concat d with h | ⟨d', l, rfl⟩
    · subst h
      exact sub _ (V.all [] (Nat.zero_le _) (by simp))
    · rw [List.concat_eq_append] at *
      rw [run_app]
      rw [List.length_append, List.length_singleton] at hd
      exact (dn _ (V.all d' (by omega) fun x hx => hda x (by simp [hx])) l (hda l (by simp))).2
  · exact fun l hl => (dn _ (V.all d (by omega) hda) l hl).1
  · have h1 := congrArg List.length M.ex
    rw [List.length_append, List.length_map] at h1
    have h2 : 0 < Lt.length := List.length_pos_iff.mpr hne
    have := V.nF h3
    omega
def eR : Option (List Blk) → D
  | none => .non
  | some d => eDoc d
theorem c_parted (K : K_parted pg) {f1 f2 : Fl} (h1 : f1.own = false) (h2 : f2.own = false) (o1 : one.fit) (o2 : other.fit) (b1 : ∀ l ∈ allBlocks one, blkOk one l = true) (b2 : ∀ l ∈ allBlocks one, blkOk other l = true) :
    ∃ r, PartR one other r ∧ callL pg (n + 4) 120 none [(f1, eBk one), (f2, eBk other)] = .ok ((.f, eR r), [(f1, eBk one), (f2, eBk other)]) := by
  let wEnv : List PP → List (PP × List Blk) → Fl → Option SV → Option D → Option D → Option D → Option D → Option D → Option D → En := fun F L fl v4 u v w x y z =>
    [some (f1, eBk one), some (f2, eBk other), some (.o, .dct (F.map ePP) (F.map tru)), some (fl, .lst (L.map eLn)), v4, jk u, jk v, jk w, jk x, jk y, jk z]
  have start : LevP one other 0 [((0, 0), (0, 0))] [(((0, 0), (0, 0)), [])] := by
    refine ⟨by simp, fun p hp => ?_, fun q hq => ?_, fun p hp => ?_, fun d hd _ => ?_, fun d hd => absurd hd (Nat.not_lt_zero _), fun _ => Nat.zero_le _⟩
    · rw [List.mem_singleton.mp hp]; exact ⟨sOk_0 o1, sOk_0 o2⟩
    · rw [List.mem_singleton.mp hq]; exact ⟨by simp, rfl, by simp, rfl⟩
    · rw [List.mem_singleton.mp hp]; exact .inl ⟨(((0, 0), (0, 0)), []), by simp, rfl⟩
    · have : d = [] := List.length_eq_zero_iff.mp (by omega)
      subst this; simp [runP, standFrom]
  have W := whl_retX (cf := fun g us => callL pg (n + 3) g none us) (cl := fun g l us => callL pg (n + 3) g (some l) us) (lf := none) (cn := .op .ne (.var 3) (.lst .nil)) (b := (t_parted.body.getS 1).forB)
    (env := wEnv [((0, 0), (0, 0))] [(((0, 0), (0, 0)), [])] .o none none none none none none none)
    (σ := Nat × List PP × List (PP × List Blk)) (fun s => 2 * (5000 - s.2.1.length) + (if s.2.2 = [] then 0 else 1))
    (fun s e => LevP one other s.1 s.2.1 s.2.2 ∧ ∃ fl v4 u v w x y z, (fl = .o ∨ fl = .f) ∧ cs v4 = true ∧ e = wEnv s.2.1 s.2.2 fl v4 u v w x y z)
    (fun s e => LevP one other s.1 s.2.1 [] ∧ ∃ fl v4 u v w x y z, (fl = .o ∨ fl = .f) ∧ cs v4 = true ∧ e = wEnv s.2.1 [] fl v4 u v w x y z)
    (fun s e => (∃ d, s = (.f, eDoc d) ∧ PartR one other (some d)) ∧ ∃ r, e = some (f1, eBk one) :: some (f2, eBk other) :: r)
    (by
      rintro ⟨m, F, L⟩ e ⟨V, fl, v4, u, v, w, x, y, z, hfl, cv, rfl⟩
      by_cases hL : L = []
      · subst hL
        refine .inl ⟨_, ?_, V, fl, v4, u, v, w, x, y, z, hfl, cv, rfl⟩
        have ne : op2 .ne (.lst []) (.lst []) = some (false, .bl false) := op_ne_self (by simp [pl, pls])
        rcases hfl with rfl | rfl <;> simp_arith [wEnv, List.map_nil, ne]
      · have plL : pl (.lst (L.map eLn)) 64 = true := pl_lst fun q _ => by
          simp only [eLn, pl, pls, Bool.and_true, Bool.and_eq_true]
          exact ⟨by simp [ePP, eS, pl, pls], pls_map fun _ _ => pl_eB⟩
        have ne : op2 .ne (.lst (L.map eLn)) (.lst []) = some (false, .bl true) := by
          rw [op_ne_of plL (by simp [pl, pls])]
          cases L with
          | nil => exact absurd rfl hL
          | cons q L => simp [eqv, eqvs]
        refine .inr ⟨wEnv F L fl v4 u v w x y z, ?_, ?_⟩
        · rcases hfl with rfl | rfl <;> simp_arith [wEnv, ne]
        · have m4 : m ≤ 4096 := Nat.le_trans (V.nF hL) (found_len o1 o2 V.nd V.ok)
          have lv := for_retX (cf := fun g us => callL pg (n + 3) g none us) (cl := fun g l us => callL pg (n + 3) g (some l) us) (lf := none) (tg := .tp [.nm 5, .nm 6]) (b := ((t_parted.body.getS 1).forB.getS 1).forB) (env := pEnv f1 f2 one other F L [] u v w x y z) (ds := L.map eLn) L eLn
            (fun pr e => ∃ F' Lt' u v w x y z, e = pEnv f1 f2 one other F' L Lt' u v w x y z ∧ MidP one other m F F' L Lt' pr)
            (fun _ q s e => ∃ l ∈ allBlocks one, q ∈ L ∧ s = (.f, eDoc (q.2 ++ [l])) ∧ badP one other q.1 l = true ∧ ∃ r, e = some (f1, eBk one) :: some (f2, eBk other) :: r)
            rfl ⟨F, [], u, v, w, x, y, z, rfl, V.nd, V.ok, by simp, by simp, by simp⟩ (by
              rintro pr ⟨p, d⟩ po e e0 ⟨F', Lt', u, v, w, x, y, z, rfl, M⟩
              have hq : (p, d) ∈ L := by rw [e0]; simp
              obtain ⟨q1, q2, q3, q4⟩ := V.ln _ hq
              have ab := c_all_blocks K.all_blocks (n := n + 2) (f1 := .f) own_f o1
              rcases part_row (n := n) K.all_blocks K.filled h1 h2 o1 o2 b1 b2 M (V.ok _ q1) q2 q3 q4 m4 (u := u) (v := v) (w := w) (x := x) (y := y) (z := z) with ⟨F2, Lt2, w2, x2, y2, z2, hf, M2⟩ | ⟨l, e', hl, hb, hf, r, rfl⟩
              · refine .inl ⟨_, .inl ?_, F2, Lt2, some (ePP p), some (eDoc d), w2, x2, y2, z2, rfl, M2⟩
                simp only [t_parted, Sms.getS, Sm.forB, pEnv, jk_some] at hf
                simp_arith [t_parted, Sms.getS, Sm.forB, pEnv, eLn, h1, h2, ab, hf]
              · refine .inr ⟨(.f, eDoc (d ++ [l])), _, ?_, l, hl, hq, rfl, hb, r, rfl⟩
                simp only [t_parted, Sms.getS, Sm.forB, pEnv, jk_some] at hf
                simp_arith [t_parted, Sms.getS, Sm.forB, pEnv, eLn, h1, h2, ab, hf])
          rcases lv with ⟨e', hf, F', Lt', u', v', w', x', y', z', rfl, M⟩ | ⟨pr, q, po, s, e', e0, hf, l, hl, hq, rfl, hb, r, rfl⟩
          · refine .inl ⟨(m + 1, F', Lt'), wEnv F' Lt' .f (some (.f, .lst (Lt'.map eLn))) u' v' w' x' y' z', ?_, ⟨lev_next V M hL, .f, _, _, _, _, _, _, _, .inr rfl, rfl, rfl⟩, ?_⟩
            · simp only [t_parted, Sms.getS, Sm.forB, pEnv, List.map_nil] at hf
              rcases hfl with rfl | rfl <;> simp_arith [t_parted, Sms.getS, Sm.forB, wEnv, cv, hf]
            · have l1 := congrArg List.length M.ex
              rw [List.length_append, List.length_map] at l1
              have l2 := found_len o1 o2 M.nd M.ok
              simp only [if_neg hL]
              by_cases hLt : Lt' = []
              · simp only [hLt, List.length_nil, if_true] at l1 ⊢
                omega
              · have : 0 < Lt'.length := List.length_pos_iff.mpr hLt
                simp only [if_neg hLt]
                omega
          · refine .inr ⟨(.f, eDoc (q.2 ++ [l])), _, ?_, ⟨q.2 ++ [l], rfl, q.2, l, rfl, ?_, ?_, ?_, ?_⟩, r, rfl⟩
            · simp only [t_parted, Sms.getS, Sm.forB, pEnv, List.map_nil] at hf
              rcases hfl with rfl | rfl <;> simp_arith [t_parted, Sms.getS, Sm.forB, wEnv, cv, hf]
            · obtain ⟨q1, q2, q3, q4⟩ := V.ln _ hq
              intro y hy
              rcases List.mem_append.mp hy with hy | hy
              · exact q3 y hy
              · rw [List.mem_singleton.mp hy]; exact hl
            · rw [(V.ln _ hq).2.2.2]; exact hb
            · rw [List.length_append, (V.ln _ hq).2.1]; simp; omega
            · intro d' hd' ha
              rw [(V.ln _ hq).2.1] at hd'
              exact V.few d' hd' ha)
    (0, [((0, 0), (0, 0))], [(((0, 0), (0, 0)), [])]) ⟨start, .o, none, none, none, none, none, none, none, .inl rfl, rfl, rfl⟩ (by simp only [FUEL]; split <;> omega)
  rcases W with ⟨⟨m, F, L⟩, e', hw, V, fl, v4, u, v, w, x, y, z, hfl, cv, rfl⟩ | ⟨s, e', hw, ⟨d, rfl, hp⟩, r, rfl⟩
  · refine ⟨none, fun d hda l hl => ?_, ?_⟩
    · have dn : ∀ p ∈ F, doneP one other F p := fun p hp => by
        rcases V.dn p hp with ⟨q, hq, _⟩ | h
        · cases hq
        · exact h
      have all : ∀ (d : List Blk), (∀ x ∈ d, x ∈ allBlocks one) → ∀ e, (∀ x ∈ e, x ∈ allBlocks one) → runP one other e ∈ F → runP one other (e ++ d) ∈ F := fun d => by
        induction d with
        | nil => intro _ e _ he; simpa using he
        | cons a d ih =>
          intro hd e hee he
          have ha := hd a (by simp)
          have := ih (fun x hx => hd x (by simp [hx])) (e ++ [a]) (fun x hx => (List.mem_append.mp hx).elim (hee x) (fun h => by rw [List.mem_singleton.mp h]; exact ha)) (by rw [run_app]; exact (dn _ he a ha).2)
          simpa using this
      have h0 := V.all [] (Nat.zero_le _) (by simp)
      have := all d hda [] (by simp) h0
      rw [List.nil_append] at this
      exact (dn _ this l hl).1
    · rw [go K.s rfl rfl]
      simp only [t_parted, Sms.getS, Sm.forB, wEnv, List.map_cons, List.map_nil, ePP, eS, eLn, tru, eDoc, jk_none] at hw
      have k1 : kks [D.tup [.tup [.int 0, .int 0], .tup [.int 0, .int 0]]] = true := by decide
      simp_arith [h1, h2, k1, Nat.le_refl, hw, eR]
  · refine ⟨some d, hp, ?_⟩
    rw [go K.s rfl rfl]
    simp only [t_parted, Sms.getS, Sm.forB, wEnv, List.map_cons, List.map_nil, ePP, eS, eLn, tru, eDoc, jk_none] at hw
    have k1 : kks [D.tup [.tup [.int 0, .int 0], .tup [.int 0, .int 0]]] = true := by decide
    simp_arith [h1, h2, k1, Nat.le_refl, hw, eR]
end
end MP.Q
/-! PM8: rules taken back, books near by. -/
namespace MP.Q
open PySem (Str)
set_option maxRecDepth 100000
local macro_rules
  | `(tactic| simp_arith [$xs:simpLemma,*]) => `(tactic| simp -implicitDefEqProofs only [AV.rd, En.frz, AV.use, rds, uses, passA, lent, backA, setV, bindV, takes, bindOs, Tg.set, Tg.sets, seqOf, seqLT, Out.bool, wipe, ownAt, kTup, kLst, kDct, kOp, kCmp, kBi, rcv, isDct, kSlc, kPart, kNot, kCall, kGet2, kUse, kInt, kSeq, kEnu, kZip, kItems, kTurn, kPar, kSub, kApp, isLst, kExt, kRet, outsOf, u_qTup, u_qLst, u_qDct2, u_qDct1, u_qOp2, u_qOp1, u_qCh3, u_qCh2, u_qCh1, u_qBi, u_qMth2, u_qMth1, u_qSl3, u_qSl2, u_qSl1, u_qNotP, u_qTst, u_qAnd2, u_qAnd1, u_qOr2, u_qOr1, u_qNot2, u_qNot1, u_qIte2, u_qIte1, u_qCall, u_qG3, u_qG2, u_qG1, u_qCmE, u_qEs2, u_qEs1, u_qBool, u_qPart, u_qSq2, u_qSq1, u_qR2, u_qR1, u_qR6, u_qR5, u_qR4, u_qR3, u_qEn2, u_qEn1, u_qZ4, u_qZ3, u_qZ2, u_qZ1, u_qI2, u_qI1, u_qNx, u_qAsg, u_qPar, u_qU2, u_qU1, u_qS2, u_qS1, u_qDr, u_qApp, u_qExt, u_qIf, u_qRet, canSet_eq, cs_n, cs_f, cs_o, cs_jk, jk_none, jk_some, kFor, turnS, kComp, at_z, at_s, st_z, st_s, ln_c, ln_n, ob_ok, ob_exn, nx_ok, own_o, own_p, own_f, own_q, frz_o, frz_p, frz_f, frz_q, ev_var, ev_cst, ev_tup, ev_lst, ev_dct, ev_op, ev_chain, ev_bi, ev_mth, ev_slc, ev_and, ev_or, ev_not, ev_ite, ev_call, ev_pop, ev_pop0, ev_get2, ev_comp, es_nil, es_cons, ec_nil, ec_cons, ep_nil, ep_cons, ei_seq, ei_rng1, ei_rng2, ei_enu, ei_zip, ei_items, et_eq, ss_nil, ss_cons, s_asg, s_par, s_unp, s_sub, s_drop, s_app, s_ext, s_ifs, s_whl, s_for, s_ret, s_retN, s_raise, s_pass, s_brk, s_cnt, kn_nx, kn_rt, kn_bk, kn_ct, env1, kRun, nn_non, nn_bl, nn_int, nn_str, nn_tup, nn_lst, op_isn_non, op_notn_non, op_addi, op_subi, op_lti, op_lei, op_gti, op_gei, op_eqi, op_nei, op_eqs, op_nes, op_tup0, op_tup1, op_tup2, op_tup3, op_tup4, bi_min2, bi_max2, bi_int, bi_intb, bi_neg, bi_lent, bi_lenl, bi_tupl, bi_tupt, bi_listl, bi_listt, fn_true, tt_true, cutD_l, cutD_t, op_lts, un_nil, un_cons, nc0, nc1, nc2, nc3, nc4, nc5, turnF_eq, ix_bk0, ix_bk1, ix_k0, ix_k1, ix_k2, ix_k3, ix_k4, nn_k, nn_bk, nn_O, ix_b0, ix_b1, op_lst0, op_lst1, bi_lenf, ix_fd0, ix_fd1, ix_fd2, ix_fd3, ix_s0, ix_s1, ix_p0, ix_p1, env1.nones, Option.isSome_some, Option.isSome_none, ite_true, ite_false, Option.map_some, Option.map_none, Option.getD_some, List.nodup_nil, List.nodup_cons, List.not_mem_nil, not_false_eq_true, true_and, List.isEmpty_nil, id, List.nil_append, List.cons_append, Bool.true_and, Bool.and_true, ↓reduceIte, Nat.reduceSub, Nat.reduceAdd, Nat.reduceLT, Nat.reduceLeDiff, Nat.reduceEqDiff, List.mem_cons, or_false, false_or, and_self, and_true, false_and, and_false, Int.reduceBEq, Int.reduceLE, Int.reduceLT, decide_true, decide_false, decide_eq_true_eq, Bool.not_eq_true', decide_eq_false_iff_not, Bool.not_true, Bool.not_false, Bool.and_eq_true, Bool.or_eq_true, Bool.false_eq_true, Bool.true_eq_false, $xs,*])
set_option maxHeartbeats 1000000
section
variable {pg : Nat → Option Df} {n : Nat}
def eKM (k : Kd) : D := .tup [.str k.nm, .int k.most]
theorem eqv_KM {j k : Kd} : eqv (eKM j) (eKM k) = decide ((j.nm, j.most) = (k.nm, k.most)) := by
  simp only [eKM, eqv, eqvs, Bool.and_true, Prod.mk.injEq]
  by_cases h1 : j.nm = k.nm <;> by_cases h2 : j.most = k.most <;> simp [h1, h2]
theorem eqvs_KM : ∀ {xs ys : List Kd}, eqvs (xs.map eKM) (ys.map eKM) = decide (xs.map (fun k => (k.nm, k.most)) = ys.map (fun k => (k.nm, k.most)))
  | [], [] => by simp [eqvs]
  | [], y :: ys => by simp [eqvs]
  | x :: xs, [] => by simp [eqvs]
  | x :: xs, y :: ys => by
    simp only [List.map_cons, eqvs, eqvs_KM, eqv_KM, List.cons.injEq]
    by_cases h1 : (x.nm, x.most) = (y.nm, y.most) <;> by_cases h2 : xs.map (fun k => (k.nm, k.most)) = ys.map (fun k => (k.nm, k.most)) <;> simp [h1, h2]
theorem slc_k2 {k : Kd} : cutD (eK k) none (some 2) = some (false, eKM k) := rfl
instance {one other : Bk} : Decidable (likeB one other) := by unfold likeB; infer_instance
theorem ne_KM {one other : Bk} : op2 .ne (.lst (one.ks.map eKM)) (.lst (other.ks.map eKM)) = some (false, .bl (!decide (likeB one other))) := by
  rw [op_ne_of (pl_lst fun _ _ => by simp [eKM, pl, pls]) (pl_lst fun _ _ => by simp [eKM, pl, pls])]
  simp only [eqv, eqvs_KM]
  rfl
theorem ks_len {b : Bk} (h : b.ok = true) : b.ks.length ≤ 3 := by
  simp only [Bk.ok, Bool.and_eq_true, decide_eq_true_eq] at h
  exact h.1.1.1.2.2
theorem ks_line {b : Bk} (h : b.ok = true) : b.ks.length ≤ LINE := le_line (by have := ks_len h; omega)
theorem c_check_both (K : K_check_both pg) {one other : Bk} {f1 f2 : Fl} (h1 : f1.own = false) (h2 : f2.own = false) (o1 : one.ok = true) (o2 : other.ok = true) :
    ∃ env, callL pg (n + 6) 119 none [(f1, eBk one), (f2, eBk other)] = if likeB one other then .ok ((.f, .non), [(f1, eBk one), (f2, eBk other)]) else .exn (S "Unlike") none env := by
  refine ⟨[some (f1, eBk one), some (f2, eBk other), none], ?_⟩
  rw [go K.s rfl rfl]
  simp_arith [h1, h2, c_check_book K.check_book (f1 := .f) (vd_bk o1), c_check_book K.check_book (f1 := .f) (vd_bk o2), isB o1, isB o2]
  rw [comp_mapE one.ks eK eKM rfl]
  · simp_arith [h1, h2]
    rw [comp_mapE other.ks eK eKM rfl]
    · by_cases h : likeB one other <;> simp_arith [h1, h2, ne_KM, h]
    · intro k _
      simp_arith [h1, h2, slc_k2]
    · exact ks_line o2
  · intro k _
    simp_arith [h1, h2, slc_k2]
  · exact ks_line o1
/-- whether no document parts two books -/
def Same (one other : Bk) : Prop := PartR one other none
theorem part_none {one other : Bk} {r : Option (List Blk)} (h : PartR one other r) : Same one other ↔ r = none := by
  cases r with
  | none => exact ⟨fun _ => rfl, fun _ => h⟩
  | some w =>
    obtain ⟨d, l, rfl, hw, hb, _⟩ := h
    refine ⟨fun s => ?_, fun s => by cases s⟩
    have := s d (fun x hx => hw x (by simp [hx])) l (hw l (by simp))
    rw [this] at hb
    cases hb
/-- two books that can be compared -/
structure Two (one other : Bk) : Prop where
  o1 : one.ok = true
  o2 : other.ok = true
  lk : likeB one other
theorem Two.b1 {one other : Bk} (t : Two one other) : ∀ l ∈ allBlocks one, blkOk one l = true := fun _ hl => (blkOk_iff t.o1).mpr hl
theorem Two.b2 {one other : Bk} (t : Two one other) : ∀ l ∈ allBlocks one, blkOk other l = true := fun _ hl => (blkOk_iff t.o2).mpr (like_blocks t.lk ▸ hl)
theorem c_parted2 (K : K_parted pg) {one other : Bk} (t : Two one other) {f1 f2 : Fl} (h1 : f1.own = false) (h2 : f2.own = false) :
    ∃ r, PartR one other r ∧ callL pg (n + 4) 120 none [(f1, eBk one), (f2, eBk other)] = .ok ((.f, eR r), [(f1, eBk one), (f2, eBk other)]) :=
  c_parted K h1 h2 (Bk.ok.fit t.o1) (Bk.ok.fit t.o2) t.b1 t.b2
theorem nn_R {r : Option (List Blk)} : isNon (eR r) = r.isNone := by cases r <;> rfl
local macro_rules
  | `(tactic| simp_arith [$xs:simpLemma,*]) => `(tactic| simp -implicitDefEqProofs only [AV.rd, En.frz, AV.use, rds, uses, passA, lent, backA, setV, bindV, takes, bindOs, Tg.set, Tg.sets, seqOf, seqLT, Out.bool, wipe, ownAt, kTup, kLst, kDct, kOp, kCmp, kBi, rcv, isDct, kSlc, kPart, kNot, kCall, kGet2, kUse, kInt, kSeq, kEnu, kZip, kItems, kTurn, kPar, kSub, kApp, isLst, kExt, kRet, outsOf, u_qTup, u_qLst, u_qDct2, u_qDct1, u_qOp2, u_qOp1, u_qCh3, u_qCh2, u_qCh1, u_qBi, u_qMth2, u_qMth1, u_qSl3, u_qSl2, u_qSl1, u_qNotP, u_qTst, u_qAnd2, u_qAnd1, u_qOr2, u_qOr1, u_qNot2, u_qNot1, u_qIte2, u_qIte1, u_qCall, u_qG3, u_qG2, u_qG1, u_qCmE, u_qEs2, u_qEs1, u_qBool, u_qPart, u_qSq2, u_qSq1, u_qR2, u_qR1, u_qR6, u_qR5, u_qR4, u_qR3, u_qEn2, u_qEn1, u_qZ4, u_qZ3, u_qZ2, u_qZ1, u_qI2, u_qI1, u_qNx, u_qAsg, u_qPar, u_qU2, u_qU1, u_qS2, u_qS1, u_qDr, u_qApp, u_qExt, u_qIf, u_qRet, canSet_eq, cs_n, cs_f, cs_o, cs_jk, jk_none, jk_some, kFor, turnS, kComp, at_z, at_s, st_z, st_s, ln_c, ln_n, ob_ok, ob_exn, nx_ok, own_o, own_p, own_f, own_q, frz_o, frz_p, frz_f, frz_q, ev_var, ev_cst, ev_tup, ev_lst, ev_dct, ev_op, ev_chain, ev_bi, ev_mth, ev_slc, ev_and, ev_or, ev_not, ev_ite, ev_call, ev_pop, ev_pop0, ev_get2, ev_comp, es_nil, es_cons, ec_nil, ec_cons, ep_nil, ep_cons, ei_seq, ei_rng1, ei_rng2, ei_enu, ei_zip, ei_items, et_eq, ss_nil, ss_cons, s_asg, s_par, s_unp, s_sub, s_drop, s_app, s_ext, s_ifs, s_whl, s_for, s_ret, s_retN, s_raise, s_pass, s_brk, s_cnt, kn_nx, kn_rt, kn_bk, kn_ct, env1, kRun, nn_non, nn_bl, nn_int, nn_str, nn_tup, nn_lst, op_isn_non, op_notn_non, op_addi, op_subi, op_lti, op_lei, op_gti, op_gei, op_eqi, op_nei, op_eqs, op_nes, op_tup0, op_tup1, op_tup2, op_tup3, op_tup4, bi_min2, bi_max2, bi_int, bi_intb, bi_neg, bi_lent, bi_lenl, bi_tupl, bi_tupt, bi_listl, bi_listt, fn_true, tt_true, cutD_l, cutD_t, op_lts, un_nil, un_cons, nc0, nc1, nc2, nc3, nc4, nc5, turnF_eq, ix_bk0, ix_bk1, ix_k0, ix_k1, ix_k2, ix_k3, ix_k4, nn_k, nn_bk, nn_O, ix_b0, ix_b1, op_lst0, op_lst1, bi_lenf, ix_fd0, ix_fd1, ix_fd2, ix_fd3, ix_s0, ix_s1, ix_p0, ix_p1, nn_R, env1.nones, Option.isSome_some, Option.isSome_none, ite_true, ite_false, Option.map_some, Option.map_none, Option.getD_some, List.nodup_nil, List.nodup_cons, List.not_mem_nil, not_false_eq_true, true_and, List.isEmpty_nil, id, List.nil_append, List.cons_append, Bool.true_and, Bool.and_true, ↓reduceIte, Nat.reduceSub, Nat.reduceAdd, Nat.reduceLT, Nat.reduceLeDiff, Nat.reduceEqDiff, List.mem_cons, or_false, false_or, and_self, and_true, false_and, and_false, Int.reduceBEq, Int.reduceLE, Int.reduceLT, decide_true, decide_false, decide_eq_true_eq, Bool.not_eq_true', decide_eq_false_iff_not, Bool.not_true, Bool.not_false, Bool.and_eq_true, Bool.or_eq_true, Bool.false_eq_true, Bool.true_eq_false, $xs,*])
theorem c_are_alike (K : K_are_alike pg) {one other : Bk} (t : Two one other) {f1 f2 : Fl} (h1 : f1.own = false) (h2 : f2.own = false) :
    ∃ r, PartR one other r ∧ callL pg (n + 7) 121 none [(f1, eBk one), (f2, eBk other)] = .ok ((.f, .bl r.isNone), [(f1, eBk one), (f2, eBk other)]) := by
  obtain ⟨r, hr, e⟩ := c_parted2 K.parted (n := n + 2) t (f1 := .f) (f2 := .f) own_f own_f
  obtain ⟨env, cb⟩ := c_check_both K.check_both (n := n) (f1 := .f) (f2 := .f) own_f own_f t.o1 t.o2
  rw [if_pos t.lk] at cb
  refine ⟨r, hr, ?_⟩
  rw [go K.s rfl rfl]
  simp_arith [h1, h2, cb, e]
theorem c_parting (K : K_parting_document pg) {one other : Bk} (t : Two one other) {f1 f2 : Fl} (h1 : f1.own = false) (h2 : f2.own = false) :
    ∃ r, PartR one other r ∧ callL pg (n + 7) 122 none [(f1, eBk one), (f2, eBk other)] = .ok ((.f, eR r), [(f1, eBk one), (f2, eBk other)]) := by
  obtain ⟨r, hr, e⟩ := c_parted2 K.parted (n := n + 2) t (f1 := .f) (f2 := .f) own_f own_f
  obtain ⟨env, cb⟩ := c_check_both K.check_both (n := n) (f1 := .f) (f2 := .f) own_f own_f t.o1 t.o2
  rw [if_pos t.lk] at cb
  refine ⟨r, hr, ?_⟩
  rw [go K.s rfl rfl]
  simp_arith [h1, h2, cb, e]
/-! #### rules taken back -/
def tbKd (x r : Str) (k : Kd) : Kd := if k.nm == x then { k with parts := if r == S "parts" then some (1, 1) else k.parts, joins := k.joins && !(r == S "joins"), opens := k.opens && !(r == S "opens") } else k
def takenM (b : Bk) (x r : Str) : Bk := ⟨b.h, b.ks.map (tbKd x r)⟩
theorem tb_nm {x r : Str} {k : Kd} : (tbKd x r k).nm = k.nm ∧ (tbKd x r k).most = k.most := by unfold tbKd; split <;> simp
theorem tb_ok {x r : Str} {k : Kd} (h : k.ok = true) : (tbKd x r k).ok = true := by
  unfold tbKd
  split
  · simp only [Kd.ok, Bool.and_eq_true] at h ⊢
    refine ⟨h.1, ?_⟩
    split
    · rfl
    · exact h.2
  · exact h
theorem Bk.ok_map {b : Bk} (h : b.ok = true) {hh : Int} (h2 : 2 ≤ hh) (h6 : hh ≤ 6) {g : Kd → Kd} (g1 : ∀ k ∈ b.ks, (g k).nm = k.nm) (g2 : ∀ k ∈ b.ks, (g k).most = k.most) (g3 : ∀ k ∈ b.ks, (g k).ok = true) : Two b ⟨hh, b.ks.map g⟩ := by
  have e1 : (b.ks.map g).map Kd.nm = b.ks.map Kd.nm := by rw [List.map_map]; exact List.map_congr_left g1
  have e2 : (b.ks.map g).map Kd.most = b.ks.map Kd.most := by rw [List.map_map]; exact List.map_congr_left g2
  refine ⟨h, ?_, ?_⟩
  · simp only [Bk.ok, Bool.and_eq_true, decide_eq_true_eq] at h ⊢
    rw [e1, e2, List.length_map]
    refine ⟨⟨⟨⟨⟨h2, h6⟩, h.1.1.1.2⟩, ?_⟩, h.1.2⟩, h.2⟩
    rw [List.all_map, List.all_eq_true]
    exact fun k hk => g3 k hk
  · unfold likeB
    rw [List.map_map]
    exact List.map_congr_left fun k hk => by simp [g1 k hk, g2 k hk]
theorem ok_ks {b : Bk} (h : b.ok = true) : ∀ k ∈ b.ks, k.ok = true := by
  simp only [Bk.ok, Bool.and_eq_true, List.all_eq_true] at h
  exact h.1.1.2
theorem ok_h {b : Bk} (h : b.ok = true) : 2 ≤ b.h ∧ b.h ≤ 6 := by
  simp only [Bk.ok, Bool.and_eq_true, decide_eq_true_eq] at h
  exact h.1.1.1.1
theorem taken_two {b : Bk} (h : b.ok = true) {x r : Str} : Two b (takenM b x r) :=
  Bk.ok_map h (ok_h h).1 (ok_h h).2 (fun _ _ => tb_nm.1) (fun _ _ => tb_nm.2) (fun k hk => tb_ok (ok_ks h k hk))
theorem c_taken_back (K : K_taken_back pg) {b : Bk} {x r : Str} {f1 f2 f3 : Fl} (h1 : f1.own = false) (h2 : f2.own = false) (h3 : f3.own = false) (hb : b.ok = true) :
    callL pg (n + 1) 124 none [(f1, eBk b), (f2, .str x), (f3, .str r)] = .ok ((.f, eBk (takenM b x r)), [(f1, eBk b), (f2, .str x), (f3, .str r)]) := by
  rw [go K.s rfl rfl]
  simp_arith [h1, h2, h3]
  rw [ob_assoc]
  refine for_invB b.ks eK (fun pr e => ∃ u v, e = [some (f1, eBk b), some (f2, .str x), some (f3, .str r), some (.o, .lst ((pr.map (tbKd x r)).map eK)), jk u, jk v]) rfl ⟨none, none, rfl⟩ ?_ ?_
  · rintro pr k po e e0 ⟨u, v, rfl⟩
    have lk : ((pr.map (tbKd x r)).map eK).length < LINE := by
      have h3 := ks_len hb
      rw [e0, List.length_append] at h3
      rw [List.length_map, List.length_map]
      exact lt_line (by omega)
    have ad : ∀ p j o, op2 .add (eKM k) (.tup [eO p, .bl j, .bl o]) = some (false, eK ⟨k.nm, k.most, p, j, o⟩) := fun p j o => op_addt (xs := [.str k.nm, .int k.most]) (by simp)
    have e2 : (pr ++ [k]).map (tbKd x r) = pr.map (tbKd x r) ++ [tbKd x r k] := by simp
    by_cases hx : (k.nm == x) = true
    · have e1 : tbKd x r k = ⟨k.nm, k.most, if r == S "parts" then some (1, 1) else k.parts, k.joins && !(r == S "joins"), k.opens && !(r == S "opens")⟩ := by unfold tbKd; rw [if_pos hx]
      refine ⟨_, .inl ?_, some (eK (tbKd x r k)), some (eO (tbKd x r k).parts), rfl⟩
      have ad' := ad (some (1, 1))
      have o1 : eO (some (1, 1)) = D.tup [.int 1, .int 1] := rfl
      simp only [eO] at ad'
      cases hp : r == S "parts" <;> cases hj : k.joins <;> cases ho : k.opens <;> simp only [hp, hj, ho, Bool.false_eq_true, if_false, if_true] at e1 <;> simp_arith [h1, h2, h3, hx, hp, hj, ho, slc_k2, ad, ad', o1, lk, map_snoc, e1, e2, Bool.false_and]
    · have hx : (k.nm == x) = false := by simpa using hx
      have e1 : tbKd x r k = k := by unfold tbKd; rw [hx]; rfl
      refine ⟨_, .inl ?_, some (eK k), v, rfl⟩
      simp_arith [h1, h2, h3, hx, lk, map_snoc, e1, e2]
  · rintro e' ⟨u, v, rfl⟩
    simp_arith [h1, h2, h3, takenM, eBk]
end
end MP.Q
/-! PM9: rules of a book, needless ones; books near by. -/
namespace MP.Q
open PySem (Str)
set_option maxRecDepth 100000
local macro_rules
  | `(tactic| simp_arith [$xs:simpLemma,*]) => `(tactic| simp -implicitDefEqProofs only [AV.rd, En.frz, AV.use, rds, uses, passA, lent, backA, setV, bindV, takes, bindOs, Tg.set, Tg.sets, seqOf, seqLT, Out.bool, wipe, ownAt, kTup, kLst, kDct, kOp, kCmp, kBi, rcv, isDct, kSlc, kPart, kNot, kCall, kGet2, kUse, kInt, kSeq, kEnu, kZip, kItems, kTurn, kPar, kSub, kApp, isLst, kExt, kRet, outsOf, u_qTup, u_qLst, u_qDct2, u_qDct1, u_qOp2, u_qOp1, u_qCh3, u_qCh2, u_qCh1, u_qBi, u_qMth2, u_qMth1, u_qSl3, u_qSl2, u_qSl1, u_qNotP, u_qTst, u_qAnd2, u_qAnd1, u_qOr2, u_qOr1, u_qNot2, u_qNot1, u_qIte2, u_qIte1, u_qCall, u_qG3, u_qG2, u_qG1, u_qCmE, u_qEs2, u_qEs1, u_qBool, u_qPart, u_qSq2, u_qSq1, u_qR2, u_qR1, u_qR6, u_qR5, u_qR4, u_qR3, u_qEn2, u_qEn1, u_qZ4, u_qZ3, u_qZ2, u_qZ1, u_qI2, u_qI1, u_qNx, u_qAsg, u_qPar, u_qU2, u_qU1, u_qS2, u_qS1, u_qDr, u_qApp, u_qExt, u_qIf, u_qRet, canSet_eq, cs_n, cs_f, cs_o, cs_jk, jk_none, jk_some, kFor, turnS, kComp, at_z, at_s, st_z, st_s, ln_c, ln_n, ob_ok, ob_exn, nx_ok, own_o, own_p, own_f, own_q, frz_o, frz_p, frz_f, frz_q, ev_var, ev_cst, ev_tup, ev_lst, ev_dct, ev_op, ev_chain, ev_bi, ev_mth, ev_slc, ev_and, ev_or, ev_not, ev_ite, ev_call, ev_pop, ev_pop0, ev_get2, ev_comp, es_nil, es_cons, ec_nil, ec_cons, ep_nil, ep_cons, ei_seq, ei_rng1, ei_rng2, ei_enu, ei_zip, ei_items, et_eq, ss_nil, ss_cons, s_asg, s_par, s_unp, s_sub, s_drop, s_app, s_ext, s_ifs, s_whl, s_for, s_ret, s_retN, s_raise, s_pass, s_brk, s_cnt, kn_nx, kn_rt, kn_bk, kn_ct, env1, kRun, nn_non, nn_bl, nn_int, nn_str, nn_tup, nn_lst, op_isn_non, op_notn_non, op_addi, op_subi, op_lti, op_lei, op_gti, op_gei, op_eqi, op_nei, op_eqs, op_nes, op_tup0, op_tup1, op_tup2, op_tup3, op_tup4, bi_min2, bi_max2, bi_int, bi_intb, bi_neg, bi_lent, bi_lenl, bi_tupl, bi_tupt, bi_listl, bi_listt, fn_true, tt_true, cutD_l, cutD_t, op_lts, un_nil, un_cons, nc0, nc1, nc2, nc3, nc4, nc5, turnF_eq, ix_bk0, ix_bk1, ix_k0, ix_k1, ix_k2, ix_k3, ix_k4, nn_k, nn_bk, nn_O, ix_b0, ix_b1, op_lst0, op_lst1, bi_lenf, ix_fd0, ix_fd1, ix_fd2, ix_fd3, ix_s0, ix_s1, ix_p0, ix_p1, nn_R, env1.nones, Option.isSome_some, Option.isSome_none, ite_true, ite_false, Option.map_some, Option.map_none, Option.getD_some, List.nodup_nil, List.nodup_cons, List.not_mem_nil, not_false_eq_true, true_and, List.isEmpty_nil, id, List.nil_append, List.cons_append, Bool.true_and, Bool.and_true, ↓reduceIte, Nat.reduceSub, Nat.reduceAdd, Nat.reduceLT, Nat.reduceLeDiff, Nat.reduceEqDiff, List.mem_cons, or_false, false_or, and_self, and_true, false_and, and_false, Int.reduceBEq, Int.reduceLE, Int.reduceLT, decide_true, decide_false, decide_eq_true_eq, Bool.not_eq_true', decide_eq_false_iff_not, Bool.not_true, Bool.not_false, Bool.and_eq_true, Bool.or_eq_true, Bool.false_eq_true, Bool.true_eq_false, $xs,*])
set_option maxHeartbeats 1000000
section
variable {cf : CF} {cl : Nat → LF → List SV → Out (SV × List SV)} {lf : Option LF} {tg : Tg} {b : Sms}
def kForC (cf : CF) (cl : Nat → LF → List SV → Out (SV × List SV)) (lf : Option LF) (tg : Tg) (b : Sms) (ds : List D) (r : Fw × En) : Out (Fw × En) := match r.1 with
  | .nx => forS cf cl lf tg b ds r.2
  | .ct => forS cf cl lf tg b ds r.2
  | .bk => .ok (.nx, r.2)
  | .rt s => .ok (.rt s, r.2)
theorem kfc_nx {ds e} : kForC cf cl lf tg b ds (.nx, e) = forS cf cl lf tg b ds e := rfl
theorem kfc_ct {ds e} : kForC cf cl lf tg b ds (.ct, e) = forS cf cl lf tg b ds e := rfl
theorem kfc_bk {ds e} : kForC cf cl lf tg b ds (.bk, e) = .ok (.nx, e) := rfl
theorem kfc_rt {ds e s} : kForC cf cl lf tg b ds (.rt s, e) = .ok (.rt s, e) := rfl
theorem forS_nil {e} : forS cf cl lf tg b [] e = .ok (.nx, e) := rfl
theorem forS_cons {d ds e} : forS cf cl lf tg b (d :: ds) e = (turnF cf cl lf tg b e d).bind (kForC cf cl lf tg b ds) := by
  unfold forS turnF
  rw [forF, ob_assoc]
  rfl
end
local macro_rules
  | `(tactic| simp_arith [$xs:simpLemma,*]) => `(tactic| simp -implicitDefEqProofs only [AV.rd, En.frz, AV.use, rds, uses, passA, lent, backA, setV, bindV, takes, bindOs, Tg.set, Tg.sets, seqOf, seqLT, Out.bool, wipe, ownAt, kTup, kLst, kDct, kOp, kCmp, kBi, rcv, isDct, kSlc, kPart, kNot, kCall, kGet2, kUse, kInt, kSeq, kEnu, kZip, kItems, kTurn, kPar, kSub, kApp, isLst, kExt, kRet, outsOf, u_qTup, u_qLst, u_qDct2, u_qDct1, u_qOp2, u_qOp1, u_qCh3, u_qCh2, u_qCh1, u_qBi, u_qMth2, u_qMth1, u_qSl3, u_qSl2, u_qSl1, u_qNotP, u_qTst, u_qAnd2, u_qAnd1, u_qOr2, u_qOr1, u_qNot2, u_qNot1, u_qIte2, u_qIte1, u_qCall, u_qG3, u_qG2, u_qG1, u_qCmE, u_qEs2, u_qEs1, u_qBool, u_qPart, u_qSq2, u_qSq1, u_qR2, u_qR1, u_qR6, u_qR5, u_qR4, u_qR3, u_qEn2, u_qEn1, u_qZ4, u_qZ3, u_qZ2, u_qZ1, u_qI2, u_qI1, u_qNx, u_qAsg, u_qPar, u_qU2, u_qU1, u_qS2, u_qS1, u_qDr, u_qApp, u_qExt, u_qIf, u_qRet, canSet_eq, cs_n, cs_f, cs_o, cs_jk, jk_none, jk_some, kFor, turnS, kComp, at_z, at_s, st_z, st_s, ln_c, ln_n, ob_ok, ob_exn, nx_ok, own_o, own_p, own_f, own_q, frz_o, frz_p, frz_f, frz_q, ev_var, ev_cst, ev_tup, ev_lst, ev_dct, ev_op, ev_chain, ev_bi, ev_mth, ev_slc, ev_and, ev_or, ev_not, ev_ite, ev_call, ev_pop, ev_pop0, ev_get2, ev_comp, es_nil, es_cons, ec_nil, ec_cons, ep_nil, ep_cons, ei_seq, ei_rng1, ei_rng2, ei_enu, ei_zip, ei_items, et_eq, ss_nil, ss_cons, s_asg, s_par, s_unp, s_sub, s_drop, s_app, s_ext, s_ifs, s_whl, s_for, s_ret, s_retN, s_raise, s_pass, s_brk, s_cnt, kn_nx, kn_rt, kn_bk, kn_ct, env1, kRun, nn_non, nn_bl, nn_int, nn_str, nn_tup, nn_lst, op_isn_non, op_notn_non, op_addi, op_subi, op_lti, op_lei, op_gti, op_gei, op_eqi, op_nei, op_eqs, op_nes, op_tup0, op_tup1, op_tup2, op_tup3, op_tup4, bi_min2, bi_max2, bi_int, bi_intb, bi_neg, bi_lent, bi_lenl, bi_tupl, bi_tupt, bi_listl, bi_listt, fn_true, tt_true, cutD_l, cutD_t, op_lts, un_nil, un_cons, nc0, nc1, nc2, nc3, nc4, nc5, turnF_eq, ix_bk0, ix_bk1, ix_k0, ix_k1, ix_k2, ix_k3, ix_k4, nn_k, nn_bk, nn_O, ix_b0, ix_b1, op_lst0, op_lst1, bi_lenf, ix_fd0, ix_fd1, ix_fd2, ix_fd3, ix_s0, ix_s1, ix_p0, ix_p1, nn_R, kfc_nx, kfc_ct, kfc_bk, kfc_rt, forS_nil, forS_cons, env1.nones, Option.isSome_some, Option.isSome_none, ite_true, ite_false, Option.map_some, Option.map_none, Option.getD_some, List.nodup_nil, List.nodup_cons, List.not_mem_nil, not_false_eq_true, true_and, List.isEmpty_nil, id, List.nil_append, List.cons_append, Bool.true_and, Bool.and_true, ↓reduceIte, Nat.reduceSub, Nat.reduceAdd, Nat.reduceLT, Nat.reduceLeDiff, Nat.reduceEqDiff, List.mem_cons, or_false, false_or, and_self, and_true, false_and, and_false, Int.reduceBEq, Int.reduceLE, Int.reduceLT, decide_true, decide_false, decide_eq_true_eq, Bool.not_eq_true', decide_eq_false_iff_not, Bool.not_true, Bool.not_false, Bool.and_eq_true, Bool.or_eq_true, Bool.false_eq_true, Bool.true_eq_false, $xs,*])
section
variable {pg : Nat → Option Df} {n : Nat}
abbrev SS := Str × Str
def eSS (p : SS) : D := .tup [.str p.1, .str p.2]
theorem ix_ss0 {p : SS} : op2 .idx (eSS p) (.int 0) = some (false, .str p.1) := op_tup0
theorem ix_ss1 {p : SS} : op2 .idx (eSS p) (.int 1) = some (false, .str p.2) := op_tup1
local macro_rules
  | `(tactic| simp_arith [$xs:simpLemma,*]) => `(tactic| simp -implicitDefEqProofs only [AV.rd, En.frz, AV.use, rds, uses, passA, lent, backA, setV, bindV, takes, bindOs, Tg.set, Tg.sets, seqOf, seqLT, Out.bool, wipe, ownAt, kTup, kLst, kDct, kOp, kCmp, kBi, rcv, isDct, kSlc, kPart, kNot, kCall, kGet2, kUse, kInt, kSeq, kEnu, kZip, kItems, kTurn, kPar, kSub, kApp, isLst, kExt, kRet, outsOf, u_qTup, u_qLst, u_qDct2, u_qDct1, u_qOp2, u_qOp1, u_qCh3, u_qCh2, u_qCh1, u_qBi, u_qMth2, u_qMth1, u_qSl3, u_qSl2, u_qSl1, u_qNotP, u_qTst, u_qAnd2, u_qAnd1, u_qOr2, u_qOr1, u_qNot2, u_qNot1, u_qIte2, u_qIte1, u_qCall, u_qG3, u_qG2, u_qG1, u_qCmE, u_qEs2, u_qEs1, u_qBool, u_qPart, u_qSq2, u_qSq1, u_qR2, u_qR1, u_qR6, u_qR5, u_qR4, u_qR3, u_qEn2, u_qEn1, u_qZ4, u_qZ3, u_qZ2, u_qZ1, u_qI2, u_qI1, u_qNx, u_qAsg, u_qPar, u_qU2, u_qU1, u_qS2, u_qS1, u_qDr, u_qApp, u_qExt, u_qIf, u_qRet, canSet_eq, cs_n, cs_f, cs_o, cs_jk, jk_none, jk_some, kFor, turnS, kComp, at_z, at_s, st_z, st_s, ln_c, ln_n, ob_ok, ob_exn, nx_ok, own_o, own_p, own_f, own_q, frz_o, frz_p, frz_f, frz_q, ev_var, ev_cst, ev_tup, ev_lst, ev_dct, ev_op, ev_chain, ev_bi, ev_mth, ev_slc, ev_and, ev_or, ev_not, ev_ite, ev_call, ev_pop, ev_pop0, ev_get2, ev_comp, es_nil, es_cons, ec_nil, ec_cons, ep_nil, ep_cons, ei_seq, ei_rng1, ei_rng2, ei_enu, ei_zip, ei_items, et_eq, ss_nil, ss_cons, s_asg, s_par, s_unp, s_sub, s_drop, s_app, s_ext, s_ifs, s_whl, s_for, s_ret, s_retN, s_raise, s_pass, s_brk, s_cnt, kn_nx, kn_rt, kn_bk, kn_ct, env1, kRun, nn_non, nn_bl, nn_int, nn_str, nn_tup, nn_lst, op_isn_non, op_notn_non, op_addi, op_subi, op_lti, op_lei, op_gti, op_gei, op_eqi, op_nei, op_eqs, op_nes, op_tup0, op_tup1, op_tup2, op_tup3, op_tup4, bi_min2, bi_max2, bi_int, bi_intb, bi_neg, bi_lent, bi_lenl, bi_tupl, bi_tupt, bi_listl, bi_listt, fn_true, tt_true, cutD_l, cutD_t, op_lts, un_nil, un_cons, nc0, nc1, nc2, nc3, nc4, nc5, turnF_eq, ix_bk0, ix_bk1, ix_k0, ix_k1, ix_k2, ix_k3, ix_k4, nn_k, nn_bk, nn_O, ix_b0, ix_b1, op_lst0, op_lst1, bi_lenf, ix_fd0, ix_fd1, ix_fd2, ix_fd3, ix_s0, ix_s1, ix_p0, ix_p1, nn_R, kfc_nx, kfc_ct, kfc_bk, kfc_rt, forS_nil, forS_cons, ix_ss0, ix_ss1, env1.nones, Option.isSome_some, Option.isSome_none, ite_true, ite_false, Option.map_some, Option.map_none, Option.getD_some, List.nodup_nil, List.nodup_cons, List.not_mem_nil, not_false_eq_true, true_and, List.isEmpty_nil, id, List.nil_append, List.cons_append, Bool.true_and, Bool.and_true, ↓reduceIte, Nat.reduceSub, Nat.reduceAdd, Nat.reduceLT, Nat.reduceLeDiff, Nat.reduceEqDiff, List.mem_cons, or_false, false_or, and_self, and_true, false_and, and_false, Int.reduceBEq, Int.reduceLE, Int.reduceLT, decide_true, decide_false, decide_eq_true_eq, Bool.not_eq_true', decide_eq_false_iff_not, Bool.not_true, Bool.not_false, Bool.and_eq_true, Bool.or_eq_true, Bool.false_eq_true, Bool.true_eq_false, $xs,*])
def hasParts (k : Kd) : Bool := match k.parts with
  | none => false
  | some p => !decide (p = (1, 1))
def ruleRow (k : Kd) : List SS := (if k.joins then [(k.nm, S "joins")] else []) ++ (if k.opens then [(k.nm, S "opens")] else []) ++ (if hasParts k then [(k.nm, S "parts")] else [])
def rulesM (b : Bk) : List SS := (b.ks.map ruleRow).flatten
theorem ruleRow_len {k : Kd} : (ruleRow k).length ≤ 3 := by
  unfold ruleRow
  cases k.joins <;> cases k.opens <;> cases hasParts k <;> simp
theorem rulesM_len {b : Bk} (hb : b.ok = true) (pr po : List Kd) (e : b.ks = pr ++ po) : ((pr.map ruleRow).flatten).length ≤ 9 := by
  have h1 := flat_len (N := 3) (pr.map ruleRow) (fun l hl => by obtain ⟨k, _, rfl⟩ := List.mem_map.mp hl; exact ruleRow_len)
  have h2 := ks_len hb
  rw [e, List.length_append] at h2
  rw [List.length_map] at h1
  omega
theorem ne_O11 {a b : Int} : op2 .ne (.tup [.int a, .int b]) (.tup [.int 1, .int 1]) = some (false, .bl (!decide ((a, b) = ((1, 1) : Int × Int)))) := by
  rw [op_ne_of (by simp [pl, pls]) (by simp [pl, pls])]
  by_cases h1 : a = 1 <;> by_cases h2 : b = 1 <;> simp [eqv, eqvs, h1, h2]
theorem c_rules_of (K : K_rules_of pg) {b : Bk} {f1 : Fl} (h1 : f1.own = false) (hb : b.ok = true) :
    callL pg (n + 1) 125 none [(f1, eBk b)] = .ok ((.o, .lst ((rulesM b).map eSS)), [(f1, eBk b)]) := by
  rw [go K.s rfl rfl]
  simp_arith [h1]
  rw [ob_assoc]
  refine for_invB b.ks eK (fun pr e => ∃ u v w x y z q, e = [some (f1, eBk b), some (.o, .lst (((pr.map ruleRow).flatten).map eSS)), jk u, jk v, jk w, jk x, jk y, jk z, jk q]) rfl ⟨none, none, none, none, none, none, none, rfl⟩ ?_ ?_
  · rintro pr k po e e0 ⟨u, v, w, x, y, z, q, rfl⟩
    have l0 := rulesM_len hb pr (k :: po) e0
    have lk : ∀ zs : List SS, zs.length ≤ 3 → ((((pr.map ruleRow).flatten ++ zs)).map eSS).length < LINE := fun zs hz => by
      rw [List.length_map, List.length_append]
      exact lt_line (by omega)
    have l1 := lk [] (by simp)
    have l2 := fun a => lk [a] (by simp)
    have l3 := fun a c => lk [a, c] (by simp)
    rw [List.append_nil] at l1
    have e2 : ((pr ++ [k]).map ruleRow).flatten = (pr.map ruleRow).flatten ++ ruleRow k := by simp
    have e3 : ∀ r, D.tup [.str k.nm, .str r] = eSS (k.nm, r) := fun _ => rfl
    have a1 : ∀ (xs : List SS) (a c : SS), xs ++ [a] ++ [c] = xs ++ [a, c] := by simp
    have a2 : ∀ (xs : List SS) (a c d : SS), xs ++ [a, c] ++ [d] = xs ++ [a, c, d] := by simp
    refine ⟨_, .inl ?_, some (.str k.nm), some (.int k.most), some (eO k.parts), some (.bl k.joins), some (.bl k.opens), some (.str (S "parts")), some (.bl (hasParts k)), rfl⟩
    rw [e2]
    rcases hp : k.parts with _ | ⟨p1, p2⟩
    · have hh : hasParts k = false := by unfold hasParts; rw [hp]
      cases hj : k.joins <;> cases ho : k.opens <;> simp_arith [h1, eK, hp, hj, ho, eO, ruleRow, hh, l1, l2, l3, e3, a1, a2, map_snoc, List.append_nil, List.zip_cons_cons, List.zip_nil_right, List.zip_nil_left, List.map_cons, List.map_nil]
    · have hh : hasParts k = !decide ((p1, p2) = ((1, 1) : Int × Int)) := by unfold hasParts; rw [hp]
      rw [hh]
      cases hd : decide ((p1, p2) = ((1, 1) : Int × Int)) <;> rw [hd] at hh <;> cases hj : k.joins <;> cases ho : k.opens <;> simp_arith [h1, eK, hp, hj, ho, eO, ne_O11, hd, ruleRow, hh, l1, l2, l3, e3, a1, a2, map_snoc, List.append_nil, List.zip_cons_cons, List.zip_nil_right, List.zip_nil_left, List.map_cons, List.map_nil]
  · rintro e' ⟨u, v, w, x, y, z, q, rfl⟩
    simp_arith [h1, rulesM]
open Classical in
noncomputable def needM (b : Bk) : List SS := (rulesM b).filter fun p => decide (Same b (takenM b p.1 p.2))
theorem c_needless (K : K_needless_rules pg) {b : Bk} {f1 : Fl} (h1 : f1.own = false) (hb : b.ok = true) :
    callL pg (n + 6) 126 none [(f1, eBk b)] = .ok ((.o, .lst ((needM b).map eSS)), [(f1, eBk b)]) := by
  rw [go K.s rfl rfl]
  simp_arith [h1, c_check_book K.check_book (f1 := .f) (vd_bk hb), isB hb, c_rules_of K.rules_of (f1 := .f) own_f hb]
  classical
  rw [comp_filterE (rulesM b) eSS eSS (fun p => decide (Same b (takenM b p.1 p.2))) rfl]
  · simp_arith [h1, needM]
  · intro p hp
    obtain ⟨r, hr, e⟩ := c_parted2 K.parted (n := n + 1) (taken_two hb (x := p.1) (r := p.2)) (f1 := .f) (f2 := .f) own_f own_f
    have hs := part_none hr
    have ct := c_taken_back K.taken_back (n := n + 4) (x := p.1) (r := p.2) (f1 := .f) (f2 := .f) (f3 := .f) own_f own_f own_f hb
    have e2 : decide (Same b (takenM b p.1 p.2)) = r.isNone := by
      cases r <;> simp [hs]
    cases hn : r.isNone <;> simp_arith [h1, ct, e, hn, e2]
  · have := rulesM_len hb b.ks [] (by simp)
    exact le_line (by unfold rulesM; omega)
/-! #### books near by -/
theorem cut_to {α : Type} {xs : List α} {i : Nat} (h : i ≤ xs.length) : cut xs none (some (i : Int)) = xs.take i := by
  unfold cut sIx
  simp only [show ¬ ((i : Int) < 0) by omega, if_false, Int.toNat_natCast, Nat.min_eq_left h, List.drop_zero, Nat.sub_zero]
theorem cut_from {α : Type} {xs : List α} {i : Nat} (h : i ≤ xs.length) : cut xs (some (i : Int)) none = xs.drop i := by
  unfold cut sIx
  simp only [show ¬ ((i : Int) < 0) by omega, if_false, Int.toNat_natCast, Nat.min_eq_left h]
  rw [List.take_of_length_le (by rw [List.length_drop]; exact Nat.le_refl _)]
theorem two_set {b : Bk} (h : b.ok = true) {hh : Int} (h2 : 2 ≤ hh) (h6 : hh ≤ 6) {i : Nat} {k k' : Kd} (hi : b.ks[i]? = some k) (n1 : k'.nm = k.nm) (n2 : k'.most = k.most) (n3 : k'.ok = true) : Two b ⟨hh, b.ks.set i k'⟩ := by
  have hs : ∀ {α : Type} (f : Kd → α), f k' = f k → (b.ks.set i k').map f = b.ks.map f := fun f hf => by
    rw [List.map_set, hf]
    apply List.ext_getElem? fun j => ?_
    rw [List.getElem?_set]
    split
    · rename_i e
      subst e
      split
      · rw [List.getElem?_map, hi]; rfl
      · rename_i g
        rw [List.getElem?_eq_none (by omega)]
    · rfl
  refine ⟨h, ?_, ?_⟩
  · simp only [Bk.ok, Bool.and_eq_true, decide_eq_true_eq] at h ⊢
    rw [hs _ n1, hs _ n2, List.length_set]
    refine ⟨⟨⟨⟨⟨h2, h6⟩, h.1.1.1.2⟩, ?_⟩, h.1.2⟩, h.2⟩
    rw [List.all_eq_true]
    intro x hx
    rcases List.mem_or_eq_of_mem_set hx with hx | rfl
    · exact (List.all_eq_true.mp h.1.1.2) x hx
    · exact n3
  · unfold likeB
    exact (hs (fun k => (k.nm, k.most)) (by simp [n1, n2])).symm
theorem two_h {b : Bk} (h : b.ok = true) {hh : Int} (h2 : 2 ≤ hh) (h6 : hh ≤ 6) : Two b ⟨hh, b.ks⟩ := by
  have := Bk.ok_map h h2 h6 (g := id) (fun _ _ => rfl) (fun _ _ => rfl) (ok_ks h)
  rwa [List.map_id] at this
def nearParts : List (Option (Int × Int)) := [none, some (1, 1), some (2, 2), some (1, 3), some (2, 1)]
theorem c_near (K : K__law_near pg) {a b : Int} {bk : Bk} {f2 : Fl} (h2 : f2.own = false) (ha : 0 ≤ a) (hb : 0 ≤ b) (hk : bk.ok = true) :
    ∃ bk', Two bk bk' ∧ ∃ a' b' : Int, 0 ≤ a' ∧ 0 ≤ b' ∧ callL pg (n + 3) 68 none [(.p, eDr a b), (f2, eBk bk)] = .ok ((.f, eBk bk'), [(.p, eDr a' b'), (f2, eBk bk)]) := by
  have k1 : 1 ≤ bk.ks.length := List.length_pos_iff.mpr (Bk.ok.ne hk)
  have k3 := ks_len hk
  obtain ⟨r, a1, b1, ha1, hb1, r0, r1, d1⟩ := c_draw K._law_draw (n := n + 1) (many := (bk.ks.length : Int)) (f2 := .f) own_f ha hb (by omega) (by omega)
  obtain ⟨w, a2, b2, ha2, hb2, w0, w1, d2⟩ := c_draw K._law_draw (n := n + 1) (many := 4) (f2 := .f) own_f ha1 hb1 (by decide) (by decide)
  obtain ⟨i, rfl⟩ : ∃ i : Nat, r = i := ⟨r.toNat, by omega⟩
  have hi : i < bk.ks.length := by omega
  have hg : bk.ks[i]? = some bk.ks[i] := List.getElem?_eq_getElem hi
  generalize bk.ks[i] = k at hg
  have ko : k.ok = true := ok_ks hk k (List.mem_of_getElem? hg)
  have hg' : (bk.ks.map eK)[i]? = some (eK k) := by rw [List.getElem?_map, hg]; rfl
  have set : ∀ k' : Kd, bk.ks.set i k' = bk.ks.take i ++ k' :: bk.ks.drop (i + 1) := fun k' => List.set_eq_take_append_cons_drop ▸ by simp [hi]
  have ad : ∀ k' : Kd, op2 .add (.tup ((bk.ks.map eK).take i)) (.tup [eK k']) = some (false, .tup ((bk.ks.map eK).take i ++ [eK k'])) := fun k' => op_addt (by simp; omega)
  have ad2 : ∀ k' : Kd, op2 .add (.tup ((bk.ks.map eK).take i ++ [eK k'])) (.tup ((bk.ks.map eK).drop (i + 1))) = some (false, .tup ((bk.ks.set i k').map eK)) := fun k' => by
    rw [op_addt (by simp; omega), set]
    simp [List.map_take, List.map_drop]
  have ct : cut (bk.ks.map eK) none (some (i : Int)) = (bk.ks.map eK).take i := cut_to (by rw [List.length_map]; omega)
  have cf : cut (bk.ks.map eK) (some ((i : Int) + 1)) none = (bk.ks.map eK).drop (i + 1) := by
    have := cut_from (xs := bk.ks.map eK) (i := i + 1) (by rw [List.length_map]; omega)
    rwa [Int.natCast_add] at this
  have fold : ∀ p j o, D.tup [.str k.nm, .int k.most, eO p, .bl j, .bl o] = eK ⟨k.nm, k.most, p, j, o⟩ := fun _ _ _ => rfl
  have ek : eK k = .tup [.str k.nm, .int k.most, eO k.parts, .bl k.joins, .bl k.opens] := rfl
  have e1 : ((1 : Int) == 1) = true := rfl
  have e2 : ((2 : Int) == 2) = true := rfl
  by_cases w0' : w = 0
  · subst w0'
    obtain ⟨h, a3, b3, ha3, hb3, g0, g1, d3⟩ := c_draw K._law_draw (n := n + 1) (many := 5) (f2 := .f) own_f ha2 hb2 (by decide) (by decide)
    refine ⟨⟨2 + h, bk.ks⟩, two_h hk (by omega) (by omega), a3, b3, ha3, hb3, ?_⟩
    rw [go K.s rfl rfl]
    have e0 : ((0 : Int) == 0) = true := rfl
    simp_arith [h2, eBk, List.length_map, d1, d2, e0, d3]
  · have e0 : (w == 0) = false := by rw [beq_eq_false_iff_ne]; exact w0'
    by_cases w1' : w = 1
    · subst w1'
      obtain ⟨d, hd, a3, b3, ha3, hb3, d3⟩ := c_of K._law_of (n := n) (ds := nearParts.map eO) (f2 := .o) ha2 hb2 (by simp [nearParts]) (by simp [nearParts]) (by decide)
      obtain ⟨p, hp, rfl⟩ := List.mem_map.mp hd
      refine ⟨⟨bk.h, bk.ks.set i ⟨k.nm, k.most, p, k.joins, k.opens⟩⟩, two_set hk (ok_h hk).1 (ok_h hk).2 hg rfl rfl ?_, a3, b3, ha3, hb3, ?_⟩
      · simp only [Kd.ok, Bool.and_eq_true] at ko ⊢
        refine ⟨ko.1, ?_⟩
        have : ∀ p ∈ nearParts, partsOk p = true := by decide
        exact this p hp
      · have nl : nearParts.map eO = [.non, .tup [.int 1, .int 1], .tup [.int 2, .int 2], .tup [.int 1, .int 3], .tup [.int 2, .int 1]] := rfl
        rw [nl] at d3
        rw [go K.s rfl rfl]
        simp_arith [h2, eBk, List.length_map, d1, d2, e0, e1, op_tupi hg', ek, d3]
        simp_arith [fold, ct, ad, cf, ad2]
    · have w1 : (w == 1) = false := by rw [beq_eq_false_iff_ne]; exact w1'
      by_cases w2' : w = 2
      · subst w2'
        refine ⟨⟨bk.h, bk.ks.set i ⟨k.nm, k.most, k.parts, !k.joins, k.opens⟩⟩, two_set hk (ok_h hk).1 (ok_h hk).2 hg rfl rfl ko, a2, b2, ha2, hb2, ?_⟩
        rw [go K.s rfl rfl]
        simp_arith [h2, eBk, List.length_map, d1, d2, e0, w1, op_tupi hg', ek]
        simp_arith [fold, ct, ad, cf, ad2]
      · have w2 : (w == 2) = false := by rw [beq_eq_false_iff_ne]; exact w2'
        have w3 : (w == 3) = true := by rw [beq_iff_eq]; omega
        refine ⟨⟨bk.h, bk.ks.set i ⟨k.nm, k.most, k.parts, k.joins, !k.opens⟩⟩, two_set hk (ok_h hk).1 (ok_h hk).2 hg rfl rfl ko, a2, b2, ha2, hb2, ?_⟩
        rw [go K.s rfl rfl]
        simp_arith [h2, eBk, List.length_map, d1, d2, e0, w1, w2, w3, op_tupi hg', ek]
        simp_arith [fold, ct, ad, cf, ad2]
end
end MP.Q
/-! PT2: pages told by where they end. -/
namespace MP.Q
open PySem (Str)
set_option maxRecDepth 100000
local macro_rules
  | `(tactic| simp_arith [$xs:simpLemma,*]) => `(tactic| simp -implicitDefEqProofs only [AV.rd, En.frz, AV.use, rds, uses, passA, lent, backA, setV, bindV, takes, bindOs, Tg.set, Tg.sets, seqOf, seqLT, Out.bool, wipe, ownAt, kTup, kLst, kDct, kOp, kCmp, kBi, rcv, isDct, kSlc, kPart, kNot, kCall, kGet2, kUse, kInt, kSeq, kEnu, kZip, kItems, kTurn, kPar, kSub, kApp, isLst, kExt, kRet, outsOf, u_qTup, u_qLst, u_qDct2, u_qDct1, u_qOp2, u_qOp1, u_qCh3, u_qCh2, u_qCh1, u_qBi, u_qMth2, u_qMth1, u_qSl3, u_qSl2, u_qSl1, u_qNotP, u_qTst, u_qAnd2, u_qAnd1, u_qOr2, u_qOr1, u_qNot2, u_qNot1, u_qIte2, u_qIte1, u_qCall, u_qG3, u_qG2, u_qG1, u_qCmE, u_qEs2, u_qEs1, u_qBool, u_qPart, u_qSq2, u_qSq1, u_qR2, u_qR1, u_qR6, u_qR5, u_qR4, u_qR3, u_qEn2, u_qEn1, u_qZ4, u_qZ3, u_qZ2, u_qZ1, u_qI2, u_qI1, u_qNx, u_qAsg, u_qPar, u_qU2, u_qU1, u_qS2, u_qS1, u_qDr, u_qApp, u_qExt, u_qIf, u_qRet, canSet_eq, cs_n, cs_f, cs_o, cs_jk, jk_none, jk_some, kFor, turnS, kComp, at_z, at_s, st_z, st_s, ln_c, ln_n, ob_ok, ob_exn, nx_ok, own_o, own_p, own_f, own_q, frz_o, frz_p, frz_f, frz_q, ev_var, ev_cst, ev_tup, ev_lst, ev_dct, ev_op, ev_chain, ev_bi, ev_mth, ev_slc, ev_and, ev_or, ev_not, ev_ite, ev_call, ev_pop, ev_pop0, ev_get2, ev_comp, es_nil, es_cons, ec_nil, ec_cons, ep_nil, ep_cons, ei_seq, ei_rng1, ei_rng2, ei_enu, ei_zip, ei_items, et_eq, ss_nil, ss_cons, s_asg, s_par, s_unp, s_sub, s_drop, s_app, s_ext, s_ifs, s_whl, s_for, s_ret, s_retN, s_raise, s_pass, s_brk, s_cnt, kn_nx, kn_rt, kn_bk, kn_ct, env1, kRun, nn_non, nn_bl, nn_int, nn_str, nn_tup, nn_lst, op_isn_non, op_notn_non, op_addi, op_subi, op_lti, op_lei, op_gti, op_gei, op_eqi, op_nei, op_eqs, op_nes, op_tup0, op_tup1, op_tup2, op_tup3, op_tup4, bi_min2, bi_max2, bi_int, bi_intb, bi_neg, bi_lent, bi_lenl, bi_tupl, bi_tupt, bi_listl, bi_listt, fn_true, tt_true, cutD_l, cutD_t, op_lts, un_nil, un_cons, nc0, nc1, nc2, nc3, nc4, nc5, turnF_eq, ix_bk0, ix_bk1, ix_k0, ix_k1, ix_k2, ix_k3, ix_k4, nn_k, nn_bk, nn_O, ix_b0, ix_b1, op_lst0, op_lst1, bi_lenf, ix_fd0, ix_fd1, ix_fd2, ix_fd3, ix_s0, ix_s1, ix_p0, ix_p1, nn_R, kfc_nx, kfc_ct, kfc_bk, kfc_rt, forS_nil, forS_cons, ix_ss0, ix_ss1, env1.nones, Option.isSome_some, Option.isSome_none, ite_true, ite_false, Option.map_some, Option.map_none, Option.getD_some, List.nodup_nil, List.nodup_cons, List.not_mem_nil, not_false_eq_true, true_and, List.isEmpty_nil, id, List.nil_append, List.cons_append, Bool.true_and, Bool.and_true, ↓reduceIte, Nat.reduceSub, Nat.reduceAdd, Nat.reduceLT, Nat.reduceLeDiff, Nat.reduceEqDiff, List.mem_cons, or_false, false_or, and_self, and_true, false_and, and_false, Int.reduceBEq, Int.reduceLE, Int.reduceLT, decide_true, decide_false, decide_eq_true_eq, Bool.not_eq_true', decide_eq_false_iff_not, Bool.not_true, Bool.not_false, Bool.and_eq_true, Bool.or_eq_true, Bool.false_eq_true, Bool.true_eq_false, $xs,*])
theorem eqvs_enc {α : Type} [DecidableEq α] {e : α → D} (he : ∀ a b, eqv (e a) (e b) = decide (a = b)) : ∀ {xs ys : List α}, eqvs (xs.map e) (ys.map e) = decide (xs = ys)
  | [], [] => by simp [eqvs]
  | [], y :: ys => by simp [eqvs]
  | x :: xs, [] => by simp [eqvs]
  | x :: xs, y :: ys => by
    simp only [List.map_cons, eqvs, eqvs_enc he, he, List.cons.injEq]
    by_cases h1 : x = y <;> by_cases h2 : xs = ys <;> simp [h1, h2]
theorem eqv_row {a b : List (Int × Int)} : eqv (eRow a) (eRow b) = decide (a = b) := by
  unfold eRow
  rw [eqv]
  exact eqvs_enc fun _ _ => eqv_S
theorem eqv_rows {a b : List (List (Int × Int))} : eqv (.lst (a.map eRow)) (.lst (b.map eRow)) = decide (a = b) := by
  rw [eqv]
  exact eqvs_enc fun _ _ => eqv_row
theorem pl_rows {a : List (List (Int × Int))} {k : Nat} : pl (.lst (a.map eRow)) (k + 3) = true := pl_lst fun _ _ => by unfold eRow; exact pl_tup fun _ _ => pl_eS
theorem endsOf_snoc {b : Bk} {d : List Blk} {l : Blk} : endsOf b (d ++ [l]) = ((endsOf b d).1 ++ (fill b (standFrom b (0, 0) d) l).ct.map ((endsOf b d).2 + ·), (endsOf b d).2 + l.2) := by
  unfold endsOf
  rw [stepsFrom_snoc, List.zip_append (stepsFrom_len d (0, 0)), List.foldl_append]
  rfl
theorem eN_int {i : Nat} : eN i = .int i := by
  unfold eN
  congr 1
  omega
theorem rsnoc {α : Type} {P : List α → Prop} (h0 : P []) (h1 : ∀ xs x, P xs → P (xs ++ [x])) (xs : List α) : P xs := by
  have : ∀ ys : List α, P ys.reverse := fun ys => by
    induction ys with
    | nil => exact h0
    | cons y ys ih => rw [List.reverse_cons]; exact h1 _ _ ih
  have := this xs.reverse
  rwa [List.reverse_reverse] at this
section
variable {one other : Bk}
theorem ends_same (x : List Blk) (h : ∀ y l z, x = y ++ l :: z → badP one other (runP one other y) l = false) : endsOf one x = endsOf other x := by
  induction x using rsnoc with
  | h0 => rfl
  | h1 xs l ih =>
    have e := ih fun y k z hz => h y k (z ++ [l]) (by rw [hz]; simp)
    have hb := h xs l [] (by simp)
    rw [endsOf_snoc, endsOf_snoc, e]
    simp only [badP, runP, Bool.not_eq_false'] at hb
    have hb := of_decide_eq_true hb
    rw [hb]
theorem pages_same {x : List Blk} (h : ∀ y l z, x = y ++ l :: z → badP one other (runP one other y) l = false) : pagesM one x = pagesM other x := by
  unfold pagesM allEnds
  rw [ends_same x h]
theorem chain_det {h1 h2 : Int} : ∀ {ct1 bl1 ct2 bl2 : List Int} {p q1 q2 : Int}, chain h1 p ct1 bl1 q1 → chain h2 p ct2 bl2 q2 → bl1.map (h1 - ·) = bl2.map (h2 - ·) → ct1 = ct2
  | [], [], [], [], _, _, _, _, _, _ => rfl
  | c :: ct1, b :: bl1, c' :: ct2, b' :: bl2, p, q1, q2, k1, k2, e => by
    simp only [List.map_cons, List.cons.injEq] at e
    have : c = c' := by have := k1.2.1; have := k2.2.1; omega
    subst this
    rw [chain_det k1.2.2.2 k2.2.2.2 e.2]
  | [], [], _ :: _, _ :: _, _, _, _, _, _, e => by cases e
  | _ :: _, _ :: _, [], [], _, _, _, _, _, e => by cases e
  | [], _ :: _, _, _, _, _, _, k, _, _ => k.elim
  | _ :: _, [], _, _, _, _, _, k, _, _ => k.elim
  | _, _, [], _ :: _, _, _, _, _, k, _ => by cases k
  | _, _, _ :: _, [], _, _, _, _, k, _ => by cases k
theorem ends_of_pages (o1 : one.fit) (o2 : other.fit) {x : List Blk} (x1 : ∀ l ∈ x, blkOk one l = true) (x2 : ∀ l ∈ x, blkOk other l = true) (h : pagesM one x = pagesM other x) : (endsOf one x).1 = (endsOf other x).1 := by
  have p1 := (pages_ok o1 x1).full
  have p2 := (pages_ok o2 x2).full
  by_cases h0 : x = []
  · rw [h0]; rfl
  · rw [if_neg h0] at p1 p2
    rw [h, p2] at p1
    have := (List.append_inj' p1 rfl).1
    exact chain_det (endsOf_chain o1 x1).1 (endsOf_chain o2 x2).1 this.symm
theorem pages_differ (o1 : one.fit) (o2 : other.fit) {d : List Blk} {l : Blk} (x1 : ∀ x ∈ d ++ [l], blkOk one x = true) (x2 : ∀ x ∈ d ++ [l], blkOk other x = true) (hs : endsOf one d = endsOf other d) (hb : badP one other (runP one other d) l = true) : pagesM one (d ++ [l]) ≠ pagesM other (d ++ [l]) := fun h => by
  have e := ends_of_pages o1 o2 x1 x2 h
  rw [endsOf_snoc, endsOf_snoc, hs] at e
  simp only at e
  have e := (List.append_inj_right e rfl)
  have e : (fill one (standFrom one (0, 0) d) l).ct = (fill other (standFrom other (0, 0) d) l).ct := (List.map_inj_right (fun a b hab => by omega)).mp e
  simp only [badP, runP, e] at hb
  simp at hb
/-- what the first one apart tells of pages -/
theorem part_some (t : Two one other) {w : List Blk} (h : PartR one other (some w)) : (∀ x ∈ w, x ∈ allBlocks one) ∧ w ≠ [] ∧ w.length ≤ 5000 ∧ pagesM one w ≠ pagesM other w ∧ ∀ x : List Blk, x.length < w.length → (∀ y ∈ x, y ∈ allBlocks one) → pagesM one x = pagesM other x := by
  obtain ⟨d, l, rfl, hw, hb, hl, few⟩ := h
  have sm : ∀ x : List Blk, x.length < (d ++ [l]).length → (∀ y ∈ x, y ∈ allBlocks one) → ∀ y k z, x = y ++ k :: z → badP one other (runP one other y) k = false := fun x hx ha y k z e => by
    refine few y ?_ (fun q hq => ha q (by rw [e]; simp [hq])) k (ha k (by rw [e]; simp))
    have := congrArg List.length e
    simp at this hx
    omega
  refine ⟨hw, by simp, hl, ?_, fun x hx ha => pages_same (sm x hx ha)⟩
  exact pages_differ (Bk.ok.fit t.o1) (Bk.ok.fit t.o2) (fun x hx => t.b1 x (hw x hx)) (fun x hx => t.b2 x (hw x hx)) (ends_same d (sm d (by simp) (fun y hy => hw y (by simp [hy])))) hb
theorem part_no (h : PartR one other none) {x : List Blk} (ha : ∀ y ∈ x, y ∈ allBlocks one) : pagesM one x = pagesM other x :=
  pages_same fun y l z e => h y (fun q hq => ha q (by rw [e]; simp [hq])) l (ha l (by rw [e]; simp))
end
end MP.Q
/-! PL18: the plain law of k18. -/
namespace MP.Q
open PySem (Str)
set_option maxRecDepth 100000
local macro_rules
  | `(tactic| simp_arith [$xs:simpLemma,*]) => `(tactic| simp -implicitDefEqProofs only [AV.rd, En.frz, AV.use, rds, uses, passA, lent, backA, setV, bindV, takes, bindOs, Tg.set, Tg.sets, seqOf, seqLT, Out.bool, wipe, ownAt, kTup, kLst, kDct, kOp, kCmp, kBi, rcv, isDct, kSlc, kPart, kNot, kCall, kGet2, kUse, kInt, kSeq, kEnu, kZip, kItems, kTurn, kPar, kSub, kApp, isLst, kExt, kRet, outsOf, u_qTup, u_qLst, u_qDct2, u_qDct1, u_qOp2, u_qOp1, u_qCh3, u_qCh2, u_qCh1, u_qBi, u_qMth2, u_qMth1, u_qSl3, u_qSl2, u_qSl1, u_qNotP, u_qTst, u_qAnd2, u_qAnd1, u_qOr2, u_qOr1, u_qNot2, u_qNot1, u_qIte2, u_qIte1, u_qCall, u_qG3, u_qG2, u_qG1, u_qCmE, u_qEs2, u_qEs1, u_qBool, u_qPart, u_qSq2, u_qSq1, u_qR2, u_qR1, u_qR6, u_qR5, u_qR4, u_qR3, u_qEn2, u_qEn1, u_qZ4, u_qZ3, u_qZ2, u_qZ1, u_qI2, u_qI1, u_qNx, u_qAsg, u_qPar, u_qU2, u_qU1, u_qS2, u_qS1, u_qDr, u_qApp, u_qExt, u_qIf, u_qRet, canSet_eq, cs_n, cs_f, cs_o, cs_jk, jk_none, jk_some, kFor, turnS, kComp, at_z, at_s, st_z, st_s, ln_c, ln_n, ob_ok, ob_exn, nx_ok, own_o, own_p, own_f, own_q, frz_o, frz_p, frz_f, frz_q, ev_var, ev_cst, ev_tup, ev_lst, ev_dct, ev_op, ev_chain, ev_bi, ev_mth, ev_slc, ev_and, ev_or, ev_not, ev_ite, ev_call, ev_pop, ev_pop0, ev_get2, ev_comp, es_nil, es_cons, ec_nil, ec_cons, ep_nil, ep_cons, ei_seq, ei_rng1, ei_rng2, ei_enu, ei_zip, ei_items, et_eq, ss_nil, ss_cons, s_asg, s_par, s_unp, s_sub, s_drop, s_app, s_ext, s_ifs, s_whl, s_for, s_ret, s_retN, s_raise, s_pass, s_brk, s_cnt, kn_nx, kn_rt, kn_bk, kn_ct, env1, kRun, nn_non, nn_bl, nn_int, nn_str, nn_tup, nn_lst, op_isn_non, op_notn_non, op_addi, op_subi, op_lti, op_lei, op_gti, op_gei, op_eqi, op_nei, op_eqs, op_nes, op_tup0, op_tup1, op_tup2, op_tup3, op_tup4, bi_min2, bi_max2, bi_int, bi_intb, bi_neg, bi_lent, bi_lenl, bi_tupl, bi_tupt, bi_listl, bi_listt, fn_true, tt_true, cutD_l, cutD_t, op_lts, un_nil, un_cons, nc0, nc1, nc2, nc3, nc4, nc5, turnF_eq, ix_bk0, ix_bk1, ix_k0, ix_k1, ix_k2, ix_k3, ix_k4, nn_k, nn_bk, nn_O, ix_b0, ix_b1, op_lst0, op_lst1, bi_lenf, ix_fd0, ix_fd1, ix_fd2, ix_fd3, ix_s0, ix_s1, ix_p0, ix_p1, nn_R, kfc_nx, kfc_ct, kfc_bk, kfc_rt, forS_nil, forS_cons, ix_ss0, ix_ss1, env1.nones, Option.isSome_some, Option.isSome_none, ite_true, ite_false, Option.map_some, Option.map_none, Option.getD_some, List.nodup_nil, List.nodup_cons, List.not_mem_nil, not_false_eq_true, true_and, List.isEmpty_nil, id, List.nil_append, List.cons_append, Bool.true_and, Bool.and_true, ↓reduceIte, Nat.reduceSub, Nat.reduceAdd, Nat.reduceLT, Nat.reduceLeDiff, Nat.reduceEqDiff, List.mem_cons, or_false, false_or, and_self, and_true, false_and, and_false, Int.reduceBEq, Int.reduceLE, Int.reduceLT, decide_true, decide_false, decide_eq_true_eq, Bool.not_eq_true', decide_eq_false_iff_not, Bool.not_true, Bool.not_false, Bool.and_eq_true, Bool.or_eq_true, Bool.false_eq_true, Bool.true_eq_false, $xs,*])
set_option maxHeartbeats 1000000
section
variable {pg : Nat → Option Df} {n : Nat}
theorem sub5_2 {a b c d e v : D} : subD (.lst [a, b, c, d, e]) (.int 2) v = some (.lst [a, b, v, d, e]) := rfl
theorem sub5_3 {a b c d e v : D} : subD (.lst [a, b, c, d, e]) (.int 3) v = some (.lst [a, b, c, v, e]) := rfl
theorem sub5_4 {a b c d e v : D} : subD (.lst [a, b, c, d, e]) (.int 4) v = some (.lst [a, b, c, d, v]) := rfl
theorem ix3_0 : bi .index [.lst [.str (S "parts"), .str (S "joins"), .str (S "opens")], .str (S "parts")] = some (false, .int 0) := by
  have e : [S "parts", S "joins", S "opens"].findIdx? (fun y => y == S "parts") = some 0 := by decide +kernel
  simp only [bi, strsD, Option.map_some, e]
  rfl
theorem ix3_1 : bi .index [.lst [.str (S "parts"), .str (S "joins"), .str (S "opens")], .str (S "joins")] = some (false, .int 1) := by
  have e : [S "parts", S "joins", S "opens"].findIdx? (fun y => y == S "joins") = some 1 := by decide +kernel
  simp only [bi, strsD, Option.map_some, e]
  rfl
theorem ix3_2 : bi .index [.lst [.str (S "parts"), .str (S "joins"), .str (S "opens")], .str (S "opens")] = some (false, .int 2) := by
  have e : [S "parts", S "joins", S "opens"].findIdx? (fun y => y == S "opens") = some 2 := by decide +kernel
  simp only [bi, strsD, Option.map_some, e]
  rfl
theorem sne : (S "joins" == S "parts") = false ∧ (S "opens" == S "parts") = false ∧ (S "parts" == S "joins") = false ∧ (S "opens" == S "joins") = false ∧ (S "parts" == S "opens") = false ∧ (S "joins" == S "opens") = false := by decide +kernel
theorem c_law_taken (K : K__law_taken pg) {b : Bk} {x r : Str} {f1 f2 f3 : Fl} (h1 : f1.own = false) (h2 : f2.own = false) (h3 : f3.own = false) (hb : b.ok = true) (hr : r = S "parts" ∨ r = S "joins" ∨ r = S "opens") :
    callL pg (n + 1) 131 none [(f1, eBk b), (f2, .str x), (f3, .str r)] = .ok ((.f, eBk (takenM b x r)), [(f1, eBk b), (f2, .str x), (f3, .str r)]) := by
  obtain ⟨s1, s2, s3, s4, s5, s6⟩ := sne
  rw [go K.s rfl rfl]
  simp_arith [h1, h2, h3]
  rw [ob_assoc]
  refine for_invB b.ks eK (fun pr e => ∃ u v w, cs v = true ∧ e = [some (f1, eBk b), some (f2, .str x), some (f3, .str r), some (.o, .lst ((pr.map (tbKd x r)).map eK)), jk u, v, jk w]) rfl ⟨none, none, none, rfl, rfl⟩ ?_ ?_
  · rintro pr k po e e0 ⟨u, v, w, cv, rfl⟩
    have lk : ((pr.map (tbKd x r)).map eK).length < LINE := by
      have h3 := ks_len hb
      rw [e0, List.length_append] at h3
      rw [List.length_map, List.length_map]
      exact lt_line (by omega)
    have e2 : (pr ++ [k]).map (tbKd x r) = pr.map (tbKd x r) ++ [tbKd x r k] := by simp
    have ek : eK k = .tup [.str k.nm, .int k.most, eO k.parts, .bl k.joins, .bl k.opens] := rfl
    have fold : ∀ p j o, D.tup [.str k.nm, .int k.most, eO p, .bl j, .bl o] = eK ⟨k.nm, k.most, p, j, o⟩ := fun _ _ _ => rfl
    have o1 : D.tup [.int 1, .int 1] = eO (some (1, 1)) := rfl
    by_cases hx : (k.nm == x) = true
    · have e1 : tbKd x r k = ⟨k.nm, k.most, if r == S "parts" then some (1, 1) else k.parts, k.joins && !(r == S "joins"), k.opens && !(r == S "opens")⟩ := by unfold tbKd; rw [if_pos hx]
      rcases hr with rfl | rfl | rfl
      · refine ⟨_, .inl ?_, some (eK k), _, some (.int 2), (?_ : cs (some (.o, .lst [.str k.nm, .int k.most, .tup [.int 1, .int 1], .bl k.joins, .bl k.opens])) = true), rfl⟩
        · have e1 : tbKd x (S "parts") k = ⟨k.nm, k.most, some (1, 1), k.joins, k.opens⟩ := by rw [e1]; simp [s1, s2, s3, s5]
          simp_arith [h1, h2, h3, hx, ek, sub5_2, ix3_0, s1, s2, s3, s4, s5, s6, lk, cv, beq_self_eq_true, Int.reduceAdd]
          simp_arith [o1, fold, e2, e1, map_snoc]
        · rfl
      · refine ⟨_, .inl ?_, some (eK k), _, some (.int 3), (?_ : cs (some (.o, .lst [.str k.nm, .int k.most, eO k.parts, .bl false, .bl k.opens])) = true), rfl⟩
        · have e1 : tbKd x (S "joins") k = ⟨k.nm, k.most, k.parts, false, k.opens⟩ := by rw [e1]; simp [s1, s2, s3, s6]
          simp_arith [h1, h2, h3, hx, ek, sub5_3, ix3_1, s1, s2, s3, s4, s5, s6, lk, cv, beq_self_eq_true, Int.reduceAdd]
          simp_arith [fold, e2, e1, map_snoc]
        · rfl
      · refine ⟨_, .inl ?_, some (eK k), _, some (.int 4), (?_ : cs (some (.o, .lst [.str k.nm, .int k.most, eO k.parts, .bl k.joins, .bl false])) = true), rfl⟩
        · have e1 : tbKd x (S "opens") k = ⟨k.nm, k.most, k.parts, k.joins, false⟩ := by rw [e1]; simp [s1, s2, s3, s4]
          simp_arith [h1, h2, h3, hx, ek, sub5_4, ix3_2, s1, s2, s3, s4, s5, s6, lk, cv, beq_self_eq_true, Int.reduceAdd]
          simp_arith [fold, e2, e1, map_snoc]
        · rfl
    · have hx : (k.nm == x) = false := by simpa using hx
      have e1 : tbKd x r k = k := by unfold tbKd; rw [hx]; rfl
      refine ⟨_, .inl ?_, some (eK k), _, w, (?_ : cs (some (.o, .lst [.str k.nm, .int k.most, eO k.parts, .bl k.joins, .bl k.opens])) = true), rfl⟩
      · simp_arith [h1, h2, h3, hx, lk, ek, cv]
        simp_arith [fold, e2, e1, map_snoc]
      · rfl
  · rintro e' ⟨u, v, w, cv, rfl⟩
    simp_arith [h1, h2, h3, takenM, eBk]
theorem op_neb {a b : Bool} : op2 .ne (.bl a) (.bl b) = some (false, .bl (!(a == b))) := by simp [op2, pl, eqv]
theorem ne_rows {a b : List (List (Int × Int))} (h : a = b) : op2 .ne (.lst (a.map eRow)) (.lst (b.map eRow)) = some (false, .bl false) := by rw [h]; exact op_ne_self pl_rows
theorem eq_rows {a b : List (List (Int × Int))} (h : a ≠ b) : op2 .eq (.lst (a.map eRow)) (.lst (b.map eRow)) = some (false, .bl false) := by rw [op_eq_of pl_rows pl_rows, eqv_rows, decide_eq_false h]
theorem docs18 (K : K_law_k18 pg) {ns : List Int} {k : Nat} {a b : Int} {one other : Bk} {told : Option (List Blk)} {x4 x5 x6 x9 x10 : Option SV} (t : Two one other)
    (ha : 0 ≤ a) (hb : 0 ≤ b) (h9 : cs x9 = true) (h10 : cs x10 = true) (hw : ∀ w, told = some w → 1 ≤ w.length ∧ w.length ≤ 5000)
    (hp : ∀ x : List Blk, ((x.length : Int) ≤ match told with | none => 40 | some w => (w.length : Int) - 1) → (∀ y ∈ x, y ∈ allBlocks one) → pagesM one x = pagesM other x) :
    ∃ (a' b' : Int) (y9 y10 : Option SV), 0 ≤ a' ∧ 0 ≤ b' ∧ cs y9 = true ∧ cs y10 = true ∧
      forS (fun g us => callL pg (n + 7) g none us) (fun g l us => callL pg (n + 7) g (some l) us) none (.nm 9) (((((t_law_k18.body.getS 0).forB.getS 4).forB).getS 4).forB) (rng 0 4)
        [some (.f, .fls ns), some (.f, eN k), some (.o, eDr a b), some (.f, eBk one), x4, x5, x6, some (.f, eBk other), some (.f, eR told), x9, x10] =
      .ok (.nx, [some (.f, .fls ns), some (.f, eN k), some (.o, eDr a' b'), some (.f, eBk one), x4, x5, x6, some (.f, eBk other), some (.f, eR told), y9, y10]) := by
  obtain ⟨e', hl, a2, b2, y9, y10, q1, q2, q3, q4, rfl⟩ := for_rangeX (cf := fun g us => callL pg (n + 7) g none us) (cl := fun g l us => callL pg (n + 7) g (some l) us) (lf := none) (tg := .nm 9) (b := (((((t_law_k18.body.getS 0).forB.getS 4).forB).getS 4).forB)) (ds := rng 0 4)
    (env := [some (.f, .fls ns), some (.f, eN k), some (.o, eDr a b), some (.f, eBk one), x4, x5, x6, some (.f, eBk other), some (.f, eR told), x9, x10]) 4 eN
    (fun _ e => ∃ (a b : Int) (y9 y10 : Option SV), 0 ≤ a ∧ 0 ≤ b ∧ cs y9 = true ∧ cs y10 = true ∧ e = [some (.f, .fls ns), some (.f, eN k), some (.o, eDr a b), some (.f, eBk one), x4, x5, x6, some (.f, eBk other), some (.f, eR told), y9, y10]) (rng_n rfl)
    ⟨a, b, x9, x10, ha, hb, h9, h10, rfl⟩ (by
      rintro i e hi ⟨a, b, y9, y10, ha, hb, h9, h10, rfl⟩
      cases told with
      | none =>
        obtain ⟨doc, hd, dl, a1, b1, ha1, hb1, d1⟩ := c_document K._law_document (n := n + 4) (f2 := .f) (f3 := .f) (most := 40) own_f own_f ha hb t.o1 (by decide) (by decide)
        have pe := hp doc dl hd
        have e1 := c_pages K.pages (n := n + 1) (f1 := .f) (f2 := .f) own_f own_f t.o1 (fun l hl => t.b1 l (hd l hl)) (by omega)
        have e2 := c_pages K.pages (n := n + 1) (f1 := .f) (f2 := .f) own_f own_f t.o2 (fun l hl => t.b2 l (hd l hl)) (by omega)
        refine ⟨_, .inl ?_, a1, b1, some (.f, eN i), some (.f, eDoc doc), ha1, hb1, rfl, rfl, rfl⟩
        simp_arith [t_law_k18, Sms.getS, Sm.forB, h9, h10, d1, e1, e2, ne_rows pe, Option.isNone_none]
      | some w =>
        obtain ⟨w1, w2⟩ := hw w rfl
        obtain ⟨doc, hd, dl, a1, b1, ha1, hb1, d1⟩ := c_document K._law_document (n := n + 4) (f2 := .f) (f3 := .f) (most := (w.length : Int) - 1) own_f own_f ha hb t.o1 (by omega) (by omega)
        have pe := hp doc dl hd
        have e1 := c_pages K.pages (n := n + 1) (f1 := .f) (f2 := .f) own_f own_f t.o1 (fun l hl => t.b1 l (hd l hl)) (by omega)
        have e2 := c_pages K.pages (n := n + 1) (f1 := .f) (f2 := .f) own_f own_f t.o2 (fun l hl => t.b2 l (hd l hl)) (by omega)
        refine ⟨_, .inl ?_, a1, b1, some (.f, eN i), some (.f, eDoc doc), ha1, hb1, rfl, rfl, rfl⟩
        simp_arith [t_law_k18, Sms.getS, Sm.forB, h9, h10, Option.isNone_some]
        simp_arith [eR, List.length_map, h9, h10, d1, e1, e2, ne_rows pe])
  exact ⟨a2, b2, y9, y10, q1, q2, q3, q4, hl⟩
theorem need_mem {b : Bk} {p : SS} (h : p ∈ needM b) : Same b (takenM b p.1 p.2) ∧ (p.2 = S "parts" ∨ p.2 = S "joins" ∨ p.2 = S "opens") := by
  classical
  unfold needM at h
  rw [List.mem_filter, decide_eq_true_eq] at h
  refine ⟨h.2, ?_⟩
  have h := h.1
  unfold rulesM at h
  rw [List.mem_flatten] at h
  obtain ⟨l, hl, hp⟩ := h
  obtain ⟨k, _, rfl⟩ := List.mem_map.mp hl
  unfold ruleRow at hp
  cases k.joins <;> cases k.opens <;> cases hasParts k <;> simp at hp <;> rcases hp with ⟨_, rfl⟩ | ⟨_, rfl⟩ | ⟨_, rfl⟩ <;> simp
theorem need_len {b : Bk} (hb : b.ok = true) : (needM b).length ≤ 9 := by
  have := rulesM_len hb b.ks [] (by simp)
  unfold needM
  exact Nat.le_trans (List.length_filter_le ..) (by unfold rulesM; exact this)
theorem other18 (K : K_law_k18 pg) {ns : List Int} {k : Nat} {a b : Int} {one other : Bk} {x4 x5 x6 x7 x8 x9 x10 : Option SV} (t : Two one other)
    (ha : 0 ≤ a) (hb : 0 ≤ b) (h7 : cs x7 = true) (h8 : cs x8 = true) (h9 : cs x9 = true) (h10 : cs x10 = true) :
    ∃ (a' b' : Int) (y8 y9 y10 : Option SV), 0 ≤ a' ∧ 0 ≤ b' ∧ cs y8 = true ∧ cs y9 = true ∧ cs y10 = true ∧
      turnF (fun g us => callL pg (n + 7) g none us) (fun g l us => callL pg (n + 7) g (some l) us) none (.nm 7) ((((t_law_k18.body.getS 0).forB.getS 4).forB))
        [some (.f, .fls ns), some (.f, eN k), some (.o, eDr a b), some (.f, eBk one), x4, x5, x6, x7, x8, x9, x10] (eBk other) =
      .ok (.nx, [some (.f, .fls ns), some (.f, eN k), some (.o, eDr a' b'), some (.f, eBk one), x4, x5, x6, some (.f, eBk other), y8, y9, y10]) := by
  obtain ⟨r, hr, e1⟩ := c_parting K.parting_document (n := n) t (f1 := .f) (f2 := .f) own_f own_f
  obtain ⟨r', hr', e2⟩ := c_are_alike K.are_alike (n := n) t (f1 := .f) (f2 := .f) own_f own_f
  have er : r'.isNone = r.isNone := by
    have h1 := part_none hr
    have h2 := part_none hr'
    cases r <;> cases r' <;> simp_all
  have i4 : inRng 4 = true := by decide
  cases r with
  | none =>
    obtain ⟨a', b', y9, y10, ha', hb', q9, q10, hf⟩ := docs18 (n := n) K (ns := ns) (k := k) (told := none) (x4 := x4) (x5 := x5) (x6 := x6) t ha hb h9 h10 (by simp) (fun x _ hx => part_no hr hx)
    simp only [t_law_k18, Sms.getS, Sm.forB] at hf
    refine ⟨a', b', _, y9, y10, ha', hb', (?_ : cs (some (.f, eR none)) = true), q9, q10, ?_⟩
    · rfl
    · simp_arith [t_law_k18, Sms.getS, Sm.forB, h7, h8, e1, e2, er, op_neb, Option.isNone_none, beq_self_eq_true, i4, hf]
  | some w =>
    obtain ⟨w1, w2, w3, w4, w5⟩ := part_some t hr
    have wp : 0 < w.length := List.length_pos_iff.mpr w2
    obtain ⟨a', b', y9, y10, ha', hb', q9, q10, hf⟩ := docs18 (n := n) K (ns := ns) (k := k) (told := some w) (x4 := x4) (x5 := x5) (x6 := x6) t ha hb h9 h10 (fun v hv => by cases hv; omega) (fun x hx hm => w5 x (by simp only at hx; omega) hm)
    simp only [t_law_k18, Sms.getS, Sm.forB] at hf
    have wd : ∀ y ∈ w.dropLast, y ∈ allBlocks one := fun y hy => w1 y (List.dropLast_subset w hy)
    have g1 := c_pages K.pages (n := n + 1) (f1 := .f) (f2 := .f) own_f own_f t.o1 (fun l hl => t.b1 l (w1 l hl)) (by omega)
    have g2 := c_pages K.pages (n := n + 1) (f1 := .f) (f2 := .f) own_f own_f t.o2 (fun l hl => t.b2 l (w1 l hl)) (by omega)
    have g3 := c_pages K.pages (n := n + 1) (f1 := .f) (f2 := .f) own_f own_f t.o1 (fun l hl => t.b1 l (wd l hl)) (by rw [List.length_dropLast]; omega)
    have g4 := c_pages K.pages (n := n + 1) (f1 := .f) (f2 := .f) own_f own_f t.o2 (fun l hl => t.b2 l (wd l hl)) (by rw [List.length_dropLast]; omega)
    have pd := w5 w.dropLast (by rw [List.length_dropLast]; omega) wd
    have cm : cutD (eDoc w) none (some (-1)) = some (false, eDoc w.dropLast) := by
      unfold eDoc
      rw [cutD_t, cut_m1, ← List.map_dropLast]
    have dn : op2 .eq (eDoc w) (.tup []) = some (false, .bl false) := by
      rw [op_eq_of pl_doc (by simp [pl, pls]), eqv_doc0]
      cases w with
      | nil => exact absurd rfl w2
      | cons _ _ => rfl
    refine ⟨a', b', _, y9, y10, ha', hb', (?_ : cs (some (.f, eR (some w))) = true), q9, q10, ?_⟩
    · rfl
    · simp only [eR] at hf e1
      simp_arith [t_law_k18, Sms.getS, Sm.forB, h7, h8, e1, e2, er, op_neb, Option.isNone_some, beq_self_eq_true, i4, hf, eR, g1, g2, g3, g4, eq_rows w4, ne_rows pd, cm, dn, isNon]
theorem turn18 (K : K_law_k18 pg) {ns : List Int} {k : Nat} {x1 x2 x3 x4 x5 x6 x7 x8 x9 x10 : Option SV} (h : ns.length ≤ 63) (hk : k ≤ 1000)
    (hc : List.all [x1, x2, x3, x4, x5, x6, x7, x8, x9, x10] cs = true) :
    ∃ r : En, r.length = 10 ∧ r.all cs = true ∧ turnF (fun g us => callL pg (n + 7) g none us) (fun g l us => callL pg (n + 7) g (some l) us) none (.nm 1) ((t_law_k18.body.getS 0).forB)
        [some (.f, .fls ns), x1, x2, x3, x4, x5, x6, x7, x8, x9, x10] (eN k) = .ok (.nx, some (.f, .fls ns) :: r) := by
  simp only [List.all_cons, List.all_nil, Bool.and_true, Bool.and_eq_true] at hc
  obtain ⟨c1, c2, c3, c4, c5, c6, c7, c8, c9, c10⟩ := hc
  obtain ⟨a, b, ha, hb, d1⟩ := c_draws K._law_draws (n := n + 6) (f1 := .f) (f2 := .f) own_f own_f h (k := k) hk
  obtain ⟨bk, ok, _, _, _, a1, b1, ha1, hb1, d2⟩ := c_book K._law_book (n := n + 3) (f2 := .f) (f3 := .f) (high := 6) (su := 8) own_f own_f ha hb (by decide) (by decide) (by decide) (by decide)
  obtain ⟨n1, t1, a2, b2, ha2, hb2, d3⟩ := c_near K._law_near (n := n + 4) (f2 := .f) own_f ha1 hb1 ok
  obtain ⟨n2, t2, a3, b3, ha3, hb3, d4⟩ := c_near K._law_near (n := n + 4) (f2 := .f) own_f ha2 hb2 ok
  have nd := c_needless K.needless_rules (n := n + 1) (f1 := .f) own_f ok
  have nl := need_len ok
  let os : List SS → List Bk := fun pr => [n1, n2] ++ pr.map fun p => takenM bk p.1 p.2
  obtain ⟨e', hl, u5, u6, ⟨q5, q6⟩, rfl⟩ := for_invX (cf := fun g us => callL pg (n + 7) g none us) (cl := fun g l us => callL pg (n + 7) g (some l) us) (lf := none) (tg := .tp [.nm 5, .nm 6]) (b := (((t_law_k18.body.getS 0).forB.getS 3).forB))
    (env := [some (.f, .fls ns), some (.f, eN k), some (.o, eDr a3 b3), some (.f, eBk bk), some (.o, .lst ([n1, n2].map eBk)), x5, x6, x7, x8, x9, x10]) (ds := (needM bk).map eSS) (needM bk) eSS
    (fun pr e => ∃ u5 u6, (cs u5 = true ∧ cs u6 = true) ∧ e = [some (.f, .fls ns), some (.f, eN k), some (.o, eDr a3 b3), some (.f, eBk bk), some (.o, .lst ((os pr).map eBk)), u5, u6, x7, x8, x9, x10]) rfl ⟨x5, x6, ⟨c5, c6⟩, rfl⟩ (by
      rintro pr p po e e0 ⟨u5, u6, ⟨h5, h6⟩, rfl⟩
      have hp := need_mem (b := bk) (p := p) (by rw [e0]; simp)
      have ct := c_law_taken K._law_taken (n := n + 6) (x := p.1) (f1 := .f) (f2 := .f) (f3 := .f) own_f own_f own_f ok hp.2
      obtain ⟨r, hr, e2⟩ := c_are_alike K.are_alike (n := n) (taken_two ok (x := p.1) (r := p.2)) (f1 := .f) (f2 := .f) own_f own_f
      have rn : r = none := (part_none hr).mp hp.1
      subst rn
      have le : ((os pr).map eBk).length < LINE := by
        have := congrArg List.length e0
        simp at this
        simp [os]
        exact lt_line (by omega)
      have e3 : os (pr ++ [p]) = os pr ++ [takenM bk p.1 p.2] := by simp [os]
      refine ⟨_, .inl ?_, _, _, ⟨(?_ : cs (some (.f, .str p.1)) = true), (?_ : cs (some (.f, .str p.2)) = true)⟩, rfl⟩
      · simp_arith [t_law_k18, Sms.getS, Sm.forB, eSS, h5, h6, ct, le, e2, map_snoc, e3, op_lastM, Option.isNone_none]
      · rfl
      · rfl)
  have ot : ∀ o ∈ os (needM bk), Two bk o := fun o ho => by
    simp only [os, List.mem_append, List.mem_map, List.mem_cons, List.not_mem_nil, or_false] at ho
    rcases ho with (rfl | rfl) | ⟨p, _, rfl⟩
    · exact t1
    · exact t2
    · exact taken_two ok
  obtain ⟨e2, hl2, a4, b4, y7, y8, y9, y10, ha4, hb4, ⟨q7, q8, q9, q10⟩, rfl⟩ := for_invX (cf := fun g us => callL pg (n + 7) g none us) (cl := fun g l us => callL pg (n + 7) g (some l) us) (lf := none) (tg := .nm 7) (b := (((t_law_k18.body.getS 0).forB.getS 4).forB))
    (env := [some (.f, .fls ns), some (.f, eN k), some (.o, eDr a3 b3), some (.f, eBk bk), some (.f, .lst ((os (needM bk)).map eBk)), u5, u6, x7, x8, x9, x10]) (ds := (os (needM bk)).map eBk) (os (needM bk)) eBk
    (fun pr e => ∃ (a b : Int) (y7 y8 y9 y10 : Option SV), 0 ≤ a ∧ 0 ≤ b ∧ (cs y7 = true ∧ cs y8 = true ∧ cs y9 = true ∧ cs y10 = true) ∧ e = [some (.f, .fls ns), some (.f, eN k), some (.o, eDr a b), some (.f, eBk bk), some (.f, .lst ((os (needM bk)).map eBk)), u5, u6, y7, y8, y9, y10]) rfl
    ⟨a3, b3, x7, x8, x9, x10, ha3, hb3, ⟨c7, c8, c9, c10⟩, rfl⟩ (by
      rintro pr o po e e0 ⟨a, b, y7, y8, y9, y10, ha, hb, ⟨q7, q8, q9, q10⟩, rfl⟩
      obtain ⟨a', b', z8, z9, z10, ha', hb', r8, r9, r10, ht⟩ := other18 (n := n) K (ns := ns) (k := k) (x4 := some (.f, .lst ((os (needM bk)).map eBk))) (x5 := u5) (x6 := u6) (ot o (by rw [e0]; simp)) ha hb q7 q8 q9 q10
      exact ⟨_, .inl ht, a', b', _, z8, z9, z10, ha', hb', ⟨rfl, r8, r9, r10⟩, rfl⟩)
  simp only [t_law_k18, Sms.getS, Sm.forB, List.map_cons, List.map_nil, eN_int] at hl hl2
  refine ⟨[some (.f, eN k), some (.o, eDr a4 b4), some (.f, eBk bk), some (.f, .lst ((os (needM bk)).map eBk)), u5, u6, y7, y8, y9, y10], rfl, ?_, ?_⟩
  · simp_arith [List.all_cons, List.all_nil, q5, q6, q7, q8, q9, q10]
  · simp_arith [t_law_k18, Sms.getS, Sm.forB, eN_int, c1, c2, c3, c4, d1, d2, d3, d4, nd, hl, hl2]
theorem plain18 (K : K_law_k18 pg) (ns : List Int) (h : ns.length ≤ 63) : ∃ fl outs, callL pg (n + 8) 35 none [(.f, .fls ns)] = .ok ((fl, .bl true), outs) := by
  refine ⟨.f, [(.f, .fls ns)], ?_⟩
  rw [go K.s rfl rfl]
  have ir : inRng (max 1 (min 8 (ns.length : Int))) = true := inRng_small (by omega) (by omega)
  simp_arith [ir]
  rw [ob_assoc]
  refine for_rangeB (max 1 (min 8 (ns.length : Int))).toNat eN (fun _ e => ∃ r : En, e = some (.f, .fls ns) :: r ∧ r.length = 10 ∧ r.all cs = true) (rng_n rfl) ⟨_, rfl, rfl, rfl⟩ ?_ ?_
  · rintro k e hk ⟨r, rfl, rl, rc⟩
    match r, rl with
    | [x1, x2, x3, x4, x5, x6, x7, x8, x9, x10], _ =>
    obtain ⟨r', l', c', ht⟩ := turn18 (n := n) (k := k) K h (by omega) rc
    exact ⟨_, .inl ht, r', rfl, l', c'⟩
  · rintro e' ⟨r, rfl, rl, rc⟩
    simp_arith []
end
end MP.Q
namespace MP
open PySem PySem.Spec PyProof.Rows L2
set_option maxRecDepth 100000
set_option maxHeartbeats 4000000
def topP (i : Nat) : Stmt := PySem.Challenge.pw_pagefalls_k18_whole_books_alike.main.body.getD i (.Pass ⟨0, 0, 0, 0⟩)
abbrev s_is_from : Stmt := topP 8
theorem w_is_from {G : Gx} {mg : Str → Option Value} {base : Heap} {k : Nat} {cf : CF} {cl : Nat → LF → List SV → Out (SV × List SV)} (z_bool : mg "bool" = none) (z_int : mg "int" = none) (z_isinstance : mg "isinstance" = none) : Wlk G mg base k cf cl ["value", "low", "high"] "is_from" s_is_from t_is_from := fun f cdv A outer s H E c =>
(n_cons (s_ret (me_and (x_isi c.toCc (bb := .isInt) rfl bt_int z_isinstance z_int (x_var 0 (pv 0))) (me_and (me_not (x_isi c.toCc (bb := .isBool) rfl bt_bool z_isinstance z_bool (x_var 0 (pv 0)))) (x_one (x_chain c_le c_le (x_var 1 (pv 1)) (x_var 0 (pv 0)) (x_var 2 (pv 2)))))))
n_nil)
abbrev s_is_name : Stmt := topP 9
theorem w_is_name {G : Gx} {mg : Str → Option Value} {base : Heap} {k : Nat} {cf : CF} {cl : Nat → LF → List SV → Out (SV × List SV)} (k_LETTERS : Con G mg "LETTERS" (.str (S "abcdefghijklmnopqrstuvwxyz"))) (z_all : mg "all" = none) (z_isinstance : mg "isinstance" = none) (z_len : mg "len" = none) (z_str : mg "str" = none) : Wlk G mg base k cf cl ["value", "sign"] "is_name" s_is_name t_is_name := fun f cdv A outer s H E c =>
(n_cons (s_if (t_bool (w_or (t_not (t_val (x_isi c.toCc (bb := .isStr) rfl bt_str z_isinstance z_str (x_var 0 (pv 0))))) (w_or1 (t_not (t_chain c_le c_le x_int (x_b (cr_len c.toCc.hP c.toCc.hw c.toCc.hK) bt_len z_len (a_cons (x_var 0 (pv 0)) a_nil)) x_int)))))
(n_cons (s_ret x_bl)
n_nil)
n_nil)
(n_cons (s_ret (x_b (cr_all' c.toCc.calm) bt_all z_all (a_cons (x_comp c.toCc [(("sign" : Str), 1)] (i_seq c.toCc (x_var 0 (pv 0))) (fun _ _ _ _ _ b1 => (g_nm 1 (pg_name (i := 1) b1.nd rfl (by first | exact Or.inl rfl | exact Or.inr rfl)))) (fun _ _ _ _ _ b1 => d_nil) (fun _ _ _ _ _ b1 => (x_cmp (c_inn b1) (x_var 1 (pv 1)) (x_con k_LETTERS)))) a_nil)))
n_nil))
abbrev s_are_parts : Stmt := topP 10
theorem w_are_parts {G : Gx} {mg : Str → Option Value} {base : Heap} {k : Nat} {cf : CF} {cl : Nat → LF → List SV → Out (SV × List SV)} (h_is_from : Cal G mg base k cf "is_from" 0 3) (z_all : mg "all" = none) (z_isinstance : mg "isinstance" = none) (z_len : mg "len" = none) (z_tuple : mg "tuple" = none) : Wlk G mg base k cf cl ["value", "one"] "are_parts" s_are_parts t_are_parts := fun f cdv A outer s H E c =>
(n_cons (s_if (t_cmp c_isn (x_var 0 (pv 0)) x_non)
(n_cons (s_ret x_bl)
n_nil)
n_nil)
(n_cons (s_ret (me_and (x_isi c.toCc (bb := .isTup) rfl bt_tuple z_isinstance z_tuple (x_var 0 (pv 0))) (me_and (x_cmp (c_eq c.toCc) (x_b (cr_len c.toCc.hP c.toCc.hw c.toCc.hK) bt_len z_len (a_cons (x_var 0 (pv 0)) a_nil)) x_int) (x_one (x_b (cr_all' c.toCc.calm) bt_all z_all (a_cons (x_comp c.toCc [(("one" : Str), 1)] (i_seq c.toCc (x_var 0 (pv 0))) (fun _ _ _ _ _ b1 => (g_nm 1 (pg_name (i := 1) b1.nd rfl (by first | exact Or.inl rfl | exact Or.inr rfl)))) (fun _ _ _ _ _ b1 => d_nil) (fun _ _ _ _ _ b1 => (x_call b1 h_is_from (a_cons (x_var 1 (pv 1)) (a_cons x_int (a_cons x_int a_nil)))))) a_nil))))))
n_nil))
abbrev s_is_kind : Stmt := topP 11
theorem w_is_kind {G : Gx} {mg : Str → Option Value} {base : Heap} {k : Nat} {cf : CF} {cl : Nat → LF → List SV → Out (SV × List SV)} (h_are_parts : Cal G mg base k cf "are_parts" 2 1) (h_is_from : Cal G mg base k cf "is_from" 0 3) (h_is_name : Cal G mg base k cf "is_name" 1 1) (z_bool : mg "bool" = none) (z_isinstance : mg "isinstance" = none) (z_len : mg "len" = none) (z_tuple : mg "tuple" = none) : Wlk G mg base k cf cl ["value"] "is_kind" s_is_kind t_is_kind := fun f cdv A outer s H E c =>
(n_cons (s_if (t_bool (w_or (t_not (t_val (x_isi c.toCc (bb := .isTup) rfl bt_tuple z_isinstance z_tuple (x_var 0 (pv 0))))) (w_or (t_cmp (c_ne c.toCc) (x_b (cr_len c.toCc.hP c.toCc.hw c.toCc.hK) bt_len z_len (a_cons (x_var 0 (pv 0)) a_nil)) x_int) (w_or (t_not (t_val (x_call c.toCc h_is_name (a_cons (x_ix c.toCc (x_var 0 (pv 0)) x_int) a_nil)))) (w_or1 (t_not (t_val (x_call c.toCc h_is_from (a_cons (x_ix c.toCc (x_var 0 (pv 0)) x_int) (a_cons x_int (a_cons x_int a_nil)))))))))))
(n_cons (s_ret x_bl)
n_nil)
n_nil)
(n_cons (s_ret (me_and (x_call c.toCc h_are_parts (a_cons (x_ix c.toCc (x_var 0 (pv 0)) x_int) a_nil)) (me_and (x_isi c.toCc (bb := .isBool) rfl bt_bool z_isinstance z_bool (x_ix c.toCc (x_var 0 (pv 0)) x_int)) (x_one (x_isi c.toCc (bb := .isBool) rfl bt_bool z_isinstance z_bool (x_ix c.toCc (x_var 0 (pv 0)) x_int))))))
n_nil))
abbrev s_is_book : Stmt := topP 12
theorem w_is_book {G : Gx} {mg : Str → Option Value} {base : Heap} {k : Nat} {cf : CF} {cl : Nat → LF → List SV → Out (SV × List SV)} (h_is_kind : Cal G mg base k cf "is_kind" 3 1) (h_is_from : Cal G mg base k cf "is_from" 0 3) (k_MOST_BLOCKS : Con G mg "MOST_BLOCKS" (.int 8)) (z_all : mg "all" = none) (z_isinstance : mg "isinstance" = none) (z_len : mg "len" = none) (z_sum : mg "sum" = none) (z_tuple : mg "tuple" = none) (z_zip : mg "zip" = none) : Wlk G mg base k cf cl ["value", "one", "names", "other"] "is_book" s_is_book t_is_book := fun f cdv A outer s H E c =>
(n_cons (s_if (t_bool (w_or (t_not (t_val (x_isi c.toCc (bb := .isTup) rfl bt_tuple z_isinstance z_tuple (x_var 0 (pv 0))))) (w_or (t_cmp (c_ne c.toCc) (x_b (cr_len c.toCc.hP c.toCc.hw c.toCc.hK) bt_len z_len (a_cons (x_var 0 (pv 0)) a_nil)) x_int) (w_or1 (t_not (t_val (x_call c.toCc h_is_from (a_cons (x_ix c.toCc (x_var 0 (pv 0)) x_int) (a_cons x_int (a_cons x_int a_nil))))))))))
(n_cons (s_ret x_bl)
n_nil)
n_nil)
(n_cons (s_if (t_bool (w_or (t_not (t_val (x_isi c.toCc (bb := .isTup) rfl bt_tuple z_isinstance z_tuple (x_ix c.toCc (x_var 0 (pv 0)) x_int)))) (w_or (t_not (t_chain c_le c_le x_int (x_b (cr_len c.toCc.hP c.toCc.hw c.toCc.hK) bt_len z_len (a_cons (x_ix c.toCc (x_var 0 (pv 0)) x_int) a_nil)) x_int)) (w_or1 (t_not (t_val (x_b (cr_all' c.toCc.calm) bt_all z_all (a_cons (x_comp c.toCc [(("one" : Str), 1)] (i_seq c.toCc (x_ix c.toCc (x_var 0 (pv 0)) x_int)) (fun _ _ _ _ _ b1 => (g_nm 1 (pg_name (i := 1) b1.nd rfl (by first | exact Or.inl rfl | exact Or.inr rfl)))) (fun _ _ _ _ _ b1 => d_nil) (fun _ _ _ _ _ b1 => (x_call b1 h_is_kind (a_cons (x_var 1 (pv 1)) a_nil)))) a_nil))))))))
(n_cons (s_ret x_bl)
n_nil)
n_nil)
(n_cons (s_setComp c [(("one" : Str), 1)] (i_seq c.toCc (x_ix c.toCc (x_var 0 (pv 0)) x_int)) (fun _ _ _ _ _ b1 => (g_nm 1 (pg_name (i := 1) b1.nd rfl (by first | exact Or.inl rfl | exact Or.inr rfl)))) (fun _ _ _ _ _ b1 => d_nil) (fun _ _ _ _ _ b1 => (x_ix b1 (x_var 1 (pv 1)) x_int)))
(n_cons (s_if (t_not (t_val (x_b (cr_all' c.toCc.calm) bt_all z_all (a_cons (x_comp c.toCc [(("one" : Str), 1), (("other" : Str), 3)] (i_zip c.toCc z_zip (x_var 2 (pv 2)) (x_slc c.toCc (x_var 2 (pv 2)) (o_some x_int) o_nil)) (fun _ _ _ _ _ b1 => (g_tp b1 (gs_cons (g_nm 1 (pg_name (i := 1) b1.nd rfl (by first | exact Or.inl rfl | exact Or.inr rfl))) (gs_cons (g_nm 3 (pg_name (i := 3) b1.nd rfl (by first | exact Or.inl rfl | exact Or.inr rfl))) gs_nil)))) (fun _ _ _ _ _ b1 => d_nil) (fun _ _ _ _ _ b1 => (x_cmp c_lt (x_var 1 (pv 1)) (x_var 3 (pv 3))))) a_nil))))
(n_cons (s_ret x_bl)
n_nil)
n_nil)
(n_cons (s_ret (x_cmp c_le (x_b (cr_sum' c.toCc.calm) bt_sum z_sum (a_cons (x_comp c.toCc [(("one" : Str), 1)] (i_seq c.toCc (x_ix c.toCc (x_var 0 (pv 0)) x_int)) (fun _ _ _ _ _ b1 => (g_nm 1 (pg_name (i := 1) b1.nd rfl (by first | exact Or.inl rfl | exact Or.inr rfl)))) (fun _ _ _ _ _ b1 => d_nil) (fun _ _ _ _ _ b1 => (x_ix b1 (x_var 1 (pv 1)) x_int))) a_nil)) (x_con k_MOST_BLOCKS)))
n_nil)))))
abbrev s_check_book : Stmt := topP 13
theorem w_check_book {G : Gx} {mg : Str → Option Value} {base : Heap} {k : Nat} {cf : CF} {cl : Nat → LF → List SV → Out (SV × List SV)} (h_is_book : Cal G mg base k cf "is_book" 4 1) (e_InvalidBook : Exn G mg "InvalidBook") : Wlk G mg base k cf cl ["book"] "check_book" s_check_book t_check_book := fun f cdv A outer s H E c =>
(n_cons (s_if (t_not (t_val (x_call c.toCc h_is_book (a_cons (x_var 0 (pv 0)) a_nil))))
(n_cons (s_raise c e_InvalidBook)
n_nil)
n_nil)
n_nil)
abbrev s_kind_of : Stmt := topP 14
theorem w_kind_of {G : Gx} {mg : Str → Option Value} {base : Heap} {k : Nat} {cf : CF} {cl : Nat → LF → List SV → Out (SV × List SV)}  : Wlk G mg base k cf cl ["book", "name", "kind"] "kind_of" s_kind_of t_kind_of := fun f cdv A outer s H E c =>
(n_cons (s_for c (i_seq c.toCc (x_ix c.toCc (x_var 0 (pv 0)) x_int)) (g_nm 2 (pg_name (i := 2) c.toCc.nd rfl (by first | exact Or.inl rfl | exact Or.inr rfl)))
(n_cons (s_if (t_cmp (c_eq c.toCc) (x_ix c.toCc (x_var 2 (pv 2)) x_int) (x_var 1 (pv 1)))
(n_cons (s_ret (x_var 2 (pv 2)))
n_nil)
n_nil)
n_nil))
(n_cons (s_ret x_non)
n_nil))
abbrev s_is_block : Stmt := topP 15
theorem w_is_block {G : Gx} {mg : Str → Option Value} {base : Heap} {k : Nat} {cf : CF} {cl : Nat → LF → List SV → Out (SV × List SV)} (h_is_from : Cal G mg base k cf "is_from" 0 3) (h_kind_of : Cal G mg base k cf "kind_of" 6 2) (z_isinstance : mg "isinstance" = none) (z_len : mg "len" = none) (z_str : mg "str" = none) (z_tuple : mg "tuple" = none) : Wlk G mg base k cf cl ["book", "value", "kind"] "is_block" s_is_block t_is_block := fun f cdv A outer s H E c =>
(n_cons (s_if (t_bool (w_or (t_not (t_val (x_isi c.toCc (bb := .isTup) rfl bt_tuple z_isinstance z_tuple (x_var 1 (pv 1))))) (w_or (t_cmp (c_ne c.toCc) (x_b (cr_len c.toCc.hP c.toCc.hw c.toCc.hK) bt_len z_len (a_cons (x_var 1 (pv 1)) a_nil)) x_int) (w_or1 (t_not (t_val (x_isi c.toCc (bb := .isStr) rfl bt_str z_isinstance z_str (x_ix c.toCc (x_var 1 (pv 1)) x_int))))))))
(n_cons (s_ret x_bl)
n_nil)
n_nil)
(n_cons (s_set c (x_call c.toCc h_kind_of (a_cons (x_var 0 (pv 0)) (a_cons (x_ix c.toCc (x_var 1 (pv 1)) x_int) a_nil))))
(n_cons (s_ret (me_and (x_cmp c_notn (x_var 2 (pv 2)) x_non) (x_one (x_call c.toCc h_is_from (a_cons (x_ix c.toCc (x_var 1 (pv 1)) x_int) (a_cons x_int (a_cons (x_ix c.toCc (x_var 2 (pv 2)) x_int) a_nil)))))))
n_nil)))
abbrev s_is_row : Stmt := topP 16
theorem w_is_row {G : Gx} {mg : Str → Option Value} {base : Heap} {k : Nat} {cf : CF} {cl : Nat → LF → List SV → Out (SV × List SV)} (h_is_block : Cal G mg base k cf "is_block" 7 2) (z_all : mg "all" = none) (z_isinstance : mg "isinstance" = none) (z_tuple : mg "tuple" = none) : Wlk G mg base k cf cl ["book", "value", "block"] "is_row" s_is_row t_is_row := fun f cdv A outer s H E c =>
(n_cons (s_ret (me_and (x_isi c.toCc (bb := .isTup) rfl bt_tuple z_isinstance z_tuple (x_var 1 (pv 1))) (x_one (x_b (cr_all' c.toCc.calm) bt_all z_all (a_cons (x_comp c.toCc [(("block" : Str), 2)] (i_seq c.toCc (x_var 1 (pv 1))) (fun _ _ _ _ _ b1 => (g_nm 2 (pg_name (i := 2) b1.nd rfl (by first | exact Or.inl rfl | exact Or.inr rfl)))) (fun _ _ _ _ _ b1 => d_nil) (fun _ _ _ _ _ b1 => (x_call b1 h_is_block (a_cons (x_var 0 (pv 0)) (a_cons (x_var 2 (pv 2)) a_nil))))) a_nil)))))
n_nil)
abbrev s_check_document : Stmt := topP 17
theorem w_check_document {G : Gx} {mg : Str → Option Value} {base : Heap} {k : Nat} {cf : CF} {cl : Nat → LF → List SV → Out (SV × List SV)} (h_is_row : Cal G mg base k cf "is_row" 8 2) (e_InvalidDocument : Exn G mg "InvalidDocument") : Wlk G mg base k cf cl ["book", "document"] "check_document" s_check_document t_check_document := fun f cdv A outer s H E c =>
(n_cons (s_if (t_not (t_val (x_call c.toCc h_is_row (a_cons (x_var 0 (pv 0)) (a_cons (x_var 1 (pv 1)) a_nil)))))
(n_cons (s_raise c e_InvalidDocument)
n_nil)
n_nil)
n_nil)
abbrev s_all_blocks : Stmt := topP 18
theorem w_all_blocks {G : Gx} {mg : Str → Option Value} {base : Heap} {k : Nat} {cf : CF} {cl : Nat → LF → List SV → Out (SV × List SV)} (z_range : mg "range" = none) : Wlk G mg base k cf cl ["book", "found", "kind", "lines"] "all_blocks" s_all_blocks t_all_blocks := fun f cdv A outer s H E c =>
(n_cons (s_set c (x_lst a_nil))
(n_cons (s_for c (i_seq c.toCc (x_ix c.toCc (x_var 0 (pv 0)) x_int)) (g_nm 2 (pg_name (i := 2) c.toCc.nd rfl (by first | exact Or.inl rfl | exact Or.inr rfl)))
(n_cons (s_ext c (pv 1) (x_comp c.toCc [(("lines" : Str), 3)] (i_rng2 z_range x_int (x_add c.toCc (x_ix c.toCc (x_var 2 (pv 2)) x_int) x_int)) (fun _ _ _ _ _ b1 => (g_nm 3 (pg_name (i := 3) b1.nd rfl (by first | exact Or.inl rfl | exact Or.inr rfl)))) (fun _ _ _ _ _ b1 => d_nil) (fun _ _ _ _ _ b1 => (x_tup (a_cons (x_ix b1 (x_var 2 (pv 2)) x_int) (a_cons (x_var 3 (pv 3)) a_nil))))))
n_nil))
(n_cons (s_ret (x_var 1 (pv 1)))
n_nil)))
abbrev s_greatest_part : Stmt := topP 21
theorem w_greatest_part {G : Gx} {mg : Str → Option Value} {base : Heap} {k : Nat} {cf : CF} {cl : Nat → LF → List SV → Out (SV × List SV)} (z_min : mg "min" = none) : Wlk G mg base k cf cl ["parts", "room", "rest", "most"] "greatest_part" s_greatest_part t_greatest_part := fun f cdv A outer s H E c =>
(n_cons (s_if (t_cmp c_isn (x_var 0 (pv 0)) x_non)
(n_cons (s_ret x_int)
n_nil)
n_nil)
(n_cons (s_set c (x_b (cr_min2 c.toCc.calm) bt_min z_min (a_cons (x_var 1 (pv 1)) (a_cons (x_sub (x_var 2 (pv 2)) (x_ix c.toCc (x_var 0 (pv 0)) x_int)) a_nil))))
(n_cons (s_ret (x_ite (t_cmp c_ge (x_var 3 (pv 3)) (x_ix c.toCc (x_var 0 (pv 0)) x_int)) (x_var 3 (pv 3)) x_int))
n_nil)))
abbrev s_filled : Stmt := topP 22
theorem w_filled {G : Gx} {mg : Str → Option Value} {base : Heap} {k : Nat} {cf : CF} {cl : Nat → LF → List SV → Out (SV × List SV)} (h_greatest_part : Cal G mg base k cf "greatest_part" 37 3) (h_kind_of : Cal G mg base k cf "kind_of" 6 2) (z_tuple : mg "tuple" = none) : Wlk G mg base k cf cl ["book", "stand", "block", "height", "kind", "used", "held", "rest", "blanks", "words", "cuts", "part", "later"] "filled" s_filled t_filled := fun f cdv A outer s H E c =>
(n_cons (s_par2 c (a_cons (x_ix c.toCc (x_var 0 (pv 0)) x_int) (a_cons (x_call c.toCc h_kind_of (a_cons (x_var 0 (pv 0)) (a_cons (x_ix c.toCc (x_var 2 (pv 2)) x_int) a_nil))) a_nil)))
(n_cons (s_unp (x_var 1 (pv 1)) (g_tp c.toCc (gs_cons (g_nm 5 (pg_name (i := 5) c.toCc.nd rfl (by first | exact Or.inl rfl | exact Or.inr rfl))) (gs_cons (g_nm 6 (pg_name (i := 6) c.toCc.nd rfl (by first | exact Or.inl rfl | exact Or.inr rfl))) gs_nil))))
(n_cons (s_set c (x_ix c.toCc (x_var 2 (pv 2)) x_int))
(n_cons (s_par3 c (a_cons (x_lst a_nil) (a_cons (x_lst a_nil) (a_cons (x_lst a_nil) a_nil))))
(n_cons (s_if (t_bool (w_and (t_val (x_ix c.toCc (x_var 4 (pv 4)) x_int)) (w_and1 (t_cmp c_gt (x_var 5 (pv 5)) x_int))))
(n_cons (s_app c (pv 8) (x_sub (x_var 3 (pv 3)) (x_var 5 (pv 5))))
(n_cons (s_app c (pv 10) x_int)
(n_cons (s_if (t_cmp c_gt (x_var 6 (pv 6)) x_int)
(n_cons (s_app c (pv 9) x_str)
n_nil)
n_nil)
(n_cons (s_parT c [5, 6] (a_cons x_int (a_cons x_int a_nil)) (gs_cons (g_nm 5 (pg_name (i := 5) c.toCc.nd rfl (by first | exact Or.inl rfl | exact Or.inr rfl))) (gs_cons (g_nm 6 (pg_name (i := 6) c.toCc.nd rfl (by first | exact Or.inl rfl | exact Or.inr rfl))) gs_nil)))
n_nil))))
n_nil)
(n_cons (s_whl c (t_cmp c_gt (x_var 7 (pv 7)) (x_sub (x_var 3 (pv 3)) (x_var 5 (pv 5))))
(n_cons (s_set c (x_call c.toCc h_greatest_part (a_cons (x_ix c.toCc (x_var 4 (pv 4)) x_int) (a_cons (x_sub (x_var 3 (pv 3)) (x_var 5 (pv 5))) (a_cons (x_var 7 (pv 7)) a_nil)))))
(n_cons (s_if (t_bool (w_and (t_cmp (c_eq c.toCc) (x_var 11 (pv 11)) x_int) (w_and1 (t_cmp c_gt (x_var 5 (pv 5)) (x_var 6 (pv 6))))))
(n_cons (s_app c (pv 8) (x_add c.toCc (x_sub (x_var 3 (pv 3)) (x_var 5 (pv 5))) (x_var 6 (pv 6))))
(n_cons (s_app c (pv 10) (x_sub x_int (x_var 6 (pv 6))))
(n_cons (s_set c (x_var 6 (pv 6)))
n_nil)))
(n_cons (s_if (t_bool (w_and (t_cmp (c_eq c.toCc) (x_var 11 (pv 11)) x_int) (w_and1 (t_cmp c_gt (x_var 5 (pv 5)) x_int))))
(n_cons (s_app c (pv 8) (x_sub (x_var 3 (pv 3)) (x_var 5 (pv 5))))
(n_cons (s_app c (pv 10) x_int)
(n_cons (s_app c (pv 9) x_str)
(n_cons (s_parT c [5, 6] (a_cons x_int (a_cons x_int a_nil)) (gs_cons (g_nm 5 (pg_name (i := 5) c.toCc.nd rfl (by first | exact Or.inl rfl | exact Or.inr rfl))) (gs_cons (g_nm 6 (pg_name (i := 6) c.toCc.nd rfl (by first | exact Or.inl rfl | exact Or.inr rfl))) gs_nil)))
n_nil))))
(n_cons (s_if (t_cmp (c_eq c.toCc) (x_var 11 (pv 11)) x_int)
(n_cons (s_set c (x_var 3 (pv 3)))
(n_cons (s_app c (pv 9) (x_ite (t_cmp c_isn (x_ix c.toCc (x_var 4 (pv 4)) x_int) x_non) x_str x_str))
n_nil))
n_nil)
(n_cons (s_set c (x_sub (x_var 7 (pv 7)) (x_var 11 (pv 11))))
(n_cons (s_app c (pv 8) (x_sub (x_sub (x_var 3 (pv 3)) (x_var 5 (pv 5))) (x_var 11 (pv 11))))
(n_cons (s_app c (pv 10) (x_sub (x_ix c.toCc (x_var 2 (pv 2)) x_int) (x_var 7 (pv 7))))
(n_cons (s_parT c [5, 6] (a_cons x_int (a_cons x_int a_nil)) (gs_cons (g_nm 5 (pg_name (i := 5) c.toCc.nd rfl (by first | exact Or.inl rfl | exact Or.inr rfl))) (gs_cons (g_nm 6 (pg_name (i := 6) c.toCc.nd rfl (by first | exact Or.inl rfl | exact Or.inr rfl))) gs_nil)))
n_nil))))))
n_nil))
n_nil)))
(n_cons (s_set c (x_tup (a_cons (x_add c.toCc (x_var 5 (pv 5)) (x_var 7 (pv 7))) (a_cons (x_ite (t_val (x_ix c.toCc (x_var 4 (pv 4)) x_int)) (x_add c.toCc (x_var 6 (pv 6)) (x_var 7 (pv 7))) x_int) a_nil))))
(n_cons (s_ret (x_tup (a_cons (x_var 12 (pv 12)) (a_cons (x_t (cr_tuple c.toCc.hK) bt_tuple z_tuple (a_cons (x_var 8 (pv 8)) a_nil)) (a_cons (x_t (cr_tuple c.toCc.hK) bt_tuple z_tuple (a_cons (x_var 9 (pv 9)) a_nil)) (a_cons (x_t (cr_tuple c.toCc.hK) bt_tuple z_tuple (a_cons (x_var 10 (pv 10)) a_nil)) a_nil))))))
n_nil))))))))
abbrev s_steps : Stmt := topP 23
theorem w_steps {G : Gx} {mg : Str → Option Value} {base : Heap} {k : Nat} {cf : CF} {cl : Nat → LF → List SV → Out (SV × List SV)} (h_filled : Cal G mg base k cf "filled" 38 3) (k_FIRST : Con G mg "FIRST" (.tup [(.int 0), (.int 0)])) : Wlk G mg base k cf cl ["book", "document", "found", "stand", "block"] "steps" s_steps t_steps := fun f cdv A outer s H E c =>
(n_cons (s_par2 c (a_cons (x_lst a_nil) (a_cons (x_con k_FIRST) a_nil)))
(n_cons (s_for c (i_seq c.toCc (x_var 1 (pv 1))) (g_nm 4 (pg_name (i := 4) c.toCc.nd rfl (by first | exact Or.inl rfl | exact Or.inr rfl)))
(n_cons (s_app c (pv 2) (x_call c.toCc h_filled (a_cons (x_var 0 (pv 0)) (a_cons (x_var 3 (pv 3)) (a_cons (x_var 4 (pv 4)) a_nil)))))
(n_cons (s_set c (x_ix c.toCc (x_ix c.toCc (x_var 2 (pv 2)) (x_neg x_int)) x_int))
n_nil)))
(n_cons (s_ret (x_var 2 (pv 2)))
n_nil)))
abbrev s_pages_of : Stmt := topP 24
theorem w_pages_of {G : Gx} {mg : Str → Option Value} {base : Heap} {k : Nat} {cf : CF} {cl : Nat → LF → List SV → Out (SV × List SV)} (h_pieces : Cal G mg base k cf "pieces" 47 3) (h_steps : Cal G mg base k cf "steps" 45 2) (z_int : mg "int" = none) (z_zip : mg "zip" = none) : Wlk G mg base k cf cl ["book", "document", "ends", "at", "step", "block", "cut", "found", "begin", "end"] "pages_of" s_pages_of t_pages_of := fun f cdv A outer s H E c =>
(n_cons (s_parT c [2, 3] (a_cons (x_lst a_nil) (a_cons x_int a_nil)) (gs_cons (g_nm 2 (pg_name (i := 2) c.toCc.nd rfl (by first | exact Or.inl rfl | exact Or.inr rfl))) (gs_cons (g_nm 3 (pg_name (i := 3) c.toCc.nd rfl (by first | exact Or.inl rfl | exact Or.inr rfl))) gs_nil)))
(n_cons (s_for c (i_zip c.toCc z_zip (x_call c.toCc h_steps (a_cons (x_var 0 (pv 0)) (a_cons (x_var 1 (pv 1)) a_nil))) (x_var 1 (pv 1))) (g_tp c.toCc (gs_cons (g_nm 4 (pg_name (i := 4) c.toCc.nd rfl (by first | exact Or.inl rfl | exact Or.inr rfl))) (gs_cons (g_nm 5 (pg_name (i := 5) c.toCc.nd rfl (by first | exact Or.inl rfl | exact Or.inr rfl))) gs_nil)))
(n_cons (s_set c (x_add c.toCc (x_var 2 (pv 2)) (x_comp c.toCc [(("cut" : Str), 6)] (i_seq c.toCc (x_ix c.toCc (x_var 4 (pv 4)) x_int)) (fun _ _ _ _ _ b1 => (g_nm 6 (pg_name (i := 6) b1.nd rfl (by first | exact Or.inl rfl | exact Or.inr rfl)))) (fun _ _ _ _ _ b1 => d_nil) (fun _ _ _ _ _ b1 => (x_add b1 (x_var 3 (pv 3)) (x_var 6 (pv 6)))))))
(n_cons (s_set c (x_add c.toCc (x_var 3 (pv 3)) (x_ix c.toCc (x_var 5 (pv 5)) x_int)))
n_nil)))
(n_cons (s_par2 c (a_cons (x_lst a_nil) (a_cons x_int a_nil)))
(n_cons (s_for c (i_seq c.toCc (x_add c.toCc (x_var 2 (pv 2)) (x_mul c.toCc (x_lst (a_cons (x_var 3 (pv 3)) a_nil)) (x_t cr_int bt_int z_int (a_cons (x_cmp c_gt (x_var 3 (pv 3)) x_int) a_nil))))) (g_nm 9 (pg_name (i := 9) c.toCc.nd rfl (by first | exact Or.inl rfl | exact Or.inr rfl)))
(n_cons (s_app c (pv 7) (x_call c.toCc h_pieces (a_cons (x_var 1 (pv 1)) (a_cons (x_var 8 (pv 8)) (a_cons (x_var 9 (pv 9)) a_nil)))))
(n_cons (s_set c (x_var 9 (pv 9)))
n_nil)))
(n_cons (s_ret (x_var 7 (pv 7)))
n_nil)))))
abbrev s_pieces : Stmt := topP 25
theorem w_pieces {G : Gx} {mg : Str → Option Value} {base : Heap} {k : Nat} {cf : CF} {cl : Nat → LF → List SV → Out (SV × List SV)} (z_enumerate : mg "enumerate" = none) (z_max : mg "max" = none) (z_min : mg "min" = none) (z_tuple : mg "tuple" = none) : Wlk G mg base k cf cl ["document", "begin", "end", "found", "at", "index", "block", "lines"] "pieces" s_pieces t_pieces := fun f cdv A outer s H E c =>
(n_cons (s_par2 c (a_cons (x_lst a_nil) (a_cons x_int a_nil)))
(n_cons (s_for c (i_enu c.toCc z_enumerate (x_var 0 (pv 0))) (g_tp c.toCc (gs_cons (g_nm 5 (pg_name (i := 5) c.toCc.nd rfl (by first | exact Or.inl rfl | exact Or.inr rfl))) (gs_cons (g_nm 6 (pg_name (i := 6) c.toCc.nd rfl (by first | exact Or.inl rfl | exact Or.inr rfl))) gs_nil)))
(n_cons (s_set c (x_sub (x_b (cr_min2 c.toCc.calm) bt_min z_min (a_cons (x_var 2 (pv 2)) (a_cons (x_add c.toCc (x_var 4 (pv 4)) (x_ix c.toCc (x_var 6 (pv 6)) x_int)) a_nil))) (x_b (cr_max2 c.toCc.calm) bt_max z_max (a_cons (x_var 1 (pv 1)) (a_cons (x_var 4 (pv 4)) a_nil)))))
(n_cons (s_if (t_cmp c_gt (x_var 7 (pv 7)) x_int)
(n_cons (s_app c (pv 3) (x_tup (a_cons (x_var 5 (pv 5)) (a_cons (x_var 7 (pv 7)) a_nil))))
n_nil)
n_nil)
(n_cons (s_set c (x_add c.toCc (x_var 4 (pv 4)) (x_ix c.toCc (x_var 6 (pv 6)) x_int)))
n_nil))))
(n_cons (s_ret (x_t (cr_tuple c.toCc.hK) bt_tuple z_tuple (a_cons (x_var 3 (pv 3)) a_nil)))
n_nil)))
abbrev s_pages : Stmt := topP 26
theorem w_pages {G : Gx} {mg : Str → Option Value} {base : Heap} {k : Nat} {cf : CF} {cl : Nat → LF → List SV → Out (SV × List SV)} (h_pages_of : Cal G mg base k cf "pages_of" 46 2) (h_check_document : Cal G mg base k cf "check_document" 44 2) (h_check_book : Cal G mg base k cf "check_book" 5 1) : Wlk G mg base k cf cl ["book", "document"] "pages" s_pages t_pages := fun f cdv A outer s H E c =>
(n_cons (s_drop (x_call c.toCc h_check_book (a_cons (x_var 0 (pv 0)) a_nil)))
(n_cons (s_drop (x_call c.toCc h_check_document (a_cons (x_var 0 (pv 0)) (a_cons (x_var 1 (pv 1)) a_nil))))
(n_cons (s_ret (x_call c.toCc h_pages_of (a_cons (x_var 0 (pv 0)) (a_cons (x_var 1 (pv 1)) a_nil))))
n_nil)))
abbrev s_check_both : Stmt := topP 29
theorem w_check_both {G : Gx} {mg : Str → Option Value} {base : Heap} {k : Nat} {cf : CF} {cl : Nat → LF → List SV → Out (SV × List SV)} (h_check_book : Cal G mg base k cf "check_book" 5 1) (e_Unlike : Exn G mg "Unlike") : Wlk G mg base k cf cl ["one", "other", "kind"] "check_both" s_check_both t_check_both := fun f cdv A outer s H E c =>
(n_cons (s_drop (x_call c.toCc h_check_book (a_cons (x_var 0 (pv 0)) a_nil)))
(n_cons (s_drop (x_call c.toCc h_check_book (a_cons (x_var 1 (pv 1)) a_nil)))
(n_cons (s_if (t_cmp (c_ne c.toCc) (x_comp c.toCc [(("kind" : Str), 2)] (i_seq c.toCc (x_ix c.toCc (x_var 0 (pv 0)) x_int)) (fun _ _ _ _ _ b1 => (g_nm 2 (pg_name (i := 2) b1.nd rfl (by first | exact Or.inl rfl | exact Or.inr rfl)))) (fun _ _ _ _ _ b1 => d_nil) (fun _ _ _ _ _ b1 => (x_slc b1 (x_var 2 (pv 2)) o_nil (o_some x_int)))) (x_comp c.toCc [(("kind" : Str), 2)] (i_seq c.toCc (x_ix c.toCc (x_var 1 (pv 1)) x_int)) (fun _ _ _ _ _ b1 => (g_nm 2 (pg_name (i := 2) b1.nd rfl (by first | exact Or.inl rfl | exact Or.inr rfl)))) (fun _ _ _ _ _ b1 => d_nil) (fun _ _ _ _ _ b1 => (x_slc b1 (x_var 2 (pv 2)) o_nil (o_some x_int)))))
(n_cons (s_raise c e_Unlike)
n_nil)
n_nil)
n_nil)))
abbrev s_parted : Stmt := topP 30
theorem w_parted {G : Gx} {mg : Str → Option Value} {base : Heap} {k : Nat} {cf : CF} {cl : Nat → LF → List SV → Out (SV × List SV)} (h_all_blocks : Cal G mg base k cf "all_blocks" 9 1) (h_filled : Cal G mg base k cf "filled" 38 3) (k_FIRST : Con G mg "FIRST" (.tup [(.int 0), (.int 0)])) : Wlk G mg base k cf cl ["one", "other", "found", "line", "later", "pair", "document", "block", "mine", "their", "there"] "parted" s_parted t_parted := fun f cdv A outer s H E c =>
(n_cons (s_par2 c (a_cons (x_dct1 c.toCc (x_tup (a_cons (x_con k_FIRST) (a_cons (x_con k_FIRST) a_nil))) x_bl) (a_cons (x_lst (a_cons (x_tup (a_cons (x_tup (a_cons (x_con k_FIRST) (a_cons (x_con k_FIRST) a_nil))) (a_cons (x_tup a_nil) a_nil))) a_nil)) a_nil)))
(n_cons (s_whl c (t_cmp (c_ne c.toCc) (x_var 3 (pv 3)) (x_lst a_nil))
(n_cons (s_set c (x_lst a_nil))
(n_cons (s_for c (i_seq c.toCc (x_var 3 (pv 3))) (g_tp c.toCc (gs_cons (g_nm 5 (pg_name (i := 5) c.toCc.nd rfl (by first | exact Or.inl rfl | exact Or.inr rfl))) (gs_cons (g_nm 6 (pg_name (i := 6) c.toCc.nd rfl (by first | exact Or.inl rfl | exact Or.inr rfl))) gs_nil)))
(n_cons (s_for c (i_seq c.toCc (x_call c.toCc h_all_blocks (a_cons (x_var 0 (pv 0)) a_nil))) (g_nm 7 (pg_name (i := 7) c.toCc.nd rfl (by first | exact Or.inl rfl | exact Or.inr rfl)))
(n_cons (s_par2 c (a_cons (x_call c.toCc h_filled (a_cons (x_var 0 (pv 0)) (a_cons (x_ix c.toCc (x_var 5 (pv 5)) x_int) (a_cons (x_var 7 (pv 7)) a_nil)))) (a_cons (x_call c.toCc h_filled (a_cons (x_var 1 (pv 1)) (a_cons (x_ix c.toCc (x_var 5 (pv 5)) x_int) (a_cons (x_var 7 (pv 7)) a_nil)))) a_nil)))
(n_cons (s_if (t_cmp (c_ne c.toCc) (x_ix c.toCc (x_var 8 (pv 8)) x_int) (x_ix c.toCc (x_var 9 (pv 9)) x_int))
(n_cons (s_ret (x_add c.toCc (x_var 6 (pv 6)) (x_tup (a_cons (x_var 7 (pv 7)) a_nil))))
n_nil)
n_nil)
(n_cons (s_set c (x_tup (a_cons (x_ix c.toCc (x_var 8 (pv 8)) x_int) (a_cons (x_ix c.toCc (x_var 9 (pv 9)) x_int) a_nil))))
(n_cons (s_if (t_cmp (c_nin c.toCc) (x_var 10 (pv 10)) (x_var 2 (pv 2)))
(n_cons (s_sub c (pv 2) (x_var 10 (pv 10)) x_bl)
(n_cons (s_app c (pv 4) (x_tup (a_cons (x_var 10 (pv 10)) (a_cons (x_add c.toCc (x_var 6 (pv 6)) (x_tup (a_cons (x_var 7 (pv 7)) a_nil))) a_nil))))
n_nil))
n_nil)
n_nil)))))
n_nil))
(n_cons (s_set c (x_var 4 (pv 4)))
n_nil))))
(n_cons (s_ret x_non)
n_nil)))
abbrev s_taken_back : Stmt := topP 31
theorem w_taken_back {G : Gx} {mg : Str → Option Value} {base : Heap} {k : Nat} {cf : CF} {cl : Nat → LF → List SV → Out (SV × List SV)} (z_tuple : mg "tuple" = none) : Wlk G mg base k cf cl ["book", "name", "rule", "kinds", "kind", "parts"] "taken_back" s_taken_back t_taken_back := fun f cdv A outer s H E c =>
(n_cons (s_set c (x_lst a_nil))
(n_cons (s_for c (i_seq c.toCc (x_ix c.toCc (x_var 0 (pv 0)) x_int)) (g_nm 4 (pg_name (i := 4) c.toCc.nd rfl (by first | exact Or.inl rfl | exact Or.inr rfl)))
(n_cons (s_if (t_cmp (c_eq c.toCc) (x_ix c.toCc (x_var 4 (pv 4)) x_int) (x_var 1 (pv 1)))
(n_cons (s_set c (x_ite (t_cmp (c_eq c.toCc) (x_var 2 (pv 2)) x_str) (x_tup (a_cons x_int (a_cons x_int a_nil))) (x_ix c.toCc (x_var 4 (pv 4)) x_int)))
(n_cons (s_set c (x_add c.toCc (x_slc c.toCc (x_var 4 (pv 4)) o_nil (o_some x_int)) (x_tup (a_cons (x_var 5 (pv 5)) (a_cons (me_and (x_ix c.toCc (x_var 4 (pv 4)) x_int) (x_one (x_cmp (c_ne c.toCc) (x_var 2 (pv 2)) x_str))) (a_cons (me_and (x_ix c.toCc (x_var 4 (pv 4)) x_int) (x_one (x_cmp (c_ne c.toCc) (x_var 2 (pv 2)) x_str))) a_nil))))))
n_nil))
n_nil)
(n_cons (s_app c (pv 3) (x_var 4 (pv 4)))
n_nil)))
(n_cons (s_ret (x_tup (a_cons (x_ix c.toCc (x_var 0 (pv 0)) x_int) (a_cons (x_t (cr_tuple c.toCc.hK) bt_tuple z_tuple (a_cons (x_var 3 (pv 3)) a_nil)) a_nil))))
n_nil)))
abbrev s_rules_of : Stmt := topP 32
theorem w_rules_of {G : Gx} {mg : Str → Option Value} {base : Heap} {k : Nat} {cf : CF} {cl : Nat → LF → List SV → Out (SV × List SV)} (k_RULES : Con G mg "RULES" (.tup [(.str (S "joins")), (.str (S "opens")), (.str (S "parts"))])) (z_zip : mg "zip" = none) : Wlk G mg base k cf cl ["book", "found", "name", "most", "parts", "joins", "opens", "rule", "there"] "rules_of" s_rules_of t_rules_of := fun f cdv A outer s H E c =>
(n_cons (s_set c (x_lst a_nil))
(n_cons (s_for c (i_seq c.toCc (x_ix c.toCc (x_var 0 (pv 0)) x_int)) (g_tp c.toCc (gs_cons (g_nm 2 (pg_name (i := 2) c.toCc.nd rfl (by first | exact Or.inl rfl | exact Or.inr rfl))) (gs_cons (g_nm 3 (pg_name (i := 3) c.toCc.nd rfl (by first | exact Or.inl rfl | exact Or.inr rfl))) (gs_cons (g_nm 4 (pg_name (i := 4) c.toCc.nd rfl (by first | exact Or.inl rfl | exact Or.inr rfl))) (gs_cons (g_nm 5 (pg_name (i := 5) c.toCc.nd rfl (by first | exact Or.inl rfl | exact Or.inr rfl))) (gs_cons (g_nm 6 (pg_name (i := 6) c.toCc.nd rfl (by first | exact Or.inl rfl | exact Or.inr rfl))) gs_nil))))))
(n_cons (s_for c (i_zip c.toCc z_zip (x_con k_RULES) (x_tup (a_cons (x_var 5 (pv 5)) (a_cons (x_var 6 (pv 6)) (a_cons (me_and (x_cmp c_notn (x_var 4 (pv 4)) x_non) (x_one (x_cmp (c_ne c.toCc) (x_var 4 (pv 4)) (x_tup (a_cons x_int (a_cons x_int a_nil)))))) a_nil))))) (g_tp c.toCc (gs_cons (g_nm 7 (pg_name (i := 7) c.toCc.nd rfl (by first | exact Or.inl rfl | exact Or.inr rfl))) (gs_cons (g_nm 8 (pg_name (i := 8) c.toCc.nd rfl (by first | exact Or.inl rfl | exact Or.inr rfl))) gs_nil)))
(n_cons (s_if (t_val (x_var 8 (pv 8)))
(n_cons (s_app c (pv 1) (x_tup (a_cons (x_var 2 (pv 2)) (a_cons (x_var 7 (pv 7)) a_nil))))
n_nil)
n_nil)
n_nil))
n_nil))
(n_cons (s_ret (x_var 1 (pv 1)))
n_nil)))
abbrev s_are_alike : Stmt := topP 33
theorem w_are_alike {G : Gx} {mg : Str → Option Value} {base : Heap} {k : Nat} {cf : CF} {cl : Nat → LF → List SV → Out (SV × List SV)} (h_parted : Cal G mg base k cf "parted" 120 2) (h_check_both : Cal G mg base k cf "check_both" 119 2) : Wlk G mg base k cf cl ["one", "other"] "are_alike" s_are_alike t_are_alike := fun f cdv A outer s H E c =>
(n_cons (s_drop (x_call c.toCc h_check_both (a_cons (x_var 0 (pv 0)) (a_cons (x_var 1 (pv 1)) a_nil))))
(n_cons (s_ret (x_cmp c_isn (x_call c.toCc h_parted (a_cons (x_var 0 (pv 0)) (a_cons (x_var 1 (pv 1)) a_nil))) x_non))
n_nil))
abbrev s_parting_document : Stmt := topP 34
theorem w_parting_document {G : Gx} {mg : Str → Option Value} {base : Heap} {k : Nat} {cf : CF} {cl : Nat → LF → List SV → Out (SV × List SV)} (h_parted : Cal G mg base k cf "parted" 120 2) (h_check_both : Cal G mg base k cf "check_both" 119 2) : Wlk G mg base k cf cl ["one", "other"] "parting_document" s_parting_document t_parting_document := fun f cdv A outer s H E c =>
(n_cons (s_drop (x_call c.toCc h_check_both (a_cons (x_var 0 (pv 0)) (a_cons (x_var 1 (pv 1)) a_nil))))
(n_cons (s_ret (x_call c.toCc h_parted (a_cons (x_var 0 (pv 0)) (a_cons (x_var 1 (pv 1)) a_nil))))
n_nil))
abbrev s_needless_rules : Stmt := topP 35
theorem w_needless_rules {G : Gx} {mg : Str → Option Value} {base : Heap} {k : Nat} {cf : CF} {cl : Nat → LF → List SV → Out (SV × List SV)} (h_rules_of : Cal G mg base k cf "rules_of" 125 1) (h_parted : Cal G mg base k cf "parted" 120 2) (h_taken_back : Cal G mg base k cf "taken_back" 124 3) (h_check_book : Cal G mg base k cf "check_book" 5 1) : Wlk G mg base k cf cl ["book", "pair"] "needless_rules" s_needless_rules t_needless_rules := fun f cdv A outer s H E c =>
(n_cons (s_drop (x_call c.toCc h_check_book (a_cons (x_var 0 (pv 0)) a_nil)))
(n_cons (s_ret (x_comp c.toCc [(("pair" : Str), 1)] (i_seq c.toCc (x_call c.toCc h_rules_of (a_cons (x_var 0 (pv 0)) a_nil))) (fun _ _ _ _ _ b1 => (g_nm 1 (pg_name (i := 1) b1.nd rfl (by first | exact Or.inl rfl | exact Or.inr rfl)))) (fun _ _ _ _ _ b1 => (d_one (t_cmp c_isn (x_call b1 h_parted (a_cons (x_var 0 (pv 0)) (a_cons (x_call b1 h_taken_back (a_cons (x_var 0 (pv 0)) (a_cons (x_ix b1 (x_var 1 (pv 1)) x_int) (a_cons (x_ix b1 (x_var 1 (pv 1)) x_int) a_nil)))) a_nil))) x_non))) (fun _ _ _ _ _ b1 => (x_var 1 (pv 1)))))
n_nil))
abbrev s__law_draws : Stmt := topP 37
theorem w__law_draws {G : Gx} {mg : Str → Option Value} {base : Heap} {k : Nat} {cf : CF} {cl : Nat → LF → List SV → Out (SV × List SV)} (z_abs : mg "abs" = none) (z_int : mg "int" = none) (z_len : mg "len" = none) (z_sum : mg "sum" = none) : Wlk G mg base k cf cl ["script", "k", "cell", "one", "stir"] "_law_draws" s__law_draws t__law_draws := fun f cdv A outer s H E c =>
(n_cons (s_if (t_cmp c_lt (x_var 1 (pv 1)) (x_b (cr_len c.toCc.hP c.toCc.hw c.toCc.hK) bt_len z_len (a_cons (x_var 0 (pv 0)) a_nil)))
(n_cons (s_set c (x_mod (x_t cr_int bt_int z_int (a_cons (x_b cr_abs bt_abs z_abs (a_cons (x_ix c.toCc (x_var 0 (pv 0)) (x_var 1 (pv 1))) a_nil)) a_nil)) (x_mul c.toCc (x_mul c.toCc (x_mul c.toCc (x_pow x_int x_int) (x_pow x_int x_int)) (x_pow x_int x_int)) (x_pow x_int x_int))))
n_nil)
(n_cons (s_set c (x_add c.toCc (x_mul c.toCc x_int (x_var 1 (pv 1))) (x_b (cr_sum' c.toCc.calm) bt_sum z_sum (a_cons (x_comp c.toCc [(("one" : Str), 3)] (i_seq c.toCc (x_var 0 (pv 0))) (fun _ _ _ _ _ b1 => (g_nm 3 (pg_name (i := 3) b1.nd rfl (by first | exact Or.inl rfl | exact Or.inr rfl)))) (fun _ _ _ _ _ b1 => d_nil) (fun _ _ _ _ _ b1 => (x_mod (x_t cr_int bt_int z_int (a_cons (x_b cr_abs bt_abs z_abs (a_cons (x_var 3 (pv 3)) a_nil)) a_nil)) x_int))) a_nil))))
n_nil))
(n_cons (s_set c (x_mod (x_t cr_int bt_int z_int (a_cons (x_add c.toCc (x_mod (x_var 2 (pv 2)) x_int) (x_mul c.toCc x_int (x_add c.toCc (x_var 1 (pv 1)) x_int))) a_nil)) x_int))
(n_cons (s_ret (x_lst (a_cons (x_ite (t_cmp c_ge (x_var 2 (pv 2)) (x_pow x_int x_int)) (x_var 2 (pv 2)) x_int) (a_cons (x_add c.toCc x_int (x_var 4 (pv 4))) a_nil))))
n_nil)))
abbrev s__law_draw : Stmt := topP 38
theorem w__law_draw {G : Gx} {mg : Str → Option Value} {base : Heap} {k : Nat} {cf : CF} {cl : Nat → LF → List SV → Out (SV × List SV)} (z_int : mg "int" = none) (z_max : mg "max" = none) : Wlk G mg base k cf cl ["draws", "many", "found", "wide"] "_law_draw" s__law_draw t__law_draw := fun f cdv A outer s H E c =>
(n_cons (s_if (t_cmp c_gt (x_ix c.toCc (x_var 0 (pv 0)) x_int) x_int)
(n_cons (s_set c (x_mod (x_t cr_int bt_int z_int (a_cons (x_ix c.toCc (x_var 0 (pv 0)) x_int) a_nil)) (x_var 1 (pv 1))))
(n_cons (s_sub c (pv 0) x_int (x_fdiv (x_ix c.toCc (x_var 0 (pv 0)) x_int) (x_var 1 (pv 1))))
(n_cons (s_ret (x_var 2 (pv 2)))
n_nil)))
n_nil)
(n_cons (s_parT c [2, 3] (a_cons x_int (a_cons x_int a_nil)) (gs_cons (g_nm 2 (pg_name (i := 2) c.toCc.nd rfl (by first | exact Or.inl rfl | exact Or.inr rfl))) (gs_cons (g_nm 3 (pg_name (i := 3) c.toCc.nd rfl (by first | exact Or.inl rfl | exact Or.inr rfl))) gs_nil)))
(n_cons (s_whl c (t_cmp c_lt (x_var 3 (pv 3)) (x_var 1 (pv 1)))
(n_cons (s_sub c (pv 0) x_int (x_mod (x_t cr_int bt_int z_int (a_cons (x_add c.toCc (x_mul c.toCc (x_ix c.toCc (x_var 0 (pv 0)) x_int) x_int) x_int) a_nil)) x_int))
(n_cons (s_set c (x_add c.toCc (x_mul c.toCc (x_var 2 (pv 2)) x_int) (x_mod (x_t cr_int bt_int z_int (a_cons (x_fdiv (x_ix c.toCc (x_var 0 (pv 0)) x_int) x_int) a_nil)) x_int)))
(n_cons (s_set c (x_mul c.toCc (x_b (cr_max2 c.toCc.calm) bt_max z_max (a_cons x_int (a_cons (x_var 3 (pv 3)) a_nil))) x_int))
n_nil))))
(n_cons (s_ret (x_mod (x_t cr_int bt_int z_int (a_cons (x_var 2 (pv 2)) a_nil)) (x_var 1 (pv 1))))
n_nil))))
abbrev s__law_of : Stmt := topP 39
theorem w__law_of {G : Gx} {mg : Str → Option Value} {base : Heap} {k : Nat} {cf : CF} {cl : Nat → LF → List SV → Out (SV × List SV)} (h__law_draw : Cal G mg base k cf "_law_draw" 13 2) (z_len : mg "len" = none) : Wlk G mg base k cf cl ["draws", "some"] "_law_of" s__law_of t__law_of := fun f cdv A outer s H E c =>
(n_cons (s_ret (x_ix c.toCc (x_var 1 (pv 1)) (x_call c.toCc h__law_draw (a_cons (x_var 0 (pv 0)) (a_cons (x_b (cr_len c.toCc.hP c.toCc.hw c.toCc.hK) bt_len z_len (a_cons (x_var 1 (pv 1)) a_nil)) a_nil)))))
n_nil)
abbrev s__law_names : Stmt := topP 40
theorem w__law_names {G : Gx} {mg : Str → Option Value} {base : Heap} {k : Nat} {cf : CF} {cl : Nat → LF → List SV → Out (SV × List SV)} (h__law_of : Cal G mg base k cf "_law_of" 14 2) : Wlk G mg base k cf cl ["draws", "menus"] "_law_names" s__law_names t__law_names := fun f cdv A outer s H E c =>
(n_cons (s_set c (x_lst (a_cons (x_lst (a_cons x_str (a_cons x_str (a_cons x_str a_nil)))) (a_cons (x_lst (a_cons x_str (a_cons x_str (a_cons x_str a_nil)))) (a_cons (x_lst (a_cons x_str (a_cons x_str (a_cons x_str a_nil)))) (a_cons (x_lst (a_cons x_str (a_cons x_str (a_cons x_str a_nil)))) a_nil))))))
(n_cons (s_ret (x_call c.toCc h__law_of (a_cons (x_var 0 (pv 0)) (a_cons (x_var 1 (pv 1)) a_nil))))
n_nil))
abbrev s__law_kind : Stmt := topP 41
theorem w__law_kind {G : Gx} {mg : Str → Option Value} {base : Heap} {k : Nat} {cf : CF} {cl : Nat → LF → List SV → Out (SV × List SV)} (h__law_draw : Cal G mg base k cf "_law_draw" 13 2) : Wlk G mg base k cf cl ["draws", "name", "most", "parts"] "_law_kind" s__law_kind t__law_kind := fun f cdv A outer s H E c =>
(n_cons (s_set c x_non)
(n_cons (s_if (t_cmp c_gt (x_call c.toCc h__law_draw (a_cons (x_var 0 (pv 0)) (a_cons x_int a_nil))) x_int)
(n_cons (s_set c (x_tup (a_cons (x_add c.toCc x_int (x_call c.toCc h__law_draw (a_cons (x_var 0 (pv 0)) (a_cons x_int a_nil)))) (a_cons (x_add c.toCc x_int (x_call c.toCc h__law_draw (a_cons (x_var 0 (pv 0)) (a_cons x_int a_nil)))) a_nil))))
n_nil)
n_nil)
(n_cons (s_ret (x_tup (a_cons (x_var 1 (pv 1)) (a_cons (x_add c.toCc x_int (x_call c.toCc h__law_draw (a_cons (x_var 0 (pv 0)) (a_cons (x_var 2 (pv 2)) a_nil)))) (a_cons (x_var 3 (pv 3)) (a_cons (x_cmp (c_eq c.toCc) (x_call c.toCc h__law_draw (a_cons (x_var 0 (pv 0)) (a_cons x_int a_nil))) x_int) (a_cons (x_cmp (c_eq c.toCc) (x_call c.toCc h__law_draw (a_cons (x_var 0 (pv 0)) (a_cons x_int a_nil))) x_int) a_nil)))))))
n_nil)))
abbrev s__law_book : Stmt := topP 42
theorem w__law_book {G : Gx} {mg : Str → Option Value} {base : Heap} {k : Nat} {cf : CF} {cl : Nat → LF → List SV → Out (SV × List SV)} (h__law_draw : Cal G mg base k cf "_law_draw" 13 2) (h__law_kind : Cal G mg base k cf "_law_kind" 18 3) (h__law_names : Cal G mg base k cf "_law_names" 17 1) (z_min : mg "min" = none) (z_range : mg "range" = none) (z_tuple : mg "tuple" = none) : Wlk G mg base k cf cl ["draws", "high", "sum_so", "names", "found", "left", "k", "kind"] "_law_book" s__law_book t__law_book := fun f cdv A outer s H E c =>
(n_cons (s_par3 c (a_cons (x_call c.toCc h__law_names (a_cons (x_var 0 (pv 0)) a_nil)) (a_cons (x_lst a_nil) (a_cons (x_var 2 (pv 2)) a_nil))))
(n_cons (s_for c (i_rng1 z_range (x_add c.toCc x_int (x_call c.toCc h__law_draw (a_cons (x_var 0 (pv 0)) (a_cons x_int a_nil))))) (g_nm 6 (pg_name (i := 6) c.toCc.nd rfl (by first | exact Or.inl rfl | exact Or.inr rfl)))
(n_cons (s_if (t_cmp c_gt (x_var 5 (pv 5)) x_int)
(n_cons (s_set c (x_call c.toCc h__law_kind (a_cons (x_var 0 (pv 0)) (a_cons (x_ix c.toCc (x_var 3 (pv 3)) (x_var 6 (pv 6))) (a_cons (x_b (cr_min2 c.toCc.calm) bt_min z_min (a_cons (x_var 5 (pv 5)) (a_cons x_int a_nil))) a_nil)))))
(n_cons (s_set c (x_sub (x_var 5 (pv 5)) (x_ix c.toCc (x_var 7 (pv 7)) x_int)))
(n_cons (s_app c (pv 4) (x_var 7 (pv 7)))
n_nil)))
n_nil)
n_nil))
(n_cons (s_ret (x_tup (a_cons (x_add c.toCc x_int (x_call c.toCc h__law_draw (a_cons (x_var 0 (pv 0)) (a_cons (x_sub (x_var 1 (pv 1)) x_int) a_nil)))) (a_cons (x_t (cr_tuple c.toCc.hK) bt_tuple z_tuple (a_cons (x_var 4 (pv 4)) a_nil)) a_nil))))
n_nil)))
abbrev s__law_near : Stmt := topP 43
theorem w__law_near {G : Gx} {mg : Str → Option Value} {base : Heap} {k : Nat} {cf : CF} {cl : Nat → LF → List SV → Out (SV × List SV)} (h__law_of : Cal G mg base k cf "_law_of" 14 2) (h__law_draw : Cal G mg base k cf "_law_draw" 13 2) (z_len : mg "len" = none) : Wlk G mg base k cf cl ["draws", "book_so", "height", "kinds", "at_so", "way", "name", "most", "parts", "joins", "opens"] "_law_near" s__law_near t__law_near := fun f cdv A outer s H E c =>
(n_cons (s_unp (x_var 1 (pv 1)) (g_tp c.toCc (gs_cons (g_nm 2 (pg_name (i := 2) c.toCc.nd rfl (by first | exact Or.inl rfl | exact Or.inr rfl))) (gs_cons (g_nm 3 (pg_name (i := 3) c.toCc.nd rfl (by first | exact Or.inl rfl | exact Or.inr rfl))) gs_nil))))
(n_cons (s_par2 c (a_cons (x_call c.toCc h__law_draw (a_cons (x_var 0 (pv 0)) (a_cons (x_b (cr_len c.toCc.hP c.toCc.hw c.toCc.hK) bt_len z_len (a_cons (x_var 3 (pv 3)) a_nil)) a_nil))) (a_cons (x_call c.toCc h__law_draw (a_cons (x_var 0 (pv 0)) (a_cons x_int a_nil))) a_nil)))
(n_cons (s_if (t_cmp (c_eq c.toCc) (x_var 5 (pv 5)) x_int)
(n_cons (s_ret (x_tup (a_cons (x_add c.toCc x_int (x_call c.toCc h__law_draw (a_cons (x_var 0 (pv 0)) (a_cons x_int a_nil)))) (a_cons (x_var 3 (pv 3)) a_nil))))
n_nil)
n_nil)
(n_cons (s_unp (x_ix c.toCc (x_var 3 (pv 3)) (x_var 4 (pv 4))) (g_tp c.toCc (gs_cons (g_nm 6 (pg_name (i := 6) c.toCc.nd rfl (by first | exact Or.inl rfl | exact Or.inr rfl))) (gs_cons (g_nm 7 (pg_name (i := 7) c.toCc.nd rfl (by first | exact Or.inl rfl | exact Or.inr rfl))) (gs_cons (g_nm 8 (pg_name (i := 8) c.toCc.nd rfl (by first | exact Or.inl rfl | exact Or.inr rfl))) (gs_cons (g_nm 9 (pg_name (i := 9) c.toCc.nd rfl (by first | exact Or.inl rfl | exact Or.inr rfl))) (gs_cons (g_nm 10 (pg_name (i := 10) c.toCc.nd rfl (by first | exact Or.inl rfl | exact Or.inr rfl))) gs_nil)))))))
(n_cons (s_if (t_cmp (c_eq c.toCc) (x_var 5 (pv 5)) x_int)
(n_cons (s_set c (x_call c.toCc h__law_of (a_cons (x_var 0 (pv 0)) (a_cons (x_lst (a_cons x_non (a_cons (x_tup (a_cons x_int (a_cons x_int a_nil))) (a_cons (x_tup (a_cons x_int (a_cons x_int a_nil))) (a_cons (x_tup (a_cons x_int (a_cons x_int a_nil))) (a_cons (x_tup (a_cons x_int (a_cons x_int a_nil))) a_nil)))))) a_nil))))
n_nil)
n_nil)
(n_cons (s_if (t_cmp (c_eq c.toCc) (x_var 5 (pv 5)) x_int)
(n_cons (s_set c (me_not (x_var 9 (pv 9))))
n_nil)
n_nil)
(n_cons (s_if (t_cmp (c_eq c.toCc) (x_var 5 (pv 5)) x_int)
(n_cons (s_set c (me_not (x_var 10 (pv 10))))
n_nil)
n_nil)
(n_cons (s_ret (x_tup (a_cons (x_var 2 (pv 2)) (a_cons (x_add c.toCc (x_add c.toCc (x_slc c.toCc (x_var 3 (pv 3)) o_nil (o_some (x_var 4 (pv 4)))) (x_tup (a_cons (x_tup (a_cons (x_var 6 (pv 6)) (a_cons (x_var 7 (pv 7)) (a_cons (x_var 8 (pv 8)) (a_cons (x_var 9 (pv 9)) (a_cons (x_var 10 (pv 10)) a_nil)))))) a_nil))) (x_slc c.toCc (x_var 3 (pv 3)) (o_some (x_add c.toCc (x_var 4 (pv 4)) x_int)) o_nil)) a_nil))))
n_nil))))))))
abbrev s__law_blocks : Stmt := topP 44
theorem w__law_blocks {G : Gx} {mg : Str → Option Value} {base : Heap} {k : Nat} {cf : CF} {cl : Nat → LF → List SV → Out (SV × List SV)} (z_range : mg "range" = none) : Wlk G mg base k cf cl ["book_so", "found", "kind", "lines"] "_law_blocks" s__law_blocks t__law_blocks := fun f cdv A outer s H E c =>
(n_cons (s_set c (x_lst a_nil))
(n_cons (s_for c (i_seq c.toCc (x_ix c.toCc (x_var 0 (pv 0)) x_int)) (g_nm 2 (pg_name (i := 2) c.toCc.nd rfl (by first | exact Or.inl rfl | exact Or.inr rfl)))
(n_cons (s_set c (x_add c.toCc (x_var 1 (pv 1)) (x_comp c.toCc [(("lines" : Str), 3)] (i_rng2 z_range x_int (x_add c.toCc (x_ix c.toCc (x_var 2 (pv 2)) x_int) x_int)) (fun _ _ _ _ _ b1 => (g_nm 3 (pg_name (i := 3) b1.nd rfl (by first | exact Or.inl rfl | exact Or.inr rfl)))) (fun _ _ _ _ _ b1 => d_nil) (fun _ _ _ _ _ b1 => (x_tup (a_cons (x_ix b1 (x_var 2 (pv 2)) x_int) (a_cons (x_var 3 (pv 3)) a_nil)))))))
n_nil))
(n_cons (s_ret (x_var 1 (pv 1)))
n_nil)))
abbrev s__law_document : Stmt := topP 45
theorem w__law_document {G : Gx} {mg : Str → Option Value} {base : Heap} {k : Nat} {cf : CF} {cl : Nat → LF → List SV → Out (SV × List SV)} (h__law_draw : Cal G mg base k cf "_law_draw" 13 2) (h__law_of : Cal G mg base k cf "_law_of" 14 2) (h__law_blocks : Cal G mg base k cf "_law_blocks" 20 1) (z_range : mg "range" = none) (z_tuple : mg "tuple" = none) : Wlk G mg base k cf cl ["draws", "book_so", "most", "every", "found", "few", "turn"] "_law_document" s__law_document t__law_document := fun f cdv A outer s H E c =>
(n_cons (s_par2 c (a_cons (x_call c.toCc h__law_blocks (a_cons (x_var 1 (pv 1)) a_nil)) (a_cons (x_lst a_nil) a_nil)))
(n_cons (s_set c (x_lst (a_cons (x_call c.toCc h__law_of (a_cons (x_var 0 (pv 0)) (a_cons (x_var 3 (pv 3)) a_nil))) (a_cons (x_call c.toCc h__law_of (a_cons (x_var 0 (pv 0)) (a_cons (x_var 3 (pv 3)) a_nil))) a_nil))))
(n_cons (s_for c (i_rng1 z_range (x_call c.toCc h__law_draw (a_cons (x_var 0 (pv 0)) (a_cons (x_add c.toCc (x_var 2 (pv 2)) x_int) a_nil)))) (g_nm 6 (pg_name (i := 6) c.toCc.nd rfl (by first | exact Or.inl rfl | exact Or.inr rfl)))
(n_cons (s_app c (pv 4) (x_call c.toCc h__law_of (a_cons (x_var 0 (pv 0)) (a_cons (x_add c.toCc (x_add c.toCc (x_add c.toCc (x_var 3 (pv 3)) (x_var 5 (pv 5))) (x_var 5 (pv 5))) (x_var 5 (pv 5))) a_nil))))
n_nil))
(n_cons (s_ret (x_t (cr_tuple c.toCc.hK) bt_tuple z_tuple (a_cons (x_var 4 (pv 4)) a_nil)))
n_nil))))
abbrev s__law_taken : Stmt := topP 46
theorem w__law_taken {G : Gx} {mg : Str → Option Value} {base : Heap} {k : Nat} {cf : CF} {cl : Nat → LF → List SV → Out (SV × List SV)} (z_list : mg "list" = none) (z_tuple : mg "tuple" = none) : Wlk G mg base k cf cl ["book_so", "name", "rule", "found", "kind", "some", "at_so"] "_law_taken" s__law_taken t__law_taken := fun f cdv A outer s H E c =>
(n_cons (s_set c (x_lst a_nil))
(n_cons (s_for c (i_seq c.toCc (x_ix c.toCc (x_var 0 (pv 0)) x_int)) (g_nm 4 (pg_name (i := 4) c.toCc.nd rfl (by first | exact Or.inl rfl | exact Or.inr rfl)))
(n_cons (s_set c (x_t (cr_list c.toCc.hP c.toCc.hw c.toCc.hK c.toCc.calm) bt_list z_list (a_cons (x_var 4 (pv 4)) a_nil)))
(n_cons (s_if (t_cmp (c_eq c.toCc) (x_ix c.toCc (x_var 4 (pv 4)) x_int) (x_var 1 (pv 1)))
(n_cons (s_set c (x_add c.toCc (x_index c.toCc (x_lst (a_cons x_str (a_cons x_str (a_cons x_str a_nil)))) (x_var 2 (pv 2))) x_int))
(n_cons (s_sub c (pv 5) (x_var 6 (pv 6)) (x_ite (t_cmp (c_eq c.toCc) (x_var 2 (pv 2)) x_str) (x_tup (a_cons x_int (a_cons x_int a_nil))) x_bl))
n_nil))
n_nil)
(n_cons (s_app c (pv 3) (x_t (cr_tuple c.toCc.hK) bt_tuple z_tuple (a_cons (x_var 5 (pv 5)) a_nil)))
n_nil))))
(n_cons (s_ret (x_tup (a_cons (x_ix c.toCc (x_var 0 (pv 0)) x_int) (a_cons (x_t (cr_tuple c.toCc.hK) bt_tuple z_tuple (a_cons (x_var 3 (pv 3)) a_nil)) a_nil))))
n_nil)))
abbrev s_law : Stmt := topP 47
theorem w_law {G : Gx} {mg : Str → Option Value} {base : Heap} {k : Nat} {cf : CF} {cl : Nat → LF → List SV → Out (SV × List SV)} (h_pages : Cal G mg base k cf "pages" 50 2) (h__law_document : Cal G mg base k cf "_law_document" 21 3) (h_are_alike : Cal G mg base k cf "are_alike" 121 2) (h_parting_document : Cal G mg base k cf "parting_document" 122 2) (h_needless_rules : Cal G mg base k cf "needless_rules" 126 1) (h__law_taken : Cal G mg base k cf "_law_taken" 131 3) (h__law_near : Cal G mg base k cf "_law_near" 68 2) (h__law_book : Cal G mg base k cf "_law_book" 19 3) (h__law_draws : Cal G mg base k cf "_law_draws" 12 2) (z_len : mg "len" = none) (z_max : mg "max" = none) (z_min : mg "min" = none) (z_range : mg "range" = none) : Wlk G mg base k cf cl ["script", "k", "draws", "one", "others", "name", "rule", "other", "told", "turn", "document"] "law" s_law t_law_k18 := fun f cdv A outer s H E c =>
(n_cons (s_for c (i_rng1 z_range (x_b (cr_max2 c.toCc.calm) bt_max z_max (a_cons x_int (a_cons (x_b (cr_min2 c.toCc.calm) bt_min z_min (a_cons x_int (a_cons (x_b (cr_len c.toCc.hP c.toCc.hw c.toCc.hK) bt_len z_len (a_cons (x_var 0 (pv 0)) a_nil)) a_nil))) a_nil)))) (g_nm 1 (pg_name (i := 1) c.toCc.nd rfl (by first | exact Or.inl rfl | exact Or.inr rfl)))
(n_cons (s_set c (x_call c.toCc h__law_draws (a_cons (x_var 0 (pv 0)) (a_cons (x_var 1 (pv 1)) a_nil))))
(n_cons (s_set c (x_call c.toCc h__law_book (a_cons (x_var 2 (pv 2)) (a_cons x_int (a_cons x_int a_nil)))))
(n_cons (s_set c (x_lst (a_cons (x_call c.toCc h__law_near (a_cons (x_var 2 (pv 2)) (a_cons (x_var 3 (pv 3)) a_nil))) (a_cons (x_call c.toCc h__law_near (a_cons (x_var 2 (pv 2)) (a_cons (x_var 3 (pv 3)) a_nil))) a_nil))))
(n_cons (s_for c (i_seq c.toCc (x_call c.toCc h_needless_rules (a_cons (x_var 3 (pv 3)) a_nil))) (g_tp c.toCc (gs_cons (g_nm 5 (pg_name (i := 5) c.toCc.nd rfl (by first | exact Or.inl rfl | exact Or.inr rfl))) (gs_cons (g_nm 6 (pg_name (i := 6) c.toCc.nd rfl (by first | exact Or.inl rfl | exact Or.inr rfl))) gs_nil)))
(n_cons (s_app c (pv 4) (x_call c.toCc h__law_taken (a_cons (x_var 3 (pv 3)) (a_cons (x_var 5 (pv 5)) (a_cons (x_var 6 (pv 6)) a_nil)))))
(n_cons (s_if (t_not (t_val (x_call c.toCc h_are_alike (a_cons (x_var 3 (pv 3)) (a_cons (x_ix c.toCc (x_var 4 (pv 4)) (x_neg x_int)) a_nil)))))
(n_cons (s_ret x_bl)
n_nil)
n_nil)
n_nil)))
(n_cons (s_for c (i_seq c.toCc (x_var 4 (pv 4))) (g_nm 7 (pg_name (i := 7) c.toCc.nd rfl (by first | exact Or.inl rfl | exact Or.inr rfl)))
(n_cons (s_set c (x_call c.toCc h_parting_document (a_cons (x_var 3 (pv 3)) (a_cons (x_var 7 (pv 7)) a_nil))))
(n_cons (s_if (t_cmp (c_ne c.toCc) (x_cmp c_isn (x_var 8 (pv 8)) x_non) (x_call c.toCc h_are_alike (a_cons (x_var 3 (pv 3)) (a_cons (x_var 7 (pv 7)) a_nil))))
(n_cons (s_ret x_bl)
n_nil)
n_nil)
(n_cons (s_if (t_bool (w_and (t_cmp c_notn (x_var 8 (pv 8)) x_non) (w_and1 (t_bool (w_or (t_cmp (c_eq c.toCc) (x_call c.toCc h_pages (a_cons (x_var 3 (pv 3)) (a_cons (x_var 8 (pv 8)) a_nil))) (x_call c.toCc h_pages (a_cons (x_var 7 (pv 7)) (a_cons (x_var 8 (pv 8)) a_nil)))) (w_or1 (t_cmp (c_eq c.toCc) (x_var 8 (pv 8)) (x_tup a_nil))))))))
(n_cons (s_ret x_bl)
n_nil)
n_nil)
(n_cons (s_if (t_bool (w_and (t_cmp c_notn (x_var 8 (pv 8)) x_non) (w_and1 (t_cmp (c_ne c.toCc) (x_call c.toCc h_pages (a_cons (x_var 3 (pv 3)) (a_cons (x_slc c.toCc (x_var 8 (pv 8)) o_nil (o_some (x_neg x_int))) a_nil))) (x_call c.toCc h_pages (a_cons (x_var 7 (pv 7)) (a_cons (x_slc c.toCc (x_var 8 (pv 8)) o_nil (o_some (x_neg x_int))) a_nil)))))))
(n_cons (s_ret x_bl)
n_nil)
n_nil)
(n_cons (s_for c (i_rng1 z_range x_int) (g_nm 9 (pg_name (i := 9) c.toCc.nd rfl (by first | exact Or.inl rfl | exact Or.inr rfl)))
(n_cons (s_set c (x_call c.toCc h__law_document (a_cons (x_var 2 (pv 2)) (a_cons (x_var 3 (pv 3)) (a_cons (x_ite (t_cmp c_isn (x_var 8 (pv 8)) x_non) x_int (x_sub (x_b (cr_len c.toCc.hP c.toCc.hw c.toCc.hK) bt_len z_len (a_cons (x_var 8 (pv 8)) a_nil)) x_int)) a_nil)))))
(n_cons (s_if (t_cmp (c_ne c.toCc) (x_call c.toCc h_pages (a_cons (x_var 3 (pv 3)) (a_cons (x_var 10 (pv 10)) a_nil))) (x_call c.toCc h_pages (a_cons (x_var 7 (pv 7)) (a_cons (x_var 10 (pv 10)) a_nil))))
(n_cons (s_ret x_bl)
n_nil)
n_nil)
n_nil)))
n_nil))))))
n_nil))))))
(n_cons (s_ret x_bl)
n_nil))
end MP
namespace MP
open PySem PySem.Spec PyProof.Rows L2
set_option maxRecDepth 100000
set_option maxHeartbeats 4000000
def pg : Nat → Option Df
  | 0 => some t_is_from
  | 1 => some t_is_name
  | 2 => some t_are_parts
  | 3 => some t_is_kind
  | 4 => some t_is_book
  | 5 => some t_check_book
  | 6 => some t_kind_of
  | 7 => some t_is_block
  | 8 => some t_is_row
  | 44 => some t_check_document
  | 9 => some t_all_blocks
  | 37 => some t_greatest_part
  | 38 => some t_filled
  | 45 => some t_steps
  | 46 => some t_pages_of
  | 47 => some t_pieces
  | 50 => some t_pages
  | 119 => some t_check_both
  | 120 => some t_parted
  | 124 => some t_taken_back
  | 125 => some t_rules_of
  | 121 => some t_are_alike
  | 122 => some t_parting_document
  | 126 => some t_needless_rules
  | 12 => some t__law_draws
  | 13 => some t__law_draw
  | 14 => some t__law_of
  | 17 => some t__law_names
  | 18 => some t__law_kind
  | 19 => some t__law_book
  | 68 => some t__law_near
  | 20 => some t__law_blocks
  | 21 => some t__law_document
  | 131 => some t__law_taken
  | 35 => some t_law_k18
  | _ => none
structure Fct (G : Gx) (mg : Str → Option Value) : Prop where
  d_is_from : Std G mg "is_from" s_is_from ["value", "low", "high"]
  d_is_name : Std G mg "is_name" s_is_name ["value"]
  d_are_parts : Std G mg "are_parts" s_are_parts ["value"]
  d_is_kind : Std G mg "is_kind" s_is_kind ["value"]
  d_is_book : Std G mg "is_book" s_is_book ["value"]
  d_check_book : Std G mg "check_book" s_check_book ["book"]
  d_kind_of : Std G mg "kind_of" s_kind_of ["book", "name"]
  d_is_block : Std G mg "is_block" s_is_block ["book", "value"]
  d_is_row : Std G mg "is_row" s_is_row ["book", "value"]
  d_check_document : Std G mg "check_document" s_check_document ["book", "document"]
  d_all_blocks : Std G mg "all_blocks" s_all_blocks ["book"]
  d_greatest_part : Std G mg "greatest_part" s_greatest_part ["parts", "room", "rest"]
  d_filled : Std G mg "filled" s_filled ["book", "stand", "block"]
  d_steps : Std G mg "steps" s_steps ["book", "document"]
  d_pages_of : Std G mg "pages_of" s_pages_of ["book", "document"]
  d_pieces : Std G mg "pieces" s_pieces ["document", "begin", "end"]
  d_pages : Std G mg "pages" s_pages ["book", "document"]
  d_check_both : Std G mg "check_both" s_check_both ["one", "other"]
  d_parted : Std G mg "parted" s_parted ["one", "other"]
  d_taken_back : Std G mg "taken_back" s_taken_back ["book", "name", "rule"]
  d_rules_of : Std G mg "rules_of" s_rules_of ["book"]
  d_are_alike : Std G mg "are_alike" s_are_alike ["one", "other"]
  d_parting_document : Std G mg "parting_document" s_parting_document ["one", "other"]
  d_needless_rules : Std G mg "needless_rules" s_needless_rules ["book"]
  d__law_draws : Std G mg "_law_draws" s__law_draws ["script", "k"]
  d__law_draw : Std G mg "_law_draw" s__law_draw ["draws", "many"]
  d__law_of : Std G mg "_law_of" s__law_of ["draws", "some"]
  d__law_names : Std G mg "_law_names" s__law_names ["draws"]
  d__law_kind : Std G mg "_law_kind" s__law_kind ["draws", "name", "most"]
  d__law_book : Std G mg "_law_book" s__law_book ["draws", "high", "sum_so"]
  d__law_near : Std G mg "_law_near" s__law_near ["draws", "book_so"]
  d__law_blocks : Std G mg "_law_blocks" s__law_blocks ["book_so"]
  d__law_document : Std G mg "_law_document" s__law_document ["draws", "book_so", "most"]
  d__law_taken : Std G mg "_law_taken" s__law_taken ["book_so", "name", "rule"]
  z_abs : mg "abs" = none
  z_all : mg "all" = none
  z_bool : mg "bool" = none
  z_enumerate : mg "enumerate" = none
  z_int : mg "int" = none
  z_isinstance : mg "isinstance" = none
  z_len : mg "len" = none
  z_list : mg "list" = none
  z_max : mg "max" = none
  z_min : mg "min" = none
  z_range : mg "range" = none
  z_str : mg "str" = none
  z_sum : mg "sum" = none
  z_tuple : mg "tuple" = none
  z_zip : mg "zip" = none
  k_LETTERS : Con G mg "LETTERS" (.str (S "abcdefghijklmnopqrstuvwxyz"))
  k_MOST_BLOCKS : Con G mg "MOST_BLOCKS" (.int 8)
  k_FIRST : Con G mg "FIRST" (.tup [(.int 0), (.int 0)])
  k_RULES : Con G mg "RULES" (.tup [(.str (S "joins")), (.str (S "opens")), (.str (S "parts"))])
  e_InvalidBook : Exn G mg "InvalidBook"
  e_InvalidDocument : Exn G mg "InvalidDocument"
  e_Unlike : Exn G mg "Unlike"
structure AllC (G : Gx) (mg : Str → Option Value) (base : Heap) (n : Nat) : Prop where
  h_is_from : Cal G mg base n (fun g us => callL pg n g none us) "is_from" 0 3
  h_is_name : Cal G mg base n (fun g us => callL pg n g none us) "is_name" 1 1
  h_are_parts : Cal G mg base n (fun g us => callL pg n g none us) "are_parts" 2 1
  h_is_kind : Cal G mg base n (fun g us => callL pg n g none us) "is_kind" 3 1
  h_is_book : Cal G mg base n (fun g us => callL pg n g none us) "is_book" 4 1
  h_check_book : Cal G mg base n (fun g us => callL pg n g none us) "check_book" 5 1
  h_kind_of : Cal G mg base n (fun g us => callL pg n g none us) "kind_of" 6 2
  h_is_block : Cal G mg base n (fun g us => callL pg n g none us) "is_block" 7 2
  h_is_row : Cal G mg base n (fun g us => callL pg n g none us) "is_row" 8 2
  h_check_document : Cal G mg base n (fun g us => callL pg n g none us) "check_document" 44 2
  h_all_blocks : Cal G mg base n (fun g us => callL pg n g none us) "all_blocks" 9 1
  h_greatest_part : Cal G mg base n (fun g us => callL pg n g none us) "greatest_part" 37 3
  h_filled : Cal G mg base n (fun g us => callL pg n g none us) "filled" 38 3
  h_steps : Cal G mg base n (fun g us => callL pg n g none us) "steps" 45 2
  h_pages_of : Cal G mg base n (fun g us => callL pg n g none us) "pages_of" 46 2
  h_pieces : Cal G mg base n (fun g us => callL pg n g none us) "pieces" 47 3
  h_pages : Cal G mg base n (fun g us => callL pg n g none us) "pages" 50 2
  h_check_both : Cal G mg base n (fun g us => callL pg n g none us) "check_both" 119 2
  h_parted : Cal G mg base n (fun g us => callL pg n g none us) "parted" 120 2
  h_taken_back : Cal G mg base n (fun g us => callL pg n g none us) "taken_back" 124 3
  h_rules_of : Cal G mg base n (fun g us => callL pg n g none us) "rules_of" 125 1
  h_are_alike : Cal G mg base n (fun g us => callL pg n g none us) "are_alike" 121 2
  h_parting_document : Cal G mg base n (fun g us => callL pg n g none us) "parting_document" 122 2
  h_needless_rules : Cal G mg base n (fun g us => callL pg n g none us) "needless_rules" 126 1
  h__law_draws : Cal G mg base n (fun g us => callL pg n g none us) "_law_draws" 12 2
  h__law_draw : Cal G mg base n (fun g us => callL pg n g none us) "_law_draw" 13 2
  h__law_of : Cal G mg base n (fun g us => callL pg n g none us) "_law_of" 14 2
  h__law_names : Cal G mg base n (fun g us => callL pg n g none us) "_law_names" 17 1
  h__law_kind : Cal G mg base n (fun g us => callL pg n g none us) "_law_kind" 18 3
  h__law_book : Cal G mg base n (fun g us => callL pg n g none us) "_law_book" 19 3
  h__law_near : Cal G mg base n (fun g us => callL pg n g none us) "_law_near" 68 2
  h__law_blocks : Cal G mg base n (fun g us => callL pg n g none us) "_law_blocks" 20 1
  h__law_document : Cal G mg base n (fun g us => callL pg n g none us) "_law_document" 21 3
  h__law_taken : Cal G mg base n (fun g us => callL pg n g none us) "_law_taken" 131 3
theorem sc_is_from : FnScope ["value", "low", "high"] ["value", "low", "high"] (defScope s_is_from) := ⟨rfl, rfl, rfl, by decide +kernel, rfl, by decide +kernel, by decide +kernel⟩
theorem sc_is_name : FnScope ["value", "sign"] ["value"] (defScope s_is_name) := ⟨rfl, rfl, rfl, by decide +kernel, rfl, by decide +kernel, by decide +kernel⟩
theorem sc_are_parts : FnScope ["value", "one"] ["value"] (defScope s_are_parts) := ⟨rfl, rfl, rfl, by decide +kernel, rfl, by decide +kernel, by decide +kernel⟩
theorem sc_is_kind : FnScope ["value"] ["value"] (defScope s_is_kind) := ⟨rfl, rfl, rfl, by decide +kernel, rfl, by decide +kernel, by decide +kernel⟩
theorem sc_is_book : FnScope ["value", "one", "names", "other"] ["value"] (defScope s_is_book) := ⟨rfl, rfl, rfl, by decide +kernel, rfl, by decide +kernel, by decide +kernel⟩
theorem sc_check_book : FnScope ["book"] ["book"] (defScope s_check_book) := ⟨rfl, rfl, rfl, by decide +kernel, rfl, by decide +kernel, by decide +kernel⟩
theorem sc_kind_of : FnScope ["book", "name", "kind"] ["book", "name"] (defScope s_kind_of) := ⟨rfl, rfl, rfl, by decide +kernel, rfl, by decide +kernel, by decide +kernel⟩
theorem sc_is_block : FnScope ["book", "value", "kind"] ["book", "value"] (defScope s_is_block) := ⟨rfl, rfl, rfl, by decide +kernel, rfl, by decide +kernel, by decide +kernel⟩
theorem sc_is_row : FnScope ["book", "value", "block"] ["book", "value"] (defScope s_is_row) := ⟨rfl, rfl, rfl, by decide +kernel, rfl, by decide +kernel, by decide +kernel⟩
theorem sc_check_document : FnScope ["book", "document"] ["book", "document"] (defScope s_check_document) := ⟨rfl, rfl, rfl, by decide +kernel, rfl, by decide +kernel, by decide +kernel⟩
theorem sc_all_blocks : FnScope ["book", "found", "kind", "lines"] ["book"] (defScope s_all_blocks) := ⟨rfl, rfl, rfl, by decide +kernel, rfl, by decide +kernel, by decide +kernel⟩
theorem sc_greatest_part : FnScope ["parts", "room", "rest", "most"] ["parts", "room", "rest"] (defScope s_greatest_part) := ⟨rfl, rfl, rfl, by decide +kernel, rfl, by decide +kernel, by decide +kernel⟩
theorem sc_filled : FnScope ["book", "stand", "block", "height", "kind", "used", "held", "rest", "blanks", "words", "cuts", "part", "later"] ["book", "stand", "block"] (defScope s_filled) := ⟨rfl, rfl, rfl, by decide +kernel, rfl, by decide +kernel, by decide +kernel⟩
theorem sc_steps : FnScope ["book", "document", "found", "stand", "block"] ["book", "document"] (defScope s_steps) := ⟨rfl, rfl, rfl, by decide +kernel, rfl, by decide +kernel, by decide +kernel⟩
theorem sc_pages_of : FnScope ["book", "document", "ends", "at", "step", "block", "cut", "found", "begin", "end"] ["book", "document"] (defScope s_pages_of) := ⟨rfl, rfl, rfl, by decide +kernel, rfl, by decide +kernel, by decide +kernel⟩
theorem sc_pieces : FnScope ["document", "begin", "end", "found", "at", "index", "block", "lines"] ["document", "begin", "end"] (defScope s_pieces) := ⟨rfl, rfl, rfl, by decide +kernel, rfl, by decide +kernel, by decide +kernel⟩
theorem sc_pages : FnScope ["book", "document"] ["book", "document"] (defScope s_pages) := ⟨rfl, rfl, rfl, by decide +kernel, rfl, by decide +kernel, by decide +kernel⟩
theorem sc_check_both : FnScope ["one", "other", "kind"] ["one", "other"] (defScope s_check_both) := ⟨rfl, rfl, rfl, by decide +kernel, rfl, by decide +kernel, by decide +kernel⟩
theorem sc_parted : FnScope ["one", "other", "found", "line", "later", "pair", "document", "block", "mine", "their", "there"] ["one", "other"] (defScope s_parted) := ⟨rfl, rfl, rfl, by decide +kernel, rfl, by decide +kernel, by decide +kernel⟩
theorem sc_taken_back : FnScope ["book", "name", "rule", "kinds", "kind", "parts"] ["book", "name", "rule"] (defScope s_taken_back) := ⟨rfl, rfl, rfl, by decide +kernel, rfl, by decide +kernel, by decide +kernel⟩
theorem sc_rules_of : FnScope ["book", "found", "name", "most", "parts", "joins", "opens", "rule", "there"] ["book"] (defScope s_rules_of) := ⟨rfl, rfl, rfl, by decide +kernel, rfl, by decide +kernel, by decide +kernel⟩
theorem sc_are_alike : FnScope ["one", "other"] ["one", "other"] (defScope s_are_alike) := ⟨rfl, rfl, rfl, by decide +kernel, rfl, by decide +kernel, by decide +kernel⟩
theorem sc_parting_document : FnScope ["one", "other"] ["one", "other"] (defScope s_parting_document) := ⟨rfl, rfl, rfl, by decide +kernel, rfl, by decide +kernel, by decide +kernel⟩
theorem sc_needless_rules : FnScope ["book", "pair"] ["book"] (defScope s_needless_rules) := ⟨rfl, rfl, rfl, by decide +kernel, rfl, by decide +kernel, by decide +kernel⟩
theorem sc__law_draws : FnScope ["script", "k", "cell", "one", "stir"] ["script", "k"] (defScope s__law_draws) := ⟨rfl, rfl, rfl, by decide +kernel, rfl, by decide +kernel, by decide +kernel⟩
theorem sc__law_draw : FnScope ["draws", "many", "found", "wide"] ["draws", "many"] (defScope s__law_draw) := ⟨rfl, rfl, rfl, by decide +kernel, rfl, by decide +kernel, by decide +kernel⟩
theorem sc__law_of : FnScope ["draws", "some"] ["draws", "some"] (defScope s__law_of) := ⟨rfl, rfl, rfl, by decide +kernel, rfl, by decide +kernel, by decide +kernel⟩
theorem sc__law_names : FnScope ["draws", "menus"] ["draws"] (defScope s__law_names) := ⟨rfl, rfl, rfl, by decide +kernel, rfl, by decide +kernel, by decide +kernel⟩
theorem sc__law_kind : FnScope ["draws", "name", "most", "parts"] ["draws", "name", "most"] (defScope s__law_kind) := ⟨rfl, rfl, rfl, by decide +kernel, rfl, by decide +kernel, by decide +kernel⟩
theorem sc__law_book : FnScope ["draws", "high", "sum_so", "names", "found", "left", "k", "kind"] ["draws", "high", "sum_so"] (defScope s__law_book) := ⟨rfl, rfl, rfl, by decide +kernel, rfl, by decide +kernel, by decide +kernel⟩
theorem sc__law_near : FnScope ["draws", "book_so", "height", "kinds", "at_so", "way", "name", "most", "parts", "joins", "opens"] ["draws", "book_so"] (defScope s__law_near) := ⟨rfl, rfl, rfl, by decide +kernel, rfl, by decide +kernel, by decide +kernel⟩
theorem sc__law_blocks : FnScope ["book_so", "found", "kind", "lines"] ["book_so"] (defScope s__law_blocks) := ⟨rfl, rfl, rfl, by decide +kernel, rfl, by decide +kernel, by decide +kernel⟩
theorem sc__law_document : FnScope ["draws", "book_so", "most", "every", "found", "few", "turn"] ["draws", "book_so", "most"] (defScope s__law_document) := ⟨rfl, rfl, rfl, by decide +kernel, rfl, by decide +kernel, by decide +kernel⟩
theorem sc__law_taken : FnScope ["book_so", "name", "rule", "found", "kind", "some", "at_so"] ["book_so", "name", "rule"] (defScope s__law_taken) := ⟨rfl, rfl, rfl, by decide +kernel, rfl, by decide +kernel, by decide +kernel⟩
theorem sc_law : FnScope ["script", "k", "draws", "one", "others", "name", "rule", "other", "told", "turn", "document"] ["script"] (defScope s_law) := ⟨rfl, rfl, rfl, by decide +kernel, rfl, by decide +kernel, by decide +kernel⟩
theorem all_0 {G : Gx} {mg : Str → Option Value} {base : Heap} (F : Fct G mg) : AllC G mg base 0 :=
  ⟨cal_zero F.d_is_from rfl, cal_zero F.d_is_name rfl, cal_zero F.d_are_parts rfl, cal_zero F.d_is_kind rfl, cal_zero F.d_is_book rfl, cal_zero F.d_check_book rfl, cal_zero F.d_kind_of rfl, cal_zero F.d_is_block rfl, cal_zero F.d_is_row rfl, cal_zero F.d_check_document rfl, cal_zero F.d_all_blocks rfl, cal_zero F.d_greatest_part rfl, cal_zero F.d_filled rfl, cal_zero F.d_steps rfl, cal_zero F.d_pages_of rfl, cal_zero F.d_pieces rfl, cal_zero F.d_pages rfl, cal_zero F.d_check_both rfl, cal_zero F.d_parted rfl, cal_zero F.d_taken_back rfl, cal_zero F.d_rules_of rfl, cal_zero F.d_are_alike rfl, cal_zero F.d_parting_document rfl, cal_zero F.d_needless_rules rfl, cal_zero F.d__law_draws rfl, cal_zero F.d__law_draw rfl, cal_zero F.d__law_of rfl, cal_zero F.d__law_names rfl, cal_zero F.d__law_kind rfl, cal_zero F.d__law_book rfl, cal_zero F.d__law_near rfl, cal_zero F.d__law_blocks rfl, cal_zero F.d__law_document rfl, cal_zero F.d__law_taken rfl⟩
theorem all_up {G : Gx} {mg : Str → Option Value} {base : Heap} {n : Nat} (F : Fct G mg) (a : AllC G mg base n) : AllC G mg base (n + 1) where
  h_is_from := cal_up rfl F.d_is_from sc_is_from rfl rfl (w_is_from F.z_bool F.z_int F.z_isinstance)
  h_is_name := cal_up rfl F.d_is_name sc_is_name rfl rfl (w_is_name F.k_LETTERS F.z_all F.z_isinstance F.z_len F.z_str)
  h_are_parts := cal_up rfl F.d_are_parts sc_are_parts rfl rfl (w_are_parts a.h_is_from F.z_all F.z_isinstance F.z_len F.z_tuple)
  h_is_kind := cal_up rfl F.d_is_kind sc_is_kind rfl rfl (w_is_kind a.h_are_parts a.h_is_from a.h_is_name F.z_bool F.z_isinstance F.z_len F.z_tuple)
  h_is_book := cal_up rfl F.d_is_book sc_is_book rfl rfl (w_is_book a.h_is_kind a.h_is_from F.k_MOST_BLOCKS F.z_all F.z_isinstance F.z_len F.z_sum F.z_tuple F.z_zip)
  h_check_book := cal_up rfl F.d_check_book sc_check_book rfl rfl (w_check_book a.h_is_book F.e_InvalidBook)
  h_kind_of := cal_up rfl F.d_kind_of sc_kind_of rfl rfl (w_kind_of )
  h_is_block := cal_up rfl F.d_is_block sc_is_block rfl rfl (w_is_block a.h_is_from a.h_kind_of F.z_isinstance F.z_len F.z_str F.z_tuple)
  h_is_row := cal_up rfl F.d_is_row sc_is_row rfl rfl (w_is_row a.h_is_block F.z_all F.z_isinstance F.z_tuple)
  h_check_document := cal_up rfl F.d_check_document sc_check_document rfl rfl (w_check_document a.h_is_row F.e_InvalidDocument)
  h_all_blocks := cal_up rfl F.d_all_blocks sc_all_blocks rfl rfl (w_all_blocks F.z_range)
  h_greatest_part := cal_up rfl F.d_greatest_part sc_greatest_part rfl rfl (w_greatest_part F.z_min)
  h_filled := cal_up rfl F.d_filled sc_filled rfl rfl (w_filled a.h_greatest_part a.h_kind_of F.z_tuple)
  h_steps := cal_up rfl F.d_steps sc_steps rfl rfl (w_steps a.h_filled F.k_FIRST)
  h_pages_of := cal_up rfl F.d_pages_of sc_pages_of rfl rfl (w_pages_of a.h_pieces a.h_steps F.z_int F.z_zip)
  h_pieces := cal_up rfl F.d_pieces sc_pieces rfl rfl (w_pieces F.z_enumerate F.z_max F.z_min F.z_tuple)
  h_pages := cal_up rfl F.d_pages sc_pages rfl rfl (w_pages a.h_pages_of a.h_check_document a.h_check_book)
  h_check_both := cal_up rfl F.d_check_both sc_check_both rfl rfl (w_check_both a.h_check_book F.e_Unlike)
  h_parted := cal_up rfl F.d_parted sc_parted rfl rfl (w_parted a.h_all_blocks a.h_filled F.k_FIRST)
  h_taken_back := cal_up rfl F.d_taken_back sc_taken_back rfl rfl (w_taken_back F.z_tuple)
  h_rules_of := cal_up rfl F.d_rules_of sc_rules_of rfl rfl (w_rules_of F.k_RULES F.z_zip)
  h_are_alike := cal_up rfl F.d_are_alike sc_are_alike rfl rfl (w_are_alike a.h_parted a.h_check_both)
  h_parting_document := cal_up rfl F.d_parting_document sc_parting_document rfl rfl (w_parting_document a.h_parted a.h_check_both)
  h_needless_rules := cal_up rfl F.d_needless_rules sc_needless_rules rfl rfl (w_needless_rules a.h_rules_of a.h_parted a.h_taken_back a.h_check_book)
  h__law_draws := cal_up rfl F.d__law_draws sc__law_draws rfl rfl (w__law_draws F.z_abs F.z_int F.z_len F.z_sum)
  h__law_draw := cal_up rfl F.d__law_draw sc__law_draw rfl rfl (w__law_draw F.z_int F.z_max)
  h__law_of := cal_up rfl F.d__law_of sc__law_of rfl rfl (w__law_of a.h__law_draw F.z_len)
  h__law_names := cal_up rfl F.d__law_names sc__law_names rfl rfl (w__law_names a.h__law_of)
  h__law_kind := cal_up rfl F.d__law_kind sc__law_kind rfl rfl (w__law_kind a.h__law_draw)
  h__law_book := cal_up rfl F.d__law_book sc__law_book rfl rfl (w__law_book a.h__law_draw a.h__law_kind a.h__law_names F.z_min F.z_range F.z_tuple)
  h__law_near := cal_up rfl F.d__law_near sc__law_near rfl rfl (w__law_near a.h__law_of a.h__law_draw F.z_len)
  h__law_blocks := cal_up rfl F.d__law_blocks sc__law_blocks rfl rfl (w__law_blocks F.z_range)
  h__law_document := cal_up rfl F.d__law_document sc__law_document rfl rfl (w__law_document a.h__law_draw a.h__law_of a.h__law_blocks F.z_range F.z_tuple)
  h__law_taken := cal_up rfl F.d__law_taken sc__law_taken rfl rfl (w__law_taken F.z_list F.z_tuple)
theorem all_n {G : Gx} {mg : Str → Option Value} {base : Heap} (F : Fct G mg) : ∀ n, AllC G mg base n
  | 0 => all_0 F
  | n + 1 => all_up F (all_n F n)
theorem kk__law_draws : K__law_draws pg := ⟨rfl⟩
theorem kk__law_draw : K__law_draw pg := ⟨rfl⟩
theorem kk__law_of : K__law_of pg := ⟨rfl, kk__law_draw⟩
theorem kk__law_names : K__law_names pg := ⟨rfl, kk__law_of⟩
theorem kk__law_kind : K__law_kind pg := ⟨rfl, kk__law_draw⟩
theorem kk__law_book : K__law_book pg := ⟨rfl, kk__law_names, kk__law_draw, kk__law_kind⟩
theorem kk_is_from : K_is_from pg := ⟨rfl⟩
theorem kk_are_parts : K_are_parts pg := ⟨rfl, kk_is_from⟩
theorem kk_is_name : K_is_name pg := ⟨rfl⟩
theorem kk_is_kind : K_is_kind pg := ⟨rfl, kk_are_parts, kk_is_name, kk_is_from⟩
theorem kk_is_book : K_is_book pg := ⟨rfl, kk_is_from, kk_is_kind⟩
theorem kk_check_book : K_check_book pg := ⟨rfl, kk_is_book⟩
theorem kk_rules_of : K_rules_of pg := ⟨rfl⟩
theorem kk_all_blocks : K_all_blocks pg := ⟨rfl⟩
theorem kk_kind_of : K_kind_of pg := ⟨rfl⟩
theorem kk_greatest_part : K_greatest_part pg := ⟨rfl⟩
theorem kk_filled : K_filled pg := ⟨rfl, kk_kind_of, kk_greatest_part⟩
theorem kk_parted : K_parted pg := ⟨rfl, kk_all_blocks, kk_filled⟩
theorem kk_taken_back : K_taken_back pg := ⟨rfl⟩
theorem kk_needless_rules : K_needless_rules pg := ⟨rfl, kk_check_book, kk_rules_of, kk_parted, kk_taken_back⟩
theorem kk__law_near : K__law_near pg := ⟨rfl, kk__law_draw, kk__law_of⟩
theorem kk_check_both : K_check_both pg := ⟨rfl, kk_check_book⟩
theorem kk_parting_document : K_parting_document pg := ⟨rfl, kk_check_both, kk_parted⟩
theorem kk__law_taken : K__law_taken pg := ⟨rfl⟩
theorem kk_are_alike : K_are_alike pg := ⟨rfl, kk_check_both, kk_parted⟩
theorem kk__law_blocks : K__law_blocks pg := ⟨rfl⟩
theorem kk__law_document : K__law_document pg := ⟨rfl, kk__law_blocks, kk__law_of, kk__law_draw⟩
theorem kk_is_block : K_is_block pg := ⟨rfl, kk_kind_of, kk_is_from⟩
theorem kk_is_row : K_is_row pg := ⟨rfl, kk_is_block⟩
theorem kk_check_document : K_check_document pg := ⟨rfl, kk_is_row⟩
theorem kk_steps : K_steps pg := ⟨rfl, kk_filled⟩
theorem kk_pieces : K_pieces pg := ⟨rfl⟩
theorem kk_pages_of : K_pages_of pg := ⟨rfl, kk_steps, kk_pieces⟩
theorem kk_pages : K_pages pg := ⟨rfl, kk_check_book, kk_check_document, kk_pages_of⟩
theorem kk_law_k18 : K_law_k18 pg := ⟨rfl, kk__law_draws, kk__law_book, kk_needless_rules, kk__law_near, kk_parting_document, kk__law_taken, kk_are_alike, kk__law_document, kk_pages⟩
theorem plain (ns : List Int) (h : ns.length ≤ 63) : ∃ fl outs, callL pg 60 35 none [(.f, .fls ns)] = .ok ((fl, .bl true), outs) := Q.plain18 (n := 52) kk_law_k18 ns h
theorem all_mk {P : Program} {w : World} {K : PySem.W.Frag} {h : Heap} {mg : Str → Option Value} {fa : Addr} (X : K.In h) (Gn : h.Ns mainGlobals mg) (hfa : mg "law" = some (.ref fa))
  {f1 : Addr} {od1 an1 : Option Addr} {sl1 : Array (Option Value)} {oc1 kV1 dc1 pm1 cd1 ct1 : Value}
  {f2 : Addr} {od2 an2 : Option Addr} {sl2 : Array (Option Value)} {oc2 kV2 dc2 pm2 cd2 ct2 : Value}
  {f3 : Addr} {od3 an3 : Option Addr} {sl3 : Array (Option Value)} {oc3 kV3 dc3 pm3 cd3 ct3 : Value}
  {f4 : Addr} {od4 an4 : Option Addr} {sl4 : Array (Option Value)} {oc4 kV4 dc4 pm4 cd4 ct4 : Value}
  {f5 : Addr} {od5 an5 : Option Addr} {sl5 : Array (Option Value)} {oc5 kV5 dc5 pm5 cd5 ct5 : Value}
  {f6 : Addr} {od6 an6 : Option Addr} {sl6 : Array (Option Value)} {oc6 kV6 dc6 pm6 cd6 ct6 : Value}
  {f7 : Addr} {od7 an7 : Option Addr} {sl7 : Array (Option Value)} {oc7 kV7 dc7 pm7 cd7 ct7 : Value}
  {f8 : Addr} {od8 an8 : Option Addr} {sl8 : Array (Option Value)} {oc8 kV8 dc8 pm8 cd8 ct8 : Value}
  {f9 : Addr} {od9 an9 : Option Addr} {sl9 : Array (Option Value)} {oc9 kV9 dc9 pm9 cd9 ct9 : Value}
  {f10 : Addr} {od10 an10 : Option Addr} {sl10 : Array (Option Value)} {oc10 kV10 dc10 pm10 cd10 ct10 : Value}
  {f11 : Addr} {od11 an11 : Option Addr} {sl11 : Array (Option Value)} {oc11 kV11 dc11 pm11 cd11 ct11 : Value}
  {f12 : Addr} {od12 an12 : Option Addr} {sl12 : Array (Option Value)} {oc12 kV12 dc12 pm12 cd12 ct12 : Value}
  {f13 : Addr} {od13 an13 : Option Addr} {sl13 : Array (Option Value)} {oc13 kV13 dc13 pm13 cd13 ct13 : Value}
  {f14 : Addr} {od14 an14 : Option Addr} {sl14 : Array (Option Value)} {oc14 kV14 dc14 pm14 cd14 ct14 : Value}
  {f15 : Addr} {od15 an15 : Option Addr} {sl15 : Array (Option Value)} {oc15 kV15 dc15 pm15 cd15 ct15 : Value}
  {f16 : Addr} {od16 an16 : Option Addr} {sl16 : Array (Option Value)} {oc16 kV16 dc16 pm16 cd16 ct16 : Value}
  {f17 : Addr} {od17 an17 : Option Addr} {sl17 : Array (Option Value)} {oc17 kV17 dc17 pm17 cd17 ct17 : Value}
  {f18 : Addr} {od18 an18 : Option Addr} {sl18 : Array (Option Value)} {oc18 kV18 dc18 pm18 cd18 ct18 : Value}
  {f19 : Addr} {od19 an19 : Option Addr} {sl19 : Array (Option Value)} {oc19 kV19 dc19 pm19 cd19 ct19 : Value}
  {f20 : Addr} {od20 an20 : Option Addr} {sl20 : Array (Option Value)} {oc20 kV20 dc20 pm20 cd20 ct20 : Value}
  {f21 : Addr} {od21 an21 : Option Addr} {sl21 : Array (Option Value)} {oc21 kV21 dc21 pm21 cd21 ct21 : Value}
  {f22 : Addr} {od22 an22 : Option Addr} {sl22 : Array (Option Value)} {oc22 kV22 dc22 pm22 cd22 ct22 : Value}
  {f23 : Addr} {od23 an23 : Option Addr} {sl23 : Array (Option Value)} {oc23 kV23 dc23 pm23 cd23 ct23 : Value}
  {f24 : Addr} {od24 an24 : Option Addr} {sl24 : Array (Option Value)} {oc24 kV24 dc24 pm24 cd24 ct24 : Value}
  {f25 : Addr} {od25 an25 : Option Addr} {sl25 : Array (Option Value)} {oc25 kV25 dc25 pm25 cd25 ct25 : Value}
  {f26 : Addr} {od26 an26 : Option Addr} {sl26 : Array (Option Value)} {oc26 kV26 dc26 pm26 cd26 ct26 : Value}
  {f27 : Addr} {od27 an27 : Option Addr} {sl27 : Array (Option Value)} {oc27 kV27 dc27 pm27 cd27 ct27 : Value}
  {f28 : Addr} {od28 an28 : Option Addr} {sl28 : Array (Option Value)} {oc28 kV28 dc28 pm28 cd28 ct28 : Value}
  {f29 : Addr} {od29 an29 : Option Addr} {sl29 : Array (Option Value)} {oc29 kV29 dc29 pm29 cd29 ct29 : Value}
  {f30 : Addr} {od30 an30 : Option Addr} {sl30 : Array (Option Value)} {oc30 kV30 dc30 pm30 cd30 ct30 : Value}
  {f31 : Addr} {od31 an31 : Option Addr} {sl31 : Array (Option Value)} {oc31 kV31 dc31 pm31 cd31 ct31 : Value}
  {f32 : Addr} {od32 an32 : Option Addr} {sl32 : Array (Option Value)} {oc32 kV32 dc32 pm32 cd32 ct32 : Value}
  {f33 : Addr} {od33 an33 : Option Addr} {sl33 : Array (Option Value)} {oc33 kV33 dc33 pm33 cd33 ct33 : Value}
  {f34 : Addr} {od34 an34 : Option Addr} {sl34 : Array (Option Value)} {oc34 kV34 dc34 pm34 cd34 ct34 : Value}
  {f35 : Addr} {od35 an35 : Option Addr} {sl35 : Array (Option Value)} {oc35 kV35 dc35 pm35 cd35 ct35 : Value}
  {tk_LETTERS : Tok}
  {tk_MOST_BLOCKS : Tok}
  {ad_FIRST : Addr} {t0_FIRST t1_FIRST : Tok} {od_FIRST : Option Addr} {sl_FIRST : Array (Option Value)} {n_FIRST : Nat}
  {ad_RULES : Addr} {t0_RULES t1_RULES t2_RULES : Tok} {od_RULES : Option Addr} {sl_RULES : Array (Option Value)} {n_RULES : Nat}
  {C_InvalidBook : Addr}
  {C_InvalidDocument : Addr}
  {C_Unlike : Addr}
  (a1 : PySem.W.nsIn K mainGlobals "is_from" = some (some (.ref f1))) (l1 : K.lookup f1 = some ⟨oc1, od1, .func (PySem.W.fnOf "is_from" "is_from" (defArgs s_is_from) (defBody s_is_from) (defScope s_is_from) .none kV1 dc1 pm1 an1 cd1 ct1), sl1⟩) (c1 : PySem.W.codeIn K cd1 "is_from" = true) (k1 : PySem.W.keepIn K (.ref f1) = true)
  (a2 : PySem.W.nsIn K mainGlobals "is_name" = some (some (.ref f2))) (l2 : K.lookup f2 = some ⟨oc2, od2, .func (PySem.W.fnOf "is_name" "is_name" (defArgs s_is_name) (defBody s_is_name) (defScope s_is_name) .none kV2 dc2 pm2 an2 cd2 ct2), sl2⟩) (c2 : PySem.W.codeIn K cd2 "is_name" = true) (k2 : PySem.W.keepIn K (.ref f2) = true)
  (a3 : PySem.W.nsIn K mainGlobals "are_parts" = some (some (.ref f3))) (l3 : K.lookup f3 = some ⟨oc3, od3, .func (PySem.W.fnOf "are_parts" "are_parts" (defArgs s_are_parts) (defBody s_are_parts) (defScope s_are_parts) .none kV3 dc3 pm3 an3 cd3 ct3), sl3⟩) (c3 : PySem.W.codeIn K cd3 "are_parts" = true) (k3 : PySem.W.keepIn K (.ref f3) = true)
  (a4 : PySem.W.nsIn K mainGlobals "is_kind" = some (some (.ref f4))) (l4 : K.lookup f4 = some ⟨oc4, od4, .func (PySem.W.fnOf "is_kind" "is_kind" (defArgs s_is_kind) (defBody s_is_kind) (defScope s_is_kind) .none kV4 dc4 pm4 an4 cd4 ct4), sl4⟩) (c4 : PySem.W.codeIn K cd4 "is_kind" = true) (k4 : PySem.W.keepIn K (.ref f4) = true)
  (a5 : PySem.W.nsIn K mainGlobals "is_book" = some (some (.ref f5))) (l5 : K.lookup f5 = some ⟨oc5, od5, .func (PySem.W.fnOf "is_book" "is_book" (defArgs s_is_book) (defBody s_is_book) (defScope s_is_book) .none kV5 dc5 pm5 an5 cd5 ct5), sl5⟩) (c5 : PySem.W.codeIn K cd5 "is_book" = true) (k5 : PySem.W.keepIn K (.ref f5) = true)
  (a6 : PySem.W.nsIn K mainGlobals "check_book" = some (some (.ref f6))) (l6 : K.lookup f6 = some ⟨oc6, od6, .func (PySem.W.fnOf "check_book" "check_book" (defArgs s_check_book) (defBody s_check_book) (defScope s_check_book) .none kV6 dc6 pm6 an6 cd6 ct6), sl6⟩) (c6 : PySem.W.codeIn K cd6 "check_book" = true) (k6 : PySem.W.keepIn K (.ref f6) = true)
  (a7 : PySem.W.nsIn K mainGlobals "kind_of" = some (some (.ref f7))) (l7 : K.lookup f7 = some ⟨oc7, od7, .func (PySem.W.fnOf "kind_of" "kind_of" (defArgs s_kind_of) (defBody s_kind_of) (defScope s_kind_of) .none kV7 dc7 pm7 an7 cd7 ct7), sl7⟩) (c7 : PySem.W.codeIn K cd7 "kind_of" = true) (k7 : PySem.W.keepIn K (.ref f7) = true)
  (a8 : PySem.W.nsIn K mainGlobals "is_block" = some (some (.ref f8))) (l8 : K.lookup f8 = some ⟨oc8, od8, .func (PySem.W.fnOf "is_block" "is_block" (defArgs s_is_block) (defBody s_is_block) (defScope s_is_block) .none kV8 dc8 pm8 an8 cd8 ct8), sl8⟩) (c8 : PySem.W.codeIn K cd8 "is_block" = true) (k8 : PySem.W.keepIn K (.ref f8) = true)
  (a9 : PySem.W.nsIn K mainGlobals "is_row" = some (some (.ref f9))) (l9 : K.lookup f9 = some ⟨oc9, od9, .func (PySem.W.fnOf "is_row" "is_row" (defArgs s_is_row) (defBody s_is_row) (defScope s_is_row) .none kV9 dc9 pm9 an9 cd9 ct9), sl9⟩) (c9 : PySem.W.codeIn K cd9 "is_row" = true) (k9 : PySem.W.keepIn K (.ref f9) = true)
  (a10 : PySem.W.nsIn K mainGlobals "check_document" = some (some (.ref f10))) (l10 : K.lookup f10 = some ⟨oc10, od10, .func (PySem.W.fnOf "check_document" "check_document" (defArgs s_check_document) (defBody s_check_document) (defScope s_check_document) .none kV10 dc10 pm10 an10 cd10 ct10), sl10⟩) (c10 : PySem.W.codeIn K cd10 "check_document" = true) (k10 : PySem.W.keepIn K (.ref f10) = true)
  (a11 : PySem.W.nsIn K mainGlobals "all_blocks" = some (some (.ref f11))) (l11 : K.lookup f11 = some ⟨oc11, od11, .func (PySem.W.fnOf "all_blocks" "all_blocks" (defArgs s_all_blocks) (defBody s_all_blocks) (defScope s_all_blocks) .none kV11 dc11 pm11 an11 cd11 ct11), sl11⟩) (c11 : PySem.W.codeIn K cd11 "all_blocks" = true) (k11 : PySem.W.keepIn K (.ref f11) = true)
  (a12 : PySem.W.nsIn K mainGlobals "greatest_part" = some (some (.ref f12))) (l12 : K.lookup f12 = some ⟨oc12, od12, .func (PySem.W.fnOf "greatest_part" "greatest_part" (defArgs s_greatest_part) (defBody s_greatest_part) (defScope s_greatest_part) .none kV12 dc12 pm12 an12 cd12 ct12), sl12⟩) (c12 : PySem.W.codeIn K cd12 "greatest_part" = true) (k12 : PySem.W.keepIn K (.ref f12) = true)
  (a13 : PySem.W.nsIn K mainGlobals "filled" = some (some (.ref f13))) (l13 : K.lookup f13 = some ⟨oc13, od13, .func (PySem.W.fnOf "filled" "filled" (defArgs s_filled) (defBody s_filled) (defScope s_filled) .none kV13 dc13 pm13 an13 cd13 ct13), sl13⟩) (c13 : PySem.W.codeIn K cd13 "filled" = true) (k13 : PySem.W.keepIn K (.ref f13) = true)
  (a14 : PySem.W.nsIn K mainGlobals "steps" = some (some (.ref f14))) (l14 : K.lookup f14 = some ⟨oc14, od14, .func (PySem.W.fnOf "steps" "steps" (defArgs s_steps) (defBody s_steps) (defScope s_steps) .none kV14 dc14 pm14 an14 cd14 ct14), sl14⟩) (c14 : PySem.W.codeIn K cd14 "steps" = true) (k14 : PySem.W.keepIn K (.ref f14) = true)
  (a15 : PySem.W.nsIn K mainGlobals "pages_of" = some (some (.ref f15))) (l15 : K.lookup f15 = some ⟨oc15, od15, .func (PySem.W.fnOf "pages_of" "pages_of" (defArgs s_pages_of) (defBody s_pages_of) (defScope s_pages_of) .none kV15 dc15 pm15 an15 cd15 ct15), sl15⟩) (c15 : PySem.W.codeIn K cd15 "pages_of" = true) (k15 : PySem.W.keepIn K (.ref f15) = true)
  (a16 : PySem.W.nsIn K mainGlobals "pieces" = some (some (.ref f16))) (l16 : K.lookup f16 = some ⟨oc16, od16, .func (PySem.W.fnOf "pieces" "pieces" (defArgs s_pieces) (defBody s_pieces) (defScope s_pieces) .none kV16 dc16 pm16 an16 cd16 ct16), sl16⟩) (c16 : PySem.W.codeIn K cd16 "pieces" = true) (k16 : PySem.W.keepIn K (.ref f16) = true)
  (a17 : PySem.W.nsIn K mainGlobals "pages" = some (some (.ref f17))) (l17 : K.lookup f17 = some ⟨oc17, od17, .func (PySem.W.fnOf "pages" "pages" (defArgs s_pages) (defBody s_pages) (defScope s_pages) .none kV17 dc17 pm17 an17 cd17 ct17), sl17⟩) (c17 : PySem.W.codeIn K cd17 "pages" = true) (k17 : PySem.W.keepIn K (.ref f17) = true)
  (a18 : PySem.W.nsIn K mainGlobals "check_both" = some (some (.ref f18))) (l18 : K.lookup f18 = some ⟨oc18, od18, .func (PySem.W.fnOf "check_both" "check_both" (defArgs s_check_both) (defBody s_check_both) (defScope s_check_both) .none kV18 dc18 pm18 an18 cd18 ct18), sl18⟩) (c18 : PySem.W.codeIn K cd18 "check_both" = true) (k18 : PySem.W.keepIn K (.ref f18) = true)
  (a19 : PySem.W.nsIn K mainGlobals "parted" = some (some (.ref f19))) (l19 : K.lookup f19 = some ⟨oc19, od19, .func (PySem.W.fnOf "parted" "parted" (defArgs s_parted) (defBody s_parted) (defScope s_parted) .none kV19 dc19 pm19 an19 cd19 ct19), sl19⟩) (c19 : PySem.W.codeIn K cd19 "parted" = true) (k19 : PySem.W.keepIn K (.ref f19) = true)
  (a20 : PySem.W.nsIn K mainGlobals "taken_back" = some (some (.ref f20))) (l20 : K.lookup f20 = some ⟨oc20, od20, .func (PySem.W.fnOf "taken_back" "taken_back" (defArgs s_taken_back) (defBody s_taken_back) (defScope s_taken_back) .none kV20 dc20 pm20 an20 cd20 ct20), sl20⟩) (c20 : PySem.W.codeIn K cd20 "taken_back" = true) (k20 : PySem.W.keepIn K (.ref f20) = true)
  (a21 : PySem.W.nsIn K mainGlobals "rules_of" = some (some (.ref f21))) (l21 : K.lookup f21 = some ⟨oc21, od21, .func (PySem.W.fnOf "rules_of" "rules_of" (defArgs s_rules_of) (defBody s_rules_of) (defScope s_rules_of) .none kV21 dc21 pm21 an21 cd21 ct21), sl21⟩) (c21 : PySem.W.codeIn K cd21 "rules_of" = true) (k21 : PySem.W.keepIn K (.ref f21) = true)
  (a22 : PySem.W.nsIn K mainGlobals "are_alike" = some (some (.ref f22))) (l22 : K.lookup f22 = some ⟨oc22, od22, .func (PySem.W.fnOf "are_alike" "are_alike" (defArgs s_are_alike) (defBody s_are_alike) (defScope s_are_alike) .none kV22 dc22 pm22 an22 cd22 ct22), sl22⟩) (c22 : PySem.W.codeIn K cd22 "are_alike" = true) (k22 : PySem.W.keepIn K (.ref f22) = true)
  (a23 : PySem.W.nsIn K mainGlobals "parting_document" = some (some (.ref f23))) (l23 : K.lookup f23 = some ⟨oc23, od23, .func (PySem.W.fnOf "parting_document" "parting_document" (defArgs s_parting_document) (defBody s_parting_document) (defScope s_parting_document) .none kV23 dc23 pm23 an23 cd23 ct23), sl23⟩) (c23 : PySem.W.codeIn K cd23 "parting_document" = true) (k23 : PySem.W.keepIn K (.ref f23) = true)
  (a24 : PySem.W.nsIn K mainGlobals "needless_rules" = some (some (.ref f24))) (l24 : K.lookup f24 = some ⟨oc24, od24, .func (PySem.W.fnOf "needless_rules" "needless_rules" (defArgs s_needless_rules) (defBody s_needless_rules) (defScope s_needless_rules) .none kV24 dc24 pm24 an24 cd24 ct24), sl24⟩) (c24 : PySem.W.codeIn K cd24 "needless_rules" = true) (k24 : PySem.W.keepIn K (.ref f24) = true)
  (a25 : PySem.W.nsIn K mainGlobals "_law_draws" = some (some (.ref f25))) (l25 : K.lookup f25 = some ⟨oc25, od25, .func (PySem.W.fnOf "_law_draws" "_law_draws" (defArgs s__law_draws) (defBody s__law_draws) (defScope s__law_draws) .none kV25 dc25 pm25 an25 cd25 ct25), sl25⟩) (c25 : PySem.W.codeIn K cd25 "_law_draws" = true) (k25 : PySem.W.keepIn K (.ref f25) = true)
  (a26 : PySem.W.nsIn K mainGlobals "_law_draw" = some (some (.ref f26))) (l26 : K.lookup f26 = some ⟨oc26, od26, .func (PySem.W.fnOf "_law_draw" "_law_draw" (defArgs s__law_draw) (defBody s__law_draw) (defScope s__law_draw) .none kV26 dc26 pm26 an26 cd26 ct26), sl26⟩) (c26 : PySem.W.codeIn K cd26 "_law_draw" = true) (k26 : PySem.W.keepIn K (.ref f26) = true)
  (a27 : PySem.W.nsIn K mainGlobals "_law_of" = some (some (.ref f27))) (l27 : K.lookup f27 = some ⟨oc27, od27, .func (PySem.W.fnOf "_law_of" "_law_of" (defArgs s__law_of) (defBody s__law_of) (defScope s__law_of) .none kV27 dc27 pm27 an27 cd27 ct27), sl27⟩) (c27 : PySem.W.codeIn K cd27 "_law_of" = true) (k27 : PySem.W.keepIn K (.ref f27) = true)
  (a28 : PySem.W.nsIn K mainGlobals "_law_names" = some (some (.ref f28))) (l28 : K.lookup f28 = some ⟨oc28, od28, .func (PySem.W.fnOf "_law_names" "_law_names" (defArgs s__law_names) (defBody s__law_names) (defScope s__law_names) .none kV28 dc28 pm28 an28 cd28 ct28), sl28⟩) (c28 : PySem.W.codeIn K cd28 "_law_names" = true) (k28 : PySem.W.keepIn K (.ref f28) = true)
  (a29 : PySem.W.nsIn K mainGlobals "_law_kind" = some (some (.ref f29))) (l29 : K.lookup f29 = some ⟨oc29, od29, .func (PySem.W.fnOf "_law_kind" "_law_kind" (defArgs s__law_kind) (defBody s__law_kind) (defScope s__law_kind) .none kV29 dc29 pm29 an29 cd29 ct29), sl29⟩) (c29 : PySem.W.codeIn K cd29 "_law_kind" = true) (k29 : PySem.W.keepIn K (.ref f29) = true)
  (a30 : PySem.W.nsIn K mainGlobals "_law_book" = some (some (.ref f30))) (l30 : K.lookup f30 = some ⟨oc30, od30, .func (PySem.W.fnOf "_law_book" "_law_book" (defArgs s__law_book) (defBody s__law_book) (defScope s__law_book) .none kV30 dc30 pm30 an30 cd30 ct30), sl30⟩) (c30 : PySem.W.codeIn K cd30 "_law_book" = true) (k30 : PySem.W.keepIn K (.ref f30) = true)
  (a31 : PySem.W.nsIn K mainGlobals "_law_near" = some (some (.ref f31))) (l31 : K.lookup f31 = some ⟨oc31, od31, .func (PySem.W.fnOf "_law_near" "_law_near" (defArgs s__law_near) (defBody s__law_near) (defScope s__law_near) .none kV31 dc31 pm31 an31 cd31 ct31), sl31⟩) (c31 : PySem.W.codeIn K cd31 "_law_near" = true) (k31 : PySem.W.keepIn K (.ref f31) = true)
  (a32 : PySem.W.nsIn K mainGlobals "_law_blocks" = some (some (.ref f32))) (l32 : K.lookup f32 = some ⟨oc32, od32, .func (PySem.W.fnOf "_law_blocks" "_law_blocks" (defArgs s__law_blocks) (defBody s__law_blocks) (defScope s__law_blocks) .none kV32 dc32 pm32 an32 cd32 ct32), sl32⟩) (c32 : PySem.W.codeIn K cd32 "_law_blocks" = true) (k32 : PySem.W.keepIn K (.ref f32) = true)
  (a33 : PySem.W.nsIn K mainGlobals "_law_document" = some (some (.ref f33))) (l33 : K.lookup f33 = some ⟨oc33, od33, .func (PySem.W.fnOf "_law_document" "_law_document" (defArgs s__law_document) (defBody s__law_document) (defScope s__law_document) .none kV33 dc33 pm33 an33 cd33 ct33), sl33⟩) (c33 : PySem.W.codeIn K cd33 "_law_document" = true) (k33 : PySem.W.keepIn K (.ref f33) = true)
  (a34 : PySem.W.nsIn K mainGlobals "_law_taken" = some (some (.ref f34))) (l34 : K.lookup f34 = some ⟨oc34, od34, .func (PySem.W.fnOf "_law_taken" "_law_taken" (defArgs s__law_taken) (defBody s__law_taken) (defScope s__law_taken) .none kV34 dc34 pm34 an34 cd34 ct34), sl34⟩) (c34 : PySem.W.codeIn K cd34 "_law_taken" = true) (k34 : PySem.W.keepIn K (.ref f34) = true)
  (a35 : PySem.W.nsIn K mainGlobals "law" = some (some (.ref f35))) (l35 : K.lookup f35 = some ⟨oc35, od35, .func (PySem.W.fnOf "law" "law" (defArgs s_law) (defBody s_law) (defScope s_law) .none kV35 dc35 pm35 an35 cd35 ct35), sl35⟩) (c35 : PySem.W.codeIn K cd35 "law" = true) (k35 : PySem.W.keepIn K (.ref f35) = true)
  (z_abs : PySem.W.nsIn K mainGlobals "abs" = some none)
  (z_all : PySem.W.nsIn K mainGlobals "all" = some none)
  (z_bool : PySem.W.nsIn K mainGlobals "bool" = some none)
  (z_enumerate : PySem.W.nsIn K mainGlobals "enumerate" = some none)
  (z_int : PySem.W.nsIn K mainGlobals "int" = some none)
  (z_isinstance : PySem.W.nsIn K mainGlobals "isinstance" = some none)
  (z_len : PySem.W.nsIn K mainGlobals "len" = some none)
  (z_list : PySem.W.nsIn K mainGlobals "list" = some none)
  (z_max : PySem.W.nsIn K mainGlobals "max" = some none)
  (z_min : PySem.W.nsIn K mainGlobals "min" = some none)
  (z_range : PySem.W.nsIn K mainGlobals "range" = some none)
  (z_str : PySem.W.nsIn K mainGlobals "str" = some none)
  (z_sum : PySem.W.nsIn K mainGlobals "sum" = some none)
  (z_tuple : PySem.W.nsIn K mainGlobals "tuple" = some none)
  (z_zip : PySem.W.nsIn K mainGlobals "zip" = some none)
  (g_LETTERS : PySem.W.nsIn K mainGlobals "LETTERS" = some (some (.str "abcdefghijklmnopqrstuvwxyz" tk_LETTERS)))
  (g_MOST_BLOCKS : PySem.W.nsIn K mainGlobals "MOST_BLOCKS" = some (some (.int 8 tk_MOST_BLOCKS)))
  (g_FIRST : PySem.W.nsIn K mainGlobals "FIRST" = some (some (.ref ad_FIRST))) (m_FIRST : K.lookup ad_FIRST = some ⟨.type "tuple", od_FIRST, .seq #[.int 0 t0_FIRST, .int 0 t1_FIRST] n_FIRST, sl_FIRST⟩)
  (g_RULES : PySem.W.nsIn K mainGlobals "RULES" = some (some (.ref ad_RULES))) (m_RULES : K.lookup ad_RULES = some ⟨.type "tuple", od_RULES, .seq #[.str "joins" t0_RULES, .str "opens" t1_RULES, .str "parts" t2_RULES] n_RULES, sl_RULES⟩)
  (g_InvalidBook : PySem.W.nsIn K mainGlobals "InvalidBook" = some (some (.ref C_InvalidBook))) (x_InvalidBook : PySem.W.excIn K C_InvalidBook [.type "ValueError", .type "Exception", .type "BaseException", .type "object"] "ValueError.__new__" = true) (q_InvalidBook : PySem.W.keepIn K (.ref C_InvalidBook) = true) (b_InvalidBook : PySem.W.subIn K (.ref C_InvalidBook) (.type "BaseException") = some true) (t_InvalidBook : PySem.W.typeIn K (.ref C_InvalidBook) = some (.type "type"))
  (g_InvalidDocument : PySem.W.nsIn K mainGlobals "InvalidDocument" = some (some (.ref C_InvalidDocument))) (x_InvalidDocument : PySem.W.excIn K C_InvalidDocument [.type "ValueError", .type "Exception", .type "BaseException", .type "object"] "ValueError.__new__" = true) (q_InvalidDocument : PySem.W.keepIn K (.ref C_InvalidDocument) = true) (b_InvalidDocument : PySem.W.subIn K (.ref C_InvalidDocument) (.type "BaseException") = some true) (t_InvalidDocument : PySem.W.typeIn K (.ref C_InvalidDocument) = some (.type "type"))
  (g_Unlike : PySem.W.nsIn K mainGlobals "Unlike" = some (some (.ref C_Unlike))) (x_Unlike : PySem.W.excIn K C_Unlike [.type "ValueError", .type "Exception", .type "BaseException", .type "object"] "ValueError.__new__" = true) (q_Unlike : PySem.W.keepIn K (.ref C_Unlike) = true) (b_Unlike : PySem.W.subIn K (.ref C_Unlike) (.type "BaseException") = some true) (t_Unlike : PySem.W.typeIn K (.ref C_Unlike) = some (.type "type")) :
    ∃ fd : FuncData, (∀ (s : Shared) (u : Value), BindsTo s fd ⟨[u], []⟩ [("script", u)]) ∧ ∀ base : Heap, K.In base → base.Ns mainGlobals mg → FnOk P w K mg base (L2.CX P w) 60 fa fd ["script"] (spLaw K) := by
  have e := hfa.symm.trans (PySem.W.mg_of X Gn a35)
  cases e
  have F : Fct (gx P w K mg) mg := {
    d_is_from := std_of (ps := ["value", "low", "high"]) l1 c1 k1 (PySem.W.mg_of X Gn a1) fun _ _ _ _ _ _ us hl => match us, hl with | [_, _, _], _ => rfl
    d_is_name := std_of (ps := ["value"]) l2 c2 k2 (PySem.W.mg_of X Gn a2) fun _ _ _ _ _ _ us hl => match us, hl with | [_], _ => rfl
    d_are_parts := std_of (ps := ["value"]) l3 c3 k3 (PySem.W.mg_of X Gn a3) fun _ _ _ _ _ _ us hl => match us, hl with | [_], _ => rfl
    d_is_kind := std_of (ps := ["value"]) l4 c4 k4 (PySem.W.mg_of X Gn a4) fun _ _ _ _ _ _ us hl => match us, hl with | [_], _ => rfl
    d_is_book := std_of (ps := ["value"]) l5 c5 k5 (PySem.W.mg_of X Gn a5) fun _ _ _ _ _ _ us hl => match us, hl with | [_], _ => rfl
    d_check_book := std_of (ps := ["book"]) l6 c6 k6 (PySem.W.mg_of X Gn a6) fun _ _ _ _ _ _ us hl => match us, hl with | [_], _ => rfl
    d_kind_of := std_of (ps := ["book", "name"]) l7 c7 k7 (PySem.W.mg_of X Gn a7) fun _ _ _ _ _ _ us hl => match us, hl with | [_, _], _ => rfl
    d_is_block := std_of (ps := ["book", "value"]) l8 c8 k8 (PySem.W.mg_of X Gn a8) fun _ _ _ _ _ _ us hl => match us, hl with | [_, _], _ => rfl
    d_is_row := std_of (ps := ["book", "value"]) l9 c9 k9 (PySem.W.mg_of X Gn a9) fun _ _ _ _ _ _ us hl => match us, hl with | [_, _], _ => rfl
    d_check_document := std_of (ps := ["book", "document"]) l10 c10 k10 (PySem.W.mg_of X Gn a10) fun _ _ _ _ _ _ us hl => match us, hl with | [_, _], _ => rfl
    d_all_blocks := std_of (ps := ["book"]) l11 c11 k11 (PySem.W.mg_of X Gn a11) fun _ _ _ _ _ _ us hl => match us, hl with | [_], _ => rfl
    d_greatest_part := std_of (ps := ["parts", "room", "rest"]) l12 c12 k12 (PySem.W.mg_of X Gn a12) fun _ _ _ _ _ _ us hl => match us, hl with | [_, _, _], _ => rfl
    d_filled := std_of (ps := ["book", "stand", "block"]) l13 c13 k13 (PySem.W.mg_of X Gn a13) fun _ _ _ _ _ _ us hl => match us, hl with | [_, _, _], _ => rfl
    d_steps := std_of (ps := ["book", "document"]) l14 c14 k14 (PySem.W.mg_of X Gn a14) fun _ _ _ _ _ _ us hl => match us, hl with | [_, _], _ => rfl
    d_pages_of := std_of (ps := ["book", "document"]) l15 c15 k15 (PySem.W.mg_of X Gn a15) fun _ _ _ _ _ _ us hl => match us, hl with | [_, _], _ => rfl
    d_pieces := std_of (ps := ["document", "begin", "end"]) l16 c16 k16 (PySem.W.mg_of X Gn a16) fun _ _ _ _ _ _ us hl => match us, hl with | [_, _, _], _ => rfl
    d_pages := std_of (ps := ["book", "document"]) l17 c17 k17 (PySem.W.mg_of X Gn a17) fun _ _ _ _ _ _ us hl => match us, hl with | [_, _], _ => rfl
    d_check_both := std_of (ps := ["one", "other"]) l18 c18 k18 (PySem.W.mg_of X Gn a18) fun _ _ _ _ _ _ us hl => match us, hl with | [_, _], _ => rfl
    d_parted := std_of (ps := ["one", "other"]) l19 c19 k19 (PySem.W.mg_of X Gn a19) fun _ _ _ _ _ _ us hl => match us, hl with | [_, _], _ => rfl
    d_taken_back := std_of (ps := ["book", "name", "rule"]) l20 c20 k20 (PySem.W.mg_of X Gn a20) fun _ _ _ _ _ _ us hl => match us, hl with | [_, _, _], _ => rfl
    d_rules_of := std_of (ps := ["book"]) l21 c21 k21 (PySem.W.mg_of X Gn a21) fun _ _ _ _ _ _ us hl => match us, hl with | [_], _ => rfl
    d_are_alike := std_of (ps := ["one", "other"]) l22 c22 k22 (PySem.W.mg_of X Gn a22) fun _ _ _ _ _ _ us hl => match us, hl with | [_, _], _ => rfl
    d_parting_document := std_of (ps := ["one", "other"]) l23 c23 k23 (PySem.W.mg_of X Gn a23) fun _ _ _ _ _ _ us hl => match us, hl with | [_, _], _ => rfl
    d_needless_rules := std_of (ps := ["book"]) l24 c24 k24 (PySem.W.mg_of X Gn a24) fun _ _ _ _ _ _ us hl => match us, hl with | [_], _ => rfl
    d__law_draws := std_of (ps := ["script", "k"]) l25 c25 k25 (PySem.W.mg_of X Gn a25) fun _ _ _ _ _ _ us hl => match us, hl with | [_, _], _ => rfl
    d__law_draw := std_of (ps := ["draws", "many"]) l26 c26 k26 (PySem.W.mg_of X Gn a26) fun _ _ _ _ _ _ us hl => match us, hl with | [_, _], _ => rfl
    d__law_of := std_of (ps := ["draws", "some"]) l27 c27 k27 (PySem.W.mg_of X Gn a27) fun _ _ _ _ _ _ us hl => match us, hl with | [_, _], _ => rfl
    d__law_names := std_of (ps := ["draws"]) l28 c28 k28 (PySem.W.mg_of X Gn a28) fun _ _ _ _ _ _ us hl => match us, hl with | [_], _ => rfl
    d__law_kind := std_of (ps := ["draws", "name", "most"]) l29 c29 k29 (PySem.W.mg_of X Gn a29) fun _ _ _ _ _ _ us hl => match us, hl with | [_, _, _], _ => rfl
    d__law_book := std_of (ps := ["draws", "high", "sum_so"]) l30 c30 k30 (PySem.W.mg_of X Gn a30) fun _ _ _ _ _ _ us hl => match us, hl with | [_, _, _], _ => rfl
    d__law_near := std_of (ps := ["draws", "book_so"]) l31 c31 k31 (PySem.W.mg_of X Gn a31) fun _ _ _ _ _ _ us hl => match us, hl with | [_, _], _ => rfl
    d__law_blocks := std_of (ps := ["book_so"]) l32 c32 k32 (PySem.W.mg_of X Gn a32) fun _ _ _ _ _ _ us hl => match us, hl with | [_], _ => rfl
    d__law_document := std_of (ps := ["draws", "book_so", "most"]) l33 c33 k33 (PySem.W.mg_of X Gn a33) fun _ _ _ _ _ _ us hl => match us, hl with | [_, _, _], _ => rfl
    d__law_taken := std_of (ps := ["book_so", "name", "rule"]) l34 c34 k34 (PySem.W.mg_of X Gn a34) fun _ _ _ _ _ _ us hl => match us, hl with | [_, _, _], _ => rfl
    z_abs := PySem.W.mg_none_of X Gn z_abs
    z_all := PySem.W.mg_none_of X Gn z_all
    z_bool := PySem.W.mg_none_of X Gn z_bool
    z_enumerate := PySem.W.mg_none_of X Gn z_enumerate
    z_int := PySem.W.mg_none_of X Gn z_int
    z_isinstance := PySem.W.mg_none_of X Gn z_isinstance
    z_len := PySem.W.mg_none_of X Gn z_len
    z_list := PySem.W.mg_none_of X Gn z_list
    z_max := PySem.W.mg_none_of X Gn z_max
    z_min := PySem.W.mg_none_of X Gn z_min
    z_range := PySem.W.mg_none_of X Gn z_range
    z_str := PySem.W.mg_none_of X Gn z_str
    z_sum := PySem.W.mg_none_of X Gn z_sum
    z_tuple := PySem.W.mg_none_of X Gn z_tuple
    z_zip := PySem.W.mg_none_of X Gn z_zip
    k_LETTERS := con_str (PySem.W.mg_of X Gn g_LETTERS) (by decide +kernel)
    k_MOST_BLOCKS := con_int (PySem.W.mg_of X Gn g_MOST_BLOCKS)
    k_FIRST := con_tup (G := gx P w K mg) (xs := [V.int 0, V.int 0]) (PySem.W.mg_of X Gn g_FIRST) m_FIRST rfl rfl (by show 2 ≤ sizeLine; decide) (.cons ⟨_, rfl⟩ (.cons ⟨_, rfl⟩ .nil)) fun _ _ => (.cons (.int _) (.cons (.int _) .nil))
    k_RULES := con_tup (G := gx P w K mg) (xs := [V.str "joins", V.str "opens", V.str "parts"]) (PySem.W.mg_of X Gn g_RULES) m_RULES rfl rfl (by show 3 ≤ sizeLine; decide) (.cons ⟨_, rfl⟩ (.cons ⟨_, rfl⟩ (.cons ⟨_, rfl⟩ .nil))) fun _ _ => (.cons (.str _ (by decide +kernel)) (.cons (.str _ (by decide +kernel)) (.cons (.str _ (by decide +kernel)) .nil)))
    e_InvalidBook := exn_of (PySem.W.mg_of X Gn g_InvalidBook) x_InvalidBook q_InvalidBook b_InvalidBook t_InvalidBook
    e_InvalidDocument := exn_of (PySem.W.mg_of X Gn g_InvalidDocument) x_InvalidDocument q_InvalidDocument b_InvalidDocument t_InvalidDocument
    e_Unlike := exn_of (PySem.W.mg_of X Gn g_Unlike) x_Unlike q_Unlike b_Unlike t_Unlike }
  refine ⟨PySem.W.fnOf "law" "law" (defArgs s_law) (defBody s_law) (defScope s_law) .none kV35 dc35 pm35 an35 cd35 ct35, fun s v => .of_eq rfl, fun base _ _ => ?_⟩
  have a := all_n (base := base) F 59
  exact law_fn (df_ok (G := gx P w K mg) (fun_mk l35 c35 k35) sc_law rfl rfl (w_law a.h_pages a.h__law_document a.h_are_alike a.h_parting_document a.h_needless_rules a.h__law_taken a.h__law_near a.h__law_book a.h__law_draws F.z_len F.z_max F.z_min F.z_range)) plain
end MP
open PySem PySem.W PyProof.Rows
set_option maxRecDepth 100000 in
set_option maxHeartbeats 0 in
theorem PySem.Challenge.cw_pagefalls_k18_whole_books_alike_holds : PySem.Challenge.rw_pagefalls_k18_whole_books_alike.Holds := by
  w_on; o_law; k_head; (case hw => w_witness2)
  k_fill
  refine MP.walkM (l := PySem.Challenge.rw_pagefalls_k18_whole_books_alike) (k := 60) ⟨rfl, by decide, by decide⟩ rfl rfl (fun w h Y => PySem.W.kIn_of Y) ?F
  case F =>
    intro w mg fa h KX G hmg
    refine' MP.all_mk KX G hmg ?a1 ?l1 ?c1 ?k1 ?a2 ?l2 ?c2 ?k2 ?a3 ?l3 ?c3 ?k3 ?a4 ?l4 ?c4 ?k4 ?a5 ?l5 ?c5 ?k5 ?a6 ?l6 ?c6 ?k6 ?a7 ?l7 ?c7 ?k7 ?a8 ?l8 ?c8 ?k8 ?a9 ?l9 ?c9 ?k9 ?a10 ?l10 ?c10 ?k10 ?a11 ?l11 ?c11 ?k11 ?a12 ?l12 ?c12 ?k12 ?a13 ?l13 ?c13 ?k13 ?a14 ?l14 ?c14 ?k14 ?a15 ?l15 ?c15 ?k15 ?a16 ?l16 ?c16 ?k16 ?a17 ?l17 ?c17 ?k17 ?a18 ?l18 ?c18 ?k18 ?a19 ?l19 ?c19 ?k19 ?a20 ?l20 ?c20 ?k20 ?a21 ?l21 ?c21 ?k21 ?a22 ?l22 ?c22 ?k22 ?a23 ?l23 ?c23 ?k23 ?a24 ?l24 ?c24 ?k24 ?a25 ?l25 ?c25 ?k25 ?a26 ?l26 ?c26 ?k26 ?a27 ?l27 ?c27 ?k27 ?a28 ?l28 ?c28 ?k28 ?a29 ?l29 ?c29 ?k29 ?a30 ?l30 ?c30 ?k30 ?a31 ?l31 ?c31 ?k31 ?a32 ?l32 ?c32 ?k32 ?a33 ?l33 ?c33 ?k33 ?a34 ?l34 ?c34 ?k34 ?a35 ?l35 ?c35 ?k35 ?z_abs ?z_all ?z_bool ?z_enumerate ?z_int ?z_isinstance ?z_len ?z_list ?z_max ?z_min ?z_range ?z_str ?z_sum ?z_tuple ?z_zip ?g_LETTERS ?g_MOST_BLOCKS ?g_FIRST ?m_FIRST ?g_RULES ?m_RULES ?g_InvalidBook ?x_InvalidBook ?q_InvalidBook ?b_InvalidBook ?t_InvalidBook ?g_InvalidDocument ?x_InvalidDocument ?q_InvalidDocument ?b_InvalidDocument ?t_InvalidDocument ?g_Unlike ?x_Unlike ?q_Unlike ?b_Unlike ?t_Unlike
    (case a1 => k_is)
    (case l1 => k_is)
    (case c1 => k_is)
    (case k1 => k_is)
    (case a2 => k_is)
    (case l2 => k_is)
    (case c2 => k_is)
    (case k2 => k_is)
    (case a3 => k_is)
    (case l3 => k_is)
    (case c3 => k_is)
    (case k3 => k_is)
    (case a4 => k_is)
    (case l4 => k_is)
    (case c4 => k_is)
    (case k4 => k_is)
    (case a5 => k_is)
    (case l5 => k_is)
    (case c5 => k_is)
    (case k5 => k_is)
    (case a6 => k_is)
    (case l6 => k_is)
    (case c6 => k_is)
    (case k6 => k_is)
    (case a7 => k_is)
    (case l7 => k_is)
    (case c7 => k_is)
    (case k7 => k_is)
    (case a8 => k_is)
    (case l8 => k_is)
    (case c8 => k_is)
    (case k8 => k_is)
    (case a9 => k_is)
    (case l9 => k_is)
    (case c9 => k_is)
    (case k9 => k_is)
    (case a10 => k_is)
    (case l10 => k_is)
    (case c10 => k_is)
    (case k10 => k_is)
    (case a11 => k_is)
    (case l11 => k_is)
    (case c11 => k_is)
    (case k11 => k_is)
    (case a12 => k_is)
    (case l12 => k_is)
    (case c12 => k_is)
    (case k12 => k_is)
    (case a13 => k_is)
    (case l13 => k_is)
    (case c13 => k_is)
    (case k13 => k_is)
    (case a14 => k_is)
    (case l14 => k_is)
    (case c14 => k_is)
    (case k14 => k_is)
    (case a15 => k_is)
    (case l15 => k_is)
    (case c15 => k_is)
    (case k15 => k_is)
    (case a16 => k_is)
    (case l16 => k_is)
    (case c16 => k_is)
    (case k16 => k_is)
    (case a17 => k_is)
    (case l17 => k_is)
    (case c17 => k_is)
    (case k17 => k_is)
    (case a18 => k_is)
    (case l18 => k_is)
    (case c18 => k_is)
    (case k18 => k_is)
    (case a19 => k_is)
    (case l19 => k_is)
    (case c19 => k_is)
    (case k19 => k_is)
    (case a20 => k_is)
    (case l20 => k_is)
    (case c20 => k_is)
    (case k20 => k_is)
    (case a21 => k_is)
    (case l21 => k_is)
    (case c21 => k_is)
    (case k21 => k_is)
    (case a22 => k_is)
    (case l22 => k_is)
    (case c22 => k_is)
    (case k22 => k_is)
    (case a23 => k_is)
    (case l23 => k_is)
    (case c23 => k_is)
    (case k23 => k_is)
    (case a24 => k_is)
    (case l24 => k_is)
    (case c24 => k_is)
    (case k24 => k_is)
    (case a25 => k_is)
    (case l25 => k_is)
    (case c25 => k_is)
    (case k25 => k_is)
    (case a26 => k_is)
    (case l26 => k_is)
    (case c26 => k_is)
    (case k26 => k_is)
    (case a27 => k_is)
    (case l27 => k_is)
    (case c27 => k_is)
    (case k27 => k_is)
    (case a28 => k_is)
    (case l28 => k_is)
    (case c28 => k_is)
    (case k28 => k_is)
    (case a29 => k_is)
    (case l29 => k_is)
    (case c29 => k_is)
    (case k29 => k_is)
    (case a30 => k_is)
    (case l30 => k_is)
    (case c30 => k_is)
    (case k30 => k_is)
    (case a31 => k_is)
    (case l31 => k_is)
    (case c31 => k_is)
    (case k31 => k_is)
    (case a32 => k_is)
    (case l32 => k_is)
    (case c32 => k_is)
    (case k32 => k_is)
    (case a33 => k_is)
    (case l33 => k_is)
    (case c33 => k_is)
    (case k33 => k_is)
    (case a34 => k_is)
    (case l34 => k_is)
    (case c34 => k_is)
    (case k34 => k_is)
    (case a35 => k_is)
    (case l35 => k_is)
    (case c35 => k_is)
    (case k35 => k_is)
    (case z_abs => k_is)
    (case z_all => k_is)
    (case z_bool => k_is)
    (case z_enumerate => k_is)
    (case z_int => k_is)
    (case z_isinstance => k_is)
    (case z_len => k_is)
    (case z_list => k_is)
    (case z_max => k_is)
    (case z_min => k_is)
    (case z_range => k_is)
    (case z_str => k_is)
    (case z_sum => k_is)
    (case z_tuple => k_is)
    (case z_zip => k_is)
    (case g_LETTERS => k_is)
    (case g_MOST_BLOCKS => k_is)
    (case g_FIRST => k_is)
    (case m_FIRST => k_is)
    (case g_RULES => k_is)
    (case m_RULES => k_is)
    (case g_InvalidBook => k_is)
    (case x_InvalidBook => k_exc)
    (case q_InvalidBook => k_is)
    (case b_InvalidBook => k_is)
    (case t_InvalidBook => k_is)
    (case g_InvalidDocument => k_is)
    (case x_InvalidDocument => k_exc)
    (case q_InvalidDocument => k_is)
    (case b_InvalidDocument => k_is)
    (case t_InvalidDocument => k_is)
    (case g_Unlike => k_is)
    (case x_Unlike => k_exc)
    (case q_Unlike => k_is)
    (case b_Unlike => k_is)
    (case t_Unlike => k_is)

