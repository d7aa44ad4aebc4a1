import PyProof.Rows.All
import Wide.All
import OpenK.AllK
import Wide.FinOn
import HandS.ForMost
import KE.SortData
import KE.DataEq
import KE.DataCmp
import KE.DataFind
import KE.DataMinMax
import KE.DataAny
import HandS.Exc
import HandS.Wide
import HandS.TupAny
import HandS.Deep
import HandS.IsInst
import PyProof.SeqIndex
import KE.KIndexOf
import HandS.Text
import HandS.More
import HandS.Strs
import HandS.ExcOwn
import HandS.CallSlots
import HandS.Comp
import HandS.Iter
import HandS.Zip
import HandS.Words
import HandS.WordsExc
import HandS.HotCalls
import HandS.ExcField
import KE.KExcIs
import KE.GoesEnum
import PyProof.Rows.SetFrom
import HandS.SetFor
import PyProof.WalksMore
import KE.GoesMore
import HandS.TupSets
import HandS.Dict
import HandS.List
import HandS.ExcInit
import HandS.TryElse
import HandS.Head0
import HandS.Head1
import HandS.Head2
import HandS.HeadEnd
import HandS.HeadHook1
import HandS.HeadHook2
import KE.KxText
import PySem.Challenge.RW_cardlanes_k14_without_waits
set_option Elab.async false
set_option maxRecDepth 100000
set_option maxHeartbeats 4000000
set_option autoImplicit false
set_option linter.all false
namespace CL
open PySem
inductive D where
  | non | bl (b : Bool) | int (i : Int) | str (s : List Nat)
  | tup (ds : List D) | lst (ds : List D) | dic (t : Bool) (ks vs : List D)
  | ins (C : String) (ns : List String) (ds : List D)
  | exn (C : String) (ns : List String) (ds : List D)
  | ref (i : Nat)
  | scr (ns : List Int)
  | way (ds : List D)
  deriving Inhabited
inductive Cell where
  | lst (ds : List D) | dic (t : Bool) (ks vs : List D) | ins (C : String) (ns : List String) (ds : List D)
abbrev Store := List Cell
abbrev Env := List (Option D)
mutual
def D.lim (n : Nat) : D → Bool
  | .ref i => decide (i < n)
  | .tup ds => D.limL n ds
  | .lst ds => D.limL n ds
  | .dic t ks vs => D.limL n ks && D.limL n vs
  | .ins _ _ ds => D.limL n ds
  | .exn _ _ ds => D.limL n ds
  | .non => true
  | .bl _ => true
  | .int _ => true
  | .str _ => true
  | .scr _ => true
  | .way ds => D.limL n ds
def D.limL (n : Nat) : List D → Bool
  | [] => true
  | d :: ds => d.lim n && D.limL n ds
end
def Cell.lim (n : Nat) : Cell → Bool
  | .lst ds => D.limL n ds
  | .dic t ks vs => D.limL n ks && D.limL n vs
  | .ins _ _ ds => D.limL n ds
mutual
def D.pd : D → Option PyData
  | .non => some .none
  | .bl b => some (.bool b)
  | .int i => some (.int i)
  | .str l => some (.str ⟨l.toArray⟩)
  | .tup ds => (D.pdL ds).map .tuple
  | .lst ds => (D.pdL ds).map .list
  | .way ds => (D.pdL ds).map .tuple
  | _ => none
def D.pdL : List D → Option (List PyData)
  | [] => some []
  | d :: ds => match d.pd, D.pdL ds with
    | some x, some xs => some (x :: xs)
    | _, _ => none
end
mutual
def D.eqv : D → D → Bool
  | .non, .non => true
  | .bl a, .bl b => a == b
  | .bl a, .int j => (if a then 1 else 0) == j
  | .int i, .bl b => i == (if b then 1 else 0)
  | .int i, .int j => i == j
  | .str x, .str y => x == y
  | .lst xs, .lst ys => D.eqvL xs ys
  | .tup xs, .tup ys => D.eqvL xs ys
  | .way xs, .tup ys => D.eqvL xs ys
  | .tup xs, .way ys => D.eqvL xs ys
  | .way xs, .way ys => D.eqvL xs ys
  | _, _ => false
def D.eqvL : List D → List D → Bool
  | [], [] => true
  | x :: xs, y :: ys => D.eqv x y && D.eqvL xs ys
  | _, _ => false
end
mutual
def D.same : D → D → Bool
  | .non, .non => true
  | .bl a, .bl b => a == b
  | .int i, .int j => i == j
  | .str x, .str y => x == y
  | .tup xs, .tup ys => D.sameL xs ys
  | .lst xs, .lst ys => D.sameL xs ys
  | .way xs, .way ys => D.sameL xs ys
  | .dic t ks vs, .dic u js ws => t == u && (D.sameL ks js && D.sameL vs ws)
  | .ins C ns ds, .ins C' ms es => C == C' && (ns == ms && D.sameL ds es)
  | .exn C ns ds, .exn C' ms es => C == C' && (ns == ms && D.sameL ds es)
  | .ref i, .ref j => i == j
  | .scr x, .scr y => x == y
  | _, _ => false
def D.sameL : List D → List D → Bool
  | [], [] => true
  | x :: xs, y :: ys => D.same x y && D.sameL xs ys
  | _, _ => false
end
mutual
def D.dat : Nat → D → Bool
  | _, .non => true
  | _, .bl _ => true
  | _, .int _ => true
  | _, .str _ => true
  | n, .tup ds => D.datL n ds
  | n, .lst ds => D.datL n ds
  | n, .way ds => D.datL n ds
  | _, _ => false
def D.datL : Nat → List D → Bool
  | _, [] => true
  | n, d :: ds => decide (0 < n) && (d.dat (n - 1) && D.datL n ds)
end
def vw (S : Store) : D → D
  | .ref i => match S[i]? with
    | some (.lst ds) => .lst ds
    | some (.dic t ks vs) => .dic t ks vs
    | _ => .ref i
  | d => d
def res (n : Nat) (S : Store) : Nat → D → D
  | 0, d => d
  | k + 1, .ref i => if i < n then .ref i else match S[i]? with
    | some (.lst ds) => .lst (ds.map (res n S k))
    | some (.dic t ks vs) => .dic t ks (vs.map (res n S k))
    | some (.ins C ns ds) => .ins C ns (ds.map (res n S k))
    | none => .ref i
  | k + 1, .tup ds => .tup (ds.map (res n S k))
  | k + 1, .lst ds => .lst (ds.map (res n S k))
  | k + 1, .way ds => .way (ds.map (res n S k))
  | k + 1, .ins C ns ds => .ins C ns (ds.map (res n S k))
  | _ + 1, d => d
inductive R (α : Type) where
  | ok (a : α) (S : Store) | err (C : String) (ns : List String) (ds : List D) (S : Store) | bad
def R.bind {α β : Type} (r : R α) (f : α → Store → R β) : R β := match r with
  | .ok a S => f a S
  | .err C ns ds S => .err C ns ds S
  | .bad => .bad
def R.of {α : Type} (S : Store) : Option α → R α
  | some a => .ok a S
  | none => .bad
def R.calm {α : Type} : R α → R α
  | .err _ _ _ _ => .bad
  | r => r
inductive BO where | add | sub | mul | fdiv | mod | pow | shl
inductive CO where | eq | ne | lt | le | gt | ge | isIn | notIn | is | isNot
inductive FB where | len | str | int | tuple | wtuple | list | sorted | min | max | abs | sum | all | lenSet | sortedSet
inductive MB where | join | split | partition | startswith | index | count | append | pop | popAt | insert | reverse | extend | remove | clear | get
inductive Tg where | one (i : Nat) | many (is : List Nat)
def Tg.slots : Tg → List Nat
  | .one i => [i]
  | .many is => is
def wipeE (ρ : Env) : List Nat → Env
  | [] => ρ
  | v :: vs => (wipeE ρ vs).set v none
mutual
inductive E where
  | no | var (i : Nat) | non | bl (b : Bool) | int (i : Int) | str (l : List Nat)
  | gcon (x : String)
  | tup (es : Es) | lst (es : Es) | newl (es : Es) | newdK | newdT
  | bop (o : BO) (a b : E) | neg (a : E)
  | cmp (o : CO) (a b : E) | chain (o p : CO) (a b c : E)
  | and (es : Es) | or (es : Es) | not (a : E) | ife (c a b : E)
  | idx (a i : E) | slAll (a : E) | slLo (a lo : E) | slHi (a hi : E) | sl (a lo hi : E)
  | bi (f : FB) (es : Es) | bm (m : MB) (a : E) (es : Es)
  | isi (a : E) (cs : List String) (tp : Bool)
  | call (f : String) (give : Bool) (es : Es)
  | make (C : String) (es : Es)
  | meth (a : E) (m : String) (give : Bool) (es : Es)
  | fld (a : E) (f : String)
  | xis (cs : List String) (tp : Bool) | xfld (f : String) | hcall (f : String)
  | lc (elt : E) (tg : Tg) (it : It) | lcIf (elt : E) (tg : Tg) (it : It) (c : E)
  | ncat (a b : E) | nlist (a : E) | lset (a : E) | sset (a : E)
  | newlc (elt : E) (tg : Tg) (it : It) | newlcIf (elt : E) (tg : Tg) (it : It) (c : E)
inductive Es where
  | nil | cons (e : E) (es : Es)
inductive It where
  | val (e : E) | range (es : Es) | enum (e : E) | zip (a b : E)
end
def Es.len : Es → Nat
  | .nil => 0
  | .cons _ es => es.len + 1
mutual
inductive St where
  | set (t : Tg) (e : E) | par (i j : Nat) (a b : E)
  | setIdx (a i v : E) | setFld (a : E) (f : String) (v : E) | aug (i : Nat) (e : E)
  | ex (e : E) | ite (c : E) (a b : Ss)
  | for_ (t : Tg) (it : It) (b : Ss) | whl (c : E) (b : Ss)
  | no | ret (e : E) | ret0 | brk | cont | pass
  | raise (C : String) (es : Es)
  | try_ (b : Ss) (C : String) (as : Option Nat) (h : Ss) (els : Ss)
inductive Ss where
  | nil | cons (s : St) (ss : Ss)
end
structure Ctx where
  call : String → Bool → List D → Nat → Store → R D
  hcall : String → String × List String × List D → Nat → Store → R D
  exc : Option (String × List String × List D)
  make : String → List D → Nat → Store → R D
  meth : String → String → Option String
  con : String → Option D
  isa : String → String → Option Bool
  isx : String → String → Option Bool
  ex : String → Option (Option (List String))
  deep : Bool
  fuel : Nat
def LIM : Nat := 10000000
def catOk (a b : Nat) : Bool := decide (a + b ≤ LIM)
def bop : BO → D → D → Option D
  | .add, .int a, .int b => some (.int (a + b))
  | .add, .str a, .str b => if catOk a.length b.length then some (.str (a ++ b)) else none
  | .add, .lst a, .lst b => if catOk a.length b.length then some (.lst (a ++ b)) else none
  | .add, .tup a, .tup b => if catOk a.length b.length then some (.tup (a ++ b)) else none
  | .add, .tup a, .way b => if catOk a.length b.length && !a.isEmpty && !b.isEmpty then some (.tup (a ++ b)) else none
  | .add, .way a, .tup b => if catOk a.length b.length && !a.isEmpty && !b.isEmpty then some (.tup (a ++ b)) else none
  | .sub, .int a, .int b => some (.int (a - b))
  | .mul, .int a, .int b => if a.natAbs < 2 ^ 64 ∨ b.natAbs < 2 ^ 64 then some (.int (a * b)) else none
  | .mul, .lst a, .int b => if 0 ≤ b ∧ b ≤ 1000 ∧ a.length ≤ 1000 then some (.lst (List.replicate b.toNat a).flatten) else none
  | .fdiv, .int a, .int b => if 0 < b ∧ b < 2 ^ 4000 then some (.int (a / b)) else none
  | .mod, .int a, .int b => if 0 < b then some (.int (a % b)) else none
  | .pow, .int a, .int b => if 0 ≤ b ∧ b ≤ 1000 ∧ a.natAbs < 2 ^ 64 then some (.int (a ^ b.toNat)) else none
  | .shl, .int a, .int b => if 0 ≤ b ∧ b ≤ 1000 ∧ a.natAbs < 2 ^ 64 then some (.int (a * 2 ^ b.toNat)) else none
  | _, _, _ => none
def dp : Nat := 20
def eqD (a b : D) : Option Bool := if a.dat dp && b.dat dp then some (D.eqv a b) else none
def nonP : PyData → Bool
  | .none => true
  | _ => false
def ltD (a b : D) : Option Bool := match a, b with
  | .int i, .int j => some (decide (i < j))
  | .str x, .str y => some (decide (x < y))
  | _, _ => if a.dat dp && b.dat dp then match a.pd, b.pd with
    | some p, some q => if PySem.W.alike p q && !nonP p then some (PySem.W.dataLt p q) else none
    | _, _ => none
    else none
def flatD : D → Bool
  | .int _ => true
  | .str _ => true
  | _ => false
def keyOf (t : Bool) (d : D) : Bool := match d with
  | .int _ => !t
  | .str _ => !t
  | .tup ds => t && ds.all flatD
  | _ => false
def lookD (k : D) : List D → List D → Option D
  | x :: ks, v :: vs => if D.eqv x k then some v else lookD k ks vs
  | _, _ => none
def inD (a b : D) : Option Bool := match b with
  | .str l => match a with
    | .str [c] => some (decide (c ∈ l))
    | _ => none
  | .lst ds => if a.dat dp && D.datL dp ds then some (ds.any fun z => D.eqv z a) else none
  | .tup ds => if a.dat dp && D.datL dp ds then some (ds.any fun z => D.eqv z a) else none
  | .way ds => if a.dat dp && D.datL dp ds then some (ds.any fun z => D.eqv z a) else none
  | .dic t ks vs => if keyOf t a then some (lookD a ks vs).isSome else none
  | _ => none
def isD (a b : D) : Option Bool := match b with
  | .non => some (match a with | .non => true | _ => false)
  | .bl k => match a with
    | .bl j => some (j == k)
    | _ => none
  | _ => none
def cmpD : CO → D → D → Option Bool
  | .eq, a, b => eqD a b
  | .ne, a, b => (eqD a b).map (!·)
  | .lt, a, b => ltD a b
  | .gt, a, b => ltD b a
  | .le, a, b => (ltD b a).map (!·)
  | .ge, a, b => (ltD a b).map (!·)
  | .isIn, a, b => inD a b
  | .notIn, a, b => (inD a b).map (!·)
  | .is, a, b => isD a b
  | .isNot, a, b => (isD a b).map (!·)
def truD : D → Option Bool
  | .non => some false
  | .bl b => some b
  | .int i => some (i != 0)
  | .str l => if l.length ≤ LIM then some (!l.isEmpty) else none
  | .tup ds => some (!ds.isEmpty)
  | .way ds => some (!ds.isEmpty)
  | .lst ds => some (!ds.isEmpty)
  | _ => none
def atD {α : Type} (l : List α) (i : Int) : Option α := if 0 ≤ i then l[i.toNat]? else if 0 ≤ i + l.length then l[(i + l.length).toNat]? else none
def idxD : D → D → Option D
  | .lst ds, .int i => atD ds i
  | .tup ds, .int i => atD ds i
  | .way ds, .int i => atD ds i
  | .str l, .int i => if l.length ≤ LIM then (atD l i).map fun c => .str [c] else none
  | .dic t ks vs, k => if keyOf t k then lookD k ks vs else none
  | .scr ns, .int i => (atD ns i).map .int
  | _, _ => none
def clipI (n : Nat) (v : Int) : Nat := if v < 0 then (max (v + n) 0).toNat else min v.toNat n
def cutL {α : Type} (l : List α) (lo hi : Option Int) : List α :=
  let i := match lo with | some v => clipI l.length v | none => 0
  let j := match hi with | some v => clipI l.length v | none => l.length
  (l.drop i).take (j - i)
def slD (lo hi : Option Int) : D → Option D
  | .lst ds => some (.lst (cutL ds lo hi))
  | .tup ds => some (.tup (cutL ds lo hi))
  | .way ds => some (if (cutL ds lo hi).length = ds.length then .way ds else .tup (cutL ds lo hi))
  | .str l => if l.length ≤ LIM then some (.str (cutL l lo hi)) else none
  | _ => none
def lenD : D → Option Nat
  | .lst ds => some ds.length
  | .tup ds => some ds.length
  | .way ds => some ds.length
  | .str l => if l.length ≤ LIM then some l.length else none
  | .dic false ks _ => some ks.length
  | .scr ns => some ns.length
  | _ => none
def strI (i : Int) : List Nat := (toString i).toList.map Char.toNat
def txts : List D → Option (List (List Nat))
  | [] => some []
  | .str l :: ds => (txts ds).map (l :: ·)
  | _ :: _ => none
def intsD : List D → Option (List Int)
  | [] => some []
  | .int i :: ds => (intsD ds).map (i :: ·)
  | _ :: _ => none
def bls : List D → Option (List Bool)
  | [] => some []
  | .bl b :: ds => (bls ds).map (b :: ·)
  | _ :: _ => none
def joinN (sep : List Nat) : List (List Nat) → List Nat
  | [] => []
  | [x] => x
  | x :: y :: r => x ++ sep ++ joinN sep (y :: r)
def splitN (c : Nat) : List Nat → List Nat → List (List Nat)
  | acc, [] => [acc]
  | acc, x :: r => if x = c then acc :: splitN c [] r else splitN c (acc ++ [x]) r
def parN (c : Nat) : List Nat → List Nat → Option (List Nat × List Nat)
  | _, [] => none
  | acc, x :: r => if x = c then some (acc, r) else parN c (acc ++ [x]) r
def alikeAllD (ps : List PyData) : Bool := ps.all fun p => ps.all fun q => PySem.W.alike p q
def sortOk (ps : List PyData) : Bool := (ps.all fun p => match p with | .tuple (_ :: _) => true | _ => false) || (ps.all fun p => match p with | .none => false | .tuple _ => false | _ => true)
def leD (a b : D) : Bool := !(ltD b a).getD false
def sortD (ds : List D) : Option (List D) :=
  if D.datL dp ds && decide (ds.length ≤ LIM) then match D.pdL ds with
    | some ps => if alikeAllD ps && sortOk ps then some (ds.mergeSort leD) else none
    | none => none
  else none
def firsts : List D → List D → List D
  | _, [] => []
  | seen, d :: ds => if seen.any fun z => D.eqv z d then firsts seen ds else d :: firsts (seen ++ [d]) ds
def minL : D → List D → D
  | m, [] => m
  | m, d :: ds => if (ltD d m).getD false then minL d ds else minL m ds
def maxL : D → List D → D
  | m, [] => m
  | m, d :: ds => if (ltD m d).getD false then maxL d ds else maxL m ds
def seqD : D → Option (List D)
  | .lst ds => some ds
  | .tup ds => some ds
  | .way ds => some ds
  | _ => none
def bestD (f : D → List D → D) : List D → Option D
  | [] => none
  | d :: ds => if D.datL dp (d :: ds) then match D.pdL (d :: ds) with
    | some ps => if alikeAllD ps then some (f d ds) else none
    | none => none
    else none
def fbD : FB → List D → Option D
  | .len, [d] => (lenD d).map fun (n : Nat) => D.int n
  | .str, [.int i] => if i.natAbs < 2 ^ 1000 then some (.str (strI i)) else none
  | .int, [.int i] => some (.int i)
  | .int, [.bl b] => some (.int (if b then 1 else 0))
  | .int, [.str l] => if l.length ≤ 640 then (intText? ⟨l.toArray⟩).map .int else none
  | .tuple, [.lst ds] => some (.tup ds)
  | .wtuple, [.lst ds] => some (.way ds)
  | .list, [.way ds] => some (.lst ds)
  | .tuple, [.tup ds] => some (.tup ds)
  | .list, [.lst ds] => some (.lst ds)
  | .list, [.tup ds] => some (.lst ds)
  | .sorted, [.lst ds] => (sortD ds).map .lst
  | .min, [.int a, .int b] => some (.int (if b < a then b else a))
  | .max, [.int a, .int b] => some (.int (if b > a then b else a))
  | .abs, [.int a] => some (.int (if a < 0 then -a else a))
  | .sum, [.lst ds] => (intsD ds).map fun l => .int l.sum
  | .all, [.lst ds] => (bls ds).map fun l => .bl (l.all id)
  | _, _ => none
def remAt {α : Type} (l : List α) (i : Int) : Option (α × List α) :=
  match atD l i with
  | some x => some (x, l.eraseIdx (if 0 ≤ i then i.toNat else (i + l.length).toNat))
  | none => none
def placeD (x : D) : List D → Option Nat
  | [] => none
  | d :: ds => if D.eqv d x then some 0 else (placeD x ds).map (· + 1)
def tD (x : Str) : D := .str x.cps.toList
def sT (l : List Nat) : Str := ⟨l.toArray⟩
def kindD : D → Nat
  | .str _ => 1
  | .lst _ => 2
  | .way _ => 3
  | _ => 0
def mbId : MB → Nat → Option String
  | .join, 1 => some "str.join"
  | .split, 1 => some "str.split"
  | .partition, 1 => some "str.partition"
  | .startswith, 1 => some "str.startswith"
  | .index, 2 => some "list.index"
  | .index, 3 => some "tuple.index"
  | .count, 2 => some "list.count"
  | .append, 2 => some "list.append"
  | .extend, 2 => some "list.extend"
  | .pop, 2 => some "list.pop"
  | .popAt, 2 => some "list.pop"
  | .insert, 2 => some "list.insert"
  | .reverse, 2 => some "list.reverse"
  | .clear, 2 => some "list.clear"
  | .remove, 2 => some "list.remove"
  | _, _ => none
def mbD : MB → D → List D → Option D
  | .join, .str sep, [.lst ds] => match txts ds with
    | some ls => if ((ls.map List.length).sum + ls.length * sep.length) ≤ LIM then some (tD (Txt.join (sT sep) (ls.map sT))) else none
    | none => none
  | .split, .str l, [.str [c]] => if l.length ≤ LIM then some (.lst ((Txt.split (sT l) (sT [c])).map tD)) else none
  | .partition, .str l, [.str [c]] => if l.length ≤ LIM then some (.tup [tD (Txt.partition (sT l) (sT [c])).1, tD (Txt.partition (sT l) (sT [c])).2.1, tD (Txt.partition (sT l) (sT [c])).2.2]) else none
  | .startswith, .str l, [.str p] => some (.bl (Txt.startswith (sT l) (sT p)))
  | .index, .lst ds, [x] => if x.dat dp && D.datL dp ds then (placeD x ds).map fun (n : Nat) => D.int n else none
  | .index, .way ds, [x] => if x.dat dp && D.datL dp ds then (placeD x ds).map fun (n : Nat) => D.int n else none
  | .count, .lst ds, [x] => if x.dat dp && D.datL dp ds then some (.int (ds.countP fun y => D.eqv y x : Nat)) else none
  | _, _, _ => none
def mcD : MB → List D → List D → List D → Option (D × List D)
  | .append, ds, [x], _ => if ds.length < LIM then some (.non, ds ++ [x]) else none
  | .extend, ds, [_], [.lst xs] => if ds.length + xs.length ≤ LIM then some (.non, ds ++ xs) else none
  | .pop, ds, [], _ => (ds[ds.length - 1]?).map fun x => (x, ds.dropLast)
  | .popAt, ds, [.int i], _ => if ds.length ≤ LIM then remAt ds i else none
  | .insert, ds, [.int i, x], _ => if ds.length < LIM ∧ 0 ≤ i ∧ i < 2 ^ 63 then some (.non, ds.take i.toNat ++ [x] ++ ds.drop i.toNat) else none
  | .reverse, ds, [], _ => some (.non, ds.reverse)
  | .clear, _, [], _ => some (.non, [])
  | .remove, ds, [_], [x] => if x.dat dp && D.datL dp ds then (placeD x ds).map fun n => (.non, ds.eraseIdx n) else none
  | _, _, _, _ => none
def MB.writes : MB → Bool
  | .append => true | .extend => true | .pop => true | .popAt => true | .insert => true | .reverse => true | .clear => true | .remove => true
  | _ => false
def putOk (b i : Nat) (v : D) : Bool := v.lim 0 || decide (b ≤ i)
def bmD (m : MB) (a : D) (xs : List D) (b : Nat) (S : Store) : R D :=
  if m.writes then match a with
    | .ref i => match S[i]? with
      | some (.lst ds) => match mcD m ds xs (xs.map (vw S)) with
        | some (r, ds') => if D.limL 0 xs || decide (b ≤ i) then .ok r (S.set i (.lst ds')) else .bad
        | none => .bad
      | _ => .bad
    | _ => .bad
  else R.of S (mbD m (vw S a) (xs.map (vw S)))
def asg (t : Tg) (d : D) (ρ : Env) : Option Env := match t with
  | .one i => some (ρ.set i (some d))
  | .many is => match d with
    | .tup ds => if ds.length = is.length then some ((is.zip ds).foldl (fun ρ p => ρ.set p.1 (some p.2)) ρ) else none
    | _ => none
def isaD (c : Ctx) (d : D) (C : String) : Option Bool := match d with
  | .non => some false
  | .bl _ => some (C == "bool" || C == "int")
  | .int _ => some (C == "int")
  | .str _ => some (C == "str")
  | .tup _ => some (C == "tuple")
  | .way _ => some (C == "tuple")
  | .lst _ => some (C == "list")
  | .dic _ _ _ => some (C == "dict")
  | .ins X _ _ => c.isa X C
  | .exn X _ _ => c.isa X C
  | _ => none
def isaAny (c : Ctx) (d : D) : List String → Option Bool
  | [] => some false
  | C :: r => match isaD c d C with
    | some true => some true
    | some false => isaAny c d r
    | none => none
def fldD (f : String) : List String → List D → Option D
  | n :: ns, d :: ds => if n = f then some d else fldD f ns ds
  | _, _ => none
def putD (f : String) (v : D) : List String → List D → List String × List D
  | n :: ns, d :: ds => if n = f then (n :: ns, v :: ds) else let r := putD f v ns ds; (n :: r.1, d :: r.2)
  | _, _ => ([f], [v])
def putK (k v : D) (ks vs : List D) : List D × List D :=
  if ks.any fun x => D.eqv x k then (ks, List.zipWith (fun x w => if D.eqv x k then v else w) ks vs) else (ks ++ [k], vs ++ [v])
def ofLim (n : Nat) (b : Bool) : Option Unit := if b then some () else none
structure Walk where
  items : List D
  held : List (Nat × List D)
def Walk.still (w : Walk) (S : Store) : Bool := w.held.all fun p => match S[p.1]? with
  | some (.lst ds) => D.sameL ds p.2
  | _ => false
def lcL (f : D → Env → Store → R (Option D)) (w : Walk) (ρ : Env) : List D → Store → R (List D)
  | [], S => if w.still S then .ok [] S else .bad
  | d :: ds, S => if w.still S then match f d ρ S with
    | .ok none S1 => lcL f w ρ ds S1
    | .ok (some x) S1 => match lcL f w ρ ds S1 with
      | .ok xs S2 => .ok (x :: xs) S2
      | _ => .bad
    | _ => .bad
    else .bad
def lcR (f : D → Env → Store → R (Option D)) (w : Walk) (ρ : Env) (S : Store) : R (List D) := if w.items.length ≤ LIM then lcL f w ρ w.items S else .bad
def ranges : List D → Option (List D)
  | [.int n] => if -10000000 ≤ n ∧ n ≤ 10000000 then some ((List.range n.toNat).map fun (k : Nat) => .int k) else none
  | [.int a, .int b] => if -10000000 ≤ a ∧ a ≤ 10000000 ∧ -10000000 ≤ b ∧ b ≤ 10000000 then some ((List.range (b - a).toNat).map fun (k : Nat) => .int (a + k)) else none
  | [.int a, .int b, .int c] => if c = -1 ∧ -10000000 ≤ a ∧ a ≤ 10000000 ∧ -10000000 ≤ b ∧ b ≤ 10000000 then some ((List.range (a - b).toNat).map fun (k : Nat) => .int (a - k)) else none
  | _ => none
def listD (S : Store) (d : D) : Option (List D × List (Nat × List D)) := match d with
  | .lst ds => some (ds, [])
  | .ref i => match S[i]? with
    | some (.lst ds) => some (ds, [(i, ds)])
    | _ => none
  | _ => none
def walkD (S : Store) (d : D) : Option Walk := match d with
  | .tup ds => some ⟨ds, []⟩
  | .way ds => some ⟨ds, []⟩
  | .str l => some ⟨l.map fun c => .str [c], []⟩
  | .scr ns => some ⟨ns.map .int, []⟩
  | d => (listD S d).map fun p => ⟨p.1, p.2⟩
def numbered (k : Nat) : List D → List D
  | [] => []
  | d :: ds => .tup [.int k, d] :: numbered (k + 1) ds
def pairs : List D → List D → List D
  | x :: xs, y :: ys => .tup [x, y] :: pairs xs ys
  | _, _ => []
def tupD : D → Option (List D)
  | .tup ds => some ds
  | .way ds => some ds
  | _ => none
def enumD (S : Store) (d : D) : Option Walk := match tupD d with
  | some ds => some ⟨numbered 0 ds, []⟩
  | none => (listD S d).map fun l => ⟨numbered 0 l.1, l.2⟩
def zipD (S : Store) (d e : D) : Option Walk := match tupD d, tupD e with
  | some ds, some es => some ⟨pairs ds es, []⟩
  | none, none => (listD S d).bind fun l => (listD S e).map fun m => ⟨pairs l.1 m.1, l.2 ++ m.2⟩
  | _, _ => none
def lsetD : D → Option D
  | .lst ds => match txts ds with
    | some ls => if ls.length ≤ 4000 then some (.int (firsts [] ds).length) else none
    | none => none
  | _ => none
def ssetL (ds : List D) : Option D := if ds.length ≤ 120 ∧ ds.all (keyOf true) = true then (sortD (firsts [] ds)).map .lst else none
def ssetD : D → Option D
  | .lst ds => ssetL ds
  | .tup ds => ssetL ds
  | _ => none
def isxAny (c : Ctx) (X : String) : List String → Option Bool
  | [] => some false
  | C :: r => match c.isx X C with
    | some true => some true
    | some false => isxAny c X r
    | none => none
def exFields : Option (Option (List String)) → List D → Option (List String × List D)
  | some none, [.str _] => some ([], [])
  | some (some ns), ds => if ds.length = ns.length ∧ ns.length < 20 then some (ns.reverse, ds.reverse) else none
  | _, _ => none
mutual
def ev (c : Ctx) (b : Nat) : E → Env → Store → R D
  | .no, _, _ => .bad
  | .var i, ρ, S => match ρ[i]? with
    | some (some d) => .ok d S
    | _ => .bad
  | .non, _, S => .ok .non S
  | .bl k, _, S => .ok (.bl k) S
  | .int i, _, S => .ok (.int i) S
  | .str l, _, S => .ok (.str l) S
  | .gcon x, _, S => R.of S (c.con x)
  | .tup es, ρ, S => (evs c b es ρ S).bind fun ds S1 => .ok (.tup ds) S1
  | .lst es, ρ, S => (evs c b es ρ S).bind fun ds S1 => .ok (.lst ds) S1
  | .newl es, ρ, S => (evs c b es ρ S).bind fun ds S1 => .ok (.ref S1.length) (S1 ++ [.lst ds])
  | .newdK, _, S => .ok (.ref S.length) (S ++ [.dic false [] []])
  | .newdT, _, S => .ok (.ref S.length) (S ++ [.dic true [] []])
  | .bop o x y, ρ, S => (ev c b x ρ S).bind fun d S1 => (ev c b y ρ S1).bind fun e S2 => R.of S2 (bop o (vw S2 d) (vw S2 e))
  | .neg x, ρ, S => (ev c b x ρ S).bind fun d S1 => match d with
    | .int i => .ok (.int (-i)) S1
    | _ => .bad
  | .cmp o x y, ρ, S => (ev c b x ρ S).bind fun d S1 => (ev c b y ρ S1).bind fun e S2 => R.of S2 ((cmpD o (vw S2 d) (vw S2 e)).map .bl)
  | .chain o p x y z, ρ, S => (ev c b x ρ S).bind fun d S1 => (ev c b y ρ S1).bind fun e S2 => match cmpD o (vw S2 d) (vw S2 e) with
    | some true => (ev c b z ρ S2).bind fun f S3 => R.of S3 ((cmpD p (vw S3 e) (vw S3 f)).map .bl)
    | some false => .ok (.bl false) S2
    | none => .bad
  | .and es, ρ, S => evAnd c b es ρ S
  | .or es, ρ, S => evOr c b es ρ S
  | .not x, ρ, S => (ev c b x ρ S).bind fun d S1 => R.of S1 ((truD (vw S1 d)).map fun k => .bl (!k))
  | .ife q x y, ρ, S => (ev c b q ρ S).bind fun d S1 => match truD (vw S1 d) with
    | some true => ev c b x ρ S1
    | some false => ev c b y ρ S1
    | none => .bad
  | .idx x i, ρ, S => (ev c b x ρ S).bind fun d S1 => (ev c b i ρ S1).bind fun e S2 => R.of S2 (idxD (vw S2 d) (vw S2 e))
  | .slAll x, ρ, S => (ev c b x ρ S).bind fun d S1 => R.of S1 (slD none none (vw S1 d))
  | .slLo x lo, ρ, S => (ev c b x ρ S).bind fun d S1 => (ev c b lo ρ S1).bind fun e S2 => match e with
    | .int i => R.of S2 (slD (some i) none (vw S2 d))
    | _ => .bad
  | .slHi x hi, ρ, S => (ev c b x ρ S).bind fun d S1 => (ev c b hi ρ S1).bind fun e S2 => match e with
    | .int i => R.of S2 (slD none (some i) (vw S2 d))
    | _ => .bad
  | .sl x lo hi, ρ, S => (ev c b x ρ S).bind fun d S1 => (ev c b lo ρ S1).bind fun e S2 => match e with
    | .int i => (ev c b hi ρ S2).bind fun f S3 => match f with
      | .int j => R.of S3 (slD (some i) (some j) (vw S3 d))
      | _ => .bad
    | _ => .bad
  | .bi f es, ρ, S => (evs c b es ρ S).bind fun ds S1 => R.of S1 (fbD f (ds.map (vw S1)))
  | .bm m x es, ρ, S => (ev c b x ρ S).bind fun d S1 => if (mbId m (kindD (vw S1 d))).isSome then (evs c b es ρ S1).bind fun ds S2 => if kindD (vw S1 d) = kindD (vw S2 d) then bmD m d ds b S2 else .bad else .bad
  | .isi x cs _, ρ, S => (ev c b x ρ S).bind fun d S1 => R.of S1 ((isaAny c (vw S1 d) cs).map .bl)
  | .call f g es, ρ, S => (evs c b es ρ S).bind fun ds S1 => c.call f g ds b S1
  | .make C es, ρ, S => (evs c b es ρ S).bind fun ds S1 => c.make C ds b S1
  | .meth x m g es, ρ, S => (ev c b x ρ S).bind fun d S1 => (evs c b es ρ S1).bind fun ds S2 => match d with
    | .ins C _ _ => match c.meth C m with
      | some f => c.call f g (d :: ds) b S2
      | none => .bad
    | .ref i => match S2[i]? with
      | some (.ins C _ _) => match c.meth C m with
        | some f => c.call f g (d :: ds) b S2
        | none => .bad
      | _ => .bad
    | _ => .bad
  | .fld x f, ρ, S => (ev c b x ρ S).bind fun d S1 => match d with
    | .ins _ ns ds => R.of S1 (fldD f ns ds)
    | .exn _ ns ds => R.of S1 (fldD f ns ds)
    | .ref i => match S1[i]? with
      | some (.ins _ ns ds) => R.of S1 (fldD f ns ds)
      | _ => .bad
    | _ => .bad
  | .xis cs _, _, S => match c.exc with
    | some x => R.of S ((isxAny c x.1 cs).map .bl)
    | none => .bad
  | .xfld f, _, S => match c.exc with
    | some x => R.of S (fldD f x.2.1 x.2.2)
    | none => .bad
  | .hcall f, _, S => match c.exc with
    | some x => c.hcall f x b S
    | none => .bad
  | .lc elt tg it, ρ, S => (evIt c b it ρ S).bind fun w S1 =>
      (lcR (fun d ρ S => match asg tg d ρ with | some ρ' => (ev c b elt ρ' S).bind fun x S' => .ok (some x) S' | none => .bad) w (wipeE ρ tg.slots) S1).bind fun ds S2 => .ok (.lst ds) S2
  | .lcIf elt tg it q, ρ, S => (evIt c b it ρ S).bind fun w S1 =>
      (lcR (fun d ρ S => match asg tg d ρ with
        | some ρ' => (ev c b q ρ' S).bind fun k S' => match truD (vw S' k) with
          | some true => (ev c b elt ρ' S').bind fun x S' => .ok (some x) S'
          | some false => .ok none S'
          | none => .bad
        | none => .bad) w (wipeE ρ tg.slots) S1).bind fun ds S2 => .ok (.lst ds) S2
  | .ncat x y, ρ, S => (ev c b x ρ S).bind fun d S1 => (ev c b y ρ S1).bind fun e S2 => match bop .add (vw S2 d) (vw S2 e) with
    | some (.lst ds) => .ok (.ref S2.length) (S2 ++ [.lst ds])
    | _ => .bad
  | .nlist x, ρ, S => (ev c b x ρ S).bind fun d S1 => match seqD (vw S1 d) with
    | some ds => .ok (.ref S1.length) (S1 ++ [.lst ds])
    | none => .bad
  | .lset x, ρ, S => (ev c b x ρ S).bind fun d S1 => R.of S1 (lsetD (vw S1 d))
  | .sset x, ρ, S => (ev c b x ρ S).bind fun d S1 => R.of S1 (ssetD (vw S1 d))
  | .newlc elt tg it, ρ, S => (evIt c b it ρ S).bind fun w S1 =>
      (lcR (fun d ρ S => match asg tg d ρ with | some ρ' => (ev c b elt ρ' S).bind fun x S' => .ok (some x) S' | none => .bad) w (wipeE ρ tg.slots) S1).bind fun ds S2 => .ok (.ref S2.length) (S2 ++ [.lst ds])
  | .newlcIf elt tg it q, ρ, S => (evIt c b it ρ S).bind fun w S1 =>
      (lcR (fun d ρ S => match asg tg d ρ with
        | some ρ' => (ev c b q ρ' S).bind fun k S' => match truD (vw S' k) with
          | some true => (ev c b elt ρ' S').bind fun x S' => .ok (some x) S'
          | some false => .ok none S'
          | none => .bad
        | none => .bad) w (wipeE ρ tg.slots) S1).bind fun ds S2 => .ok (.ref S2.length) (S2 ++ [.lst ds])
def evs (c : Ctx) (b : Nat) : Es → Env → Store → R (List D)
  | .nil, _, S => .ok [] S
  | .cons e es, ρ, S => (ev c b e ρ S).bind fun d S1 => (evs c b es ρ S1).bind fun ds S2 => .ok (d :: ds) S2
def evAnd (c : Ctx) (b : Nat) : Es → Env → Store → R D
  | .nil, _, _ => .bad
  | .cons e .nil, ρ, S => ev c b e ρ S
  | .cons e (.cons e2 es), ρ, S => (ev c b e ρ S).bind fun d S1 => match truD (vw S1 d) with
    | some true => evAnd c b (.cons e2 es) ρ S1
    | some false => .ok d S1
    | none => .bad
def evOr (c : Ctx) (b : Nat) : Es → Env → Store → R D
  | .nil, _, _ => .bad
  | .cons e .nil, ρ, S => ev c b e ρ S
  | .cons e (.cons e2 es), ρ, S => (ev c b e ρ S).bind fun d S1 => match truD (vw S1 d) with
    | some false => evOr c b (.cons e2 es) ρ S1
    | some true => .ok d S1
    | none => .bad
def evIt (c : Ctx) (b : Nat) : It → Env → Store → R Walk
  | .val e, ρ, S => (ev c b e ρ S).bind fun d S1 => R.of S1 (walkD S1 d)
  | .range es, ρ, S => (evs c b es ρ S).bind fun ds S1 => R.of S1 ((ranges ds).map fun l => ⟨l, []⟩)
  | .enum e, ρ, S => (ev c b e ρ S).bind fun d S1 => R.of S1 (enumD S1 d)
  | .zip x y, ρ, S => (ev c b x ρ S).bind fun d S1 => (ev c b y ρ S1).bind fun e S2 => R.of S2 (zipD S2 d e)
end
inductive Fl where | nx (ρ : Env) | rt (d : D) | bk (ρ : Env) | ct (ρ : Env)
inductive RS where
  | ok (f : Fl) (S : Store) | err (C : String) (ns : List String) (ds : List D) (ρ : Env) (S : Store) | bad
def R.then {α : Type} (r : R α) (ρ : Env) (f : α → Store → RS) : RS := match r with
  | .ok a S => f a S
  | .err C ns ds S => .err C ns ds ρ S
  | .bad => .bad
def RS.then (r : RS) (f : Env → Store → RS) : RS := match r with
  | .ok (.nx ρ) S => f ρ S
  | r => r
def forL (body : Env → Store → RS) (t : Tg) (w : Walk) : List D → Env → Store → RS
  | [], ρ, S => if w.still S then .ok (.nx ρ) S else .bad
  | d :: ds, ρ, S => if w.still S then match asg t d ρ with
    | none => .bad
    | some ρ1 => match body ρ1 S with
      | .ok (.nx ρ2) S2 => forL body t w ds ρ2 S2
      | .ok (.ct ρ2) S2 => forL body t w ds ρ2 S2
      | .ok (.bk ρ2) S2 => .ok (.nx ρ2) S2
      | .ok (.rt d) S2 => .ok (.rt d) S2
      | .err C ns es ρ2 S2 => .err C ns es ρ2 S2
      | .bad => .bad
    else .bad
def whlL (test : Env → Store → R D) (body : Env → Store → RS) : Nat → Env → Store → RS
  | 0, _, _ => .bad
  | n + 1, ρ, S => (test ρ S).then ρ fun d S1 => match truD (vw S1 d) with
    | some true => match body ρ S1 with
      | .ok (.nx ρ2) S2 => whlL test body n ρ2 S2
      | .ok (.ct ρ2) S2 => whlL test body n ρ2 S2
      | .ok (.bk ρ2) S2 => .ok (.nx ρ2) S2
      | .ok (.rt d) S2 => .ok (.rt d) S2
      | .err C ns es ρ2 S2 => .err C ns es ρ2 S2
      | .bad => .bad
    | some false => .ok (.nx ρ) S1
    | none => .bad
def RS.forget (i : Nat) : RS → RS
  | .ok (.nx ρ) S => .ok (.nx (ρ.set i none)) S
  | .ok (.ct ρ) S => .ok (.ct (ρ.set i none)) S
  | .ok (.bk ρ) S => .ok (.bk (ρ.set i none)) S
  | r => r
def RS.calm : RS → RS
  | .err _ _ _ _ _ => .bad
  | r => r
def RS.tried (r : RS) (isa : String → Option Bool) (as : Option Nat) (h : String → List String → List D → Env → Store → RS) (els : Env → Store → RS) : RS := match r with
  | .err X ns ds ρ1 S1 => match isa X with
    | some true => match as with
      | some i => if i < ρ1.length then (h X ns ds (ρ1.set i none) S1).calm.forget i else .bad
      | none => (h X ns ds ρ1 S1).calm
    | some false => .err X ns ds ρ1 S1
    | none => .bad
  | r => r.then els
def storeK (b i : Nat) (k v : D) (S : Store) : Option Store := match S[i]? with
  | some (.dic t ks vs) => if keyOf t k && (putOk b i v && decide (ks.length < LIM)) then let r := putK k v ks vs; some (S.set i (.dic t r.1 r.2)) else none
  | some (.lst ds) => match k with
    | .int j => if putOk b i v then match atD ds j with
      | some _ => some (S.set i (.lst (ds.set (if 0 ≤ j then j.toNat else (j + ds.length).toNat) v)))
      | none => none
      else none
    | _ => none
  | _ => none
mutual
def exS (b : Nat) : St → Ctx → Env → Store → RS
  | .no, _, _, _ => .bad
  | .set t e, c, ρ, S => (ev c b e ρ S).then ρ fun d S1 => match asg t d ρ with
    | some ρ' => .ok (.nx ρ') S1
    | none => .bad
  | .par i j x y, c, ρ, S => (ev c b x ρ S).then ρ fun d S1 => (ev c b y ρ S1).then ρ fun e S2 => .ok (.nx ((ρ.set i (some d)).set j (some e))) S2
  | .setIdx x i v, c, ρ, S => (ev c b v ρ S).then ρ fun w S1 => (ev c b x ρ S1).then ρ fun d S2 => (ev c b i ρ S2).then ρ fun k S3 => match d with
    | .ref n => match storeK b n k w S3 with
      | some S4 => .ok (.nx ρ) S4
      | none => .bad
    | _ => .bad
  | .setFld x f v, c, ρ, S => (ev c b v ρ S).then ρ fun w S1 => (ev c b x ρ S1).then ρ fun d S2 => match d with
    | .ref n => match S2[n]? with
      | some (.ins C ns ds) => if putOk b n w && decide (ns.length < 900) then let r := putD f w ns ds; .ok (.nx ρ) (S2.set n (.ins C r.1 r.2)) else .bad
      | _ => .bad
    | _ => .bad
  | .aug i e, c, ρ, S => match ρ[i]? with
    | some (some x) => (ev c b e ρ S).then ρ fun d S1 => match x, d with
      | .int p, .int q => .ok (.nx (ρ.set i (some (.int (p + q))))) S1
      | _, _ => .bad
    | _ => .bad
  | .ex e, c, ρ, S => (ev c b e ρ S).then ρ fun _ S1 => .ok (.nx ρ) S1
  | .ite q x y, c, ρ, S => (ev c b q ρ S).then ρ fun d S1 => match truD (vw S1 d) with
    | some true => exs b x c ρ S1
    | some false => exs b y c ρ S1
    | none => .bad
  | .for_ t it body, c, ρ, S => (evIt c b it ρ S).then ρ fun w S1 => forL (fun ρ S => exs b body c ρ S) t w w.items ρ S1
  | .whl q body, c, ρ, S => whlL (fun ρ S => ev c b q ρ S) (fun ρ S => exs b body c ρ S) c.fuel ρ S
  | .ret e, c, ρ, S => (ev c b e ρ S).then ρ fun d S1 => .ok (.rt d) S1
  | .ret0, _, _, S => .ok (.rt .non) S
  | .brk, c, ρ, S => .ok (.bk ρ) S
  | .cont, c, ρ, S => .ok (.ct ρ) S
  | .pass, c, ρ, S => .ok (.nx ρ) S
  | .raise C es, c, ρ, S => if c.deep then (evs c b es ρ S).then ρ fun ds S1 => match exFields (c.ex C) ds with
    | some (ns, fs) => .err C ns fs ρ S1
    | none => .bad
    else .bad
  | .try_ body C as h els, c, ρ, S => RS.tried (exs b body c ρ S) (fun X => c.isx X C) as (fun X ns ds ρ1 S1 => exs b h (match as with | some _ => { c with exc := some (X, ns, ds) } | none => c) ρ1 S1) (fun ρ1 S1 => exs b els c ρ1 S1)
def exs (b : Nat) : Ss → Ctx → Env → Store → RS
  | .nil, _, ρ, S => .ok (.nx ρ) S
  | .cons s ss, c, ρ, S => (exS b s c ρ S).then fun ρ1 S1 => exs b ss c ρ1 S1
end
structure Fn where
  np : Nat
  names : List String
  body : Ss
  keep : Bool := false
def fin (keep give : Bool) (n : Nat) (S : Store) (d : D) : R D :=
  if keep then .ok d S else
  if give then .bad
  else let r := res n S 8 d; if r.lim n then .ok r (S.take n) else .bad
def runFn (c : Ctx) (f : Fn) (give : Bool) (ρ : Env) (b : Nat) (S : Store) : R D :=
    match exs (if f.keep then b else S.length) f.body c ρ S with
    | .ok (.nx _) S' => fin f.keep give S.length S' .non
    | .ok (.rt d) S' => fin f.keep give S.length S' d
    | .err C ns ds _ S' => if f.keep then .err C ns ds S' else if D.limL S.length ds then .err C ns ds (S'.take S.length) else .bad
    | _ => .bad
def Fn.start (f : Fn) (args : List D) : Env := args.map some ++ List.replicate (f.names.length - f.np) none
structure Cl where
  kind : Nat
  init : Option String
structure Text where
  fns : String → Option Fn
  cls : String → Option Cl
  meth : String → String → Option String
  con : String → Option D
  isa : String → String → Option Bool
  isx : String → String → Option Bool
  ex : String → Option (Option (List String))
  fuel : Nat
def makeD (T : Text) (call : String → Bool → List D → Nat → Store → R D) (C : String) (args : List D) (b : Nat) (S : Store) : R D := match T.cls C with
  | none => .bad
  | some cl => match cl.init with
    | none => .bad
    | some f => match call f false (.ref S.length :: args) b (S ++ [.ins C [] []]) with
      | .ok .non S' => if cl.kind = 1 then .ok (.ref S.length) S' else match S'[S.length]? with
        | some (.ins C' ns ds) => if S'.length = S.length + 1 ∧ D.limL 0 ds then .ok (.ins C' ns ds) (S'.take S.length) else .bad
        | _ => .bad
      | .err X ns ds S' => if cl.kind = 1 then .err X ns ds S' else .bad
      | _ => .bad
structure Calls where
  call : String → Bool → List D → Nat → Store → R D
  hcall : String → String × List String × List D → Nat → Store → R D
def ctxOf (T : Text) (F : Calls) (deep : Bool) : Ctx := { call := F.call, hcall := F.hcall, exc := none, make := makeD T F.call, meth := T.meth, con := T.con, isa := T.isa, isx := T.isx, ex := T.ex, deep := deep, fuel := T.fuel }
def callsN (T : Text) : Nat → Calls
  | 0 => ⟨fun _ _ _ _ _ => .bad, fun _ _ _ _ => .bad⟩
  | n + 1 => ⟨fun f g args b S => match T.fns f with
      | none => .bad
      | some d => if args.length = d.np then runFn (ctxOf T (callsN T n) (decide (2 ≤ n))) d g (d.start args) b S else .bad,
    fun f x b S => match T.fns f with
      | none => .bad
      | some d => if d.np = 1 ∧ 0 < d.names.length then (runFn { ctxOf T (callsN T n) (decide (2 ≤ n)) with exc := some x } d false (List.replicate d.names.length none) b S).calm else .bad⟩
abbrev ctxN (T : Text) (n : Nat) : Ctx := ctxOf T (callsN T n) (decide (2 ≤ n))
abbrev callN (T : Text) (n : Nat) : String → Bool → List D → Nat → Store → R D := (callsN T n).call
end CL
namespace CL
open PySem PySem.Spec PyProof.Rows L2
abbrev nm (s : String) : Str := Str.ofString s
theorem nm_inj {a b : String} (h : nm a = nm b) : a = b := by
  have h' : (nm a).cps.toList = (nm b).cps.toList := by rw [h]
  rw [PyProof.Rows.signs_ofString, PyProof.Rows.signs_ofString] at h'
  have q : ∀ (l m : List Char), l.map Char.toNat = m.map Char.toNat → l = m := by
    intro l
    induction l with
    | nil => intro m e; cases m with
      | nil => rfl
      | cons _ _ => simp at e
    | cons c l ih => intro m e; cases m with
      | nil => simp at e
      | cons d m =>
        simp only [List.map_cons, List.cons.injEq] at e
        obtain ⟨e1, e2⟩ := e
        have e1' : c = d := by
          have := congrArg Char.ofNat e1
          simpa [Char.ofNat_toNat] using this
        rw [e1', ih m e2]
  exact String.toList_inj.mp (q _ _ h')
def kD : Key → D
  | .inl i => .int i
  | .inr x => .str x.cps.toList
def kDT (k : List Key) : D := .tup (k.map kD)
structure CA where
  f : String → Addr
  K : PySem.W.Frag
instance : CoeFun CA (fun _ => String → Addr) := ⟨CA.f⟩
def CA.kl (c : CA) (a : Addr) (ns : List Int) : Prop := ∃ (o : Obj) (its : Array Value) (n : Nat), c.K.lookup a = some o ∧ o.cls = .type "list" ∧ o.dict = none ∧ o.data = .seq its n ∧ its.size ≤ sizeLine ∧ Vals (ns.map V.int) its.toList
structure ExS where
  slot : Nat
  at_ : Addr
  C : String
  ns : List String
  ds : List D
  cls : Value
  dd : Option Addr
structure Sx where
  ca : CA
  hid : Addr → Prop
  exs : Option ExS := none
structure Fr (Y : Sx) (μ : List Addr) (a : Addr) : Prop where
  out : a ∉ μ
  vis : ¬ Y.hid a
section
variable (Y : Sx)
mutual
inductive Rep (μ : List Addr) (H : Hp) : V → D → Prop
  | non : Rep μ H .non .non
  | bl (b : Bool) : Rep μ H (.bl b) (.bl b)
  | int (i : Int) : Rep μ H (.int i) (.int i)
  | str (l : List Nat) : Rep μ H (.str ⟨l.toArray⟩) (.str l)
  | tup {a : Addr} {xs : List V} {ds : List D} (h : H a = some (.tup xs)) (n : Fr Y μ a) (r : RepL μ H xs ds) : Rep μ H (.ref a) (.tup ds)
  | lst {a : Addr} {xs : List V} {ds : List D} (h : H a = some (.lst xs)) (n : Fr Y μ a) (r : RepL μ H xs ds) : Rep μ H (.ref a) (.lst ds)
  | dicK {a : Addr} {kvs : List (Key × V)} {vs : List D} (h : H a = some (.dK kvs)) (n : Fr Y μ a) (r : RepL μ H (kvs.map (·.2)) vs) : Rep μ H (.ref a) (.dic false (kvs.map fun p => kD p.1) vs)
  | dicT {a : Addr} {kvs : List (List Key × V)} {vs : List D} (h : H a = some (.dT kvs)) (n : Fr Y μ a) (r : RepL μ H (kvs.map (·.2)) vs) : Rep μ H (.ref a) (.dic true (kvs.map fun p => kDT p.1) vs)
  | ins {a dx : Addr} {fs : List (Str × V)} {C : String} {ns : List String} {ds : List D} (h : H a = some (.ins (Y.ca C) dx fs)) (n : Fr Y μ a) (hn : fs.map (·.1) = ns.map nm) (r : RepL μ H (fs.map (·.2)) ds) : Rep μ H (.ref a) (.ins C ns ds)
  | ref {a : Addr} {i : Nat} (h : μ[i]? = some a) : Rep μ H (.ref a) (.ref i)
  | scr {a : Addr} {ns : List Int} (h : (∃ o, H a = some (.frz o (.lst (ns.map V.int))) ∧ Fr Y μ a) ∨ Y.ca.kl a ns) : Rep μ H (.ref a) (.scr ns)
  | way {a : Addr} {o : Obj} {xs : List V} {ds : List D} (h : H a = some (.frz o (.tup xs))) (ho : o.dict = none) (n : Fr Y μ a) (r : RepL μ H xs ds) : Rep μ H (.ref a) (.way ds)
inductive RepL (μ : List Addr) (H : Hp) : List V → List D → Prop
  | nil : RepL μ H [] []
  | cons {v : V} {vs : List V} {d : D} {ds : List D} : Rep μ H v d → RepL μ H vs ds → RepL μ H (v :: vs) (d :: ds)
end
inductive CellOk (μ : List Addr) (H : Hp) (a : Addr) : Cell → Prop
  | lst {xs : List V} {ds : List D} (h : H a = some (.lst xs)) (r : RepL Y μ H xs ds) : CellOk μ H a (.lst ds)
  | dicK {kvs : List (Key × V)} {vs : List D} (h : H a = some (.dK kvs)) (r : RepL Y μ H (kvs.map (·.2)) vs) : CellOk μ H a (.dic false (kvs.map fun p => kD p.1) vs)
  | dicT {kvs : List (List Key × V)} {vs : List D} (h : H a = some (.dT kvs)) (r : RepL Y μ H (kvs.map (·.2)) vs) : CellOk μ H a (.dic true (kvs.map fun p => kDT p.1) vs)
  | ins {dx : Addr} {fs : List (Str × V)} {C : String} {ns : List String} {ds : List D} (h : H a = some (.ins (Y.ca C) dx fs)) (hn : fs.map (·.1) = ns.map nm) (r : RepL Y μ H (fs.map (·.2)) ds) : CellOk μ H a (.ins C ns ds)
structure World (Bs : List Nat) (μ : List Addr) (H : Hp) (S : Store) : Prop where
  len : μ.length = S.length
  nd : μ.Nodup
  cells : ∀ (i : Nat) (a : Addr) (c : Cell), μ[i]? = some a → S[i]? = some c → CellOk Y μ H a c
  lims : ∀ (i : Nat) (c : Cell), S[i]? = some c → ∀ b ∈ Bs, i < b → c.lim b = true
  bs : ∀ b ∈ Bs, b ≤ S.length
  hidT : ∀ a, Y.hid a → ∃ o, H a = some o
  hidC : ∀ a ∈ μ, ¬ Y.hid a
structure ExF (ca : CA) (C : String) : Prop where
  ga : PySem.W.findIn ca.K (.ref (ca C)) "__getattribute__" = some (some (.builtin "BaseException.__getattribute__"))
  gg : PySem.W.findIn ca.K (.ref (ca C)) "__getattr__" = some none
  exC : PySem.W.subIn ca.K (.ref (ca C)) (.type "BaseException") = some true
  hdC : PySem.W.hasDictIn ca.K (ca C) = true
  isC : PySem.W.isClsIn ca.K (ca C) = true
  ha : PySem.W.findIn ca.K (.ref (ca C)) "__class__" = some (some (.builtin "object.__class__"))
  hn : PySem.W.specialIn ca.K (.builtin "object.__class__") "__get__" = some (some (.builtin "getset_descriptor.__get__"))
  ht : PySem.W.takesIn ca.K (.builtin "object.__class__") = some true
  hm : PySem.W.mroIn ca.K (ca C) (.type "object") = some true
  tyC : PySem.W.typeIn ca.K (.ref (ca C)) = some (.type "type")
  kC : PySem.W.keepIn ca.K (.ref (ca C)) = true
structure ExcAt (μ : List Addr) (H : Hp) (C : String) (ns : List String) (ds : List D) (cls : Value) (dd : Option Addr) : Prop where
  cls_ : cls = .ref (Y.ca C)
  cl : ExF Y.ca C
  no : ∀ f ∈ ns, PySem.W.findIn Y.ca.K (.ref (Y.ca C)) (nm f) = some none
  flds : (dd = none ∧ ns = [] ∧ ds = []) ∨ ∃ (a : Addr) (fs : List (Str × V)), dd = some a ∧ H a = some (.xd fs) ∧ Fr Y μ a ∧ fs.map (·.1) = ns.map nm ∧ RepL Y μ H (fs.map (·.2)) ds
structure EnvOk (μ : List Addr) (H : Hp) (σ : L2.St) (ρ : Env) : Prop where
  len : ρ.length = σ.length
  at_ : ∀ (i : Nat) (d : D), ρ[i]? = some (some d) → ∃ v, σ[i]? = some (some v) ∧ Rep Y μ H v d
  ex : ∀ z, Y.exs = some z → σ[z.slot]? = some (some (.ref z.at_)) ∧ ExcAt Y μ H z.C z.ns z.ds z.cls z.dd
end
structure Ext (μ : List Addr) (H : Hp) (μ' : List Addr) (H' : Hp) : Prop where
  pre : ∃ r, μ' = μ ++ r
  keep : ∀ a o, a ∉ μ → H a = some o → H' a = some o
  new : ∀ a, a ∈ μ' → a ∉ μ → H a = none
theorem Ext.refl (μ : List Addr) (H : Hp) : Ext μ H μ H := ⟨⟨[], by simp⟩, fun _ _ _ h => h, fun _ h n => absurd h n⟩
theorem Ext.trans {μ μ1 μ2 : List Addr} {H H1 H2 : Hp} (a : Ext μ H μ1 H1) (b : Ext μ1 H1 μ2 H2) : Ext μ H μ2 H2 where
  pre := by
    obtain ⟨r, e⟩ := a.pre
    obtain ⟨r', e'⟩ := b.pre
    exact ⟨r ++ r', by rw [e', e, List.append_assoc]⟩
  keep := fun x o n h => b.keep x o (fun m => by rw [a.new x m n] at h; cases h) (a.keep x o n h)
  new := fun x m n => by
    by_cases h : x ∈ μ1
    · exact a.new x h n
    · cases e : H x with
      | none => rfl
      | some o =>
        have := a.keep x o n e
        rw [b.new x m h] at this; cases this
theorem Ext.mem {μ μ' : List Addr} {H H' : Hp} (e : Ext μ H μ' H') {a : Addr} (h : a ∈ μ) : a ∈ μ' := by
  obtain ⟨r, q⟩ := e.pre
  rw [q]; exact List.mem_append_left _ h
theorem Ext.get {μ μ' : List Addr} {H H' : Hp} (e : Ext μ H μ' H') {i : Nat} {a : Addr} (h : μ[i]? = some a) : μ'[i]? = some a := by
  obtain ⟨r, q⟩ := e.pre
  have hl := (List.getElem?_eq_some_iff.mp h).1
  rw [q, List.getElem?_append_left hl]; exact h
theorem Ext.of_same {μ : List Addr} {H H' : Hp} (s : ∀ a o, H a = some o → H' a = some o) : Ext μ H μ H' := ⟨⟨[], by simp⟩, fun a o _ h => s a o h, fun _ h n => absurd h n⟩
theorem Ext.laid {μ : List Addr} {H : Hp} {p : Addr} {o : HO} (hp : H p = none) : Ext μ H μ (upd H p o) := .of_same fun a u h => by rw [upd_ne (ne_of_none h hp)]; exact h
theorem Ext.wrote {μ : List Addr} {H : Hp} {x : Addr} {o : HO} (hx : x ∈ μ) : Ext μ H μ (upd H x o) := ⟨⟨[], by simp⟩, fun a u n h => by rw [upd_ne (fun e => n (by rw [e]; exact hx))]; exact h, fun _ h n => absurd h n⟩
theorem Ext.cell {μ : List Addr} {H : Hp} {p : Addr} {o : HO} (hp : H p = none) : Ext μ H (μ ++ [p]) (upd H p o) := ⟨⟨[p], rfl⟩, fun a u _ h => by rw [upd_ne (ne_of_none h hp)]; exact h, fun a h n => by
  rcases List.mem_append.mp h with h | h
  · exact absurd h n
  · have : a = p := by simpa using h
    rw [this]; exact hp⟩
section
variable {Y : Sx} {μ μ' : List Addr} {H H' : Hp}
theorem Ext.not_mem (e : Ext μ H μ' H') {a : Addr} {o : HO} (n : a ∉ μ) (h : H a = some o) : a ∉ μ' := fun m => by rw [e.new a m n] at h; cases h
structure Up (Y : Sx) (H : Hp) (Y' : Sx) : Prop where
  ca : Y'.ca = Y.ca
  hid : ∀ a, Y'.hid a → Y.hid a ∨ H a = none
theorem Up.refl (Y : Sx) (H : Hp) : Up Y H Y := ⟨rfl, fun _ h => .inl h⟩
variable {Y' : Sx}
theorem Fr.move (e : Ext μ H μ' H') (u : Up Y H Y') {a : Addr} {o : HO} (n : Fr Y μ a) (h : H a = some o) : Fr Y' μ' a :=
  ⟨e.not_mem n.out h, fun z => (u.hid a z).elim n.vis fun q => by rw [q] at h; cases h⟩
mutual
theorem Rep.move (e : Ext μ H μ' H') (u : Up Y H Y') : ∀ {v : V} {d : D}, Rep Y μ H v d → Rep Y' μ' H' v d
  | _, _, .non => .non
  | _, _, .bl b => .bl b
  | _, _, .int i => .int i
  | _, _, .str l => .str l
  | _, _, .tup h n r => .tup (e.keep _ _ n.out h) (n.move e u h) (r.move e u)
  | _, _, .lst h n r => .lst (e.keep _ _ n.out h) (n.move e u h) (r.move e u)
  | _, _, .scr h => .scr (h.imp (fun ⟨o, h, n⟩ => ⟨o, e.keep _ _ n.out h, n.move e u h⟩) (fun h => by rw [u.ca]; exact h))
  | _, _, .way h ho n r => .way (e.keep _ _ n.out h) ho (n.move e u h) (r.move e u)
  | _, _, .dicK h n r => .dicK (e.keep _ _ n.out h) (n.move e u h) (r.move e u)
  | _, _, .dicT h n r => .dicT (e.keep _ _ n.out h) (n.move e u h) (r.move e u)
  | _, _, .ins h n hn r => .ins (by rw [u.ca]; exact e.keep _ _ n.out h) (n.move e u h) hn (r.move e u)
  | _, _, .ref h => .ref (e.get h)
theorem RepL.move (e : Ext μ H μ' H') (u : Up Y H Y') : ∀ {vs : List V} {ds : List D}, RepL Y μ H vs ds → RepL Y' μ' H' vs ds
  | _, _, .nil => .nil
  | _, _, .cons h t => .cons (h.move e u) (t.move e u)
end
theorem Rep.ext (e : Ext μ H μ' H') {v : V} {d : D} (r : Rep Y μ H v d) : Rep Y μ' H' v d := r.move e (.refl _ _)
theorem RepL.ext (e : Ext μ H μ' H') {vs : List V} {ds : List D} (r : RepL Y μ H vs ds) : RepL Y μ' H' vs ds := r.move e (.refl _ _)
theorem RepL.length : ∀ {vs : List V} {ds : List D}, RepL Y μ H vs ds → vs.length = ds.length
  | _, _, .nil => rfl
  | _, _, .cons _ t => by simp [t.length]
theorem RepL.append : ∀ {vs ws : List V} {ds es : List D}, RepL Y μ H vs ds → RepL Y μ H ws es → RepL Y μ H (vs ++ ws) (ds ++ es)
  | _, _, _, _, .nil, h => h
  | _, _, _, _, .cons h t, q => .cons h (t.append q)
theorem RepL.rep {vs : List V} {ds : List D} (h : RepL Y μ H vs ds) : ∀ n : Nat, RepL Y μ H (List.replicate n vs).flatten (List.replicate n ds).flatten
  | 0 => .nil
  | n + 1 => by
    rw [List.replicate_succ, List.replicate_succ, List.flatten_cons, List.flatten_cons]
    exact h.append (RepL.rep h n)
theorem RepL.get : ∀ {vs : List V} {ds : List D} {i : Nat} {d : D}, RepL Y μ H vs ds → ds[i]? = some d → ∃ v, vs[i]? = some v ∧ Rep Y μ H v d
  | _, _, _, _, .nil, e => by simp at e
  | _, _, 0, _, .cons h _, e => by simp at e; subst e; exact ⟨_, rfl, h⟩
  | _, _, i + 1, _, .cons _ t, e => by
    obtain ⟨v, h1, h2⟩ := t.get (i := i) (by simpa using e)
    exact ⟨v, by simpa using h1, h2⟩
theorem RepL.get' : ∀ {vs : List V} {ds : List D} {i : Nat} {v : V}, RepL Y μ H vs ds → vs[i]? = some v → ∃ d, ds[i]? = some d ∧ Rep Y μ H v d
  | _, _, _, _, .nil, e => by simp at e
  | _, _, 0, _, .cons h _, e => by simp at e; subst e; exact ⟨_, rfl, h⟩
  | _, _, i + 1, _, .cons _ t, e => by
    obtain ⟨v, h1, h2⟩ := t.get' (i := i) (by simpa using e)
    exact ⟨v, by simpa using h1, h2⟩
theorem RepL.take : ∀ {vs : List V} {ds : List D} (n : Nat), RepL Y μ H vs ds → RepL Y μ H (vs.take n) (ds.take n)
  | _, _, 0, _ => .nil
  | _, _, _ + 1, .nil => .nil
  | _, _, n + 1, .cons h t => .cons h (t.take n)
theorem RepL.drop : ∀ {vs : List V} {ds : List D} (n : Nat), RepL Y μ H vs ds → RepL Y μ H (vs.drop n) (ds.drop n)
  | _, _, 0, h => h
  | _, _, _ + 1, .nil => .nil
  | _, _, n + 1, .cons _ t => t.drop n
theorem RepL.set : ∀ {vs : List V} {ds : List D} {v : V} {d : D} (i : Nat), RepL Y μ H vs ds → Rep Y μ H v d → RepL Y μ H (vs.set i v) (ds.set i d)
  | _, _, _, _, _, .nil, _ => .nil
  | _, _, _, _, 0, .cons _ t, h => .cons h t
  | _, _, _, _, i + 1, .cons h t, q => .cons h (t.set i q)
theorem RepL.eraseIdx : ∀ {vs : List V} {ds : List D} (i : Nat), RepL Y μ H vs ds → RepL Y μ H (vs.eraseIdx i) (ds.eraseIdx i)
  | _, _, _, .nil => .nil
  | _, _, 0, .cons _ t => t
  | _, _, i + 1, .cons h t => .cons h (t.eraseIdx i)
theorem RepL.reverse : ∀ {vs : List V} {ds : List D}, RepL Y μ H vs ds → RepL Y μ H vs.reverse ds.reverse
  | _, _, .nil => .nil
  | _, _, .cons h t => by rw [List.reverse_cons, List.reverse_cons]; exact t.reverse.append (.cons h .nil)
theorem RepL.nil_iff {vs : List V} {ds : List D} (r : RepL Y μ H vs ds) : vs.isEmpty = ds.isEmpty := by cases r <;> rfl
variable {Bs : List Nat} {S : Store}
theorem CellOk.there {a : Addr} {c : Cell} (h : CellOk Y μ H a c) : ∃ o, H a = some o ∧ Mut (some o) := by
  cases h with
  | lst h _ => exact ⟨_, h, trivial⟩
  | dicK h _ => exact ⟨_, h, trivial⟩
  | dicT h _ => exact ⟨_, h, trivial⟩
  | ins h _ _ => exact ⟨_, h, trivial⟩
theorem World.there (w : World Y Bs μ H S) {a : Addr} (h : a ∈ μ) : ∃ o, H a = some o ∧ Mut (some o) := by
  obtain ⟨i, hi⟩ := List.getElem?_of_mem h
  have hl := (List.getElem?_eq_some_iff.mp hi).1
  rw [w.len] at hl
  exact (w.cells i a _ hi (List.getElem?_eq_getElem hl)).there
theorem World.out (w : World Y Bs μ H S) {p : Addr} (hp : H p = none) : p ∉ μ := fun m => by
  obtain ⟨o, h, _⟩ := w.there m
  rw [hp] at h; cases h
theorem World.fresh (w : World Y Bs μ H S) {p : Addr} (hp : H p = none) : Fr Y μ p := ⟨w.out hp, fun z => by
  obtain ⟨o, h⟩ := w.hidT p z
  rw [hp] at h; cases h⟩
theorem CellOk.move {a : Addr} {c : Cell} (e : Ext μ H μ' H') (u : Up Y H Y') (k : H' a = H a) (h : CellOk Y μ H a c) : CellOk Y' μ' H' a c := by
  cases h with
  | lst h r => exact .lst (k.trans h) (r.move e u)
  | dicK h r => exact .dicK (k.trans h) (r.move e u)
  | dicT h r => exact .dicT (k.trans h) (r.move e u)
  | ins h hn r => exact .ins (by rw [u.ca]; exact k.trans h) hn (r.move e u)
theorem CellOk.ext {a : Addr} {c : Cell} (e : Ext μ H μ' H') (k : H' a = H a) (h : CellOk Y μ H a c) : CellOk Y μ' H' a c := h.move e (.refl _ _) k
theorem World.same (w : World Y Bs μ H S) (s : ∀ a o, H a = some o → H' a = some o) : World Y Bs μ H' S :=
  ⟨w.len, w.nd, fun i a c h1 h2 => (w.cells i a c h1 h2).ext (.of_same s) (by
    obtain ⟨o, h, _⟩ := (w.cells i a c h1 h2).there
    rw [h]; exact s a o h), w.lims, w.bs, fun a z => let ⟨o, h⟩ := w.hidT a z; ⟨o, s a o h⟩, w.hidC⟩
theorem World.laid (w : World Y Bs μ H S) {p : Addr} {o : HO} (hp : H p = none) : World Y Bs μ (upd H p o) S :=
  w.same fun a u h => by rw [upd_ne (ne_of_none h hp)]; exact h
theorem ExcAt.move {C : String} {ns : List String} {ds : List D} {cls : Value} {dd : Option Addr} (e : Ext μ H μ' H') (u : Up Y H Y') (x : ExcAt Y μ H C ns ds cls dd) : ExcAt Y' μ' H' C ns ds cls dd :=
  ⟨by rw [u.ca]; exact x.cls_, by rw [u.ca]; exact x.cl, by rw [u.ca]; exact x.no, x.flds.imp id fun ⟨a, fs, e1, e2, f, e3, r⟩ => ⟨a, fs, e1, e.keep _ _ f.out e2, f.move e u e2, e3, r.move e u⟩⟩
theorem EnvOk.move {σ : L2.St} {ρ : Env} (e : Ext μ H μ' H') (u : Up Y H Y') (hx : Y'.exs = Y.exs) (h : EnvOk Y μ H σ ρ) : EnvOk Y' μ' H' σ ρ :=
  ⟨h.len, fun i d q => by
    obtain ⟨v, a, r⟩ := h.at_ i d q
    exact ⟨v, a, r.move e u⟩, fun z hz => by
    obtain ⟨a, x⟩ := h.ex z (hx ▸ hz)
    exact ⟨a, x.move e u⟩⟩
theorem EnvOk.ext {σ : L2.St} {ρ : Env} (e : Ext μ H μ' H') (h : EnvOk Y μ H σ ρ) : EnvOk Y μ' H' σ ρ := h.move e (.refl _ _) rfl
def Sx.free (Y : Sx) (i : Nat) : Prop := ∀ z, Y.exs = some z → z.slot ≠ i
theorem EnvOk.set {σ : L2.St} {ρ : Env} {v : V} {d : D} (h : EnvOk Y μ H σ ρ) (r : Rep Y μ H v d) (i : Nat) (hf : Y.free i) : EnvOk Y μ H (σ.set i (some v)) (ρ.set i (some d)) :=
  ⟨by simp [h.len], fun j e q => by
    by_cases hj : i = j
    · subst hj
      have hl : i < ρ.length := by
        have := (List.getElem?_eq_some_iff.mp q).1
        simpa using this
      rw [List.getElem?_set_self hl] at q
      simp only [Option.some.injEq] at q
      subst q
      exact ⟨v, List.getElem?_set_self (by rw [← h.len]; exact hl), r⟩
    · rw [List.getElem?_set_ne hj] at q
      obtain ⟨u, a, b⟩ := h.at_ j e q
      exact ⟨u, by rw [List.getElem?_set_ne hj]; exact a, b⟩, fun z hz => by
    obtain ⟨a, x⟩ := h.ex z hz
    exact ⟨by rw [List.getElem?_set_ne (Ne.symm (hf z hz))]; exact a, x⟩⟩
theorem EnvOk.drop {σ : L2.St} {ρ : Env} {x : Option V} (h : EnvOk Y μ H σ ρ) (i : Nat) (hf : Y.free i) : EnvOk Y μ H (σ.set i x) (ρ.set i none) :=
  ⟨by simp [h.len], fun j e q => by
    by_cases hj : i = j
    · subst hj
      have hl : i < ρ.length := by
        have := (List.getElem?_eq_some_iff.mp q).1
        simpa using this
      rw [List.getElem?_set_self hl] at q
      cases q
    · rw [List.getElem?_set_ne hj] at q
      obtain ⟨u, a, b⟩ := h.at_ j e q
      exact ⟨u, by rw [List.getElem?_set_ne hj]; exact a, b⟩, fun z hz => by
    obtain ⟨a, x⟩ := h.ex z hz
    exact ⟨by rw [List.getElem?_set_ne (Ne.symm (hf z hz))]; exact a, x⟩⟩
theorem D.limL_all (n : Nat) : ∀ ds : List D, D.limL n ds = ds.all (D.lim n)
  | [] => rfl
  | d :: ds => by rw [D.limL, D.limL_all n ds]; rfl
mutual
theorem D.lim_mono {m n : Nat} (h : m ≤ n) : ∀ d : D, d.lim m = true → d.lim n = true
  | .non, _ => rfl
  | .bl _, _ => rfl
  | .int _, _ => rfl
  | .str _, _ => rfl
  | .scr _, _ => rfl
  | .tup ds, q => by rw [D.lim] at *; exact D.limL_mono h ds q
  | .lst ds, q => by rw [D.lim] at *; exact D.limL_mono h ds q
  | .way ds, q => by rw [D.lim] at *; exact D.limL_mono h ds q
  | .dic _ ks vs, q => by
    rw [D.lim, Bool.and_eq_true] at *
    exact ⟨D.limL_mono h ks q.1, D.limL_mono h vs q.2⟩
  | .ins _ _ ds, q => by rw [D.lim] at *; exact D.limL_mono h ds q
  | .exn _ _ ds, q => by rw [D.lim] at *; exact D.limL_mono h ds q
  | .ref i, q => by
    rw [D.lim, decide_eq_true_eq] at *
    omega
theorem D.limL_mono {m n : Nat} (h : m ≤ n) : ∀ ds : List D, D.limL m ds = true → D.limL n ds = true
  | [], _ => rfl
  | d :: ds, q => by
    rw [D.limL, Bool.and_eq_true] at *
    exact ⟨D.lim_mono h d q.1, D.limL_mono h ds q.2⟩
end
theorem keys_lim (n : Nat) (kvs : List (Key × V)) : D.limL n (kvs.map fun p => kD p.1) = true := by
  rw [D.limL_all, List.all_map, List.all_eq_true]
  intro p _
  show (kD p.1).lim n = true
  cases p.1 <;> rfl
theorem keysT_lim (n : Nat) (kvs : List (List Key × V)) : D.limL n (kvs.map fun p => kDT p.1) = true := by
  rw [D.limL_all, List.all_map, List.all_eq_true]
  intro p _
  show (D.tup (p.1.map kD)).lim n = true
  rw [D.lim, D.limL_all, List.all_map, List.all_eq_true]
  intro k _
  show (kD k).lim n = true
  cases k <;> rfl
mutual
theorem Rep.lim : ∀ {v : V} {d : D}, Rep Y μ H v d → d.lim μ.length = true
  | _, _, .non => rfl
  | _, _, .bl _ => rfl
  | _, _, .int _ => rfl
  | _, _, .str _ => rfl
  | _, _, .tup _ _ r => by rw [D.lim]; exact r.lim
  | _, _, .lst _ _ r => by rw [D.lim]; exact r.lim
  | _, _, .dicK _ _ r => by rw [D.lim, Bool.and_eq_true]; exact ⟨keys_lim _ _, r.lim⟩
  | _, _, .dicT _ _ r => by rw [D.lim, Bool.and_eq_true]; exact ⟨keysT_lim _ _, r.lim⟩
  | _, _, .ins _ _ _ r => by rw [D.lim]; exact r.lim
  | _, _, .scr _ => rfl
  | _, _, .way _ _ _ r => by rw [D.lim]; exact r.lim
  | _, _, .ref h => by rw [D.lim, decide_eq_true_eq]; exact (List.getElem?_eq_some_iff.mp h).1
theorem RepL.lim : ∀ {vs : List V} {ds : List D}, RepL Y μ H vs ds → D.limL μ.length ds = true
  | _, _, .nil => rfl
  | _, _, .cons h t => by rw [D.limL, Bool.and_eq_true]; exact ⟨h.lim, t.lim⟩
end
theorem CellOk.lim {a : Addr} {c : Cell} (h : CellOk Y μ H a c) : c.lim μ.length = true := by
  cases h with
  | lst _ r => exact r.lim
  | dicK _ r => rw [Cell.lim, Bool.and_eq_true]; exact ⟨keys_lim _ _, r.lim⟩
  | dicT _ r => rw [Cell.lim, Bool.and_eq_true]; exact ⟨keysT_lim _ _, r.lim⟩
  | ins _ _ r => exact r.lim
theorem Fr.cut {n : Nat} {a : Addr} (m : Fr Y μ a) : Fr Y (μ.take n) a := ⟨fun z => m.out (List.mem_of_mem_take z), m.vis⟩
mutual
theorem Rep.cut {n : Nat} : ∀ {v : V} {d : D}, Rep Y μ H v d → d.lim n = true → Rep Y (μ.take n) H v d
  | _, _, .non, _ => .non
  | _, _, .bl b, _ => .bl b
  | _, _, .int i, _ => .int i
  | _, _, .str l, _ => .str l
  | _, _, .tup h m r, q => .tup h (m.cut) (r.cut (by rw [D.lim] at q; exact q))
  | _, _, .lst h m r, q => .lst h (m.cut) (r.cut (by rw [D.lim] at q; exact q))
  | _, _, .dicK h m r, q => .dicK h (m.cut) (r.cut (by rw [D.lim, Bool.and_eq_true] at q; exact q.2))
  | _, _, .dicT h m r, q => .dicT h (m.cut) (r.cut (by rw [D.lim, Bool.and_eq_true] at q; exact q.2))
  | _, _, .ins h m hn r, q => .ins h (m.cut) hn (r.cut (by rw [D.lim] at q; exact q))
  | _, _, .scr h, _ => .scr (h.imp (fun ⟨o, h, n⟩ => ⟨o, h, n.cut⟩) id)
  | _, _, .way h ho m r, q => .way h ho (m.cut) (r.cut (by rw [D.lim] at q; exact q))
  | _, _, .ref h, q => .ref (by rw [D.lim, decide_eq_true_eq] at q; rw [List.getElem?_take_of_lt q]; exact h)
theorem RepL.cut {n : Nat} : ∀ {vs : List V} {ds : List D}, RepL Y μ H vs ds → D.limL n ds = true → RepL Y (μ.take n) H vs ds
  | _, _, .nil, _ => .nil
  | _, _, .cons h t, q => by
    rw [D.limL, Bool.and_eq_true] at q
    exact .cons (h.cut q.1) (t.cut q.2)
end
theorem CellOk.cut {n : Nat} {a : Addr} {c : Cell} (h : CellOk Y μ H a c) (q : c.lim n = true) : CellOk Y (μ.take n) H a c := by
  cases h with
  | lst h r => exact .lst h (r.cut q)
  | dicK h r => rw [Cell.lim, Bool.and_eq_true] at q; exact .dicK h (r.cut q.2)
  | dicT h r => rw [Cell.lim, Bool.and_eq_true] at q; exact .dicT h (r.cut q.2)
  | ins h hn r => exact .ins h hn (r.cut q)
theorem World.grow {p : Addr} {o : HO} {c : Cell} (w : World Y Bs μ H S) (hp : H p = none) (new : CellOk Y (μ ++ [p]) (upd H p o) p c) (hb : ∀ b ∈ Bs, b ≤ S.length) : World Y Bs (μ ++ [p]) (upd H p o) (S ++ [c]) where
  len := by simp [w.len]
  nd := by
    rw [List.nodup_append]
    refine ⟨w.nd, by simp, fun a ha b hb' => ?_⟩
    have : b = p := by simpa using hb'
    rintro rfl
    exact w.out hp (this ▸ ha)
  cells := fun i a d h1 h2 => by
    have e : Ext μ H (μ ++ [p]) (upd H p o) := .cell hp
    by_cases hi : i < S.length
    · rw [List.getElem?_append_left hi] at h2
      rw [List.getElem?_append_left (by rw [w.len]; exact hi)] at h1
      refine (w.cells i a d h1 h2).ext e ?_
      have hm : a ∈ μ := List.mem_of_getElem? h1
      exact upd_ne fun q => w.out hp (q ▸ hm)
    · have hl := (List.getElem?_eq_some_iff.mp h2).1
      have e1 : i = S.length := by simp at hl; omega
      subst e1
      rw [List.getElem?_append_right (Nat.le_refl _)] at h2
      rw [List.getElem?_append_right (by rw [w.len]; exact Nat.le_refl _)] at h1
      simp [w.len] at h1 h2
      subst h1; subst h2
      exact new
  lims := fun i d h b hb' hlt => by
    have := hb b hb'
    rw [List.getElem?_append_left (by omega)] at h
    exact w.lims i d h b hb' hlt
  bs := fun b h => by have := w.bs b h; simp; omega
  hidT := fun a z => by
    obtain ⟨o', h⟩ := w.hidT a z
    exact ⟨o', by rw [upd_ne (ne_of_none h hp)]; exact h⟩
  hidC := fun a ha z => by
    rcases List.mem_append.mp ha with q | q
    · exact w.hidC a q z
    · have : a = p := by simpa using q
      subst this
      exact (w.fresh hp).vis z
theorem World.wrote {i : Nat} {x : Addr} {o : HO} {c : Cell} (w : World Y Bs μ H S) (hx : μ[i]? = some x) (new : CellOk Y μ (upd H x o) x c) (hl : ∀ b ∈ Bs, i < b → c.lim b = true) : World Y Bs μ (upd H x o) (S.set i c) where
  len := by simp [w.len]
  nd := w.nd
  cells := fun j a d h1 h2 => by
    by_cases hj : i = j
    · subst hj
      have hlt : i < S.length := by
        have := (List.getElem?_eq_some_iff.mp h2).1
        simpa using this
      rw [List.getElem?_set_self hlt] at h2
      rw [hx] at h1
      simp only [Option.some.injEq] at h1 h2
      subst h1; subst h2
      exact new
    · rw [List.getElem?_set_ne hj] at h2
      refine (w.cells j a d h1 h2).ext (.wrote (List.mem_of_getElem? hx)) (upd_ne ?_)
      rintro rfl
      exact hj (by
        obtain ⟨l1, e1⟩ := List.getElem?_eq_some_iff.mp hx
        obtain ⟨l2, e2⟩ := List.getElem?_eq_some_iff.mp h1
        exact (List.getElem_inj w.nd).mp (e1.trans e2.symm))
  lims := fun j d h b hb hlt => by
    by_cases hj : i = j
    · subst hj
      have hlt' : i < S.length := by
        have := (List.getElem?_eq_some_iff.mp h).1
        simpa using this
      rw [List.getElem?_set_self hlt'] at h
      simp only [Option.some.injEq] at h
      subst h
      exact hl b hb hlt
    · rw [List.getElem?_set_ne hj] at h
      exact w.lims j d h b hb hlt
  bs := fun b h => by rw [List.length_set]; exact w.bs b h
  hidT := fun a z => by
    obtain ⟨o', h⟩ := w.hidT a z
    by_cases e : a = x
    · subst e; exact ⟨o, upd_same⟩
    · exact ⟨o', by rw [upd_ne e]; exact h⟩
  hidC := w.hidC
theorem World.cut {n : Nat} (w : World Y (n :: Bs) μ H S) (hn : ∀ b ∈ Bs, b ≤ n) : World Y Bs (μ.take n) H (S.take n) where
  len := by simp [w.len]
  nd := w.nd.sublist (List.take_sublist _ _)
  cells := fun i a c h1 h2 => by
    have hi : i < n := by
      have := (List.getElem?_eq_some_iff.mp h2).1
      simp at this; omega
    rw [List.getElem?_take_of_lt hi] at h1 h2
    exact (w.cells i a c h1 h2).cut (w.lims i c h2 n List.mem_cons_self hi)
  lims := fun i c h b hb hlt => by
    have hi : i < n := by
      have := (List.getElem?_eq_some_iff.mp h).1
      simp at this; omega
    rw [List.getElem?_take_of_lt hi] at h
    exact w.lims i c h b (List.mem_cons_of_mem _ hb) hlt
  bs := fun b h => by
    have h1 := hn b h
    have h2 := w.bs n List.mem_cons_self
    simp; omega
  hidT := w.hidT
  hidC := fun a ha => w.hidC a (List.mem_of_mem_take ha)
theorem World.mark (w : World Y Bs μ H S) : World Y (S.length :: Bs) μ H S :=
  ⟨w.len, w.nd, w.cells, fun i c h b hb hlt => by
    rcases List.mem_cons.mp hb with e | hb
    · subst e
      have hi : i < μ.length := by rw [w.len]; exact hlt
      have := (w.cells i μ[i] c (List.getElem?_eq_getElem hi) h).lim
      rw [w.len] at this
      exact this
    · exact w.lims i c h b hb hlt, fun b h => by
    rcases List.mem_cons.mp h with e | h
    · rw [e]; exact Nat.le_refl _
    · exact w.bs b h, w.hidT, w.hidC⟩
def Sx.hide (Y : Sx) (p : Addr) : Sx := ⟨Y.ca, fun a => Y.hid a ∨ a = p, Y.exs⟩
theorem Up.hide {p : Addr} (hp : H p = none) : Up Y H (Y.hide p) := ⟨rfl, fun a h => h.imp id fun e => by rw [e]; exact hp⟩
theorem World.hide {p : Addr} {o : HO} (w : World Y Bs μ H S) (hp : H p = none) : World (Y.hide p) Bs μ (upd H p o) S :=
  ⟨w.len, w.nd, fun i a c h1 h2 => (w.cells i a c h1 h2).move (.laid hp) (.hide hp) (by
    obtain ⟨o, h, _⟩ := (w.cells i a c h1 h2).there
    exact upd_ne (ne_of_none h hp)), w.lims, w.bs, fun a z => by
    by_cases e : a = p
    · subst e; exact ⟨o, upd_same⟩
    · obtain ⟨o', h⟩ := w.hidT a (z.resolve_right e)
      exact ⟨o', by rw [upd_ne e]; exact h⟩, fun a ha z => z.elim (w.hidC a ha) fun e => w.out hp (e ▸ ha)⟩
theorem Fr.stay {p a : Addr} {o u : HO} (hp : Y.hid p) (n : Fr Y μ a) (h : H a = some u) : upd H p o a = some u := by
  have ne : a ≠ p := by
    rintro rfl
    exact n.vis hp
  rw [upd_ne ne]; exact h
mutual
theorem Rep.hid {p : Addr} {o : HO} (hp : Y.hid p) : ∀ {v : V} {d : D}, Rep Y μ H v d → Rep Y μ (upd H p o) v d
  | _, _, .non => .non
  | _, _, .bl b => .bl b
  | _, _, .int i => .int i
  | _, _, .str l => .str l
  | _, _, .tup h n r => .tup (n.stay hp h) n (r.hid hp)
  | _, _, .lst h n r => .lst (n.stay hp h) n (r.hid hp)
  | _, _, .scr h => .scr (h.imp (fun ⟨o, h, n⟩ => ⟨o, n.stay hp h, n⟩) id)
  | _, _, .way h ho n r => .way (n.stay hp h) ho n (r.hid hp)
  | _, _, .dicK h n r => .dicK (n.stay hp h) n (r.hid hp)
  | _, _, .dicT h n r => .dicT (n.stay hp h) n (r.hid hp)
  | _, _, .ins h n hn r => .ins (n.stay hp h) n hn (r.hid hp)
  | _, _, .ref h => .ref h
theorem RepL.hid {p : Addr} {o : HO} (hp : Y.hid p) : ∀ {vs : List V} {ds : List D}, RepL Y μ H vs ds → RepL Y μ (upd H p o) vs ds
  | _, _, .nil => .nil
  | _, _, .cons h t => .cons (h.hid hp) (t.hid hp)
end
theorem World.hid {p : Addr} {o : HO} (w : World Y Bs μ H S) (hp : Y.hid p) : World Y Bs μ (upd H p o) S :=
  ⟨w.len, w.nd, fun i a c h1 h2 => by
    have ne : a ≠ p := fun e => w.hidC a (List.mem_of_getElem? h1) (e ▸ hp)
    cases w.cells i a c h1 h2 with
    | lst h r => exact .lst (by rw [upd_ne ne]; exact h) (r.hid hp)
    | dicK h r => exact .dicK (by rw [upd_ne ne]; exact h) (r.hid hp)
    | dicT h r => exact .dicT (by rw [upd_ne ne]; exact h) (r.hid hp)
    | ins h hn r => exact .ins (by rw [upd_ne ne]; exact h) hn (r.hid hp), w.lims, w.bs, fun a z => by
    by_cases e : a = p
    · subst e; exact ⟨o, upd_same⟩
    · obtain ⟨o', h⟩ := w.hidT a z
      exact ⟨o', by rw [upd_ne e]; exact h⟩, w.hidC⟩
theorem EnvOk.hid {p : Addr} {o : HO} {σ : L2.St} {ρ : Env} (hp : Y.hid p) (h : EnvOk Y μ H σ ρ) : EnvOk Y μ (upd H p o) σ ρ :=
  ⟨h.len, fun i d q => by
    obtain ⟨v, a, r⟩ := h.at_ i d q
    exact ⟨v, a, r.hid hp⟩, fun z hz => by
    obtain ⟨a, x⟩ := h.ex z hz
    exact ⟨a, x.cls_, x.cl, x.no, x.flds.imp id fun ⟨a, fs, e1, e2, f, e3, r⟩ => ⟨a, fs, e1, f.stay hp e2, f, e3, r.hid hp⟩⟩⟩
theorem Up.other {Y Y' : Sx} {H : Hp} (h1 : Y'.ca = Y.ca) (h2 : Y'.hid = Y.hid) : Up Y H Y' := ⟨h1, fun a z => .inl (h2 ▸ z)⟩
theorem World.other {Y' : Sx} (h1 : Y'.ca = Y.ca) (h2 : Y'.hid = Y.hid) (w : World Y Bs μ H S) : World Y' Bs μ H S :=
  ⟨w.len, w.nd, fun i a c e1 e2 => (w.cells i a c e1 e2).move (.refl _ _) (.other h1 h2) rfl, w.lims, w.bs, fun a z => w.hidT a (h2 ▸ z), fun a ha z => w.hidC a ha (h2 ▸ z)⟩
theorem Fr.show {p : Addr} {q : List Addr} (hq : ∀ a ∈ q, a = p) {a : Addr} (n : Fr (Y.hide p) μ a) : Fr Y (μ ++ q) a :=
  ⟨fun m => (List.mem_append.mp m).elim n.out fun m => n.vis (.inr (hq a m)), fun z => n.vis (.inl z)⟩
mutual
theorem Rep.show {p : Addr} {q : List Addr} (hq : ∀ a ∈ q, a = p) : ∀ {v : V} {d : D}, Rep (Y.hide p) μ H v d → Rep Y (μ ++ q) H v d
  | _, _, .non => .non
  | _, _, .bl b => .bl b
  | _, _, .int i => .int i
  | _, _, .str l => .str l
  | _, _, .tup h n r => .tup h (n.show hq) (r.show hq)
  | _, _, .lst h n r => .lst h (n.show hq) (r.show hq)
  | _, _, .scr h => .scr (h.imp (fun ⟨o, h, n⟩ => ⟨o, h, n.show hq⟩) id)
  | _, _, .way h ho n r => .way h ho (n.show hq) (r.show hq)
  | _, _, .dicK h n r => .dicK h (n.show hq) (r.show hq)
  | _, _, .dicT h n r => .dicT h (n.show hq) (r.show hq)
  | _, _, .ins h n hn r => .ins h (n.show hq) hn (r.show hq)
  | _, _, .ref h => .ref (by
    have hl := (List.getElem?_eq_some_iff.mp h).1
    rw [List.getElem?_append_left hl]; exact h)
theorem RepL.show {p : Addr} {q : List Addr} (hq : ∀ a ∈ q, a = p) : ∀ {vs : List V} {ds : List D}, RepL (Y.hide p) μ H vs ds → RepL Y (μ ++ q) H vs ds
  | _, _, .nil => .nil
  | _, _, .cons h t => .cons (h.show hq) (t.show hq)
end
end
end CL
namespace CL
open PySem PySem.Spec PyProof.Rows L2
section
variable {Y : Sx} {Bs : List Nat} {α β : Type}
def KR (Y : Sx) (Bs : List Nat) (rel : List Addr → Hp → β → α → Prop) (μ : List Addr) (H : Hp) (σ : L2.St) (Q : β → Hp → Prop) (W : WX) : R α → Prop
  | .ok a S' => ∀ (μ' : List Addr) (H' : Hp) (b : β), Ext μ H μ' H' → World Y Bs μ' H' S' → rel μ' H' b a → Q b H'
  | .err C ns ds S' => ∀ (μ' : List Addr) (H' : Hp) (cls : Value) (dd : Option Addr), Ext μ H μ' H' → World Y Bs μ' H' S' → ExcAt Y μ' H' C ns ds cls dd → W cls dd σ H'
  | .bad => False
variable {rel : List Addr → Hp → β → α → Prop} {μ μ' : List Addr} {H H' : Hp} {σ : L2.St} {Q : β → Hp → Prop} {W : WX} {r : R α} {S : Store} {ρ : Env}
theorem KR.mono (e : Ext μ H μ' H') (h : KR Y Bs rel μ H σ Q W r) : KR Y Bs rel μ' H' σ Q W r := by
  cases r with
  | ok a S' => exact fun μ2 H2 b e2 w2 r2 => h μ2 H2 b (e.trans e2) w2 r2
  | err C ns ds S' => exact fun μ2 H2 c d e2 w2 r2 => h μ2 H2 c d (e.trans e2) w2 r2
  | bad => exact h
def tX (Y : Sx) (Bs : List Nat) (rel : List Addr → Hp → β → α → Prop) (W : WX) (m : Env → Store → R α) : L2.St → Hp → (β → Hp → Prop) → Prop := fun σ H Q =>
  ∃ (μ : List Addr) (ρ : Env) (S : Store), World Y Bs μ H S ∧ EnvOk Y μ H σ ρ ∧ KR Y Bs rel μ H σ Q W (m ρ S)
end
abbrev tI (Y : Sx) (Bs : List Nat) (W : WX) (m : Env → Store → R D) : TE := tX Y Bs (Rep Y) W m
abbrev tA (Y : Sx) (Bs : List Nat) (W : WX) (m : Env → Store → R (List D)) : TA := tX Y Bs (RepL Y) W m
abbrev tT (Y : Sx) (Bs : List Nat) (W : WX) (m : Env → Store → R Bool) : TT := tX Y Bs (fun _ _ (b : Bool) a => b = a) W m
section
variable {Y : Sx} {Bs : List Nat} {α β γ δ : Type} {rel : List Addr → Hp → β → α → Prop} {rel' : List Addr → Hp → δ → γ → Prop} {W : WX}
variable {μ : List Addr} {H : Hp} {σ : L2.St} {ρ : Env} {S : Store} {Q : β → Hp → Prop} {Q' : δ → Hp → Prop}
theorem tX.bind {m : Env → Store → R α} {f : α → Store → R γ} (w : World Y Bs μ H S) (en : EnvOk Y μ H σ ρ) (h : KR Y Bs rel' μ H σ Q' W ((m ρ S).bind f))
    (go : ∀ a S1 μ1 H1 b, World Y Bs μ1 H1 S1 → EnvOk Y μ1 H1 σ ρ → Ext μ H μ1 H1 → rel μ1 H1 b a → KR Y Bs rel' μ1 H1 σ Q' W (f a S1) → Q b H1) : tX Y Bs rel W m σ H Q := by
  refine ⟨μ, ρ, S, w, en, ?_⟩
  cases e : m ρ S with
  | ok a S1 =>
    rw [e] at h
    exact fun μ1 H1 b x w1 r => go a S1 μ1 H1 b w1 (en.ext x) x r (KR.mono x h)
  | err C ns ds S1 =>
    rw [e] at h
    exact h
  | bad =>
    rw [e] at h
    exact h
theorem KR.of {o : Option α} (h : KR Y Bs rel μ H σ Q W (R.of S o)) : ∃ a, o = some a ∧ KR Y Bs rel μ H σ Q W (.ok a S) := by
  cases o with
  | none => exact h.elim
  | some a => exact ⟨a, rfl, h⟩
end
theorem _root_.L2.PE.imp {X : Cx} {e : Expr} {t t' : TE} (h : PE X e t) (i : ∀ σ H Q, t' σ H Q → t σ H Q) : PE X e t' := ⟨fun pins s σ H Q I q => h.run pins s σ H Q I (i σ H Q q)⟩
theorem _root_.L2.PT.imp {X : Cx} {e : Expr} {t t' : TT} (h : PT X e t) (i : ∀ σ H Q, t' σ H Q → t σ H Q) : PT X e t' := ⟨fun pins s σ H Q I q => h.run pins s σ H Q I (i σ H Q q)⟩
theorem _root_.L2.PW.imp {X : Cx} {e : Expr} {t t' : TT} (h : PW X e t) (i : ∀ σ H Q, t' σ H Q → t σ H Q) : PW X e t' := ⟨fun wh pins s σ H Q I q => h.run wh pins s σ H Q I (i σ H Q q)⟩
theorem _root_.L2.PA.imp {X : Cx} {es : List Expr} {t t' : TA} (h : PA X es t) (i : ∀ σ H Q, t' σ H Q → t σ H Q) : PA X es t' := ⟨fun pos pins s σ H Q I q => h.run pos pins s σ H Q I (i σ H Q q)⟩
theorem _root_.L2.PS.imp {X : Cx} {e : Stmt} {t t' : TS} (h : PS X e t) (i : ∀ D σ H, t' D σ H → t D σ H) : PS X e t' := ⟨fun pins s σ H D I q => h.run pins s σ H D I (i D σ H q)⟩
theorem _root_.L2.PSs.imp {X : Cx} {e : List Stmt} {t t' : TS} (h : PSs X e t) (i : ∀ D σ H, t' D σ H → t D σ H) : PSs X e t' := ⟨fun pins s σ H D I q => h.run pins s σ H D I (i D σ H q)⟩
section
variable (Y : Sx) (μ : List Addr) (H : Hp)
inductive View : V → D → Prop
  | non : View .non .non
  | bl (b : Bool) : View (.bl b) (.bl b)
  | int (i : Int) : View (.int i) (.int i)
  | str (l : List Nat) : View (.str ⟨l.toArray⟩) (.str l)
  | tup {a : Addr} {xs : List V} {ds : List D} (h : H a = some (.tup xs)) (n : Fr Y μ a) (r : RepL Y μ H xs ds) : View (.ref a) (.tup ds)
  | lst {a : Addr} {xs : List V} {ds : List D} (h : H a = some (.lst xs)) (r : RepL Y μ H xs ds) : View (.ref a) (.lst ds)
  | dicK {a : Addr} {kvs : List (Key × V)} {vs : List D} (h : H a = some (.dK kvs)) (r : RepL Y μ H (kvs.map (·.2)) vs) : View (.ref a) (.dic false (kvs.map fun p => kD p.1) vs)
  | dicT {a : Addr} {kvs : List (List Key × V)} {vs : List D} (h : H a = some (.dT kvs)) (r : RepL Y μ H (kvs.map (·.2)) vs) : View (.ref a) (.dic true (kvs.map fun p => kDT p.1) vs)
  | ins {a dx : Addr} {fs : List (Str × V)} {C : String} {ns : List String} {ds : List D} (h : H a = some (.ins (Y.ca C) dx fs)) (hn : fs.map (·.1) = ns.map nm) (r : RepL Y μ H (fs.map (·.2)) ds) : View (.ref a) (.ins C ns ds)
  | scr {a : Addr} {ns : List Int} (h : (∃ o, H a = some (.frz o (.lst (ns.map V.int)))) ∨ Y.ca.kl a ns) : View (.ref a) (.scr ns)
  | way {a : Addr} {o : Obj} {xs : List V} {ds : List D} (h : H a = some (.frz o (.tup xs))) (ho : o.dict = none) (n : Fr Y μ a) (r : RepL Y μ H xs ds) : View (.ref a) (.way ds)
  | ref {v : V} {i : Nat} : View v (.ref i)
end
section
variable {Y : Sx} {Bs : List Nat} {μ : List Addr} {H : Hp} {S : Store} {v : V} {d : D}
theorem view_of (w : World Y Bs μ H S) (r : Rep Y μ H v d) : View Y μ H v (vw S d) := by
  cases r with
  | non => exact .non
  | bl b => exact .bl b
  | int i => exact .int i
  | str l => exact .str l
  | tup h n r => exact .tup h n r
  | lst h _ r => exact .lst h r
  | dicK h _ r => exact .dicK h r
  | dicT h _ r => exact .dicT h r
  | ins h _ hn r => exact .ins h hn r
  | scr h => exact .scr (h.imp (fun ⟨o, h, _⟩ => ⟨o, h⟩) id)
  | way h ho n r => exact .way h ho n r
  | @ref a i h =>
    have hl : i < S.length := by rw [← w.len]; exact (List.getElem?_eq_some_iff.mp h).1
    obtain ⟨c, hc⟩ : ∃ c, S[i]? = some c := ⟨_, List.getElem?_eq_getElem hl⟩
    have q := w.cells i a c h hc
    unfold vw
    simp only [hc]
    cases q with
    | lst h r => exact .lst h r
    | dicK h r => exact .dicK h r
    | dicT h r => exact .dicT h r
    | ins h _ _ => exact .ref
end
section
variable {Y : Sx} {μ : List Addr} {H : Hp} {K : PySem.W.Frag}
mutual
theorem Rep.dp : ∀ {v : V} {d : D} {p : PyData}, Rep Y μ H v d → d.pd = some p → Dp K H v p
  | _, _, _, .non, e => by simp only [D.pd, Option.some.injEq] at e; subst e; exact .non
  | _, _, _, .bl b, e => by simp only [D.pd, Option.some.injEq] at e; subst e; exact .bl b
  | _, _, _, .int i, e => by simp only [D.pd, Option.some.injEq] at e; subst e; exact .int i
  | _, _, _, .str l, e => by simp only [D.pd, Option.some.injEq] at e; subst e; exact .str _
  | _, _, _, .tup h _ r, e => by
    simp only [D.pd, Option.map_eq_some_iff] at e
    obtain ⟨ps, e1, rfl⟩ := e
    exact .tup (.of h) (r.dp e1)
  | _, _, _, .lst h _ r, e => by
    simp only [D.pd, Option.map_eq_some_iff] at e
    obtain ⟨ps, e1, rfl⟩ := e
    exact .lst (.of h) (r.dp e1)
  | _, _, _, .dicK _ _ _, e => by simp [D.pd] at e
  | _, _, _, .dicT _ _ _, e => by simp [D.pd] at e
  | _, _, _, .ins _ _ _ _, e => by simp [D.pd] at e
  | _, _, _, .scr _, e => by simp [D.pd] at e
  | _, _, _, .way h _ _ r, e => by
    simp only [D.pd, Option.map_eq_some_iff] at e
    obtain ⟨ps, e1, rfl⟩ := e
    exact .tup (.inl (.inr ⟨_, h⟩)) (r.dp e1)
  | _, _, _, .ref _, e => by simp [D.pd] at e
theorem RepL.dp : ∀ {vs : List V} {ds : List D} {ps : List PyData}, RepL Y μ H vs ds → D.pdL ds = some ps → DpAll K H vs ps
  | _, _, _, .nil, e => by simp only [D.pdL, Option.some.injEq] at e; subst e; exact .nil
  | _, _, _, .cons (d := d) (ds := ds) h t, e => by
    simp only [D.pdL] at e
    cases e1 : d.pd with
    | none => rw [e1] at e; simp at e
    | some x =>
      cases e2 : D.pdL ds with
      | none => rw [e1, e2] at e; simp at e
      | some xs =>
        rw [e1, e2] at e
        simp only [Option.some.injEq] at e
        subst e
        exact .cons (h.dp e1) (t.dp e2)
end
theorem View.dp {v : V} {d : D} {p : PyData} (h : View Y μ H v d) (e : d.pd = some p) : Dp K H v p := by
  cases h with
  | non => simp only [D.pd, Option.some.injEq] at e; subst e; exact .non
  | bl b => simp only [D.pd, Option.some.injEq] at e; subst e; exact .bl b
  | int i => simp only [D.pd, Option.some.injEq] at e; subst e; exact .int i
  | str l => simp only [D.pd, Option.some.injEq] at e; subst e; exact .str _
  | tup h _ r =>
    simp only [D.pd, Option.map_eq_some_iff] at e
    obtain ⟨ps, e1, rfl⟩ := e
    exact .tup (.of h) (r.dp e1)
  | lst h r =>
    simp only [D.pd, Option.map_eq_some_iff] at e
    obtain ⟨ps, e1, rfl⟩ := e
    exact .lst (.of h) (r.dp e1)
  | dicK _ _ => simp [D.pd] at e
  | dicT _ _ => simp [D.pd] at e
  | ins _ _ _ => simp [D.pd] at e
  | scr _ => simp [D.pd] at e
  | way h _ _ r =>
    simp only [D.pd, Option.map_eq_some_iff] at e
    obtain ⟨ps, e1, rfl⟩ := e
    exact .tup (.inl (.inr ⟨_, h⟩)) (r.dp e1)
  | ref => simp [D.pd] at e
end
mutual
theorem dat_pd : ∀ (n : Nat) (d : D), d.dat n = true → ∃ p, d.pd = some p ∧ p.plain = true ∧ p.depth ≤ n + 1
  | n, .non, _ => ⟨_, rfl, rfl, by simp [PyData.depth]⟩
  | n, .bl b, _ => ⟨_, rfl, rfl, by simp [PyData.depth]⟩
  | n, .int i, _ => ⟨_, rfl, rfl, by simp [PyData.depth]⟩
  | n, .str l, _ => ⟨_, rfl, rfl, by simp [PyData.depth]⟩
  | n, .tup ds, h => by
    simp only [D.dat] at h
    obtain ⟨ps, e, pl, dh⟩ := datL_pd n ds h
    exact ⟨.tuple ps, by simp [D.pd, e], by simp only [PyData.plain]; exact pl, by simp only [PyData.depth]; omega⟩
  | n, .lst ds, h => by
    simp only [D.dat] at h
    obtain ⟨ps, e, pl, dh⟩ := datL_pd n ds h
    exact ⟨.list ps, by simp [D.pd, e], by simp only [PyData.plain]; exact pl, by simp only [PyData.depth]; omega⟩
  | n, .way ds, h => by
    simp only [D.dat] at h
    obtain ⟨ps, e, pl, dh⟩ := datL_pd n ds h
    exact ⟨.tuple ps, by simp [D.pd, e], by simp only [PyData.plain]; exact pl, by simp only [PyData.depth]; omega⟩
  | n, .dic _ _ _, h => by simp [D.dat] at h
  | n, .ins _ _ _, h => by simp [D.dat] at h
  | n, .exn _ _ _, h => by simp [D.dat] at h
  | n, .ref _, h => by simp [D.dat] at h
  | n, .scr _, h => by simp [D.dat] at h
theorem datL_pd : ∀ (n : Nat) (ds : List D), D.datL n ds = true → ∃ ps, D.pdL ds = some ps ∧ PyData.plainAll ps = true ∧ PyData.depthAll ps ≤ n
  | n, [], _ => ⟨[], rfl, rfl, by simp [PyData.depthAll]⟩
  | n, d :: ds, h => by
    simp only [D.datL, Bool.and_eq_true, decide_eq_true_eq] at h
    obtain ⟨hn, h1, h2⟩ := h
    obtain ⟨p, e1, pl1, d1⟩ := dat_pd (n - 1) d h1
    obtain ⟨ps, e2, pl2, d2⟩ := datL_pd n ds h2
    exact ⟨p :: ps, by simp [D.pdL, e1, e2], by simp [PyData.plainAll, pl1, pl2], by simp only [PyData.depthAll]; omega⟩
end
theorem str_beq (x y : List Nat) : ((⟨x.toArray⟩ : Str) == ⟨y.toArray⟩) = (x == y) := by
  rw [Bool.eq_iff_iff]
  simp
mutual
theorem eqv_pd : ∀ (a b : D) (p q : PyData), a.pd = some p → b.pd = some q → PyData.eqv p q = D.eqv a b
  | .non, b, p, q, h1, h2 => by
    simp only [D.pd, Option.some.injEq] at h1; subst h1
    cases b <;> simp [D.pd] at h2 <;> first
      | (subst h2; simp [PyData.eqv, D.eqv])
      | (obtain ⟨_, _, rfl⟩ := h2; simp [PyData.eqv, D.eqv])
  | .bl x, b, p, q, h1, h2 => by
    simp only [D.pd, Option.some.injEq] at h1; subst h1
    cases b <;> simp [D.pd] at h2 <;> first
      | (subst h2; simp [PyData.eqv, D.eqv])
      | (obtain ⟨_, _, rfl⟩ := h2; simp [PyData.eqv, D.eqv])
  | .int x, b, p, q, h1, h2 => by
    simp only [D.pd, Option.some.injEq] at h1; subst h1
    cases b <;> simp [D.pd] at h2 <;> first
      | (subst h2; simp [PyData.eqv, D.eqv])
      | (obtain ⟨_, _, rfl⟩ := h2; simp [PyData.eqv, D.eqv])
  | .str x, b, p, q, h1, h2 => by
    simp only [D.pd, Option.some.injEq] at h1; subst h1
    cases b <;> simp [D.pd] at h2 <;> first
      | (subst h2; simp only [PyData.eqv, D.eqv, str_beq])
      | (subst h2; simp [PyData.eqv, D.eqv])
      | (obtain ⟨_, _, rfl⟩ := h2; simp [PyData.eqv, D.eqv])
  | .tup xs, b, p, q, h1, h2 => by
    simp only [D.pd, Option.map_eq_some_iff] at h1
    obtain ⟨ps, e1, rfl⟩ := h1
    cases b with
    | tup ys =>
      simp only [D.pd, Option.map_eq_some_iff] at h2
      obtain ⟨qs, e2, rfl⟩ := h2
      simp only [PyData.eqv, D.eqv]
      exact eqvL_pd xs ys ps qs e1 e2
    | way ys =>
      simp only [D.pd, Option.map_eq_some_iff] at h2
      obtain ⟨qs, e2, rfl⟩ := h2
      simp only [PyData.eqv, D.eqv]
      exact eqvL_pd xs ys ps qs e1 e2
    | lst ys =>
      simp only [D.pd, Option.map_eq_some_iff] at h2
      obtain ⟨qs, e2, rfl⟩ := h2
      simp [PyData.eqv, D.eqv]
    | _ => simp [D.pd] at h2 <;> (subst h2; simp [PyData.eqv, D.eqv])
  | .way xs, b, p, q, h1, h2 => by
    simp only [D.pd, Option.map_eq_some_iff] at h1
    obtain ⟨ps, e1, rfl⟩ := h1
    cases b with
    | tup ys =>
      simp only [D.pd, Option.map_eq_some_iff] at h2
      obtain ⟨qs, e2, rfl⟩ := h2
      simp only [PyData.eqv, D.eqv]
      exact eqvL_pd xs ys ps qs e1 e2
    | way ys =>
      simp only [D.pd, Option.map_eq_some_iff] at h2
      obtain ⟨qs, e2, rfl⟩ := h2
      simp only [PyData.eqv, D.eqv]
      exact eqvL_pd xs ys ps qs e1 e2
    | lst ys =>
      simp only [D.pd, Option.map_eq_some_iff] at h2
      obtain ⟨qs, e2, rfl⟩ := h2
      simp [PyData.eqv, D.eqv]
    | _ => simp [D.pd] at h2 <;> (subst h2; simp [PyData.eqv, D.eqv])
  | .lst xs, b, p, q, h1, h2 => by
    simp only [D.pd, Option.map_eq_some_iff] at h1
    obtain ⟨ps, e1, rfl⟩ := h1
    cases b with
    | lst ys =>
      simp only [D.pd, Option.map_eq_some_iff] at h2
      obtain ⟨qs, e2, rfl⟩ := h2
      simp only [PyData.eqv, D.eqv]
      exact eqvL_pd xs ys ps qs e1 e2
    | tup ys =>
      simp only [D.pd, Option.map_eq_some_iff] at h2
      obtain ⟨qs, e2, rfl⟩ := h2
      simp [PyData.eqv, D.eqv]
    | way ys =>
      simp only [D.pd, Option.map_eq_some_iff] at h2
      obtain ⟨qs, e2, rfl⟩ := h2
      simp [PyData.eqv, D.eqv]
    | _ => simp [D.pd] at h2 <;> (subst h2; simp [PyData.eqv, D.eqv])
  | .dic _ _ _, b, p, q, h1, h2 => by simp [D.pd] at h1
  | .ins _ _ _, b, p, q, h1, h2 => by simp [D.pd] at h1
  | .exn _ _ _, b, p, q, h1, h2 => by simp [D.pd] at h1
  | .ref _, b, p, q, h1, h2 => by simp [D.pd] at h1
  | .scr _, b, p, q, h1, h2 => by simp [D.pd] at h1
theorem eqvL_pd : ∀ (xs ys : List D) (ps qs : List PyData), D.pdL xs = some ps → D.pdL ys = some qs → PyData.eqvAll ps qs = D.eqvL xs ys
  | [], ys, ps, qs, h1, h2 => by
    simp only [D.pdL, Option.some.injEq] at h1; subst h1
    cases ys with
    | nil => simp only [D.pdL, Option.some.injEq] at h2; subst h2; simp [PyData.eqvAll, D.eqvL]
    | cons y ys =>
      obtain ⟨q, qs', rfl⟩ : ∃ q qs', qs = q :: qs' := by
        simp only [D.pdL] at h2
        split at h2
        · simp only [Option.some.injEq] at h2; exact ⟨_, _, h2.symm⟩
        · cases h2
      simp [PyData.eqvAll, D.eqvL]
  | x :: xs, ys, ps, qs, h1, h2 => by
    obtain ⟨p, ps', rfl, ex, exs⟩ : ∃ p ps', ps = p :: ps' ∧ x.pd = some p ∧ D.pdL xs = some ps' := by
      simp only [D.pdL] at h1
      split at h1
      · rename_i a b e1 e2
        simp only [Option.some.injEq] at h1; exact ⟨_, _, h1.symm, e1, e2⟩
      · cases h1
    cases ys with
    | nil => simp only [D.pdL, Option.some.injEq] at h2; subst h2; simp [PyData.eqvAll, D.eqvL]
    | cons y ys =>
      obtain ⟨q, qs', rfl, ey, eys⟩ : ∃ q qs', qs = q :: qs' ∧ y.pd = some q ∧ D.pdL ys = some qs' := by
        simp only [D.pdL] at h2
        split at h2
        · rename_i a b e1 e2
          simp only [Option.some.injEq] at h2; exact ⟨_, _, h2.symm, e1, e2⟩
        · cases h2
      simp only [PyData.eqvAll, D.eqvL]
      rw [eqv_pd x y p q ex ey, eqvL_pd xs ys ps' qs' exs eys]
end
theorem ltD_data {a b : D} {k : Bool} (h : ltD a b = some k) : ∃ p q, a.pd = some p ∧ b.pd = some q ∧ PySem.W.alike p q = true ∧ p ≠ .none ∧ k = PySem.W.dataLt p q ∧ p.depth ≤ dp + 1 := by
  have gen : (if a.dat dp && b.dat dp then match a.pd, b.pd with
    | some p, some q => if PySem.W.alike p q && !nonP p then some (PySem.W.dataLt p q) else none
    | _, _ => none
    else none) = some k → ∃ p q, a.pd = some p ∧ b.pd = some q ∧ PySem.W.alike p q = true ∧ p ≠ .none ∧ k = PySem.W.dataLt p q ∧ p.depth ≤ dp + 1 := by
    intro h
    split at h
    · rename_i hd
      rw [Bool.and_eq_true] at hd
      obtain ⟨p, e1, _, d1⟩ := dat_pd dp a hd.1
      obtain ⟨q, e2, _, _⟩ := dat_pd dp b hd.2
      rw [e1, e2] at h
      simp only at h
      split at h
      · rename_i hc
        rw [Bool.and_eq_true] at hc
        simp only [Option.some.injEq] at h
        exact ⟨p, q, e1, e2, hc.1, by rintro rfl; simp [nonP] at hc, h.symm, d1⟩
      · cases h
    · cases h
  unfold ltD at h
  split at h
  · rename_i i j
    simp only [Option.some.injEq] at h
    exact ⟨_, _, rfl, rfl, by simp [PySem.W.alike], by simp, by rw [PySem.W.dataLt_int]; exact h.symm, by simp [PyData.depth]⟩
  · rename_i x y
    simp only [Option.some.injEq] at h
    exact ⟨_, _, rfl, rfl, by simp [PySem.W.alike], by simp, by rw [PySem.W.dataLt_str]; exact h.symm, by simp [PyData.depth]⟩
  · exact gen h
theorem eqD_data {a b : D} {k : Bool} (h : eqD a b = some k) : ∃ p q, a.pd = some p ∧ b.pd = some q ∧ p.plain = true ∧ q.plain = true ∧ k = PyData.eqv p q ∧ p.depth ≤ dp + 1 := by
  unfold eqD at h
  split at h
  · rename_i hd
    rw [Bool.and_eq_true] at hd
    obtain ⟨p, e1, l1, d1⟩ := dat_pd dp a hd.1
    obtain ⟨q, e2, l2, _⟩ := dat_pd dp b hd.2
    simp only [Option.some.injEq] at h
    exact ⟨p, q, e1, e2, l1, l2, by rw [eqv_pd a b p q e1 e2]; exact h.symm, d1⟩
  · cases h
theorem scr_sql {Y : Sx} {K : PySem.W.Frag} {H : Hp} {a : Addr} {ns : List Int} (hK : Y.ca.K = K) (h : (∃ o, H a = some (.frz o (.lst (ns.map V.int)))) ∨ Y.ca.kl a ns) : SqL K H a (ns.map V.int) := by
  subst hK
  rcases h with ⟨o, h⟩ | h
  · exact .inl (.inr ⟨o, h⟩)
  · exact .inr h
end CL
namespace CL
open PySem PySem.Spec PyProof.Rows L2
def Fin1 (Y : Sx) (Bs : List Nat) (μ : List Addr) (H : Hp) (S : Store) (r : D) (Q : VK) : Prop := ∀ (μ' : List Addr) (H' : Hp) (v : V), Ext μ H μ' H' → World Y Bs μ' H' S → Rep Y μ' H' v r → Q v H'
section
variable {Y : Sx} {Bs : List Nat} {μ : List Addr} {H : Hp} {S : Store} {Q : VK}
theorem Fin1.flat {r : D} {v : V} (k : Fin1 Y Bs μ H S r Q) (w : World Y Bs μ H S) (h : Rep Y μ H v r) : Q v H := k μ H v (.refl _ _) w h
theorem Fin1.lst {ds : List D} {xs : List V} (k : Fin1 Y Bs μ H S (.lst ds) Q) (w : World Y Bs μ H S) (r : RepL Y μ H xs ds) {p : Addr} (hp : H p = none) : Q (.ref p) (upd H p (.lst xs)) :=
  k μ _ _ (.laid hp) (w.laid hp) (.lst upd_same (w.fresh hp) (r.ext (.laid hp)))
theorem Fin1.tup {ds : List D} {xs : List V} (k : Fin1 Y Bs μ H S (.tup ds) Q) (w : World Y Bs μ H S) (r : RepL Y μ H xs ds) {p : Addr} (hp : H p = none) : Q (.ref p) (upd H p (.tup xs)) :=
  k μ _ _ (.laid hp) (w.laid hp) (.tup upd_same (w.fresh hp) (r.ext (.laid hp)))
end
def opD2 (Y : Sx) (f : D → D → Option D) : R2 := fun x y H Q => ∃ (Bs : List Nat) (μ : List Addr) (S : Store) (d e r : D), World Y Bs μ H S ∧ Rep Y μ H x d ∧ Rep Y μ H y e ∧ f (vw S d) (vw S e) = some r ∧ Fin1 Y Bs μ H S r Q
def opB2 (Y : Sx) (f : D → D → Option Bool) : R2 := fun x y H Q => ∃ (Bs : List Nat) (μ : List Addr) (S : Store) (d e : D) (b : Bool), World Y Bs μ H S ∧ Rep Y μ H x d ∧ Rep Y μ H y e ∧ f (vw S d) (vw S e) = some b ∧ Q (.bl b) H
def BO.op : BO → Operator
  | .add => .Add | .sub => .Sub | .mul => .Mult | .fdiv => .FloorDiv | .mod => .Mod | .pow => .Pow | .shl => .LShift
def CO.op : CO → CmpOp
  | .eq => .Eq | .ne => .NotEq | .lt => .Lt | .le => .LtE | .gt => .Gt | .ge => .GtE | .isIn => .In | .notIn => .NotIn | .is => .Is | .isNot => .IsNot
theorem lim_line {n : Nat} (h : n ≤ LIM) : n ≤ sizeLine := by
  rw [sizeLine_eq]; unfold LIM at h; omega
theorem str_len (l : List Nat) : (⟨l.toArray⟩ : Str).length = l.length := by simp [Str.length]
theorem str_app (l m : List Nat) : (⟨l.toArray⟩ : Str) ++ ⟨m.toArray⟩ = ⟨(l ++ m).toArray⟩ := by
  show Str.append _ _ = _
  simp [Str.append]
theorem catOk_of {a b : Nat} (h : catOk a b = true) : a + b ≤ LIM := of_decide_eq_true h
section
variable {X : Cx} {Y : Sx}
theorem orI {op : Operator} {o : BO} {C : Int → Int → Prop} {g : Int → Int → Int} (h : OpR X (binaryOp op) (rI C fun i j => .int (g i j))) (hc : ∀ i j r, bop o (.int i) (.int j) = some r → C i j ∧ r = .int (g i j))
    {pins : List (Addr × Obj)} {s : Shared} {σ : L2.St} {H : Hp} {i j : Int} {v u : Value} {Q : VK} {Bs : List Nat} {μ : List Addr} {S : Store} {r : D} (I : Inv X pins σ H s) (rx : RelV (.int i) v) (ry : RelV (.int j) u)
    (w : World Y Bs μ H S) (e : bop o (.int i) (.int j) = some r) (k : Fin1 Y Bs μ H S r Q) : wpAny (model X.prog X.w) X.A (binaryOp op v u) (EP X pins σ Q) X.xe s := by
  obtain ⟨c, rfl⟩ := hc i j r e
  exact h pins s σ H _ _ v u Q I rx ry ⟨i, j, rfl, rfl, c, k.flat w (.int _)⟩
theorem op_bop (o : BO) : OpR X (binaryOp o.op) (opD2 Y (bop o)) := by
  intro pins s σ H x y v u Q I rx ry h
  obtain ⟨Bs, μ, S, d, e, r, w, rd, re, hf, k⟩ := h
  have vd := view_of w rd
  have ve := view_of w re
  revert hf
  generalize vw S d = d' at vd
  generalize vw S e = e' at ve
  intro hf
  cases vd with
  | int i =>
    cases ve with
    | int j =>
      cases o with
      | add => exact orI (C := fun _ _ => True) (g := fun i j => i + j) (fun pins s σ H x y v u Q I rx ry ⟨i, j, a, b, _, q⟩ => op_add pins s σ H x y v u Q I rx ry ⟨i, j, a, b, q⟩) (fun i j r h => ⟨trivial, by simp only [bop, Option.some.injEq] at h; exact h.symm⟩) I rx ry w hf k
      | sub => exact orI (C := fun _ _ => True) (g := fun i j => i - j) (fun pins s σ H x y v u Q I rx ry ⟨i, j, a, b, _, q⟩ => op_sub pins s σ H x y v u Q I rx ry ⟨i, j, a, b, q⟩) (fun i j r h => ⟨trivial, by simp only [bop, Option.some.injEq] at h; exact h.symm⟩) I rx ry w hf k
      | mul =>
        refine orI op_mul (fun i j r h => ?_) I rx ry w hf k
        simp only [bop] at h
        split at h
        · rename_i c
          refine ⟨?_, (Option.some.inj h).symm⟩
          rcases c with c | c
          · exact .inl ⟨by omega, by omega⟩
          · exact .inr ⟨by omega, by omega⟩
        · cases h
      | fdiv =>
        refine orI op_fdivW (fun i j r h => ?_) I rx ry w hf k
        simp only [bop] at h
        split at h
        · rename_i c
          refine ⟨⟨c.1, ?_⟩, (Option.some.inj h).symm⟩
          have h1 : j.natAbs < 2 ^ 4000 := by
            have : (j.natAbs : Int) < 2 ^ 4000 := by rw [Int.natAbs_of_nonneg (by omega)]; exact c.2
            exact_mod_cast this
          exact Nat.lt_trans (PySem.Flt.log2_lt_of (by decide) h1) (by decide)
        · cases h
      | mod =>
        refine orI op_mod (fun i j r h => ?_) I rx ry w hf k
        simp only [bop] at h
        split at h
        · rename_i c
          exact ⟨c, (Option.some.inj h).symm⟩
        · cases h
      | pow =>
        refine orI op_pow (fun i j r h => ?_) I rx ry w hf k
        simp only [bop] at h
        split at h
        · rename_i c
          exact ⟨⟨c.1, by omega, c.2.2⟩, (Option.some.inj h).symm⟩
        · cases h
      | shl =>
        refine orI op_shl (fun i j r h => ?_) I rx ry w hf k
        simp only [bop] at h
        split at h
        · rename_i c
          exact ⟨⟨c.1, by omega, c.2.2⟩, (Option.some.inj h).symm⟩
        · cases h
    | _ => cases o <;> simp [bop] at hf
  | str l =>
    cases ve with
    | str m =>
      cases o with
      | add =>
        simp only [bop] at hf
        split at hf
        · rename_i c
          have c' := catOk_of c
          simp only [Option.some.injEq] at hf
          subst hf
          refine op_add_str pins s σ H _ _ v u Q I rx ry ⟨_, _, rfl, rfl, ?_, ?_⟩
          · rw [str_len, str_len]; exact lim_line c'
          · rw [str_app]; exact k.flat w (.str _)
        · cases hf
      | _ => simp [bop] at hf
    | _ => cases o <;> simp [bop] at hf
  | lst h1 r1 =>
    cases ve with
    | lst h2 r2 =>
      cases o with
      | add =>
        simp only [bop] at hf
        split at hf
        · rename_i c
          have c' := catOk_of c
          simp only [Option.some.injEq] at hf
          subst hf
          refine op_cat pins s σ H _ _ v u Q I rx ry ⟨_, _, _, _, rfl, rfl, h1, h2, ?_, fun p hp => k.lst w (r1.append r2) hp⟩
          rw [r1.length, r2.length]; exact lim_line c'
        · cases hf
      | _ => simp [bop] at hf
    | int j =>
      cases o with
      | mul =>
        simp only [bop] at hf
        split at hf
        · rename_i c
          obtain ⟨c1, c2, c3⟩ := c
          simp only [Option.some.injEq] at hf
          subst hf
          refine op_rep pins s σ H _ _ v u Q I rx ry ⟨_, _, _, rfl, rfl, h1, by omega, by omega, ?_, fun p hp => k.lst w (r1.rep _) hp⟩
          rw [r1.length]
          have h2 : j.toNat ≤ 1000 := by omega
          exact Nat.le_trans (Nat.mul_le_mul c3 h2) (by decide)
        · cases hf
      | _ => simp [bop] at hf
    | _ => cases o <;> simp [bop] at hf
  | tup h1 n1 r1 =>
    cases ve with
    | tup h2 n2 r2 =>
      cases o with
      | add =>
        simp only [bop] at hf
        split at hf
        · rename_i c
          have c' := catOk_of c
          simp only [Option.some.injEq] at hf
          subst hf
          refine op_catA pins s σ H _ _ v u Q I rx ry ⟨_, _, _, _, rfl, rfl, .of h1, .of h2, ?_, fun e1 => ?_, fun _ e2 => ?_, fun _ _ p hp => k.tup w (r1.append r2) hp⟩
          · rw [r1.length, r2.length]; exact lim_line c'
          · subst e1
            cases r1
            exact k.flat w (.tup h2 n2 r2)
          · subst e2
            cases r2
            rw [List.append_nil] at k
            exact k.flat w (.tup h1 n1 r1)
        · cases hf
      | _ => simp [bop] at hf
    | way h2 ho2 n2 r2 =>
      cases o with
      | add =>
        simp only [bop] at hf
        split at hf
        · rename_i c
          simp only [Bool.and_eq_true] at c
          have c' := catOk_of c.1.1
          simp only [Option.some.injEq] at hf
          subst hf
          refine op_catA pins s σ H _ _ v u Q I rx ry ⟨_, _, _, _, rfl, rfl, .of h1, .inl (.inr ⟨_, h2⟩), ?_, fun e1 => ?_, fun _ e2 => ?_, fun _ _ p hp => k.tup w (r1.append r2) hp⟩
          · rw [r1.length, r2.length]; exact lim_line c'
          · subst e1; cases r1; simp at c
          · subst e2; cases r2; simp at c
        · cases hf
      | _ => simp [bop] at hf
    | _ => cases o <;> simp [bop] at hf
  | way h1 ho1 n1 r1 =>
    cases ve with
    | tup h2 n2 r2 =>
      cases o with
      | add =>
        simp only [bop] at hf
        split at hf
        · rename_i c
          simp only [Bool.and_eq_true] at c
          have c' := catOk_of c.1.1
          simp only [Option.some.injEq] at hf
          subst hf
          refine op_catA pins s σ H _ _ v u Q I rx ry ⟨_, _, _, _, rfl, rfl, .inl (.inr ⟨_, h1⟩), .of h2, ?_, fun e1 => ?_, fun _ e2 => ?_, fun _ _ p hp => k.tup w (r1.append r2) hp⟩
          · rw [r1.length, r2.length]; exact lim_line c'
          · subst e1; cases r1; simp at c
          · subst e2; cases r2; simp at c
        · cases hf
      | _ => simp [bop] at hf
    | _ => cases o <;> simp [bop] at hf
  | _ => cases o <;> simp [bop] at hf
theorem Rep.reads {pins : List (Addr × Obj)} {s : Shared} {σ : L2.St} {H : Hp} {μ : List Addr} {v : V} {d : D} {p : PyData} {u : Value} (I : Inv X pins σ H s) (h : View Y μ H v d) (e : d.pd = some p) (r : RelV v u) : ∃ as, Reads s.heap u p as :=
  Dp.reads I p v u (h.dp e) r
theorem eqv_any (x : D) : ∀ (ds : List D) (ps : List PyData) (p : PyData), D.pdL ds = some ps → x.pd = some p → (ps.any fun z => PyData.eqv z p) = ds.any fun z => D.eqv z x
  | [], ps, p, h, _ => by simp only [D.pdL, Option.some.injEq] at h; subst h; rfl
  | d :: ds, ps, p, h, hx => by
    simp only [D.pdL] at h
    split at h
    · rename_i a b e1 e2
      simp only [Option.some.injEq] at h
      subst h
      rw [List.any_cons, List.any_cons, eqv_pd d x a p e1 hx, eqv_any x ds b p e2 hx]
    · cases h
theorem alike_none {p q : PyData} (h : PySem.W.alike p q = true) (n : p ≠ .none) : q ≠ .none := by
  rintro rfl
  cases p <;> simp [PySem.W.alike] at h
  exact n rfl
theorem fin_b {pins : List (Addr × Obj)} {s : Shared} {σ : L2.St} {H : Hp} {Q : VK} {b : Bool} (I : Inv X pins σ H s) (k : Q (.bl b) H) : EP X pins σ Q (.bool b) s := ⟨.bl b, H, I, rfl, k⟩
theorem keyK {μ : List Addr} {H : Hp} {v : V} {d : D} (h : View Y μ H v d) (e : keyOf false d = true) : ∃ k : Key, v = kV k ∧ d = kD k := by
  cases h with
  | int i => exact ⟨.inl i, rfl, rfl⟩
  | str l => exact ⟨.inr ⟨l.toArray⟩, rfl, by simp [kD]⟩
  | _ => simp [keyOf] at e
theorem flatsK {μ : List Addr} {H : Hp} : ∀ {vs : List V} {ds : List D}, RepL Y μ H vs ds → ds.all flatD = true → ∃ ks : List Key, vs = ks.map kV ∧ ds = ks.map kD
  | _, _, .nil, _ => ⟨[], rfl, rfl⟩
  | _, _, .cons (v := v) (d := d) h t, e => by
    rw [List.all_cons, Bool.and_eq_true] at e
    obtain ⟨ks, e1, e2⟩ := flatsK t e.2
    have : ∃ k : Key, v = kV k ∧ d = kD k := by
      cases h with
      | int i => exact ⟨.inl i, rfl, rfl⟩
      | str l => exact ⟨.inr ⟨l.toArray⟩, rfl, by simp [kD]⟩
      | _ => simp [flatD] at e
    obtain ⟨k, e3, e4⟩ := this
    exact ⟨k :: ks, by rw [e1, e3]; rfl, by rw [e2, e4]; rfl⟩
theorem keyT {μ : List Addr} {H : Hp} {v : V} {d : D} (h : View Y μ H v d) (e : keyOf true d = true) : ∃ (b : Addr) (ks : List Key), v = .ref b ∧ H b = some (.tup (ks.map kV)) ∧ d = kDT ks := by
  cases h with
  | tup h n r =>
    simp only [keyOf, Bool.true_and] at e
    obtain ⟨ks, e1, e2⟩ := flatsK r e
    exact ⟨_, ks, rfl, by rw [h, e1], by rw [e2]; rfl⟩
  | _ => simp [keyOf] at e
theorem eqv_kD (a b : Key) : D.eqv (kD a) (kD b) = decide (a = b) := by
  cases a with
  | inl x =>
    cases b with
    | inl y => rw [Bool.eq_iff_iff]; simp [kD, D.eqv]
    | inr y => simp [kD, D.eqv]
  | inr x =>
    cases b with
    | inl y => simp [kD, D.eqv]
    | inr y =>
      rw [Bool.eq_iff_iff]
      cases x
      cases y
      simp [kD, D.eqv]
theorem eqvL_kD : ∀ a b : List Key, D.eqvL (a.map kD) (b.map kD) = decide (a = b)
  | [], [] => by simp [D.eqvL]
  | [], _ :: _ => by simp [D.eqvL]
  | _ :: _, [] => by simp [D.eqvL]
  | x :: a, y :: b => by
    simp only [List.map_cons, D.eqvL]
    rw [eqv_kD, eqvL_kD a b]
    by_cases h1 : x = y <;> by_cases h2 : a = b <;> simp [h1, h2]
theorem look_val {κ : Type} [DecidableEq κ] (g : κ → D) (hg : ∀ a b, D.eqv (g a) (g b) = decide (a = b)) (k : κ) {μ : List Addr} {H : Hp} : ∀ {kvs : List (κ × V)} {ds : List D}, RepL Y μ H (kvs.map (·.2)) ds →
    (∀ d, lookD (g k) (kvs.map fun p => g p.1) ds = some d → ∃ v, valV kvs k = some v ∧ Rep Y μ H v d) ∧ (lookD (g k) (kvs.map fun p => g p.1) ds = none → valV kvs k = none)
  | [], _, .nil => ⟨fun d h => by simp [lookD] at h, fun _ => rfl⟩
  | (j, v) :: kvs, _, .cons (d := e) (ds := ds) h t => by
    obtain ⟨i1, i2⟩ := look_val g hg k t
    simp only [List.map_cons, lookD, hg]
    by_cases q : j = k
    · subst q
      rw [valV_pos rfl]
      simp only [decide_true, if_true]
      exact ⟨fun d e' => by simp only [Option.some.injEq] at e'; subst e'; exact ⟨_, rfl, h⟩, fun e' => by cases e'⟩
    · rw [valV_neg q]
      simp only [q, decide_false, Bool.false_eq_true, if_false]
      exact ⟨i1, i2⟩
theorem dget_of {μ : List Addr} {H : Hp} {x y : V} {t : Bool} {ks vs : List D} {k : D} (h : View Y μ H x (.dic t ks vs)) (hk : View Y μ H y k) (e : keyOf t k = true) : ∃ a o, x = .ref a ∧ DGet H a y o ∧
    (∀ d, lookD k ks vs = some d → ∃ v, o = some v ∧ Rep Y μ H v d) ∧ (lookD k ks vs = none → o = none) := by
  cases h with
  | dicK h r =>
    obtain ⟨kk, rfl, rfl⟩ := keyK hk e
    exact ⟨_, _, rfl, DGet.k h, look_val kD eqv_kD kk r⟩
  | dicT h r =>
    obtain ⟨b, kk, rfl, hb, rfl⟩ := keyT hk e
    exact ⟨_, _, rfl, DGet.t h hb, look_val kDT (fun a b => by show D.eqv (.tup _) (.tup _) = _; rw [D.eqv]; exact eqvL_kD a b) kk r⟩
theorem op_inD' (hu : X.A.units + 64 < cLine) {neg : Bool} {pins : List (Addr × Obj)} {s : Shared} {σ : L2.St} {H : Hp} {x y : V} {v u : Value} {Q : VK} {μ : List Addr} {d e : D} {b : Bool}
    (I : Inv X pins σ H s) (rx : RelV x v) (ry : RelV y u) (vd : View Y μ H x d) (ve : View Y μ H y e) (hf : inD d e = some b) (k : Q (.bl (if neg then !b else b)) H) :
    wpAny (model X.prog X.w) X.A (compareOp (if neg then .NotIn else .In) v u) (EP X pins σ Q) X.xe s := by
  cases e with
  | str l =>
    cases ve
    cases d with
    | str m =>
      cases vd
      match m, hf with
      | [c], hf =>
        simp only [inD, Option.some.injEq] at hf
        subst hf
        cases neg with
        | false => exact op_in_sign pins s σ H _ _ v u Q I rx ry ⟨c, _, rfl, rfl, by simpa using k⟩
        | true => exact op_notIn_sign pins s σ H _ _ v u Q I rx ry ⟨c, _, rfl, rfl, by simpa using k⟩
      | [], hf => simp [inD] at hf
      | _ :: _ :: _, hf => simp [inD] at hf
    | _ => simp [inD] at hf
  | lst ds =>
    simp only [inD] at hf
    split at hf
    · rename_i c
      rw [Bool.and_eq_true] at c
      obtain ⟨p, e1, l1, d1⟩ := dat_pd dp d c.1
      obtain ⟨ps, e2, l2, d2⟩ := datL_pd dp ds c.2
      simp only [Option.some.injEq] at hf
      obtain ⟨as, r1⟩ := Rep.reads I vd e1 rx
      obtain ⟨bs, r2⟩ := Rep.reads I ve (p := .list ps) (by simp [D.pd, e2]) ry
      have hu' : X.A.units + 1 + min (PyData.depthAll ps) p.depth < cLine := by unfold dp at d2; omega
      have ea := eqv_any d ds ps p e2 e1
      cases neg with
      | false => exact PySem.SeqAt.in_list_data r2 r1 l2 l1 hu' (by rw [ea, hf]; exact fin_b I k)
      | true => exact PySem.SeqAt.notIn_list_data r2 r1 l2 l1 hu' (by rw [ea, hf]; exact fin_b I k)
    · cases hf
  | tup ds =>
    simp only [inD] at hf
    split at hf
    · rename_i c
      rw [Bool.and_eq_true] at c
      obtain ⟨p, e1, l1, d1⟩ := dat_pd dp d c.1
      obtain ⟨ps, e2, l2, d2⟩ := datL_pd dp ds c.2
      simp only [Option.some.injEq] at hf
      obtain ⟨as, r1⟩ := Rep.reads I vd e1 rx
      obtain ⟨bs, r2⟩ := Rep.reads I ve (p := .tuple ps) (by simp [D.pd, e2]) ry
      have hu' : X.A.units + 1 + min (PyData.depthAll ps) p.depth < cLine := by unfold dp at d2; omega
      have ea := eqv_any d ds ps p e2 e1
      cases neg with
      | false => exact PySem.SeqAt.in_tuple_data r2 r1 l2 l1 hu' (by rw [ea, hf]; exact fin_b I k)
      | true => exact PySem.SeqAt.notIn_tuple_data r2 r1 l2 l1 hu' (by rw [ea, hf]; exact fin_b I k)
    · cases hf
  | way ds =>
    simp only [inD] at hf
    split at hf
    · rename_i c
      rw [Bool.and_eq_true] at c
      obtain ⟨p, e1, l1, d1⟩ := dat_pd dp d c.1
      obtain ⟨ps, e2, l2, d2⟩ := datL_pd dp ds c.2
      simp only [Option.some.injEq] at hf
      obtain ⟨as, r1⟩ := Rep.reads I vd e1 rx
      obtain ⟨bs, r2⟩ := Rep.reads I ve (p := .tuple ps) (by simp [D.pd, e2]) ry
      have hu' : X.A.units + 1 + min (PyData.depthAll ps) p.depth < cLine := by unfold dp at d2; omega
      have ea := eqv_any d ds ps p e2 e1
      cases neg with
      | false => exact PySem.SeqAt.in_tuple_data r2 r1 l2 l1 hu' (by rw [ea, hf]; exact fin_b I k)
      | true => exact PySem.SeqAt.notIn_tuple_data r2 r1 l2 l1 hu' (by rw [ea, hf]; exact fin_b I k)
    · cases hf
  | dic t ks vs =>
    simp only [inD] at hf
    split at hf
    · rename_i c
      simp only [Option.some.injEq] at hf
      obtain ⟨a, o, rfl, g, g1, g2⟩ := dget_of ve vd c
      obtain rfl : u = Value.ref a := ry
      have ho : o.isSome = b := by
        rw [← hf]
        cases q : lookD d ks vs with
        | none => rw [g2 q]; rfl
        | some z =>
          obtain ⟨w, e, _⟩ := g1 z q
          rw [e]; rfl
      cases neg with
      | false => exact d_in (by omega) I g rx fun s' I' => by rw [ho]; exact fin_b I' k
      | true => exact d_notIn (by omega) I g rx fun s' I' => by rw [ho]; exact fin_b I' k
    · cases hf
  | _ => simp [inD] at hf
theorem op_isD' {neg : Bool} {pins : List (Addr × Obj)} {s : Shared} {σ : L2.St} {H : Hp} {x y : V} {v u : Value} {Q : VK} {μ : List Addr} {d e : D} {b : Bool} {S : Store} {d0 : D} {Bs : List Nat} (w : World Y Bs μ H S) (hd : d = vw S d0) (rd : Rep Y μ H x d0)
    (I : Inv X pins σ H s) (rx : RelV x v) (ry : RelV y u) (vd : View Y μ H x d) (ve : View Y μ H y e) (hf : isD d e = some b) (k : Q (.bl (if neg then !b else b)) H) :
    wpAny (model X.prog X.w) X.A (compareOp (if neg then .IsNot else .Is) v u) (EP X pins σ Q) X.xe s := by
  cases e with
  | non =>
    cases ve
    have hb : decide (x = .non) = b := by
      simp only [isD, Option.some.injEq] at hf
      rw [← hf]
      cases vd with
      | @ref v i =>
        have : ∃ a, x = .ref a := by
          have : d0 = .ref i := by
            cases d0 <;> simp [vw] at hd
            · split at hd
              · cases hd
              · cases hd
              · exact hd.symm
          subst this
          cases rd
          exact ⟨_, rfl⟩
        obtain ⟨a, rfl⟩ := this
        simp
      | _ => simp
    cases neg with
    | false => exact op_isN pins s σ H _ _ v u Q I rx ry ⟨rfl, by rw [hb]; exact k⟩
    | true => exact op_notN pins s σ H _ _ v u Q I rx ry ⟨rfl, by rw [hb]; exact k⟩
  | bl j =>
    cases ve
    cases d with
    | bl i =>
      cases vd
      cases rx
      cases ry
      simp only [isD, Option.some.injEq] at hf
      cases neg with
      | false => exact PyProof.Rows.is_bool (by rw [hf]; exact fin_b I k)
      | true => exact wpAny_isNot_plain (by rfl) (by
          have : (!(Value.bool i == Value.bool j)) = !b := by rw [← hf]; cases i <;> cases j <;> rfl
          rw [this]; exact fin_b I k)
    | _ => simp [isD] at hf
  | _ => simp [isD] at hf
theorem op_cmp (hu : X.A.units + 64 < cLine) (o : CO) : OpR X (compareOp o.op) (opB2 Y (cmpD o)) := by
  intro pins s σ H x y v u Q I rx ry h
  obtain ⟨Bs, μ, S, d, e, b, w, rd, re, hf, k⟩ := h
  have vd := view_of w rd
  have ve := view_of w re
  cases o with
  | eq =>
    obtain ⟨p, q, e1, e2, l1, l2, rfl, d1⟩ := eqD_data hf
    obtain ⟨as, r1⟩ := Rep.reads I vd e1 rx
    obtain ⟨bs, r2⟩ := Rep.reads I ve e2 ry
    exact PySem.SeqAt.eq_plain r1 r2 l1 l2 (by unfold dp at d1; omega) (fin_b I k)
  | ne =>
    simp only [cmpD, Option.map_eq_some_iff] at hf
    obtain ⟨b', hf, rfl⟩ := hf
    obtain ⟨p, q, e1, e2, l1, l2, rfl, d1⟩ := eqD_data hf
    obtain ⟨as, r1⟩ := Rep.reads I vd e1 rx
    obtain ⟨bs, r2⟩ := Rep.reads I ve e2 ry
    exact PySem.SeqAt.ne_plain r1 r2 l1 l2 (by unfold dp at d1; omega) (fin_b I k)
  | lt =>
    obtain ⟨p, q, e1, e2, al, nn, rfl, d1⟩ := ltD_data hf
    obtain ⟨as, r1⟩ := Rep.reads I vd e1 rx
    obtain ⟨bs, r2⟩ := Rep.reads I ve e2 ry
    exact PySem.W.lt_data r1 r2 al nn (by unfold dp at d1; omega) (fin_b I k)
  | gt =>
    obtain ⟨p, q, e1, e2, al, nn, rfl, d1⟩ := ltD_data hf
    obtain ⟨as, r1⟩ := Rep.reads I vd e2 rx
    obtain ⟨bs, r2⟩ := Rep.reads I ve e1 ry
    exact PySem.W.gt_data r1 r2 (by rw [PySem.W.alike_comm]; exact al) (alike_none al nn) (by unfold dp at d1; omega) (fin_b I k)
  | le =>
    simp only [cmpD, Option.map_eq_some_iff] at hf
    obtain ⟨b', hf, rfl⟩ := hf
    obtain ⟨p, q, e1, e2, al, nn, rfl, d1⟩ := ltD_data hf
    obtain ⟨as, r1⟩ := Rep.reads I vd e2 rx
    obtain ⟨bs, r2⟩ := Rep.reads I ve e1 ry
    exact PySem.W.le_data r1 r2 (by rw [PySem.W.alike_comm]; exact al) (alike_none al nn) (by unfold dp at d1; omega) (fin_b I k)
  | ge =>
    simp only [cmpD, Option.map_eq_some_iff] at hf
    obtain ⟨b', hf, rfl⟩ := hf
    obtain ⟨p, q, e1, e2, al, nn, rfl, d1⟩ := ltD_data hf
    obtain ⟨as, r1⟩ := Rep.reads I vd e1 rx
    obtain ⟨bs, r2⟩ := Rep.reads I ve e2 ry
    exact PySem.W.ge_data r1 r2 al nn (by unfold dp at d1; omega) (fin_b I k)
  | isIn => exact op_inD' (neg := false) hu I rx ry vd ve hf k
  | notIn =>
    simp only [cmpD, Option.map_eq_some_iff] at hf
    obtain ⟨b', hf, rfl⟩ := hf
    exact op_inD' (neg := true) hu I rx ry vd ve hf k
  | is => exact op_isD' (neg := false) w rfl rd I rx ry vd ve hf k
  | isNot =>
    simp only [cmpD, Option.map_eq_some_iff] at hf
    obtain ⟨b', hf, rfl⟩ := hf
    exact op_isD' (neg := true) w rfl rd I rx ry vd ve hf k
end
end CL
namespace CL
open PySem PySem.Spec PyProof.Rows L2
theorem ltD_of {a b : D} {p q : PyData} (ha : a.dat dp = true) (hb : b.dat dp = true) (ea : a.pd = some p) (eb : b.pd = some q) (hal : PySem.W.alike p q = true) (hn : p ≠ .none) : ltD a b = some (PySem.W.dataLt p q) := by
  have hp : nonP p = false := by cases p <;> first | rfl | exact absurd rfl hn
  have gen : (if a.dat dp && b.dat dp then match a.pd, b.pd with
    | some p, some q => if PySem.W.alike p q && !nonP p then some (PySem.W.dataLt p q) else none
    | _, _ => none
    else none) = some (PySem.W.dataLt p q) := by
    rw [ha, hb, ea, eb]
    simp [hal, hp]
  unfold ltD
  split
  · simp only [D.pd, Option.some.injEq] at ea eb
    subst ea eb
    rw [PySem.W.dataLt_int]
  · simp only [D.pd, Option.some.injEq] at ea eb
    subst ea eb
    rw [PySem.W.dataLt_str]
  · exact gen
def encD (d : D) : PyData := d.pd.getD .none
theorem pdL_enc : ∀ {ds : List D} {ps : List PyData}, D.pdL ds = some ps → ps = ds.map encD ∧ ∀ d ∈ ds, d.pd = some (encD d)
  | [], ps, h => by
    simp only [D.pdL, Option.some.injEq] at h
    subst h
    exact ⟨rfl, by simp⟩
  | d :: ds, ps, h => by
    simp only [D.pdL] at h
    split at h
    · rename_i x xs e1 e2
      simp only [Option.some.injEq] at h
      subst h
      obtain ⟨rfl, h2⟩ := pdL_enc e2
      have e3 : encD d = x := by unfold encD; rw [e1]; rfl
      refine ⟨by rw [List.map_cons, e3], fun z hz => ?_⟩
      rcases List.mem_cons.mp hz with rfl | hz
      · rw [e3, e1]
      · exact h2 z hz
    · cases h
theorem datL_mem {n : Nat} : ∀ {ds : List D}, D.datL n ds = true → ∀ d ∈ ds, d.dat (n - 1) = true
  | [], _, d, hd => by cases hd
  | x :: ds, h, d, hd => by
    simp only [D.datL, Bool.and_eq_true] at h
    rcases List.mem_cons.mp hd with rfl | hd
    · exact h.2.1
    · exact datL_mem h.2.2 d hd
mutual
theorem D.dat_mono : ∀ (d : D) (m n : Nat), m ≤ n → d.dat m = true → d.dat n = true
  | .non, _, _, _, _ => by simp [D.dat]
  | .bl _, _, _, _, _ => by simp [D.dat]
  | .int _, _, _, _, _ => by simp [D.dat]
  | .str _, _, _, _, _ => by simp [D.dat]
  | .tup ds, m, n, h, q => by rw [D.dat] at q ⊢; exact D.datL_mono ds m n h q
  | .lst ds, m, n, h, q => by rw [D.dat] at q ⊢; exact D.datL_mono ds m n h q
  | .way ds, m, n, h, q => by rw [D.dat] at q ⊢; exact D.datL_mono ds m n h q
  | .dic _ _ _, _, _, _, q => by simp [D.dat] at q
  | .ins _ _ _, _, _, _, q => by simp [D.dat] at q
  | .exn _ _ _, _, _, _, q => by simp [D.dat] at q
  | .ref _, _, _, _, q => by simp [D.dat] at q
  | .scr _, _, _, _, q => by simp [D.dat] at q
theorem D.datL_mono : ∀ (ds : List D) (m n : Nat), m ≤ n → D.datL m ds = true → D.datL n ds = true
  | [], _, _, _, _ => rfl
  | d :: ds, m, n, h, q => by
    simp only [D.datL, Bool.and_eq_true, decide_eq_true_eq] at q ⊢
    exact ⟨by omega, D.dat_mono d (m - 1) (n - 1) (by omega) q.2.1, D.datL_mono ds m n h q.2.2⟩
end
theorem dat_of_mem {ds : List D} {d : D} (h : D.datL dp ds = true) (hd : d ∈ ds) : d.dat dp = true := D.dat_mono d (dp - 1) dp (by omega) (datL_mem h d hd)
theorem each_eq {l m : List D} (h : PySem.W.EachIs Eq l m) : l = m := by
  induction h with
  | nil => rfl
  | cons e _ ih => rw [e, ih]
theorem each_self : ∀ l : List D, PySem.W.EachIs Eq l l
  | [] => .nil
  | _ :: l => .cons rfl (each_self l)
section
variable {Y : Sx} {μ : List Addr} {H : Hp}
theorem each_of : ∀ {ys : List V} {us : List Value} {ds : List D}, Vals ys us → RepL Y μ H ys ds → PySem.W.EachIs (fun v d => ∃ y, RelV y v ∧ Rep Y μ H y d) us ds
  | _, _, _, .nil, .nil => .nil
  | _, _, _, .cons r rs, .cons q qs => .cons ⟨_, r, q⟩ (each_of rs qs)
theorem of_each : ∀ {us : List Value} {ds : List D}, PySem.W.EachIs (fun v d => ∃ y, RelV y v ∧ Rep Y μ H y d) us ds → ∃ ys, Vals ys us ∧ RepL Y μ H ys ds
  | _, _, .nil => ⟨[], .nil, .nil⟩
  | _, _, .cons ⟨y, r, q⟩ h => by
    obtain ⟨ys, h1, h2⟩ := of_each h
    exact ⟨y :: ys, .cons r h1, .cons q h2⟩
theorem sortD_some {ds es : List D} (h : sortD ds = some es) : D.datL dp ds = true ∧ ds.length ≤ LIM ∧ (∀ d ∈ ds, d.pd = some (encD d)) ∧ PySem.W.AllAlike (ds.map encD) ∧ PySem.W.Sortable (ds.map encD) ∧ es = ds.mergeSort (PySem.W.dataLe false encD) := by
  unfold sortD at h
  split at h
  · rename_i hd
    rw [Bool.and_eq_true, decide_eq_true_eq] at hd
    split at h
    · rename_i ps e1
      split at h
      · rename_i hc
        rw [Bool.and_eq_true] at hc
        simp only [Option.some.injEq] at h
        obtain ⟨rfl, hp⟩ := pdL_enc e1
        have hal : PySem.W.AllAlike (ds.map encD) := fun d hd d' hd' => List.all_eq_true.mp (List.all_eq_true.mp hc.1 d hd) d' hd'
        have hso : PySem.W.Sortable (ds.map encD) := by
          have h2 := hc.2
          unfold sortOk at h2
          rw [Bool.or_eq_true] at h2
          rcases h2 with h2 | h2
          · refine .inl fun d hd => ?_
            have := List.all_eq_true.mp h2 d hd
            split at this
            · exact ⟨_, _, rfl⟩
            · cases this
          · refine .inr fun d hd => ?_
            have := List.all_eq_true.mp h2 d hd
            split at this
            · cases this
            · cases this
            · rename_i n1 n2
              exact ⟨n1, n2⟩
        refine ⟨hd.1, hd.2, hp, hal, hso, ?_⟩
        rw [← h]
        refine each_eq (PySem.W.sort_each (each_self ds) fun p hp' q hq' => ?_)
        have ep : p.1 = p.2 := (each_self ds).zip p hp'
        have eq : q.1 = q.2 := (each_self ds).zip q hq'
        have m1 : p.1 ∈ ds := (List.of_mem_zip hp').1
        have m2 : q.1 ∈ ds := (List.of_mem_zip hq').1
        rw [← ep, ← eq]
        have nn : encD q.1 ≠ .none := by
          rcases hso with z | z
          · obtain ⟨x, r, e⟩ := z _ (List.mem_map_of_mem m2)
            rw [e]; simp
          · exact (z _ (List.mem_map_of_mem m2)).1
        unfold leD
        rw [ltD_of (dat_of_mem hd.1 m2) (dat_of_mem hd.1 m1) (hp _ m2) (hp _ m1) (hal _ (List.mem_map_of_mem m2) _ (List.mem_map_of_mem m1)) nn]
        rfl
      · cases h
    · cases h
  · cases h
end
end CL
namespace CL
open PySem PySem.Spec PyProof.Rows L2
section
variable {X : Cx} {Y : Sx}
theorem view_tru {K : PySem.W.Frag} {μ : List Addr} {H : Hp} {x : V} {d : D} {k : Bool} (h : View Y μ H x d) (e : truD d = some k) : TruV K x H k := by
  cases h with
  | non => simp only [truD, Option.some.injEq] at e; exact e.symm
  | bl b => simp only [truD, Option.some.injEq] at e; exact e.symm
  | int i => simp only [truD, Option.some.injEq] at e; exact e.symm
  | str l =>
    simp only [truD] at e
    split at e
    · rename_i c
      simp only [Option.some.injEq] at e
      refine ⟨by rw [str_len]; exact lim_line c, ?_⟩
      rw [str_len, ← e]
      cases l with
      | nil => rfl
      | cons a l => simp [bne_iff_ne]; omega
    · cases e
  | tup h n r =>
    simp only [truD, Option.some.injEq] at e
    exact .inr (.inl ⟨_, .of h, by rw [r.nil_iff]; exact e.symm⟩)
  | way h _ n r =>
    simp only [truD, Option.some.injEq] at e
    exact .inr (.inl ⟨_, .inl (.inr ⟨_, h⟩), by rw [r.nil_iff]; exact e.symm⟩)
  | lst h r =>
    simp only [truD, Option.some.injEq] at e
    exact .inl ⟨_, .of h, by rw [r.nil_iff]; exact e.symm⟩
  | _ => simp [truD] at e
theorem atD_I {α : Type} {xs : List α} {i : Int} {v : α} (h : atD xs i = some v) : atI xs i = some v := by
  unfold atD at h
  unfold atI ixN
  by_cases h0 : 0 ≤ i
  · rw [if_pos h0] at h
    have hl := (List.getElem?_eq_some_iff.mp h).1
    rw [if_pos h0, if_pos (by omega)]
    exact h
  · rw [if_neg h0] at h
    rw [if_neg h0]
    by_cases h1 : 0 ≤ i + xs.length
    · rw [if_pos h1] at h
      rw [if_pos (by omega)]
      exact h
    · rw [if_neg h1] at h; cases h
theorem atI_rep {μ : List Addr} {H : Hp} {xs : List V} {ds : List D} {i : Int} {d : D} (r : RepL Y μ H xs ds) (h : atD ds i = some d) : ∃ v, atI xs i = some v ∧ Rep Y μ H v d := by
  have hl := r.length
  unfold atD at h
  by_cases h0 : 0 ≤ i
  · rw [if_pos h0] at h
    obtain ⟨v, a, b⟩ := r.get h
    exact ⟨v, atD_I (by unfold atD; rw [if_pos h0]; exact a), b⟩
  · rw [if_neg h0] at h
    by_cases h1 : 0 ≤ i + ds.length
    · rw [if_pos h1] at h
      obtain ⟨v, a, b⟩ := r.get h
      exact ⟨v, atD_I (by unfold atD; rw [if_neg h0, hl, if_pos h1]; exact a), b⟩
    · rw [if_neg h1] at h; cases h
theorem ix_D (hK : Y.ca.K = X.K) (hu : X.A.units + 64 < cLine) : IxR X (opD2 Y idxD) := by
  intro value slice pins s σ H x y v u Q I rx ry h hs
  obtain ⟨Bs, μ, S, d, e, r, w, rd, re, hf, k⟩ := h
  have vd := view_of w rd
  have ve := view_of w re
  revert hf
  generalize vw S d = d' at vd
  generalize vw S e = e' at ve
  intro hf
  cases d' with
  | lst ds =>
    cases e' with
    | int i =>
      cases ve
      cases vd with
      | lst h rl =>
        obtain ⟨z, a, b⟩ := atI_rep rl hf
        exact ix_list value slice pins s σ H _ _ v u Q I rx ry ⟨_, _, i, z, rfl, rfl, .of h, a, k.flat w b⟩ hs
    | _ => simp [idxD] at hf
  | tup ds =>
    cases e' with
    | int i =>
      cases ve
      cases vd with
      | tup h n rl =>
        obtain ⟨z, a, b⟩ := atI_rep rl hf
        exact ix_tup value slice pins s σ H _ _ v u Q I rx ry ⟨_, _, i, z, rfl, rfl, .of h, a, k.flat w b⟩ hs
    | _ => simp [idxD] at hf
  | way ds =>
    cases e' with
    | int i =>
      cases ve
      cases vd with
      | way h ho n rl =>
        obtain ⟨z, a, b⟩ := atI_rep rl hf
        exact ix_tup value slice pins s σ H _ _ v u Q I rx ry ⟨_, _, i, z, rfl, rfl, .inl (.inr ⟨_, h⟩), a, k.flat w b⟩ hs
    | _ => simp [idxD] at hf
  | str l =>
    cases e' with
    | int i =>
      cases ve
      cases vd
      simp only [idxD] at hf
      split at hf
      · rename_i c
        simp only [Option.map_eq_some_iff] at hf
        obtain ⟨ch, a, rfl⟩ := hf
        refine ix_str value slice pins s σ H _ _ v u Q I rx ry ⟨_, i, ch, rfl, rfl, by rw [str_len]; exact lim_line c, atD_I (by simpa using a), k.flat w (.str [ch])⟩ hs
      · cases hf
    | _ => simp [idxD] at hf
  | scr ns =>
    cases e' with
    | int i =>
      cases ve
      cases vd with
      | scr h =>
        simp only [idxD, Option.map_eq_some_iff] at hf
        obtain ⟨n, a, rfl⟩ := hf
        have a' : atI (ns.map V.int) i = some (.int n) := by
          have := atD_I a
          unfold atI at this ⊢
          rw [List.length_map]
          cases q : ixN ns.length i with
          | none => rw [q] at this; cases this
          | some j =>
            rw [q] at this
            simp only [Option.bind_some] at this ⊢
            rw [List.getElem?_map, this]
            rfl
        exact ix_list value slice pins s σ H _ _ v u Q I rx ry ⟨_, _, i, _, rfl, rfl, scr_sql hK h, a', k.flat w (.int n)⟩ hs
    | _ => simp [idxD] at hf
  | dic t ks vs =>
    simp only [idxD] at hf
    split at hf
    · rename_i c
      obtain ⟨a, o, rfl, g, g1, g2⟩ := dget_of vd ve c
      obtain rfl : v = Value.ref a := rx
      obtain ⟨z, e1, rz⟩ := g1 r hf
      rw [e1] at g
      exact tail_any (dict_typeIs I g) PySem.F.slot_dict_getitem.lookup (d_getItem (by omega) I g ry fun w' s3 I3 rw' => ⟨z, H, I3, rw', k.flat w rz⟩) hs
    · cases hf
  | _ => simp [idxD] at hf
theorem clip_sIx (n d : Nat) (v : Int) : HT.sIx n d (some v) = clipI n v := by
  show (if v < 0 then (v + (n : Int)).toNat else min v.toNat n) = clipI n v
  unfold clipI
  by_cases h : v < 0
  · rw [if_pos h, if_pos h]
    omega
  · rw [if_neg h, if_neg h]
theorem cut_sIx {α : Type} (l : List α) (lo hi : Option Int) : cutL l lo hi = (l.drop (HT.sIx l.length 0 lo)).take (HT.sIx l.length l.length hi - HT.sIx l.length 0 lo) := by
  unfold cutL
  cases lo <;> cases hi <;> simp only [clip_sIx, HT.sIx_none]
theorem RepL.cutl {μ : List Addr} {H : Hp} {xs : List V} {ds : List D} (r : RepL Y μ H xs ds) (lo hi : Option Int) : RepL Y μ H (cutV xs lo hi) (cutL ds lo hi) := by
  rw [cut_sIx]
  unfold cutV
  rw [r.length]
  exact (r.drop _).take _
def rSlD (Y : Sx) : V → Option Int → Option Int → Hp → VK → Prop := fun x lo hi H Q => ∃ (Bs : List Nat) (μ : List Addr) (S : Store) (d r : D), World Y Bs μ H S ∧ Rep Y μ H x d ∧ slD lo hi (vw S d) = some r ∧ Fin1 Y Bs μ H S r Q
theorem cutL_whole {α : Type} {l : List α} {lo hi : Option Int} (h : HT.sIx l.length 0 lo = 0 ∧ HT.sIx l.length l.length hi = l.length) : cutL l lo hi = l := by
  rw [cut_sIx, h.1, h.2]
  simp
theorem sIx_whole {α : Type} {l : List α} {lo hi : Option Int} (h : (cutL l lo hi).length = l.length) : HT.sIx l.length 0 lo = 0 ∧ HT.sIx l.length l.length hi = l.length := by
  rw [cut_sIx, List.length_take, List.length_drop] at h
  have h1 : HT.sIx l.length l.length hi ≤ l.length := by
    cases hi with
    | none => rw [HT.sIx_none]; exact Nat.le_refl _
    | some v => rw [clip_sIx]; unfold clipI; split <;> omega
  have h2 : HT.sIx l.length 0 lo ≤ l.length := by
    cases lo with
    | none => rw [HT.sIx_none]; exact Nat.zero_le _
    | some v => rw [clip_sIx]; unfold clipI; split <;> omega
  omega
theorem sl_D : SlR X (rSlD Y) := by
  intro pins s σ H x v vl vu lo hi sl Q I rx hs pl pu h
  obtain ⟨Bs, μ, S, d, r, w, rd, hf, k⟩ := h
  have vd := view_of w rd
  revert hf
  generalize vw S d = d' at vd
  intro hf
  cases vd with
  | lst h rl =>
    simp only [slD, Option.some.injEq] at hf
    subst hf
    exact sl_list pins s σ H _ v vl vu lo hi sl Q I rx hs pl pu ⟨_, _, rfl, .of h, fun p hp => k.lst w (rl.cutl lo hi) hp⟩
  | tup h n rl =>
    simp only [slD, Option.some.injEq] at hf
    subst hf
    refine sl_tupA pins s σ H _ v vl vu lo hi sl Q I rx hs pl pu ⟨_, _, rfl, .of h, fun hw => ?_, fun _ p hp => k.tup w (rl.cutl lo hi) hp⟩
    rw [rl.length] at hw
    rw [cutL_whole hw] at k
    exact k.flat w (.tup h n rl)
  | @way a o xs ds h ho n rl =>
    simp only [slD, Option.some.injEq] at hf
    subst hf
    refine sl_tupA pins s σ H _ v vl vu lo hi sl Q I rx hs pl pu ⟨_, _, rfl, .inl (.inr ⟨_, h⟩), fun hw => ?_, fun hw p hp => ?_⟩
    · rw [rl.length] at hw
      rw [if_pos (by rw [cutL_whole hw])] at k
      exact k.flat w (.way h ho n rl)
    · rw [rl.length] at hw
      rw [if_neg fun e => hw (sIx_whole e)] at k
      exact k.tup w (rl.cutl lo hi) hp
  | str l =>
    simp only [slD] at hf
    split at hf
    · rename_i c
      simp only [Option.some.injEq] at hf
      subst hf
      refine sl_str pins s σ H _ v vl vu lo hi sl Q I rx hs pl pu ⟨_, rfl, by rw [str_len]; exact lim_line c, ?_⟩
      have e : cutS ⟨l.toArray⟩ lo hi = ⟨(cutL l lo hi).toArray⟩ := by
        rw [cut_sIx]
        unfold cutS
        simp only [str_len]
      rw [e]
      exact k.flat w (.str _)
    · cases hf
  | _ => simp [slD] at hf
end
def rFb (Y : Sx) (f : FB) : List V → Hp → VK → Prop := fun xs H Q => ∃ (Bs : List Nat) (μ : List Addr) (S : Store) (ds : List D) (r : D), World Y Bs μ H S ∧ RepL Y μ H xs ds ∧ fbD f (ds.map (vw S)) = some r ∧ Fin1 Y Bs μ H S r Q
def FB.py : FB → String
  | .len => "len" | .str => "str" | .int => "int" | .tuple => "tuple" | .wtuple => "tuple" | .list => "list" | .sorted => "sorted" | .min => "min" | .max => "max" | .abs => "abs" | .sum => "sum" | .all => "all" | .lenSet => "len" | .sortedSet => "sorted"
def FB.ty : FB → Bool
  | .str => true | .int => true | .tuple => true | .wtuple => true | .list => true | _ => false
def FB.cool : FB → Bool
  | .len => true | .str => true | .int => true | .tuple => true | .list => true | .abs => true | _ => false
def FB.val (f : FB) : Value := if f.ty then .type f.py else .builtin f.py
theorem rep1 {Y : Sx} {μ : List Addr} {H : Hp} {xs : List V} {d : D} (r : RepL Y μ H xs [d]) : ∃ x, xs = [x] ∧ Rep Y μ H x d := by
  cases r with
  | cons h t => cases t; exact ⟨_, rfl, h⟩
theorem rep2 {Y : Sx} {μ : List Addr} {H : Hp} {xs : List V} {d e : D} (r : RepL Y μ H xs [d, e]) : ∃ x y, xs = [x, y] ∧ Rep Y μ H x d ∧ Rep Y μ H y e := by
  cases r with
  | cons h t =>
    obtain ⟨y, rfl, hy⟩ := rep1 t
    exact ⟨_, _, rfl, h, hy⟩
theorem repInts {Y : Sx} {μ : List Addr} {H : Hp} : ∀ {xs : List V} {ds : List D} {ns : List Int}, RepL Y μ H xs ds → intsD ds = some ns → xs = ns.map V.int
  | _, _, _, .nil, e => by simp only [intsD, Option.some.injEq] at e; subst e; rfl
  | _, _, _, .cons h t, e => by
    cases h with
    | int i =>
      simp only [intsD, Option.map_eq_some_iff] at e
      obtain ⟨l, e1, rfl⟩ := e
      rw [repInts t e1]; rfl
    | _ => simp [intsD] at e
theorem repBls {Y : Sx} {μ : List Addr} {H : Hp} : ∀ {xs : List V} {ds : List D} {ns : List Bool}, RepL Y μ H xs ds → bls ds = some ns → xs = ns.map V.bl
  | _, _, _, .nil, e => by simp only [bls, Option.some.injEq] at e; subst e; rfl
  | _, _, _, .cons h t, e => by
    cases h with
    | bl i =>
      simp only [bls, Option.map_eq_some_iff] at e
      obtain ⟨l, e1, rfl⟩ := e
      rw [repBls t e1]; rfl
    | _ => simp [bls] at e
theorem repTxts {Y : Sx} {μ : List Addr} {H : Hp} : ∀ {xs : List V} {ds : List D} {ns : List (List Nat)}, RepL Y μ H xs ds → txts ds = some ns → xs = (ns.map fun l => (⟨l.toArray⟩ : Str)).map V.str
  | _, _, _, .nil, e => by simp only [txts, Option.some.injEq] at e; subst e; rfl
  | _, _, _, .cons h t, e => by
    cases h with
    | str i =>
      simp only [txts, Option.map_eq_some_iff] at e
      obtain ⟨l, e1, rfl⟩ := e
      rw [repTxts t e1]; rfl
    | _ => simp [txts] at e
theorem strI_eq (i : Int) : (⟨(strI i).toArray⟩ : Str) = Str.ofString (toString i) := by
  rw [Str.ofString_eq_toList]
  rfl
section
variable {X : Cx} {Y : Sx}
theorem call_fb (hK : Y.ca.K = X.K) (f : FB) (hc : f.cool = true ∨ X.calm = true) (hu : X.A.units + 64 < cLine) : CallR X f.val (rFb Y f) := by
  intro pins s σ H xs us Q I r h
  obtain ⟨Bs, μ, S, ds, res, w, rl, hf, k⟩ := h
  cases f with
  | len =>
    match ds, rl, hf with
    | [d], rl, hf =>
      obtain ⟨x, rfl, rx⟩ := rep1 rl
      have vd := view_of w rx
      revert hf
      simp only [List.map_cons, List.map_nil]
      generalize vw S d = d' at vd
      intro hf
      simp only [fbD, Option.map_eq_some_iff] at hf
      obtain ⟨n, hn, rfl⟩ := hf
      cases vd with
      | str l =>
        simp only [lenD] at hn
        split at hn
        · rename_i c
          simp only [Option.some.injEq] at hn
          subst hn
          exact call_len pins s σ H _ us Q I r ⟨_, _, rfl, ⟨by rw [str_len]; exact lim_line c, (str_len l).symm⟩, k.flat w (.int _)⟩
        · cases hn
      | lst h rr =>
        simp only [lenD, Option.some.injEq] at hn
        subst hn
        exact call_len pins s σ H _ us Q I r ⟨_, _, rfl, .inl ⟨_, .of h, rr.length.symm⟩, k.flat w (.int _)⟩
      | tup h n rr =>
        simp only [lenD, Option.some.injEq] at hn
        subst hn
        exact call_len pins s σ H _ us Q I r ⟨_, _, rfl, .inr ⟨_, .of h, rr.length.symm⟩, k.flat w (.int _)⟩
      | way h ho n rr =>
        simp only [lenD, Option.some.injEq] at hn
        subst hn
        exact call_len pins s σ H _ us Q I r ⟨_, _, rfl, .inr ⟨_, .inl (.inr ⟨_, h⟩), rr.length.symm⟩, k.flat w (.int _)⟩
      | scr h =>
        simp only [lenD, Option.some.injEq] at hn
        subst hn
        exact call_len pins s σ H _ us Q I r ⟨_, _, rfl, .inl ⟨_, scr_sql hK h, by simp⟩, k.flat w (.int _)⟩
      | dicK h rr =>
        simp only [lenD, Option.some.injEq] at hn
        subst hn
        obtain ⟨u, rfl, ru⟩ := vals1 r
        cases ru
        exact d_len I (.inl h) fun t s' I' => ⟨.int _, H, I', ⟨t, by simp⟩, k.flat w (.int _)⟩
      | _ => simp [lenD] at hn
    | [], _, hf => simp [fbD] at hf
    | _ :: _ :: _, _, hf => simp [fbD] at hf
  | str =>
    match ds, rl, hf with
    | [d], rl, hf =>
      obtain ⟨x, rfl, rx⟩ := rep1 rl
      have vd := view_of w rx
      revert hf
      simp only [List.map_cons, List.map_nil]
      generalize vw S d = d' at vd
      intro hf
      cases vd with
      | int i =>
        simp only [fbD] at hf
        split at hf
        · rename_i c
          simp only [Option.some.injEq] at hf
          subst hf
          refine call_str_int pins s σ H _ us Q I r ⟨i, rfl, ?_, ?_⟩
          · exact Nat.lt_trans (PySem.Flt.log2_lt_of (by decide) c) (by decide)
          · have := k.flat w (.str (strI i))
            rw [strI_eq] at this
            exact this
        · cases hf
      | _ => simp [fbD] at hf
    | [], _, hf => simp [fbD] at hf
    | _ :: _ :: _, _, hf => simp [fbD] at hf
  | int =>
    match ds, rl, hf with
    | [d], rl, hf =>
      obtain ⟨x, rfl, rx⟩ := rep1 rl
      have vd := view_of w rx
      revert hf
      simp only [List.map_cons, List.map_nil]
      generalize vw S d = d' at vd
      intro hf
      cases vd with
      | int i =>
        simp only [fbD, Option.some.injEq] at hf
        subst hf
        exact call_int1 pins s σ H _ us Q I r (.inl ⟨_, rfl, k.flat w (.int _)⟩)
      | bl b =>
        simp only [fbD, Option.some.injEq] at hf
        subst hf
        exact call_int1 pins s σ H _ us Q I r (.inr ⟨_, rfl, k.flat w (.int _)⟩)
      | str l =>
        simp only [fbD] at hf
        split at hf
        · rename_i c
          simp only [Option.map_eq_some_iff] at hf
          obtain ⟨n, hn, rfl⟩ := hf
          exact call_int_str pins s σ H _ us Q I r ⟨_, n, rfl, hn, by rw [str_len]; exact c, k.flat w (.int _)⟩
        · cases hf
      | _ => simp [fbD] at hf
    | [], _, hf => simp [fbD] at hf
    | _ :: _ :: _, _, hf => simp [fbD] at hf
  | tuple =>
    match ds, rl, hf with
    | [d], rl, hf =>
      obtain ⟨x, rfl, rx⟩ := rep1 rl
      have vd := view_of w rx
      revert hf
      simp only [List.map_cons, List.map_nil]
      generalize vw S d = d' at vd
      intro hf
      cases vd with
      | lst h rr =>
        simp only [fbD, Option.some.injEq] at hf
        subst hf
        exact call_tuple_of pins s σ H _ us Q I r ⟨_, _, rfl, .inl ⟨.of h, fun l hl => k.tup w rr hl⟩⟩
      | tup h n rr =>
        simp only [fbD, Option.some.injEq] at hf
        subst hf
        exact call_tuple_of pins s σ H _ us Q I r ⟨_, _, rfl, .inr ⟨.of h, k.flat w (.tup h n rr)⟩⟩
      | _ => simp [fbD] at hf
    | [], _, hf => simp [fbD] at hf
    | _ :: _ :: _, _, hf => simp [fbD] at hf
  | list =>
    match ds, rl, hf with
    | [d], rl, hf =>
      obtain ⟨x, rfl, rx⟩ := rep1 rl
      have vd := view_of w rx
      revert hf
      simp only [List.map_cons, List.map_nil]
      generalize vw S d = d' at vd
      intro hf
      cases vd with
      | lst h rr =>
        simp only [fbD, Option.some.injEq] at hf
        subst hf
        exact call_list_of pins s σ H _ us Q I r ⟨_, _, rfl, .inl (.of h), fun l hl => k.lst w rr hl⟩
      | tup h n rr =>
        simp only [fbD, Option.some.injEq] at hf
        subst hf
        exact call_list_of pins s σ H _ us Q I r ⟨_, _, rfl, .inr (.of h), fun l hl => k.lst w rr hl⟩
      | way h ho n rr =>
        simp only [fbD, Option.some.injEq] at hf
        subst hf
        exact call_list_of pins s σ H _ us Q I r ⟨_, _, rfl, .inr (.inl (.inr ⟨_, h⟩)), fun l hl => k.lst w rr hl⟩
      | _ => simp [fbD] at hf
    | [], _, hf => simp [fbD] at hf
    | _ :: _ :: _, _, hf => simp [fbD] at hf
  | abs =>
    match ds, rl, hf with
    | [d], rl, hf =>
      obtain ⟨x, rfl, rx⟩ := rep1 rl
      have vd := view_of w rx
      revert hf
      simp only [List.map_cons, List.map_nil]
      generalize vw S d = d' at vd
      intro hf
      cases vd with
      | int i =>
        simp only [fbD, Option.some.injEq] at hf
        subst hf
        exact call_abs pins s σ H _ us Q I r ⟨_, rfl, k.flat w (.int _)⟩
      | _ => simp [fbD] at hf
    | [], _, hf => simp [fbD] at hf
    | _ :: _ :: _, _, hf => simp [fbD] at hf
  | sum =>
    match ds, rl, hf with
    | [d], rl, hf =>
      obtain ⟨x, rfl, rx⟩ := rep1 rl
      have vd := view_of w rx
      revert hf
      simp only [List.map_cons, List.map_nil]
      generalize vw S d = d' at vd
      intro hf
      cases vd with
      | lst h rr =>
        simp only [fbD, Option.map_eq_some_iff] at hf
        obtain ⟨ns, hn, rfl⟩ := hf
        have e := repInts rr hn
        subst e
        exact cr_sum (hc.resolve_left nofun) pins s σ H _ us Q I r ⟨_, ns, rfl, .of h, k.flat w (.int _)⟩
      | _ => simp [fbD] at hf
    | [], _, hf => simp [fbD] at hf
    | _ :: _ :: _, _, hf => simp [fbD] at hf
  | all =>
    match ds, rl, hf with
    | [d], rl, hf =>
      obtain ⟨x, rfl, rx⟩ := rep1 rl
      have vd := view_of w rx
      revert hf
      simp only [List.map_cons, List.map_nil]
      generalize vw S d = d' at vd
      intro hf
      cases vd with
      | lst h rr =>
        simp only [fbD, Option.map_eq_some_iff] at hf
        obtain ⟨ns, hn, rfl⟩ := hf
        have e := repBls rr hn
        subst e
        exact cr_all (hc.resolve_left nofun) pins s σ H _ us Q I r ⟨_, ns, rfl, .of h, k.flat w (.bl _)⟩
      | _ => simp [fbD] at hf
    | [], _, hf => simp [fbD] at hf
    | _ :: _ :: _, _, hf => simp [fbD] at hf
  | min =>
    match ds, rl, hf with
    | [d, e], rl, hf =>
      obtain ⟨x, y, rfl, rx, ry⟩ := rep2 rl
      have vd := view_of w rx
      have ve := view_of w ry
      revert hf
      simp only [List.map_cons, List.map_nil]
      generalize vw S d = d' at vd
      generalize vw S e = e' at ve
      intro hf
      cases vd with
      | int i =>
        cases ve with
        | int j =>
          simp only [fbD, Option.some.injEq] at hf
          subst hf
          exact call_min2 (hc.resolve_left nofun) pins s σ H _ us Q I r ⟨i, j, rfl, k.flat w (.int _)⟩
        | _ => simp [fbD] at hf
      | _ => simp [fbD] at hf
    | [_], _, hf => simp [fbD] at hf
    | [], _, hf => simp [fbD] at hf
    | _ :: _ :: _ :: _, _, hf => simp [fbD] at hf
  | max =>
    match ds, rl, hf with
    | [d, e], rl, hf =>
      obtain ⟨x, y, rfl, rx, ry⟩ := rep2 rl
      have vd := view_of w rx
      have ve := view_of w ry
      revert hf
      simp only [List.map_cons, List.map_nil]
      generalize vw S d = d' at vd
      generalize vw S e = e' at ve
      intro hf
      cases vd with
      | int i =>
        cases ve with
        | int j =>
          simp only [fbD, Option.some.injEq] at hf
          subst hf
          exact call_max2 (hc.resolve_left nofun) pins s σ H _ us Q I r ⟨i, j, rfl, k.flat w (.int _)⟩
        | _ => simp [fbD] at hf
      | _ => simp [fbD] at hf
    | [_], _, hf => simp [fbD] at hf
    | [], _, hf => simp [fbD] at hf
    | _ :: _ :: _ :: _, _, hf => simp [fbD] at hf
  | sorted =>
    match ds, rl, hf with
    | [d], rl, hf =>
      obtain ⟨x, rfl, rx⟩ := rep1 rl
      have vd := view_of w rx
      revert hf
      simp only [List.map_cons, List.map_nil]
      generalize vw S d = d' at vd
      intro hf
      cases vd with
      | lst h rr =>
        simp only [fbD, Option.map_eq_some_iff] at hf
        obtain ⟨es, hs, rfl⟩ := hf
        obtain ⟨hd, hl, hp, hal, hso, rfl⟩ := sortD_some hs
        obtain ⟨u, rfl, rx⟩ := vals1 r
        cases rx
        obtain ⟨its, r', pl, hz⟩ := I.list (.of h)
        have ea := each_of r' rr
        have hlen := ea.length
        refine PySem.W.sorted_data (enc := encD) (pl.isList) ea ?_ hal hso (by have := lim_line hl; omega) ?_ ?_
        · refine PySem.W.EachIs.of_zip hlen fun p hm => ?_
          obtain ⟨y, ry, rp⟩ := ea.zip p hm
          have hq := hp _ (List.of_mem_zip hm).2
          have vv := view_of w rp
          have e2 : vw S p.2 = p.2 := by
            cases hc : p.2 with
            | ref i => rw [hc] at hq; simp [D.pd] at hq
            | _ => rfl
          rw [e2] at vv
          exact Rep.reads I vv hq ry
        · intro b hb
          obtain ⟨p, e1, _, d1⟩ := dat_pd dp b (dat_of_mem hd hb)
          have : encD b = p := by unfold encD; rw [e1]; rfl
          rw [this]
          unfold dp at d1
          omega
        · intro out ho he
          obtain ⟨ys', r1, r2⟩ := of_each he
          obtain ⟨c, hc⟩ := sortedAll_at s.heap its out.toArray
          have hz' : ys'.length ≤ sizeLine := by
            have := r1.length
            have := lim_line hl
            omega
          exact ⟨.ref (s.heap.objs.size + 1), _, I.laid (t' := s.toks) (fun b o => sortedAll_old) (Nat.le_succ _) (show ObjOk X.prog X.w _ _ _ (.lst ys') from ⟨hz', out, c, r1, hc⟩), rfl, k.lst w r2 (I.hok.fresh (Nat.le_succ _))⟩
      | _ => simp [fbD] at hf
    | [], _, hf => simp [fbD] at hf
    | _ :: _ :: _, _, hf => simp [fbD] at hf
  | wtuple =>
    match ds, rl, hf with
    | [d], rl, hf =>
      obtain ⟨x, rfl, rx⟩ := rep1 rl
      have vd := view_of w rx
      revert hf
      simp only [List.map_cons, List.map_nil]
      generalize vw S d = d' at vd
      intro hf
      cases vd with
      | lst h rr =>
        simp only [fbD, Option.some.injEq] at hf
        subst hf
        obtain ⟨u, rfl, rx⟩ := vals1 r
        cases rx
        obtain ⟨its, r', pl, hz⟩ := I.list (.of h)
        have hlen := r'.length
        refine call_tuple_list pl.isList (fun h' kp => ?_) (by simp only [List.size_toArray] <;> omega)
        have I1 : Inv X pins σ H { s with heap := h' } := I.kept (t' := s.toks) kp
        have I2 : Inv X pins σ (upd H h'.objs.size (.frz { cls := .type "tuple", data := .seq its.toArray } (.tup _))) { s with heap := h'.push { cls := .type "tuple", data := .seq its.toArray } } :=
          I1.laid (t' := s.toks) (fun b o e => Heap.get?_push_of_some _ e) (Nat.le_refl _) (show ObjOk X.prog X.w _ _ _ (.frz _ (.tup _)) from ⟨Heap.get?_push_size _ rfl, hz, its, r', IsTup.new _ _⟩)
        have hp := I1.hok.fresh (Nat.le_refl _)
        exact ⟨.ref h'.objs.size, _, I2, rfl, k μ _ _ (.laid hp) (w.laid hp) (.way upd_same rfl (w.fresh hp) (rr.ext (.laid hp)))⟩
      | _ => simp [fbD] at hf
    | [], _, hf => simp [fbD] at hf
    | _ :: _ :: _, _, hf => simp [fbD] at hf
  | _ => simp [fbD] at hf
end
end CL
namespace CL
open PySem PySem.Spec PyProof.Rows L2
def tyOf : Nat → String
  | 1 => "str" | 2 => "list" | 3 => "tuple" | _ => ""
def MB.py : MB → String
  | .join => "join" | .split => "split" | .partition => "partition" | .startswith => "startswith" | .index => "index" | .count => "count" | .append => "append" | .pop => "pop" | .popAt => "pop" | .insert => "insert" | .reverse => "reverse" | .extend => "extend" | .remove => "remove" | .clear => "clear" | .get => "get"
theorem mb_facts {m : MB} {k : Nat} {id : String} (h : mbId m k = some id) : PlainAttrs (tyOf k) ∧ Slot (tyOf k) (nm m.py) id ∧ typeOf (.builtin id) = pure (.type "method_descriptor") := by
  unfold mbId at h
  split at h <;> first
    | (obtain rfl := Option.some.inj h; first
        | exact ⟨PySem.F.plainAttrs_str, PySem.F.slot_str_join, PySem.F.type_str_join⟩
        | exact ⟨PySem.F.plainAttrs_str, PySem.F.slot_str_split, PySem.F.type_str_split⟩
        | exact ⟨PySem.F.plainAttrs_str, PySem.F.slot_str_partition, PySem.F.type_str_partition⟩
        | exact ⟨PySem.F.plainAttrs_str, PySem.F.slot_str_startswith, PySem.F.type_str_startswith⟩
        | exact ⟨PySem.F.plainAttrs_list, PySem.F.slot_list_index, PySem.F.type_list_index⟩
        | exact ⟨PySem.F.plainAttrs_tuple, PySem.F.slot_tuple_index, PySem.F.type_tuple_index⟩
        | exact ⟨PySem.F.plainAttrs_list, PySem.F.slot_list_count, PySem.F.type_list_count⟩
        | exact ⟨PySem.F.plainAttrs_list, PySem.F.slot_list_append, PySem.F.type_list_append⟩
        | exact ⟨PySem.F.plainAttrs_list, PySem.F.slot_list_extend, PySem.F.type_list_extend⟩
        | exact ⟨PySem.F.plainAttrs_list, PySem.F.slot_list_pop, PySem.F.type_list_pop⟩
        | exact ⟨PySem.F.plainAttrs_list, PySem.F.slot_list_insert, PySem.F.type_list_insert⟩
        | exact ⟨PySem.F.plainAttrs_list, PySem.F.slot_list_reverse, PySem.F.type_list_reverse⟩
        | exact ⟨PySem.F.plainAttrs_list, PySem.F.slot_list_clear, PySem.F.type_list_clear⟩
        | exact ⟨PySem.F.plainAttrs_list, PySem.F.slot_list_remove, PySem.F.type_list_remove⟩)
    | cases h
theorem place_pd (x : D) (p : PyData) (ex : x.pd = some p) : ∀ (ds : List D) (ps : List PyData) (n : Nat), D.pdL ds = some ps → placeD x ds = some n → PySem.SeqAt.dataPlace ps p = some n
  | [], ps, n, h, e => by simp [placeD] at e
  | d :: ds, ps, n, h, e => by
    obtain ⟨q, qs, rfl, e1, e2⟩ : ∃ q qs, ps = q :: qs ∧ d.pd = some q ∧ D.pdL ds = some qs := by
      simp only [D.pdL] at h
      split at h
      · rename_i a b e1 e2
        simp only [Option.some.injEq] at h; exact ⟨_, _, h.symm, e1, e2⟩
      · cases h
    unfold PySem.SeqAt.dataPlace
    rw [List.findIdx?_cons, eqv_pd d x q p e1 ex]
    simp only [placeD] at e
    cases hq : D.eqv d x with
    | true =>
      rw [hq] at e
      simp only [if_true, Option.some.injEq] at e
      subst e
      simp
    | false =>
      rw [hq] at e
      simp only [Bool.false_eq_true, if_false, Option.map_eq_some_iff] at e
      obtain ⟨m, em, rfl⟩ := e
      have ih := place_pd x p ex ds qs m e2 em
      unfold PySem.SeqAt.dataPlace at ih
      simp [ih]
theorem count_pd (x : D) (p : PyData) (ex : x.pd = some p) : ∀ (ds : List D) (ps : List PyData), D.pdL ds = some ps → (ps.countP fun y => PyData.eqv y p) = ds.countP fun y => D.eqv y x
  | [], ps, h => by simp only [D.pdL, Option.some.injEq] at h; subst h; rfl
  | d :: ds, ps, h => by
    simp only [D.pdL] at h
    split at h
    · rename_i a b e1 e2
      simp only [Option.some.injEq] at h
      subst h
      rw [List.countP_cons, List.countP_cons, eqv_pd d x a p e1 ex, count_pd x p ex ds b e2]
    · cases h
theorem place_lt (x : D) : ∀ (ds : List D) (n : Nat), placeD x ds = some n → n < ds.length
  | [], n, e => by simp [placeD] at e
  | d :: ds, n, e => by
    simp only [placeD] at e
    split at e
    · simp only [Option.some.injEq] at e; subst e; simp
    · simp only [Option.map_eq_some_iff] at e
      obtain ⟨m, em, rfl⟩ := e
      have := place_lt x ds m em
      simp; omega
theorem tD_rep {Y : Sx} {μ : List Addr} {H : Hp} (x : Str) : Rep Y μ H (.str x) (tD x) := by
  have := Rep.str (Y := Y) (μ := μ) (H := H) x.cps.toList
  exact this
theorem tDs_rep {Y : Sx} {μ : List Addr} {H : Hp} : ∀ xs : List Str, RepL Y μ H (xs.map V.str) (xs.map tD)
  | [] => .nil
  | x :: xs => .cons (tD_rep x) (tDs_rep xs)
theorem limL_of {n : Nat} {ds es xs : List D} (h : ∀ d ∈ es, d ∈ ds ∨ d ∈ xs) (h1 : D.limL n ds = true) (h2 : D.limL n xs = true) : D.limL n es = true := by
  rw [D.limL_all, List.all_eq_true] at *
  intro d hd
  rcases h d hd with q | q
  · exact h1 d q
  · exact h2 d q
theorem mem_eraseIdx {α : Type} {l : List α} {i : Nat} {x : α} (h : x ∈ l.eraseIdx i) : x ∈ l := List.mem_of_mem_eraseIdx h
section
variable {X : Cx} {Y : Sx}
variable {pins : List (Addr × Obj)} {s : Shared} {σ : L2.St} {H : Hp} {v : Value} {us : List Value} {Q : VK} {W : WX} {x : V} {xs : List V} {μ : List Addr} {Bs : List Nat} {S : Store} {a : D} {ds : List D} {m : MB} {b : Nat} {id : String}
theorem mb_D (hu : X.A.units + 64 < cLine) (hid : mbId m (kindD (vw S a)) = some id) (I : Inv X pins σ H s) (rx : RelV x v) (rv : Vals xs us) (w : World Y Bs μ H S) (ra : Rep Y μ H x a) (rl : RepL Y μ H xs ds)
    {r : D} (hf : mbD m (vw S a) (ds.map (vw S)) = some r) (k : Fin1 Y Bs μ H S r Q) : wpAny (model X.prog X.w) X.A (call (.builtin id) (v :: us)) (EP X pins σ Q) X.xe s := by
  have va := view_of w ra
  revert hf hid
  generalize vw S a = a' at va
  intro hid hf
  cases m with
  | join =>
    cases a' with
    | str sep =>
      cases va
      match ds, rl, hf with
      | [d], rl, hf =>
        obtain ⟨y, rfl, ry⟩ := rep1 rl
        have vd := view_of w ry
        revert hf
        simp only [List.map_cons, List.map_nil]
        generalize vw S d = d' at vd
        intro hf
        cases vd with
        | lst h rr =>
          simp only [mbD] at hf
          split at hf
          · rename_i ls hl
            split at hf
            · rename_i c
              simp only [Option.some.injEq] at hf
              subst hf
              have e := repTxts rr hl
              subst e
              obtain rfl := (Option.some.inj hid).symm
              refine mt_join pins s σ H _ _ v us Q I rx rv ⟨_, _, ls.map sT, rfl, rfl, .inl (.of h), ?_, k.flat w (tD_rep _)⟩
              rw [List.map_map, List.length_map, str_len]
              have : (Str.length ∘ sT) = (List.length : List Nat → Nat) := by
                funext l; exact str_len l
              have e2 : (ls.map (fun x => Str.length (sT x))) = ls.map List.length := by
                refine List.map_congr_left fun l _ => str_len l
              show ((ls.map (fun x => Str.length (sT x))).sum + _ ≤ _)
              rw [e2]
              unfold LIM at c; omega
            · cases hf
          · cases hf
        | _ => simp [mbD] at hf
      | [], _, hf => simp [mbD] at hf
      | _ :: _ :: _, _, hf => simp [mbD] at hf
    | _ => simp [mbD] at hf
  | split =>
    cases a' with
    | str l =>
      cases va
      match ds, rl, hf with
      | [d], rl, hf =>
        obtain ⟨y, rfl, ry⟩ := rep1 rl
        have vd := view_of w ry
        revert hf
        simp only [List.map_cons, List.map_nil]
        generalize vw S d = d' at vd
        intro hf
        cases vd with
        | str z =>
          match z, hf with
          | [c], hf =>
            simp only [mbD] at hf
            split at hf
            · rename_i q
              simp only [Option.some.injEq] at hf
              subst hf
              obtain rfl := (Option.some.inj hid).symm
              refine mt_split pins s σ H _ _ v us Q I rx rv ⟨_, _, rfl, rfl, rfl, ?_, fun p hp => k.lst w (tDs_rep _) hp⟩
              rw [str_len, sizeLine_eq]; unfold LIM at q; omega
            · cases hf
          | [], hf => simp [mbD] at hf
          | _ :: _ :: _, hf => simp [mbD] at hf
        | _ => simp [mbD] at hf
      | [], _, hf => simp [mbD] at hf
      | _ :: _ :: _, _, hf => simp [mbD] at hf
    | _ => simp [mbD] at hf
  | partition =>
    cases a' with
    | str l =>
      cases va
      match ds, rl, hf with
      | [d], rl, hf =>
        obtain ⟨y, rfl, ry⟩ := rep1 rl
        have vd := view_of w ry
        revert hf
        simp only [List.map_cons, List.map_nil]
        generalize vw S d = d' at vd
        intro hf
        cases vd with
        | str z =>
          match z, hf with
          | [c], hf =>
            simp only [mbD] at hf
            split at hf
            · rename_i q
              simp only [Option.some.injEq] at hf
              subst hf
              obtain rfl := (Option.some.inj hid).symm
              exact mt_partition pins s σ H _ _ v us Q I rx rv ⟨_, _, rfl, rfl, rfl, by rw [str_len]; exact lim_line q, fun p hp => k.tup w (.cons (tD_rep _) (.cons (tD_rep _) (.cons (tD_rep _) .nil))) hp⟩
            · cases hf
          | [], hf => simp [mbD] at hf
          | _ :: _ :: _, hf => simp [mbD] at hf
        | _ => simp [mbD] at hf
      | [], _, hf => simp [mbD] at hf
      | _ :: _ :: _, _, hf => simp [mbD] at hf
    | _ => simp [mbD] at hf
  | startswith =>
    cases a' with
    | str l =>
      cases va
      match ds, rl, hf with
      | [d], rl, hf =>
        obtain ⟨y, rfl, ry⟩ := rep1 rl
        have vd := view_of w ry
        revert hf
        simp only [List.map_cons, List.map_nil]
        generalize vw S d = d' at vd
        intro hf
        cases vd with
        | str z =>
          simp only [mbD, Option.some.injEq] at hf
          subst hf
          obtain rfl := (Option.some.inj hid).symm
          exact mt_startswith pins s σ H _ _ v us Q I rx rv ⟨_, _, rfl, rfl, k.flat w (.bl _)⟩
        | _ => simp [mbD] at hf
      | [], _, hf => simp [mbD] at hf
      | _ :: _ :: _, _, hf => simp [mbD] at hf
    | _ => simp [mbD] at hf
  | index =>
    match ds, rl, hf with
    | [d], rl, hf =>
      obtain ⟨y, rfl, ry⟩ := rep1 rl
      have vd := view_of w ry
      revert hf
      simp only [List.map_cons, List.map_nil]
      generalize vw S d = d' at vd
      intro hf
      obtain ⟨u, rfl, ru⟩ := rv.one
      cases a' with
      | lst zs =>
        simp only [mbD] at hf
        split at hf
        · rename_i c
          rw [Bool.and_eq_true] at c
          obtain ⟨p, e1, l1, d1⟩ := dat_pd dp d' c.1
          obtain ⟨ps, e2, l2, d2⟩ := datL_pd dp zs c.2
          simp only [Option.map_eq_some_iff] at hf
          obtain ⟨n, hn, rfl⟩ := hf
          obtain rfl := (Option.some.inj hid).symm
          obtain ⟨bs, r1⟩ := Rep.reads I vd e1 ru
          cases va with
          | lst h rr =>
            cases rx
            obtain ⟨its, rv', ⟨⟨cls, dd, data, sls⟩, n0, ho, hc, hdn, hdt⟩, hlen⟩ := I.list (.of h)
            simp only at hc hdt
            subst hc hdt
            obtain ⟨as, h4⟩ := Dp.readsAll I ps _ its (rr.dp (K := X.K) e2) rv'
            obtain ⟨hj, hit, hno⟩ := PySem.SeqAt.hit_at (vs := its.toArray) (d := p) (show ReadsAll s.heap its.toArray.toList ps as from h4) l2 (place_pd d' p e1 zs ps n e2 hn)
            have hlt := place_lt d' zs n hn
            have hsl := sizeLine_eq
            have := rr.length
            have := rv'.length
            refine call_meets PySem.F.slot_list_index ⟨_, ho, rfl⟩ PySem.F.entry_list_index (PySem.F.args_list_index_2 _ _)
              (PySem.SeqAt.list_indexAt _ its.toArray n0 dd sls u (fun z => PyData.eqv (PySem.SeqAt.readOf s.heap z) p) n hj (by omega) hit hno)
              ⟨ho, PySem.SeqAt.items_plain (vs := its.toArray) (show ReadsAll s.heap its.toArray.toList ps as from h4) r1 l2 l1 (by unfold dp at d2; omega), ?_⟩
            exact ⟨.int n, H, I.tok _, ⟨_, rfl⟩, k.flat w (.int _)⟩
        · cases hf
      | way zs =>
        simp only [mbD] at hf
        split at hf
        · rename_i c
          rw [Bool.and_eq_true] at c
          obtain ⟨p, e1, l1, d1⟩ := dat_pd dp d' c.1
          obtain ⟨ps, e2, l2, d2⟩ := datL_pd dp zs c.2
          simp only [Option.map_eq_some_iff] at hf
          obtain ⟨n, hn, rfl⟩ := hf
          obtain rfl := (Option.some.inj hid).symm
          obtain ⟨bs, r1⟩ := Rep.reads I vd e1 ru
          cases va with
          | way h ho' nm' rr =>
            cases rx
            obtain ⟨its, rv', ⟨⟨cls, dd, data, sls⟩, ho, hc, n0, hdt⟩, hlen⟩ := I.tuple (.inl (.inr ⟨_, h⟩))
            simp only at hc hdt
            subst hc hdt
            obtain ⟨as, h4⟩ := Dp.readsAll I ps _ its (rr.dp (K := X.K) e2) rv'
            obtain ⟨hj, hit, hno⟩ := PySem.SeqAt.hit_at (vs := its.toArray) (d := p) (show ReadsAll s.heap its.toArray.toList ps as from h4) l2 (place_pd d' p e1 zs ps n e2 hn)
            refine call_meets PySem.F.slot_tuple_index ⟨_, ho, rfl⟩ PySem.F.entry_tuple_index (PySem.F.args_tuple_index_2 _ _)
              (TI.tuple_indexAt _ its.toArray n0 dd sls u (fun z => PyData.eqv (PySem.SeqAt.readOf s.heap z) p) n hj hit hno)
              ⟨ho, PySem.SeqAt.items_plain (vs := its.toArray) (show ReadsAll s.heap its.toArray.toList ps as from h4) r1 l2 l1 (by unfold dp at d2; omega), ?_⟩
            exact ⟨.int n, H, I.tok _, ⟨_, rfl⟩, k.flat w (.int _)⟩
        · cases hf
      | _ => simp [mbD] at hf
    | [], _, hf => cases a' <;> simp [mbD] at hf
    | _ :: _ :: _, _, hf => cases a' <;> simp [mbD] at hf
  | count =>
    match ds, rl, hf with
    | [d], rl, hf =>
      obtain ⟨y, rfl, ry⟩ := rep1 rl
      have vd := view_of w ry
      revert hf
      simp only [List.map_cons, List.map_nil]
      generalize vw S d = d' at vd
      intro hf
      obtain ⟨u, rfl, ru⟩ := rv.one
      cases a' with
      | lst zs =>
        simp only [mbD] at hf
        split at hf
        · rename_i c
          rw [Bool.and_eq_true] at c
          obtain ⟨p, e1, l1, d1⟩ := dat_pd dp d' c.1
          obtain ⟨ps, e2, l2, d2⟩ := datL_pd dp zs c.2
          simp only [Option.some.injEq] at hf
          subst hf
          obtain rfl := (Option.some.inj hid).symm
          obtain ⟨bs, r1⟩ := Rep.reads I vd e1 ru
          cases va with
          | lst h rr =>
            cases rx
            obtain ⟨its, rv', pl, hlen⟩ := I.list (.of h)
            obtain ⟨as, h4⟩ := Dp.readsAll I ps _ its (rr.dp (K := X.K) e2) rv'
            refine PySem.SeqAt.count_list_data (vs := its.toArray) pl.isList (show ReadsAll s.heap its.toArray.toList ps as from h4) r1 l2 l1 (by unfold dp at d2; omega) ?_
            rw [count_pd d' p e1 zs ps e2]
            exact ⟨.int _, H, I.tok _, ⟨_, rfl⟩, k.flat w (.int _)⟩
        · cases hf
      | _ => simp [mbD] at hf
    | [], _, hf => cases a' <;> simp [mbD] at hf
    | _ :: _ :: _, _, hf => cases a' <;> simp [mbD] at hf
  | _ => simp [mbD] at hf
theorem ok_of_KR {α β : Type} {rel : List Addr → Hp → β → α → Prop} {Q : β → Hp → Prop} {r : α} {S' : Store} (k : KR Y Bs rel μ H σ Q W (.ok r S')) : ∀ (μ' : List Addr) (H' : Hp) (b : β), Ext μ H μ' H' → World Y Bs μ' H' S' → rel μ' H' b r → Q b H' := k
theorem wr_cell {i : Nat} {p : Addr} {r : D} {r' : V} {es : List D} {ys : List V} (k : KR Y Bs (Rep Y) μ H σ Q W (.ok r (S.set i (.lst es)))) (w : World Y Bs μ H S) (hx : μ[i]? = some p) (rl : RepL Y μ H ys es) (rr : Rep Y μ H r' r)
    (hl : ∀ b ∈ Bs, i < b → D.limL b es = true) : Q r' (upd H p (.lst ys)) := by
  have e : Ext μ H μ (upd H p (.lst ys)) := .wrote (List.mem_of_getElem? hx)
  exact k μ _ r' e (w.wrote hx (.lst upd_same (rl.ext e)) hl) (rr.ext e)
theorem atD_place {α : Type} {l : List α} {i : Int} {d : α} (h : atD l i = some d) : seqIndex? i l.length = some (if 0 ≤ i then i.toNat else (i + l.length).toNat) ∧ l[(if 0 ≤ i then i.toNat else (i + l.length).toNat)]? = some d ∧ -(l.length : Int) ≤ i ∧ i < l.length := by
  unfold atD at h
  unfold seqIndex?
  by_cases h0 : 0 ≤ i
  · rw [if_pos h0] at h
    have hl := (List.getElem?_eq_some_iff.mp h).1
    have h1 : ¬ i < 0 := by omega
    simp only [h0, h1, if_true, if_false]
    refine ⟨?_, h, by omega, by omega⟩
    rw [if_pos]
    simp; omega
  · rw [if_neg h0] at h
    split at h
    · rename_i c
      have hl := (List.getElem?_eq_some_iff.mp h).1
      have h1 : i < 0 := by omega
      simp only [h0, h1, if_true, if_false]
      refine ⟨?_, h, by omega, by omega⟩
      rw [if_pos]
      simp; omega
    · cases h
theorem mc_D (hu : X.A.units + 64 < cLine) {i : Nat} {zs : List D} {r : D} {es : List D} (hid : mbId m 2 = some id) (hb : ∀ c ∈ Bs, c ≤ b) (I : Inv X pins σ H s) (rx : RelV x v) (rv : Vals xs us) (w : World Y Bs μ H S) (ra : Rep Y μ H x (.ref i)) (rl : RepL Y μ H xs ds)
    (hc : S[i]? = some (.lst zs)) (hf : mcD m zs ds (ds.map (vw S)) = some (r, es)) (hl : D.limL 0 ds = true ∨ b ≤ i) (k : KR Y Bs (Rep Y) μ H σ Q W (.ok r (S.set i (.lst es)))) : wpAny (model X.prog X.w) X.A (call (.builtin id) (v :: us)) (EP X pins σ Q) X.xe s := by
  obtain ⟨p, rfl, hx⟩ : ∃ p, x = .ref p ∧ μ[i]? = some p := by
    cases ra with
    | ref h => exact ⟨_, rfl, h⟩
  have co := w.cells i p _ hx hc
  obtain ⟨ys, hy, ry⟩ : ∃ ys, H p = some (.lst ys) ∧ RepL Y μ H ys zs := by
    cases co with
    | lst h r => exact ⟨_, h, r⟩
  have hlim : ∀ c ∈ Bs, i < c → D.limL c zs = true := fun c hc' hlt => w.lims i _ hc c hc' hlt
  have hlim2 : ∀ c ∈ Bs, i < c → D.limL c ds = true := fun c hc' hlt => by
    rcases hl with q | q
    · exact D.limL_mono (Nat.zero_le _) _ q
    · have := hb c hc'; omega
  have hlen := ry.length
  cases m with
  | append =>
    match ds, rl, hf with
    | [d], rl, hf =>
      obtain ⟨y, rfl, ryy⟩ := rep1 rl
      simp only [mcD] at hf
      split at hf
      · rename_i c
        simp only [Option.some.injEq, Prod.mk.injEq] at hf
        obtain ⟨rfl, rfl⟩ := hf
        obtain rfl := (Option.some.inj hid).symm
        refine mt_append pins s σ H _ _ v us Q I rx rv ⟨p, ys, y, rfl, rfl, hy, by rw [hlen, sizeLine_eq]; unfold LIM at c; omega, ?_⟩
        exact wr_cell k w hx (ry.append (.cons ryy .nil)) .non fun c hc' hlt => limL_of (fun d hd => List.mem_append.mp hd) (hlim c hc' hlt) (hlim2 c hc' hlt)
      · cases hf
    | [], _, hf => simp [mcD] at hf
    | _ :: _ :: _, _, hf => simp [mcD] at hf
  | extend =>
    match ds, rl, hf, hlim2, hl with
    | [d], rl, hf, hlim2, hl =>
      obtain ⟨y, rfl, ryy⟩ := rep1 rl
      have vd := view_of w ryy
      cases hv : vw S d with
      | lst qs =>
        rw [hv] at vd
        simp only [List.map_cons, List.map_nil, hv, mcD] at hf
        split at hf
        · rename_i c
          simp only [Option.some.injEq, Prod.mk.injEq] at hf
          obtain ⟨rfl, rfl⟩ := hf
          obtain rfl := (Option.some.inj hid).symm
          cases vd with
          | lst h rq =>
            refine mt_extend pins s σ H _ _ v us Q I rx rv ⟨p, _, ys, _, rfl, rfl, hy, h, by rw [hlen, rq.length, sizeLine_eq]; unfold LIM at c; omega, ?_⟩
            refine wr_cell k w hx (ry.append rq) .non fun c hc' hlt => limL_of (fun d hd => List.mem_append.mp hd) (hlim c hc' hlt) ?_
            rcases hl with q | q
            · have : d = .lst qs := by
                cases d with
                | ref j => simp [D.limL, D.lim] at q
                | _ => exact hv
              subst this
              have : D.limL 0 qs = true := by simpa [D.limL, D.lim] using q
              exact D.limL_mono (Nat.zero_le _) _ this
            · have := hb c hc'; omega
        · cases hf
      | _ => simp [hv, mcD] at hf
    | [], _, hf, _, _ => simp [mcD] at hf
    | _ :: _ :: _, _, hf, _, _ => simp [mcD] at hf
  | pop =>
    match ds, rl, hf with
    | [], rl, hf =>
      cases rl
      simp only [mcD, Option.map_eq_some_iff] at hf
      obtain ⟨d, hd, e⟩ := hf
      simp only [Prod.mk.injEq] at e
      obtain ⟨rfl, rfl⟩ := e
      obtain rfl := (Option.some.inj hid).symm
      obtain ⟨y, h1, h2⟩ := ry.get hd
      refine mt_pop pins s σ H _ _ v us Q I rx rv ⟨p, ys, y, rfl, rfl, hy, by rw [hlen]; exact h1, ?_⟩
      have rdl : RepL Y μ H ys.dropLast zs.dropLast := by
        rw [List.dropLast_eq_take, List.dropLast_eq_take, hlen]; exact ry.take _
      exact wr_cell k w hx rdl h2 fun c hc' hlt => limL_of (xs := []) (fun d hd => .inl (List.dropLast_subset _ hd)) (hlim c hc' hlt) rfl
    | [_], _, hf => simp [mcD] at hf
    | _ :: _ :: _, _, hf => simp [mcD] at hf
  | popAt =>
    match ds, rl, hf with
    | [.int j], rl, hf =>
      obtain ⟨y, rfl, ryy⟩ := rep1 rl
      cases ryy
      simp only [mcD] at hf
      split at hf
      · rename_i c
        simp only [remAt] at hf
        split at hf
        · rename_i d hd
          simp only [Option.some.injEq, Prod.mk.injEq] at hf
          obtain ⟨rfl, rfl⟩ := hf
          obtain rfl := (Option.some.inj hid).symm
          obtain ⟨a1, a2, a3, a4⟩ := atD_place hd
          obtain ⟨y, h1, h2⟩ := ry.get a2
          unfold LIM at c
          refine mt_popAt pins s σ H _ _ v us Q I rx rv ⟨p, ys, j, _, y, rfl, rfl, hy, by omega, by omega, by rw [hlen]; exact a1, h1, ?_⟩
          exact wr_cell k w hx (ry.eraseIdx _) h2 fun c hc' hlt => limL_of (xs := []) (fun d hd => .inl (mem_eraseIdx hd)) (hlim c hc' hlt) rfl
        · cases hf
      · cases hf
    | [], _, hf => simp [mcD] at hf
    | _ :: _ :: _, _, hf => simp [mcD] at hf
  | insert =>
    match ds, rl, hf, hlim2 with
    | [.int j, d], rl, hf, hlim2 =>
      obtain ⟨z, y, rfl, rz, ryy⟩ := rep2 rl
      cases rz
      simp only [mcD] at hf
      split at hf
      · rename_i c
        simp only [Option.some.injEq, Prod.mk.injEq] at hf
        obtain ⟨rfl, rfl⟩ := hf
        obtain rfl := (Option.some.inj hid).symm
        refine L2.mt_insert pins s σ H _ _ v us Q I rx rv ⟨p, ys, j, y, rfl, rfl, hy, by rw [hlen, sizeLine_eq]; unfold LIM at c; omega, c.2.1, c.2.2, ?_⟩
        refine wr_cell k w hx (((ry.take _).append (.cons ryy .nil)).append (ry.drop _)) .non fun c hc' hlt => limL_of (xs := [d]) (fun d' hd => ?_) (hlim c hc' hlt) ?_
        · rcases List.mem_append.mp hd with q | q
          · rcases List.mem_append.mp q with q | q
            · exact .inl (List.mem_of_mem_take q)
            · exact .inr q
          · exact .inl (List.mem_of_mem_drop q)
        · have := hlim2 c hc' hlt
          simpa [D.limL, D.lim] using this
      · cases hf
    | [], _, hf, _ => simp [mcD] at hf
    | [_], _, hf, _ => simp [mcD] at hf
    | _ :: _ :: _ :: _, _, hf, _ => simp [mcD] at hf
  | reverse =>
    match ds, rl, hf with
    | [], rl, hf =>
      cases rl
      simp only [mcD, Option.some.injEq, Prod.mk.injEq] at hf
      obtain ⟨rfl, rfl⟩ := hf
      obtain rfl := (Option.some.inj hid).symm
      refine mt_reverse pins s σ H _ _ v us Q I rx rv ⟨p, ys, rfl, rfl, hy, ?_⟩
      exact wr_cell k w hx ry.reverse .non fun c hc' hlt => limL_of (xs := []) (fun d hd => .inl (List.mem_reverse.mp hd)) (hlim c hc' hlt) rfl
    | [_], _, hf => simp [mcD] at hf
    | _ :: _ :: _, _, hf => simp [mcD] at hf
  | clear =>
    match ds, rl, hf with
    | [], rl, hf =>
      cases rl
      simp only [mcD, Option.some.injEq, Prod.mk.injEq] at hf
      obtain ⟨rfl, rfl⟩ := hf
      obtain rfl := (Option.some.inj hid).symm
      refine mt_clear pins s σ H _ _ v us Q I rx rv ⟨p, ys, rfl, rfl, hy, ?_⟩
      exact wr_cell k w hx .nil .non fun c hc' hlt => rfl
    | [_], _, hf => simp [mcD] at hf
    | _ :: _ :: _, _, hf => simp [mcD] at hf
  | remove =>
    match ds, rl, hf with
    | [d], rl, hf =>
      obtain ⟨y, rfl, ryy⟩ := rep1 rl
      have vd := view_of w ryy
      revert hf
      simp only [List.map_cons, List.map_nil]
      generalize vw S d = d' at vd
      intro hf
      simp only [mcD] at hf
      split at hf
      · rename_i c
        rw [Bool.and_eq_true] at c
        obtain ⟨q, e1, l1, d1⟩ := dat_pd dp d' c.1
        obtain ⟨ps, e2, l2, d2⟩ := datL_pd dp zs c.2
        simp only [Option.map_eq_some_iff, Prod.mk.injEq] at hf
        obtain ⟨n, hn, rfl, rfl⟩ := hf
        obtain rfl := (Option.some.inj hid).symm
        obtain ⟨u, rfl, ru⟩ := rv.one
        obtain ⟨bs, r1⟩ := Rep.reads I vd e1 ru
        cases rx
        obtain ⟨z, its, n0, rv', hl', e⟩ := I.lstM hy
        obtain ⟨as, h4⟩ := Dp.readsAll I ps _ its (ry.dp (K := X.K) e2) rv'
        refine PySem.SeqAt.remove_list_data (vs := its.toArray) (PySem.IsL.isList e) (show ReadsAll s.heap its.toArray.toList ps as from h4) r1 l2 l1 (by unfold dp at d2; omega) (place_pd d' q e1 zs ps n e2 hn) (by rw [List.size_toArray, ← hl']; exact z) ?_
        refine ⟨.non, _, I.lset (its' := its.eraseIdx n) (t' := s.toks) hy e ?_ (rv'.eraseIdx n) ?_, rfl, ?_⟩
        · show its.toArray.eraseIdxIfInBounds n = (its.eraseIdx n).toArray
          rw [List.eraseIdxIfInBounds_toArray]
        · have := len_erase ys n
          omega
        · exact wr_cell k w hx (ry.eraseIdx _) .non fun c hc' hlt => limL_of (xs := []) (fun d hd => .inl (mem_eraseIdx hd)) (hlim c hc' hlt) rfl
      · cases hf
    | [], _, hf => simp [mcD] at hf
    | _ :: _ :: _, _, hf => simp [mcD] at hf
  | _ => simp [mcD] at hf
theorem bm_D (hu : X.A.units + 64 < cLine) (hid : mbId m (kindD (vw S a)) = some id) (hb : ∀ c ∈ Bs, c ≤ b) (I : Inv X pins σ H s) (rx : RelV x v) (rv : Vals xs us) (w : World Y Bs μ H S) (ra : Rep Y μ H x a) (rl : RepL Y μ H xs ds)
    (k : KR Y Bs (Rep Y) μ H σ Q W (bmD m a ds b S)) : wpAny (model X.prog X.w) X.A (call (.builtin id) (v :: us)) (EP X pins σ Q) X.xe s := by
  unfold bmD at k
  split at k
  · cases a with
    | ref i =>
      simp only at k
      cases hc : S[i]? with
      | none => rw [hc] at k; exact k.elim
      | some c =>
        rw [hc] at k
        cases c with
        | lst zs =>
          simp only at k
          have e2 : kindD (vw S (.ref i)) = 2 := by simp [vw, hc, kindD]
          rw [e2] at hid
          cases hm : mcD m zs ds (ds.map (vw S)) with
          | none => rw [hm] at k; exact k.elim
          | some q =>
            obtain ⟨r, es⟩ := q
            rw [hm] at k
            simp only at k
            split at k
            · rename_i hl
              rw [Bool.or_eq_true, decide_eq_true_eq] at hl
              exact mc_D hu hid hb I rx rv w ra rl hc hm hl k
            · exact k.elim
        | _ => exact k.elim
    | _ => exact k.elim
  · obtain ⟨r, hf, k⟩ := k.of
    exact mb_D hu hid I rx rv w ra rl hf k
end
end CL
namespace CL
open PySem PySem.Spec PyProof.Rows L2
structure MC where
  N : List Str
  sc : Scope
  fn : String → Bool
  cl : String → Bool
  con : String → Bool
  calm : Bool := true
  exi : Option Nat := none
  ex : String → Bool := fun _ => false
  exT : String → Bool := fun _ => false
  hfn : String → Bool := fun _ => false
def MC.hot (M : MC) (e : Option Nat) : MC := { M with calm := false, exi := e, fn := fun _ => false }
abbrev MC.at (M : MC) (sc : Scope) : MC := { M with sc := sc }
def visB (sc : Scope) (x : Str) : Bool := match sc.names.lookup x with
  | some .local => true
  | some .cell => true
  | some .free => true
  | _ => false
def locB (sc : Scope) (x : Str) : Bool := match sc.names.lookup x with
  | some .local => true
  | some .cell => true
  | _ => false
def glB (sc : Scope) (x : Str) : Bool := decide (sc.names.lookup x = some .globalImplicit)
theorem visB_ok {sc : Scope} {x : Str} (h : visB sc x = true) : Vis sc x := by
  unfold visB at h
  unfold Vis
  split at h
  · exact .inl ‹_›
  · exact .inr (.inl ‹_›)
  · exact .inr (.inr ‹_›)
  · cases h
theorem locB_ok {sc : Scope} {x : Str} (h : locB sc x = true) : L2.Loc sc x := by
  unfold locB at h
  unfold L2.Loc
  split at h
  · exact .inl ‹_›
  · exact .inr ‹_›
  · cases h
def bTy : List String := ["bool", "int", "str", "tuple", "list", "dict", "ValueError"]
def isB (C : String) : Bool := bTy.contains C
def bis : List String := ["len", "str", "int", "tuple", "list", "sorted", "min", "max", "abs", "sum", "all", "range", "enumerate", "zip", "isinstance", "set", "bool", "dict", "ValueError"]
def okN (x : Str) : Bool := !(x == ("__debug__" : Str)) && !(x == ("__classdict__" : Str))
def gnB (sc : Scope) (g : String) (x : Str) : Bool := decide (x = nm g) && (glB sc x && okN x)
def clsMt (M : MC) : List String → List Expr → Bool
  | [], [] => true
  | C :: cs, .Name x _ :: xs => (isB C || M.cl C) && (gnB M.sc C x && clsMt M cs xs)
  | _, _ => false
def namesMt (M : MC) : List Nat → List Expr → Bool
  | [], [] => true
  | i :: is, .Name x _ :: xs => decide (M.N[i]? = some x) && (decide (M.exi ≠ some i) && (locB M.sc x && namesMt M is xs))
  | _, _ => false
def Tg.mt (M : MC) (t : Tg) (x : Expr) : Bool := match t with
  | .one i => (match x with
    | .Name n _ => decide (M.N[i]? = some n) && (decide (M.exi ≠ some i) && locB M.sc n)
    | _ => false)
  | .many is => (match x with
    | .Tuple xs _ _ => M.calm && namesMt M is xs
    | _ => false)
def ownOf (M : MC) (t : Tg) : List (Str × Nat) := t.slots.map fun i => ((M.N[i]?).getD ⟨#[]⟩, i)
def notStar : Expr → Bool
  | .Starred _ _ => false
  | _ => true
def notSlice : Expr → Bool
  | .Slice _ _ _ _ => false
  | _ => true
def notSet : Expr → Bool
  | .Set _ _ _ => false
  | _ => true
def notCall0 : Expr → Bool
  | .Call _ [] _ _ => false
  | _ => true
def plainT : Expr → Bool
  | .UnaryOp .Not _ _ => false
  | .BoolOp _ _ _ => false
  | .IfExp _ _ _ _ => false
  | .Compare _ _ _ _ => false
  | _ => true
def isTuple : Expr → Bool
  | .Tuple _ _ _ => true
  | _ => false
def compB (M : MC) (tg : Tg) (scope : Scope) : Bool := M.calm && blkC M.N M.sc scope (ownOf M tg)
def exnB (M : MC) (x : Expr) : Bool := match M.exi, x with
  | some i, .Name n _ => decide (M.N[i]? = some n) && (visB M.sc n && okN n)
  | _, _ => false
mutual
def E.mt : E → MC → Expr → Bool
  | .no, _, x => notStar x
  | .var i, M, x => match x with
    | .Name n _ => decide (M.N[i]? = some n) && (visB M.sc n && okN n)
    | _ => false
  | .non, _, x => match x with
    | .Constant .none _ _ => true
    | _ => false
  | .bl b, _, x => match x with
    | .Constant (.bool c) _ _ => b == c
    | _ => false
  | .int i, _, x => match x with
    | .Constant (.int j) _ _ => i == j
    | _ => false
  | .str l, _, x => match x with
    | .Constant (.str z) _ _ => decide (z = ⟨l.toArray⟩)
    | _ => false
  | .gcon g, M, x => match x with
    | .Name n _ => M.con g && gnB M.sc g n
    | _ => false
  | .tup es, M, x => match x with
    | .Tuple xs _ _ => decide (es.len ≤ 1000) && es.mt M xs
    | _ => false
  | .lst es, M, x => match x with
    | .List xs _ => decide (es.len ≤ 1000) && es.mt M xs
    | _ => false
  | .newl es, M, x => match x with
    | .List xs _ => decide (es.len ≤ 1000) && es.mt M xs
    | _ => false
  | .newdK, _, x => match x with
    | .Dict [] [] _ => true
    | _ => false
  | .newdT, _, x => match x with
    | .Dict [] [] _ => true
    | _ => false
  | .bop o a b, M, x => match x with
    | .BinOp l op r _ => decide (op = o.op) && (a.mt M l && b.mt M r)
    | _ => false
  | .neg a, M, x => match x with
    | .UnaryOp .USub y _ => a.mt M y
    | _ => false
  | .cmp o a b, M, x => match x with
    | .Compare l [op] [r] _ => decide (op = o.op) && (notSet r && (a.mt M l && b.mt M r))
    | _ => false
  | .chain o p a b c, M, x => match x with
    | .Compare l [op, op'] [r, r'] _ => decide (op = o.op) && (decide (op' = p.op) && (notSet r' && (a.mt M l && (b.mt M r && c.mt M r'))))
    | _ => false
  | .and es, M, x => match x with
    | .BoolOp .And xs _ => es.mt M xs
    | _ => false
  | .or es, M, x => match x with
    | .BoolOp .Or xs _ => es.mt M xs
    | _ => false
  | .not a, M, x => match x with
    | .UnaryOp .Not y _ => a.mt M y
    | _ => false
  | .ife q a b, M, x => match x with
    | .IfExp t y z _ => q.mt M t && (a.mt M y && b.mt M z)
    | _ => false
  | .idx a i, M, x => match x with
    | .Subscript y z _ => notSlice z && (a.mt M y && i.mt M z)
    | _ => false
  | .slAll a, M, x => match x with
    | .Subscript y (.Slice none none none _) _ => a.mt M y
    | _ => false
  | .slLo a lo, M, x => match x with
    | .Subscript y (.Slice (some l) none none _) _ => a.mt M y && lo.mt M l
    | _ => false
  | .slHi a hi, M, x => match x with
    | .Subscript y (.Slice none (some h) none _) _ => a.mt M y && hi.mt M h
    | _ => false
  | .sl a lo hi, M, x => match x with
    | .Subscript y (.Slice (some l) (some h) none _) _ => a.mt M y && (lo.mt M l && hi.mt M h)
    | _ => false
  | .bi f es, M, x => match x with
    | .Call (.Name n _) (y :: ys) [] _ => (M.calm || f.cool) && (gnB M.sc f.py n && es.mt M (y :: ys))
    | _ => false
  | .bm m a es, M, x => match x with
    | .Call (.Attribute o n p) ys [] q => decide (n = nm m.py) && (p.endLine == q.line && (decide (ys.length < 20) && (notCall0 o && (a.mt M o && es.mt M ys))))
    | _ => false
  | .isi a cs tp, M, x => match x with
    | .Call (.Name n _) [y, z] [] _ => gnB M.sc "isinstance" n && (decide (0 < cs.length ∧ cs.length ≤ 1000) && (notStar y && (a.mt M y && (match tp, z with
      | false, z => clsMt M cs [z]
      | true, .Tuple zs _ _ => clsMt M cs zs
      | true, _ => false))))
    | _ => false
  | .call f _ es, M, x => match x with
    | .Call (.Name n _) ys [] _ => M.calm && (M.fn f && (gnB M.sc f n && es.mt M ys))
    | _ => false
  | .lc elt tg it, M, x => match x with
    | .ListComp y [⟨t, i, [], 0⟩] scope _ => compB M tg scope && (tg.mt (M.at scope) t && (it.mt M t i && (notSet i && elt.mt (M.at (relS scope M.sc)) y)))
    | _ => false
  | .lcIf elt tg it q, M, x => match x with
    | .ListComp y [⟨t, i, [z], 0⟩] scope _ => compB M tg scope && (tg.mt (M.at scope) t && (it.mt M t i && (notSet i && (q.mt (M.at (relS scope M.sc)) z && elt.mt (M.at (relS scope M.sc)) y))))
    | _ => false
  | .newlc elt tg it, M, x => match x with
    | .ListComp y [⟨t, i, [], 0⟩] scope _ => compB M tg scope && (tg.mt (M.at scope) t && (it.mt M t i && (notSet i && elt.mt (M.at (relS scope M.sc)) y)))
    | _ => false
  | .newlcIf elt tg it q, M, x => match x with
    | .ListComp y [⟨t, i, [z], 0⟩] scope _ => compB M tg scope && (tg.mt (M.at scope) t && (it.mt M t i && (notSet i && (q.mt (M.at (relS scope M.sc)) z && elt.mt (M.at (relS scope M.sc)) y))))
    | _ => false
  | .ncat a b, M, x => match x with
    | .BinOp l .Add r _ => a.mt M l && b.mt M r
    | _ => false
  | .nlist a, M, x => match x with
    | .Call (.Name n _) [y] [] _ => gnB M.sc "list" n && (notStar y && a.mt M y)
    | _ => false
  | .lset a, M, x => match x with
    | .Call (.Name n _) [.Call (.Name n2 _) [y] [] _] [] _ => M.calm && (gnB M.sc "len" n && (gnB M.sc "set" n2 && (notStar y && a.mt M y)))
    | _ => false
  | .sset a, M, x => match x with
    | .Call (.Name n _) [.Call (.Name n2 _) [y] [] _] [] _ => M.calm && (gnB M.sc "sorted" n && (gnB M.sc "set" n2 && (notStar y && a.mt M y)))
    | _ => false
  | .make _ _, _, _ => false
  | .meth _ _ _ _, _, _ => false
  | .fld _ _, _, _ => false
  | .xis cs tp, M, x => match x with
    | .Call (.Name n _) [y, z] [] _ => gnB M.sc "isinstance" n && (decide (0 < cs.length ∧ cs.length ≤ 1000) && (exnB M y && (match tp, z with
      | false, z => clsMt M cs [z]
      | true, .Tuple zs _ _ => clsMt M cs zs
      | true, _ => false)))
    | _ => false
  | .xfld f, M, x => match x with
    | .Attribute y n _ => decide (n = nm f) && exnB M y
    | _ => false
  | .hcall f, M, x => match x with
    | .Call (.Name n _) [y] [] _ => M.hfn f && (gnB M.sc f n && exnB M y)
    | _ => false
def Es.mt : Es → MC → List Expr → Bool
  | .nil, _, xs => xs.isEmpty
  | .cons e es, M, xs => match xs with
    | x :: xs => notStar x && (e.mt M x && es.mt M xs)
    | [] => false
def It.mt : It → MC → Expr → Expr → Bool
  | .val e, M, _, x => e.mt M x
  | .range es, M, _, x => match x with
    | .Call (.Name n _) ys [] _ => gnB M.sc "range" n && (decide (ys.length = 1 ∨ ys.length = 2 ∨ ys.length = 3) && es.mt M ys)
    | _ => false
  | .enum e, M, t, x => isTuple t && (match x with
    | .Call (.Name n _) [y] [] _ => gnB M.sc "enumerate" n && (notStar y && e.mt M y)
    | _ => false)
  | .zip a b, M, t, x => isTuple t && (match x with
    | .Call (.Name n _) [y, z] [] _ => gnB M.sc "zip" n && (notStar y && (notStar z && (a.mt M y && b.mt M z)))
    | _ => false)
end
theorem starEach_of {x : Expr} {xs : List Expr} {env : PySem.Env} (h : notStar x = true) : starEach (x :: xs) env = (false, eval x env) :: starEach xs env := by
  cases x <;> first
    | rfl
    | cases h
theorem plainIx_of {x : Expr} (h : notSlice x = true) : PlainIx x := by
  intro o i
  cases x <;> first
    | rfl
    | cases h
theorem noMarks_of {x : Expr} (op : CmpOp) (h : notSet x = true) : behindInMarks op x = false := by
  cases x <;> first
    | rfl
    | cases h
theorem folded_of {x : Expr} {env : PySem.Env} (h : notSet x = true) : ∀ v, foldedSetIterable x env v = pure v := by
  intro v
  cases x <;> first
    | rfl
    | cases h
theorem base_of {x : Expr} {n : Str} {env : PySem.Env} (h : notCall0 x = true) : attributeBase x n env (eval x env) = eval x env := by
  cases x with
  | Call f as ks p =>
    cases as with
    | nil => cases h
    | cons a as => cases f <;> rfl
  | _ => rfl
theorem isTrue_of {x : Expr} {env : PySem.Env} (h : plainT x = true) : ∀ whole, isTrue x env whole = (do let v ← whole; standAt x.pos; holding [v] (truthy v)) := by
  intro w
  cases x with
  | UnaryOp op y p => cases op <;> first
    | rfl
    | cases h
  | BoolOp _ _ _ => cases h
  | IfExp _ _ _ _ => cases h
  | Compare _ _ _ _ => cases h
  | _ => rfl
end CL
namespace CL
open PySem PySem.Spec PyProof.Rows L2
structure FnE (P : Program) (w : PySem.World) (K : PySem.W.Frag) (mg : Str → Option Value) (base : Heap) (k : Nat) (f : Addr) (fd : FuncData) (ps : List Str) (sp : Addr × Obj → Sp) : Prop where
  len : ∀ p vs H Q E, sp p vs H Q E → vs.length = ps.length
  run : ∀ (A : Around) (outer : List PySem.Env) (s : Shared) (H : Hp) (args : Args) (us : List Value) (vs : List V) (Q : VK) (E : XK) (p : Addr × Obj), L2H.RoomH k A → L2H.PinOk outer H s p → Env0 P w K mg base A outer s H → BindsTo s fd args (ps.zip us) → Vals vs us → sp p vs H Q E →
    codeAny (model P w) A (.call (.ref f) args) (CR (L2.CX P w) outer P w H s Q E) s
theorem funE {P : Program} {w : PySem.World} {K : PySem.W.Frag} {mg : Str → Option Value} {base : Heap} {x qual : Str} {st : Stmt} {f : Addr} {fd : FuncData} {N ps : List Str} {k : Nat} {sp : Addr × Obj → Sp} (F : Fun K x qual st f fd) (S : FnScope N ps (defScope st)) (len : ∀ p vs H Q E, sp p vs H Q E → vs.length = ps.length)
    (hbody : ∀ (cdv : Value) (A : Around) (outer : List PySem.Env) (s : Shared) (H : Hp) (vs : List V) (Q : VK) (E : XK) (p : Addr × Obj), L2H.RoomH k (A.deeper (envOfC qual (defScope st) s.heap.objs.size f cdv)) → sp p vs H Q E →
      ∃ t, PSs (L2H.cxH (L2.CX P w) P w K mg base N qual (defScope st) f cdv A outer s H E p) (defBody st) t ∧ t { nx := fun _ H' => Q .non H', rt := Q } (L2.start N vs) H) : FnE P w K mg base (k + 1) f fd ps sp := by
  obtain ⟨oc, od, kV, doc, pm, an, cdv, ct, osl, rfl, lk, hcd⟩ := F.ex
  refine ⟨len, fun A outer s H args us vs Q E p room pin e0 bd r hsp => ?_⟩
  have vl := len _ _ _ _ _ hsp
  have KX : K.In s.heap := e0.mod.kin.keeps fun b o e => (e0.bs b o e).1
  have nolim : s.heap.NoLimit := e0.mod.nolimit.keeps fun b o e => (e0.bs b o e).1
  have kinds : ∀ y ∈ ps.zip us, (defScope st).names.lookup y.1 = some .local ∨ ((defScope st).names.lookup y.1 = some .cell ∧ ((cellsFrom (s.heap.objs.size + 1) (defScope st).names []).lookup y.1).isSome = true) := fun y hy => by
    rcases S.par y.1 (List.of_mem_zip hy).1 with q | q
    · exact .inl q
    · exact .inr ⟨q, PySem.W.cellsFrom_some _ _ _ (.inl q)⟩
  refine codeAny_call_function room.depth (KX _ _ lk) rfl S.co S.gen rfl (PySem.W.codeRec_of KX hcd) (bd _ _ _ _ ?_)
  refine wpAny_newFunctionEnv_cells S.kind kinds fun env he s1 z => ?_
  subst he
  refine ⟨nolim.keeps z.toInCall.keep, codeAny_func ?_⟩
  obtain ⟨t, ht, hq⟩ := hbody cdv A outer s H vs Q E p (room.deeper _) hsp
  have I := L2H.inv_startH (CX := L2.CX P w) (qual := qual) (f := f) (cd := cdv) (E := E) S pin e0 vl r z
  refine wpAny_mono (ht.run [] s1 (L2.start N vs) H _ I hq) (fun fl s' hs => ?_) fun e s' hs => hs
  cases fl with
  | ret u =>
    obtain ⟨v, σ', H', J, rv, q⟩ := hs
    exact ⟨v, H', J.os, J.bare, J.base, J.hok, rv, q⟩
  | next =>
    obtain ⟨σ', H', J, q⟩ := hs
    exact ⟨V.non, H', J.os, J.bare, J.base, J.hok, rfl, q⟩
  | brk =>
    obtain ⟨_, _, _, q⟩ := hs
    exact False.elim q
  | cont =>
    obtain ⟨_, _, _, q⟩ := hs
    exact False.elim q
section
variable {X : Cx} {k : Nat} {f : Addr} {fd : FuncData} {ps : List Str} {sp : Addr × Obj → Sp} {E : L2.St → XK}
theorem run_fnE {pins : List (Addr × Obj)} {σ : L2.St} {H : Hp} {s : Shared} {Q : VK} {us : List Value} {vs : List V} {p : Addr × Obj} (F : FnE X.prog X.w X.K X.mg X.base k f fd ps sp) (hr : L2H.RoomH k X.A) (hp : p ∈ X.pn) (hb : Binds X.K fd ps []) (hx : PassesAt (L2.CX X.prog X.w) X σ (E σ))
    (I : Inv X pins σ H s) (r : Vals vs us) (h : sp p vs H Q (E σ)) : wpAny (model X.prog X.w) X.A (call (.ref f) us) (EP X pins σ Q) X.xe s := by
  have ul : us.length = ps.length := by rw [← r.length]; exact F.len _ _ _ _ _ h
  have b := hb s us I.kIn (by rw [List.append_nil]; exact ul)
  rw [List.append_nil] at b
  have at_ := I.pin p (List.mem_append_left _ hp)
  have pin : L2H.PinOk X.stack H s p := ⟨at_.1, at_.2.1, fun hm => (List.mem_cons.mp (I.stkSub p.1 hm)).elim at_.2.2.1 at_.2.2.2.1, at_.2.2.2.2⟩
  refine wpAny_call (codeAny_mono (F.run X.A X.stack s H ⟨us, []⟩ us vs Q (E σ) p hr pin I.env0 b r h) fun r s' hq => ?_)
  cases r with
  | error e => exact hx pins H s e s' I hq
  | ok fl =>
    cases fl with
    | ret u => exact I.after hq
    | next => exact False.elim hq
    | brk => exact False.elim hq
    | cont => exact False.elim hq
end
def spE (ca : CA) (m : String × List String × List D → Nat → Store → R D) : Addr × Obj → Sp := fun p vs H Q E => ∃ (Y : Sx) (_ : Y.ca = ca) (z : ExS) (b : Nat) (Bs : List Nat) (μ : List Addr) (S : Store), vs = [V.ref z.at_] ∧ p.1 = z.at_ ∧ Zc z.cls z.dd p.2 ∧ (∃ fv, p.2.data = .fields fv) ∧ (∀ q ∈ Bs, q ≤ b) ∧ World Y Bs μ H S ∧ ExcAt Y μ H z.C z.ns z.ds z.cls z.dd ∧
  KR Y Bs (Rep Y) μ H [] Q (fun cls d _ H' => E cls d H') (m (z.C, z.ns, z.ds) b S)
structure HCallable (ca : CA) (X : Cx) (f : String) (m : String × List String × List D → Nat → Store → R D) : Prop where
  get : ∃ (k : Nat) (a : Addr) (fd : FuncData) (ps : List Str), FnE X.prog X.w X.K X.mg X.base k a fd ps (spE ca m) ∧ L2H.RoomH k X.A ∧ X.mg (nm f) = some (.ref a) ∧ PySem.W.keepIn X.K (.ref a) = true ∧ Binds X.K fd ps []
end CL
namespace CL
open PySem PySem.Spec PyProof.Rows L2
def spI (ca : CA) (m : Bool → List D → Nat → Store → R D) : Sp := fun vs H Q E => ∃ (Y : Sx) (_ : Y.ca = ca) (_ : Y.exs = none) (g : Bool) (b : Nat) (Bs : List Nat) (μ : List Addr) (S : Store) (ds : List D), (∀ q ∈ Bs, q ≤ b) ∧ World Y Bs μ H S ∧ RepL Y μ H vs ds ∧
  KR Y Bs (Rep Y) μ H [] Q (fun cls d _ H' => E cls d H') (m g ds b S)
structure Callable (ca : CA) (X : Cx) (f : String) (m : Bool → List D → Nat → Store → R D) : Prop where
  get : ∃ (k : Nat) (a : Addr) (fd : FuncData) (ps : List Str), FnOk X.prog X.w X.K X.mg X.base (L2.CX X.prog X.w) k a fd ps (spI ca m) ∧ Room k X.A ∧ X.mg (nm f) = some (.ref a) ∧ PySem.W.keepIn X.K (.ref a) = true ∧ Binds X.K fd ps []
def clsVal (Y : Sx) (C : String) : Value := if isB C then .type C else .ref (Y.ca C)
def clsV (Y : Sx) (C : String) : V := if isB C then .ty C else .ref (Y.ca C)
def basT : List String := ["NoneType", "bool", "int", "str", "tuple", "list", "dict"]
structure Good (Y : Sx) (c : Ctx) (b : Nat) (Bs : List Nat) (W : WX) (M : MC) (X : Cx) : Prop where
  hN : X.N = M.N
  hK : Y.ca.K = X.K
  nd : X.N.Nodup
  hsc : X.env.scope = M.sc
  calm : M.calm = true → X.calm = true
  exs : M.exi = Y.exs.map ExS.slot
  cx : M.calm = true → M.exi = none
  exn : ∀ z, Y.exs = some z → c.exc = some (z.C, z.ns, z.ds) ∧ ∃ oe : Obj, (z.at_, oe) ∈ X.pn ∧ Zc z.cls z.dd oe ∧ ∃ vs, oe.data = .fields vs
  isxK : ∀ Z C k, c.isx Z C = some k → (isB C = true ∨ M.cl C = true) → PySem.W.kitOne X.K (.ref (Y.ca Z)) (clsVal Y C) = some k
  hu : X.A.units + 64 < cLine
  hb : ∀ q ∈ Bs, q ≤ b
  tk : Takes X W
  bi : ∀ g ∈ bis, X.mg (nm g) = none
  con : ∀ g, M.con g = true → ∃ d u v, c.con g = some d ∧ X.mg (nm g) = some u ∧ RelV v u ∧ ∀ Z μ H, Rep Z μ H v d
  cls : ∀ C, M.cl C = true → isB C = false → X.mg (nm C) = some (.ref (Y.ca C))
  bcl : ∀ C, isB C = true → X.mg (nm C) = none
  isaN : ∀ C, M.cl C = true → isB C = false → ∀ T ∈ basT, PySem.W.kitOne X.K (.type T) (.ref (Y.ca C)) = some false
  isaI : ∀ Z, (∃ C k, c.isa Z C = some k) → ∀ (H : Hp) (a dx : Addr) (fs : List (Str × V)), H a = some (.ins (Y.ca Z) dx fs) → ∃ t, TyX X.K H (.ref a) t ∧ ∀ C k, c.isa Z C = some k → (isB C = true ∨ M.cl C = true) → PySem.W.kitOne X.K t (clsVal Y C) = some k
  call : ∀ f, M.fn f = true → Callable Y.ca X f (c.call f)
  hfn : ∀ f, M.hfn f = true → HCallable Y.ca X f (c.hcall f)
section
variable {X : Cx} {Y : Sx} {Bs : List Nat} {W : WX} {b : Nat} {M : MC} {c : Ctx}
theorem Good.bare (G : Good Y c b Bs W M X) (h : M.calm = true) : Y.exs = none := by
  have e := G.exs
  rw [G.cx h] at e
  cases hx : Y.exs with
  | none => rfl
  | some z => rw [hx] at e; cases e
theorem Sx.free_none {Y : Sx} (h : Y.exs = none) (i : Nat) : Y.free i := fun z hz => by rw [h] at hz; cases hz
theorem Good.free (G : Good Y c b Bs W M X) {i : Nat} (h : M.exi ≠ some i) : Y.free i := fun z hz e => h (by rw [G.exs, hz, ← e]; rfl)
theorem Good.gl (G : Good Y c b Bs W M X) {x : Str} (h : glB M.sc x = true) : Gl X x := by
  show X.env.scope.names.lookup x = _
  rw [G.hsc]
  exact of_decide_eq_true h
theorem okN_db {x : Str} (h : okN x = true) : (x == ("__debug__" : Str)) = false := by
  unfold okN at h
  rw [Bool.and_eq_true] at h
  simpa using h.1
theorem okN_cd {x : Str} (h : okN x = true) : (x == ("__classdict__" : Str)) = false := by
  unfold okN at h
  rw [Bool.and_eq_true] at h
  simpa using h.2
theorem gnB_of {sc : Scope} {g : String} {x : Str} (h : gnB sc g x = true) : x = nm g ∧ glB sc x = true ∧ okN x = true := by
  unfold gnB at h
  simp only [Bool.and_eq_true, decide_eq_true_eq] at h
  exact h
theorem s_no {α : Type} {rel : List Addr → Hp → V → α → Prop} {x : Expr} {m : Env → Store → R α} (h : ∀ ρ S, m ρ S = .bad) : PE X x (tX Y Bs rel W m) :=
  ⟨fun pins s σ H Q I ⟨μ, ρ, S, w, en, k⟩ => by rw [h] at k; exact k.elim⟩
theorem s_var (G : Good Y c b Bs W M X) {i : Nat} {n : Str} {p : Pos} (h1 : M.N[i]? = some n) (h2 : visB M.sc n = true) (h3 : okN n = true) : PE X (.Name n p) (tI Y Bs W fun ρ S => match ρ[i]? with
    | some (some d) => .ok d S
    | _ => .bad) := by
  refine (pe_var (i := i) (by rw [G.hN]; exact h1) (by rw [G.hsc]; exact visB_ok h2) (okN_db h3) (okN_cd h3)).imp ?_
  rintro σ H Q ⟨μ, ρ, S, w, en, k⟩
  dsimp only at k
  match e : ρ[i]?, k with
  | some (some d), k =>
    obtain ⟨v, e2, r⟩ := en.at_ i d e
    exact ⟨v, e2, k μ H v (.refl _ _) w r⟩
  | some none, k => exact k.elim
  | none, k => exact k.elim
theorem s_con {v : V} {d : D} {x : Expr} (h : PE X x (tC v)) (r : ∀ μ H, Rep Y μ H v d) : PE X x (tI Y Bs W fun _ S => .ok d S) := by
  refine h.imp ?_
  rintro σ H Q ⟨μ, ρ, S, w, en, k⟩
  exact k μ H v (.refl _ _) w (r μ H)
theorem s_gcon (G : Good Y c b Bs W M X) {g : String} {n : Str} {p : Pos} (h1 : M.con g = true) (h2 : gnB M.sc g n = true) : PE X (.Name n p) (tI Y Bs W fun _ S => R.of S (c.con g)) := by
  obtain ⟨rfl, h4, h5⟩ := gnB_of h2
  obtain ⟨d, u, v, e1, e2, r, rr⟩ := G.con g h1
  rw [e1]
  exact s_con (pe_glob (G.gl h4) e2 r (okN_db h5)) (rr Y)
theorem evs_len {c : Ctx} {b : Nat} : ∀ (es : Es) (ρ : Env) (S : Store) (ds : List D) (S' : Store), evs c b es ρ S = .ok ds S' → ds.length = es.len
  | .nil, ρ, S, ds, S', h => by
    simp only [evs, R.ok.injEq] at h
    obtain ⟨rfl, _⟩ := h; rfl
  | .cons e es, ρ, S, ds, S', h => by
    simp only [evs] at h
    cases h1 : ev c b e ρ S with
    | ok d S1 =>
      rw [h1] at h
      simp only [R.bind] at h
      cases h2 : evs c b es ρ S1 with
      | ok ds2 S2 =>
        rw [h2] at h
        simp only [R.ok.injEq] at h
        obtain ⟨rfl, _⟩ := h
        simp [Es.len, evs_len es ρ S1 ds2 S2 h2]
      | err _ _ _ _ => rw [h2] at h; simp at h
      | bad => rw [h2] at h; simp at h
    | err _ _ _ _ => rw [h1] at h; simp [R.bind] at h
    | bad => rw [h1] at h; simp [R.bind] at h
theorem small_line {n : Nat} (h : n ≤ 1000) : n ≤ sizeLine := by rw [sizeLine_eq]; omega
theorem bind_at {α β : Type} {r : R α} {f : α → Store → R β} {P : α → Store → Prop} (h : ∀ a S, r = .ok a S → P a S) : r.bind f = r.bind f := rfl
theorem tX.bind' {α β γ δ : Type} {rel : List Addr → Hp → β → α → Prop} {rel' : List Addr → Hp → δ → γ → Prop} {μ : List Addr} {H : Hp} {σ : L2.St} {ρ : Env} {S : Store} {Q : β → Hp → Prop} {Q' : δ → Hp → Prop}
    {m : Env → Store → R α} {f : α → Store → R γ} (w : World Y Bs μ H S) (en : EnvOk Y μ H σ ρ) (h : KR Y Bs rel' μ H σ Q' W ((m ρ S).bind f))
    (go : ∀ a S1 μ1 H1 b, m ρ S = .ok a S1 → World Y Bs μ1 H1 S1 → EnvOk Y μ1 H1 σ ρ → Ext μ H μ1 H1 → rel μ1 H1 b a → KR Y Bs rel' μ1 H1 σ Q' W (f a S1) → Q b H1) : tX Y Bs rel W m σ H Q := by
  refine ⟨μ, ρ, S, w, en, ?_⟩
  cases e : m ρ S with
  | ok a S1 =>
    rw [e] at h
    exact fun μ1 H1 b x w1 r => go a S1 μ1 H1 b e w1 (en.ext x) x r (KR.mono x h)
  | err C ns ds S1 =>
    rw [e] at h
    exact h
  | bad =>
    rw [e] at h
    exact h
theorem s_tup {xs : List Expr} {n : Nat} {p : Pos} {ma : Env → Store → R (List D)} (ha : PA X xs (tA Y Bs W ma)) (hl : ∀ ρ S ds S', ma ρ S = .ok ds S' → ds.length ≤ 1000) :
    PE X (.Tuple xs n p) (tI Y Bs W fun ρ S => (ma ρ S).bind fun ds S1 => .ok (.tup ds) S1) := by
  refine (pe_tup ha).imp ?_
  rintro σ H Q ⟨μ, ρ, S, w, en, k⟩
  refine tX.bind' w en k fun ds S1 μ1 H1 vs e w1 en1 x1 r1 k1 => ⟨by rw [r1.length]; exact small_line (hl _ _ _ _ e), fun q hq => ?_⟩
  exact Fin1.tup (Y := Y) (Bs := Bs) k1 w1 r1 hq
theorem s_lst {xs : List Expr} {p : Pos} {ma : Env → Store → R (List D)} (ha : PA X xs (tA Y Bs W ma)) (hl : ∀ ρ S ds S', ma ρ S = .ok ds S' → ds.length ≤ 1000) :
    PE X (.List xs p) (tI Y Bs W fun ρ S => (ma ρ S).bind fun ds S1 => .ok (.lst ds) S1) := by
  refine (pe_lst ha).imp ?_
  rintro σ H Q ⟨μ, ρ, S, w, en, k⟩
  refine tX.bind' w en k fun ds S1 μ1 H1 vs e w1 en1 x1 r1 k1 => ⟨by rw [r1.length]; exact small_line (hl _ _ _ _ e), fun q hq => ?_⟩
  exact Fin1.lst (Y := Y) (Bs := Bs) k1 w1 r1 hq
theorem KR.cell {μ : List Addr} {H : Hp} {σ : L2.St} {Q : VK} {S : Store} {p : Addr} {o : HO} {ce : Cell} (k : KR Y Bs (Rep Y) μ H σ Q W (.ok (.ref S.length) (S ++ [ce]))) (w : World Y Bs μ H S) (hp : H p = none) (new : CellOk Y (μ ++ [p]) (upd H p o) p ce) : Q (.ref p) (upd H p o) := by
  refine k (μ ++ [p]) _ _ (.cell hp) (w.grow hp new w.bs) (.ref ?_)
  rw [← w.len, List.getElem?_append_right (Nat.le_refl _)]
  simp
theorem s_newl {xs : List Expr} {p : Pos} {ma : Env → Store → R (List D)} (ha : PA X xs (tA Y Bs W ma)) (hl : ∀ ρ S ds S', ma ρ S = .ok ds S' → ds.length ≤ 1000) :
    PE X (.List xs p) (tI Y Bs W fun ρ S => (ma ρ S).bind fun ds S1 => .ok (.ref S1.length) (S1 ++ [.lst ds])) := by
  refine (pe_lst ha).imp ?_
  rintro σ H Q ⟨μ, ρ, S, w, en, k⟩
  refine tX.bind' w en k fun ds S1 μ1 H1 vs e w1 en1 x1 r1 k1 => ⟨by rw [r1.length]; exact small_line (hl _ _ _ _ e), fun q hq => ?_⟩
  exact KR.cell k1 w1 hq (.lst upd_same (r1.ext (.cell hq)))
theorem s_newdK {p : Pos} : PE X (.Dict [] [] p) (tI Y Bs W fun _ S => .ok (.ref S.length) (S ++ [.dic false [] []])) := by
  refine pe_dnewK.imp ?_
  rintro σ H Q ⟨μ, ρ, S, w, en, k⟩ q hq
  exact KR.cell k w hq (.dicK (kvs := []) upd_same .nil)
theorem s_newdT {p : Pos} : PE X (.Dict [] [] p) (tI Y Bs W fun _ S => .ok (.ref S.length) (S ++ [.dic true [] []])) := by
  refine pe_dnewT.imp ?_
  rintro σ H Q ⟨μ, ρ, S, w, en, k⟩ q hq
  exact KR.cell k w hq (.dicT (kvs := []) upd_same .nil)
section
variable {x y z : Expr} {p : Pos} {ma mb mc : Env → Store → R D}
theorem s_bop (o : BO) (ha : PE X x (tI Y Bs W ma)) (hb : PE X y (tI Y Bs W mb)) : PE X (.BinOp x o.op y p) (tI Y Bs W fun ρ S => (ma ρ S).bind fun d S1 => (mb ρ S1).bind fun e S2 => R.of S2 (bop o (vw S2 d) (vw S2 e))) := by
  refine (pe_op (op_bop (Y := Y) o) ha hb).imp ?_
  rintro σ H Q ⟨μ, ρ, S, w, en, k⟩
  refine tX.bind w en k fun d S1 μ1 H1 u w1 en1 x1 r1 k1 => tX.bind w1 en1 k1 fun e S2 μ2 H2 v w2 en2 x2 r2 k2 => ?_
  obtain ⟨r, hr, k3⟩ := k2.of
  exact ⟨Bs, μ2, S2, d, e, r, w2, r1.ext x2, r2, hr, k3⟩
theorem s_neg (ha : PE X x (tI Y Bs W ma)) : PE X (.UnaryOp .USub x p) (tI Y Bs W fun ρ S => (ma ρ S).bind fun d S1 => match d with
    | .int i => .ok (.int (-i)) S1
    | _ => .bad) := by
  refine (pe_un un_neg ha).imp ?_
  rintro σ H Q ⟨μ, ρ, S, w, en, k⟩
  refine tX.bind w en k fun d S1 μ1 H1 u w1 en1 x1 r1 k1 => ?_
  cases r1 with
  | int i => exact ⟨i, rfl, k1 μ1 H1 _ (.refl _ _) w1 (.int _)⟩
  | _ => exact k1.elim
theorem cmp_read {o : CO} {σ : L2.St} {H : Hp} {Q : VK} {μ : List Addr} {ρ : Env} {S : Store} (w : World Y Bs μ H S) (en : EnvOk Y μ H σ ρ)
    (k : KR Y Bs (Rep Y) μ H σ Q W ((ma ρ S).bind fun d S1 => (mb ρ S1).bind fun e S2 => R.of S2 ((cmpD o (vw S2 d) (vw S2 e)).map .bl))) : tOp (opB2 Y (cmpD o)) (tI Y Bs W ma) (tI Y Bs W mb) σ H Q := by
  refine tX.bind w en k fun d S1 μ1 H1 u w1 en1 x1 r1 k1 => tX.bind w1 en1 k1 fun e S2 μ2 H2 v w2 en2 x2 r2 k2 => ?_
  obtain ⟨r, hr, k3⟩ := k2.of
  simp only [Option.map_eq_some_iff] at hr
  obtain ⟨t, ht, rfl⟩ := hr
  exact ⟨Bs, μ2, S2, d, e, t, w2, r1.ext x2, r2, ht, k3 μ2 H2 _ (.refl _ _) w2 (.bl t)⟩
theorem s_cmp (G : Good Y c b Bs W M X) (o : CO) (hs : notSet y = true) (ha : PE X x (tI Y Bs W ma)) (hb : PE X y (tI Y Bs W mb)) : PE X (.Compare x [o.op] [y] p) (tI Y Bs W fun ρ S => (ma ρ S).bind fun d S1 => (mb ρ S1).bind fun e S2 => R.of S2 ((cmpD o (vw S2 d) (vw S2 e)).map .bl)) := by
  refine (pe_cmpR (op_cmp (Y := Y) G.hu o) ha hb (noMarks_of _ hs)).imp ?_
  rintro σ H Q ⟨μ, ρ, S, w, en, k⟩
  exact cmp_read w en k
def truM (m : Env → Store → R D) : Env → Store → R Bool := fun ρ S => (m ρ S).bind fun d S1 => R.of S1 (truD (vw S1 d))
theorem KR.tru {σ : L2.St} {H : Hp} {μ : List Addr} {r : R D} {Q : Bool → Hp → Prop} (k : KR Y Bs (fun _ _ (t : Bool) a => t = a) μ H σ Q W (r.bind fun d S1 => R.of S1 (truD (vw S1 d)))) (hr : ∀ d S, r = .ok d S → ∃ t, d = .bl t) :
    KR Y Bs (Rep Y) μ H σ (fun v H' => ∃ t, v = .bl t ∧ Q t H') W r := by
  cases r with
  | ok d S1 =>
    obtain ⟨t, rfl⟩ := hr d S1 rfl
    intro μ' H' v x w rv
    cases rv
    exact ⟨t, rfl, k μ' H' t x w rfl⟩
  | err C ns ds S1 => exact k
  | bad => exact k
theorem bl_bind {α : Type} {r : R α} {f : α → Store → R D} (h : ∀ a S d S', f a S = .ok d S' → ∃ t, d = .bl t) : ∀ d S, r.bind f = .ok d S → ∃ t, d = .bl t := by
  intro d S e
  cases r with
  | ok a S1 => exact h a S1 d S e
  | err _ _ _ _ => cases e
  | bad => cases e
theorem bl_of {o : Option Bool} {S S' : Store} {d : D} (h : R.of S (o.map D.bl) = .ok d S') : ∃ t, d = .bl t := by
  cases o with
  | none => cases h
  | some t => simp only [Option.map_some, R.of, R.ok.injEq] at h; exact ⟨t, h.1.symm⟩
theorem t_cmp (G : Good Y c b Bs W M X) (o : CO) (hs : notSet y = true) (ha : PE X x (tI Y Bs W ma)) (hb : PE X y (tI Y Bs W mb)) : PT X (.Compare x [o.op] [y] p) (tT Y Bs W (truM fun ρ S => (ma ρ S).bind fun d S1 => (mb ρ S1).bind fun e S2 => R.of S2 ((cmpD o (vw S2 d) (vw S2 e)).map .bl))) := by
  refine (pt_cmpR (op_cmp (Y := Y) G.hu o) ha hb (noMarks_of _ hs)).imp ?_
  rintro σ H Q ⟨μ, ρ, S, w, en, k⟩
  exact cmp_read w en (k.tru (bl_bind fun d S1 => bl_bind fun e S2 d' S' h => bl_of h))
def chainM (o o' : CO) (ma mb mc : Env → Store → R D) : Env → Store → R D := fun ρ S => (ma ρ S).bind fun d S1 => (mb ρ S1).bind fun e S2 => match cmpD o (vw S2 d) (vw S2 e) with
    | some true => (mc ρ S2).bind fun f S3 => R.of S3 ((cmpD o' (vw S3 e) (vw S3 f)).map .bl)
    | some false => .ok (.bl false) S2
    | none => .bad
theorem chain_read {o o' : CO} {σ : L2.St} {H : Hp} {Q : VK} {μ : List Addr} {ρ : Env} {S : Store} (w : World Y Bs μ H S) (en : EnvOk Y μ H σ ρ) (k : KR Y Bs (Rep Y) μ H σ Q W (chainM o o' ma mb mc ρ S)) :
    tChain (opB2 Y (cmpD o)) (opB2 Y (cmpD o')) (tI Y Bs W ma) (tI Y Bs W mb) (tI Y Bs W mc) σ H Q := by
  refine tX.bind w en k fun d S1 μ1 H1 u w1 en1 x1 r1 k1 => tX.bind w1 en1 k1 fun e S2 μ2 H2 v w2 en2 x2 r2 k2 => ?_
  cases hc : cmpD o (vw S2 d) (vw S2 e) with
  | none => rw [hc] at k2; exact k2.elim
  | some t =>
    rw [hc] at k2
    refine ⟨Bs, μ2, S2, d, e, t, w2, r1.ext x2, r2, hc, t, rfl, ?_⟩
    cases t with
    | false => exact k2 μ2 H2 _ (.refl _ _) w2 (.bl _)
    | true =>
      rw [if_pos rfl]
      refine tX.bind w2 en2 k2 fun f S3 μ3 H3 z w3 en3 x3 r3 k3 => ?_
      obtain ⟨r, hr, k4⟩ := k3.of
      simp only [Option.map_eq_some_iff] at hr
      obtain ⟨t, ht, rfl⟩ := hr
      exact ⟨Bs, μ3, S3, e, f, t, w3, r2.ext x3, r3, ht, k4 μ3 H3 _ (.refl _ _) w3 (.bl t)⟩
theorem lastMarks_of {op op' : CmpOp} {y z : Expr} (h : notSet z = true) : lastMarks [op, op'] [y, z] = false := noMarks_of _ h
theorem s_chain (G : Good Y c b Bs W M X) (o o' : CO) (hs : notSet z = true) (ha : PE X x (tI Y Bs W ma)) (hb : PE X y (tI Y Bs W mb)) (hc : PE X z (tI Y Bs W mc)) : PE X (.Compare x [o.op, o'.op] [y, z] p) (tI Y Bs W (chainM o o' ma mb mc)) := by
  refine (pe_chain (op_cmp (Y := Y) G.hu o) (op_cmp (Y := Y) G.hu o') ha hb hc (lastMarks_of hs)).imp ?_
  rintro σ H Q ⟨μ, ρ, S, w, en, k⟩
  exact chain_read w en k
theorem t_chain (G : Good Y c b Bs W M X) (o o' : CO) (hs : notSet z = true) (ha : PE X x (tI Y Bs W ma)) (hb : PE X y (tI Y Bs W mb)) (hc : PE X z (tI Y Bs W mc)) : PT X (.Compare x [o.op, o'.op] [y, z] p) (tT Y Bs W (truM (chainM o o' ma mb mc))) := by
  refine (pt_chain (op_cmp (Y := Y) G.hu o) (op_cmp (Y := Y) G.hu o') ha hb hc (lastMarks_of hs)).imp ?_
  rintro σ H Q ⟨μ, ρ, S, w, en, k⟩
  refine chain_read w en (k.tru ?_)
  refine bl_bind fun d S1 => bl_bind fun e S2 d' S' h => ?_
  cases hc : cmpD o (vw S2 d) (vw S2 e) with
  | none => rw [hc] at h; cases h
  | some t =>
    rw [hc] at h
    cases t with
    | false => simp only [R.ok.injEq] at h; exact ⟨_, h.1.symm⟩
    | true => exact bl_bind (fun f S3 d' S' h => bl_of h) _ _ h
theorem t_plain (ht : plainT x = true) (ha : PE X x (tI Y Bs W ma)) : PT X x (tT Y Bs W (truM ma)) := by
  refine (pt_truth ha (isTrue_of ht)).imp ?_
  rintro σ H Q ⟨μ, ρ, S, w, en, k⟩
  refine tX.bind w en k fun d S1 μ1 H1 u w1 en1 x1 r1 k1 => ?_
  obtain ⟨t, ht, k2⟩ := k1.of
  exact ⟨t, view_tru (view_of w1 r1) ht, k2 μ1 H1 t (.refl _ _) w1 rfl⟩
theorem t_not (ha : PT X x (tT Y Bs W (truM ma))) : PT X (.UnaryOp .Not x p) (tT Y Bs W (truM fun ρ S => (ma ρ S).bind fun d S1 => R.of S1 ((truD (vw S1 d)).map fun k => .bl (!k)))) := by
  refine (pt_not ha).imp ?_
  rintro σ H Q ⟨μ, ρ, S, w, en, k⟩
  refine ⟨μ, ρ, S, w, en, ?_⟩
  revert k
  unfold truM
  dsimp only
  cases ma ρ S with
  | ok d S1 =>
    intro k
    simp only [R.bind] at k ⊢
    cases ht : truD (vw S1 d) with
    | none => rw [ht] at k; exact k.elim
    | some t =>
      rw [ht] at k
      intro μ' H' t' x w' e
      subst e
      exact k μ' H' _ x w' rfl
  | err C ns ds S1 => intro k; exact k
  | bad => intro k; exact k
theorem s_not (ha : PE X x (tI Y Bs W ma)) : PE X (.UnaryOp .Not x p) (tI Y Bs W fun ρ S => (ma ρ S).bind fun d S1 => R.of S1 ((truD (vw S1 d)).map fun k => .bl (!k))) := by
  refine ⟨fun pins s σ H Q I ⟨μ, ρ, S, w, en, k⟩ => ?_⟩
  refine UnaryOp_ (thn (ha.run pins s σ H _ I (tX.bind (Q := fun u H1 => ∃ t, TruV X.K u H1 t ∧ Q (.bl (!t)) H1) w en k fun d S1 μ1 H1 u w1 en1 x1 r1 k1 => ?_)) fun v s1 ⟨u, H1, I1, r1, q1⟩ => ?_)
  · obtain ⟨t, ht, k2⟩ := k1.of
    simp only [Option.map_eq_some_iff] at ht
    obtain ⟨t', ht, rfl⟩ := ht
    exact ⟨t', view_tru (view_of w1 r1) ht, k2 μ1 H1 _ (.refl _ _) w1 (.bl _)⟩
  · exact not_of (thn (tru_ok pins s1 σ H1 u v (fun t H' => Q (.bl (!t)) H') I1 r1 q1) fun t s2 ⟨H2, I2, q2⟩ => ⟨.bl (!t), H2, I2, rfl, q2⟩)
theorem s_and {ys : List Expr} {ma mr : Env → Store → R D} (ha : PE X x (tI Y Bs W ma)) (hr : PE X (.BoolOp .And (y :: ys) p) (tI Y Bs W mr)) :
    PE X (.BoolOp .And (x :: y :: ys) p) (tI Y Bs W fun ρ S => (ma ρ S).bind fun d S1 => match truD (vw S1 d) with
    | some true => mr ρ S1
    | some false => .ok d S1
    | none => .bad) := by
  refine ⟨fun pins s σ H Q I ⟨μ, ρ, S, w, en, k⟩ => ?_⟩
  refine BoolOp_and (thn (ha.run pins s σ H _ I (tX.bind (Q := fun u H1 => ∃ t, TruV X.K u H1 t ∧ if t = true then tI Y Bs W mr σ H1 Q else Q u H1) w en k fun d S1 μ1 H1 u w1 en1 x1 r1 k1 => ?_)) fun v s1 ⟨u, H1, I1, r1, q1⟩ => ?_)
  · cases ht : truD (vw S1 d) with
    | none => rw [ht] at k1; exact k1.elim
    | some t =>
      rw [ht] at k1
      refine ⟨t, view_tru (view_of w1 r1) ht, ?_⟩
      cases t with
      | true => exact ⟨μ1, ρ, S1, w1, en1, k1⟩
      | false => exact k1 μ1 H1 u (.refl _ _) w1 r1
  · refine thn (tru_ok pins s1 σ H1 u v (fun t H' => if t = true then tI Y Bs W mr σ H' Q else Q u H') I1 r1 q1) fun t s2 ⟨H2, I2, q2⟩ => ?_
    cases t with
    | true => exact hr.run pins s2 σ H2 Q I2 q2
    | false => exact ⟨u, H2, I2, r1, q2⟩
theorem s_or {ys : List Expr} {ma mr : Env → Store → R D} (ha : PE X x (tI Y Bs W ma)) (hr : PE X (.BoolOp .Or (y :: ys) p) (tI Y Bs W mr)) :
    PE X (.BoolOp .Or (x :: y :: ys) p) (tI Y Bs W fun ρ S => (ma ρ S).bind fun d S1 => match truD (vw S1 d) with
    | some false => mr ρ S1
    | some true => .ok d S1
    | none => .bad) := by
  refine ⟨fun pins s σ H Q I ⟨μ, ρ, S, w, en, k⟩ => ?_⟩
  refine BoolOp_or (thn (ha.run pins s σ H _ I (tX.bind (Q := fun u H1 => ∃ t, TruV X.K u H1 t ∧ if t = true then Q u H1 else tI Y Bs W mr σ H1 Q) w en k fun d S1 μ1 H1 u w1 en1 x1 r1 k1 => ?_)) fun v s1 ⟨u, H1, I1, r1, q1⟩ => ?_)
  · cases ht : truD (vw S1 d) with
    | none => rw [ht] at k1; exact k1.elim
    | some t =>
      rw [ht] at k1
      refine ⟨t, view_tru (view_of w1 r1) ht, ?_⟩
      cases t with
      | false => exact ⟨μ1, ρ, S1, w1, en1, k1⟩
      | true => exact k1 μ1 H1 u (.refl _ _) w1 r1
  · refine thn (tru_ok pins s1 σ H1 u v (fun t H' => if t = true then Q u H' else tI Y Bs W mr σ H' Q) I1 r1 q1) fun t s2 ⟨H2, I2, q2⟩ => ?_
    cases t with
    | false => exact hr.run pins s2 σ H2 Q I2 q2
    | true => exact ⟨u, H2, I2, r1, q2⟩
theorem t_and {ys : List Expr} {ma mr : Env → Store → R D} (ha : PT X x (tT Y Bs W (truM ma))) (hr : PW X (.BoolOp .And (y :: ys) p) (tT Y Bs W (truM mr))) :
    PW X (.BoolOp .And (x :: y :: ys) p) (tT Y Bs W (truM fun ρ S => (ma ρ S).bind fun d S1 => match truD (vw S1 d) with
    | some true => mr ρ S1
    | some false => .ok d S1
    | none => .bad)) := by
  refine (pw_and ha hr).imp ?_
  rintro σ H Q ⟨μ, ρ, S, w, en, k⟩
  refine ⟨μ, ρ, S, w, en, ?_⟩
  revert k
  unfold truM
  dsimp only
  cases ma ρ S with
  | ok d S1 =>
    intro k
    simp only [R.bind] at k ⊢
    cases ht : truD (vw S1 d) with
    | none => rw [ht] at k; exact k.elim
    | some t =>
      rw [ht] at k
      intro μ' H' t' x w' e
      subst e
      cases t' with
      | true => exact ⟨μ', ρ, S1, w', en.ext x, k.mono x⟩
      | false =>
        simp only [R.bind, ht] at k
        exact k μ' H' _ x w' rfl
  | err C ns ds S1 => intro k; exact k
  | bad => intro k; exact k
theorem t_or {ys : List Expr} {ma mr : Env → Store → R D} (ha : PT X x (tT Y Bs W (truM ma))) (hr : PW X (.BoolOp .Or (y :: ys) p) (tT Y Bs W (truM mr))) :
    PW X (.BoolOp .Or (x :: y :: ys) p) (tT Y Bs W (truM fun ρ S => (ma ρ S).bind fun d S1 => match truD (vw S1 d) with
    | some false => mr ρ S1
    | some true => .ok d S1
    | none => .bad)) := by
  refine (pw_or ha hr).imp ?_
  rintro σ H Q ⟨μ, ρ, S, w, en, k⟩
  refine ⟨μ, ρ, S, w, en, ?_⟩
  revert k
  unfold truM
  dsimp only
  cases ma ρ S with
  | ok d S1 =>
    intro k
    simp only [R.bind] at k ⊢
    cases ht : truD (vw S1 d) with
    | none => rw [ht] at k; exact k.elim
    | some t =>
      rw [ht] at k
      intro μ' H' t' x w' e
      subst e
      cases t' with
      | false => exact ⟨μ', ρ, S1, w', en.ext x, k.mono x⟩
      | true =>
        simp only [R.bind, ht] at k
        exact k μ' H' _ x w' rfl
  | err C ns ds S1 => intro k; exact k
  | bad => intro k; exact k
def ifeM (mq ma mb : Env → Store → R D) : Env → Store → R D := fun ρ S => (mq ρ S).bind fun d S1 => match truD (vw S1 d) with
    | some true => ma ρ S1
    | some false => mb ρ S1
    | none => .bad
theorem ife_read {α β : Type} {rel : List Addr → Hp → β → α → Prop} {mq : Env → Store → R D} {na nb : Env → Store → R α} {σ : L2.St} {H : Hp} {Q : β → Hp → Prop} {μ : List Addr} {ρ : Env} {S : Store} (w : World Y Bs μ H S) (en : EnvOk Y μ H σ ρ)
    (k : KR Y Bs rel μ H σ Q W ((mq ρ S).bind fun d S1 => match truD (vw S1 d) with
    | some true => na ρ S1
    | some false => nb ρ S1
    | none => .bad)) : tT Y Bs W (truM mq) σ H fun t H1 => if t = true then tX Y Bs rel W na σ H1 Q else tX Y Bs rel W nb σ H1 Q := by
  refine ⟨μ, ρ, S, w, en, ?_⟩
  revert k
  unfold truM
  cases mq ρ S with
  | ok d S1 =>
    intro k
    simp only [R.bind] at k ⊢
    cases ht : truD (vw S1 d) with
    | none => rw [ht] at k; exact k.elim
    | some t =>
      rw [ht] at k
      intro μ' H' t' x w' e
      subst e
      cases t' with
      | false => exact ⟨μ', ρ, S1, w', en.ext x, k.mono x⟩
      | true => exact ⟨μ', ρ, S1, w', en.ext x, k.mono x⟩
  | err C ns ds S1 => intro k; exact k
  | bad => intro k; exact k
theorem s_ife {mq : Env → Store → R D} (hq : PT X x (tT Y Bs W (truM mq))) (ha : PE X y (tI Y Bs W ma)) (hb : PE X z (tI Y Bs W mb)) : PE X (.IfExp x y z p) (tI Y Bs W (ifeM mq ma mb)) := by
  refine (pe_ifExp hq ha hb).imp ?_
  rintro σ H Q ⟨μ, ρ, S, w, en, k⟩
  exact ife_read w en k
theorem t_ife {mq : Env → Store → R D} (hq : PT X x (tT Y Bs W (truM mq))) (ha : PT X y (tT Y Bs W (truM ma))) (hb : PT X z (tT Y Bs W (truM mb))) : PT X (.IfExp x y z p) (tT Y Bs W (truM (ifeM mq ma mb))) := by
  refine ⟨fun pins s σ H Q I ⟨μ, ρ, S, w, en, k⟩ => ?_⟩
  show wpAny _ _ (do if ← isTrue x X.env (eval x X.env) then isTrue y X.env (eval y X.env) else isTrue z X.env (eval z X.env)) _ _ _
  refine wpAny_bind (thn (hq.run pins s σ H _ I (ife_read (rel := fun _ _ (t : Bool) a => t = a) (na := truM ma) (nb := truM mb) (Q := Q) w en ?_)) fun t s1 ⟨H1, I1, q1⟩ => ?_)
  · revert k
    unfold truM ifeM
    cases mq ρ S with
    | ok d S1 =>
      intro k
      simp only [R.bind] at k ⊢
      cases ht : truD (vw S1 d) with
      | none => rw [ht] at k; exact k
      | some t => rw [ht] at k; cases t <;> exact k
    | err C ns ds S1 => intro k; exact k
    | bad => intro k; exact k
  · cases t with
    | true => exact ha.run pins s1 σ H1 Q I1 q1
    | false => exact hb.run pins s1 σ H1 Q I1 q1
theorem s_idx (G : Good Y c b Bs W M X) (hs : notSlice y = true) (ha : PE X x (tI Y Bs W ma)) (hb : PE X y (tI Y Bs W mb)) : PE X (.Subscript x y p) (tI Y Bs W fun ρ S => (ma ρ S).bind fun d S1 => (mb ρ S1).bind fun e S2 => R.of S2 (idxD (vw S2 d) (vw S2 e))) := by
  refine (pe_ix (ix_D (Y := Y) G.hK G.hu) ha hb (plainIx_of hs)).imp ?_
  rintro σ H Q ⟨μ, ρ, S, w, en, k⟩
  refine tX.bind w en k fun d S1 μ1 H1 u w1 en1 x1 r1 k1 => tX.bind w1 en1 k1 fun e S2 μ2 H2 v w2 en2 x2 r2 k2 => ?_
  obtain ⟨r, hr, k3⟩ := k2.of
  exact ⟨Bs, μ2, S2, d, e, r, w2, r1.ext x2, r2, hr, k3⟩
variable {p2 : Pos}
theorem s_slAll (ha : PE X x (tI Y Bs W ma)) : PE X (.Subscript x (.Slice none none none p2) p) (tI Y Bs W fun ρ S => (ma ρ S).bind fun d S1 => R.of S1 (slD none none (vw S1 d))) := by
  refine (pe_slice (sl_D (Y := Y)) ha po_none po_none).imp ?_
  rintro σ H Q ⟨μ, ρ, S, w, en, k⟩
  refine tX.bind w en k fun d S1 μ1 H1 u w1 en1 x1 r1 k1 => ?_
  obtain ⟨r, hr, k3⟩ := k1.of
  exact ⟨Bs, μ1, S1, d, r, w1, r1, hr, k3⟩
theorem s_slLo (ha : PE X x (tI Y Bs W ma)) (hb : PE X y (tI Y Bs W mb)) : PE X (.Subscript x (.Slice (some y) none none p2) p) (tI Y Bs W fun ρ S => (ma ρ S).bind fun d S1 => (mb ρ S1).bind fun e S2 => match e with
    | .int i => R.of S2 (slD (some i) none (vw S2 d))
    | _ => .bad) := by
  refine (pe_slice (sl_D (Y := Y)) ha (po_some hb) po_none).imp ?_
  rintro σ H Q ⟨μ, ρ, S, w, en, k⟩
  refine tX.bind w en k fun d S1 μ1 H1 u w1 en1 x1 r1 k1 => tX.bind w1 en1 k1 fun e S2 μ2 H2 v w2 en2 x2 r2 k2 => ?_
  cases r2 with
  | int i =>
    obtain ⟨r, hr, k3⟩ := k2.of
    exact ⟨i, rfl, Bs, μ2, S2, d, r, w2, r1.ext x2, hr, k3⟩
  | _ => exact k2.elim
theorem s_slHi (ha : PE X x (tI Y Bs W ma)) (hb : PE X y (tI Y Bs W mb)) : PE X (.Subscript x (.Slice none (some y) none p2) p) (tI Y Bs W fun ρ S => (ma ρ S).bind fun d S1 => (mb ρ S1).bind fun e S2 => match e with
    | .int i => R.of S2 (slD none (some i) (vw S2 d))
    | _ => .bad) := by
  refine (pe_slice (sl_D (Y := Y)) ha po_none (po_some hb)).imp ?_
  rintro σ H Q ⟨μ, ρ, S, w, en, k⟩
  refine tX.bind w en k fun d S1 μ1 H1 u w1 en1 x1 r1 k1 => tX.bind w1 en1 k1 fun e S2 μ2 H2 v w2 en2 x2 r2 k2 => ?_
  cases r2 with
  | int i =>
    obtain ⟨r, hr, k3⟩ := k2.of
    exact ⟨i, rfl, Bs, μ2, S2, d, r, w2, r1.ext x2, hr, k3⟩
  | _ => exact k2.elim
theorem s_sl (ha : PE X x (tI Y Bs W ma)) (hb : PE X y (tI Y Bs W mb)) (hc : PE X z (tI Y Bs W mc)) : PE X (.Subscript x (.Slice (some y) (some z) none p2) p) (tI Y Bs W fun ρ S => (ma ρ S).bind fun d S1 => (mb ρ S1).bind fun e S2 => match e with
    | .int i => (mc ρ S2).bind fun f S3 => match f with
      | .int j => R.of S3 (slD (some i) (some j) (vw S3 d))
      | _ => .bad
    | _ => .bad) := by
  refine (pe_slice (sl_D (Y := Y)) ha (po_some hb) (po_some hc)).imp ?_
  rintro σ H Q ⟨μ, ρ, S, w, en, k⟩
  refine tX.bind w en k fun d S1 μ1 H1 u w1 en1 x1 r1 k1 => tX.bind w1 en1 k1 fun e S2 μ2 H2 v w2 en2 x2 r2 k2 => ?_
  cases r2 with
  | int i =>
    refine ⟨i, rfl, tX.bind w2 en2 k2 fun f S3 μ3 H3 z w3 en3 x3 r3 k3 => ?_⟩
    cases r3 with
    | int j =>
      obtain ⟨r, hr, k4⟩ := k3.of
      exact ⟨j, rfl, Bs, μ3, S3, d, r, w3, (r1.ext x2).ext x3, hr, k4⟩
    | _ => exact k3.elim
  | _ => exact k2.elim
end
end
end CL
namespace CL
open PySem PySem.Spec PyProof.Rows L2
section
variable {X : Cx} {Y : Sx} {Bs : List Nat} {W : WX} {b : Nat} {M : MC} {c : Ctx}
theorem a_nil : PA X [] (tA Y Bs W fun _ S => .ok [] S) := by
  refine pa_nil.imp ?_
  rintro σ H Q ⟨μ, ρ, S, w, en, k⟩
  exact k μ H [] (.refl _ _) w .nil
theorem a_cons {x : Expr} {xs : List Expr} {ma : Env → Store → R D} {mas : Env → Store → R (List D)} (hs : notStar x = true) (ha : PE X x (tI Y Bs W ma)) (hr : PA X xs (tA Y Bs W mas)) :
    PA X (x :: xs) (tA Y Bs W fun ρ S => (ma ρ S).bind fun d S1 => (mas ρ S1).bind fun ds S2 => .ok (d :: ds) S2) := by
  refine (pa_cons ha hr (starEach_of hs)).imp ?_
  rintro σ H Q ⟨μ, ρ, S, w, en, k⟩
  refine tX.bind w en k fun d S1 μ1 H1 u w1 en1 x1 r1 k1 => tX.bind w1 en1 k1 fun ds S2 μ2 H2 vs w2 en2 x2 r2 k2 => ?_
  exact k2 μ2 H2 _ (.refl _ _) w2 (.cons (r1.ext x2) r2)
def allNS (xs : List Expr) : Bool := xs.all notStar
theorem starEach_ns {env : PySem.Env} {pos : Pos} : ∀ {xs : List Expr}, allNS xs = true → (backTo pos (starEach xs env)).any (·.1) = false ∧ (backTo pos (starEach xs env)).all (fun x => !x.1) = true
  | [], _ => ⟨rfl, rfl⟩
  | x :: xs, h => by
    unfold allNS at h
    rw [List.all_cons, Bool.and_eq_true] at h
    have ih := starEach_ns (env := env) (pos := pos) (xs := xs) h.2
    rw [starEach_of h.1]
    unfold backTo at *
    rw [List.map_cons, List.any_cons, List.all_cons]
    exact ⟨by rw [ih.1]; rfl, by rw [ih.2]; rfl⟩
theorem boot_fb (f : FB) : bootBuiltins (nm f.py) = some f.val := by cases f <;> decide +kernel
theorem fb_name (f : FB) : nm f.py ≠ "__name__" := by cases f <;> decide +kernel
theorem fb_bis (f : FB) : f.py ∈ bis := by cases f <;> decide +kernel
theorem s_bi (G : Good Y c b Bs W M X) (f : FB) (hcool : (M.calm || f.cool) = true) {n : Str} {q p : Pos} {y : Expr} {ys : List Expr} {mas : Env → Store → R (List D)} (hn : gnB M.sc f.py n = true) (hs : allNS (y :: ys) = true) (ha : PA X (y :: ys) (tA Y Bs W mas)) :
    PE X (.Call (.Name n q) (y :: ys) [] p) (tI Y Bs W fun ρ S => (mas ρ S).bind fun ds S1 => R.of S1 (fbD f (ds.map (vw S1)))) := by
  obtain ⟨rfl, h4, h5⟩ := gnB_of hn
  have hs' := hs
  unfold allNS at hs'
  rw [List.all_cons, Bool.and_eq_true] at hs'
  have main : PE X (.Call (.Name (nm f.py) q) (y :: ys) [] p) (tCB (rFb Y f) (tA Y Bs W mas)) := by
    have hc := call_fb (Y := Y) G.hK f ((Bool.or_eq_true _ _ ▸ hcool : M.calm = true ∨ f.cool = true).symm.imp id G.calm) G.hu
    have hv := boot_fb f
    unfold FB.val at hc hv
    by_cases ht : f.ty = true
    · rw [if_pos ht] at hc hv
      exact pe_callTy hc (G.gl h4) (G.bi _ (fb_bis f)) hv ha (fb_name f) (okN_db h5) (starEach_of hs'.1) (starEach_ns hs'.2).1
    · rw [if_neg ht] at hc hv
      exact pe_callB hc (G.gl h4) (G.bi _ (fb_bis f)) hv ha (fb_name f) (okN_db h5) (starEach_of hs'.1) (starEach_ns hs'.2).1
  refine main.imp ?_
  rintro σ H Q ⟨μ, ρ, S, w, en, k⟩
  refine tX.bind w en k fun ds S1 μ1 H1 vs w1 en1 x1 r1 k1 => ?_
  obtain ⟨r, hr, k2⟩ := k1.of
  exact ⟨Bs, μ1, S1, ds, r, w1, r1, hr, k2⟩
theorem kind_is {pins : List (Addr × Obj)} {s : Shared} {σ : L2.St} {H : Hp} {x : V} {v : Value} {μ : List Addr} {d : D} {m : MB} {id : String} (I : Inv X pins σ H s) (rx : RelV x v) (h : View Y μ H x d) (hk : mbId m (kindD d) = some id) :
    s.TypeIs v (tyOf (kindD d)) ∧ ∀ a, v = .ref a → ∃ ob, s.heap.get? a = some ob ∧ ob.dict = none := by
  cases h with
  | str l =>
    obtain ⟨t, rfl⟩ := rx
    exact ⟨typeIs_str s _ t, fun _ e => nomatch e⟩
  | lst h r =>
    cases rx
    obtain ⟨its, _, pl, _⟩ := I.list (.of h)
    refine ⟨pl.isList.typeIs, fun a e => ?_⟩
    cases e
    obtain ⟨o, n, e, c, hd, _⟩ := pl
    exact ⟨o, e, hd⟩
  | way h ho n r =>
    cases rx
    obtain ⟨e, _, its, rv, o, h1, h2, n0, h3⟩ := (show ObjOk X.prog X.w H s.heap _ (.frz _ (.tup _)) from I.hok _ _ h)
    refine ⟨⟨o, h1, h2⟩, fun a e' => ?_⟩
    cases e'
    exact ⟨_, e, ho⟩
  | _ => cases m <;> simp [kindD, mbId] at hk
def bmM (m : MB) (b : Nat) (ma : Env → Store → R D) (mas : Env → Store → R (List D)) : Env → Store → R D := fun ρ S => (ma ρ S).bind fun d S1 => if (mbId m (kindD (vw S1 d))).isSome then (mas ρ S1).bind fun ds S2 => if kindD (vw S1 d) = kindD (vw S2 d) then bmD m d ds b S2 else .bad else .bad
theorem bm_read {m : MB} {ma : Env → Store → R D} {mas : Env → Store → R (List D)} {σ : L2.St} {H : Hp} {Q : VK} (h : tI Y Bs W (bmM m b ma mas) σ H Q) :
    tI Y Bs W ma σ H fun x H1 => ∃ (μ1 : List Addr) (S1 : Store) (d : D) (id : String), View Y μ1 H1 x (vw S1 d) ∧ mbId m (kindD (vw S1 d)) = some id ∧
      tA Y Bs W mas σ H1 fun xs H2 => ∃ (μ2 : List Addr) (S2 : Store) (ds : List D), World Y Bs μ2 H2 S2 ∧ Rep Y μ2 H2 x d ∧ RepL Y μ2 H2 xs ds ∧ mbId m (kindD (vw S2 d)) = some id ∧ KR Y Bs (Rep Y) μ2 H2 σ Q W (bmD m d ds b S2) := by
  obtain ⟨μ, ρ, S, w, en, k⟩ := h
  refine tX.bind w en k fun d S1 μ1 H1 x w1 en1 x1 r1 k1 => ?_
  cases hid : mbId m (kindD (vw S1 d)) with
  | none => rw [hid] at k1; exact k1.elim
  | some id =>
    rw [hid] at k1
    simp only [Option.isSome_some, if_true] at k1
    refine ⟨μ1, S1, d, id, view_of w1 r1, hid, tX.bind w1 en1 k1 fun ds S2 μ2 H2 xs w2 en2 x2 r2 k2 => ?_⟩
    split at k2
    · rename_i e
      exact ⟨μ2, S2, ds, w2, r1.ext x2, r2, by rw [← e]; exact hid, k2⟩
    · exact k2.elim
theorem s_bm (G : Good Y c b Bs W M X) {m : MB} {o y : Expr} {ys : List Expr} {ap p : Pos} {ma : Env → Store → R D} {mas : Env → Store → R (List D)} (hl : (ap.endLine == p.line) = true) (hf : (y :: ys).length < 20) (h0 : notCall0 o = true) (hs : allNS (y :: ys) = true)
    (ho : PE X o (tI Y Bs W ma)) (ha : PA X (y :: ys) (tA Y Bs W mas)) : PE X (.Call (.Attribute o (nm m.py) ap) (y :: ys) [] p) (tI Y Bs W (bmM m b ma mas)) := by
  have hs' := hs
  unfold allNS at hs'
  rw [List.all_cons, Bool.and_eq_true] at hs'
  refine ⟨fun pins s σ H Q I h => ?_⟩
  refine wpAny_Call_method_late (base_of h0) ?_ hl rfl (thn (ho.run pins s σ H _ I (bm_read h)) fun v s1 ⟨x, H1, I1, r1, μ1, S1, d, id, vd, hid, q1⟩ => ?_)
  · rw [(starEach_ns hs).2]
    simp only [Bool.true_and, Bool.and_eq_true, decide_eq_true_eq]
    exact ⟨rfl, by simp at hf ⊢; omega⟩
  obtain ⟨f1, f2, f3⟩ := mb_facts hid
  obtain ⟨h1, h2⟩ := kind_is I1 r1 vd hid
  refine ⟨_, id, f1, f2, f3, h1, h2, ?_⟩
  have hA := ha.run p pins s1 σ H1 _ I1 q1
  rw [starEach_of hs'.1] at hA ⊢
  refine Calls.callWith_builtin (by show (false || (backTo p (starEach ys X.env)).any (·.1)) = false; rw [(starEach_ns hs'.2).1] <;> rfl) (Calls.evalArgs_plain ?_)
  refine thn hA fun us s2 ⟨vs, H2, I2, r2, μ2, S2, ds, w2, rd, rds, hid2, k2⟩ => ?_
  exact bm_D G.hu hid2 G.hb I2 r1 r2 w2 rd rds k2
theorem s_bm0 (G : Good Y c b Bs W M X) {m : MB} {o : Expr} {ap p : Pos} {ma : Env → Store → R D} (hl : (ap.endLine == p.line) = true) (h0 : notCall0 o = true)
    (ho : PE X o (tI Y Bs W ma)) : PE X (.Call (.Attribute o (nm m.py) ap) [] [] p) (tI Y Bs W (bmM m b ma fun _ S => .ok [] S)) := by
  refine ⟨fun pins s σ H Q I h => ?_⟩
  refine wpAny_Call_method_late (base_of h0) rfl hl rfl (thn (ho.run pins s σ H _ I (bm_read h)) fun v s1 ⟨x, H1, I1, r1, μ1, S1, d, id, vd, hid, q1⟩ => ?_)
  obtain ⟨f1, f2, f3⟩ := mb_facts hid
  obtain ⟨h1, h2⟩ := kind_is I1 r1 vd hid
  refine ⟨_, id, f1, f2, f3, h1, h2, ?_⟩
  obtain ⟨μ2, ρ, S2, w2, en2, k2⟩ := q1
  obtain ⟨μ3, S3, ds, w3, rd, rds, hid2, k3⟩ := k2 μ2 H1 [] (.refl _ _) w2 .nil
  exact Calls.callWith_builtin rfl (PySem.evalArgs_none (bm_D (us := []) G.hu hid2 G.hb I1 r1 .nil w3 rd rds k3))
theorem KR.noσ {μ : List Addr} {H : Hp} {σ : L2.St} {Q : VK} {r : R D} (k : KR Y Bs (Rep Y) μ H σ Q W r) : KR Y Bs (Rep Y) μ H [] Q (fun cls d _ H' => WE W σ cls d H') r := by
  cases r with
  | ok d S => exact k
  | err C ns ds S => exact k
  | bad => exact k
theorem s_call (G : Good Y c b Bs W M X) (hx : Y.exs = none) {f : String} {g : Bool} {n : Str} {q p : Pos} {y : Expr} {ys : List Expr} {mas : Env → Store → R (List D)} (hf : M.fn f = true) (hn : gnB M.sc f n = true) (hs : allNS (y :: ys) = true) (ha : PA X (y :: ys) (tA Y Bs W mas)) :
    PE X (.Call (.Name n q) (y :: ys) [] p) (tI Y Bs W fun ρ S => (mas ρ S).bind fun ds S1 => c.call f g ds b S1) := by
  obtain ⟨rfl, h4, h5⟩ := gnB_of hn
  have hs' := hs
  unfold allNS at hs'
  rw [List.all_cons, Bool.and_eq_true] at hs'
  obtain ⟨k, a, fd, ps, F, hr, hm, hk, hb⟩ := (G.call f hf).get
  refine (pe_callSD (E := WE W) (dvs := []) (ds := []) F hr (G.gl h4) hm hk hb .nil (fun σ => passAt G.tk σ) ha (okN_db h5) (starEach_of hs'.1) (starEach_ns hs'.2).1).imp ?_
  rintro σ H Q ⟨μ, ρ, S, w, en, k⟩
  refine tX.bind w en k fun ds S1 μ1 H1 vs w1 en1 x1 r1 k1 => ?_
  rw [List.append_nil]
  exact ⟨Y, rfl, hx, g, b, Bs, μ1, S1, ds, G.hb, w1, r1, k1.noσ⟩
theorem s_call0 (G : Good Y c b Bs W M X) (hx : Y.exs = none) {f : String} {g : Bool} {n : Str} {q p : Pos} (hf : M.fn f = true) (hn : gnB M.sc f n = true) :
    PE X (.Call (.Name n q) [] [] p) (tI Y Bs W fun _ S => c.call f g [] b S) := by
  obtain ⟨rfl, h4, h5⟩ := gnB_of hn
  obtain ⟨k, a, fd, ps, F, hr, hm, hk, hb⟩ := (G.call f hf).get
  refine ⟨fun pins s σ H Q I ⟨μ, ρ, S, w, en, k1⟩ => ?_⟩
  refine wpAny_Call_Name_kw (ld_glob I (G.gl h4) hm ?_ (okN_db h5))
  exact PySem.W.callWith_K0 I.kIn hk (run_fnSD (E := WE W) (dvs := []) (ds := []) (us := []) (vs := []) F hr hb .nil (passAt G.tk σ) I .nil ⟨Y, rfl, hx, g, b, Bs, μ, S, [], G.hb, w, .nil, k1.noσ⟩)
theorem kit_bas : ∀ T ∈ basT, ∀ C ∈ bTy, kitB T C = some (C == T || (T == "bool" && C == "int")) := by decide +kernel
theorem basK {K : PySem.W.Frag} {T C : String} (hT : T ∈ basT) (hC : isB C = true) : PySem.W.kitOne K (.type T) (.type C) = some (C == T || (T == "bool" && C == "int")) :=
  kit_ty (kit_bas T hT C (by unfold isB at hC; simpa using hC))
theorem isB_mem {C : String} (h : isB C = true) : C ∈ bTy := by unfold isB at h; simpa using h
def basA (T C : String) : Bool := isB C && (C == T || (T == "bool" && C == "int"))
theorem basA_of {T C : String} (hT : isB T = true) (hT2 : (T == "bool") = false) : basA T C = (C == T) := by
  unfold basA
  rw [hT2, Bool.false_and, Bool.or_false]
  by_cases h : C = T
  · subst h; rw [hT]; simp
  · simp [h]
theorem basA_bool {C : String} : basA "bool" C = (C == "bool" || C == "int") := by
  unfold basA
  by_cases h : C = "bool"
  · subst h; rfl
  · by_cases h2 : C = "int"
    · subst h2; rfl
    · simp [h, h2]
theorem basA_non {C : String} : basA "NoneType" C = false := by
  unfold basA
  by_cases h : C = "NoneType"
  · subst h; decide +kernel
  · have : ("NoneType" == "bool") = false := by decide +kernel
    rw [this]
    simp [h]
theorem isa_ok (G : Good Y c b Bs W M X) {μ : List Addr} {H : Hp} {x : V} {d0 : D} {S : Store} (w : World Y Bs μ H S) (r0 : Rep Y μ H x d0) : (∃ t, TyX X.K H x t ∧ ∀ C k, (isB C = true ∨ M.cl C = true) → isaD c (vw S d0) C = some k → PySem.W.kitOne X.K t (clsVal Y C) = some k) ∨ ∀ C, isaD c (vw S d0) C = none := by
  have bas : ∀ {T : String} {d : D}, T ∈ basT → (∀ C, isaD c d C = some (basA T C)) → ∀ C k, (isB C = true ∨ M.cl C = true) → isaD c d C = some k → PySem.W.kitOne X.K (.type T) (clsVal Y C) = some k := by
    intro T d hT hd C k hC hk
    rw [hd] at hk
    simp only [Option.some.injEq] at hk
    subst hk
    unfold clsVal basA
    by_cases hB : isB C = true
    · rw [if_pos hB, hB, Bool.true_and]; exact basK hT hB
    · rw [if_neg hB]
      have hB' : isB C = false := by simpa using hB
      rw [G.isaN C (hC.resolve_left hB) hB' T hT, hB', Bool.false_and]
  have v := view_of w r0
  revert v
  cases hvw : vw S d0 with
  | non => intro v; cases v; exact .inl ⟨_, .base .non, bas (T := "NoneType") (by decide) (fun C => by rw [basA_non]; rfl)⟩
  | bl t => intro v; cases v; exact .inl ⟨_, .base (.bl t), bas (T := "bool") (by decide) (fun C => by rw [basA_bool]; rfl)⟩
  | int i => intro v; cases v; exact .inl ⟨_, .base (.int i), bas (T := "int") (by decide) (fun C => by rw [basA_of (by decide +kernel) (by decide +kernel)]; rfl)⟩
  | str l => intro v; cases v; exact .inl ⟨_, .base (.str _), bas (T := "str") (by decide) (fun C => by rw [basA_of (by decide +kernel) (by decide +kernel)]; rfl)⟩
  | tup ds =>
    intro v
    cases v with
    | tup h _ _ => exact .inl ⟨_, .base (.tup h), bas (T := "tuple") (by decide) (fun C => by rw [basA_of (by decide +kernel) (by decide +kernel)]; rfl)⟩
  | lst ds =>
    intro v
    cases v with
    | lst h _ => exact .inl ⟨_, .base (.lst h), bas (T := "list") (by decide) (fun C => by rw [basA_of (by decide +kernel) (by decide +kernel)]; rfl)⟩
  | way ds =>
    intro v
    cases v with
    | way h _ _ _ => exact .inl ⟨_, .fTuple h, bas (T := "tuple") (by decide) (fun C => by rw [basA_of (by decide +kernel) (by decide +kernel)]; rfl)⟩
  | dic t ks vs =>
    intro v
    cases v with
    | dicK h _ => exact .inl ⟨_, .base (.dK h), bas (T := "dict") (by decide) (fun C => by rw [basA_of (by decide +kernel) (by decide +kernel)]; rfl)⟩
    | dicT h _ => exact .inl ⟨_, .base (.dT h), bas (T := "dict") (by decide) (fun C => by rw [basA_of (by decide +kernel) (by decide +kernel)]; rfl)⟩
  | ins Z ns ds =>
    intro v
    cases v with
    | ins h hn r =>
      by_cases hx : ∃ C k, c.isa Z C = some k
      · obtain ⟨t, ht, hk⟩ := G.isaI Z hx H _ _ _ h
        exact .inl ⟨t, ht, fun C k hC e => hk C k e hC⟩
      · refine .inr fun C => ?_
        cases e : isaD c (.ins Z ns ds) C with
        | none => rfl
        | some k => exact absurd ⟨C, k, e⟩ hx
  | exn Z ns ds => intro v; cases v
  | ref i => intro v; exact .inr fun C => rfl
  | scr ns => intro v; exact .inr fun C => rfl
theorem isaAny_one {c : Ctx} {d : D} {C : String} : isaAny c d [C] = isaD c d C := by
  unfold isaAny
  cases isaD c d C with
  | none => rfl
  | some k => cases k <;> rfl
theorem isaAny_kit {K : PySem.W.Frag} {t : Value} {d : D} : ∀ {cs : List String} {k : Bool}, (∀ C ∈ cs, isB C = true ∨ M.cl C = true) → (∀ C k, (isB C = true ∨ M.cl C = true) → isaD c d C = some k → PySem.W.kitOne K t (clsVal Y C) = some k) → isaAny c d cs = some k →
    PySem.W.kitAny K t (cs.map (clsVal Y)) = some k
  | [], k, _, _, e => by simp only [isaAny, Option.some.injEq] at e; subst e; exact kitAny_nil
  | C :: cs, k, hc, h, e => by
    unfold isaAny at e
    cases q : isaD c d C with
    | none => rw [q] at e; cases e
    | some j =>
      rw [q] at e
      refine kitAny_cons (h C j (hc C (List.mem_cons_self ..)) q) (fun hj => ?_) (fun hj => ?_)
      · subst hj
        exact isaAny_kit (fun C' h' => hc C' (List.mem_cons_of_mem _ h')) h e
      · subst hj
        simp only [Option.some.injEq] at e
        exact e.symm
theorem clsV_is (C : String) : ClsV (clsV Y C) (clsVal Y C) := by
  unfold clsV clsVal
  by_cases h : isB C = true
  · rw [if_pos h, if_pos h]; exact .ty C
  · rw [if_neg h, if_neg h]; exact .own _
theorem boot_ty : ∀ C ∈ bTy, bootBuiltins (nm C) = some (.type C) ∧ nm C ≠ "__name__" := by decide +kernel
theorem e_cls (G : Good Y c b Bs W M X) {C : String} {n : Str} {p : Pos} (h1 : (isB C || M.cl C) = true) (h2 : gnB M.sc C n = true) : PE X (.Name n p) (tC (clsV Y C)) := by
  obtain ⟨rfl, h4, h5⟩ := gnB_of h2
  unfold clsV
  by_cases hB : isB C = true
  · rw [if_pos hB]
    obtain ⟨a1, a2⟩ := boot_ty C (isB_mem hB)
    exact pe_bltn (G.gl h4) (G.bcl C hB) a1 rfl a2 (okN_db h5)
  · rw [if_neg hB]
    have hB' : isB C = false := by simpa using hB
    rw [hB', Bool.false_or] at h1
    exact pe_glob (G.gl h4) (G.cls C h1 hB') rfl (okN_db h5)
theorem clsMt_mem : ∀ {cs : List String} {xs : List Expr}, clsMt M cs xs = true → ∀ C ∈ cs, isB C = true ∨ M.cl C = true
  | [], _, _, C, h => by simp at h
  | C' :: cs, [], h, C, hC => by simp [clsMt] at h
  | C' :: cs, x :: xs, h, C, hC => by
    cases x <;> simp only [clsMt, Bool.and_eq_true, Bool.or_eq_true] at h <;> first
      | (exact absurd h Bool.false_ne_true)
      | (rcases List.mem_cons.mp hC with e | e
         · rw [e]; exact h.1
         · exact clsMt_mem h.2.2 C e)
theorem a_cls (G : Good Y c b Bs W M X) : ∀ {cs : List String} {xs : List Expr}, clsMt M cs xs = true → PA X xs (fun σ H Q => Q (cs.map (clsV Y)) H)
  | [], [], _ => pa_nil
  | [], x :: xs, h => by simp [clsMt] at h
  | C :: cs, [], h => by simp [clsMt] at h
  | C :: cs, x :: xs, h => by
    cases x with
    | Name n p =>
      simp only [clsMt, Bool.and_eq_true] at h
      exact (pa_cons (e_cls G h.1 h.2.1) (a_cls G h.2.2) (starEach_of rfl)).imp fun σ H Q q => q
    | _ => simp [clsMt] at h
theorem clsV_all : ∀ cs : List String, Paired ClsV (cs.map (clsV Y)) (cs.map (clsVal Y))
  | [] => .nil
  | C :: cs => .cons (clsV_is C) (clsV_all cs)
def isiM (c : Ctx) (cs : List String) (ma : Env → Store → R D) : Env → Store → R D := fun ρ S => (ma ρ S).bind fun d S1 => R.of S1 ((isaAny c (vw S1 d) cs).map .bl)
theorem isi_bis : "isinstance" ∈ bis := by decide +kernel
theorem isaAny_none {c : Ctx} {d : D} (h : ∀ C, isaD c d C = none) : ∀ cs : List String, cs ≠ [] → isaAny c d cs = none
  | [], h' => absurd rfl h'
  | C :: cs, _ => by unfold isaAny; rw [h]
theorem s_isi1 (G : Good Y c b Bs W M X) {cs : List String} {n : Str} {q p : Pos} {y z : Expr} {ma : Env → Store → R D} (hn : gnB M.sc "isinstance" n = true) (hs : notStar y = true) (ha : PE X y (tI Y Bs W ma)) (hc : clsMt M cs [z] = true) :
    PE X (.Call (.Name n q) [y, z] [] p) (tI Y Bs W (isiM c cs ma)) := by
  obtain ⟨rfl, h4, h5⟩ := gnB_of hn
  match cs, hc with
  | [], hc => simp [clsMt] at hc
  | C :: D' :: _, hc => cases z <;> simp [clsMt] at hc
  | [C], hc =>
    cases z with
    | Name n2 p2 =>
      have hc' := hc
      simp only [clsMt, Bool.and_eq_true] at hc'
      have hC : isB C = true ∨ M.cl C = true := by simpa using hc'.1
      refine (pe_callB call_isi (G.gl h4) (G.bi _ isi_bis) PyProof.Rows.boot_isinstance (pa_cons ha (pa_cons (e_cls G hc'.1 hc'.2.1) pa_nil (starEach_of rfl)) (starEach_of hs)) (by decide +kernel) (okN_db h5) (starEach_of hs) rfl).imp ?_
      rintro σ H Q ⟨μ, ρ, S, w, en, k⟩
      refine tX.bind w en k fun d S1 μ1 H1 u w1 en1 x1 r1 k1 => ?_
      obtain ⟨r, hr, k2⟩ := k1.of
      simp only [Option.map_eq_some_iff] at hr
      obtain ⟨t, ht, rfl⟩ := hr
      rw [isaAny_one] at ht
      rcases isa_ok G w1 r1 with ⟨ty, h1, h2⟩ | h1
      · exact ⟨u, _, ty, _, t, rfl, clsV_is C, h1, h2 C t hC ht, k2 μ1 H1 _ (.refl _ _) w1 (.bl t)⟩
      · rw [h1] at ht; cases ht
    | _ => simp [clsMt] at hc
theorem s_isiT (G : Good Y c b Bs W M X) {cs : List String} {n : Str} {q p p2 : Pos} {y : Expr} {zs : List Expr} {kk : Nat} {ma : Env → Store → R D} (hn : gnB M.sc "isinstance" n = true) (hs : notStar y = true) (hl : cs.length ≤ 1000) (h0 : cs ≠ []) (ha : PE X y (tI Y Bs W ma)) (hc : clsMt M cs zs = true) :
    PE X (.Call (.Name n q) [y, .Tuple zs kk p2] [] p) (tI Y Bs W (isiM c cs ma)) := by
  obtain ⟨rfl, h4, h5⟩ := gnB_of hn
  refine (pe_callB call_isiT (G.gl h4) (G.bi _ isi_bis) PyProof.Rows.boot_isinstance (pa_cons ha (pa_cons (pe_tup (a_cls G hc)) pa_nil (starEach_of rfl)) (starEach_of hs)) (by decide +kernel) (okN_db h5) (starEach_of hs) rfl).imp ?_
  rintro σ H Q ⟨μ, ρ, S, w, en, k⟩
  refine tX.bind w en k fun d S1 μ1 H1 u w1 en1 x1 r1 k1 => ⟨by rw [List.length_map]; exact small_line hl, fun a na => ?_⟩
  obtain ⟨r, hr, k2⟩ := k1.of
  simp only [Option.map_eq_some_iff] at hr
  obtain ⟨t, ht, rfl⟩ := hr
  have w2 : World Y Bs μ1 (upd H1 a (.tup (cs.map (clsV Y)))) S1 := w1.laid na
  have r2 : Rep Y μ1 (upd H1 a (.tup (cs.map (clsV Y)))) u d := r1.ext (.laid na)
  have fin := k2 μ1 _ _ (.laid na) w2 (.bl t)
  rcases isa_ok G w2 r2 with ⟨ty, h1, h2⟩ | h1
  · exact ⟨u, a, _, ty, _, t, rfl, upd_same, clsV_all cs, h1, isaAny_kit (clsMt_mem hc) h2 ht, fin⟩
  · rw [isaAny_none h1 _ h0] at ht; cases ht
end
end CL
namespace CL
open PySem PySem.Spec PyProof.Rows L2
section
variable {X : Cx} {Y : Sx} {Bs : List Nat} {W : WX} {b : Nat} {M : MC} {c : Ctx}
theorem exn_at {pins : List (Addr × Obj)} {s : Shared} {σ : L2.St} {H : Hp} {μ : List Addr} (G : Good Y c b Bs W M X) (I : Inv X pins σ H s) {z : ExS} (hz : Y.exs = some z) (x : ExcAt Y μ H z.C z.ns z.ds z.cls z.dd) :
    ∃ (oe : Obj) (od : Option Obj), PySem.W.InstAt s.heap z.at_ oe (Y.ca z.C) od ∧ ((z.dd = none ∧ od = none) ∨ ∃ (a : Addr) (fs : List (Str × V)) (mA : Str → Option Value) (o : Obj), z.dd = some a ∧ H a = some (.xd fs) ∧ od = some o ∧ (∀ f, PySem.W.lookIn f o = some (mA f)) ∧ ∀ f, RelO (fs.lookup f) (mA f)) := by
  obtain ⟨_, oe, hp, hzc, vs, hv⟩ := G.exn z hz
  obtain ⟨hg, _⟩ := I.pin (z.at_, oe) (List.mem_append_left _ hp)
  have hcls : oe.cls = .ref (Y.ca z.C) := hzc.1.trans x.cls_
  have hnc : PySem.W.notCls oe := by unfold PySem.W.notCls; rw [hv]
  rcases x.flds with ⟨h1, _, _⟩ | ⟨a, fs, h1, h2, _⟩
  · exact ⟨oe, none, ⟨hg, hcls, hnc, by rw [hzc.2, h1]; trivial⟩, .inl ⟨h1, rfl⟩⟩
  · have ok : ObjOk X.prog X.w H s.heap a (.xd fs) := I.hok a _ h2
    obtain ⟨mA, hns, hr⟩ := ok
    obtain ⟨od, ho, hl⟩ := lookIn_ns hns
    exact ⟨oe, some od, ⟨hg, hcls, hnc, by rw [hzc.2, h1]; exact ho⟩, .inr ⟨a, fs, mA, od, h1, h2, rfl, hl, hr⟩⟩
def rIsX (X : Cx) (Y : Sx) : List V → Hp → VK → Prop := fun xs H Q => ∃ (z : ExS) (μ : List Addr) (c : V) (u : Value) (b : Bool), Y.exs = some z ∧ ExcAt Y μ H z.C z.ns z.ds z.cls z.dd ∧ xs = [.ref z.at_, c] ∧ ClsV c u ∧ PySem.W.kitOne X.K (.ref (Y.ca z.C)) u = some b ∧ Q (.bl b) H
def rIsXT (X : Cx) (Y : Sx) : List V → Hp → VK → Prop := fun xs H Q => ∃ (z : ExS) (μ : List Addr) (tp : Addr) (cs : List V) (us : List Value) (b : Bool), Y.exs = some z ∧ ExcAt Y μ H z.C z.ns z.ds z.cls z.dd ∧ xs = [.ref z.at_, .ref tp] ∧ H tp = some (.tup cs) ∧ Paired ClsV cs us ∧ PySem.W.kitAny X.K (.ref (Y.ca z.C)) us = some b ∧ Q (.bl b) H
theorem kit_exn {x : Addr} {ox : Obj} {od : Option Obj} {C : String} (hK : Y.ca.K = X.K) (F : ExF Y.ca C) : PySem.W.KitX X.K (.ref x) (.ref (Y.ca C)) (fun h => PySem.W.InstAt h x ox (Y.ca C) od) := by
  have f1 := F.isC
  have f2 := F.ga
  have f3 := F.gg
  have f4 := F.exC
  have f5 := F.ha
  have f6 := F.hn
  have f7 := F.ht
  have f8 := F.hm
  rw [hK] at f1 f2 f3 f4 f5 f6 f7 f8
  exact PySem.W.kitx_exc (show (PySem.W.clsIn X.K (Y.ca C)).isSome = true from f1) f2 f3 f4 f5 f6 f7 f8
theorem call_isX (G : Good Y c b Bs W M X) : CallR X (.builtin "isinstance") (rIsX X Y) := by
  intro pins s σ H xs us Q I r h
  obtain ⟨z, μ, cv, u, t, hz, x, rfl, k, e, q⟩ := h
  obtain ⟨u1, u2, rfl, r1, r2⟩ := vals2 r
  have e2 := k.eq r2
  subst e2
  obtain rfl : u1 = Value.ref z.at_ := r1
  obtain ⟨oe, od, J, _⟩ := exn_at G I hz x
  exact PySem.W.kia_one (kit_exn G.hK x.cl) I.kIn J e (fun z => nomatch z) fun tk => ⟨.bl t, H, I.tok tk, rfl, q⟩
theorem call_isXT (G : Good Y c b Bs W M X) : CallR X (.builtin "isinstance") (rIsXT X Y) := by
  intro pins s σ H xs us Q I r h
  obtain ⟨z, μ, tp, cs, ws, t, hz, x, rfl, hT, k, e, q⟩ := h
  obtain ⟨u1, u2, rfl, r1, r2⟩ := vals2 r
  cases (show u2 = Value.ref tp from r2)
  obtain rfl : u1 = Value.ref z.at_ := r1
  obtain ⟨oe, od, J, _⟩ := exn_at G I hz x
  obtain ⟨_, its, rv, o, h1, h2, n, h3⟩ := (show ObjOk X.prog X.w H s.heap tp (.tup cs) from I.hok tp _ hT)
  have e3 := ClsV.all k rv
  subst e3
  obtain ⟨oc, od', dt, sl⟩ := o
  simp only at h2 h3
  subst h2 h3
  exact PySem.W.kia_tup (kit_exn G.hK x.cl) I.kIn J h1 e (fun z => nomatch z) fun tk => ⟨.bl t, H, I.tok tk, rfl, q⟩
theorem e_exn (G : Good Y c b Bs W M X) {y : Expr} (h : exnB M y = true) : ∃ i, M.exi = some i ∧ PE X y (tVar i) := by
  unfold exnB at h
  split at h
  · rename_i i n p he
    simp only [Bool.and_eq_true, decide_eq_true_eq] at h
    exact ⟨i, he, pe_var (i := i) (by rw [G.hN]; exact h.1) (by rw [G.hsc]; exact visB_ok h.2.1) (okN_db h.2.2) (okN_cd h.2.2)⟩
  · cases h
theorem exs_of (G : Good Y c b Bs W M X) {i : Nat} (h : M.exi = some i) : ∃ z, Y.exs = some z ∧ z.slot = i := by
  have e := G.exs
  rw [h] at e
  cases hx : Y.exs with
  | none => rw [hx] at e; cases e
  | some z =>
    rw [hx] at e
    simp only [Option.map_some, Option.some.injEq] at e
    exact ⟨z, rfl, e.symm⟩
def isxM (c : Ctx) (cs : List String) : Env → Store → R D := fun _ S => match c.exc with
    | some x => R.of S ((isxAny c x.1 cs).map .bl)
    | none => .bad
theorem isxAny_kit {K : PySem.W.Frag} {t : Value} {Z : String} : ∀ {cs : List String} {k : Bool}, (∀ C ∈ cs, isB C = true ∨ M.cl C = true) → (∀ C k, (isB C = true ∨ M.cl C = true) → c.isx Z C = some k → PySem.W.kitOne K t (clsVal Y C) = some k) → isxAny c Z cs = some k →
    PySem.W.kitAny K t (cs.map (clsVal Y)) = some k
  | [], k, _, _, e => by simp only [isxAny, Option.some.injEq] at e; subst e; exact kitAny_nil
  | C :: cs, k, hc, h, e => by
    unfold isxAny at e
    cases q : c.isx Z C with
    | none => rw [q] at e; cases e
    | some j =>
      rw [q] at e
      refine kitAny_cons (h C j (hc C (List.mem_cons_self ..)) q) (fun hj => ?_) (fun hj => ?_)
      · subst hj
        exact isxAny_kit (fun C' h' => hc C' (List.mem_cons_of_mem _ h')) h e
      · subst hj
        simp only [Option.some.injEq] at e
        exact e.symm
theorem isxAny_one {Z C : String} : isxAny c Z [C] = c.isx Z C := by
  unfold isxAny isxAny
  cases c.isx Z C with
  | none => rfl
  | some k => cases k <;> rfl
theorem isx_read {cs : List String} {σ : L2.St} {H : Hp} {Q : VK} (G : Good Y c b Bs W M X) {i : Nat} (hi : M.exi = some i) (h : tI Y Bs W (isxM c cs) σ H Q) : ∃ (z : ExS) (μ : List Addr) (k : Bool), Y.exs = some z ∧ σ[i]? = some (some (.ref z.at_)) ∧ ExcAt Y μ H z.C z.ns z.ds z.cls z.dd ∧ isxAny c z.C cs = some k ∧
    ∀ H', (∀ a o, H a = some o → H' a = some o) → Q (.bl k) H' := by
  obtain ⟨μ, ρ, S, w, en, k⟩ := h
  obtain ⟨z, hz, rfl⟩ := exs_of G hi
  obtain ⟨h1, x⟩ := en.ex z hz
  unfold isxM at k
  rw [(G.exn z hz).1] at k
  obtain ⟨r, hr, k2⟩ := k.of
  simp only [Option.map_eq_some_iff] at hr
  obtain ⟨t, ht, rfl⟩ := hr
  exact ⟨z, μ, t, hz, h1, x, ht, fun H' hs => k2 μ H' _ (.of_same hs) (w.same hs) (.bl t)⟩
theorem s_xis1 (G : Good Y c b Bs W M X) {cs : List String} {n : Str} {q p : Pos} {y z : Expr} (hn : gnB M.sc "isinstance" n = true) (hy : exnB M y = true) (hc : clsMt M cs [z] = true) :
    PE X (.Call (.Name n q) [y, z] [] p) (tI Y Bs W (isxM c cs)) := by
  obtain ⟨rfl, h4, h5⟩ := gnB_of hn
  obtain ⟨i, hi, hy'⟩ := e_exn G hy
  have hs : notStar y = true := by
    unfold exnB at hy
    split at hy
    · rfl
    · cases hy
  match cs, hc with
  | [], hc => simp [clsMt] at hc
  | C :: D' :: _, hc => cases z <;> simp [clsMt] at hc
  | [C], hc =>
    cases z with
    | Name n2 p2 =>
      have hc' := hc
      simp only [clsMt, Bool.and_eq_true] at hc'
      have hC : isB C = true ∨ M.cl C = true := by simpa using hc'.1
      refine (pe_callB (call_isX G) (G.gl h4) (G.bi _ isi_bis) PyProof.Rows.boot_isinstance (pa_cons hy' (pa_cons (e_cls G hc'.1 hc'.2.1) pa_nil (starEach_of rfl)) (starEach_of hs)) (by decide +kernel) (okN_db h5) (starEach_of hs) rfl).imp ?_
      intro σ H Q h
      obtain ⟨z, μ, k, hz, h1, x, ht, fin⟩ := isx_read G hi h
      rw [isxAny_one] at ht
      exact ⟨_, h1, z, μ, _, _, k, hz, x, rfl, clsV_is C, G.isxK _ C k ht hC, fin H fun _ _ h => h⟩
    | _ => simp [clsMt] at hc
theorem s_xisT (G : Good Y c b Bs W M X) {cs : List String} {n : Str} {q p p2 : Pos} {y : Expr} {zs : List Expr} {kk : Nat} (hn : gnB M.sc "isinstance" n = true) (hy : exnB M y = true) (hl : cs.length ≤ 1000) (hc : clsMt M cs zs = true) :
    PE X (.Call (.Name n q) [y, .Tuple zs kk p2] [] p) (tI Y Bs W (isxM c cs)) := by
  obtain ⟨rfl, h4, h5⟩ := gnB_of hn
  obtain ⟨i, hi, hy'⟩ := e_exn G hy
  have hs : notStar y = true := by
    unfold exnB at hy
    split at hy
    · rfl
    · cases hy
  refine (pe_callB (call_isXT G) (G.gl h4) (G.bi _ isi_bis) PyProof.Rows.boot_isinstance (pa_cons hy' (pa_cons (pe_tup (a_cls G hc)) pa_nil (starEach_of rfl)) (starEach_of hs)) (by decide +kernel) (okN_db h5) (starEach_of hs) rfl).imp ?_
  intro σ H Q h
  obtain ⟨z, μ, k, hz, h1, x, ht, fin⟩ := isx_read G hi h
  refine ⟨_, h1, by rw [List.length_map]; exact small_line hl, fun a na => ?_⟩
  have up : ∀ a' o, H a' = some o → upd H a (.tup (cs.map (clsV Y))) a' = some o := fun a' o h => by rw [upd_ne (ne_of_none h na)]; exact h
  exact ⟨z, μ, a, _, _, k, hz, x.move (.of_same up) (.refl _ _), rfl, upd_same, clsV_all cs, isxAny_kit (clsMt_mem hc) (fun C k' h1 h2 => G.isxK _ C k' h2 h1) ht, fin _ up⟩
theorem fld_rep {μ : List Addr} {H : Hp} {f : String} : ∀ {fs : List (Str × V)} {ns : List String} {ds : List D} {d : D}, fs.map (·.1) = ns.map nm → RepL Y μ H (fs.map (·.2)) ds → fldD f ns ds = some d → ∃ v, fs.lookup (nm f) = some v ∧ Rep Y μ H v d ∧ f ∈ ns
  | [], [], _, d, _, _, e => by simp [fldD] at e
  | [], _ :: _, _, _, h, _, _ => by simp at h
  | _ :: _, [], _, _, h, _, _ => by simp at h
  | (g, v) :: fs, n :: ns, _, d, h, r, e => by
    cases r with
    | cons r1 r2 =>
      simp only [List.map_cons, List.cons.injEq] at h
      obtain ⟨h1, h2⟩ := h
      subst h1
      unfold fldD at e
      by_cases q : n = f
      · subst q
        simp only [if_true, Option.some.injEq] at e
        subst e
        exact ⟨v, by simp [List.lookup], r1, List.mem_cons_self⟩
      · rw [if_neg q] at e
        obtain ⟨v', a1, a2, a3⟩ := fld_rep h2 r2 e
        have hq : (nm f == nm n) = false := by
          rw [beq_eq_false_iff_ne]
          exact fun z => q (nm_inj z).symm
        exact ⟨v', by rw [List.lookup, hq]; exact a1, a2, List.mem_cons_of_mem _ a3⟩
theorem s_xfld (G : Good Y c b Bs W M X) {f : String} {y : Expr} {p : Pos} (hy : exnB M y = true) : PE X (.Attribute y (nm f) p) (tI Y Bs W fun _ S => match c.exc with
    | some x => R.of S (fldD f x.2.1 x.2.2)
    | none => .bad) := by
  obtain ⟨i, hi, hy'⟩ := e_exn G hy
  have hb : attributeBase y (nm f) X.env (eval y X.env) = eval y X.env := by
    unfold exnB at hy
    split at hy
    · rfl
    · cases hy
  refine ⟨fun pins s σ H Q I h => ?_⟩
  obtain ⟨μ, ρ, S, w, en, k⟩ := h
  obtain ⟨z, hz, rfl⟩ := exs_of G hi
  obtain ⟨h1, x⟩ := en.ex z hz
  dsimp only at k
  rw [(G.exn z hz).1] at k
  obtain ⟨d, hr, k2⟩ := k.of
  refine attr_of hb (thn (hy'.run pins s σ H (fun v H' => v = .ref z.at_ ∧ H' = H) I ⟨_, h1, rfl, rfl⟩) fun u s1 hh => ?_)
  obtain ⟨v, H1, I1, rv, rfl, rfl⟩ := hh
  obtain rfl : u = Value.ref z.at_ := rv
  obtain ⟨oe, od, J, hd⟩ := exn_at G I1 hz x
  rcases x.flds with ⟨e1, e2, e3⟩ | ⟨a, fs, e1, e2, fr, e3, r⟩
  · rw [e2, e3] at hr
    simp [fldD] at hr
  · obtain ⟨v, hv, rv', hm⟩ := fld_rep e3 r hr
    rcases hd with ⟨q, _⟩ | ⟨a', fs', mA, o, q1, q2, rfl, hl, hrel⟩
    · rw [e1] at q; cases q
    · rw [e1] at q1
      obtain rfl := Option.some.inj q1
      rw [e2] at q2
      cases q2
      obtain ⟨u, hu, ru⟩ := RelO.some_of (v := v) (o := mA (nm f)) (by rw [← hv]; exact hrel (nm f))
      have F := x.cl
      have hno := x.no f hm
      have f2 := F.ga
      have f3 := F.gg
      have f4 := F.exC
      have f5 := F.hdC
      rw [G.hK] at hno f2 f3 f4 f5
      exact HandSPX.exc_get I1.kIn J f2 f3 f4 (PySem.W.findObj_own f5 hno rfl (by rw [hl, hu])) (handed_of ru) ⟨v, _, I1.tok _, ru, k2 μ _ v (.refl _ _) w rv'⟩
end
end CL
namespace CL
open PySem PySem.Spec PyProof.Rows L2
section
variable {X : Cx} {Y : Sx} {Bs : List Nat} {W : WX} {b : Nat} {M : MC} {c : Ctx}
theorem s_hcall (G : Good Y c b Bs W M X) {f : String} {n : Str} {q p : Pos} {y : Expr} (hf : M.hfn f = true) (hn : gnB M.sc f n = true) (hy : exnB M y = true) :
    PE X (.Call (.Name n q) [y] [] p) (tI Y Bs W fun _ S => match c.exc with | some x => c.hcall f x b S | none => .bad) := by
  obtain ⟨rfl, h4, h5⟩ := gnB_of hn
  obtain ⟨i, hi, hy'⟩ := e_exn G hy
  have hs : notStar y = true := by
    unfold exnB at hy
    split at hy
    · rfl
    · cases hy
  obtain ⟨k, a, fd, ps, F, hr, hm, hk, hb⟩ := (G.hfn f hf).get
  obtain ⟨z, hz, rfl⟩ := exs_of G hi
  obtain ⟨hx, oe, hp, hZ, fv, hv⟩ := G.exn z hz
  refine ⟨fun pins s σ H Q I ⟨μ, ρ, S, w, en, k1⟩ => ?_⟩
  obtain ⟨h1, x⟩ := en.ex z hz
  rw [hx] at k1
  refine wpAny_Call_Name_kw (ld_glob I (G.gl h4) hm ?_ (okN_db h5))
  have ha := pa_cons hy' pa_nil (starEach_of hs)
  refine PySem.W.callWith_K (h₀ := X.base) I.ok.mod.kin hk (thn (ha.run p pins s σ H (fun vs H1 => vs = [V.ref z.at_] ∧ H1 = H) I ⟨_, h1, rfl, rfl⟩) fun us s1 ⟨vs, H1, I1, r, e1, e2⟩ => ⟨I1.kIn, ?_⟩) (starEach_of hs) rfl
  subst e1 e2
  exact run_fnE (E := WE W) F hr hp hb (passAt G.tk σ) I1 r ⟨Y, rfl, z, b, Bs, μ, S, rfl, rfl, hZ, ⟨fv, hv⟩, G.hb, w, x, k1.noσ⟩
end
end CL
namespace CL
open PySem PySem.Spec PyProof.Rows L2
mutual
theorem D.same_eq : ∀ a b : D, D.same a b = true → a = b
  | .non, b, h => by cases b <;> simp [D.same] at h <;> rfl
  | .bl x, b, h => by cases b <;> simp [D.same] at h; subst h; rfl
  | .int x, b, h => by cases b <;> simp [D.same] at h; subst h; rfl
  | .str x, b, h => by cases b <;> simp [D.same] at h; subst h; rfl
  | .tup xs, b, h => by
    cases b with
    | tup ys => rw [D.same] at h; rw [D.sameL_eq xs ys h]
    | _ => simp [D.same] at h
  | .lst xs, b, h => by
    cases b with
    | lst ys => rw [D.same] at h; rw [D.sameL_eq xs ys h]
    | _ => simp [D.same] at h
  | .way xs, b, h => by
    cases b with
    | way ys => rw [D.same] at h; rw [D.sameL_eq xs ys h]
    | _ => simp [D.same] at h
  | .dic t ks vs, b, h => by
    cases b with
    | dic u js ws =>
      simp only [D.same, Bool.and_eq_true, beq_iff_eq] at h
      rw [h.1, D.sameL_eq ks js h.2.1, D.sameL_eq vs ws h.2.2]
    | _ => simp [D.same] at h
  | .ins C ns ds, b, h => by
    cases b with
    | ins C' ms es =>
      simp only [D.same, Bool.and_eq_true, beq_iff_eq] at h
      rw [h.1, h.2.1, D.sameL_eq ds es h.2.2]
    | _ => simp [D.same] at h
  | .exn C ns ds, b, h => by
    cases b with
    | exn C' ms es =>
      simp only [D.same, Bool.and_eq_true, beq_iff_eq] at h
      rw [h.1, h.2.1, D.sameL_eq ds es h.2.2]
    | _ => simp [D.same] at h
  | .ref i, b, h => by cases b <;> simp [D.same] at h; subst h; rfl
  | .scr x, b, h => by cases b <;> simp [D.same] at h; subst h; rfl
theorem D.sameL_eq : ∀ a b : List D, D.sameL a b = true → a = b
  | [], b, h => by cases b <;> simp [D.sameL] at h; rfl
  | x :: xs, b, h => by
    cases b with
    | nil => simp [D.sameL] at h
    | cons y ys =>
      simp only [D.sameL, Bool.and_eq_true] at h
      rw [D.same_eq x y h.1, D.sameL_eq xs ys h.2]
end
mutual
theorem D.same_self : ∀ a : D, D.same a a = true
  | .non => rfl
  | .bl x => by simp [D.same]
  | .int x => by simp [D.same]
  | .str x => by simp [D.same]
  | .tup xs => by rw [D.same]; exact D.sameL_self xs
  | .lst xs => by rw [D.same]; exact D.sameL_self xs
  | .way xs => by rw [D.same]; exact D.sameL_self xs
  | .dic t ks vs => by rw [D.same, D.sameL_self ks, D.sameL_self vs]; simp
  | .ins C ns ds => by rw [D.same, D.sameL_self ds]; simp
  | .exn C ns ds => by rw [D.same, D.sameL_self ds]; simp
  | .ref i => by simp [D.same]
  | .scr x => by simp [D.same]
theorem D.sameL_self : ∀ a : List D, D.sameL a a = true
  | [] => rfl
  | x :: xs => by rw [D.sameL, D.same_self x, D.sameL_self xs]; rfl
end
theorem repIntsL {Y : Sx} {μ : List Addr} {H : Hp} : ∀ ns : List Int, RepL Y μ H (ns.map V.int) (ns.map D.int)
  | [] => .nil
  | n :: ns => .cons (.int n) (repIntsL ns)
def WalkOk (Y : Sx) (μ1 : List Addr) (H1 : Hp) (J : L2.It) (w : Walk) : Prop := ∀ (Y' : Sx) (μ' : List Addr) (H' : Hp), Up Y H1 Y' → Ext μ1 H1 μ' H' → ∀ (Bs : List Nat) (S' : Store), World Y' Bs μ' H' S' → w.still S' = true →
  (∀ (i : Nat) (d : D), w.items[i]? = some d → J.go i H' ∧ ∀ (x : V) (H'' : Hp), J.yld i H' x H'' → ∃ μ'', Ext μ' H' μ'' H'' ∧ World Y' Bs μ'' H'' S' ∧ Rep Y' μ'' H'' x d) ∧ J.stop w.items.length H'
abbrev tW (Y : Sx) (Bs : List Nat) (W : WX) (m : Env → Store → R Walk) : TI := tX Y Bs (fun μ H (J : L2.It) w => WalkOk Y μ H J w) W m
section
variable {Y : Sx} {K : PySem.W.Frag} {μ1 : List Addr} {H1 : Hp} {a : Addr} {w : Walk}
theorem walk_lst (h : ∀ (Y' : Sx) (μ' : List Addr) (H' : Hp), Up Y H1 Y' → Ext μ1 H1 μ' H' → ∀ (Bs : List Nat) (S' : Store), World Y' Bs μ' H' S' → w.still S' = true → ∃ xs, SqL K H' a xs ∧ RepL Y' μ' H' xs w.items) : WalkOk Y μ1 H1 (Itl K a) w := by
  intro Y' μ' H' u e Bs S' wo st
  obtain ⟨xs, hs, r⟩ := h Y' μ' H' u e Bs S' wo st
  refine ⟨fun i d hd => ?_, xs, hs, by rw [r.length]; exact Nat.le_refl _⟩
  obtain ⟨x, hx, rx⟩ := r.get hd
  refine ⟨⟨xs, x, hs, hx⟩, fun y H'' q => ?_⟩
  obtain ⟨rfl, hy⟩ := q
  have e2 := hy xs hs
  rw [hx] at e2
  cases e2
  exact ⟨μ', .refl _ _, wo, rx⟩
theorem walk_tup (h : ∀ (Y' : Sx) (μ' : List Addr) (H' : Hp), Up Y H1 Y' → Ext μ1 H1 μ' H' → ∀ (Bs : List Nat) (S' : Store), World Y' Bs μ' H' S' → w.still S' = true → ∃ xs, SqT K H' a xs ∧ RepL Y' μ' H' xs w.items) : WalkOk Y μ1 H1 (Itt K a) w := by
  intro Y' μ' H' u e Bs S' wo st
  obtain ⟨xs, hs, r⟩ := h Y' μ' H' u e Bs S' wo st
  refine ⟨fun i d hd => ?_, xs, hs, by rw [r.length]; exact Nat.le_refl _⟩
  obtain ⟨x, hx, rx⟩ := r.get hd
  refine ⟨⟨xs, x, hs, hx⟩, fun y H'' q => ?_⟩
  obtain ⟨rfl, hy⟩ := q
  have e2 := hy xs hs
  rw [hx] at e2
  cases e2
  exact ⟨μ', .refl _ _, wo, rx⟩
theorem walk_str {l : List Nat} : WalkOk Y μ1 H1 (Its ⟨l.toArray⟩) ⟨l.map fun c => .str [c], []⟩ := by
  intro Y' μ' H' u e Bs S' wo st
  refine ⟨fun i d hd => ?_, by simp [Its]⟩
  rw [List.getElem?_map, Option.map_eq_some_iff] at hd
  obtain ⟨ch, hc, rfl⟩ := hd
  have hl := (List.getElem?_eq_some_iff.mp hc).1
  refine ⟨by simpa [Its] using hl, fun y H'' q => ?_⟩
  obtain ⟨rfl, k, hk, rfl⟩ := q
  have : k = ch := by
    have h2 : l[i]? = some k := by simpa using hk
    rw [hc] at h2
    exact (Option.some.inj h2).symm
  subst this
  exact ⟨μ', .refl _ _, wo, .str [k]⟩
theorem list_at {Y : Sx} {Bs : List Nat} {W : WX} {μ : List Addr} {H : Hp} {S : Store} {x : V} {d : D} {l : List D} {hd : List (Nat × List D)} (w : World Y Bs μ H S) (r : Rep Y μ H x d) (h : listD S d = some (l, hd)) :
    ∃ a, x = .ref a ∧ ∀ (Y' : Sx) (μ' : List Addr) (H' : Hp), Up Y H Y' → Ext μ H μ' H' → ∀ (Bs : List Nat) (S' : Store), World Y' Bs μ' H' S' → (Walk.mk [] hd).still S' = true → ∃ xs, H' a = some (.lst xs) ∧ RepL Y' μ' H' xs l := by
  cases r with
  | lst hx n rr =>
    simp only [listD, Option.some.injEq, Prod.mk.injEq] at h
    obtain ⟨rfl, rfl⟩ := h
    exact ⟨_, rfl, fun Y' μ' H' u e Bs S' _ _ => ⟨_, e.keep _ _ n.out hx, rr.move e u⟩⟩
  | @ref a i hi =>
    simp only [listD] at h
    cases hc : S[i]? with
    | none => rw [hc] at h; cases h
    | some ce =>
      rw [hc] at h
      cases ce with
      | lst ds =>
        simp only [Option.some.injEq, Prod.mk.injEq] at h
        obtain ⟨rfl, rfl⟩ := h
        refine ⟨_, rfl, fun Y' μ' H' u e Bs S' w' st => ?_⟩
        unfold Walk.still at st
        simp only [List.all_cons, List.all_nil, Bool.and_true] at st
        have hi' := e.get hi
        cases hc' : S'[i]? with
        | none => rw [hc'] at st; cases st
        | some ce' =>
          rw [hc'] at st
          cases ce' with
          | lst ds' =>
            have := D.sameL_eq _ _ st
            subst this
            have co := w'.cells i _ _ hi' hc'
            cases co with
            | lst h2 r2 => exact ⟨_, h2, r2⟩
          | _ => cases st
      | _ => cases h
  | _ => simp [listD] at h
theorem still_app {S : Store} {p q : List (Nat × List D)} {l l' l'' : List D} (h : (Walk.mk l (p ++ q)).still S = true) : (Walk.mk l' p).still S = true ∧ (Walk.mk l'' q).still S = true := by
  unfold Walk.still at *
  simp only [List.all_append, Bool.and_eq_true] at h
  exact h
theorem numbered_get : ∀ (l : List D) (k i : Nat) (d : D), (numbered k l)[i]? = some d → ∃ x, l[i]? = some x ∧ d = .tup [.int ((k + i : Nat) : Int), x]
  | [], k, i, d, h => by simp [numbered] at h
  | y :: l, k, 0, d, h => by
    simp only [numbered, List.getElem?_cons_zero, Option.some.injEq] at h
    exact ⟨y, rfl, h.symm⟩
  | y :: l, k, i + 1, d, h => by
    simp only [numbered, List.getElem?_cons_succ] at h
    obtain ⟨x, h1, h2⟩ := numbered_get l (k + 1) i d h
    exact ⟨x, by simpa using h1, by rw [h2]; congr 3; congr 1; omega⟩
theorem numbered_len : ∀ (l : List D) (k : Nat), (numbered k l).length = l.length
  | [], _ => rfl
  | _ :: l, k => by simp [numbered, numbered_len l]
theorem pairs_get : ∀ (l m : List D) (i : Nat) (d : D), (pairs l m)[i]? = some d → ∃ x y, l[i]? = some x ∧ m[i]? = some y ∧ d = .tup [x, y]
  | [], m, i, d, h => by simp [pairs] at h
  | x :: l, [], i, d, h => by simp [pairs] at h
  | x :: l, y :: m, 0, d, h => by
    simp only [pairs, List.getElem?_cons_zero, Option.some.injEq] at h
    exact ⟨x, y, rfl, rfl, h.symm⟩
  | x :: l, y :: m, i + 1, d, h => by
    simp only [pairs, List.getElem?_cons_succ] at h
    obtain ⟨a, b, h1, h2, h3⟩ := pairs_get l m i d h
    exact ⟨a, b, by simpa using h1, by simpa using h2, h3⟩
theorem pairs_len : ∀ (l m : List D), (pairs l m).length = min l.length m.length
  | [], m => by simp [pairs]
  | x :: l, [] => by simp [pairs]
  | x :: l, y :: m => by
    simp only [pairs, List.length_cons, pairs_len l m]
    omega
end
theorem still_self {S1 : Store} {d : D} {l : List D} {hd : List (Nat × List D)} (hl : listD S1 d = some (l, hd)) : (Walk.mk [] hd).still S1 = true := by
  unfold Walk.still
  cases d with
  | lst ds =>
    simp only [listD, Option.some.injEq, Prod.mk.injEq] at hl
    rw [← hl.2]; rfl
  | ref i =>
    simp only [listD] at hl
    cases hc : S1[i]? with
    | none => rw [hc] at hl; cases hl
    | some ce =>
      rw [hc] at hl
      cases ce with
      | lst ds =>
        simp only [Option.some.injEq, Prod.mk.injEq] at hl
        rw [← hl.2]
        simp only [List.all_cons, List.all_nil, Bool.and_true, hc]
        exact D.sameL_self ds
      | _ => cases hl
  | _ => simp [listD] at hl
section
variable {X : Cx} {Y : Sx} {Bs : List Nat} {W : WX} {b : Nat} {M : MC} {c : Ctx} {tg x y : Expr} {p q : Pos} {ma mb : Env → Store → R D} {mas : Env → Store → R (List D)}
theorem i_val (hK : Y.ca.K = X.K) (ha : PE X x (tI Y Bs W ma)) : PI X tg x (tW Y Bs W fun ρ S => (ma ρ S).bind fun d S1 => R.of S1 (walkD S1 d)) := by
  refine ⟨fun pins s σ H R I ⟨μ, ρ, S, w, en, k⟩ => ?_⟩
  refine thn (ha.run pins s σ H _ I (tX.bind (Q := fun u H1 => ∃ (μ1 : List Addr) (S1 : Store) (d : D) (wk : Walk), World Y Bs μ1 H1 S1 ∧ Rep Y μ1 H1 u d ∧ walkD S1 d = some wk ∧ ∀ J : L2.It, WalkOk Y μ1 H1 J wk → R J H1) w en k fun d S1 μ1 H1 u w1 en1 x1 r1 k1 => ?_)) fun v s1 ⟨u, H1, I1, r1, μ1, S1, d, wk, w1, rd, hw, fin⟩ => ?_
  · obtain ⟨wk, hw, k2⟩ := k1.of
    exact ⟨μ1, S1, d, wk, w1, r1, hw, fun J hJ => k2 μ1 H1 J (.refl _ _) w1 hJ⟩
  · have lists : ∀ {a : Addr} {xs : List V}, u = .ref a → SqL X.K H1 a xs → WalkOk Y μ1 H1 (Itl X.K a) wk → wpAny (model X.prog X.w) X.A (pyIter v) (PIE X pins σ tg R) X.xe s1 := by
      intro a xs e hq hJ
      subst e
      cases r1
      obtain ⟨its, rv, pl, hz⟩ := I1.list hq
      refine wpAny_pyIter_list pl.isList ?_
      refine ⟨s1.heap.objs.size, [s1.heap.objs.size], _, _, H1, rfl, I1.kept (t' := s1.toks) fun b o e => Heap.get?_push_of_some _ e, turn_list a _, ⟨_, Heap.get?_push_size _ rfl, rfl, rfl⟩, fun b hb => ?_, fin _ hJ⟩
      have e : b = s1.heap.objs.size := by simpa using hb
      subst e
      exact I1.fpOk (Nat.le_refl _) (I1.hok.fresh (Nat.le_refl _))
    have tups : ∀ {a : Addr} {xs : List V}, u = .ref a → SqT X.K H1 a xs → WalkOk Y μ1 H1 (Itt X.K a) wk → wpAny (model X.prog X.w) X.A (pyIter v) (PIE X pins σ tg R) X.xe s1 := by
      intro a xs e hq hJ
      subst e
      cases r1
      obtain ⟨its, rv, pl, hz⟩ := I1.tuple hq
      refine wpAny_pyIter_tuple (show s1.heap.IsTuple a its.toArray from pl) ?_
      refine ⟨s1.heap.objs.size, [s1.heap.objs.size], _, _, H1, rfl, I1.kept (t' := s1.toks) fun b o e => Heap.get?_push_of_some _ e, turn_tuple a _, ⟨_, Heap.get?_push_size _ rfl, rfl, rfl⟩, fun b hb => ?_, fin _ hJ⟩
      have e : b = s1.heap.objs.size := by simpa using hb
      subst e
      exact I1.fpOk (Nat.le_refl _) (I1.hok.fresh (Nat.le_refl _))
    have viaList : ∀ {l : List D} {hd : List (Nat × List D)}, listD S1 d = some (l, hd) → wk = ⟨l, hd⟩ → wpAny (model X.prog X.w) X.A (pyIter v) (PIE X pins σ tg R) X.xe s1 := by
      intro l hd hl e
      subst e
      obtain ⟨a, e1, g⟩ := list_at (W := W) w1 rd hl
      obtain ⟨xs, h1, _⟩ := g Y μ1 H1 (.refl _ _) (.refl _ _) Bs S1 w1 (still_self hl)
      refine lists e1 (.of h1) (walk_lst fun Y' μ' H' u e Bs S' w' st => ?_)
      obtain ⟨xs, h2, r2⟩ := g Y' μ' H' u e Bs S' w' st
      exact ⟨xs, .of h2, r2⟩
    cases d with
    | tup ds =>
      simp only [walkD, Option.some.injEq] at hw
      subst hw
      cases rd with
      | tup h n rr => exact tups rfl (.of h) (walk_tup fun Y' μ' H' u e Bs S' w' st => ⟨_, .of (e.keep _ _ n.out h), rr.move e u⟩)
    | way ds =>
      simp only [walkD, Option.some.injEq] at hw
      subst hw
      cases rd with
      | way h ho n rr => exact tups rfl (.inl (.inr ⟨_, h⟩)) (walk_tup fun Y' μ' H' u e Bs S' w' st => ⟨_, .inl (.inr ⟨_, e.keep _ _ n.out h⟩), rr.move e u⟩)
    | scr ns =>
      simp only [walkD, Option.some.injEq] at hw
      subst hw
      cases rd with
      | scr h =>
        refine lists rfl (scr_sql hK (h.imp (fun ⟨o, h, _⟩ => ⟨o, h⟩) id)) (walk_lst fun Y' μ' H' u e Bs S' w' st => ⟨_, scr_sql (Y := Y') (by rw [u.ca]; exact hK) (h.imp (fun ⟨o, h, n⟩ => ⟨o, e.keep _ _ n.out h⟩) fun h => ?_), repIntsL ns⟩)
        rw [u.ca]; exact h
    | str l =>
      simp only [walkD, Option.some.injEq] at hw
      subst hw
      cases rd
      obtain ⟨t, rfl⟩ := r1
      have q := fin _ (walk_str (l := l))
      cases ha : (Str.mk l.toArray).cps.all (· < 128)
      · exact wpAny_pyIter_wide ha (pi_one (tk := s1.toks) I1 _ (turn_str _ _ t "str_iterator" (.inr rfl)) ⟨_, Heap.get?_push_size _ rfl, rfl, rfl⟩ q)
      · exact wpAny_pyIter_ascii ha (pi_one (tk := s1.toks) I1 _ (turn_str _ _ t "str_ascii_iterator" (.inl rfl)) ⟨_, Heap.get?_push_size _ rfl, rfl, rfl⟩ q)
    | lst ds =>
      simp only [walkD, listD, Option.map_some, Option.some.injEq] at hw
      exact viaList (l := ds) (hd := []) rfl hw.symm
    | ref i =>
      simp only [walkD, Option.map_eq_some_iff] at hw
      obtain ⟨⟨l, hd⟩, hl, rfl⟩ := hw
      exact viaList hl rfl
    | _ => simp [walkD, listD] at hw
theorem walk_rng {μ1 : List Addr} {H1 : Hp} {n : Nat} {f : Nat → Int} {J : L2.It} (h1 : ∀ i H', J.go i H' ↔ i < n) (h2 : ∀ i H' x H'', J.yld i H' x H'' → H'' = H' ∧ x = .int (f i)) (h3 : ∀ H', J.stop n H') : WalkOk Y μ1 H1 J ⟨(List.range n).map fun (k : Nat) => .int (f k), []⟩ := by
  intro Y' μ' H' u e Bs S' wo st
  refine ⟨fun j d hd => ?_, by simpa using h3 H'⟩
  rw [List.getElem?_map, Option.map_eq_some_iff] at hd
  obtain ⟨m, hm, rfl⟩ := hd
  obtain ⟨hlt, he⟩ := List.getElem?_eq_some_iff.mp hm
  simp at hlt he
  refine ⟨(h1 j H').mpr hlt, fun z H'' qz => ?_⟩
  obtain ⟨rfl, rfl⟩ := h2 _ _ _ _ qz
  subst he
  exact ⟨μ', .refl _ _, wo, .int _⟩
theorem i_range1 (G : Good Y c b Bs W M X) {n : Str} (hn : gnB M.sc "range" n = true) (hs : notStar x = true) (hl : ∀ ρ S ds S', mas ρ S = .ok ds S' → ds.length = 1) (ha : PA X [x] (tA Y Bs W mas)) :
    PI X tg (.Call (.Name n q) [x] [] p) (tW Y Bs W fun ρ S => (mas ρ S).bind fun ds S1 => R.of S1 ((ranges ds).map fun l => ⟨l, []⟩)) := by
  obtain ⟨rfl, h4, h5⟩ := gnB_of hn
  have base := pi_range1 (X := X) (tg := tg) (p := q) (pos := p) (G.gl h4) (G.bi "range" (by decide +kernel)) ha (starEach_of hs)
  refine ⟨fun pins s σ H R I ⟨μ, ρ, S, w, en, k⟩ => base.run pins s σ H R I ?_⟩
  refine tX.bind' w en k fun ds S1 μ1 H1 vs e w1 en1 x1 r1 k1 => ?_
  obtain ⟨wk, hw, k2⟩ := k1.of
  match ds, hl _ _ _ _ e, r1, hw with
  | [d], _, r1, hw =>
    obtain ⟨v, rfl, rv⟩ := rep1 r1
    cases rv with
    | int i =>
      simp only [ranges] at hw
      split at hw
      · rename_i hc
        simp only [Option.map_some, Option.some.injEq] at hw
        subst hw
        refine ⟨i, rfl, by omega, by omega, k2 μ1 H1 _ (.refl _ _) w1 ?_⟩
        exact walk_rng (f := fun k => (k : Int)) (fun _ _ => Iff.rfl) (fun j H' z H'' qz => ⟨qz.1, by rw [qz.2, Int.zero_add]⟩) (fun _ => Nat.le_refl _)
      · cases hw
    | _ => simp [ranges] at hw
theorem i_range2 (G : Good Y c b Bs W M X) {n : Str} (hn : gnB M.sc "range" n = true) (hs : notStar x = true) (hs2 : notStar y = true) (hl : ∀ ρ S ds S', mas ρ S = .ok ds S' → ds.length = 2) (ha : PA X [x, y] (tA Y Bs W mas)) :
    PI X tg (.Call (.Name n q) [x, y] [] p) (tW Y Bs W fun ρ S => (mas ρ S).bind fun ds S1 => R.of S1 ((ranges ds).map fun l => ⟨l, []⟩)) := by
  obtain ⟨rfl, h4, h5⟩ := gnB_of hn
  have base := pi_range2 (X := X) (tg := tg) (p := q) (pos := p) (G.gl h4) (G.bi "range" (by decide +kernel)) ha (by rw [starEach_of hs, starEach_of hs2]; rfl) (starEach_of hs2)
  refine ⟨fun pins s σ H R I ⟨μ, ρ, S, w, en, k⟩ => base.run pins s σ H R I ?_⟩
  refine tX.bind' w en k fun ds S1 μ1 H1 vs e w1 en1 x1 r1 k1 => ?_
  obtain ⟨wk, hw, k2⟩ := k1.of
  match ds, hl _ _ _ _ e, r1, hw with
  | [d, d'], _, r1, hw =>
    obtain ⟨v, v', rfl, rv, rv'⟩ := rep2 r1
    cases rv with
    | int i =>
      cases rv' with
      | int j =>
        simp only [ranges] at hw
        split at hw
        · rename_i hc
          simp only [Option.map_some, Option.some.injEq] at hw
          subst hw
          · refine ⟨i, j, rfl, ⟨by omega, by omega, by omega, by omega⟩, k2 μ1 H1 _ (.refl _ _) w1 ?_⟩
            exact walk_rng (f := fun k => i + (k : Int)) (fun _ _ => Iff.rfl) (fun m H' z H'' qz => qz) (fun _ => Nat.le_refl _)
        · cases hw
      | _ => simp [ranges] at hw
    | _ => cases rv' <;> simp [ranges] at hw
theorem i_range3 (G : Good Y c b Bs W M X) {n : Str} {z : Expr} (hn : gnB M.sc "range" n = true) (hs : notStar x = true) (hs2 : notStar y = true) (hs3 : notStar z = true) (hl : ∀ ρ S ds S', mas ρ S = .ok ds S' → ds.length = 3) (ha : PA X [x, y, z] (tA Y Bs W mas)) :
    PI X tg (.Call (.Name n q) [x, y, z] [] p) (tW Y Bs W fun ρ S => (mas ρ S).bind fun ds S1 => R.of S1 ((ranges ds).map fun l => ⟨l, []⟩)) := by
  obtain ⟨rfl, h4, h5⟩ := gnB_of hn
  have base := pi_range3 (X := X) (tg := tg) (p := q) (pos := p) (G.gl h4) (G.bi "range" (by decide +kernel)) ha (starEach_of hs) (starEach_ns (xs := [y, z]) (by simp [allNS, hs2, hs3])).1
  refine ⟨fun pins s σ H R I ⟨μ, ρ, S, w, en, k⟩ => base.run pins s σ H R I ?_⟩
  refine tX.bind' w en k fun ds S1 μ1 H1 vs e w1 en1 x1 r1 k1 => ?_
  obtain ⟨wk, hw, k2⟩ := k1.of
  match ds, hl _ _ _ _ e, r1, hw with
  | [d1, d2, d3], _, r1, hw =>
    cases r1 with
    | cons ri r2 =>
      cases r2 with
      | cons rj r3 =>
        cases r3 with
        | cons rl r4 =>
          cases r4
          have key : ∃ i j l, d1 = .int i ∧ d2 = .int j ∧ d3 = .int l := by
            clear k2 ri rj rl
            unfold ranges at hw
            split at hw
            · rename_i h; simp at h
            · rename_i h; simp at h
            · rename_i a' b' c' h
              simp only [List.cons.injEq, and_true] at h
              exact ⟨_, _, _, h.1, h.2.1, h.2.2⟩
            · cases hw
          obtain ⟨i, j, l, rfl, rfl, rfl⟩ := key
          cases ri
          cases rj
          cases rl
          simp only [ranges] at hw
          split at hw
          · rename_i hc
            obtain ⟨rfl, h1, h2, h3, h4⟩ := hc
            simp only [Option.map_some, Option.some.injEq] at hw
            subst hw
            refine ⟨i, j, -1, (i - j).toNat, rfl, RgC.neg (by omega) (by omega) (by omega) (by omega), k2 μ1 H1 _ (.refl _ _) w1 ?_⟩
            exact walk_rng (f := fun k => i - (k : Int)) (fun _ _ => Iff.rfl) (fun m H' z H'' qz => ⟨qz.1, by rw [qz.2]; congr 1; omega⟩) (fun _ => Nat.le_refl _)
          · cases hw
theorem enum_ok {μ1 : List Addr} {H1 : Hp} {a : Addr} {l : List D} {hd : List (Nat × List D)} {K : PySem.W.Frag} (g : ∀ (Y' : Sx) (μ' : List Addr) (H' : Hp), Up Y H1 Y' → Ext μ1 H1 μ' H' → ∀ (Bs : List Nat) (S' : Store), World Y' Bs μ' H' S' → (Walk.mk [] hd).still S' = true → ∃ xs, H' a = some (.lst xs) ∧ RepL Y' μ' H' xs l) :
    WalkOk Y μ1 H1 (Ite K a) ⟨numbered 0 l, hd⟩ := by
  intro Y' μ' H' u e Bs S' wo st
  obtain ⟨xs, h1, r⟩ := g Y' μ' H' u e Bs S' wo st
  refine ⟨fun i d hd => ?_, xs, .of h1, by rw [numbered_len, r.length]; exact Nat.le_refl _⟩
  obtain ⟨z, hz, rfl⟩ := numbered_get l 0 i d hd
  obtain ⟨v, hv, rv⟩ := r.get hz
  refine ⟨⟨xs, v, .of h1, hv⟩, fun y H'' qy => ?_⟩
  obtain ⟨T, v', rfl, nT, rfl, hall⟩ := qy
  have e2 := hall xs (.of h1)
  rw [hv] at e2
  cases e2
  refine ⟨μ', .laid nT, wo.laid nT, .tup upd_same (wo.fresh nT) (.cons ?_ (.cons (rv.ext (.laid nT)) .nil))⟩
  rw [Nat.zero_add]
  exact .int _
theorem zip_ok {μ1 : List Addr} {H1 : Hp} {a a' : Addr} {l l' : List D} {hd hd' : List (Nat × List D)} {K : PySem.W.Frag} (g : ∀ (Y' : Sx) (μ' : List Addr) (H' : Hp), Up Y H1 Y' → Ext μ1 H1 μ' H' → ∀ (Bs : List Nat) (S' : Store), World Y' Bs μ' H' S' → (Walk.mk [] hd).still S' = true → ∃ xs, H' a = some (.lst xs) ∧ RepL Y' μ' H' xs l)
    (g' : ∀ (Y' : Sx) (μ' : List Addr) (H' : Hp), Up Y H1 Y' → Ext μ1 H1 μ' H' → ∀ (Bs : List Nat) (S' : Store), World Y' Bs μ' H' S' → (Walk.mk [] hd').still S' = true → ∃ xs, H' a' = some (.lst xs) ∧ RepL Y' μ' H' xs l') :
    WalkOk Y μ1 H1 (Itz K a a') ⟨pairs l l', hd ++ hd'⟩ := by
  intro Y' μ' H' u e Bs S' wo st
  obtain ⟨st1, st2⟩ := still_app (l' := []) (l'' := []) st
  obtain ⟨xs, h1, r⟩ := g Y' μ' H' u e Bs S' wo st1
  obtain ⟨ys, h2, r'⟩ := g' Y' μ' H' u e Bs S' wo st2
  refine ⟨fun i d hd => ?_, xs, ys, .of h1, .of h2, ?_⟩
  · obtain ⟨z, z', hz, hz', rfl⟩ := pairs_get l l' i d hd
    obtain ⟨v, hv, rv⟩ := r.get hz
    obtain ⟨v', hv', rv'⟩ := r'.get hz'
    refine ⟨⟨xs, ys, v, v', .of h1, .of h2, hv, hv'⟩, fun y H'' qy => ?_⟩
    obtain ⟨T, u1, u2, rfl, nT, rfl, hall, hall'⟩ := qy
    have e2 := hall xs (.of h1)
    rw [hv] at e2
    cases e2
    have e3 := hall' ys (.of h2)
    rw [hv'] at e3
    cases e3
    exact ⟨μ', .laid nT, wo.laid nT, .tup upd_same (wo.fresh nT) (.cons (rv.ext (.laid nT)) (.cons (rv'.ext (.laid nT)) .nil))⟩
  · have h3 := r.length
    have h4 := r'.length
    simp only [pairs_len]
    omega
end
end CL
namespace CL
open PySem PySem.Spec PyProof.Rows L2
theorem enum_tup_meets (l : Addr) (items : Array Value) (o : Obj) (ho : o = { cls := .type "tuple_iterator", data := .fields #[.ref l, .int 0 0] }) :
    Meets (Builtin.«enumerate.__new__» ⟨[.type "enumerate", .ref l], []⟩) (fun _ R z => IsTup z.heap l items ∧
      R (.ok (.ret (.ref (z.heap.push o).objs.size))) { z with heap := (z.heap.push o).push { cls := .type "enumerate", data := .fields #[.none, .bool false, .ref z.heap.objs.size, rawInt 0, .none, .none] } }) :=
  .of_wp fun prog w A R z h => by
    subst ho
    obtain ⟨hp, g, d, tk, os⟩ := z
    obtain ⟨h1, h⟩ := h
    have sub := sub_enumerate
    have q1 : ∀ {A1 : Around} {E1 : Value → Shared → Prop} {Q1 : Value → Shared → Prop}, Q1 (.ref hp.objs.size) ⟨hp.push { cls := .type "tuple_iterator", data := .fields #[.ref l, .int 0 0] }, g, d, tk, os⟩ → wpAny (model prog w) A1 (pyIter (.ref l)) Q1 E1 ⟨hp, g, d, tk, os⟩ :=
      fun q => (begins_tuple l items).iter prog w _ _ ⟨hp, g, d, tk, os⟩ _ h1 q
    wp_walk using q1
    refine wpAny_stack_any fun stk => wpAny_pure ?_
    split
    · rename_i cc _ _ _ _ _
      cases (cc == Value.type "enumerate") <;>
      · wp_walk using q1
        exact ⟨_, rfl, h⟩
    · wp_walk using q1
      exact ⟨_, rfl, h⟩
theorem enum_tup {prog : Program} {w : PySem.World} {A : Around} {E : Value → Shared → Prop} {s : Shared} {l : Addr} {items : Array Value} {Q : Value → Shared → Prop} (hl : IsTup s.heap l items)
    (h : ∀ h1, IsEnum h1 (s.heap.objs.size + 1) s.heap.objs.size 0 .none → h1.IsTupleIter s.heap.objs.size l 0 → h1.objs.size = s.heap.objs.size + 2 → (∀ b u, s.heap.get? b = some u → h1.get? b = some u) → Q (.ref (s.heap.objs.size + 1)) { s with heap := h1 }) :
    wpAny (model prog w) A (call (.type "enumerate") [.ref l]) Q E s := by
  refine callType_new F.called_enumerate (by decide) (F.typeCall_enumerate_1 _) (F.newCall_enumerate_1 _) (fun obj => F.args_object_init_2 obj _) F.entry_enumerate_new (enum_tup_meets l items _ rfl) ⟨hl, ?_⟩
  have z1 : (s.heap.push { cls := .type "tuple_iterator", data := .fields #[.ref l, .int 0 0] }).objs.size = s.heap.objs.size + 1 := Heap.size_push ..
  show _ ∧ _
  rw [z1]
  have e1 : IsEnum ((s.heap.push { cls := .type "tuple_iterator", data := .fields #[.ref l, .int 0 0] }).push
      { cls := .type "enumerate", data := .fields #[.none, .bool false, .ref s.heap.objs.size, rawInt 0, .none, .none] }) (s.heap.objs.size + 1) s.heap.objs.size 0 .none := by
    have q := Heap.get?_push_size (s.heap.push { cls := .type "tuple_iterator", data := .fields #[.ref l, .int 0 0] })
      (o := { cls := .type "enumerate", data := .fields #[.none, .bool false, .ref s.heap.objs.size, rawInt 0, .none, .none] }) rfl
    rw [z1] at q
    exact q
  exact ⟨⟨_, e1, rfl⟩, h _ e1 ⟨_, Heap.get?_push_of_some _ (Heap.get?_push_size _ rfl), rfl, rfl⟩ (by rw [Heap.size_push, z1]) fun b u z => Heap.get?_push_of_some _ (Heap.get?_push_of_some _ z)⟩
def IteT (K : PySem.W.Frag) (a : Addr) : L2.It :=
  ⟨fun i H => ∃ (xs : List V) (x : V), SqT K H a xs ∧ xs[i]? = some x,
    fun i H v H1 => ∃ T x, v = .ref T ∧ H T = none ∧ H1 = upd H T (.tup [.int (i : Nat), x]) ∧ ∀ xs, SqT K H a xs → xs[i]? = some x,
    fun i H => ∃ xs : List V, SqT K H a xs ∧ xs.length ≤ i⟩
theorem turn_enumT {P : Program} {w : PySem.World} {K : PySem.W.Frag} {elts : List Expr} {kk : Nat} {tpos : Pos} (a e it : Addr) :
    Turn P w K (.Tuple elts kk tpos) (IteT K a) [e, it] e (fun i h => (∃ old, IsEnum h e it ((i : Nat) : Int) old) ∧ h.IsTupleIter it a i ∧ e ≠ it ∧ a ≠ it ∧ e ≠ a) where
  mem := List.mem_cons_self
  obj := by
    rintro i h ⟨⟨old, he⟩, ⟨o, ho, hc, hd⟩, _⟩ b hb
    simp only [List.mem_cons, List.not_mem_nil, or_false] at hb
    rcases hb with rfl | rfl
    · exact ⟨_, he, fun v q => nomatch q⟩
    · exact ⟨o, ho, fun v q => by rw [hd] at q; cases q⟩
  keep := fun i h h1 ⟨⟨old, he⟩, hi, hne⟩ k => ⟨⟨old, k e (by simp) _ he⟩, hi.at fun o q => k it (by simp) o q, hne⟩
  item := by
    intro X hP hw hK hcalm i pins s σ H E I hf st hg
    subst hP hw hK
    obtain ⟨⟨old, he⟩, hit, hne, hai, hea⟩ := st
    obtain ⟨xs, x, hq, hx⟩ := hg
    obtain ⟨its, rv, p, _⟩ := I.tuple hq
    obtain ⟨u, hu, ru⟩ := rv.get hx
    have hel : e < s.heap.objs.size := Heap.lt_size he
    have hil : it < s.heap.objs.size := by
      obtain ⟨_, q, _⟩ := hit
      exact Heap.lt_size q
    have hlt : i < its.toArray.size := by
      have := (List.getElem?_eq_some_iff.mp hu).1
      simpa using this
    refine wpAny_pyNext_enum_itemC (n := its.toArray.size) (Draws.tuple (A := X.A.in1) (I.ok.hd hcalm) it a hai its.toArray) he ⟨hit, p⟩ hlt hne (by simp [hne, hea]) fun y h1 tk hy ho hst hT hsz hk => ?_
    have hyu : y = u := by
      have z : its.toArray[i]? = some u := by simpa using hu
      exact Option.some.inj (hy.symm.trans z)
    subst hyu
    refine ⟨_, rfl, wpAny_letOwnedTupleGo_enum (s := { s with heap := h1, toks := tk + 1 }) ho fun h2 he2 sb => ?_⟩
    have hT2 : h2.get? s.heap.objs.size = some { cls := .type "tuple", data := .seq #[.int (i : Nat) tk, y] } := (sb.2 _ (Nat.ne_of_gt hel)).trans hT
    have new : ObjOk X.prog X.w (upd H s.heap.objs.size (.tup [.int (i : Nat), x])) h2 s.heap.objs.size (.tup [.int (i : Nat), x]) :=
      ⟨by show 2 ≤ sizeLine; decide, [.int i tk, y], .cons ⟨_, rfl⟩ (.cons ru .nil), ⟨_, hT2, rfl, _, rfl⟩⟩
    have I1 : Inv X pins σ (upd H s.heap.objs.size (.tup [.int (i : Nat), x])) { s with heap := h2, toks := tk + 1 } :=
      I.turnedNew (ch := [e, it]) (fun b ob hb q => (sb.2 b fun z => hb (by simp [z])).trans (hk b ob (fun z => hb (by simp [z])) (fun z => hb (by simp [z])) q)) hf (Nat.le_refl _) new
    refine ⟨.ref s.heap.objs.size, _, I1, rfl, ⟨_, x, rfl, I.hok.fresh (Nat.le_refl _), rfl, fun ys hy' => by rw [I.tuple_inj hy' hq]; exact hx⟩, ⟨⟨y, ?_⟩, hst.1.at fun o q => (sb.2 it (Ne.symm hne)).trans q, hne, hai, hea⟩, fun b hb => ?_⟩
    · have e1 : ((i + 1 : Nat) : Int) = (i : Int) + 1 := by omega
      rw [e1]
      exact he2
    · have hlt2 : b < s.heap.objs.size := by
        simp only [List.mem_cons, List.not_mem_nil, or_false] at hb
        rcases hb with rfl | rfl
        · exact hel
        · exact hil
      rw [upd_ne (Nat.ne_of_lt hlt2)]
      exact (hf b hb).1
  done := by
    intro X hP hw hK hcalm i pins s σ H E I hf st hg
    subst hP hw hK
    obtain ⟨⟨old, he⟩, hit, hne, hai, hea⟩ := st
    obtain ⟨xs, hq, hx⟩ := hg
    obtain ⟨its, rv, p, _⟩ := I.tuple hq
    obtain ⟨f0, f1, f2, f3, f4, f5⟩ := hf it (by simp)
    have hl := rv.length
    obtain ⟨oi, hoi, hci, hdi⟩ := id hit
    show wpAny (model X.prog X.w) X.A (pyNext (.ref e)) _ _ _
    have hT : s.TypeIs (.ref e) "enumerate" := ⟨_, he, rfl⟩
    unfold pyNext
    refine wpAny_bind (wpAny_attempt (wpAny_callSpecial?_slot (name := Str.ofString "__next__") hT F.slot_enumerate_next (wpAny_call_entry F.slot_enumerate_next hT F.entry_enumerate_next ?_ (F.args_enumerate_next_1 _))))
    show wpAny _ _ (field (.ref e) 2 >>= _) _ _ _
    refine wpAny_bind (wpAny_field he rfl (x := .ref it) rfl (wpAny_bind (wpAny_nextOf_tuple_end (A := X.A.in1) (I.ok.hd hcalm) hit p (by simp; omega) fun h1 x eb ⟨o, ho, hc⟩ => ?_)))
    refine wpAny_bind (wpAny_isInstance (T := "StopIteration") (b := true) ⟨o, ho, hc⟩ isSubtype_stop (wpAny_pure ?_))
    exact ⟨rfl, I.turned (t' := s.toks) (fun b o hb q => eb b o hb q) f0 f1 f3 f4 f5⟩
  self := fun A i s Q E ⟨⟨_, he⟩, _⟩ h => wpAny_pyIter_enum he h
def iEnumA (K : PySem.W.Frag) (ta : TA) : TI := fun σ H R => ta σ H fun vs H1 => ∃ a xs, vs = [.ref a] ∧ ((SqL K H1 a xs ∧ R (Ite K a) H1) ∨ (SqT K H1 a xs ∧ R (IteT K a) H1))
theorem pi_enumA {X : Cx} {e : Expr} {ta : TA} {p pos tpos : Pos} {elts : List Expr} {kk : Nat} (hg : Gl X "enumerate") (hm : X.mg "enumerate" = none) (ha : PA X [e] ta) (hs : starEach [e] X.env = [(false, eval e X.env)]) :
    PI X (.Tuple elts kk tpos) (.Call (.Name "enumerate" p) [e] [] pos) (iEnumA X.K ta) := by
  refine ⟨fun pins s σ H R I h => Call_ (ld_blt I hg hm boot_enumerate (PyProof.Rows.callWith_type1 (thn (ha.run pos pins s σ H _ I h) fun us s1 ⟨vs, H1, I1, r1, q1⟩ => ?_) hs rfl))⟩
  obtain ⟨a, xs, rfl, q⟩ := q1
  obtain ⟨u, rfl, ru⟩ := vals1 r1
  obtain rfl : u = Value.ref a := ru
  have fps : ∀ b ∈ [s1.heap.objs.size + 1, s1.heap.objs.size], FpOk X pins H1 b := fun b hb => by
    simp only [List.mem_cons, List.not_mem_nil, or_false] at hb
    have hle : s1.heap.objs.size ≤ b := by rcases hb with rfl | rfl <;> omega
    exact I1.fpOk hle (I1.hok.fresh hle)
  rcases q with ⟨hq, q⟩ | ⟨hq, q⟩
  · obtain ⟨its, rv, p1, _⟩ := I1.list hq
    exact call_enumerate_list p1.isList fun h1 he hit hsz hk => wpAny_pyIter_enum he ⟨_, _, _, _, H1, rfl, I1.kept (t' := s1.toks) hk, turn_enum a (s1.heap.objs.size + 1) s1.heap.objs.size, ⟨⟨.none, he⟩, hit, Nat.succ_ne_self _⟩, fps, q⟩
  · obtain ⟨its, rv, p1, _⟩ := I1.tuple hq
    have hal : a < s1.heap.objs.size := by
      obtain ⟨o, ho, _⟩ := id p1
      exact Heap.lt_size ho
    exact enum_tup p1 fun h1 he hit hsz hk => wpAny_pyIter_enum he ⟨_, _, _, _, H1, rfl, I1.kept (t' := s1.toks) hk, turn_enumT a (s1.heap.objs.size + 1) s1.heap.objs.size, ⟨⟨.none, he⟩, hit, Nat.succ_ne_self _, Nat.ne_of_lt hal, Nat.ne_of_gt (Nat.lt_succ_of_lt hal)⟩, fps, q⟩
section
variable {X : Cx} {Y : Sx} {Bs : List Nat} {W : WX} {b : Nat} {M : MC} {c : Ctx} {tg x y : Expr} {p q : Pos} {ma mb : Env → Store → R D}
theorem tup_at {μ : List Addr} {H : Hp} {v : V} {d : D} {l : List D} (r : Rep Y μ H v d) (h : tupD d = some l) : ∃ a xs, v = .ref a ∧ (H a = some (.tup xs) ∨ ∃ o, H a = some (.frz o (.tup xs))) ∧ Fr Y μ a ∧ RepL Y μ H xs l := by
  cases r with
  | tup hx n rr =>
    simp only [tupD, Option.some.injEq] at h
    subst h
    exact ⟨_, _, rfl, .inl hx, n, rr⟩
  | way hx ho n rr =>
    simp only [tupD, Option.some.injEq] at h
    subst h
    exact ⟨_, _, rfl, .inr ⟨_, hx⟩, n, rr⟩
  | _ => simp [tupD] at h
theorem sqt_of {K : PySem.W.Frag} {H : Hp} {a : Addr} {xs : List V} (h : H a = some (.tup xs) ∨ ∃ o, H a = some (.frz o (.tup xs))) : SqT K H a xs := by
  rcases h with h | ⟨o, h⟩
  · exact .of h
  · exact .inl (.inr ⟨o, h⟩)
theorem tup_keep {μ μ' : List Addr} {H H' : Hp} {a : Addr} {xs : List V} (e : Ext μ H μ' H') (n : Fr Y μ a) (h : H a = some (.tup xs) ∨ ∃ o, H a = some (.frz o (.tup xs))) : H' a = some (.tup xs) ∨ ∃ o, H' a = some (.frz o (.tup xs)) := by
  rcases h with h | ⟨o, h⟩
  · exact .inl (e.keep _ _ n.out h)
  · exact .inr ⟨o, e.keep _ _ n.out h⟩
theorem sqt_inj {K : PySem.W.Frag} {H : Hp} {a : Addr} {xs ys : List V} (h : H a = some (.tup xs) ∨ ∃ o, H a = some (.frz o (.tup xs))) (h' : SqT K H a ys) (hK : K.lookup a = none ∨ True) : SqT K H a xs := sqt_of h
theorem enumT_ok {μ1 : List Addr} {H1 : Hp} {a : Addr} {xs : List V} {l : List D} {K : PySem.W.Frag} (hx : H1 a = some (.tup xs) ∨ ∃ o, H1 a = some (.frz o (.tup xs))) (n : Fr Y μ1 a) (r : RepL Y μ1 H1 xs l) : WalkOk Y μ1 H1 (IteT K a) ⟨numbered 0 l, []⟩ := by
  intro Y' μ' H' u e Bs S' wo st
  have hx' := tup_keep e n hx
  have r' := r.move e u
  refine ⟨fun i d hd => ?_, xs, sqt_of hx', by rw [numbered_len, r.length]; exact Nat.le_refl _⟩
  obtain ⟨z, hz, rfl⟩ := numbered_get l 0 i d hd
  obtain ⟨v, hv, rv⟩ := r'.get hz
  refine ⟨⟨xs, v, sqt_of hx', hv⟩, fun y H'' qy => ?_⟩
  obtain ⟨T, v', rfl, nT, rfl, hall⟩ := qy
  have e2 := hall xs (sqt_of hx')
  rw [hv] at e2
  cases e2
  refine ⟨μ', .laid nT, wo.laid nT, .tup upd_same (wo.fresh nT) (.cons ?_ (.cons (rv.ext (.laid nT)) .nil))⟩
  rw [Nat.zero_add]
  exact .int _
theorem zipT_ok {μ1 : List Addr} {H1 : Hp} {a a' : Addr} {xs ys : List V} {l l' : List D} {K : PySem.W.Frag} (hx : H1 a = some (.tup xs) ∨ ∃ o, H1 a = some (.frz o (.tup xs))) (n : Fr Y μ1 a) (r : RepL Y μ1 H1 xs l) (hy : H1 a' = some (.tup ys) ∨ ∃ o, H1 a' = some (.frz o (.tup ys))) (n' : Fr Y μ1 a') (r2 : RepL Y μ1 H1 ys l') :
    WalkOk Y μ1 H1 (RZ.ItzT K a a') ⟨pairs l l', []⟩ := by
  intro Y' μ' H' u e Bs S' wo st
  have hx' := tup_keep e n hx
  have hy' := tup_keep e n' hy
  have r' := r.move e u
  have r2' := r2.move e u
  refine ⟨fun i d hd => ?_, xs, ys, sqt_of hx', sqt_of hy', ?_⟩
  · obtain ⟨z, z', hz, hz', rfl⟩ := pairs_get l l' i d hd
    obtain ⟨v, hv, rv⟩ := r'.get hz
    obtain ⟨v', hv', rv'⟩ := r2'.get hz'
    refine ⟨⟨xs, ys, v, v', sqt_of hx', sqt_of hy', hv, hv'⟩, fun y H'' qy => ?_⟩
    obtain ⟨T, u1, u2, rfl, nT, rfl, hall, hall'⟩ := qy
    have e2 := hall xs (sqt_of hx')
    rw [hv] at e2
    cases e2
    have e3 := hall' ys (sqt_of hy')
    rw [hv'] at e3
    cases e3
    exact ⟨μ', .laid nT, wo.laid nT, .tup upd_same (wo.fresh nT) (.cons (rv.ext (.laid nT)) (.cons (rv'.ext (.laid nT)) .nil))⟩
  · have h3 := r'.length
    have h4 := r2'.length
    simp only [pairs_len]
    omega
theorem i_enum (G : Good Y c b Bs W M X) {n : Str} (hn : gnB M.sc "enumerate" n = true) (ht : isTuple tg = true) (hs : notStar x = true) (ha : PE X x (tI Y Bs W ma)) :
    PI X tg (.Call (.Name n q) [x] [] p) (tW Y Bs W fun ρ S => (ma ρ S).bind fun d S1 => R.of S1 (enumD S1 d)) := by
  obtain ⟨rfl, h4, h5⟩ := gnB_of hn
  cases tg with
  | Tuple ts kk tp =>
    have base := pi_enumA (X := X) (p := q) (pos := p) (elts := ts) (kk := kk) (tpos := tp) (G.gl h4) (G.bi "enumerate" (by decide +kernel)) (pa_cons ha pa_nil (starEach_of hs)) (starEach_of hs)
    refine ⟨fun pins s σ H R I ⟨μ, ρ, S, w, en, k⟩ => base.run pins s σ H R I ?_⟩
    refine tX.bind w en k fun d S1 μ1 H1 u w1 en1 x1 r1 k1 => ?_
    obtain ⟨wk, hw, k2⟩ := k1.of
    unfold enumD at hw
    cases ht2 : tupD d with
    | some l =>
      rw [ht2] at hw
      simp only [Option.some.injEq] at hw
      subst hw
      obtain ⟨a, xs, rfl, hx, n, rr⟩ := tup_at r1 ht2
      exact ⟨a, xs, rfl, .inr ⟨sqt_of hx, k2 μ1 H1 _ (.refl _ _) w1 (enumT_ok hx n rr)⟩⟩
    | none =>
      rw [ht2] at hw
      simp only [Option.map_eq_some_iff] at hw
      obtain ⟨⟨l, hd⟩, hl, rfl⟩ := hw
      obtain ⟨a, rfl, g⟩ := list_at (W := W) w1 r1 hl
      obtain ⟨xs, h1, _⟩ := g Y μ1 H1 (.refl _ _) (.refl _ _) Bs S1 w1 (still_self hl)
      exact ⟨a, xs, rfl, .inl ⟨.of h1, k2 μ1 H1 _ (.refl _ _) w1 (enum_ok g)⟩⟩
  | _ => cases ht
theorem i_zip (G : Good Y c b Bs W M X) {n : Str} (hn : gnB M.sc "zip" n = true) (ht : isTuple tg = true) (hs : notStar x = true) (hs2 : notStar y = true) (ha : PE X x (tI Y Bs W ma)) (hb : PE X y (tI Y Bs W mb)) :
    PI X tg (.Call (.Name n q) [x, y] [] p) (tW Y Bs W fun ρ S => (ma ρ S).bind fun d S1 => (mb ρ S1).bind fun e S2 => R.of S2 (zipD S2 d e)) := by
  obtain ⟨rfl, h4, h5⟩ := gnB_of hn
  cases tg with
  | Tuple ts kk tp =>
    have base := RZ.pi_zipA (X := X) (p := q) (pos := p) (elts := ts) (kk := kk) (tpos := tp) (G.gl h4) (G.bi "zip" (by decide +kernel)) (pa_cons ha (pa_cons hb pa_nil (starEach_of hs2)) (starEach_of hs)) (starEach_of hs) (starEach_ns (xs := [y]) (by simp [allNS, hs2])).1
    refine ⟨fun pins s σ H R I ⟨μ, ρ, S, w, en, k⟩ => base.run pins s σ H R I ?_⟩
    refine tX.bind w en k fun d S1 μ1 H1 u w1 en1 x1 r1 k1 => tX.bind w1 en1 k1 fun e S2 μ2 H2 v w2 en2 x2 r2 k2 => ?_
    obtain ⟨wk, hw, k3⟩ := k2.of
    unfold zipD at hw
    cases h1 : tupD d with
    | some l =>
      cases h2 : tupD e with
      | some l' =>
        rw [h1, h2] at hw
        simp only [Option.some.injEq] at hw
        subst hw
        obtain ⟨a, xs, rfl, hx, n, rr⟩ := tup_at (r1.ext x2) h1
        obtain ⟨a', ys, rfl, hy, n', rr'⟩ := tup_at r2 h2
        exact ⟨a, a', xs, ys, rfl, .inr ⟨sqt_of hx, sqt_of hy, k3 μ2 H2 _ (.refl _ _) w2 (zipT_ok hx n rr hy n' rr')⟩⟩
      | none => rw [h1, h2] at hw; cases hw
    | none =>
      cases h2 : tupD e with
      | some l' => rw [h1, h2] at hw; cases hw
      | none =>
        rw [h1, h2] at hw
        simp only [Option.bind_eq_some_iff, Option.map_eq_some_iff] at hw
        obtain ⟨⟨l, hd⟩, hl, ⟨l', hd'⟩, hl', rfl⟩ := hw
        obtain ⟨a, rfl, g⟩ := list_at (W := W) w2 (r1.ext x2) hl
        obtain ⟨a', rfl, g'⟩ := list_at (W := W) w2 r2 hl'
        obtain ⟨xs, h1, _⟩ := g Y μ2 H2 (.refl _ _) (.refl _ _) Bs S2 w2 (still_self hl)
        obtain ⟨ys, h2, _⟩ := g' Y μ2 H2 (.refl _ _) (.refl _ _) Bs S2 w2 (still_self hl')
        exact ⟨a, a', xs, ys, rfl, .inl ⟨.of h1, .of h2, k3 μ2 H2 _ (.refl _ _) w2 (zip_ok g g')⟩⟩
  | _ => cases ht
theorem s_ncat (ha : PE X x (tI Y Bs W ma)) (hb : PE X y (tI Y Bs W mb)) : PE X (.BinOp x .Add y p) (tI Y Bs W fun ρ S => (ma ρ S).bind fun d S1 => (mb ρ S1).bind fun e S2 => match bop .add (vw S2 d) (vw S2 e) with
    | some (.lst ds) => .ok (.ref S2.length) (S2 ++ [.lst ds])
    | _ => .bad) := by
  refine (pe_op op_cat ha hb).imp ?_
  rintro σ H Q ⟨μ, ρ, S, w, en, k⟩
  refine tX.bind w en k fun d S1 μ1 H1 u w1 en1 x1 r1 k1 => tX.bind w1 en1 k1 fun e S2 μ2 H2 v w2 en2 x2 r2 k2 => ?_
  have vd := view_of w2 (r1.ext x2)
  have ve := view_of w2 r2
  revert k2
  generalize vw S2 d = d' at vd
  generalize vw S2 e = e' at ve
  intro k2
  cases vd with
  | lst h1 rr1 =>
    cases ve with
    | lst h2 rr2 =>
      simp only [bop] at k2
      split at k2
      · rename_i heq
        split at heq
        · rename_i hc
          cases heq
          exact ⟨_, _, _, _, rfl, rfl, h1, h2, by rw [rr1.length, rr2.length]; exact lim_line (catOk_of hc), fun q hq => KR.cell k2 w2 hq (.lst upd_same ((rr1.append rr2).ext (.cell hq)))⟩
        · cases heq
      · exact k2.elim
    | _ => simp [bop] at k2 <;> exact k2.elim
  | str l =>
    cases ve with
    | str m => simp only [bop] at k2; split at k2 <;> first | exact k2.elim | (rename_i heq; split at heq <;> cases heq)
    | _ => simp [bop] at k2 <;> exact k2.elim
  | tup h1 n1 rr1 =>
    cases ve with
    | tup h2 n2 rr2 => simp only [bop] at k2; split at k2 <;> first | exact k2.elim | (rename_i heq; split at heq <;> cases heq)
    | way h2 ho2 n2 rr2 => simp only [bop] at k2; split at k2 <;> first | exact k2.elim | (rename_i heq; split at heq <;> cases heq)
    | _ => simp [bop] at k2 <;> exact k2.elim
  | way h1 ho1 n1 rr1 =>
    cases ve with
    | tup h2 n2 rr2 => simp only [bop] at k2; split at k2 <;> first | exact k2.elim | (rename_i heq; split at heq <;> cases heq)
    | _ => simp [bop] at k2 <;> exact k2.elim
  | int i =>
    cases ve with
    | int j => simp [bop] at k2 <;> exact k2.elim
    | _ => simp [bop] at k2 <;> exact k2.elim
  | _ => simp [bop] at k2 <;> exact k2.elim
def rNList (Y : Sx) (Bs : List Nat) : List V → Hp → VK → Prop := fun xs H Q => ∃ (μ : List Addr) (S : Store) (x : V) (d : D) (ds : List D), xs = [x] ∧ World Y Bs μ H S ∧ Rep Y μ H x d ∧ seqD (vw S d) = some ds ∧ ∀ (p : Addr) (ys : List V), H p = none → RepL Y μ H ys ds → Q (.ref p) (upd H p (.lst ys))
theorem call_nlist : CallR X (.type "list") (rNList Y Bs) := by
  intro pins s σ H xs us Q I r h
  obtain ⟨μ, S, x, d, ds, rfl, w, rx, hs, k⟩ := h
  have vd := view_of w rx
  revert hs
  generalize vw S d = d' at vd
  intro hs
  cases vd with
  | lst h rr =>
    simp only [seqD, Option.some.injEq] at hs
    subst hs
    exact call_list_of pins s σ H _ us Q I r ⟨_, _, rfl, .inl (.of h), fun l hl => k l _ hl rr⟩
  | tup h n rr =>
    simp only [seqD, Option.some.injEq] at hs
    subst hs
    exact call_list_of pins s σ H _ us Q I r ⟨_, _, rfl, .inr (.of h), fun l hl => k l _ hl rr⟩
  | way h ho n rr =>
    simp only [seqD, Option.some.injEq] at hs
    subst hs
    exact call_list_of pins s σ H _ us Q I r ⟨_, _, rfl, .inr (.inl (.inr ⟨_, h⟩)), fun l hl => k l _ hl rr⟩
  | _ => simp [seqD] at hs
theorem s_nlist (G : Good Y c b Bs W M X) {n : Str} (hn : gnB M.sc "list" n = true) (hs : notStar x = true) (ha : PE X x (tI Y Bs W ma)) : PE X (.Call (.Name n q) [x] [] p) (tI Y Bs W fun ρ S => (ma ρ S).bind fun d S1 => match seqD (vw S1 d) with
    | some ds => .ok (.ref S1.length) (S1 ++ [.lst ds])
    | none => .bad) := by
  obtain ⟨rfl, h4, h5⟩ := gnB_of hn
  have hv := boot_fb .list
  refine (pe_callTy (call_nlist (Y := Y) (Bs := Bs)) (G.gl h4) (G.bi _ (fb_bis .list)) hv (pa_cons ha pa_nil (starEach_of hs)) (fb_name .list) (okN_db h5) (starEach_of hs) rfl).imp ?_
  rintro σ H Q ⟨μ, ρ, S, w, en, k⟩
  refine tX.bind w en k fun d S1 μ1 H1 u w1 en1 x1 r1 k1 => ?_
  cases hq : seqD (vw S1 d) with
  | none => rw [hq] at k1; exact k1.elim
  | some ds =>
    rw [hq] at k1
    exact ⟨μ1, S1, u, d, ds, rfl, w1, r1, hq, fun p ys hp rr => KR.cell k1 w1 hp (.lst upd_same (rr.ext (.cell hp)))⟩
end
end CL
namespace PySem
open PyProof.Rows
namespace ClSets
theorem sub_tup_set : isSubtype (.type "tuple") (.type "set") = pure false := by
  rw [isSubtype_type]
  kernel_rfl
theorem sub_tup_frz : isSubtype (.type "tuple") (.type "frozenset") = pure false := by
  rw [isSubtype_type]
  kernel_rfl
abbrev nil_ (led : Bool) : Obj := { cls := .type "set", dict := none, data := .set #[] 0 (.fresh 0 0 led) }
section
variable {prog : Program} {w : World} {A : Around} {E : Value → Shared → Prop} {s : Shared}
theorem upd_loop {R : Result → Shared → Prop} {I N : Addr} {fp wr : List Addr} {G : Array GenState → Array GenState → Prop} {n : Nat} {P : Nat → Value → Prop} {St : Nat → Shared → Prop} (W : WalksS prog w A.in1 I fp wr G n P St) (hN : N ∉ fp) (J : Nat → Heap → Prop)
    (jk : ∀ i (h h1 : Heap), J i h → (∀ b o, b ∉ wr → h.get? b = some o → h1.get? b = some o) → J i h1)
    (add : ∀ (i : Nat) (v : Value) (z : Shared) (E1 : Value → Shared → Prop) (Q1 : Bool → Shared → Prop), P i v → i < n → J i z.heap → (∀ bb h1 tk, z.toks ≤ tk → Heap.SameBut N z.heap h1 → J (i + 1) h1 → Q1 bb { z with heap := h1, toks := tk }) → wpAny (model prog w) A.in1 (setAdd N v) Q1 E1 z) :
    ∀ (m i : Nat) (z : Shared), n - i = m → i ≤ n → St i z → J i z.heap → (∀ z1, Moved (N :: wr) G z z1 → J n z1.heap → R (.ok (.ret .none)) z1) → codeAny (model prog w) A (.builtin "set.update.loop" ⟨[.ref N, .ref I], []⟩) R z := by
  have nw : N ∉ wr := fun q => hN (W.sub _ q)
  have sub : ∀ b ∈ wr, b ∈ N :: wr := fun b hb => List.mem_cons_of_mem _ hb
  intro m
  induction m with
  | zero =>
    intro i z hm hi hst hJ hR
    obtain rfl : i = n := by omega
    refine codeAny_builtin F.entry_set_update_loop ?_
    rw [Around.under_plainId F.plain_set_update_loop _]
    show wpAny _ A.in1 (pyNext (.ref I) >>= _) _ _ z
    refine wpAny_bind (W.done z _ _ hst fun z1 mv => ?_)
    show wpAny _ A.in1 (ret Value.none) _ _ z1
    exact wpAny_pure (hR z1 (mv.mono sub) (jk _ _ _ hJ mv.heap))
  | succ m ih =>
    intro i z hm hi hst hJ hR
    have lt : i < n := by omega
    refine codeAny_builtin F.entry_set_update_loop ?_
    rw [Around.under_plainId F.plain_set_update_loop _]
    show wpAny _ A.in1 (pyNext (.ref I) >>= _) _ _ z
    refine wpAny_bind (W.item i z _ _ lt hst fun v z1 hP hst1 mv => ?_)
    show wpAny _ A.in1 (holding [v] (setAdd N v) >>= _) _ _ z1
    refine wpAny_bind (wpAny_holding (add i v z1 _ _ hP lt (jk _ _ _ hJ mv.heap) fun bb h1 tk htk sb hJ1 => ?_))
    have kp : ∀ b o, b ∉ N :: wr → z1.heap.get? b = some o → h1.get? b = some o := fun b o hb e => by
      rw [sb.2 b (fun q => hb (by rw [q]; exact List.mem_cons_self))]
      exact e
    have fr : ∀ b ∈ fp, ∀ o, z1.heap.get? b = some o → h1.get? b = some o := fun b hb o e => by
      rw [sb.2 b (fun q => hN (by rw [← q]; exact hb))]
      exact e
    exact wpAny_pure ⟨plainId_quiet F.plain_set_update_loop _, ih (i + 1) _ (by omega) lt (W.frame _ z1 _ _ hst1 htk fr) hJ1 fun z2 mv2 hJ2 => hR z2 (Moved.trans W.gtrans ((mv.mono sub).then_heap htk kp) mv2) hJ2⟩
theorem set_from {T : String} {l : Addr} {ol : Obj} {its : Array Value} {nl : Nat} {Q : Value → Shared → Prop} (hh : A.handled = none) (hT : T = "list" ∨ T = "tuple") (hol : s.heap.get? l = some ol) (hcl : ol.cls = .type T) (hdl : ol.data = .seq its nl)
    (J : Nat → Heap → Prop) (j0 : ∀ led (h1 : Heap), led = (!w.params.followText "set-order") → (∀ b o, s.heap.get? b = some o → h1.get? b = some o) → h1.get? s.heap.objs.size = some (nil_ led) → J 0 h1)
    (jk : ∀ i (h h1 : Heap), J i h → (∀ b o, b ≠ s.heap.objs.size + 1 → h.get? b = some o → h1.get? b = some o) → J i h1)
    (add : ∀ (i : Nat) (v : Value) (z : Shared) (E1 : Value → Shared → Prop) (Q1 : Bool → Shared → Prop), its[i]? = some v → J i z.heap → (∀ bb h1 tk, z.toks ≤ tk → Heap.SameBut s.heap.objs.size z.heap h1 → J (i + 1) h1 → Q1 bb { z with heap := h1, toks := tk }) → wpAny (model prog w) A.in1.in1.in1 (setAdd s.heap.objs.size v) Q1 E1 z)
    (h : ∀ (h1 : Heap) (tk : Nat), J its.size h1 → (∀ b o, b < s.heap.objs.size → s.heap.get? b = some o → h1.get? b = some o) → Q (.ref s.heap.objs.size) { s with heap := h1, toks := tk }) :
    wpAny (model prog w) A (call (.type "set") [.ref l]) Q E s := by
  obtain ⟨cc, tl, hmro⟩ := F.called_set.mro
  have hmade := F.called_set.made
  have hsub := F.called_set.sub
  refine wpAny_call (codeAny_of_tree ?_)
  show wpAny _ _ (callAny (.type "set") _) _ _ _
  refine wpAny_pure ⟨Code.quiet_builtin _ (by decide +kernel), codeAny_builtin PySem.F.entry_type_call ?_⟩
  rw [Around.under_plain (weight_type_call_type "set" [.ref l] []) rfl]
  have g1 := F.called_set.notType
  have g2 := F.called_set.canCreate
  have g3 := F.typeCall_set_1 (.ref l)
  repeat (any_goals (first | assumption | wp_step))
  refine codeAny_mono (L2.code_set_led1 (.ref l) (E := E) (Q₁ := fun x z => ∃ led : Bool, led = (!w.params.followText "set-order") ∧ x = .ref s.heap.objs.size ∧ z = { s with heap := s.heap.push (nil_ led) }) ⟨_, rfl, rfl, rfl⟩) fun r z hr => ?_
  cases r with
  | error er => exact hr
  | ok fl =>
    cases fl with
    | ret x =>
      obtain ⟨led, hled, rfl, rfl⟩ := hr
      have hS : (s.heap.push (nil_ led)).get? s.heap.objs.size = some (nil_ led) := Heap.get?_push_size _ rfl
      have hTy : Shared.TypeIs { s with heap := s.heap.push (nil_ led) } (.ref s.heap.objs.size) "set" := ⟨_, hS, rfl⟩
      have hli := F.called_set.init.lookup
      have hbi := F.called_set.init.bind (.ref s.heap.objs.size)
      repeat (any_goals (first | assumption | wp_step))
      refine codeAny_mono (codeAny_call_builtin (R := wants (fun r z2 => r = .none ∧ ∃ h1 tk, z2 = { s with heap := h1, toks := tk } ∧ J its.size h1 ∧
          (∀ b o, b < s.heap.objs.size → s.heap.get? b = some o → h1.get? b = some o)) E) F.called_set.init.plain F.entry_set_init (check_set_init_1 hTy ?_)) fun r2 z2 hr2 => ?_
      · obtain ⟨lcls, ldict, ldata, lslots⟩ := ol
        simp only at hcl hdl
        subst hcl
        subst hdl
        have hol2 : (s.heap.push (nil_ led)).get? l = some { cls := .type T, dict := ldict, data := .seq its nl, slots := lslots } := Heap.get?_push_of_some _ hol
        have hlt : l < s.heap.objs.size := Heap.lt_size hol
        have hh3 : A.in1.in1.in1.handled = none := by simp [hh]
        have psz : (s.heap.push (nil_ led)).objs.size = s.heap.objs.size + 1 := Heap.size_push ..
        have hneI : l ≠ (s.heap.push (nil_ led)).objs.size := by
          rw [psz]
          exact Nat.ne_of_lt (Nat.lt_succ_of_lt hlt)
        have hSf : s.heap.objs.size ∉ [(s.heap.push (nil_ led)).objs.size, l] := by
          rw [psz]
          simp only [List.mem_cons, List.not_mem_nil, or_false, not_or]
          exact ⟨Nat.ne_of_lt (Nat.lt_succ_self _), Nat.ne_of_gt hlt⟩
        have fin : ∀ (io : Obj) (St : Nat → Heap → Prop) (z : Shared) (_ : Walks prog w A.in1.in1.in1 (s.heap.push (nil_ led)).objs.size [(s.heap.push (nil_ led)).objs.size, l] [(s.heap.push (nil_ led)).objs.size] its.size (fun i v => its[i]? = some v) St) (_ : z = { s with heap := (s.heap.push (nil_ led)).push io }) (_ : St 0 z.heap) (R : Result → Shared → Prop),
            (∀ h1 tk, J its.size h1 → (∀ b o, b < s.heap.objs.size → s.heap.get? b = some o → h1.get? b = some o) → R (.ok (.ret .none)) { s with heap := h1, toks := tk }) →
            codeAny (model prog w) A.in1.in1 (.builtin "set.update.loop" ⟨[.ref s.heap.objs.size, .ref (s.heap.push (nil_ led)).objs.size], []⟩) R z := by
          intro io St z W hz h0 R hR
          subst hz
          refine upd_loop W.toS hSf J (fun i h h1 hj k => jk i h h1 hj fun b o hb e => k b o (by rw [psz]; simpa using hb) e) (fun i v z E1 Q1 hP _ hj hq => add i v z E1 Q1 hP hj hq) (its.size - 0) 0 _ rfl (Nat.zero_le _) h0 ?_ ?_
          · refine j0 led _ hled (fun b o e => Heap.get?_push_of_some _ (Heap.get?_push_of_some _ e)) (Heap.get?_push_of_some _ hS)
          · intro z1 mv hj
            obtain ⟨h1, gg, dd, tt, oo⟩ := z1
            obtain rfl : gg = s.gens := mv.gens
            obtain rfl : dd = s.drawn := mv.drawn
            obtain rfl : oo = s.os := mv.os
            refine hR h1 tt hj fun b o hb e => ?_
            refine mv.heap b o ?_ (Heap.get?_push_of_some _ (Heap.get?_push_of_some _ e))
            rw [psz]
            simp only [List.mem_cons, List.not_mem_nil, or_false, not_or]
            exact ⟨Nat.ne_of_lt hb, Nat.ne_of_lt (Nat.lt_succ_of_lt hb)⟩
        have done : ∀ h1 tk, J its.size h1 → (∀ b o, b < s.heap.objs.size → s.heap.get? b = some o → h1.get? b = some o) → wants (fun r z2 => r = Value.none ∧ ∃ h1 tk, z2 = { s with heap := h1, toks := tk } ∧ J its.size h1 ∧
          (∀ b o, b < s.heap.objs.size → s.heap.get? b = some o → h1.get? b = some o)) E (.ok (.ret .none)) { s with heap := h1, toks := tk } := fun h1 tk hj k => ⟨rfl, h1, tk, rfl, hj, k⟩
        rcases hT with rfl | rfl
        · have t1 := F.sub_list_set
          have t2 := F.sub_list_frozenset
          have t3 : (Value.type "list" == Value.type "dict") = false := by decide
          have hl1 : (s.heap.push (nil_ led)).IsList l its := ⟨_, hol2, rfl, nl, rfl⟩
          unfold Builtin.«set.__init__» noKeywords Builtin.Frozenset.updateFrom
          generalize hPI : pyIter = PI
          wp_walk
          subst hPI
          refine wpAny_pyIter_list hl1 (wpAny_bind (wpAny_runValue (fin _ _ _ (Walks.list hh3 _ l hneI its) rfl ⟨⟨_, Heap.get?_push_size _ rfl, rfl, rfl⟩, hl1.push _⟩ _ fun h1 tk hj k => ?_)))
          show wpAny _ _ _ _ _ _
          exact wpAny_pure (wpAny_pure (done h1 tk hj k))
        · have t1 := sub_tup_set
          have t2 := sub_tup_frz
          have t3 : (Value.type "tuple" == Value.type "dict") = false := by decide
          have hl1 : IsTup (s.heap.push (nil_ led)) l its := ⟨_, hol2, rfl, nl, rfl⟩
          unfold Builtin.«set.__init__» noKeywords Builtin.Frozenset.updateFrom
          generalize hPI : pyIter = PI
          wp_walk
          subst hPI
          refine wpAny_pyIter_tuple hl1 (wpAny_bind (wpAny_runValue (fin _ _ _ (Walks.tuple hh3 _ l hneI its) rfl ⟨⟨_, Heap.get?_push_size _ rfl, rfl, rfl⟩, ⟨_, Heap.get?_push_of_some _ hol2, rfl, nl, rfl⟩⟩ _ fun h1 tk hj k => ?_)))
          show wpAny _ _ _ _ _ _
          exact wpAny_pure (wpAny_pure (done h1 tk hj k))
      · cases r2 with
        | error er => exact hr2
        | ok fl2 =>
          cases fl2 with
          | ret r =>
            obtain ⟨rfl, h1, tk, rfl, hj, k⟩ := hr2
            repeat (any_goals (first | assumption | wp_step))
            exact h _ _ hj k
          | _ => exact hr2.elim
    | _ => exact hr.elim
end
end ClSets
end PySem
namespace CL
open PySem PySem.Spec PyProof.Rows L2
def uniqS (l : List Str) : List Str := l.foldl (fun acc x => if acc.contains x then acc else acc ++ [x]) []
theorem uniqS_snoc (l : List Str) (x : Str) : uniqS (l ++ [x]) = if (uniqS l).contains x then uniqS l else uniqS l ++ [x] := by
  unfold uniqS
  rw [List.foldl_append]
  rfl
theorem uniqS_len (l : List Str) : (uniqS l).length ≤ l.length := by
  have key : ∀ (l acc : List Str), (l.foldl (fun acc x => if acc.contains x then acc else acc ++ [x]) acc).length ≤ acc.length + l.length := by
    intro l
    induction l with
    | nil => intro acc; simp
    | cons x l ih =>
      intro acc
      rw [List.foldl_cons]
      have := ih (if acc.contains x then acc else acc ++ [x])
      split at this <;> rename_i h
      · rw [if_pos h]; simp only [List.length_cons]; omega
      · rw [if_neg h]; simp only [List.length_append, List.length_cons, List.length_nil] at this ⊢; omega
  have := key l []
  simpa [uniqS] using this
theorem eqv_tD (a b : Str) : D.eqv (tD a) (tD b) = (a == b) := by
  show (a.cps.toList == b.cps.toList) = (a == b)
  rw [Bool.eq_iff_iff]
  cases a
  cases b
  simp
theorem firsts_uniq : ∀ (l acc : List Str), acc.map tD ++ firsts (acc.map tD) (l.map tD) = (l.foldl (fun acc x => if acc.contains x then acc else acc ++ [x]) acc).map tD
  | [], acc => by simp [firsts]
  | x :: l, acc => by
    rw [List.map_cons, List.foldl_cons]
    unfold firsts
    have e : ((acc.map tD).any fun z => D.eqv z (tD x)) = acc.contains x := by
      rw [List.any_map, List.contains_eq_any_beq]
      congr 1
      funext z
      show D.eqv (tD z) (tD x) = (x == z)
      rw [eqv_tD, Bool.eq_iff_iff]
      simp only [beq_iff_eq]
      exact eq_comm
    rw [e]
    by_cases h : acc.contains x = true
    · rw [if_pos h, if_pos h]; exact firsts_uniq l acc
    · rw [if_neg h, if_neg h]
      have := firsts_uniq l (acc ++ [x])
      rw [List.map_append] at this
      simpa using this
theorem set_texts {prog : Program} {w : PySem.World} {A : Around} {E : Value → Shared → Prop} {s : Shared} {T : String} {l : Addr} {ol : Obj} {its : List Value} {xs : List Str} {nl : Nat} {Q : Value → Shared → Prop} (hh : A.handled = none) (hT : T = "list" ∨ T = "tuple") (hol : s.heap.get? l = some ol) (hcl : ol.cls = .type T) (hdl : ol.data = .seq its.toArray nl)
    (hv : Vals (xs.map V.str) its) (hb : xs.length + 1 < scanBound)
    (h : ∀ (h1 : Heap) (tk : Nat), h1.SetOf (strKind prog w) s.heap.objs.size (fun k => (uniqS xs).contains k) (uniqS xs).length → (∀ b o, b < s.heap.objs.size → s.heap.get? b = some o → h1.get? b = some o) → Q (.ref s.heap.objs.size) { s with heap := h1, toks := tk }) :
    wpAny (model prog w) A (call (.type "set") [.ref l]) Q E s := by
  have hlen : its.length = xs.length := by rw [← hv.length, List.length_map]
  refine PySem.ClSets.set_from hh hT hol hcl hdl (fun i h1 => h1.SetOf (strKind prog w) s.heap.objs.size (fun k => (uniqS (xs.take i)).contains k) (uniqS (xs.take i)).length) ?_ ?_ ?_ ?_
  · intro led h1 _ k hN
    exact SetOf_congr ((setObjOf_fresh (knd := strKind prog w) led).setOf hN (by unfold scanBound; omega)) (fun _ => rfl) rfl
  · rintro i h0 h1 ⟨o, es, ep, t, ho, rest⟩ k
    exact ⟨o, es, ep, t, k _ _ (Nat.ne_of_lt (Nat.lt_succ_self _)) ho, rest⟩
  · intro i v z E1 Q1 hi hS hq
    have hi' : its[i]? = some v := by simpa using hi
    have hlt : i < xs.length := by
      have := (List.getElem?_eq_some_iff.mp hi').1
      omega
    obtain ⟨u, hu, ru⟩ := hv.get (i := i) (x := .str xs[i]) (by rw [List.getElem?_map, List.getElem?_eq_getElem hlt]; rfl)
    rw [hi'] at hu
    obtain rfl := Option.some.inj hu
    obtain ⟨t, rfl⟩ : ∃ t, v = Value.str xs[i] t := ru
    have his : (strKind prog w).is xs[i] (.str xs[i] t) = true := by
      simp [PySem.strKind, Value.isStrOf]
    unfold setAdd
    refine wpAny_holding (wpAny_bind ((strKind prog w).pyHash (k := xs[i]) his ?_))
    have hroom : (uniqS (xs.take i)).length + 1 < scanBound := by
      have := uniqS_len (xs.take i)
      rw [List.length_take] at this
      omega
    refine wpAny_setAddHashed_of (knd := strKind prog w) (s := { z with toks := z.toks + 1 }) his rfl hS hroom fun h1 sb hS2 => hq _ h1 (z.toks + 1) (Nat.le_succ _) sb ?_
    have et : xs.take (i + 1) = xs.take i ++ [xs[i]] := by rw [List.take_succ, List.getElem?_eq_getElem hlt]; rfl
    refine SetOf_congr hS2 (fun k => ?_) ?_
    · rw [et, uniqS_snoc]
      by_cases hc : (uniqS (xs.take i)).contains xs[i] = true
      · rw [if_pos hc]
        by_cases hk : k = xs[i]
        · subst hk; simpa using hc
        · simp [hk]
      · rw [if_neg hc, Bool.eq_iff_iff]
        simp
    · rw [et, uniqS_snoc]
      by_cases hc : (uniqS (xs.take i)).contains xs[i] = true
      · rw [if_pos hc, if_pos hc]
      · rw [if_neg hc, if_neg hc]; simp
  · intro h1 tk hS k
    have e : xs.take its.toArray.size = xs := by
      rw [List.size_toArray, hlen, List.take_length]
    rw [e] at hS
    exact h h1 tk hS k
theorem txts_tD : ∀ {ds : List D} {ls : List (List Nat)}, txts ds = some ls → ds = (ls.map sT).map tD
  | [], _, h => by
    simp only [txts, Option.some.injEq] at h
    subst h; rfl
  | d :: ds, ls, h => by
    cases d with
    | str l =>
      simp only [txts, Option.map_eq_some_iff] at h
      obtain ⟨m, hm, rfl⟩ := h
      rw [List.map_cons, List.map_cons, ← txts_tD hm]
      rfl
    | _ => simp [txts] at h
theorem boot_set' : bootBuiltins (nm "set") = some (.type "set") ∧ nm "set" ≠ "__name__" := by decide +kernel
theorem boot_len' : bootBuiltins (nm "len") = some (.builtin "len") ∧ nm "len" ≠ "__name__" := by decide +kernel
section
variable {X : Cx} {Y : Sx} {Bs : List Nat} {W : WX} {b : Nat} {M : MC} {c : Ctx} {y : Expr} {p p1 p2 q : Pos} {ma : Env → Store → R D}
theorem s_lset (G : Good Y c b Bs W M X) (hcm : M.calm = true) {n n2 : Str} (hn : gnB M.sc "len" n = true) (hn2 : gnB M.sc "set" n2 = true) (hs : notStar y = true) (ha : PE X y (tI Y Bs W ma)) :
    PE X (.Call (.Name n p) [.Call (.Name n2 p1) [y] [] q] [] p2) (tI Y Bs W fun ρ S => (ma ρ S).bind fun d S1 => R.of S1 (lsetD (vw S1 d))) := by
  obtain ⟨rfl, h4, h5⟩ := gnB_of hn
  obtain ⟨rfl, h6, h7⟩ := gnB_of hn2
  have m1 : X.mg (nm "len") = none := G.bi _ (by decide +kernel)
  have m2 : X.mg (nm "set") = none := G.bi _ (by decide +kernel)
  refine ⟨fun pins s σ H Q I ⟨μ, ρ, S, w, en, k⟩ => Call_ (ld_blt I (G.gl h4) m1 boot_len'.1 (callWith_builtin1 (args_cons (Call_ (ld_blt I (G.gl h6) m2 boot_set'.1 (callWith_type1 (args_cons (thn (ha.run pins s σ H _ I (tX.bind w en k fun d S1 μ1 H1 u w1 en1 x1 r1 k1 => (?_ : (fun (v : V) (H1 : Hp) => ∃ (a : Addr) (xs : List V) (ls : List (List Nat)), v = .ref a ∧ H1 a = some (.lst xs) ∧ xs = (ls.map sT).map V.str ∧ ls.length ≤ 4000 ∧ Q (.int (uniqS (ls.map sT)).length) H1) u H1))) ?_) (starEach_of hs)) (starEach_of hs) rfl) boot_set'.2 (okN_db h7))) rfl) rfl rfl) boot_len'.2 (okN_db h5))⟩
  · obtain ⟨r, hr, k2⟩ := k1.of
    have vd := view_of w1 r1
    revert hr
    generalize vw S1 d = d' at vd
    intro hr
    cases vd with
    | lst hx rr =>
      simp only [lsetD] at hr
      cases ht : txts _ with
      | none => rw [ht] at hr; cases hr
      | some ls =>
        rw [ht] at hr
        simp only at hr
        split at hr
        · rename_i hl
          simp only [Option.some.injEq] at hr
          subst hr
          refine ⟨_, _, ls, rfl, hx, repTxts rr ht, hl, ?_⟩
          have e := firsts_uniq (ls.map sT) []
          rw [← txts_tD ht] at e
          simp only [List.map_nil, List.nil_append] at e
          have e2 := congrArg List.length e
          rw [List.length_map] at e2
          have := k2 μ1 H1 (.int (firsts [] _).length) (.refl _ _) w1 (.int _)
          rw [e2] at this
          exact this
        · cases hr
    | _ => simp [lsetD] at hr
  · rintro v s1 ⟨x, H1, I1, r1, a, xs, ls, rfl, hx, rfl, hl, hq⟩
    obtain rfl : v = Value.ref a := r1
    refine args_nil ?_
    obtain ⟨its, rv, pl, hz⟩ := I1.list (.of hx)
    obtain ⟨ol, ho, hc, n, hd⟩ := pl.isList
    refine set_texts (I1.ok.hd (G.calm hcm)) (.inl rfl) ho hc hd rv (by rw [List.length_map]; unfold scanBound; omega) fun h1 tk hS kp => args_nil ?_
    obtain ⟨o, es, ep, t, ho2, hex, hd2, _, _, hsz, hf, hn⟩ := hS
    have I2 : Inv X pins σ H1 { s1 with heap := h1, toks := tk } := I1.kept fun b o e => kp b o (Heap.lt_size e) e
    refine call_len_set ho2 hex hd2 hf (by unfold scanBound at hsz; omega) ⟨.int (uniqS (ls.map sT)).length, H1, I2.tok _, ⟨_, by rw [hn]⟩, hq⟩
end
end CL
namespace CL
namespace Tb
open PySem PySem.Spec PyProof.Rows L2
def Msk (m : Nat) : Prop := MaskOk m ∨ m = 511
def orb : Nat → Nat → List Nat
  | 0, _ => []
  | n + 1, x => x :: orb n ((x * 5 + 1) % 512)
theorem orb_all : ((List.range 512).all fun j => (orb 512 0).contains j) = true := by decide +kernel
theorem step_in (x : Nat) : ∀ k, lcgI 511 ((x * 5 + 1) % 512) k = lcgI 511 x (k + 1)
  | 0 => rfl
  | k + 1 => by
    show (lcgI 511 ((x * 5 + 1) % 512) k * 5 + 1) % 512 = (lcgI 511 x (k + 1) * 5 + 1) % 512
    rw [step_in x k]
theorem orb_get : ∀ (n x j : Nat), j ∈ orb n x → ∃ k, k < n ∧ lcgI 511 x k = j
  | 0, _, _, h => by cases h
  | n + 1, x, j, h => by
    rcases List.mem_cons.mp h with rfl | h
    · exact ⟨0, Nat.succ_pos _, rfl⟩
    · obtain ⟨k, h1, h2⟩ := orb_get n _ j h
      exact ⟨k + 1, Nat.succ_lt_succ h1, by rw [← step_in]; exact h2⟩
theorem nI (k : Nat) : lcgI 511 0 k = lcgN 511 k := by
  have := lcgN_add 511 0 k
  rw [Nat.zero_add] at this
  exact this
theorem any511 {j : Nat} (h : j ≤ 511) : ∃ b, b ≤ 511 ∧ lcgN 511 b = j := by
  have h1 := List.all_eq_true.mp orb_all j (List.mem_range.mpr (by omega))
  obtain ⟨k, h2, h3⟩ := orb_get 512 0 j (by simpa using h1)
  exact ⟨k, by omega, by rw [← nI]; exact h3⟩
theorem round511 : ∀ k, lcgN 511 (512 + k) = lcgN 511 k
  | 0 => by decide +kernel
  | k + 1 => by
    show (lcgN 511 (512 + k) * 5 + 1) % 512 = (lcgN 511 k * 5 + 1) % 512
    rw [round511 k]
theorem from511 {i j : Nat} (hi : i ≤ 511) (hj : j ≤ 511) : ∃ k, k ≤ 511 ∧ lcgI 511 i k = j := by
  obtain ⟨a, ha, rfl⟩ := any511 hi
  obtain ⟨b, hb, rfl⟩ := any511 hj
  by_cases c : a ≤ b
  · exact ⟨b - a, by omega, by rw [lcgN_add, Nat.add_sub_cancel' c]⟩
  · exact ⟨512 + b - a, by omega, by rw [lcgN_add, Nat.add_sub_cancel' (by omega), round511]⟩
theorem meets {m : Nat} (g : Msk m) (h : Int) {j : Nat} (hj : j ≤ m) : ∃ n, n ≤ m + 12 ∧ runI m (SetTable.bits h) n = j := by
  rcases g with g | rfl
  · exact run_meets g h hj
  · obtain ⟨k, h1, h2⟩ := from511 (runI_le 511 (SetTable.bits h) 12) hj
    exact ⟨12 + k, by omega, (runI_tail (bits_lt h) k).trans h2⟩
theorem odd {m : Nat} (g : Msk m) : m % 2 = 1 := by
  rcases g with g | rfl
  · exact mask_odd g
  · rfl
theorem at_most {m : Nat} (h : Int) (k : Nat) : way m h k ≤ m := by
  have q : SetTable.bits h % (m + 1) ≤ m := Nat.le_of_lt_succ (Nat.mod_lt _ (Nat.succ_pos _))
  have b := runEnd_bd q
  have z := nth_in (m := m) k (runAt m (SetTable.bits h % (m + 1)) (SetTable.bits h)) (by simp only [runAt]; omega)
  unfold way
  omega
theorem turns_le {m : Nat} (g : Msk m) : 10 * SetTable.turns m < 90000 := by
  unfold SetTable.turns
  rcases g with (g | g | g) | g <;> omega
structure Tbl (t : SetTable) (hs : List Int) : Prop where
  up : Ris t.place.toList
  nod : t.dummies = #[]
  len : t.place.toList.length = hs.length
  msk : Msk t.mask
  le : ∀ x ∈ t.place.toList, x ≤ t.mask
  found : ∀ (i : Nat) (h : Int) (j : Nat), hs[i]? = some h → t.place.toList[i]? = some j → ∃ k, way t.mask h k = j ∧ ∀ c, c < k → way t.mask h c ∈ t.place.toList
section
variable {t : SetTable} {hs : List Int}
theorem Tbl.gap (T : Tbl t hs) (few : hs.length ≤ t.mask) (h : Int) : ∃ K, K < 10 * SetTable.turns t.mask ∧ way t.mask h K ∉ t.place.toList ∧ ∀ c, c < K → way t.mask h c ∈ t.place.toList := by
  obtain ⟨j, hj, hn⟩ := st_missing t.place.toList (t.mask + 1) (by rw [T.len]; omega)
  obtain ⟨n, h1, h2⟩ := meets T.msk h (Nat.le_of_lt_succ hj)
  obtain ⟨k, h3, h4⟩ := run_nth t.mask (SetTable.bits h) n
  have e : way t.mask h k = j := by
    unfold way
    rw [h4]
    exact h2
  obtain ⟨K, a, b, c⟩ := st_least (p := fun z => way t.mask h z ∉ t.place.toList) k (by show _ ∉ _; rw [e]; exact hn)
  refine ⟨K, ?_, b, fun z hz => Classical.byContradiction fun n => c z hz n⟩
  unfold SetTable.turns
  omega
theorem Tbl.ahead (T : Tbl t hs) {h : Int} {K i j : Nat} (gap : way t.mask h K ∉ t.place.toList) (hi : hs[i]? = some h) (hj : t.place.toList[i]? = some j) : ∃ c, c < K ∧ way t.mask h c = j := by
  obtain ⟨c, rfl, hb⟩ := T.found i h j hi hj
  refine ⟨c, ?_, rfl⟩
  by_cases q : c < K
  · exact q
  · by_cases e : c = K
    · subst e
      exact absurd (List.mem_of_getElem? hj) gap
    · exact absurd (hb K (by omega)) gap
theorem Tbl.more (T : Tbl t hs) {h : Int} {K p : Nat} (gap : way t.mask h K ∉ t.place.toList) (hb : ∀ c, c < K → way t.mask h c ∈ t.place.toList) (hp : SetTable.below t.place (way t.mask h K) = p) :
    p ≤ hs.length ∧ Tbl (t.put (way t.mask h K)).1 (hs.take p ++ h :: hs.drop p) ∧ (t.put (way t.mask h K)).1.fill = hs.length + 1 := by
  have lim : way t.mask h K ≤ t.mask := at_most h K
  generalize hz : way t.mask h K = z at gap lim hp ⊢
  have pl : p ≤ t.place.toList.length := by
    rw [← hp]
    exact (below_cut T.up z).1
  have ph : p ≤ hs.length := by rw [← T.len]; exact pl
  have at_ := put_place t z
  rw [hp] at at_
  have sz : (t.put z).1.place.toList.length = hs.length + 1 := by rw [at_, len_ins _ pl, T.len]
  have stay : ∀ {x : Nat}, x ∈ t.place.toList → x ∈ (t.put z).1.place.toList := by
    intro x hx
    rw [at_]
    exact mem_ins.mpr (.inr hx)
  refine ⟨ph, ⟨?_, put_dm T.nod z, by rw [sz, len_ins _ ph], T.msk, ?_, ?_⟩, ?_⟩
  · refine ris_insert T.up fun e => gap ?_
    rw [← Array.getElem?_toList] at e
    exact List.mem_of_getElem? e
  · intro x hx
    rw [at_] at hx
    rcases mem_ins.mp hx with rfl | hx
    · exact lim
    · exact T.le x hx
  · intro i g j h1 h2
    rw [tins_get hs ph] at h1
    rw [at_, tins_get _ pl] at h2
    have old : ∀ i : Nat, hs[i]? = some g → t.place.toList[i]? = some j → ∃ k, way t.mask g k = j ∧ ∀ c, c < k → way t.mask g c ∈ (t.put z).1.place.toList := by
      intro i h1 h2
      obtain ⟨k, e, q⟩ := T.found i g j h1 h2
      exact ⟨k, e, fun c hc => stay (q c hc)⟩
    by_cases c1 : i < p
    · rw [if_pos c1] at h1 h2
      exact old i h1 h2
    · rw [if_neg c1] at h1 h2
      by_cases c2 : i = p
      · rw [if_pos c2, Option.some.injEq] at h1 h2
        subst h1 h2
        exact ⟨K, hz, fun c hc => stay (hb c hc)⟩
      · rw [if_neg c2] at h1 h2
        exact old (i - 1) h1 h2
  · show (t.put z).1.place.size + (t.put z).1.dummies.size = _
    rw [← Array.length_toList, sz, put_dm T.nod z]
    rfl
end
theorem free_at {m : Nat} (g : Msk m) (ow : Array (Option Nat)) (h : Int) {j : Nat} (hj : j ≤ m) (hf : oAt ow j = none) :
    ∃ K, SetTable.layClean.free m ow (SetTable.turns m) (SetTable.bits h % (m + 1)) (SetTable.bits h) = some (way m h K) ∧ oAt ow (way m h K) = none ∧ ∀ c, c < K → oAt ow (way m h c) ≠ none := by
  obtain ⟨n, h1, h2⟩ := meets g h hj
  have e : way m h (off m (SetTable.bits h % (m + 1)) (SetTable.bits h) n) = j := by
    unfold way
    rw [nth_off, itL_run]
    exact h2
  obtain ⟨K, a, b, c⟩ := st_least (p := fun z => oAt ow (way m h z) = none) _ (show oAt ow (way m h (off m (SetTable.bits h % (m + 1)) (SetTable.bits h) n)) = none by rw [e]; exact hf)
  have lt : n < SetTable.turns m := by
    unfold SetTable.turns
    omega
  refine ⟨K, free_spec m ow _ n _ _ K lt a (fun k hk => ?_) ?_, b, c⟩
  · have := c k hk
    cases q : oAt ow (nth m (runAt m (SetTable.bits h % (m + 1)) (SetTable.bits h)) k).j with
    | none => exact absurd q this
    | some _ => rfl
  · have q : oAt ow (nth m (runAt m (SetTable.bits h % (m + 1)) (SetTable.bits h)) K).j = none := b
    rw [q]
    rfl
theorem own_more {m : Nat} (g : Msk m) {done : List Int} {ow : Array (Option Nat)} (W : Own m done ow) (few : done.length ≤ m) (h : Int) :
    ∃ j, SetTable.layClean.free m ow (SetTable.turns m) (SetTable.bits h % (m + 1)) (SetTable.bits h) = some j ∧ Own m (done ++ [h]) (ow.setIfInBounds j (some done.length)) := by
  obtain ⟨ps, lp, inp⟩ := W.ps
  obtain ⟨f, hf, nf⟩ := st_missing ps (m + 1) (by omega)
  have ef : oAt ow f = none := by
    cases q : oAt ow f with
    | none => rfl
    | some k => exact absurd (inp f (by omega) (by rw [q]; simp)) nf
  obtain ⟨K, e1, e2, e3⟩ := free_at g ow h (Nat.le_of_lt_succ hf) ef
  have lim : way m h K ≤ m := at_most h K
  refine ⟨_, e1, ?_⟩
  generalize hz : way m h K = z at e2 lim ⊢
  have inb : z < ow.size := by rw [W.sz]; omega
  have self := oAt_set_self (some done.length) inb
  have keep : ∀ {i : Nat}, oAt ow i ≠ none → oAt (ow.setIfInBounds z (some done.length)) i ≠ none := by
    intro i hi
    by_cases c : i = z
    · rw [c, self]; simp
    · rw [oAt_set_ne _ c]; exact hi
  refine ⟨by rw [Array.size_setIfInBounds, W.sz], ?_, ?_, z :: ps, by simp [lp], ?_⟩
  · intro j k hj e
    by_cases c : j = z
    · rw [c, self, Option.some.injEq] at e
      exact ⟨h, K, by rw [← e]; simp, by rw [hz, c], fun c hc => keep (e3 c hc)⟩
    · rw [oAt_set_ne _ c] at e
      obtain ⟨h', K', a, b, d⟩ := W.at_ j k hj e
      exact ⟨h', K', by rw [List.getElem?_append_left (List.getElem?_eq_some_iff.mp a).1]; exact a, b, fun c hc => keep (d c hc)⟩
  · intro k hk
    rw [List.length_append, List.length_singleton] at hk
    by_cases c : k < done.length
    · obtain ⟨j, hj, e⟩ := W.all k c
      refine ⟨j, hj, ?_⟩
      rw [oAt_set_ne _ (by rintro rfl; rw [e2] at e; cases e)]
      exact e
    · exact ⟨z, lim, by rw [self]; congr 1; omega⟩
  · intro j hj e
    by_cases c : j = z
    · rw [c]; exact List.mem_cons_self
    · rw [oAt_set_ne _ c] at e
      exact List.mem_cons_of_mem _ (inp j hj e)
theorem own_all {m : Nat} (g : Msk m) : ∀ (rest done : List Int) (ow : Array (Option Nat)), Own m done ow → done.length + rest.length ≤ m →
    ∃ ow', rest.foldl (stepF m) (some (ow, done.length)) = some (ow', (done ++ rest).length) ∧ Own m (done ++ rest) ow'
  | [], done, ow, W, _ => ⟨ow, by simp, by simpa using W⟩
  | h :: rest, done, ow, W, hl => by
    rw [List.length_cons] at hl
    obtain ⟨j, e, W'⟩ := own_more g W (by omega) h
    obtain ⟨ow', f, W2⟩ := own_all g rest (done ++ [h]) _ W' (by rw [List.length_append, List.length_singleton]; omega)
    rw [List.append_assoc] at f W2
    refine ⟨ow', ?_, W2⟩
    rw [List.foldl_cons, stepF_some e]
    rw [List.length_append, List.length_singleton] at f
    exact f
theorem clean_ok {m : Nat} (g : Msk m) {hs : Array Int} (hn : hs.size ≤ m) : ∃ ow, SetTable.layClean m hs = some ow ∧ Own m hs.toList ow := by
  obtain ⟨ow, f, W⟩ := own_all g hs.toList [] _ (Own.init m) (by simpa using hn)
  refine ⟨ow, ?_, W⟩
  rw [layClean_eq]
  have f' : hs.toList.foldl (stepF m) (some (Array.replicate (m + 1) none, 0)) = _ := f
  rw [f']
  rfl
theorem anew_ok (t : SetTable) {hs : Array Int} {wanted M : Nat} (hw : SetTable.sizeAbove wanted - 1 = M) (g : Msk M) (hn : hs.size ≤ M) :
    ∃ t' order, t.relaid hs wanted = some (t', order) ∧ order.toList.Perm (List.range hs.size) ∧ Tbl t' (order.toList.map fun i => hs.getD i 0) ∧ t'.mask = M ∧ t'.led = t.led ∧ t'.plain = t.plain := by
  obtain ⟨ow, e, W⟩ := clean_ok g hn
  have rel : t.relaid hs wanted = some (tabOf t M ow, ((liveOf M ow).map (·.2)).toArray) := by
    rw [relaid_eq, hw, e]
    rfl
  have rr := ris_live (fun j => ow.getD j none) (List.range (M + 1)) List.pairwise_lt_range
  have q1 : Ris ((liveOf M ow).map (·.1)) := rr.1
  have q2 : ∀ x ∈ (liveOf M ow).map (·.1), x ∈ List.range (M + 1) := rr.2
  have nod : ((liveOf M ow).map (·.1)).Nodup := q1.imp fun h => Nat.ne_of_lt h
  have sz : (liveOf M ow).length = hs.size := by
    obtain ⟨ps, p1, p2⟩ := W.ps
    have a := nat_nodup_len _ ps nod fun x hx => by
      obtain ⟨⟨y, k⟩, hq, rfl⟩ := List.mem_map.mp hx
      obtain ⟨b1, b2⟩ := (mem_live W.sz).mp hq
      exact p2 y b1 (by rw [b2]; simp)
    have b := nat_nodup_len (List.range hs.size) ((liveOf M ow).map (·.2)) List.nodup_range fun k hk => by
      obtain ⟨j, b1, b2⟩ := W.all k (by simpa using hk)
      exact List.mem_map.mpr ⟨(j, k), (mem_live W.sz).mpr ⟨b1, b2⟩, rfl⟩
    simp only [List.length_map, List.length_range, Array.length_toList] at a b p1
    omega
  refine ⟨_, _, rel, ?_, ⟨q1, rfl, by simp [tabOf, sz], g, fun x hx => Nat.le_of_lt_succ (List.mem_range.mp (q2 x hx)), ?_⟩, rfl, rfl, rfl⟩
  · refine perm_range hs.size _ (by simpa using sz) fun k hk => ?_
    obtain ⟨j, b1, b2⟩ := W.all k (by simpa using hk)
    exact List.mem_map.mpr ⟨(j, k), (mem_live W.sz).mpr ⟨b1, b2⟩, rfl⟩
  · intro i h j h1 h2
    have h1' : (((liveOf M ow).map (·.2)).map fun i => hs.getD i 0)[i]? = some h := h1
    have h2' : ((liveOf M ow).map (·.1))[i]? = some j := h2
    cases hq : (liveOf M ow)[i]? with
    | none => rw [List.getElem?_map, hq] at h2'; cases h2'
    | some q =>
      obtain ⟨y, k⟩ := q
      rw [List.getElem?_map, List.getElem?_map, hq] at h1'
      rw [List.getElem?_map, hq] at h2'
      simp only [Option.map_some, Option.some.injEq] at h1' h2'
      subst h2'
      obtain ⟨b1, b2⟩ := (mem_live W.sz).mp (List.mem_of_getElem? hq)
      obtain ⟨h0, K, a1, a2, a3⟩ := W.at_ y k b1 b2
      have e0 : hs.getD k 0 = h0 := by
        rw [Array.getD_eq_getD_getElem?, ← Array.getElem?_toList, a1]
        rfl
      rw [h1'] at e0
      subst e0
      refine ⟨K, a2, fun c hc => ?_⟩
      show way M h c ∈ (liveOf M ow).map (·.1)
      cases z : oAt ow (way M h c) with
      | none => exact absurd z (a3 c hc)
      | some k2 => exact List.mem_map.mpr ⟨(_, k2), (mem_live W.sz).mpr ⟨at_most h c, z⟩, rfl⟩
theorem size_308 : SetTable.sizeAbove (SetTable.grown 77) = 512 := by decide +kernel
end Tb
end CL
namespace CL
namespace Tb
open PySem PySem.Spec PyProof.Rows L2
abbrev kh (P : Program) (w : PySem.World) (k : List Key) : Int := tupleKeyHash (mixKind P w) k
abbrev IsK (P : Program) (w : PySem.World) (h : Heap) (k : List Key) (a : Addr) : Prop := IsTupleKey (mixKind P w) h k a
abbrev Row := Addr × List Key
section
variable {P : Program} {w : PySem.World} {A : Around} {E : Value → Shared → Prop} {s : Shared}
def FlatV (v : Value) : Prop := (∃ i t, v = .int i t) ∨ ∃ x t, v = .str x t
theorem flat_items {k : List Key} {vs : List Value} (h : ItemsAre (mixKind P w) k vs) : ∀ v ∈ vs, FlatV v := by
  induction h with
  | nil => intro v hv; cases hv
  | cons h1 _ ih =>
    intro v hv
    rcases List.mem_cons.mp hv with rfl | hv
    · rcases keyIs_shape h1 with ⟨i, t, _, e⟩ | ⟨x, t, _, e⟩
      · exact .inl ⟨i, t, e⟩
      · exact .inr ⟨x, t, e⟩
    · exact ih v hv
theorem flat_cls {v : Value} (h : FlatV v) (n : Nat) : ofAClassStatement n v = pure false := by
  rcases h with ⟨i, t, rfl⟩ | ⟨x, t, rfl⟩ <;> cases n <;> rfl
theorem flat_hash {v : Value} (h : FlatV v) (n : Nat) : ∃ b, hashByValue n v = pure b := by
  rcases h with ⟨i, t, rfl⟩ | ⟨x, t, rfl⟩
  · exact ⟨true, by cases n <;> rfl⟩
  · exact ⟨false, by cases n <;> rfl⟩
theorem cls_tup {k : List Key} {b : Addr} {Q : Bool → Shared → Prop} (hk : IsK P w s.heap k b) (q : Q false s) : wpAny (model P w) A (ofAClassStatement 8 (.ref b)) Q E s := by
  have ty := hk.typeIs
  obtain ⟨o, its, n, ho, _, hd, hi⟩ := hk
  have fl := flat_items hi
  unfold ofAClassStatement
  refine wpAny_bind (wpAny_typeOf ty ?_)
  simp only [show (("tuple" : String) == "tuple") = true by decide, if_true]
  try refine wpAny_bind (wpAny_pure ?_)
  try simp only [Bool.not_true, Bool.false_eq_true, if_false]
  show wpAny _ _ (seqItems? (.ref b) >>= _) _ _ s
  refine wpAny_bind (wpAny_seqItems ho hd ?_)
  refine wpAny_bind ?_
  show wpAny _ _ (forIn its _ _) _ _ s
  rw [← Array.forIn_toList]
  refine wpAny_forIn_list _ (fun l r z => r.1 = none ∧ z = s ∧ ∀ v ∈ l, FlatV v) _ ?_ ?_ _ _ ⟨rfl, rfl, fl⟩
  · rintro v l r z ⟨hr, rfl, all⟩
    rw [flat_cls (all v List.mem_cons_self)]
    refine wpAny_bind (wpAny_pure ?_)
    simp only [Bool.false_eq_true, if_false]
    exact wpAny_pure ⟨rfl, rfl, fun u hu => all u (List.mem_cons_of_mem _ hu)⟩
  · rintro ⟨r1, r2⟩ z ⟨hr, rfl, _⟩
    cases hr
    exact wpAny_pure q
theorem hash_tup {k : List Key} {b : Addr} {Q : Bool → Shared → Prop} (hk : IsK P w s.heap k b) (q : ∀ x, Q x s) : wpAny (model P w) A (hashByValue 8 (.ref b)) Q E s := by
  have ty := hk.typeIs
  obtain ⟨o, its, n, ho, _, hd, hi⟩ := hk
  have fl := flat_items hi
  unfold hashByValue
  refine wpAny_bind (wpAny_specialOf ty F.slot_tuple_hash.lookup ?_)
  show wpAny _ _ (seqItems? (.ref b) >>= _) _ _ s
  refine wpAny_bind (wpAny_seqItems ho hd ?_)
  refine wpAny_bind ?_
  show wpAny _ _ (forIn its _ _) _ _ s
  rw [← Array.forIn_toList]
  refine wpAny_forIn_list _ (fun l r z => z = s ∧ (∀ v ∈ l, FlatV v) ∧ r.1 = none) _ ?_ ?_ _ _ ⟨rfl, fl, rfl⟩
  · rintro v l r z ⟨rfl, all, hr⟩
    obtain ⟨x, hx⟩ := flat_hash (all v List.mem_cons_self) 7
    rw [hx]
    refine wpAny_bind (wpAny_pure ?_)
    cases x with
    | true =>
      simp only [Bool.not_true, Bool.false_eq_true, if_false]
      exact wpAny_pure ⟨rfl, fun u hu => all u (List.mem_cons_of_mem _ hu), rfl⟩
    | false =>
      simp only [Bool.not_false, if_true]
      exact wpAny_pure (wpAny_pure (q false))
  · rintro ⟨r1, r2⟩ z ⟨rfl, _, hr⟩
    cases hr
    exact wpAny_pure (q _)
theorem seen_no {k : List Key} {b : Addr} {Q : Bool → Shared → Prop} (hk : IsK P w s.heap k b) {ys : List Value} (hy : ∀ y ∈ ys, ∃ k' c, y = Value.ref c ∧ IsK P w s.heap k' c) (q : Q false s) :
    wpAny (model P w) A (searchCouldBeSeen (.ref b) ys) Q E s := by
  unfold searchCouldBeSeen
  refine wpAny_bind ?_
  refine wpAny_forIn_list _ (fun l r z => r.1 = none ∧ z = s ∧ ∀ y ∈ l, ∃ k' c, y = Value.ref c ∧ IsK P w s.heap k' c) _ ?_ ?_ _ _ ⟨rfl, rfl, hy⟩
  · rintro v l r z ⟨hr, rfl, all⟩
    obtain ⟨k', c, rfl, hc⟩ := all v List.mem_cons_self
    have on : ∀ y ∈ l, ∃ k' c, y = Value.ref c ∧ IsK P w z.heap k' c := fun u hu => all u (List.mem_cons_of_mem _ hu)
    dsimp only
    by_cases cc : (b == c || (carriedByValue (.ref b) && carriedByValue (.ref c))) = true
    · exact wp_if_pos cc (wpAny_pure ⟨rfl, rfl, on⟩)
    · refine wp_if_neg cc ?_
      refine wpAny_bind (wpAny_eqIsQuiet_tuple hk ?_)
      simp only [Bool.not_true, Bool.false_eq_true, if_false]
      refine wpAny_bind (wpAny_eqIsQuiet_tuple hc ?_)
      simp only [Bool.not_true, Bool.false_eq_true, if_false]
      refine wpAny_bind (cls_tup hk ?_)
      simp only [Bool.false_eq_true, if_false]
      refine wpAny_bind (cls_tup hc ?_)
      simp only [Bool.false_eq_true, if_false]
      exact wpAny_pure ⟨rfl, rfl, on⟩
  · rintro ⟨r1, r2⟩ z ⟨hr, rfl, _⟩
    cases hr
    exact wpAny_pure q
def entries (P : Program) (w : PySem.World) (L : List Row) : List (Int × Value) := L.map fun r => (kh P w r.2, .ref r.1)
structure Holds (P : Program) (w : PySem.World) (h : Heap) (a : Addr) (L : List Row) (es : Array (Int × Value)) (ep : Nat) (t : SetTable) : Prop where
  obj : ∃ o, h.get? a = some o ∧ o.ExactSet ∧ o.data = .set es ep t
  rows : es.toList = entries P w L
  tbl : Tbl t (L.map fun r => kh P w r.2)
  nd : (L.map (·.2)).Nodup
  keys : ∀ r ∈ L, IsK P w h r.2 r.1
  led : w.params.followText "set-order" = true ∨ t.led = true
  room : L.length * 5 < t.mask * 3
  few : L.length ≤ 120
variable {a : Addr} {L : List Row} {es : Array (Int × Value)} {ep : Nat} {t : SetTable}
theorem Holds.size (R : Holds P w s.heap a L es ep t) : es.size = L.length := by
  rw [← Array.length_toList, R.rows]
  simp [entries]
theorem Holds.fits (R : Holds P w s.heap a L es ep t) : t.fits es.size = true := by
  have h1 := R.tbl.len
  have h2 := R.size
  have h3 := R.room
  rw [List.length_map, Array.length_toList] at h1
  unfold SetTable.fits SetTable.fill
  rw [R.tbl.nod, Bool.and_eq_true, beq_iff_eq, decide_eq_true_eq]
  show t.place.size = es.size ∧ t.place.size + 0 ≤ t.mask
  omega
theorem Holds.entry (R : Holds P w s.heap a L es ep t) {i : Nat} {r : Row} (h : L[i]? = some r) : es[i]? = some (kh P w r.2, Value.ref r.1) := by
  rw [← Array.getElem?_toList, R.rows, entries, List.getElem?_map, h]
  rfl
theorem Holds.stands (R : Holds P w s.heap a L es ep t) : ¬ t.gaveWay = true := by
  unfold SetTable.gaveWay
  rw [odd R.tbl.msk]
  decide
theorem no_dummy (m : Nat) : ∀ (n : Nat) (p : SetTable.Probe), p.dummy = none → (nth m p n).dummy = none
  | 0, _, h => h
  | n + 1, p, h => by
    refine no_dummy m n (adv m p) ?_
    unfold adv
    split <;> exact h
abbrev ini (m : Nat) (h : Int) : SetTable.Probe := runAt m (SetTable.bits h % (m + 1)) (SetTable.bits h)
theorem seek (R : Holds P w s.heap a L es ep t) {x : Addr} {k : List Key} (hx : IsK P w s.heap k x) (hu : A.units < cLine) {K : Nat} (lim : K < 10 * SetTable.turns t.mask)
    (gap : way t.mask (kh P w k) K ∉ t.place.toList) (full : ∀ c, c < K → way t.mask (kh P w k) c ∈ t.place.toList) {Q : SetFound → Shared → Prop}
    (yes : k ∈ L.map (·.2) → Q (.there none) s) (no : k ∉ L.map (·.2) → Q (.free (way t.mask (kh P w k) K) false) s) :
    ∀ (f c : Nat) (st : Option SetTable.Probe), st.getD (t.probeStart (kh P w k)) = nth t.mask (ini t.mask (kh P w k)) c → c ≤ K → K - c < f →
      (∀ (i : Nat) (r : Row), L[i]? = some r → r.2 = k → ∃ d, c ≤ d ∧ d < K ∧ t.place.toList[i]? = some (way t.mask (kh P w k) d)) →
      wpAny (model P w) A (setSearchFrom a (.ref x) (kh P w k) true f st) Q E s
  | 0, c, st, _, _, hf, _ => absurd hf (Nat.not_lt_zero _)
  | f + 1, c, st, hst, hc, hf, later => by
    obtain ⟨o, ho, hex, hd⟩ := R.obj
    rw [setSearchFrom_succ]
    refine wpAny_bind (wpAny_setState_of ho hd R.fits ?_)
    refine wp_if_neg R.stands ?_
    try refine wpAny_bind (wpAny_pure ?_)
    have sh : ∀ q, nth t.mask (nth t.mask (ini t.mask (kh P w k)) c) q = nth t.mask (ini t.mask (kh P w k)) (c + q) := fun q => (nth_add t.mask c _ q).symm
    have wy : ∀ q, (nth t.mask (nth t.mask (ini t.mask (kh P w k)) c) q).j = way t.mask (kh P w k) (c + q) := fun q => congrArg SetTable.Probe.j (sh q)
    have hK : c + (K - c) = K := by omega
    have what := go_spec t R.tbl.up R.tbl.nod (fun i => (es[i]?.map (·.1)).getD 0) (kh P w k) (10 * SetTable.turns t.mask) (K - c) _ (no_dummy t.mask c (ini t.mask (kh P w k)) rfl) (by omega)
      (fun q hq => by rw [wy]; exact full (c + q) (by omega)) (by rw [wy, hK]; exact gap)
    have its : ∀ (i : Nat) (r : Row), L[i]? = some r → (es[i]?.map (·.1)).getD 0 = kh P w r.2 := fun i r hr => by
      rw [R.entry hr]
      rfl
    have asked : t.probe (fun i => (es[i]?.map (·.1)).getD 0) (kh P w k) (st.getD (t.probeStart (kh P w k))) = SetTable.probe.go t (fun i => (es[i]?.map (·.1)).getD 0) (kh P w k) (10 * SetTable.turns t.mask) (nth t.mask (ini t.mask (kh P w k)) c) := by
      rw [hst]
      rfl
    rcases what with ⟨q, i, hq, hi, hh, none_, pr⟩ | ⟨none_, pr⟩
    · rw [wy] at hi pr
      rw [sh] at pr
      rw [asked, pr]
      dsimp only
      have il : i < L.length := by
        have h1 := (List.getElem?_eq_some_iff.mp hi).1
        rw [R.tbl.len, List.length_map] at h1
        exact h1
      obtain ⟨r, hr⟩ : ∃ r, L[i]? = some r := ⟨_, List.getElem?_eq_getElem il⟩
      have mem : r ∈ L := List.mem_of_getElem? hr
      have go : wpAny (model P w) A (searchRest a (.ref x) (kh P w k) true f es t (way t.mask (kh P w k) (c + q)) i (nth t.mask (ini t.mask (kh P w k)) (c + (q + 1)))) Q E s := by
        unfold searchRest
        rw [R.entry hr]
        dsimp only
        refine wpAny_bind (wpAny_holding (wpAny_eqBool_tuple hu (R.keys r mem) hx ?_))
        refine wpAny_bind (wpAny_setState_of ho hd R.fits ?_)
        by_cases same : r.2 = k
        · refine wp_if_pos (by simp [same]) ?_
          exact wpAny_pure (yes (List.mem_map.mpr ⟨r, mem, same⟩))
        · refine wp_if_neg (by simp [same]) ?_
          try refine wpAny_bind (wpAny_pure ?_)
          rw [sameMem]
          dsimp only
          have sl : t.slot (way t.mask (kh P w k) (c + q)) = .live i := slot_live R.tbl.up hi
          simp only [if_true, sl, R.entry hr]
          refine wpAny_bind (wpAny_isSame_ref_self (wpAny_bind (wpAny_pure ?_)))
          simp only [if_true]
          refine wp_if_neg (by simp [same]) ?_
          refine seek R hx hu lim gap full yes no f (c + (q + 1)) _ rfl (by omega) (by omega) fun i0 r0 h0 k0 => ?_
          obtain ⟨d, d1, d2, d3⟩ := later i0 r0 h0 k0
          refine ⟨d, ?_, d2, d3⟩
          by_cases z : c + (q + 1) ≤ d
          · exact z
          · exfalso
            by_cases y : d = c + q
            · subst y
              have s0 := slot_live R.tbl.up d3
              rw [sl] at s0
              injection s0 with s0
              rw [← s0, hr, Option.some.injEq] at h0
              exact same (by rw [h0]; exact k0)
            · refine none_ (d - c) i0 (by omega) ?_ ?_
              · rw [wy, show c + (d - c) = d by omega]
                exact d3
              · show (es[i0]?.map (·.1)).getD 0 = _
                rw [its i0 r0 h0, k0]
      by_cases l : t.led = true
      · refine wp_if_neg (by simp [l]) ?_
        try refine wpAny_bind (wpAny_pure ?_)
        exact go
      · refine wp_if_pos (by simp [l]) ?_
        refine wpAny_bind (seen_no hx (fun y hy => ?_) ?_)
        · obtain ⟨e, he, rfl⟩ := List.mem_map.mp hy
          have he2 : e ∈ es.toList := by
            have : e ∈ es ∧ e.1 = kh P w k := by simpa using he
            simpa using this.1
          rw [R.rows] at he2
          obtain ⟨r2, m2, rfl⟩ := List.mem_map.mp he2
          exact ⟨r2.2, r2.1, rfl, R.keys r2 m2⟩
        · refine wp_if_neg (by decide) ?_
          try refine wpAny_bind (wpAny_pure ?_)
          exact go
    · rw [wy, hK] at pr
      rw [asked, pr]
      refine wpAny_pure (no fun hm => ?_)
      obtain ⟨r0, m0, k0⟩ := List.mem_map.mp hm
      obtain ⟨i0, h0⟩ := List.getElem?_of_mem m0
      obtain ⟨d, d1, d2, d3⟩ := later i0 r0 h0 k0
      refine none_ (d - c) i0 (by omega) ?_ ?_
      · rw [wy, show c + (d - c) = d by omega]
        exact d3
      · show (es[i0]?.map (·.1)).getD 0 = _
        rw [its i0 r0 h0, k0]
theorem search (R : Holds P w s.heap a L es ep t) {x : Addr} {k : List Key} (hx : IsK P w s.heap k x) (hu : A.units < cLine) {Q : SetFound → Shared → Prop}
    (yes : k ∈ L.map (·.2) → Q (.there none) s)
    (no : ∀ K, k ∉ L.map (·.2) → way t.mask (kh P w k) K ∉ t.place.toList → (∀ c, c < K → way t.mask (kh P w k) c ∈ t.place.toList) → Q (.free (way t.mask (kh P w k) K) false) s) :
    wpAny (model P w) A (setSearch a (.ref x) (kh P w k) true) Q E s := by
  have room := R.room
  obtain ⟨K, lim, gap, full⟩ := R.tbl.gap (by rw [List.length_map]; omega) (kh P w k)
  have big := turns_le R.tbl.msk
  unfold setSearch
  refine seek R hx hu lim gap full yes (fun hn => no K hn gap full) 100000 0 none rfl (Nat.zero_le _) (by omega) fun i r hr hk => ?_
  have hi : (L.map fun r => kh P w r.2)[i]? = some (kh P w k) := by rw [List.getElem?_map, hr, ← hk]; rfl
  have il : i < t.place.toList.length := by
    rw [R.tbl.len, List.length_map]
    exact (List.getElem?_eq_some_iff.mp hr).1
  obtain ⟨c, hc, e⟩ := R.tbl.ahead gap hi (List.getElem?_eq_getElem il)
  exact ⟨c, Nat.zero_le _, hc, by rw [e]; exact List.getElem?_eq_getElem il⟩
end
end Tb
end CL
namespace CL
namespace Tb
open PySem PySem.Spec PyProof.Rows L2
section
variable {P : Program} {w : PySem.World} {A : Around} {E : Value → Shared → Prop} {s : Shared}
theorem key_same {h h' : Heap} {k : List Key} {a b : Addr} {o : Obj} {es : Array (Int × Value)} {ep : Nat} {t : SetTable} (hb : IsK P w h k b) (ho : h.get? a = some o) (hd : o.data = .set es ep t) (sb : Heap.SameBut a h h') : IsK P w h' k b := by
  obtain ⟨o', its, n, e1, e2, e3, e4⟩ := hb
  have ne : b ≠ a := by
    rintro rfl
    rw [ho, Option.some.injEq] at e1
    subst e1
    rw [hd] at e3
    cases e3
  exact ⟨o', its, n, by rw [sb.2 b ne]; exact e1, e2, e3, e4⟩
theorem key_kept {h h' : Heap} {k : List Key} {b : Addr} (x : IsK P w h k b) (kp : ∀ c o, h.get? c = some o → h'.get? c = some o) : IsK P w h' k b := by
  obtain ⟨o, its, n, e, r⟩ := x
  exact ⟨o, its, n, kp b o e, r⟩
theorem ordered (L : List Row) (es : Array (Int × Value)) (order : Array Nat) (hr : es.toList = entries P w L) (hp : order.toList.Perm (List.range L.length)) :
    ∃ L2, (order.filterMap (es[·]?)).toList = entries P w L2 ∧ L2.Perm L ∧ (L2.map fun r => kh P w r.2) = order.toList.map fun i => (es.map (·.1)).getD i 0 := by
  have ent : ∀ i : Nat, es[i]? = (L[i]?).map fun r => (kh P w r.2, Value.ref r.1) := fun i => by
    rw [← Array.getElem?_toList, hr, entries, List.getElem?_map]
  have step : ∀ l : List Nat, (∀ i ∈ l, i < L.length) → l.filterMap (fun i => es[i]?) = entries P w (l.filterMap (L[·]?)) ∧ ((l.filterMap (L[·]?)).map fun r => kh P w r.2) = l.map fun i => (es.map (·.1)).getD i 0 := by
    intro l
    induction l with
    | nil => intro _; exact ⟨rfl, rfl⟩
    | cons i l ih =>
      intro hl
      obtain ⟨e1, e2⟩ := ih fun j hj => hl j (List.mem_cons_of_mem _ hj)
      have li := hl i List.mem_cons_self
      have hi := List.getElem?_eq_getElem li
      have he : es[i]? = some (kh P w L[i].2, Value.ref L[i].1) := by rw [ent, hi]; rfl
      rw [List.filterMap_cons_some he, List.filterMap_cons_some hi, e1]
      refine ⟨rfl, ?_⟩
      rw [List.map_cons, List.map_cons, e2]
      congr 1
      rw [Array.getD_eq_getD_getElem?, Array.getElem?_map, he]
      rfl
  have inb : ∀ i ∈ order.toList, i < L.length := fun i hi => List.mem_range.mp (hp.mem_iff.mp hi)
  obtain ⟨e1, e2⟩ := step order.toList inb
  refine ⟨_, by rw [Array.toList_filterMap]; exact e1, ?_, e2⟩
  have all : ∀ n, n ≤ L.length → (List.range n).filterMap (L[·]?) = L.take n := by
    intro n
    induction n with
    | zero => intro _; rfl
    | succ n ih =>
      intro hn
      rw [List.range_succ, List.filterMap_append, ih (by omega), List.take_succ, List.filterMap_cons_some (List.getElem?_eq_getElem hn), List.getElem?_eq_getElem hn]
      rfl
  have := hp.filterMap (L[·]?)
  rw [all _ (Nat.le_refl _), List.take_length] at this
  exact this
variable {a : Addr} {L : List Row} {es : Array (Int × Value)} {ep : Nat} {t : SetTable}
theorem relay {o : Obj} (ho : s.heap.get? a = some o) (hex : o.ExactSet) (hd : o.data = .set es ep t) (hrows : es.toList = entries P w L) (T : Tbl t (L.map fun r => kh P w r.2)) (fit : L.length ≤ t.mask)
    (nd : (L.map (·.2)).Nodup) (keys : ∀ r ∈ L, IsK P w s.heap r.2 r.1) (ld : w.params.followText "set-order" = true ∨ t.led = true) (few : L.length ≤ 120) {wanted M : Nat}
    (hw : SetTable.sizeAbove wanted - 1 = M) (g : Msk M) (small : SetTable.sizeAbove wanted ≤ 512) (hn : L.length * 5 < M * 3) {Q : Unit → Shared → Prop}
    (hQ : ∀ h' L' es' ep' t', Heap.SameBut a s.heap h' → Holds P w h' a L' es' ep' t' → L'.Perm L → Q () { s with heap := h' }) : wpAny (model P w) A (setRelay a wanted) Q E s := by
  have sz : es.size = L.length := by
    rw [← Array.length_toList, hrows]
    simp [entries]
  have pl := T.len
  rw [List.length_map, Array.length_toList] at pl
  have fits : t.fits es.size = true := by
    unfold SetTable.fits SetTable.fill
    rw [T.nod, Bool.and_eq_true, beq_iff_eq, decide_eq_true_eq]
    show t.place.size = es.size ∧ t.place.size + 0 ≤ t.mask
    omega
  obtain ⟨t', order, e, hp, T', em, el, _⟩ := anew_ok t (hs := es.map (·.1)) (wanted := wanted) hw g (by rw [Array.size_map, sz]; omega)
  rw [Array.size_map, sz] at hp
  obtain ⟨L2, r1, r2, r3⟩ := ordered L es order hrows hp
  rw [← r3] at T'
  have s2 : (order.filterMap (es[·]?)).size = es.size := by
    rw [← Array.length_toList, r1, sz]
    simp [entries, r2.length_eq]
  rw [setRelay_eq]
  refine wpAny_bind (wpAny_setState_of ho hd fits ?_)
  dsimp only
  refine wp_if_neg (by rw [sizeLine_eq]; omega) ?_
  try refine wpAny_bind (wpAny_pure ?_)
  rw [e]
  dsimp only
  refine wpAny_bind ?_
  refine wp_if_neg (by rw [s2]; simp) ?_
  try refine wpAny_bind (wpAny_pure ?_)
  refine wpAny_pure ?_
  dsimp only
  refine wpAny_storeSet_of ho hd ?_ (by rw [s2, sz, sizeLine_eq]; omega)
  have sb : Heap.SameBut a s.heap (s.heap.update a (Obj.putSet (order.filterMap (es[·]?)) t')) := Heap.SameBut.update ..
  refine hQ _ L2 (order.filterMap (es[·]?)) (ep + 1) t' sb ⟨⟨_, store_at ho hd, ⟨hex.1, hex.2.1, hex.2.2⟩, rfl⟩, r1, T', (r2.map (·.2)).nodup_iff.mpr nd, fun r hr => key_same (keys r (r2.mem_iff.mp hr)) ho hd sb, by rw [el]; exact ld, by rw [r2.length_eq, em]; exact hn, by rw [r2.length_eq]; exact few⟩ r2
theorem add (R : Holds P w s.heap a L es ep t) {x : Addr} {k : List Key} (hx : IsK P w s.heap k x) (hu : A.units < cLine) (few : L.length + 1 ≤ 120) {Q : Bool → Shared → Prop}
    (hQ : ∀ b h' L' es' ep' t', Heap.SameBut a s.heap h' → Holds P w h' a L' es' ep' t' → (k ∈ L.map (·.2) → L' = L) → (k ∉ L.map (·.2) → L'.Perm ((x, k) :: L)) → Q b { s with heap := h' }) :
    wpAny (model P w) A (setAddHashed a (.ref x) (kh P w k)) Q E s := by
  obtain ⟨o, ho, hex, hd⟩ := R.obj
  have sz := R.size
  have room := R.room
  unfold setAddHashed
  refine wpAny_holding ?_
  rw [show (100000 : Nat) = 99999 + 1 from rfl, setAddHashedIn_succ]
  refine wpAny_bind (wpAny_setState_of ho hd R.fits ?_)
  refine wp_if_neg (by simp [byScan, Value.scannable]) ?_
  try refine wpAny_bind (wpAny_pure ?_)
  refine wpAny_bind (search R hx hu (fun hm => ?_) fun K hm gap full => ?_)
  · exact wpAny_pure (hQ false s.heap L es ep t (Heap.SameBut.refl a s.heap) R (fun _ => rfl) fun z => absurd hm z)
  · dsimp only
    refine wpAny_bind (wpAny_setState_of ho hd R.fits ?_)
    dsimp only
    obtain ⟨p, hp⟩ : ∃ p, SetTable.below t.place (way t.mask (kh P w k) K) = p := ⟨_, rfl⟩
    obtain ⟨q1, q2, q3⟩ := R.tbl.more gap full hp
    have q4 : (t.put (way t.mask (kh P w k) K)).2 = p := hp
    have q5 : (t.put (way t.mask (kh P w k) K)).1.mask = t.mask := rfl
    have q6 : (t.put (way t.mask (kh P w k) K)).1.led = t.led := rfl
    generalize t.put (way t.mask (kh P w k) K) = pt at q2 q3 q4 q5 q6 ⊢
    obtain ⟨t1, p'⟩ := pt
    dsimp only at q2 q3 q4 q5 q6 ⊢
    subst q4
    have main : ∀ t2 : SetTable, t2.place = t1.place → t2.dummies = t1.dummies → t2.mask = t1.mask → t2.led = t1.led → wpAny (model P w) A (do
        storeSet a (SetTable.insertAt es p' (kh P w k, Value.ref x)) t2
        if !false && t2.tooFull then setRelay a (SetTable.grown (es.size + 1))
        return true) Q E s := by
      intro t2 z1 z2 z3 z4
      have T2 : Tbl t2 ((L.map fun r => kh P w r.2).take p' ++ kh P w k :: (L.map fun r => kh P w r.2).drop p') := ⟨by rw [z1]; exact q2.up, by rw [z2]; exact q2.nod, by rw [z1]; exact q2.len, by rw [z3]; exact q2.msk, by rw [z1, z3]; exact q2.le, by rw [z1, z3]; exact q2.found⟩
      have fl2 : t2.fill = L.length + 1 := by
        have : t2.fill = t1.fill := by unfold SetTable.fill; rw [z1, z2]
        rw [this, q3, List.length_map]
      have led2 : w.params.followText "set-order" = true ∨ t2.led = true := by rw [z4, q6]; exact R.led
      rw [q5] at z3
      have ein : (SetTable.insertAt es p' (kh P w k, Value.ref x)).toList = entries P w (L.take p' ++ (x, k) :: L.drop p') := by
        rw [SetTable.toList_insertAt, R.rows]
        simp [entries, List.map_take, List.map_drop]
      have pm := put_perm L p' (x, k)
      have eh : (L.take p' ++ (x, k) :: L.drop p').map (fun r => kh P w r.2) = (L.map fun r => kh P w r.2).take p' ++ kh P w k :: (L.map fun r => kh P w r.2).drop p' := by
        simp [List.map_take, List.map_drop]
      rw [← eh] at T2
      have nd1 : ((L.take p' ++ (x, k) :: L.drop p').map (·.2)).Nodup := (pm.map (·.2)).nodup_iff.mpr (List.nodup_cons.mpr ⟨hm, R.nd⟩)
      generalize L.take p' ++ (x, k) :: L.drop p' = L1 at ein pm T2 nd1
      have l1 : L1.length = L.length + 1 := pm.length_eq
      have sz1 : (SetTable.insertAt es p' (kh P w k, Value.ref x)).size = L1.length := by
        rw [← Array.length_toList, ein]
        simp [entries]
      generalize SetTable.insertAt es p' (kh P w k, Value.ref x) = es1 at ein sz1 ⊢
      refine wpAny_bind (wpAny_storeSet_of ho hd ?_ (by rw [sz1, l1, sizeLine_eq]; omega))
      have sb : Heap.SameBut a s.heap (s.heap.update a (Obj.putSet es1 t2)) := Heap.SameBut.update ..
      have ho1 := store_at (es' := es1) (t' := t2) ho hd
      generalize s.heap.update a (Obj.putSet es1 t2) = h1 at sb ho1 ⊢
      have keys1 : ∀ r ∈ L1, IsK P w h1 r.2 r.1 := fun r hr => by
        rcases List.mem_cons.mp (pm.mem_iff.mp hr) with rfl | hr
        · exact key_same hx ho hd sb
        · exact key_same (R.keys r hr) ho hd sb
      by_cases full2 : t2.tooFull = true
      · refine wp_if_pos (by simp [full2]) ?_
        refine wpAny_bind ?_
        have f3 : (L.length + 1) * 5 ≥ t.mask * 3 := by
          have h := full2
          unfold SetTable.tooFull at h
          rw [decide_eq_true_eq, fl2, z3] at h
          exact h
        rw [sz]
        have two : (t.mask = 7 ∧ L.length = 4) ∨ (t.mask = 31 ∧ L.length = 18) ∨ (t.mask = 127 ∧ L.length = 76) := by
          rcases R.tbl.msk with (e | e | e) | e <;> rw [e] at f3 room <;> omega
        have go : ∀ M, SetTable.sizeAbove (SetTable.grown (L.length + 1)) - 1 = M → Msk M → SetTable.sizeAbove (SetTable.grown (L.length + 1)) ≤ 512 → (L.length + 1) * 5 < M * 3 →
            wpAny (model P w) A (setRelay a (SetTable.grown (L.length + 1))) (fun _ z => wpAny (model P w) A (pure true) Q E z) E { s with heap := h1 } := by
          intro M m1 m2 m3 m4
          refine relay (s := { s with heap := h1 }) ho1 ⟨hex.1, hex.2.1, hex.2.2⟩ rfl ein T2 (by rw [l1, z3]; omega) nd1 keys1 led2 (by omega) m1 m2 m3 (by rw [l1]; exact m4) ?_
          intro h2 L2 es2 ep2 t2' sb2 R2 pm2
          exact wpAny_pure (hQ true h2 L2 es2 ep2 t2' (sb.trans sb2) R2 (fun z => absurd z hm) fun _ => pm2.trans pm)
        rcases two with ⟨_, e2⟩ | ⟨_, e2⟩ | ⟨_, e2⟩
        · exact go 31 (by rw [e2, size_20]) (.inl (.inr (.inl rfl))) (by rw [e2, size_20]; decide) (by omega)
        · exact go 127 (by rw [e2, size_76]) (.inl (.inr (.inr rfl))) (by rw [e2, size_76]; decide) (by omega)
        · exact go 511 (by rw [e2, size_308]) (.inr rfl) (by rw [e2, size_308]; decide) (by omega)
      · refine wp_if_neg (by simp [full2]) ?_
        refine wpAny_pure (hQ true h1 L1 es1 (ep + 1) t2 sb ⟨⟨_, ho1, ⟨hex.1, hex.2.1, hex.2.2⟩, rfl⟩, ein, T2, nd1, keys1, led2, ?_, by omega⟩ (fun z => absurd z hm) fun _ => pm)
        have h := full2
        unfold SetTable.tooFull at h
        rw [decide_eq_true_eq, fl2] at h
        rw [l1]
        omega
    by_cases pl : t1.plain = true
    · refine wp_if_pos pl (wpAny_bind (hash_tup hx fun b => ?_))
      cases b with
      | true => exact main t1 rfl rfl rfl rfl
      | false => exact main { t1 with plain := false } rfl rfl rfl rfl
    · refine wp_if_neg pl ?_
      exact main t1 rfl rfl rfl rfl
end
end Tb
end CL
namespace CL
namespace Tb
open PySem PySem.Spec PyProof.Rows L2
def kP : Key → PyData
  | .inl i => .int i
  | .inr x => .str x
def rowP (r : Row) : PyData := .tuple (r.2.map kP)
section
variable {P : Program} {w : PySem.World} {A : Around} {E : Value → Shared → Prop} {s : Shared}
theorem holds_new {h : Heap} {a : Addr} {led : Bool} (hl : led = (!w.params.followText "set-order")) (ho : h.get? a = some (PySem.ClSets.nil_ led)) : Holds P w h a [] #[] 0 (.fresh 0 0 led) where
  obj := ⟨_, ho, ⟨rfl, rfl, rfl⟩, rfl⟩
  rows := rfl
  tbl := ⟨List.Pairwise.nil, rfl, rfl, .inl (.inl rfl), fun x hx => (by cases hx), fun i h j hi => (by simp at hi)⟩
  nd := List.nodup_nil
  keys := fun p hp => (by cases hp)
  led := by
    show _ ∨ led = true
    rw [hl]
    cases w.params.followText "set-order"
    · exact .inr rfl
    · exact .inl rfl
  room := by
    show 0 * 5 < 7 * 3
    decide
  few := Nat.zero_le _
theorem Holds.kept {h h' : Heap} {a : Addr} {L : List Row} {es : Array (Int × Value)} {ep : Nat} {t : SetTable} (R : Holds P w h a L es ep t) (ha : ∀ o, h.get? a = some o → h'.get? a = some o) (hk : ∀ r ∈ L, IsK P w h' r.2 r.1) : Holds P w h' a L es ep t := by
  obtain ⟨o, ho, r⟩ := R.obj
  exact ⟨⟨o, ha o ho, r⟩, R.rows, R.tbl, R.nd, hk, R.led, R.room, R.few⟩
def Part (P : Program) (w : PySem.World) (s : Shared) (rows : List Row) (i : Nat) (h1 : Heap) : Prop :=
  (∀ b o, b < s.heap.objs.size → s.heap.get? b = some o → h1.get? b = some o) ∧ ∃ L es ep t, Holds P w h1 s.heap.objs.size L es ep t ∧ (∀ r ∈ L, r ∈ rows.take i) ∧ (∀ r ∈ rows.take i, r.2 ∈ L.map (·.2)) ∧ L.length ≤ i
theorem set_keys {T : String} {l : Addr} {ol : Obj} {its : List Value} {nl : Nat} {Q : Value → Shared → Prop} (hh : A.handled = none) (hT : T = "list" ∨ T = "tuple") (hol : s.heap.get? l = some ol) (hcl : ol.cls = .type T) (hdl : ol.data = .seq its.toArray nl)
    {rows : List Row} (hits : its = rows.map fun r => Value.ref r.1) (hk : ∀ r ∈ rows, IsK P w s.heap r.2 r.1) (few : rows.length ≤ 120) (hu : A.units + 3 < cLine)
    (h : ∀ h1 tk L es ep t, Holds P w h1 s.heap.objs.size L es ep t → (∀ r ∈ L, r ∈ rows) → (∀ r ∈ rows, r.2 ∈ L.map (·.2)) → (∀ b o, b < s.heap.objs.size → s.heap.get? b = some o → h1.get? b = some o) → Q (.ref s.heap.objs.size) { s with heap := h1, toks := tk }) :
    wpAny (model P w) A (call (.type "set") [.ref l]) Q E s := by
  have below : ∀ r ∈ rows, r.1 < s.heap.objs.size := fun r hr => by
    obtain ⟨o, _, _, ho, _⟩ := hk r hr
    exact Heap.lt_size ho
  have later : ∀ {h1 : Heap}, (∀ b o, b < s.heap.objs.size → s.heap.get? b = some o → h1.get? b = some o) → ∀ r ∈ rows, IsK P w h1 r.2 r.1 := fun {h1} kp r hr => by
    obtain ⟨o, its, n, ho, z⟩ := hk r hr
    exact ⟨o, its, n, kp _ _ (Heap.lt_size ho) ho, z⟩
  refine PySem.ClSets.set_from hh hT hol hcl hdl (Part P w s rows) ?_ ?_ ?_ ?_
  · intro led h1 hl k hN
    exact ⟨fun b o _ e => k b o e, [], _, _, _, holds_new hl hN, by simp, by simp, Nat.zero_le _⟩
  · rintro i h0 h1 ⟨k0, L, es, ep, t, R, sub, all, len⟩ k
    have k1 : ∀ b o, b < s.heap.objs.size → s.heap.get? b = some o → h1.get? b = some o := fun b o hb e => k b o (Nat.ne_of_lt (Nat.lt_succ_of_lt hb)) (k0 b o hb e)
    exact ⟨k1, L, es, ep, t, R.kept (fun o e => k _ _ (Nat.ne_of_lt (Nat.lt_succ_self _)) e) fun r hr => later k1 r (List.mem_of_mem_take (sub r hr)), sub, all, len⟩
  · rintro i v z E1 Q1 hi ⟨k0, L, es, ep, t, R, sub, all, len⟩ hq
    have hi' : its[i]? = some v := by simpa using hi
    rw [hits, List.getElem?_map, Option.map_eq_some_iff] at hi'
    obtain ⟨r, hr, rfl⟩ := hi'
    have il : i < rows.length := (List.getElem?_eq_some_iff.mp hr).1
    have et : rows.take (i + 1) = rows.take i ++ [r] := by rw [List.take_succ, hr]; rfl
    have hx := later k0 r (List.mem_of_getElem? hr)
    unfold setAdd
    refine wpAny_holding (wpAny_bind (wpAny_pyHash_tuple hu hx ?_))
    refine add (s := { z with toks := z.toks + (r.2.length + 1) }) R hx hu (by omega) fun b h' L' es' ep' t' sb R' c1 c2 => hq b h' _ (Nat.le_add_right _ _) sb ?_
    refine ⟨fun b o hb e => by rw [sb.2 b (Nat.ne_of_lt hb)]; exact k0 b o hb e, L', es', ep', t', R', ?_⟩
    rw [et]
    by_cases hm : r.2 ∈ L.map (·.2)
    · rw [c1 hm]
      refine ⟨fun q hq => List.mem_append_left _ (sub q hq), fun q hq => ?_, by omega⟩
      rcases List.mem_append.mp hq with hq | hq
      · exact all q hq
      · rw [List.mem_singleton.mp hq]; exact hm
    · have pm := c2 hm
      refine ⟨fun q hq => ?_, fun q hq => ?_, by rw [pm.length_eq, List.length_cons]; omega⟩
      · rcases List.mem_cons.mp (pm.mem_iff.mp hq) with rfl | hq
        · exact List.mem_append_right _ (List.mem_singleton.mpr rfl)
        · exact List.mem_append_left _ (sub q hq)
      · rw [(pm.map (·.2)).mem_iff, List.map_cons]
        rcases List.mem_append.mp hq with hq | hq
        · exact List.mem_cons_of_mem _ (all q hq)
        · rw [List.mem_singleton.mp hq]; exact List.mem_cons_self
  · rintro h1 tk ⟨_, L, es, ep, t, R, sub, all, len⟩ k
    have e : rows.take its.toArray.size = rows := by
      rw [List.size_toArray, hits, List.length_map, List.take_length]
    rw [e] at sub all
    exact h h1 tk L es ep t R sub all k
theorem flat_reads {h : Heap} {ks : List Key} {vs : List Value} (x : ItemsAre (mixKind P w) ks vs) : ReadsAll h vs (ks.map kP) [] := by
  induction x with
  | nil => exact .nil
  | @cons k v ks vs h1 _ ih =>
    have hv : Reads h v (kP k) [] := by
      rcases keyIs_shape h1 with ⟨i, t, rfl, rfl⟩ | ⟨x, t, rfl, rfl⟩
      · exact .int i t
      · exact .str x t
    exact .cons (as := []) (bs := []) hv ih
theorem row_reads {h : Heap} {r : Row} (x : IsK P w h r.2 r.1) : Reads h (.ref r.1) (rowP r) [] := by
  obtain ⟨o, its, n, h1, h2, h3, h4⟩ := x
  exact .tuple h1 h2 h3 (flat_reads h4)
theorem each_rows {h : Heap} : ∀ L : List Row, (∀ r ∈ L, IsK P w h r.2 r.1) → ∀ a, PySem.W.EachIs (fun v r => ∃ as, Reads h v (rowP r) as ∧ a ∉ as) (L.map fun r => Value.ref r.1) L
  | [], _, _ => .nil
  | r :: L, hL, a => .cons ⟨[], row_reads (hL r List.mem_cons_self), by simp⟩ (each_rows L (fun q hq => hL q (List.mem_cons_of_mem _ hq)) a)
theorem each_refs : ∀ L : List Row, PySem.W.EachIs (fun (v : Value) (r : Row) => v = .ref r.1) (L.map fun r => Value.ref r.1) L
  | [] => .nil
  | r :: L => .cons rfl (each_refs L)
theorem refs_each {vs : List Value} {L : List Row} (h : PySem.W.EachIs (fun (v : Value) (r : Row) => v = .ref r.1) vs L) : vs = L.map fun r => Value.ref r.1 := by
  induction h with
  | nil => rfl
  | cons e _ ih => rw [e, ih, List.map_cons]
theorem flat_depth : ∀ ks : List Key, PyData.depthAll (ks.map kP) = 0
  | [] => by simp [PyData.depthAll]
  | k :: ks => by
    rw [List.map_cons, PyData.depthAll, flat_depth ks]
    cases k <;> simp [kP, PyData.depth]
theorem sorted_keys {a : Addr} {L : List Row} {es : Array (Int × Value)} {ep : Nat} {t : SetTable} {Q : Value → Shared → Prop} (R : Holds P w s.heap a L es ep t) (hh : A.handled = none) (hu : A.units + 10 < cLine)
    (hal : PySem.W.AllAlike (L.map rowP)) (hso : PySem.W.Sortable (L.map rowP))
    (hQ : ∀ s' p (out : List Value) (c : Nat) (L' : List Row), (∀ b o, s.heap.get? b = some o → s'.heap.get? b = some o) → s'.gens = s.gens → s'.os = s.os → s.heap.objs.size ≤ p →
      s'.heap.get? p = some (seqObj "list" out.toArray c) → out = L'.map (fun r => Value.ref r.1) → L'.Perm L → L'.Pairwise (fun q r => PySem.W.dataLe false rowP q r = true) → Q (.ref p) s') :
    wpAny (model P w) A (call (.builtin "sorted") [.ref a]) Q E s := by
  obtain ⟨o, ho, hex, hd⟩ := R.obj
  have sz := R.size
  have few := R.few
  refine Calls.call_function_entry kind_sorted plain_sorted entry_sorted (args_sorted1 _) ?_
  unfold Builtin.«sorted»
  refine wpAny_bind (m := checkCount "sorted" 1 1 _) (wpAny_pure ?_)
  refine wpAny_bind (collect_set (A := A.in1) hh ⟨o, ho, hex.1, hd⟩ R.fits (by unfold scanBound; omega) R.tbl.up R.led fun s1 vs k1 hz g1 o1 pm => ?_)
  have hes : es.toList.map (·.2) = L.map fun r => Value.ref r.1 := by
    rw [R.rows, entries, List.map_map]
    rfl
  rw [hes] at pm
  obtain ⟨L1, pL, rfl⟩ : ∃ L1 : List Row, L1.Perm L ∧ L1.map (fun r => Value.ref r.1) = vs := L2.perm_lift (fun r : Row => Value.ref r.1) pm L rfl
  have inL : ∀ r ∈ L1, r ∈ L := fun r hr => pL.mem_iff.mp hr
  have len : L1.length ≤ 120 := by rw [pL.length_eq]; exact few
  refine wpAny_bind (wpAny_newList ?_ (by rw [sizeLine_eq, List.length_map]; omega))
  have hoL : (s1.heap.push (seqObj "list" (L1.map fun r => Value.ref r.1).toArray 0)).get? s1.heap.objs.size = some (seqObj "list" (L1.map fun r => Value.ref r.1).toArray 0) := Heap.get?_push_size _ rfl
  have keys1 : ∀ r ∈ L1, IsK P w (s1.heap.push (seqObj "list" (L1.map fun r => Value.ref r.1).toArray 0)) r.2 r.1 := fun r hr => key_kept (R.keys r (inL r hr)) fun b u e => Heap.get?_push_of_some _ (k1 b u e)
  have mp : (L1.map rowP).Perm (L.map rowP) := pL.map rowP
  refine wpAny_bind (wpAny_holding (PySem.W.list_sort_data (s := { s1 with heap := s1.heap.push (seqObj "list" (L1.map fun r => Value.ref r.1).toArray 0) }) (enc := rowP) hoL (each_refs L1) (each_rows L1 keys1 _)
    (fun d hd d' hd' => hal d (mp.mem_iff.mp hd) d' (mp.mem_iff.mp hd')) (hso.imp (fun z d hd => z d (mp.mem_iff.mp hd)) fun z d hd => z d (mp.mem_iff.mp hd)) (by rw [sizeLine_eq]; omega)
    (fun r hr => ?_) fun out ho eo => ?_))
  · show A.units + 1 + 1 + (PyData.depth (.tuple (r.2.map kP))) < cLine
    rw [PyData.depth, flat_depth]
    omega
  · obtain ⟨c, hc⟩ := sortedHeap_at (vs := L1.map fun r => Value.ref r.1) (out := out.toArray) hoL
    refine wpAny_pure ⟨_, rfl, hQ _ s1.heap.objs.size out c (L1.mergeSort (PySem.W.dataLe false rowP)) (fun b u e => ?_) g1 o1 hz hc (refs_each eo) ((List.mergeSort_perm _ _).trans pL) ?_⟩
    · have q := k1 b u e
      have lt := Heap.lt_size q
      show (sortedHeap (s1.heap.push (seqObj "list" (L1.map fun r => Value.ref r.1).toArray 0)) s1.heap.objs.size (L1.map fun r => Value.ref r.1) out.toArray).get? b = some u
      rw [sortedHeap_old (Nat.ne_of_lt lt) (by rw [size_push']; exact Nat.lt_succ_of_lt lt)]
      exact Heap.get?_push_of_some _ q
    · have tl := PySem.W.sortLe_total (PyProof.Rows.listOrd PyProof.Rows.itemOrd) false fun r : Row => PySem.W.keyToks (rowP r)
      exact List.pairwise_mergeSort (le := PySem.W.dataLe false rowP) (fun a b c h1 h2 => tl.trans a b c h1 h2) (fun a b => by rw [Bool.or_eq_true]; exact tl.total a b) L1
end
end Tb
end CL
namespace CL
open PySem PySem.Spec PyProof.Rows L2
open Tb (rowP kP)
theorem encD_row (r : Tb.Row) : encD (kDT r.2) = rowP r := by
  have key : ∀ ks : List Key, D.pdL (ks.map kD) = some (ks.map kP) := by
    intro ks
    induction ks with
    | nil => rfl
    | cons k ks ih =>
      simp only [List.map_cons, D.pdL, ih]
      cases k <;> simp [kD, D.pd, kP]
  show ((D.pd (.tup (r.2.map kD))).getD .none) = _
  simp [D.pd, key, rowP]
theorem toks_inj : ∀ ks js : List Key, PySem.W.keyToksAll (ks.map kP) = PySem.W.keyToksAll (js.map kP) → ks = js
  | [], [], _ => rfl
  | [], j :: js, h => by simp [PySem.W.keyToksAll] at h
  | k :: ks, [], h => by simp [PySem.W.keyToksAll] at h
  | k :: ks, j :: js, h => by
    simp only [List.map_cons, PySem.W.keyToksAll, List.cons.injEq, true_and] at h
    cases k with
    | inl a =>
      cases j with
      | inl b =>
        simp only [kP, PySem.W.keyToks, List.cons_append, List.nil_append, List.cons.injEq, Sum.inl.injEq] at h
        rw [h.1, toks_inj ks js h.2]
      | inr b => simp [kP, PySem.W.keyToks] at h
    | inr a =>
      cases j with
      | inl b => simp [kP, PySem.W.keyToks] at h
      | inr b =>
        simp only [kP, PySem.W.keyToks, List.cons_append, List.nil_append, List.cons.injEq, Sum.inr.injEq] at h
        rw [toks_inj ks js h.2, PySem.W.str_of_cps h.1]
theorem le_both {a b : List Key} (h1 : PySem.W.dataLe false encD (kDT a) (kDT b) = true) (h2 : PySem.W.dataLe false encD (kDT b) (kDT a) = true) : a = b := by
  have e : ∀ a : List Key, encD (kDT a) = .tuple (a.map kP) := fun a => encD_row (0, a)
  have q1 : (!PyProof.Rows.lexLt PyProof.Rows.itemOrd (PySem.W.keyToks (encD (kDT b))) (PySem.W.keyToks (encD (kDT a)))) = true := h1
  have q2 : (!PyProof.Rows.lexLt PyProof.Rows.itemOrd (PySem.W.keyToks (encD (kDT a))) (PySem.W.keyToks (encD (kDT b)))) = true := h2
  rw [Bool.not_eq_true'] at q1 q2
  have := PyProof.Rows.lex_total _ _ q2 q1
  rw [e, e] at this
  simp only [PySem.W.keyToks] at this
  exact toks_inj a b this
theorem firsts_keys : ∀ (ks acc : List (List Key)), acc.Nodup → ∃ K, firsts (acc.map kDT) (ks.map kDT) = K.map kDT ∧ (acc ++ K).Nodup ∧ ∀ k, k ∈ acc ++ K ↔ k ∈ acc ∨ k ∈ ks
  | [], acc, h => ⟨[], rfl, by simpa using h, by simp⟩
  | x :: ks, acc, h => by
    have e : ((acc.map kDT).any fun z => D.eqv z (kDT x)) = acc.any fun k => decide (k = x) := by
      rw [List.any_map]
      congr 1
      funext k
      show D.eqv (kDT k) (kDT x) = _
      unfold kDT
      rw [D.eqv, eqvL_kD]
    rw [List.map_cons]
    unfold firsts
    rw [e]
    by_cases m : x ∈ acc
    · rw [if_pos (List.any_eq_true.mpr ⟨x, m, by simp⟩)]
      obtain ⟨K, e1, e2, e3⟩ := firsts_keys ks acc h
      refine ⟨K, e1, e2, fun k => ?_⟩
      rw [e3, List.mem_cons]
      constructor
      · rintro (a | a)
        · exact .inl a
        · exact .inr (.inr a)
      · rintro (a | rfl | a)
        · exact .inl a
        · exact .inl m
        · exact .inr a
    · rw [if_neg (fun q => by obtain ⟨k, hk, q⟩ := List.any_eq_true.mp q; exact m (by rw [← of_decide_eq_true q]; exact hk))]
      obtain ⟨K, e1, e2, e3⟩ := firsts_keys ks (acc ++ [x]) (by
        rw [List.nodup_append]
        refine ⟨h, by simp, ?_⟩
        rintro a ha b hb rfl
        exact m (by rw [← List.mem_singleton.mp hb]; exact ha))
      rw [List.map_append, List.map_singleton] at e1
      refine ⟨x :: K, by rw [e1]; rfl, by simpa using e2, fun k => ?_⟩
      have := e3 k
      simp only [List.append_assoc, List.singleton_append, List.mem_append, List.mem_singleton] at this
      rw [List.mem_append, this, List.mem_cons]
      constructor
      · rintro ((a | a) | a)
        · exact .inl a
        · exact .inr (.inl a)
        · exact .inr (.inr a)
      · rintro (a | a | a)
        · exact .inl (.inl a)
        · exact .inl (.inr a)
        · exact .inr a
section
variable {Y : Sx} {Bs : List Nat} {μ : List Addr} {H : Hp} {S : Store}
theorem rows_of (w : World Y Bs μ H S) : ∀ {vs : List V} {ds : List D}, RepL Y μ H vs ds → ds.all (keyOf true) = true → ∃ rows : List Tb.Row, vs = rows.map (fun r => V.ref r.1) ∧ ds = rows.map (fun r => kDT r.2) ∧ ∀ r ∈ rows, H r.1 = some (.tup (r.2.map kV)) ∧ Fr Y μ r.1
  | _, _, .nil, _ => ⟨[], rfl, rfl, by simp⟩
  | _, _, .cons (v := v) (d := d) h t, e => by
    rw [List.all_cons, Bool.and_eq_true] at e
    obtain ⟨rows, e1, e2, e3⟩ := rows_of w t e.2
    cases h with
    | tup hh n r =>
      have e1' := e.1
      simp only [keyOf, Bool.true_and] at e1'
      obtain ⟨ks, z1, z2⟩ := flatsK r e1'
      refine ⟨(_, ks) :: rows, by rw [e1]; rfl, by rw [e2, z2]; rfl, fun q hq => ?_⟩
      rcases List.mem_cons.mp hq with rfl | hq
      · exact ⟨by rw [hh, z1], n⟩
      · exact e3 q hq
    | _ => simp [keyOf] at e
theorem repKeys : ∀ ks : List Key, RepL Y μ H (ks.map kV) (ks.map kD)
  | [] => .nil
  | .inl i :: ks => .cons (.int i) (repKeys ks)
  | .inr ⟨x⟩ :: ks => by
    have : Rep Y μ H (.str ⟨x⟩) (.str x.toList) := by
      have q := Rep.str (Y := Y) (μ := μ) (H := H) x.toList
      rw [Array.toArray_toList] at q
      exact q
    exact .cons this (repKeys ks)
theorem repRows : ∀ {L : List Tb.Row}, (∀ r ∈ L, H r.1 = some (.tup (r.2.map kV)) ∧ Fr Y μ r.1) → RepL Y μ H (L.map fun r => V.ref r.1) (L.map fun r => kDT r.2)
  | [], _ => .nil
  | r :: L, h => .cons (.tup (h r List.mem_cons_self).1 (h r List.mem_cons_self).2 (repKeys r.2)) (repRows fun q hq => h q (List.mem_cons_of_mem _ hq))
end
theorem vals_refs : ∀ {L : List Tb.Row} {us : List Value}, Vals (L.map fun r => V.ref r.1) us → us = L.map fun r => Value.ref r.1
  | [], _, .nil => rfl
  | r :: L, _, .cons h t => by
    rw [List.map_cons, vals_refs t]
    congr 1
theorem refs_vals : ∀ L : List Tb.Row, Vals (L.map fun r => V.ref r.1) (L.map fun r => Value.ref r.1)
  | [] => .nil
  | r :: L => .cons rfl (refs_vals L)
theorem boot_sorted' : bootBuiltins (nm "sorted") = some (.builtin "sorted") ∧ nm "sorted" ≠ "__name__" := by decide +kernel
theorem sset_same {rows L' L : List Tb.Row} {es : List D} (h : sortD (firsts [] (rows.map fun r => kDT r.2)) = some es) (sub : ∀ r ∈ L, r ∈ rows) (all : ∀ r ∈ rows, r.2 ∈ L.map (·.2)) (nd : (L.map (·.2)).Nodup) (pm : L'.Perm L)
    (pw : L'.Pairwise fun q r => PySem.W.dataLe false rowP q r = true) : es = L'.map fun r => kDT r.2 := by
  obtain ⟨K, e1, e2, e3⟩ := firsts_keys (rows.map (·.2)) [] List.nodup_nil
  rw [List.map_map] at e1
  have e1' : firsts [] (rows.map fun r => kDT r.2) = K.map kDT := e1
  rw [e1'] at h
  rw [List.nil_append] at e2 e3
  obtain ⟨_, _, _, _, _, rfl⟩ := sortD_some h
  have pk : (L'.map (·.2)).Perm K := by
    refine (pm.map (·.2)).trans ((List.perm_ext_iff_of_nodup nd e2).mpr fun k => ?_)
    rw [e3]
    constructor
    · intro m
      obtain ⟨r, hr, rfl⟩ := List.mem_map.mp m
      exact .inr (List.mem_map.mpr ⟨r, sub r hr, rfl⟩)
    · rintro (m | m)
      · cases m
      · obtain ⟨r, hr, rfl⟩ := List.mem_map.mp m
        exact all r hr
  have tl := PySem.W.sortLe_total (PyProof.Rows.listOrd PyProof.Rows.itemOrd) false fun d : D => PySem.W.keyToks (encD d)
  refine List.Perm.eq_of_pairwise (le := fun a b => PySem.W.dataLe false encD a b = true) ?_ (List.pairwise_mergeSort (le := PySem.W.dataLe false encD) (fun a b c h1 h2 => tl.trans a b c h1 h2) (fun a b => by rw [Bool.or_eq_true]; exact tl.total a b) _) ?_ ?_
  · intro a b ha hb h1 h2
    have ma := (List.mergeSort_perm _ _).mem_iff.mp ha
    obtain ⟨k, _, rfl⟩ := List.mem_map.mp ma
    obtain ⟨r, _, rfl⟩ := List.mem_map.mp hb
    rw [le_both h1 h2]
  · rw [List.pairwise_map]
    refine pw.imp fun {q r} h => ?_
    have : PySem.W.dataLe false rowP q r = PySem.W.dataLe false encD (kDT q.2) (kDT r.2) := by
      show (!PyProof.Rows.lexLt PyProof.Rows.itemOrd (PySem.W.keyToks (rowP r)) (PySem.W.keyToks (rowP q))) = (!PyProof.Rows.lexLt PyProof.Rows.itemOrd (PySem.W.keyToks (encD (kDT r.2))) (PySem.W.keyToks (encD (kDT q.2))))
      rw [encD_row, encD_row]
    rw [← this]; exact h
  · refine (List.mergeSort_perm _ _).trans ?_
    have := pk.symm.map kDT
    rw [List.map_map] at this
    exact this
section
variable {X : Cx} {Y : Sx} {Bs : List Nat} {W : WX} {b : Nat} {M : MC} {c : Ctx} {y : Expr} {p p1 p2 q : Pos} {ma : Env → Store → R D}
theorem s_sset (G : Good Y c b Bs W M X) (hcm : M.calm = true) {n n2 : Str} (hn : gnB M.sc "sorted" n = true) (hn2 : gnB M.sc "set" n2 = true) (hs : notStar y = true) (ha : PE X y (tI Y Bs W ma)) :
    PE X (.Call (.Name n p) [.Call (.Name n2 p1) [y] [] q] [] p2) (tI Y Bs W fun ρ S => (ma ρ S).bind fun d S1 => R.of S1 (ssetD (vw S1 d))) := by
  obtain ⟨rfl, h4, h5⟩ := gnB_of hn
  obtain ⟨rfl, h6, h7⟩ := gnB_of hn2
  have hu := G.hu
  have m1 : X.mg (nm "sorted") = none := G.bi _ (by decide +kernel)
  have m2 : X.mg (nm "set") = none := G.bi _ (by decide +kernel)
  refine ⟨fun pins s σ H Q I ⟨μ, ρ, S, w, en, k⟩ => Call_ (ld_blt I (G.gl h4) m1 boot_sorted'.1 (callWith_builtin1 (args_cons (Call_ (ld_blt I (G.gl h6) m2 boot_set'.1 (callWith_type1 (args_cons (thn (ha.run pins s σ H _ I (tX.bind w en k fun d S1 μ1 H1 u w1 en1 x1 r1 k1 => (?_ : (fun (v : V) (H1 : Hp) => ∃ (a : Addr) (rows : List Tb.Row) (es : List D), v = .ref a ∧ (H1 a = some (.lst (rows.map fun r => V.ref r.1)) ∨ H1 a = some (.tup (rows.map fun r => V.ref r.1))) ∧ rows.length ≤ 120 ∧ (∀ r ∈ rows, H1 r.1 = some (.tup (r.2.map kV))) ∧ sortD (firsts [] (rows.map fun r => kDT r.2)) = some es ∧ ∀ (L : List Tb.Row) (p : Addr), (∀ r ∈ L, r ∈ rows) → es = L.map (fun r => kDT r.2) → H1 p = none → Q (.ref p) (upd H1 p (.lst (L.map fun r => V.ref r.1)))) u H1))) ?_) (starEach_of hs)) (starEach_of hs) rfl) boot_set'.2 (okN_db h7))) rfl) rfl rfl) boot_sorted'.2 (okN_db h5))⟩
  · obtain ⟨r, hr, k2⟩ := k1.of
    have vd := view_of w1 r1
    revert hr
    generalize vw S1 d = d' at vd
    intro hr
    have main : ∀ (a : Addr) (xs : List V) (ds : List D), u = .ref a → (H1 a = some (.lst xs) ∨ H1 a = some (.tup xs)) → RepL Y μ1 H1 xs ds → ssetL ds = some r → ∃ (a : Addr) (rows : List Tb.Row) (es : List D), u = .ref a ∧ (H1 a = some (.lst (rows.map fun r => V.ref r.1)) ∨ H1 a = some (.tup (rows.map fun r => V.ref r.1))) ∧ rows.length ≤ 120 ∧ (∀ r ∈ rows, H1 r.1 = some (.tup (r.2.map kV))) ∧ sortD (firsts [] (rows.map fun r => kDT r.2)) = some es ∧ ∀ (L : List Tb.Row) (p : Addr), (∀ r ∈ L, r ∈ rows) → es = L.map (fun r => kDT r.2) → H1 p = none → Q (.ref p) (upd H1 p (.lst (L.map fun r => V.ref r.1))) := by
      intro a xs ds hu hx rr he
      unfold ssetL at he
      split at he
      · rename_i hl
        obtain ⟨rows, rfl, rfl, hrow⟩ := rows_of w1 rr hl.2
        simp only [Option.map_eq_some_iff] at he
        obtain ⟨es, e1, rfl⟩ := he
        refine ⟨a, rows, es, hu, hx, by simpa using hl.1, fun r hr => (hrow r hr).1, e1, fun L p hL he hp => ?_⟩
        refine k2 μ1 _ (.ref p) (.laid hp) (w1.laid hp) (.lst upd_same (w1.fresh hp) ?_)
        rw [he]
        exact (repRows fun r hr => hrow r (hL r hr)).ext (.laid hp)
      · cases he
    cases vd with
    | lst hx rr => exact main _ _ _ rfl (.inl hx) rr hr
    | tup hx _ rr => exact main _ _ _ rfl (.inr hx) rr hr
    | _ => simp [ssetD] at hr
  · rintro v s1 ⟨x, H1, I1, r1, a, rows, es, rfl, hx, hl, hrow, he, hq⟩
    obtain rfl : v = Value.ref a := r1
    refine args_nil ?_
    obtain ⟨T, ol, its, nl, hT, ho, hc, hd, rv⟩ : ∃ (T : String) (ol : Obj) (its : List Value) (nl : Nat), (T = "list" ∨ T = "tuple") ∧ s1.heap.get? a = some ol ∧ ol.cls = .type T ∧ ol.data = .seq its.toArray nl ∧ Vals (rows.map fun r => V.ref r.1) its := by
      rcases hx with hx | hx
      · obtain ⟨its, rv, pl, hz⟩ := I1.list (.of hx)
        obtain ⟨ol, ho, hc, n, hd⟩ := pl.isList
        exact ⟨_, ol, its, n, .inl rfl, ho, hc, hd, rv⟩
      · obtain ⟨its, rv, ⟨ol, ho, hc, n, hd⟩, hz⟩ := I1.tuple (.of hx)
        exact ⟨_, ol, its, n, .inr rfl, ho, hc, hd, rv⟩
    refine Tb.set_keys (P := X.prog) (w := X.w) (rows := rows) (I1.ok.hd (G.calm hcm)) hT ho hc hd (vals_refs rv) (fun r hr => key_of I1.hok (hrow r hr)) hl (by omega) fun h1 tk L es1 ep t R sub all kp => args_nil ?_
    have I2 : Inv X pins σ H1 { s1 with heap := h1, toks := tk } := I1.kept fun b o e => kp b o (Heap.lt_size e) e
    obtain ⟨_, _, hp, hal, hso, _⟩ := sortD_some he
    obtain ⟨K, e1, e2, e3⟩ := firsts_keys (rows.map (·.2)) [] List.nodup_nil
    rw [List.map_map] at e1
    have e1' : firsts [] (rows.map fun r => kDT r.2) = K.map kDT := e1
    rw [e1'] at hal hso
    have inK : ∀ d ∈ L.map rowP, d ∈ (K.map kDT).map encD := by
      intro d hd
      obtain ⟨r, hr, rfl⟩ := List.mem_map.mp hd
      rw [List.map_map]
      refine List.mem_map.mpr ⟨r.2, ?_, encD_row r⟩
      have := (e3 r.2).mpr (.inr (List.mem_map.mpr ⟨r, sub r hr, rfl⟩))
      simpa using this
    refine Tb.sorted_keys R (I1.ok.hd (G.calm hcm)) (by omega) (fun d hd d' hd' => hal d (inK d hd) d' (inK d' hd')) (hso.imp (fun z d hd => z d (inK d hd)) fun z d hd => z d (inK d hd)) fun s' p out cc L' k1 g o hp' hg hout pm pw => ?_
    have hn : H1 p = none := I2.hok.fresh hp'
    have few : L'.length ≤ 120 := by rw [pm.length_eq]; exact R.few
    have J : Inv X pins σ (upd H1 p (.lst (L'.map fun r => V.ref r.1))) { { s1 with heap := h1, toks := tk } with heap := s'.heap, gens := s'.gens, drawn := s'.drawn, toks := s'.toks } :=
      I2.call (ch := []) (Un.laid k1 hp' hn) (I2.hok.laid k1 hp' ⟨by rw [List.length_map, sizeLine_eq]; omega, out, cc, by rw [hout]; exact refs_vals L', hg⟩) (by rw [g]; exact I2.bare) (fun _ z => nomatch z)
    have es' : s' = { { s1 with heap := h1, toks := tk } with heap := s'.heap, gens := s'.gens, drawn := s'.drawn, toks := s'.toks } := by
      cases s'
      cases s1
      cases o
      rfl
    rw [es']
    exact ⟨.ref p, _, J, rfl, hq L' p (fun r hr => sub r (pm.mem_iff.mp hr)) (sset_same he sub all R.nd pm pw) hn⟩
end
end CL
namespace CL
open PySem PySem.Spec PyProof.Rows L2
theorem wipe_get {σ : L2.St} {j : Nat} : ∀ {vs : List Nat}, (wipe σ vs)[j]? = if j ∈ vs then (σ[j]?).map (fun _ => none) else σ[j]?
  | [] => by simp [wipe]
  | v :: vs => by
    unfold wipe
    rw [List.getElem?_set, wipe_length, wipe_get (vs := vs)]
    by_cases h : v = j
    · subst h
      simp only [if_true, List.mem_cons_self, ite_self]
      by_cases hl : v < σ.length
      · rw [if_pos hl, List.getElem?_eq_getElem hl]; rfl
      · rw [if_neg hl, List.getElem?_eq_none (by omega)]; rfl
    · rw [if_neg h]
      have : j ∈ v :: vs ↔ j ∈ vs := by
        rw [List.mem_cons]
        exact ⟨fun q => q.resolve_left (Ne.symm h), .inr⟩
      simp only [this]
theorem wipe_set {σ : L2.St} {i : Nat} {x : Option V} {vs : List Nat} (h : i ∈ vs) : wipe (σ.set i x) vs = wipe σ vs := by
  refine List.ext_getElem? fun j => ?_
  rw [wipe_get, wipe_get]
  by_cases hj : j ∈ vs
  · rw [if_pos hj, if_pos hj, List.getElem?_set]
    by_cases e : i = j
    · subst e
      by_cases hl : i < σ.length
      · rw [if_pos rfl, if_pos hl, List.getElem?_eq_getElem hl]; rfl
      · rw [if_pos rfl, if_neg hl, List.getElem?_eq_none (by omega)]
    · rw [if_neg e]
  · rw [if_neg hj, if_neg hj, List.getElem?_set_ne (fun e => hj (by rw [← e]; exact h))]
theorem EnvOk.wipe {Y : Sx} {μ : List Addr} {H : Hp} {σ : L2.St} {ρ : Env} (h : EnvOk Y μ H σ ρ) (hx : Y.exs = none) : ∀ vs : List Nat, EnvOk Y μ H (L2.wipe σ vs) (wipeE ρ vs)
  | [] => h
  | v :: vs => (EnvOk.wipe h hx vs).drop v (Sx.free_none hx v)
structure Locs (M : MC) (X : Cx) : Prop where
  hN : X.N = M.N
  nd : X.N.Nodup
  calm : M.calm = true → X.calm = true
  loc : ∀ n, locB M.sc n = true → L2.Loc X.env.scope n ∧ (X.fn n = true ∨ X.env.scope.names.lookup n = some .local)
def gA (tg : Tg) : TG := fun v σ H Q => ∃ (Y : Sx) (μ : List Addr) (Bs : List Nat) (S : Store) (ρ : Env) (d : D) (ρ' : Env), (∀ i ∈ tg.slots, Y.free i) ∧ World Y Bs μ H S ∧ EnvOk Y μ H σ ρ ∧ Rep Y μ H v d ∧ asg tg d ρ = some ρ' ∧
  ∀ σ', EnvOk Y μ H σ' ρ' → wipe σ' tg.slots = wipe σ tg.slots → Q σ' H
def gNames : List Nat → TGs
  | [] => gNil
  | i :: is => gCons (gName i) (gNames is)
section
variable {X : Cx} {M : MC}
theorem pgs_names (L : Locs M X) : ∀ {is : List Nat} {xs : List Expr}, namesMt M is xs = true → PGs X xs (gNames is) ∧ (assignEach xs X.env).length = is.length ∧ (assignEach xs X.env).findIdx? (·.1) = none
  | [], [], _ => ⟨pgs_nil, rfl, rfl⟩
  | [], _ :: _, h => by simp [namesMt] at h
  | _ :: _, [], h => by simp [namesMt] at h
  | i :: is, x :: xs, h => by
    cases x with
    | Name n p =>
      simp only [namesMt, Bool.and_eq_true, decide_eq_true_eq] at h
      obtain ⟨a1, a2, a3⟩ := pgs_names L h.2.2.2
      obtain ⟨l1, l2⟩ := L.loc n h.2.2.1
      refine ⟨pgs_cons (pg_name L.nd (by rw [L.hN]; exact h.1) l1 l2) a1 rfl, by show _ + 1 = _ + 1; rw [a2], ?_⟩
      show List.findIdx? _ ((false, _) :: assignEach xs X.env) = none
      rw [List.findIdx?_cons]
      simp [a3]
    | _ => simp [namesMt] at h
theorem names_read {Y : Sx} {μ : List Addr} {H : Hp} {V' : List Nat} : ∀ {is : List Nat} {xs : List V} {ds : List D} {σ : L2.St} {ρ : Env} {Q : L2.St → Hp → Prop}, (∀ i ∈ is, i ∈ V' ∧ Y.free i) → RepL Y μ H xs ds → xs.length = is.length → EnvOk Y μ H σ ρ →
    (∀ σ', EnvOk Y μ H σ' ((is.zip ds).foldl (fun ρ p => ρ.set p.1 (some p.2)) ρ) → wipe σ' V' = wipe σ V' → Q σ' H) → gNames is xs σ H Q
  | [], [], _, σ, ρ, Q, _, r, _, en, k => by
    cases r
    exact ⟨rfl, k σ en rfl⟩
  | [], _ :: _, _, _, _, _, _, _, h, _, _ => by simp at h
  | _ :: _, [], _, _, _, _, _, _, h, _, _ => by simp at h
  | i :: is, x :: xs, _, σ, ρ, Q, hv, r, h, en, k => by
    cases r with
    | cons r1 r2 =>
      refine ⟨x, xs, rfl, ?_⟩
      refine names_read (fun j hj => hv j (List.mem_cons_of_mem _ hj)) r2 (by simpa using h) (en.set r1 i (hv i List.mem_cons_self).2) fun σ' e q => ?_
      exact k σ' e (q.trans (wipe_set (hv i List.mem_cons_self).1))
theorem g_tg (L : Locs M X) {tg : Tg} {t : Expr} (h : tg.mt M t = true) : PG X t (gA tg) := by
  cases tg with
  | one i =>
    unfold Tg.mt at h
    cases t with
    | Name n p =>
      simp only [Bool.and_eq_true, decide_eq_true_eq] at h
      obtain ⟨l1, l2⟩ := L.loc n h.2.2
      refine ⟨fun pins s σ H v u Q I r ⟨Y, μ, Bs, S, ρ, d, ρ', fr, w, en, rd, ha, k⟩ => ?_⟩
      refine (pg_name (pos := p) L.nd (by rw [L.hN]; exact h.1) l1 l2).run pins s σ H v u Q I r ?_
      simp only [asg, Option.some.injEq] at ha
      subst ha
      exact k _ (en.set rd i (fr i (by simp [Tg.slots]))) (wipe_set (by simp [Tg.slots]))
    | _ => simp at h
  | many is =>
    unfold Tg.mt at h
    cases t with
    | Tuple xs kk p =>
      simp only [Bool.and_eq_true] at h
      obtain ⟨a1, a2, a3⟩ := pgs_names L h.2
      refine ⟨fun pins s σ H v u Q I r ⟨Y, μ, Bs, S, ρ, d, ρ', fr, w, en, rd, ha, k⟩ => ?_⟩
      refine (pg_tup (pos := p) (k := kk) (L.calm h.1) a1 a2 a3).run pins s σ H v u Q I r ?_
      simp only [asg] at ha
      cases rd with
      | tup hx n rr =>
        simp only at ha
        split at ha
        · rename_i hl
          simp only [Option.some.injEq] at ha
          subst ha
          exact ⟨_, _, rfl, .of hx, by rw [rr.length, hl], names_read (V' := is) (fun i hi => ⟨hi, fr i hi⟩) rr (by rw [rr.length, hl]) en k⟩
        · cases ha
      | _ => cases ha
    | _ => simp at h
end
def KT (Y : Sx) (Bs : List Nat) (μ : List Addr) (H : Hp) (K : Option V → Hp → Prop) : R (Option D) → Prop
  | .ok none S' => ∀ μ' H', Ext μ H μ' H' → World Y Bs μ' H' S' → K none H'
  | .ok (some e) S' => ∀ μ' H' v, Ext μ H μ' H' → World Y Bs μ' H' S' → Rep Y μ' H' v e → K (some v) H'
  | _ => False
def Step (ca : CA) (Bs : List Nat) (f : D → Env → Store → R (Option D)) (g : TG) (tt : TT) (te : TE) (vs : List Nat) (σ : L2.St) (ρ : Env) : Prop :=
  ∀ (Y : Sx) (μ : List Addr) (H : Hp) (S : Store) (x : V) (d : D) (K : Option V → Hp → Prop), (Y.ca = ca ∧ Y.exs = none) → World Y Bs μ H S → EnvOk Y μ H (wipe σ vs) ρ → Rep Y μ H x d → KT Y Bs μ H K (f d ρ S) →
    g x (wipe σ vs) H fun σ2 H2 => wipe σ2 vs = wipe σ vs ∧ tt σ2 H2 fun b H3 => if b = true then te σ2 H3 fun y H4 => K (some y) H4 else K none H3
theorem lc_read {Y : Sx} {Bs : List Nat} {μ1 : List Addr} {H1 : Hp} {S1 S2 : Store} {σ : L2.St} {ρ : Env} {vs : List Nat} {J : L2.It} {wk : Walk} {f : D → Env → Store → R (Option D)} {g : TG} {tt : TT} {te : TE} {ds : List D} {Q : VK} {Dd : Addr}
    (w1 : World Y Bs μ1 H1 S1) (en : EnvOk Y μ1 H1 (wipe σ vs) ρ) (hJ : WalkOk Y μ1 H1 J wk) (hlim : wk.items.length ≤ LIM) (hf : lcL f wk ρ wk.items S1 = .ok ds S2) (st : Step Y.ca Bs f g tt te vs σ ρ) (hx : Y.exs = none) (hD : H1 Dd = none)
    (fin : ∀ μ' H' acc, World (Y.hide Dd) Bs μ' H' S2 → H' Dd = some (.lst acc) → RepL (Y.hide Dd) μ' H' acc ds → Ext μ1 H1 μ' H' → Q (.ref Dd) H') :
    ∃ W : Nat → Nat → Hp → Prop, (∃ m, W 0 m (upd H1 Dd (.lst []))) ∧ ∀ i m H, W i m H →
      (J.stop i H ∧ Q (.ref Dd) H) ∨ (J.go i H ∧ ∃ Nx : Hp → Prop, (∀ H', Nx H' → ∃ m', m' < m ∧ W (i + 1) m' H') ∧ ∀ x H', J.yld i H x H' → g x (wipe σ vs) H' fun σ2 H2 => wipe σ2 vs = wipe σ vs ∧ tt σ2 H2 fun b H3 =>
        if b = true then te σ2 H3 fun y H4 => ∃ acc, H4 Dd = some (.lst acc) ∧ acc.length < sizeLine ∧ Nx (upd H4 Dd (.lst (acc ++ [y]))) else Nx H3) := by
  have up : Up Y H1 (Y.hide Dd) := .hide hD
  refine ⟨fun i m H => ∃ (μ : List Addr) (S : Store) (acc : List V) (done rest : List D), m = wk.items.length - i ∧ World (Y.hide Dd) Bs μ H S ∧ EnvOk (Y.hide Dd) μ H (wipe σ vs) ρ ∧ Ext μ1 H1 μ H ∧ H Dd = some (.lst acc) ∧ RepL (Y.hide Dd) μ H acc done ∧
    done.length ≤ i ∧ i ≤ wk.items.length ∧ lcL f wk ρ (wk.items.drop i) S = .ok rest S2 ∧ ds = done ++ rest, ?_, ?_⟩
  · exact ⟨_, μ1, S1, [], [], ds, rfl, w1.hide hD, en.move (.laid hD) up rfl, .laid hD, upd_same, .nil, Nat.zero_le _, Nat.zero_le _, by rw [List.drop_zero]; exact hf, rfl⟩
  · rintro i m H ⟨μ, S, acc, done, rest, rfl, w, en', x, hH, r, hdl, hi, hl, hds⟩
    cases hd : wk.items.drop i with
    | nil =>
      rw [hd] at hl
      simp only [lcL] at hl
      split at hl
      · rename_i hst
        simp only [R.ok.injEq] at hl
        obtain ⟨rfl, rfl⟩ := hl
        have hii : i = wk.items.length := by
          have := List.drop_eq_nil_iff.mp hd
          omega
        refine .inl ⟨?_, fin μ H acc w hH (by rw [hds, List.append_nil]; exact r) x⟩
        rw [hii]
        exact (hJ _ μ H up x Bs S w hst).2
      · cases hl
    | cons d l =>
      rw [hd] at hl
      simp only [lcL] at hl
      split at hl
      · rename_i hst
        have hlt : i < wk.items.length := by
          have : (wk.items.drop i).length = l.length + 1 := by rw [hd]; rfl
          rw [List.length_drop] at this
          omega
        have hget : wk.items[i]? = some d := by
          have : (wk.items.drop i)[0]? = some d := by rw [hd]; rfl
          rw [List.getElem?_drop] at this
          simpa using this
        have hdrop : wk.items.drop (i + 1) = l := by
          have : (wk.items.drop i).drop 1 = l := by rw [hd]; rfl
          rw [List.drop_drop] at this
          exact this
        obtain ⟨hgo, hy⟩ := (hJ _ μ H up x Bs S w hst).1 i d hget
        refine .inr ⟨hgo, fun H' => ∃ (μ : List Addr) (S : Store) (acc : List V) (done rest : List D), World (Y.hide Dd) Bs μ H' S ∧ EnvOk (Y.hide Dd) μ H' (wipe σ vs) ρ ∧ Ext μ1 H1 μ H' ∧ H' Dd = some (.lst acc) ∧ RepL (Y.hide Dd) μ H' acc done ∧
          done.length ≤ i + 1 ∧ lcL f wk ρ l S = .ok rest S2 ∧ ds = done ++ rest, ?_, ?_⟩
        · rintro H' ⟨μ, S, acc, done, rest, a1, a2, a3, a4, a5, a6, a7, a8⟩
          exact ⟨_, by omega, μ, S, acc, done, rest, rfl, a1, a2, a3, a4, a5, a6, hlt, by rw [hdrop]; exact a7, a8⟩
        · intro y H'' yl
          obtain ⟨μ2, x2, w2, ry⟩ := hy y H'' yl
          have hid : (Y.hide Dd).hid Dd := .inr rfl
          have nD : ∀ {μ' : List Addr} {H' : Hp} {S' : Store}, World (Y.hide Dd) Bs μ' H' S' → Dd ∉ μ' := fun w' m => w'.hidC _ m hid
          have hH2 := x2.keep _ _ (nD w) hH
          refine st (Y.hide Dd) μ2 H'' S y d (fun o H4 => match o with
            | some y => ∃ acc, H4 Dd = some (.lst acc) ∧ acc.length < sizeLine ∧ ∃ (μ : List Addr) (S : Store) (acc' : List V) (done rest : List D), World (Y.hide Dd) Bs μ (upd H4 Dd (.lst (acc ++ [y]))) S ∧ EnvOk (Y.hide Dd) μ (upd H4 Dd (.lst (acc ++ [y]))) (wipe σ vs) ρ ∧ Ext μ1 H1 μ (upd H4 Dd (.lst (acc ++ [y]))) ∧ (upd H4 Dd (.lst (acc ++ [y]))) Dd = some (.lst acc') ∧ RepL (Y.hide Dd) μ (upd H4 Dd (.lst (acc ++ [y]))) acc' done ∧
                done.length ≤ i + 1 ∧ lcL f wk ρ l S = .ok rest S2 ∧ ds = done ++ rest
            | none => ∃ (μ : List Addr) (S : Store) (acc : List V) (done rest : List D), World (Y.hide Dd) Bs μ H4 S ∧ EnvOk (Y.hide Dd) μ H4 (wipe σ vs) ρ ∧ Ext μ1 H1 μ H4 ∧ H4 Dd = some (.lst acc) ∧ RepL (Y.hide Dd) μ H4 acc done ∧
                done.length ≤ i + 1 ∧ lcL f wk ρ l S = .ok rest S2 ∧ ds = done ++ rest) ⟨rfl, hx⟩ w2 (en'.ext x2) ry ?_
          revert hl
          cases hfd : f d ρ S with
          | ok o S' =>
            cases o with
            | none =>
              intro hl μ3 H3 x3 w3
              exact ⟨μ3, S', acc, done, rest, w3, (en'.ext x2).ext x3, (x.trans x2).trans x3, x3.keep _ _ (nD w2) hH2, (r.ext x2).ext x3, by omega, hl, hds⟩
            | some e =>
              intro hl μ3 H3 v x3 w3 rv
              simp only at hl
              cases hr : lcL f wk ρ l S' with
              | ok rest' S'' =>
                rw [hr] at hl
                simp only [R.ok.injEq] at hl
                obtain ⟨rfl, rfl⟩ := hl
                have hH3 := x3.keep _ _ (nD w2) hH2
                have r3 := (r.ext x2).ext x3
                refine ⟨acc, hH3, ?_, μ3, S', acc ++ [v], done ++ [e], rest', w3.hid hid, ((en'.ext x2).ext x3).hid hid, ?_, upd_same, (r3.append (.cons rv .nil)).hid hid, by simp; omega, hr, by rw [hds]; simp⟩
                · rw [r3.length, sizeLine_eq]; unfold LIM at hlim; omega
                · have xx := (x.trans x2).trans x3
                  exact ⟨xx.pre, fun a o n h => by rw [upd_ne (ne_of_none h hD)]; exact xx.keep a o n h, xx.new⟩
              | err _ _ _ _ => rw [hr] at hl; cases hl
              | bad => rw [hr] at hl; cases hl
          | err _ _ _ _ => intro hl; cases hl
          | bad => intro hl; cases hl
      · cases hl
theorem Good.hidden {Y Y' : Sx} {c : Ctx} {b : Nat} {Bs : List Nat} {W : WX} {M : MC} {X : Cx} (G : Good Y c b Bs W M X) (hh : Y'.ca = Y.ca ∧ Y'.exs = none) (hn : Y.exs = none) : Good Y' c b Bs W M X where
  hN := G.hN
  hK := by rw [hh.1]; exact G.hK
  nd := G.nd
  hsc := G.hsc
  calm := G.calm
  exs := by rw [hh.2, ← hn]; exact G.exs
  cx := G.cx
  exn := fun z hz => by rw [hh.2] at hz; cases hz
  isxK := by unfold clsVal; rw [hh.1]; exact G.isxK
  hu := G.hu
  hb := G.hb
  tk := G.tk
  bi := G.bi
  con := G.con
  cls := by rw [hh.1]; exact G.cls
  bcl := G.bcl
  isaN := by rw [hh.1]; exact G.isaN
  isaI := by unfold clsVal; rw [hh.1]; exact G.isaI
  call := by rw [hh.1]; exact G.call
  hfn := by rw [hh.1]; exact G.hfn
abbrev noW : WX := fun _ _ _ _ => False
theorem Good.blk {Y : Sx} {c : Ctx} {b : Nat} {Bs : List Nat} {W : WX} {M : MC} {X : Cx} (G : Good Y c b Bs W M X) (hn : Y.exs = none) (s : Shared) (H : Hp) (scope : Scope) (C : Addr) (cl : List (Str × Addr)) (fp : List Addr) :
    Good Y c b Bs noW (M.at (relS scope M.sc)) (X.blk s H scope (compEnvC scope cl C X.env) fp) where
  hN := G.hN
  hK := G.hK
  nd := G.nd
  hsc := by
    show relS scope X.env.scope = relS scope M.sc
    rw [G.hsc]
  calm := G.calm
  exs := G.exs
  cx := G.cx
  exn := fun z hz => by rw [hn] at hz; cases hz
  isxK := G.isxK
  hu := G.hu
  hb := G.hb
  tk := by
    rintro u s' ⟨_, _, _, _, _, _, _, _, _, _, _, _, _, _, _, _, h⟩
    exact h
  bi := G.bi
  con := G.con
  cls := G.cls
  bcl := G.bcl
  isaN := G.isaN
  isaI := G.isaI
  hfn := fun f hf => by
    obtain ⟨k, a, fd, ps, h⟩ := (G.hfn f hf).get
    exact ⟨k, a, fd, ps, h⟩
  call := fun f hf => by
    obtain ⟨k, a, fd, ps, h⟩ := (G.call f hf).get
    exact ⟨k, a, fd, ps, h⟩
section
variable {Y : Sx} {μ : List Addr} {H : Hp} {Bs : List Nat} {S : Store} {p : Addr}
theorem CellOk.show {q : List Addr} (hq : ∀ a ∈ q, a = p) {a : Addr} {ce : Cell} (h : CellOk (Y.hide p) μ H a ce) : CellOk Y (μ ++ q) H a ce := by
  cases h with
  | lst h r => exact .lst h (r.show hq)
  | dicK h r => exact .dicK h (r.show hq)
  | dicT h r => exact .dicT h (r.show hq)
  | ins h hn r => exact .ins h hn (r.show hq)
theorem World.bare (w : World (Y.hide p) Bs μ H S) : World Y Bs μ H S where
  len := w.len
  nd := w.nd
  cells := fun i a ce h1 h2 => by
    have := (w.cells i a ce h1 h2).show (q := []) (by simp)
    rwa [List.append_nil] at this
  lims := w.lims
  bs := w.bs
  hidT := fun a z => w.hidT a (.inl z)
  hidC := fun a ha z => w.hidC a ha (.inl z)
theorem World.adopt {ce : Cell} (w : World (Y.hide p) Bs μ H S) (hv : ¬ Y.hid p) (new : CellOk Y (μ ++ [p]) H p ce) : World Y Bs (μ ++ [p]) H (S ++ [ce]) where
  len := by simp [w.len]
  nd := by
    rw [List.nodup_append]
    refine ⟨w.nd, by simp, fun a ha b hb' => ?_⟩
    have : b = p := by simpa using hb'
    rintro rfl
    exact w.hidC _ ha (.inr this)
  cells := fun i a d h1 h2 => by
    by_cases hi : i < S.length
    · rw [List.getElem?_append_left hi] at h2
      rw [List.getElem?_append_left (by rw [w.len]; exact hi)] at h1
      exact (w.cells i a d h1 h2).show (by simp)
    · have hl := (List.getElem?_eq_some_iff.mp h2).1
      have e1 : i = S.length := by simp at hl; omega
      subst e1
      rw [List.getElem?_append_right (Nat.le_refl _)] at h2
      rw [List.getElem?_append_right (by rw [w.len]; exact Nat.le_refl _)] at h1
      simp [w.len] at h1 h2
      subst h1; subst h2
      exact new
  lims := fun i d h b hb' hlt => by
    have := w.bs b hb'
    rw [List.getElem?_append_left (by omega)] at h
    exact w.lims i d h b hb' hlt
  bs := fun b h => by have := w.bs b h; simp; omega
  hidT := fun a z => w.hidT a (.inl z)
  hidC := fun a ha z => by
    rcases List.mem_append.mp ha with q | q
    · exact w.hidC a q (.inl z)
    · have : a = p := by simpa using q
      subst this
      exact hv z
end
def lcF (tg : Tg) (me : Env → Store → R D) : D → Env → Store → R (Option D) := fun d ρ S => match asg tg d ρ with | some ρ' => (me ρ' S).bind fun x S' => .ok (some x) S' | none => .bad
def lcFI (tg : Tg) (mq me : Env → Store → R D) : D → Env → Store → R (Option D) := fun d ρ S => match asg tg d ρ with
        | some ρ' => (mq ρ' S).bind fun k S' => match truD (vw S' k) with
          | some true => (me ρ' S').bind fun x S' => .ok (some x) S'
          | some false => .ok none S'
          | none => .bad
        | none => .bad
theorem wipe_wipe {σ : L2.St} {vs : List Nat} : wipe (wipe σ vs) vs = wipe σ vs := by
  refine List.ext_getElem? fun j => ?_
  rw [wipe_get, wipe_get]
  by_cases hj : j ∈ vs
  · rw [if_pos hj, if_pos hj]; cases σ[j]? <;> rfl
  · rw [if_neg hj, if_neg hj]
def teX (ca : CA) (Bs : List Nat) (me : Env → Store → R D) : TE := fun σ H Q => ∃ Y : Sx, (Y.ca = ca ∧ Y.exs = none) ∧ tI Y Bs noW me σ H Q
def ttX (ca : CA) (Bs : List Nat) (mq : Env → Store → R D) : TT := fun σ H Q => ∃ Y : Sx, (Y.ca = ca ∧ Y.exs = none) ∧ tT Y Bs noW (truM mq) σ H Q
theorem step_F {ca : CA} {Bs : List Nat} {tg : Tg} {me : Env → Store → R D} {σ : L2.St} {ρ : Env} : Step ca Bs (lcF tg me) (gA tg) tYes (teX ca Bs me) tg.slots σ ρ := by
  intro Y μ H S x d K hca w en rd k
  unfold lcF at k
  cases ha : asg tg d ρ with
  | none => rw [ha] at k; exact k.elim
  | some ρ' =>
    rw [ha] at k
    refine ⟨Y, μ, Bs, S, _, d, ρ', fun i _ => Sx.free_none hca.2 i, w, en, rd, ha, fun σ' en' hw => ⟨hw.trans wipe_wipe, ?_⟩⟩
    show teX ca Bs me σ' H fun y H4 => K (some y) H4
    refine ⟨Y, hca, μ, ρ', S, w, en', ?_⟩
    revert k
    dsimp only
    cases me ρ' S with
    | ok y S' => intro k; exact fun μ' H' v x w r => k μ' H' v x w r
    | err _ _ _ _ => intro k; exact k.elim
    | bad => intro k; exact k.elim
theorem step_FI {ca : CA} {Bs : List Nat} {tg : Tg} {mq me : Env → Store → R D} {σ : L2.St} {ρ : Env} : Step ca Bs (lcFI tg mq me) (gA tg) (ttX ca Bs mq) (teX ca Bs me) tg.slots σ ρ := by
  intro Y μ H S x d K hca w en rd k
  unfold lcFI at k
  cases ha : asg tg d ρ with
  | none => rw [ha] at k; exact k.elim
  | some ρ' =>
    rw [ha] at k
    refine ⟨Y, μ, Bs, S, _, d, ρ', fun i _ => Sx.free_none hca.2 i, w, en, rd, ha, fun σ' en' hw => ⟨hw.trans wipe_wipe, Y, hca, μ, ρ', S, w, en', ?_⟩⟩
    revert k
    dsimp only
    unfold truM
    cases mq ρ' S with
    | ok y S' =>
      simp only [R.bind]
      cases ht : truD (vw S' y) with
      | none => intro k; exact k.elim
      | some t =>
        cases t with
        | false =>
          intro k μ' H' b x' w' e
          subst e
          rw [if_neg (by simp)]
          exact k μ' H' x' w'
        | true =>
          intro k μ' H' b x' w' e
          subst e
          rw [if_pos rfl]
          refine ⟨Y, hca, μ', ρ', S', w', en'.ext x', ?_⟩
          revert k
          cases me ρ' S' with
          | ok z S'' => intro k; exact fun μ2 H2 v x2 w2 r => k μ2 H2 v (x'.trans x2) w2 r
          | err _ _ _ _ => intro k; exact k.elim
          | bad => intro k; exact k.elim
    | err _ _ _ _ => intro k; exact k.elim
    | bad => intro k; exact k.elim
def lcM (f : D → Env → Store → R (Option D)) (vs : List Nat) (mi : Env → Store → R Walk) : Env → Store → R D := fun ρ S => (mi ρ S).bind fun w S1 => (lcR f w (wipeE ρ vs) S1).bind fun ds S2 => .ok (.lst ds) S2
def lcMN (f : D → Env → Store → R (Option D)) (vs : List Nat) (mi : Env → Store → R Walk) : Env → Store → R D := fun ρ S => (mi ρ S).bind fun w S1 => (lcR f w (wipeE ρ vs) S1).bind fun ds S2 => .ok (.ref S2.length) (S2 ++ [.lst ds])
section
variable {X : Cx} {Y : Sx} {Bs : List Nat} {W : WX} {b : Nat} {M : MC} {c : Ctx} {f : D → Env → Store → R (Option D)} {g : TG} {tt : TT} {te : TE} {vs : List Nat} {mi : Env → Store → R Walk} {σ : L2.St} {H : Hp} {Q : VK}
theorem lcR_ok {w : Walk} {ρ : Env} {S S' : Store} {ds : List D} (h : lcR f w ρ S = .ok ds S') : w.items.length ≤ LIM ∧ lcL f w ρ w.items S = .ok ds S' := by
  unfold lcR at h
  split at h
  · exact ⟨‹_›, h⟩
  · cases h
theorem lcL_noErr {w : Walk} {ρ : Env} : ∀ {l : List D} {S : Store} {C ns ds S'}, lcL f w ρ l S ≠ .err C ns ds S'
  | [], S, C, ns, ds, S', h => by
    simp only [lcL] at h
    split at h <;> cases h
  | d :: l, S, C, ns, ds, S', h => by
    simp only [lcL] at h
    split at h
    · split at h
      · exact lcL_noErr h
      · split at h <;> cases h
      · cases h
    · cases h
theorem lcR_noErr {w : Walk} {ρ : Env} {S : Store} {C ns ds S'} : lcR f w ρ S ≠ .err C ns ds S' := by
  unfold lcR
  split
  · exact lcL_noErr
  · intro h; cases h
theorem lc_tLc (hx : Y.exs = none) (st : ∀ σ ρ, Step Y.ca Bs f g tt te vs σ ρ) (h : tI Y Bs W (lcM f vs mi) σ H Q) : tLc (tW Y Bs W mi) g tt te vs σ H Q := by
  obtain ⟨μ, ρ, S, w, en, k⟩ := h
  refine tX.bind w en k fun wk S1 μ1 H1 J w1 en1 x1 hJ k1 => ?_
  intro Dd hD
  cases hr : lcR f wk (wipeE ρ vs) S1 with
  | ok ds S2 =>
    rw [hr] at k1
    obtain ⟨hlim, hf⟩ := lcR_ok hr
    refine lc_read w1 (en1.wipe hx vs) hJ hlim hf (st _ _) hx hD fun μ' H' acc w' hH r x => ?_
    refine k1 μ' H' _ x w'.bare (.lst hH ⟨fun m => w'.hidC _ m (.inr rfl), (w1.fresh hD).vis⟩ ?_)
    have := r.show (q := []) (by simp)
    rwa [List.append_nil] at this
  | err _ _ _ _ => exact absurd hr lcR_noErr
  | bad => rw [hr] at k1; exact k1.elim
theorem lc_tLcN (hx : Y.exs = none) (st : ∀ σ ρ, Step Y.ca Bs f g tt te vs σ ρ) (h : tI Y Bs W (lcMN f vs mi) σ H Q) : tLc (tW Y Bs W mi) g tt te vs σ H Q := by
  obtain ⟨μ, ρ, S, w, en, k⟩ := h
  refine tX.bind w en k fun wk S1 μ1 H1 J w1 en1 x1 hJ k1 => ?_
  intro Dd hD
  cases hr : lcR f wk (wipeE ρ vs) S1 with
  | ok ds S2 =>
    rw [hr] at k1
    obtain ⟨hlim, hf⟩ := lcR_ok hr
    refine lc_read w1 (en1.wipe hx vs) hJ hlim hf (st _ _) hx hD fun μ' H' acc w' hH r x => ?_
    have w2 := w'.adopt (ce := .lst ds) (w1.fresh hD).vis (.lst hH (r.show (by simp)))
    refine k1 (μ' ++ [Dd]) H' _ ⟨?_, x.keep, fun a ha n => ?_⟩ w2 (.ref ?_)
    · obtain ⟨r', e⟩ := x.pre
      exact ⟨r' ++ [Dd], by rw [e, List.append_assoc]⟩
    · rcases List.mem_append.mp ha with q | q
      · exact x.new a q n
      · have : a = Dd := by simpa using q
        rw [this]; exact hD
    · rw [← w'.len, List.getElem?_append_right (Nat.le_refl _)]
      simp
  | err _ _ _ _ => exact absurd hr lcR_noErr
  | bad => rw [hr] at k1; exact k1.elim
theorem ownOf_snd (M : MC) (tg : Tg) : (ownOf M tg).map (·.2) = tg.slots := by
  unfold ownOf
  rw [List.map_map]
  exact List.map_id _
theorem locs_blk (G : Good Y c b Bs W M X) {scope : Scope} (s : Shared) (H : Hp) (C : Addr) (cl : List (Str × Addr)) (fp : List Addr) : Locs (M.at scope) (X.blk s H scope (compEnvC scope cl C X.env) fp) where
  hN := G.hN
  nd := G.nd
  calm := G.calm
  loc := fun n h => by
    have h' := locB_ok h
    show ((relS scope X.env.scope).names.lookup n = _ ∨ (relS scope X.env.scope).names.lookup n = _) ∧ ((scope.names.lookup n == some .cell) = true ∨ (relS scope X.env.scope).names.lookup n = _)
    rcases h' with e | e
    · have := lookup_relS_keep (sc := X.env.scope) (k := .local) (by decide) e
      exact ⟨.inl this, .inr this⟩
    · have := lookup_relS_keep (sc := X.env.scope) (k := .cell) (by decide) e
      exact ⟨.inr this, .inl (by rw [e]; rfl)⟩
theorem blk_ok (G : Good Y c b Bs W M X) {tg : Tg} {scope : Scope} (h : compB M tg scope = true) : BlkOk X.N X.env.scope scope (ownOf M tg) := by
  unfold compB at h
  rw [Bool.and_eq_true] at h
  rw [G.hN, G.hsc]
  exact blkOk_by h.2
theorem compB_calm {tg : Tg} {scope : Scope} (h : compB M tg scope = true) : M.calm = true := by
  unfold compB at h
  rw [Bool.and_eq_true] at h
  exact h.1
theorem names_free (G : Good Y c b Bs W M X) : ∀ {is : List Nat} {xs : List Expr}, namesMt M is xs = true → ∀ i ∈ is, Y.free i
  | [], _, _, i, hi => by cases hi
  | j :: is, [], h, _, _ => by simp [namesMt] at h
  | j :: is, x :: xs, h, i, hi => by
    cases x with
    | Name n p =>
      simp only [namesMt, Bool.and_eq_true, decide_eq_true_eq] at h
      rcases List.mem_cons.mp hi with e | e
      · rw [e]; exact G.free h.2.1
      · exact names_free G h.2.2.2 i e
    | _ => simp [namesMt] at h
theorem tg_free (G : Good Y c b Bs W M X) {tg : Tg} {t : Expr} (h : tg.mt M t = true) : ∀ i ∈ tg.slots, Y.free i := by
  cases tg with
  | one j =>
    unfold Tg.mt at h
    cases t with
    | Name n p =>
      simp only [Bool.and_eq_true, decide_eq_true_eq] at h
      intro i hi
      have : i = j := by simpa [Tg.slots] using hi
      rw [this]; exact G.free h.2.1
    | _ => cases h
  | many is =>
    unfold Tg.mt at h
    cases t with
    | Tuple xs kk p =>
      simp only [Bool.and_eq_true] at h
      exact names_free G h.2
    | _ => cases h
end
end CL
namespace CL
open PySem PySem.Spec PyProof.Rows L2
section
variable {X : Cx} {Y : Sx} {Bs : List Nat} {W : WX} {b : Nat} {M : MC} {c : Ctx} {y t i z : Expr} {scope : Scope} {p : Pos} {tg : Tg} {me mq : Env → Store → R D} {mi : Env → Store → R Walk}
theorem te_ok {X' : Cx} (h : ∀ Y' : Sx, (Y'.ca = Y.ca ∧ Y'.exs = none) → PE X' y (tI Y' Bs noW me)) : PE X' y (teX Y.ca Bs me) :=
  ⟨fun pins s σ H Q I ⟨Y', hca, k⟩ => (h Y' hca).run pins s σ H Q I k⟩
theorem tt_ok {X' : Cx} (h : ∀ Y' : Sx, (Y'.ca = Y.ca ∧ Y'.exs = none) → PT X' y (tT Y' Bs noW (truM me))) : PT X' y (ttX Y.ca Bs me) :=
  ⟨fun pins s σ H Q I ⟨Y', hca, k⟩ => (h Y' hca).run pins s σ H Q I k⟩
variable (G : Good Y c b Bs W M X) (hc : compB M tg scope = true) (ht : tg.mt (M.at scope) t = true) (hs : notSet i = true) (hi : PI X t i (tW Y Bs W mi))
include G hc ht hs hi
theorem s_lcT (he : ∀ (X' : Cx) (Y' : Sx), Good Y' c b Bs noW (M.at (relS scope M.sc)) X' → PE X' y (tI Y' Bs noW me)) :
    PE X (.ListComp y [⟨t, i, [], 0⟩] scope p) (tLc (tW Y Bs W mi) (gA tg) tYes (teX Y.ca Bs me) tg.slots) := by
  have := pe_lc (pos := p) (G.calm (compB_calm hc)) G.nd hi (blk_ok G hc) (fun s H C cl fp => g_tg (locs_blk G s H C cl fp) ht) (fun s H C cl fp => pts_nil) (fun s H C cl fp => te_ok (Y := Y) (me := me) fun Y' hca => he _ Y' ((G.hidden hca (G.bare (compB_calm hc))).blk hca.2 s H scope C cl fp)) (folded_of hs)
  rwa [ownOf_snd] at this
theorem s_lcTI (hq : ∀ (X' : Cx) (Y' : Sx), Good Y' c b Bs noW (M.at (relS scope M.sc)) X' → PT X' z (tT Y' Bs noW (truM mq))) (he : ∀ (X' : Cx) (Y' : Sx), Good Y' c b Bs noW (M.at (relS scope M.sc)) X' → PE X' y (tI Y' Bs noW me)) :
    PE X (.ListComp y [⟨t, i, [z], 0⟩] scope p) (tLc (tW Y Bs W mi) (gA tg) (ttX Y.ca Bs mq) (teX Y.ca Bs me) tg.slots) := by
  have := pe_lc (pos := p) (G.calm (compB_calm hc)) G.nd hi (blk_ok G hc) (fun s H C cl fp => g_tg (locs_blk G s H C cl fp) ht) (fun s H C cl fp => pts_one (tt_ok (Y := Y) (me := mq) fun Y' hca => hq _ Y' ((G.hidden hca (G.bare (compB_calm hc))).blk hca.2 s H scope C cl fp))) (fun s H C cl fp => te_ok (Y := Y) (me := me) fun Y' hca => he _ Y' ((G.hidden hca (G.bare (compB_calm hc))).blk hca.2 s H scope C cl fp)) (folded_of hs)
  rwa [ownOf_snd] at this
end
theorem mt_len {M : MC} : ∀ (es : Es) (xs : List Expr), es.mt M xs = true → es.len = xs.length
  | .nil, xs, h => by
    unfold Es.mt at h
    rw [List.isEmpty_iff] at h
    subst h; rfl
  | .cons e es, [], h => by simp [Es.mt] at h
  | .cons e es, x :: xs, h => by
    simp only [Es.mt, Bool.and_eq_true] at h
    simp [Es.len, mt_len es xs h.2.2]
structure EsOk (Y : Sx) (c : Ctx) (b : Nat) (Bs : List Nat) (W : WX) (X : Cx) (es : Es) (xs : List Expr) : Prop where
  args : PA X xs (tA Y Bs W fun ρ S => evs c b es ρ S)
  ns : allNS xs = true
  and : ∀ p, PE X (.BoolOp .And xs p) (tI Y Bs W fun ρ S => evAnd c b es ρ S)
  or : ∀ p, PE X (.BoolOp .Or xs p) (tI Y Bs W fun ρ S => evOr c b es ρ S)
  andT : ∀ p, PW X (.BoolOp .And xs p) (tT Y Bs W (truM fun ρ S => evAnd c b es ρ S))
  orT : ∀ p, PW X (.BoolOp .Or xs p) (tT Y Bs W (truM fun ρ S => evOr c b es ρ S))
theorem w_no {Y : Sx} {Bs : List Nat} {W : WX} {X : Cx} {x : Expr} {m : Env → Store → R D} (h : ∀ ρ S, m ρ S = .bad) : PW X x (tT Y Bs W (truM m)) :=
  ⟨fun wh pins s σ H Q I ⟨μ, ρ, S, w, en, k⟩ => by unfold truM at k; rw [h] at k; exact k.elim⟩
theorem pt_no {Y : Sx} {Bs : List Nat} {W : WX} {X : Cx} {x : Expr} {m : Env → Store → R D} (h : ∀ ρ S, m ρ S = .bad) : PT X x (tT Y Bs W (truM m)) := (w_no h).pt
theorem es_nil {Y : Sx} {c : Ctx} {b : Nat} {Bs : List Nat} {W : WX} {X : Cx} : EsOk Y c b Bs W X .nil [] :=
  ⟨a_nil, rfl, fun _ => s_no fun _ _ => rfl, fun _ => s_no fun _ _ => rfl, fun _ => w_no fun _ _ => rfl, fun _ => w_no fun _ _ => rfl⟩
theorem es_cons {Y : Sx} {c : Ctx} {b : Nat} {Bs : List Nat} {W : WX} {X : Cx} {e : E} {es : Es} {x : Expr} {xs : List Expr} (hs : notStar x = true) (he : PE X x (tI Y Bs W fun ρ S => ev c b e ρ S)) (ht : PT X x (tT Y Bs W (truM fun ρ S => ev c b e ρ S))) (ih : EsOk Y c b Bs W X es xs) (hl : es.len = xs.length) :
    EsOk Y c b Bs W X (.cons e es) (x :: xs) := by
  refine ⟨a_cons hs he ih.args, by unfold allNS; rw [List.all_cons, hs]; exact ih.ns, ?_, ?_, ?_, ?_⟩
  all_goals
    intro p
    match es, xs, ih, hl with
    | .nil, [], ih, _ => first
      | exact pe_one he
      | exact pw_and1 ht
      | exact pw_or1 ht
    | .cons e2 es2, y :: ys, ih, _ => first
      | exact s_and he (ih.and p)
      | exact s_or he (ih.or p)
      | exact t_and ht (ih.andT p)
      | exact t_or ht (ih.orT p)
    | .nil, _ :: _, _, hl => cases hl
    | .cons _ _, [], _, hl => cases hl
theorem pl_ok {Y : Sx} {Bs : List Nat} {W : WX} {X : Cx} {x : Expr} {m : Env → Store → R D} (pe : PE X x (tI Y Bs W m)) (ht : plainT x = true) : PE X x (tI Y Bs W m) ∧ PT X x (tT Y Bs W (truM m)) := ⟨pe, t_plain ht pe⟩
mutual
theorem E.ok : ∀ (e : E) {Y : Sx} {c : Ctx} {b : Nat} {Bs : List Nat} {W : WX} {M : MC} {X : Cx} {x : Expr}, Good Y c b Bs W M X → e.mt M x = true → PE X x (tI Y Bs W fun ρ S => ev c b e ρ S) ∧ PT X x (tT Y Bs W (truM fun ρ S => ev c b e ρ S))
  | .no, Y, c, b, Bs, W, M, X, x, G, h => ⟨s_no fun _ _ => rfl, pt_no fun _ _ => rfl⟩
  | .var i, Y, c, b, Bs, W, M, X, x, G, h => by
    unfold E.mt at h
    split at h
    · simp only [Bool.and_eq_true, decide_eq_true_eq] at h
      exact pl_ok (s_var (p := _) (W := W) (Bs := Bs) G h.1 h.2.1 h.2.2) rfl
    · cases h
  | .non, Y, c, b, Bs, W, M, X, x, G, h => by
    unfold E.mt at h
    split at h
    · exact pl_ok (s_con pe_non fun _ _ => .non) rfl
    · cases h
  | .bl k, Y, c, b, Bs, W, M, X, x, G, h => by
    unfold E.mt at h
    split at h
    · rw [beq_iff_eq] at h
      subst h
      exact pl_ok (s_con pe_bl fun _ _ => .bl k) rfl
    · cases h
  | .int k, Y, c, b, Bs, W, M, X, x, G, h => by
    unfold E.mt at h
    split at h
    · rw [beq_iff_eq] at h
      subst h
      exact pl_ok (s_con pe_int fun _ _ => .int k) rfl
    · cases h
  | .str k, Y, c, b, Bs, W, M, X, x, G, h => by
    unfold E.mt at h
    split at h
    · rw [decide_eq_true_eq] at h
      subst h
      exact pl_ok (s_con pe_str fun _ _ => .str k) rfl
    · cases h
  | .gcon g, Y, c, b, Bs, W, M, X, x, G, h => by
    unfold E.mt at h
    split at h
    · simp only [Bool.and_eq_true] at h
      exact pl_ok (s_gcon (p := _) (W := W) (Bs := Bs) G h.1 h.2) rfl
    · cases h
  | .tup es, Y, c, b, Bs, W, M, X, x, G, h => by
    unfold E.mt at h
    split at h
    · simp only [Bool.and_eq_true, decide_eq_true_eq] at h
      exact pl_ok (s_tup (p := _) (n := _) (Es.ok es G h.2).args fun ρ S ds S' e => by rw [evs_len es ρ S ds S' e]; exact h.1) rfl
    · cases h
  | .lst es, Y, c, b, Bs, W, M, X, x, G, h => by
    unfold E.mt at h
    split at h
    · simp only [Bool.and_eq_true, decide_eq_true_eq] at h
      exact pl_ok (s_lst (p := _) (Es.ok es G h.2).args fun ρ S ds S' e => by rw [evs_len es ρ S ds S' e]; exact h.1) rfl
    · cases h
  | .newl es, Y, c, b, Bs, W, M, X, x, G, h => by
    unfold E.mt at h
    split at h
    · simp only [Bool.and_eq_true, decide_eq_true_eq] at h
      exact pl_ok (s_newl (p := _) (Es.ok es G h.2).args fun ρ S ds S' e => by rw [evs_len es ρ S ds S' e]; exact h.1) rfl
    · cases h
  | .newdK, Y, c, b, Bs, W, M, X, x, G, h => by
    unfold E.mt at h
    split at h
    · exact pl_ok (s_newdK) rfl
    · cases h
  | .newdT, Y, c, b, Bs, W, M, X, x, G, h => by
    unfold E.mt at h
    split at h
    · exact pl_ok (s_newdT) rfl
    · cases h
  | .bop o a d, Y, c, b, Bs, W, M, X, x, G, h => by
    unfold E.mt at h
    split at h
    · simp only [Bool.and_eq_true, decide_eq_true_eq] at h
      obtain ⟨rfl, h1, h2⟩ := h
      exact pl_ok (s_bop (p := _) o (E.ok a G h1).1 (E.ok d G h2).1) rfl
    · cases h
  | .neg a, Y, c, b, Bs, W, M, X, x, G, h => by
    unfold E.mt at h
    split at h
    · exact pl_ok (s_neg (p := _) (E.ok a G h).1) rfl
    · cases h
  | .cmp o a d, Y, c, b, Bs, W, M, X, x, G, h => by
    unfold E.mt at h
    split at h
    · simp only [Bool.and_eq_true, decide_eq_true_eq] at h
      obtain ⟨rfl, h1, h2, h3⟩ := h
      exact ⟨s_cmp (p := _) G o h1 (E.ok a G h2).1 (E.ok d G h3).1, t_cmp (p := _) G o h1 (E.ok a G h2).1 (E.ok d G h3).1⟩
    · cases h
  | .chain o o' a d f, Y, c, b, Bs, W, M, X, x, G, h => by
    unfold E.mt at h
    split at h
    · simp only [Bool.and_eq_true, decide_eq_true_eq] at h
      obtain ⟨rfl, rfl, h1, h2, h3, h4⟩ := h
      exact ⟨s_chain (p := _) G o o' h1 (E.ok a G h2).1 (E.ok d G h3).1 (E.ok f G h4).1, t_chain (p := _) G o o' h1 (E.ok a G h2).1 (E.ok d G h3).1 (E.ok f G h4).1⟩
    · cases h
  | .and es, Y, c, b, Bs, W, M, X, x, G, h => by
    unfold E.mt at h
    split at h
    · exact ⟨(Es.ok es G h).and _, ((Es.ok es G h).andT _).pt⟩
    · cases h
  | .or es, Y, c, b, Bs, W, M, X, x, G, h => by
    unfold E.mt at h
    split at h
    · exact ⟨(Es.ok es G h).or _, ((Es.ok es G h).orT _).pt⟩
    · cases h
  | .not a, Y, c, b, Bs, W, M, X, x, G, h => by
    unfold E.mt at h
    split at h
    · exact ⟨s_not (p := _) (E.ok a G h).1, t_not (p := _) (E.ok a G h).2⟩
    · cases h
  | .ife q a d, Y, c, b, Bs, W, M, X, x, G, h => by
    unfold E.mt at h
    split at h
    · simp only [Bool.and_eq_true] at h
      exact ⟨s_ife (p := _) (E.ok q G h.1).2 (E.ok a G h.2.1).1 (E.ok d G h.2.2).1, t_ife (p := _) (E.ok q G h.1).2 (E.ok a G h.2.1).2 (E.ok d G h.2.2).2⟩
    · cases h
  | .idx a d, Y, c, b, Bs, W, M, X, x, G, h => by
    unfold E.mt at h
    split at h
    · simp only [Bool.and_eq_true] at h
      exact pl_ok (s_idx (p := _) G h.1 (E.ok a G h.2.1).1 (E.ok d G h.2.2).1) rfl
    · cases h
  | .slAll a, Y, c, b, Bs, W, M, X, x, G, h => by
    unfold E.mt at h
    split at h
    · exact pl_ok (s_slAll (p := _) (p2 := _) (E.ok a G h).1) rfl
    · cases h
  | .slLo a d, Y, c, b, Bs, W, M, X, x, G, h => by
    unfold E.mt at h
    split at h
    · simp only [Bool.and_eq_true] at h
      exact pl_ok (s_slLo (p := _) (p2 := _) (E.ok a G h.1).1 (E.ok d G h.2).1) rfl
    · cases h
  | .slHi a d, Y, c, b, Bs, W, M, X, x, G, h => by
    unfold E.mt at h
    split at h
    · simp only [Bool.and_eq_true] at h
      exact pl_ok (s_slHi (p := _) (p2 := _) (E.ok a G h.1).1 (E.ok d G h.2).1) rfl
    · cases h
  | .sl a d f, Y, c, b, Bs, W, M, X, x, G, h => by
    unfold E.mt at h
    split at h
    · simp only [Bool.and_eq_true] at h
      exact pl_ok (s_sl (p := _) (p2 := _) (E.ok a G h.1).1 (E.ok d G h.2.1).1 (E.ok f G h.2.2).1) rfl
    · cases h
  | .bi f es, Y, c, b, Bs, W, M, X, x, G, h => by
    unfold E.mt at h
    split at h
    · simp only [Bool.and_eq_true] at h
      have ih := Es.ok es G h.2.2
      exact pl_ok (s_bi (p := _) (q := _) G f h.1 h.2.1 ih.ns ih.args) rfl
    · cases h
  | .bm m a es, Y, c, b, Bs, W, M, X, x, G, h => by
    unfold E.mt at h
    split at h
    · rename_i o n ap ys p
      simp only [Bool.and_eq_true, decide_eq_true_eq] at h
      obtain ⟨rfl, h1, h2, h3, h4, h5⟩ := h
      have ih := Es.ok es G h5
      have hl := mt_len es ys h5
      have ia := (E.ok a G h4).1
      cases ys with
      | nil =>
        cases es with
        | nil =>
          exact pl_ok (s_bm0 (p := _) (ap := _) (m := m) G h1 h3 ia) rfl
        | cons _ _ => cases hl
      | cons y ys =>
        exact pl_ok (s_bm (p := _) (ap := _) (m := m) G h1 h2 h3 ih.ns ia ih.args) rfl
    · cases h
  | .isi a cs tp, Y, c, b, Bs, W, M, X, x, G, h => by
    unfold E.mt at h
    split at h
    · rename_i n q y z p
      simp only [Bool.and_eq_true, decide_eq_true_eq] at h
      obtain ⟨h1, h2, h3, h4, h5⟩ := h
      have ia := (E.ok a G h4).1
      cases tp with
      | false =>
        exact pl_ok (s_isi1 (p := p) (q := q) G h1 h3 ia h5) rfl
      | true =>
        cases z with
        | Tuple zs kk p2 =>
          exact pl_ok (s_isiT (p := p) (q := q) (p2 := p2) (kk := kk) G h1 h3 h2.2 (by rintro rfl; simp at h2) ia h5) rfl
        | _ => cases h5
    · cases h
  | .call f g es, Y, c, b, Bs, W, M, X, x, G, h => by
    unfold E.mt at h
    split at h
    · rename_i n q ys p
      simp only [Bool.and_eq_true] at h
      obtain ⟨h0, h1, h2, h3⟩ := h
      have ih := Es.ok es G h3
      have hl := mt_len es ys h3
      cases ys with
      | nil =>
        cases es with
        | nil =>
          exact pl_ok (s_call0 (p := p) (q := q) (g := g) G (G.bare h0) h1 h2) rfl
        | cons _ _ => cases hl
      | cons y ys =>
        exact pl_ok (s_call (p := p) (q := q) (g := g) G (G.bare h0) h1 h2 ih.ns ih.args) rfl
    · cases h
  | .lc elt tg it, Y, c, b, Bs, W, M, X, x, G, h => by
    unfold E.mt at h
    split at h
    · simp only [Bool.and_eq_true] at h
      obtain ⟨h1, h2, h3, h4, h5⟩ := h
      exact pl_ok ((s_lcT (p := _) G h1 h2 h4 (It.ok it G h3) (me := fun ρ S => ev c b elt ρ S) fun X' Y' G' => (E.ok elt G' h5).1).imp fun σ H Q k => lc_tLc (f := lcF tg fun ρ S => ev c b elt ρ S) (G.bare (compB_calm h1)) (fun σ ρ => step_F) k) rfl
    · cases h
  | .lcIf elt tg it q, Y, c, b, Bs, W, M, X, x, G, h => by
    unfold E.mt at h
    split at h
    · simp only [Bool.and_eq_true] at h
      obtain ⟨h1, h2, h3, h4, h5, h6⟩ := h
      exact pl_ok ((s_lcTI (p := _) G h1 h2 h4 (It.ok it G h3) (me := fun ρ S => ev c b elt ρ S) (mq := fun ρ S => ev c b q ρ S) (fun X' Y' G' => (E.ok q G' h5).2) fun X' Y' G' => (E.ok elt G' h6).1).imp fun σ H Q k => lc_tLc (f := lcFI tg (fun ρ S => ev c b q ρ S) fun ρ S => ev c b elt ρ S) (G.bare (compB_calm h1)) (fun σ ρ => step_FI) k) rfl
    · cases h
  | .newlc elt tg it, Y, c, b, Bs, W, M, X, x, G, h => by
    unfold E.mt at h
    split at h
    · simp only [Bool.and_eq_true] at h
      obtain ⟨h1, h2, h3, h4, h5⟩ := h
      exact pl_ok ((s_lcT (p := _) G h1 h2 h4 (It.ok it G h3) (me := fun ρ S => ev c b elt ρ S) fun X' Y' G' => (E.ok elt G' h5).1).imp fun σ H Q k => lc_tLcN (f := lcF tg fun ρ S => ev c b elt ρ S) (G.bare (compB_calm h1)) (fun σ ρ => step_F) k) rfl
    · cases h
  | .newlcIf elt tg it q, Y, c, b, Bs, W, M, X, x, G, h => by
    unfold E.mt at h
    split at h
    · simp only [Bool.and_eq_true] at h
      obtain ⟨h1, h2, h3, h4, h5, h6⟩ := h
      exact pl_ok ((s_lcTI (p := _) G h1 h2 h4 (It.ok it G h3) (me := fun ρ S => ev c b elt ρ S) (mq := fun ρ S => ev c b q ρ S) (fun X' Y' G' => (E.ok q G' h5).2) fun X' Y' G' => (E.ok elt G' h6).1).imp fun σ H Q k => lc_tLcN (f := lcFI tg (fun ρ S => ev c b q ρ S) fun ρ S => ev c b elt ρ S) (G.bare (compB_calm h1)) (fun σ ρ => step_FI) k) rfl
    · cases h
  | .ncat a d, Y, c, b, Bs, W, M, X, x, G, h => by
    unfold E.mt at h
    split at h
    · simp only [Bool.and_eq_true] at h
      exact pl_ok (s_ncat (p := _) (E.ok a G h.1).1 (E.ok d G h.2).1) rfl
    · cases h
  | .nlist a, Y, c, b, Bs, W, M, X, x, G, h => by
    unfold E.mt at h
    split at h
    · simp only [Bool.and_eq_true] at h
      exact pl_ok (s_nlist (p := _) (q := _) G h.1 h.2.1 (E.ok a G h.2.2).1) rfl
    · cases h
  | .lset a, Y, c, b, Bs, W, M, X, x, G, h => by
    unfold E.mt at h
    split at h
    · simp only [Bool.and_eq_true] at h
      exact pl_ok (s_lset (p := _) (p1 := _) (p2 := _) (q := _) G h.1 h.2.1 h.2.2.1 h.2.2.2.1 (E.ok a G h.2.2.2.2).1) rfl
    · cases h
  | .sset a, Y, c, b, Bs, W, M, X, x, G, h => by
    unfold E.mt at h
    split at h
    · simp only [Bool.and_eq_true] at h
      exact pl_ok (s_sset (p := _) (p1 := _) (p2 := _) (q := _) G h.1 h.2.1 h.2.2.1 h.2.2.2.1 (E.ok a G h.2.2.2.2).1) rfl
    · cases h
  | .make _ _, _, _, _, _, _, _, _, _, _, h => by simp [E.mt] at h
  | .meth _ _ _ _, _, _, _, _, _, _, _, _, _, h => by simp [E.mt] at h
  | .fld _ _, _, _, _, _, _, _, _, _, _, h => by simp [E.mt] at h
  | .xis cs tp, Y, c, b, Bs, W, M, X, x, G, h => by
    unfold E.mt at h
    split at h
    · rename_i n q y z p
      simp only [Bool.and_eq_true, decide_eq_true_eq] at h
      obtain ⟨h1, h2, h3, h4⟩ := h
      cases tp with
      | false =>
        exact pl_ok (s_xis1 (p := p) (q := q) (W := W) (Bs := Bs) G h1 h3 h4) rfl
      | true =>
        cases z with
        | Tuple zs kk p2 =>
          exact pl_ok (s_xisT (p := p) (q := q) (p2 := p2) (kk := kk) (W := W) (Bs := Bs) G h1 h3 h2.2 h4) rfl
        | _ => cases h4
    · cases h
  | .xfld f, Y, c, b, Bs, W, M, X, x, G, h => by
    unfold E.mt at h
    split at h
    · rename_i y n p
      simp only [Bool.and_eq_true, decide_eq_true_eq] at h
      obtain ⟨rfl, h1⟩ := h
      exact pl_ok (s_xfld (p := p) (W := W) (Bs := Bs) G h1) rfl
    · cases h
  | .hcall f, Y, c, b, Bs, W, M, X, x, G, h => by
    unfold E.mt at h
    split at h
    · simp only [Bool.and_eq_true] at h
      exact pl_ok (s_hcall (p := _) (q := _) G h.1 h.2.1 h.2.2) rfl
    · cases h
theorem Es.ok : ∀ (es : Es) {Y : Sx} {c : Ctx} {b : Nat} {Bs : List Nat} {W : WX} {M : MC} {X : Cx} {xs : List Expr}, Good Y c b Bs W M X → es.mt M xs = true → EsOk Y c b Bs W X es xs
  | .nil, Y, c, b, Bs, W, M, X, xs, G, h => by
    unfold Es.mt at h
    rw [List.isEmpty_iff] at h
    subst h
    exact es_nil
  | .cons e es, Y, c, b, Bs, W, M, X, xs, G, h => by
    cases xs with
    | nil => simp [Es.mt] at h
    | cons x xs =>
      simp only [Es.mt, Bool.and_eq_true] at h
      exact es_cons h.1 (E.ok e G h.2.1).1 (E.ok e G h.2.1).2 (Es.ok es G h.2.2) (mt_len es xs h.2.2)
theorem It.ok : ∀ (it : It) {Y : Sx} {c : Ctx} {b : Nat} {Bs : List Nat} {W : WX} {M : MC} {X : Cx} {t x : Expr}, Good Y c b Bs W M X → it.mt M t x = true → PI X t x (tW Y Bs W fun ρ S => evIt c b it ρ S)
  | .val e, Y, c, b, Bs, W, M, X, t, x, G, h => i_val G.hK (E.ok e G h).1
  | .range es, Y, c, b, Bs, W, M, X, t, x, G, h => by
    unfold It.mt at h
    split at h
    · rename_i n q ys p
      simp only [Bool.and_eq_true, decide_eq_true_eq] at h
      obtain ⟨h1, h2, h3⟩ := h
      have ih := Es.ok es G h3
      have hl := mt_len es ys h3
      have hns := ih.ns
      match ys, h2, hl, hns, ih with
      | [x1], _, hl, hns, ih =>
        simp only [allNS, List.all_cons, List.all_nil, Bool.and_true] at hns
        exact i_range1 (q := q) (p := p) G h1 hns (fun ρ S ds S' e => (evs_len es ρ S ds S' e).trans hl) ih.args
      | [x1, x2], _, hl, hns, ih =>
        simp only [allNS, List.all_cons, List.all_nil, Bool.and_true, Bool.and_eq_true] at hns
        exact i_range2 (q := q) (p := p) G h1 hns.1 hns.2 (fun ρ S ds S' e => (evs_len es ρ S ds S' e).trans hl) ih.args
      | [x1, x2, x3], _, hl, hns, ih =>
        simp only [allNS, List.all_cons, List.all_nil, Bool.and_true, Bool.and_eq_true] at hns
        exact i_range3 (q := q) (p := p) G h1 hns.1 hns.2.1 hns.2.2 (fun ρ S ds S' e => (evs_len es ρ S ds S' e).trans hl) ih.args
      | [], h2, _, _, _ => simp at h2
      | _ :: _ :: _ :: _ :: _, h2, _, _, _ => simp at h2
    · cases h
  | .enum e, Y, c, b, Bs, W, M, X, t, x, G, h => by
    unfold It.mt at h
    rw [Bool.and_eq_true] at h
    obtain ⟨h0, h⟩ := h
    split at h
    · simp only [Bool.and_eq_true] at h
      exact i_enum G h.1 h0 h.2.1 (E.ok e G h.2.2).1
    · cases h
  | .zip e f, Y, c, b, Bs, W, M, X, t, x, G, h => by
    unfold It.mt at h
    rw [Bool.and_eq_true] at h
    obtain ⟨h0, h⟩ := h
    split at h
    · simp only [Bool.and_eq_true] at h
      exact i_zip G h.1 h0 h.2.1 h.2.2.1 (E.ok e G h.2.2.2.1).1 (E.ok f G h.2.2.2.2).1
    · cases h
end
end CL
namespace CL
open PySem PySem.Spec PyProof.Rows L2
def notComp : Expr → Bool
  | .ListComp _ _ _ _ => false
  | .SetComp _ _ _ _ => false
  | .DictComp _ _ _ _ _ => false
  | _ => true
def swC (M : MC) (scope : Scope) (y : Str) (py p : Pos) : Bool := decide (M.sc.names.lookup y = some .local) && ((py.line == p.line) && !(scope.names.any fun (n, k) => n == y && (k == .local || k == .cell)))
def E.isLc : E → Bool
  | .lc _ _ _ => true
  | .lcIf _ _ _ _ => true
  | .newlc _ _ _ => true
  | .newlcIf _ _ _ _ => true
  | _ => false
def retMt (e : Option Expr) : Bool := e.isNone
mutual
def St.mt : St → MC → Stmt → Bool
  | .no, _, _ => true
  | .set tg e, M, s => match s with
    | .Assign [t] x _ => tg.mt M t && (e.mt M x && (match tg with
      | .one _ => notComp x || e.isLc
      | .many _ => notComp x && !isTuple x))
    | _ => false
  | .par _ _ _ _, _, _ => false
  | .setIdx a i v, M, s => match s with
    | .Assign [.Subscript x z _] w _ => notSlice z && (notComp w && (a.mt M x && (i.mt M z && v.mt M w)))
    | _ => false
  | .setFld _ _ _, _, _ => false
  | .aug i e, M, s => match s with
    | .AugAssign (.Name n _) .Add x _ => decide (M.N[i]? = some n) && (decide (M.exi ≠ some i) && (locB M.sc n && e.mt M x))
    | _ => false
  | .ex e, M, s => match s with
    | .Expr x _ => notComp x && e.mt M x
    | _ => false
  | .ite q a b, M, s => match s with
    | .If t xs ys _ => q.mt M t && (a.mt M xs && b.mt M ys)
    | _ => false
  | .for_ tg it body, M, s => match s with
    | .For t i xs [] _ => M.calm && (tg.mt M t && (notSet i && (it.mt M t i && body.mt M xs)))
    | _ => false
  | .whl q body, M, s => match s with
    | .While t xs [] _ => M.calm && (q.mt M t && body.mt M xs)
    | _ => false
  | .ret e, M, s => match s with
    | .Return (some x) _ => e.mt M x
    | _ => false
  | .ret0, _, s => match s with
    | .Return none _ => true
    | _ => false
  | .brk, _, s => match s with
    | .Break _ => true
    | _ => false
  | .cont, _, s => match s with
    | .Continue _ => true
    | _ => false
  | .pass, _, s => match s with
    | .Pass _ => true
    | _ => false
  | .raise C es, M, s => match s with
    | .Raise (some (.Call (.Name n _) (y :: ys) [] _)) none _ => M.calm && (M.ex C && (gnB M.sc C n && (es.mt M (y :: ys) && (!M.exT C || (match es, y, ys with
      | .cons (.str _) .nil, .Constant (.str _) _ _, [] => true
      | _, _, _ => false)))))
    | _ => false
  | .try_ body C as h els, M, s => match s with
    | .Try xs [.ExceptHandler (some (.Name n _)) nmo (y :: ys) _] zs [] _ => M.calm && (M.ex C && (gnB M.sc C n && (body.mt M xs && (els.mt M zs && (match as, nmo with
      | none, none => h.mt (M.hot none) (y :: ys)
      | some i, some e => zs.isEmpty && (decide (M.N[i]? = some e) && (decide (M.sc.names.lookup e = some .local) && h.mt (M.hot (some i)) (y :: ys)))
      | _, _ => false)))))
    | _ => false
def Ss.mt : Ss → MC → List Stmt → Bool
  | .nil, _, ss => ss.isEmpty
  | .cons s ss, M, xs => match xs with
    | x :: xs => s.mt M x && ss.mt M xs
    | [] => false
end
def KS (Y : Sx) (Bs : List Nat) (W : WX) (μ : List Addr) (H : Hp) (D : Ends) : RS → Prop
  | .ok (.nx ρ) S => ∀ μ' H' σ', Ext μ H μ' H' → World Y Bs μ' H' S → EnvOk Y μ' H' σ' ρ → D.nx σ' H'
  | .ok (.rt d) S => ∀ μ' H' v, Ext μ H μ' H' → World Y Bs μ' H' S → Rep Y μ' H' v d → D.rt v H'
  | .ok (.bk ρ) S => ∀ μ' H' σ', Ext μ H μ' H' → World Y Bs μ' H' S → EnvOk Y μ' H' σ' ρ → D.bk σ' H'
  | .ok (.ct ρ) S => ∀ μ' H' σ', Ext μ H μ' H' → World Y Bs μ' H' S → EnvOk Y μ' H' σ' ρ → D.ct σ' H'
  | .err C ns ds ρ S => ∀ μ' H' σ' cls dd, Ext μ H μ' H' → World Y Bs μ' H' S → EnvOk Y μ' H' σ' ρ → ExcAt Y μ' H' C ns ds cls dd → W cls dd σ' H'
  | .bad => False
def tS (Y : Sx) (Bs : List Nat) (W : WX) (m : Env → Store → RS) : TS := fun D σ H => ∃ μ ρ S, World Y Bs μ H S ∧ EnvOk Y μ H σ ρ ∧ KS Y Bs W μ H D (m ρ S)
section
variable {Y : Sx} {Bs : List Nat} {W : WX} {μ μ' : List Addr} {H H' : Hp} {D : Ends} {σ : L2.St} {ρ : Env} {S : Store}
theorem KS.mono (e : Ext μ H μ' H') {r : RS} (h : KS Y Bs W μ H D r) : KS Y Bs W μ' H' D r := by
  cases r with
  | ok f S =>
    cases f with
    | nx ρ => exact fun μ2 H2 σ2 x => h μ2 H2 σ2 (e.trans x)
    | rt d => exact fun μ2 H2 v x => h μ2 H2 v (e.trans x)
    | bk ρ => exact fun μ2 H2 σ2 x => h μ2 H2 σ2 (e.trans x)
    | ct ρ => exact fun μ2 H2 σ2 x => h μ2 H2 σ2 (e.trans x)
  | err C ns ds ρ S => exact fun μ2 H2 σ2 c d x => h μ2 H2 σ2 c d (e.trans x)
  | bad => exact h
theorem tS.bind {α β : Type} {rel : List Addr → Hp → β → α → Prop} {m : Env → Store → R α} {f : α → Store → RS} {Q : β → Hp → Prop} (w : World Y Bs μ H S) (en : EnvOk Y μ H σ ρ) (h : KS Y Bs W μ H D ((m ρ S).then ρ f))
    (go : ∀ a S1 μ1 H1 b, World Y Bs μ1 H1 S1 → EnvOk Y μ1 H1 σ ρ → Ext μ H μ1 H1 → rel μ1 H1 b a → KS Y Bs W μ1 H1 D (f a S1) → Q b H1) : tX Y Bs rel W m σ H Q := by
  refine ⟨μ, ρ, S, w, en, ?_⟩
  cases e : m ρ S with
  | ok a S1 =>
    rw [e] at h
    exact fun μ1 H1 b x w1 r => go a S1 μ1 H1 b w1 (en.ext x) x r (KS.mono x h)
  | err C ns ds S1 =>
    rw [e] at h
    exact fun μ1 H1 c d x w1 ex => h μ1 H1 σ c d x w1 (en.ext x) ex
  | bad =>
    rw [e] at h
    exact h
theorem KS.nx {ρ' : Env} {σ' : L2.St} (h : KS Y Bs W μ H D (.ok (.nx ρ') S)) (w : World Y Bs μ H S) (en : EnvOk Y μ H σ' ρ') : D.nx σ' H := h μ H σ' (.refl _ _) w en
end
def spInit (C : Addr) (ns : List String) : Sp := fun vs H Q _ => ∃ (a : Addr) (ws : List V), vs = .ref a :: ws ∧ ws.length = ns.length ∧ H a = some (exo a C none) ∧
  ∀ d, H d = none → d ≠ a → Q .non (upd (upd H d (exd d ((ns.map nm).zip ws).reverse)) a (exo a C (some d)))
def RaiseOk (ca : CA) (P : Program) (w : PySem.World) (K : PySem.W.Frag) (mg : Str → Option Value) (base : Heap) (C : String) : Option (List String) → Prop
  | none => PySem.W.excIn K (ca C) [.type "ValueError", .type "Exception", .type "BaseException", .type "object"] "ValueError.__new__" = true
  | some ns => OexC K (ca C) ∧ ns ≠ [] ∧ (∀ f ∈ ns, PySem.W.findIn ca.K (.ref (ca C)) (nm f) = some none) ∧ ∃ (fI : Addr) (fd : FuncData), PySem.W.findIn K (.ref (ca C)) "__init__" = some (some (.ref fI)) ∧ PySem.W.typeIn K (.ref fI) = some (.type "function") ∧
    FnOk P w K mg base (L2.CX P w) 1 fI fd (("self" :: ns).map nm) (spInit (ca C) ns) ∧ Binds K fd (("self" :: ns).map nm) []
structure GoodS (Y : Sx) (c : Ctx) (b : Nat) (Bs : List Nat) (W : WX) (M : MC) (X : Cx) : Prop extends Good Y c b Bs W M X where
  loc : ∀ n, locB M.sc n = true → L2.Loc X.env.scope n ∧ (X.fn n = true ∨ X.env.scope.names.lookup n = some .local)
  kind : X.env.scope.kind = .function
  stk : X.stack = X.env :: X.outer
  frm : X.env.frame = some X.env.locals
  exg : ∀ C, M.ex C = true → ExF Y.ca C ∧ X.mg (nm C) = some (.ref (Y.ca C)) ∧ ∃ q, c.ex C = some q ∧ (M.exT C = true ↔ q = none) ∧ RaiseOk Y.ca X.prog X.w X.K X.mg X.base C q
  deep : c.deep = true → M.calm = true → Room 2 X.A
  exm : ∀ Z C k, c.isx Z C = some k → M.ex C = true → PySem.W.exmOne X.K (.ref (Y.ca Z)) (.ref (Y.ca C)) = some k
  pass : M.calm = true → PassesOwn (model X.prog X.w) X.A X.env X.xe
theorem GoodS.locs {Y : Sx} {c : Ctx} {b : Nat} {Bs : List Nat} {W : WX} {M : MC} {X : Cx} (G : GoodS Y c b Bs W M X) : Locs M X := ⟨G.hN, G.nd, G.calm, G.loc⟩
theorem swaps_of {x : Expr} {t : Option Expr} {l : Nat} {env : PySem.Env} (h : notComp x = true) : swapsWith x t l env = pure false := by
  cases x <;> first
    | rfl
    | cases h
theorem stores_of {t x : Expr} {env : PySem.Env} (h : isTuple x = false) : swappedStores [t] x env = pure none := by
  cases x <;> first
    | (cases t <;> rfl)
    | cases h
section
variable {X : Cx} {Y : Sx} {Bs : List Nat} {W : WX} {b : Nat} {M : MC} {c : Ctx} {x y t i z : Expr} {p : Pos} {tg : Tg} {ma mb mc : Env → Store → R D} {xs ys : List Stmt} {m1 m2 : Env → Store → RS}
theorem ss_nil : PSs X [] (tS Y Bs W fun ρ S => .ok (.nx ρ) S) := by
  refine pss_nil.imp ?_
  rintro D σ H ⟨μ, ρ, S, w, en, k⟩
  exact KS.nx k w en
theorem then_read {D : Ends} {σ : L2.St} {H : Hp} {μ : List Addr} {ρ : Env} {S : Store} (w : World Y Bs μ H S) (en : EnvOk Y μ H σ ρ) (k : KS Y Bs W μ H D ((m1 ρ S).then fun ρ1 S1 => m2 ρ1 S1)) : tS Y Bs W m1 { D with nx := tS Y Bs W m2 D } σ H := by
  refine ⟨μ, ρ, S, w, en, ?_⟩
  revert k
  cases m1 ρ S with
  | ok f S1 =>
    cases f with
    | nx ρ1 => exact fun k μ' H' σ' x w' en' => ⟨μ', ρ1, S1, w', en', KS.mono x k⟩
    | rt d => exact fun k => k
    | bk ρ1 => exact fun k => k
    | ct ρ1 => exact fun k => k
  | err C ns ds ρ1 S1 => exact fun k => k
  | bad => exact fun k => k
theorem ss_cons {st : Stmt} (h1 : PS X st (tS Y Bs W m1)) (h2 : PSs X xs (tS Y Bs W m2)) : PSs X (st :: xs) (tS Y Bs W fun ρ S => (m1 ρ S).then fun ρ1 S1 => m2 ρ1 S1) := by
  refine (pss_cons h1 h2).imp ?_
  rintro D σ H ⟨μ, ρ, S, w, en, k⟩
  exact then_read w en k
theorem st_no {s : Stmt} (h : ∀ ρ S, m1 ρ S = .bad) : PS X s (tS Y Bs W m1) := ⟨fun pins s σ H D I ⟨μ, ρ, S, w, en, k⟩ => by rw [h] at k; exact k.elim⟩
def setM (tg : Tg) (ma : Env → Store → R D) : Env → Store → RS := fun ρ S => (ma ρ S).then ρ fun d S1 => match asg tg d ρ with
    | some ρ' => .ok (.nx ρ') S1
    | none => .bad
theorem set_read (fr : ∀ i ∈ tg.slots, Y.free i) {D : Ends} {σ : L2.St} {H : Hp} (h : tS Y Bs W (setM tg ma) D σ H) : tI Y Bs W ma σ H fun v H1 => gA tg v σ H1 D.nx := by
  obtain ⟨μ, ρ, S, w, en, k⟩ := h
  refine tS.bind w en k fun d S1 μ1 H1 v w1 en1 x1 r1 k1 => ?_
  cases ha : asg tg d ρ with
  | none => rw [ha] at k1; exact k1.elim
  | some ρ' =>
    rw [ha] at k1
    exact ⟨Y, μ1, Bs, S1, ρ, d, ρ', fr, w1, en1, r1, ha, fun σ' en' _ => KS.nx k1 w1 en'⟩
theorem tg_one {t : Expr} (h : tg.mt M t = true) (env : PySem.Env) : (assignEach [t] env).map (·.2) = [assign t env] := by
  cases tg <;> unfold Tg.mt at h <;> cases t <;> first
    | rfl
    | cases h
theorem st_set (G : GoodS Y c b Bs W M X) (ht : tg.mt M t = true) (hs : swapsWith x (some t) p.line X.env = pure false) (hw : swappedStores [t] x X.env = pure none) (ha : PE X x (tI Y Bs W ma)) : PS X (.Assign [t] x p) (tS Y Bs W (setM tg ma)) := by
  refine (ps_asg ha (g_tg G.locs ht) hs hw (tg_one ht X.env)).imp ?_
  intro D σ H h
  exact set_read (tg_free G.toGood ht) h
theorem st_lc (G : GoodS Y c b Bs W M X) {i0 : Nat} {n : Str} {py : Pos} {elt : Expr} {it : Expr} {ifs : List Expr} {scope : Scope} {tg2 : Tg} {t2 : Expr} {mi : Env → Store → R Walk} {tt : TT} {te : TE}
    (hi : M.N[i0]? = some n) (hfr : M.exi ≠ some i0) (hl : locB M.sc n = true) (hc : compB M tg2 scope = true) (ht : tg2.mt (M.at scope) t2 = true) (hs : notSet it = true) (hit : PI X t2 it (tW Y Bs W mi))
    (hts : ∀ (s : Shared) (H : Hp) (C : Addr) (cl : List (Str × Addr)) (fp : List Addr), PTs (X.blk s H scope (compEnvC scope cl C X.env) fp) ifs tt) (he : ∀ (s : Shared) (H : Hp) (C : Addr) (cl : List (Str × Addr)) (fp : List Addr), PE (X.blk s H scope (compEnvC scope cl C X.env) fp) elt te)
    (rd : ∀ σ H Q, tI Y Bs W ma σ H Q → tLc (tW Y Bs W mi) (gA tg2) tt te tg2.slots σ H Q) {p2 : Pos} : PS X (.Assign [.Name n py] (.ListComp elt [⟨t2, it, ifs, 0⟩] scope p2) p) (tS Y Bs W (setM (.one i0) ma)) := by
  have ok := blk_ok G.toGood hc
  have hg := fun (s : Shared) (H : Hp) (C : Addr) (cl : List (Str × Addr)) (fp : List Addr) => g_tg (locs_blk G.toGood (scope := scope) s H C cl fp) ht
  have own : (ownOf M tg2).map (·.2) = tg2.slots := ownOf_snd M tg2
  have hb : X.env.blockKind = .function := by unfold Env.blockKind; rw [G.kind]; rfl
  obtain ⟨l1, l2⟩ := G.loc n hl
  by_cases q : swC M scope n py p2 = true
  · unfold swC at q
    simp only [Bool.and_eq_true, decide_eq_true_eq, Bool.not_eq_true'] at q
    have hyl : X.env.scope.names.lookup n = some .local := by rw [G.hsc]; exact q.1
    have base := ps_setLc (pos := p2) (spos := p) (py := py) (G.calm (compB_calm hc)) G.nd (by rw [G.hN]; exact hi) hyl (sw_true G.kind hyl q.2.1 q.2.2) hit ok hg hts he (folded_of hs)
    rw [own] at base
    refine base.imp ?_
    rintro D σ H ⟨μ, ρ, S, w, en, k⟩
    refine rd σ H _ (tS.bind w en k fun d S1 μ1 H1 v w1 en1 x1 r1 k1 => ?_)
    exact KS.nx k1 w1 (en1.set r1 i0 (G.toGood.free hfr))
  · have hsw : swapsWith (.ListComp elt [⟨t2, it, ifs, 0⟩] scope p2) (some (.Name n py)) p.line X.env = pure false := by
      unfold swapsWith
      simp only [hb, Expr.pos]
      have : (X.env.kindOf n == some .local && py.line == p2.line && !(scope.names.any fun (m, k) => m == n && (k == .local || k == .cell))) = false := by
        unfold swC at q
        rw [Bool.not_eq_true] at q
        rw [← q]
        unfold Env.kindOf
        rw [G.hsc]
        rw [Bool.and_assoc]
        congr 1
        cases M.sc.names.lookup n with
        | none => rfl
        | some k => cases k <;> rfl
      show (pure (_ && _ && _ && _) : Sem Bool) = _
      rw [Bool.and_assoc, Bool.and_assoc]
      rw [Bool.and_assoc] at this
      rw [this]
      simp
    have pe := pe_lc (pos := p2) (G.calm (compB_calm hc)) G.nd hit ok hg hts he (folded_of hs)
    rw [own] at pe
    refine (ps_set (i := i0) (pos' := py) (pos := p) G.nd (by rw [G.hN]; exact hi) l1 pe hsw l2).imp ?_
    rintro D σ H ⟨μ, ρ, S, w, en, k⟩
    refine rd σ H _ (tS.bind w en k fun d S1 μ1 H1 v w1 en1 x1 r1 k1 => ?_)
    exact KS.nx k1 w1 (en1.set r1 i0 (G.toGood.free hfr))
end
end CL
namespace CL
open PySem PySem.Spec PyProof.Rows L2
theorem putK_keys {κ : Type} [DecidableEq κ] (g : κ → D) (hg : ∀ a b, D.eqv (g a) (g b) = decide (a = b)) (k : κ) {Y : Sx} {μ : List Addr} {H : Hp} {v : V} {d : D} (rv : Rep Y μ H v d) : ∀ {kvs : List (κ × V)} {ds : List D}, RepL Y μ H (kvs.map (·.2)) ds →
    (putK (g k) d (kvs.map fun p => g p.1) ds).1 = (L2.putK kvs k v).map (fun p => g p.1) ∧ RepL Y μ H ((L2.putK kvs k v).map (·.2)) (putK (g k) d (kvs.map fun p => g p.1) ds).2 := by
  intro kvs ds r
  have ha : ((kvs.map fun p => g p.1).any fun x => D.eqv x (g k)) = kvs.any fun kv => decide (kv.1 = k) := by
    rw [List.any_map]
    congr 1
    funext p
    exact hg p.1 k
  unfold putK L2.putK
  rw [ha]
  by_cases q : (kvs.any fun kv => decide (kv.1 = k)) = true
  · rw [if_pos q, if_pos q]
    refine ⟨?_, ?_⟩
    · rw [List.map_map]
      refine List.map_congr_left fun p _ => ?_
      simp only [Function.comp]
      split <;> rfl
    · clear q ha
      induction kvs generalizing ds with
      | nil => cases r; exact .nil
      | cons p kvs ih =>
        cases r with
        | cons h t =>
          simp only [List.map_cons, List.zipWith_cons_cons]
          refine .cons ?_ (ih t)
          rw [hg]
          by_cases e : p.1 = k
          · rw [if_pos e]; simp only [e, decide_true, if_true]; exact rv
          · rw [if_neg e]; simp only [e, decide_false, Bool.false_eq_true, if_false]; exact h
  · rw [if_neg q, if_neg q]
    refine ⟨by simp, ?_⟩
    rw [List.map_append]
    exact r.append (.cons rv .nil)
def rSetD (Bs : List Nat) (b : Nat) : TSet := fun o i v H Q => ∃ (Y : Sx) (μ : List Addr) (S S4 : Store) (n : Nat) (k d : D), (∀ q ∈ Bs, q ≤ b) ∧ World Y Bs μ H S ∧ Rep Y μ H o (.ref n) ∧ Rep Y μ H i k ∧ Rep Y μ H v d ∧ storeK b n k d S = some S4 ∧
  ∀ μ' H', Ext μ H μ' H' → World Y Bs μ' H' S4 → Q H'
theorem vw_key {S : Store} {t : Bool} {k : D} (h : keyOf t k = true) : vw S k = k := by
  cases k <;> first
    | rfl
    | simp [keyOf] at h
theorem keyOf_lim {t : Bool} {k : D} (n : Nat) (h : keyOf t k = true) : k.lim n = true := by
  cases k with
  | int i => rfl
  | str l => rfl
  | tup ds =>
    simp only [keyOf, Bool.and_eq_true] at h
    rw [D.lim, D.limL_all, List.all_eq_true]
    intro d hd
    have := List.all_eq_true.mp h.2 d hd
    cases d <;> first
      | rfl
      | simp [flatD] at this
  | _ => simp [keyOf] at h
theorem putK_lim {n : Nat} {k v : D} {ks vs : List D} (h1 : D.limL n ks = true) (h2 : D.limL n vs = true) (h3 : k.lim n = true) (h4 : v.lim n = true) : D.limL n (putK k v ks vs).1 = true ∧ D.limL n (putK k v ks vs).2 = true := by
  unfold putK
  split
  · refine ⟨h1, ?_⟩
    rw [D.limL_all, List.all_eq_true] at *
    intro d hd
    obtain ⟨i, hi⟩ := List.getElem?_of_mem hd
    rw [List.getElem?_zipWith] at hi
    split at hi
    · rename_i a b ha hb
      simp only [Option.some.injEq] at hi
      subst hi
      split
      · exact h4
      · exact h2 _ (List.mem_of_getElem? hb)
    · cases hi
  · simp only [D.limL_all, List.all_append, List.all_cons, List.all_nil, Bool.and_true, Bool.and_eq_true] at *
    exact ⟨⟨h1, h3⟩, ⟨h2, h4⟩⟩
theorem set_D {X : Cx} (hu : X.A.units + 64 < cLine) (Bs : List Nat) (b : Nat) : PSet X (rSetD Bs b) := by
  intro pins s σ H o i v ov iv u Q I ro ri rv h
  obtain ⟨Y, μ, S, S4, n, k, d, hb, w, rn, rk, rd, hs, fin⟩ := h
  obtain ⟨p, rfl, hx⟩ : ∃ p, o = .ref p ∧ μ[n]? = some p := by
    cases rn with
    | ref h => exact ⟨_, rfl, h⟩
  have e : ∀ o, Ext μ H μ (upd H p o) := fun o => .wrote (List.mem_of_getElem? hx)
  have vk := view_of w rk
  unfold storeK at hs
  cases hc : S[n]? with
  | none => rw [hc] at hs; cases hs
  | some ce =>
    rw [hc] at hs
    have co := w.cells n p ce hx hc
    cases ce with
    | dic t ks vs =>
      simp only at hs
      split at hs
      · rename_i q
        simp only [Bool.and_eq_true, decide_eq_true_eq] at q
        obtain ⟨q1, q2, q3⟩ := q
        simp only [Option.some.injEq] at hs
        subst hs
        rw [vw_key q1] at vk
        obtain rfl : ov = Value.ref p := ro
        have lims : ∀ c ∈ Bs, n < c → (Cell.dic t (putK k d ks vs).1 (putK k d ks vs).2).lim c = true := by
          intro c hc' hlt
          have hl := w.lims n _ hc c hc' hlt
          rw [Cell.lim, Bool.and_eq_true] at hl ⊢
          refine putK_lim hl.1 hl.2 (keyOf_lim c q1) ?_
          unfold putOk at q2
          rw [Bool.or_eq_true, decide_eq_true_eq] at q2
          rcases q2 with z | z
          · exact D.lim_mono (Nat.zero_le _) _ z
          · have := hb c hc'; omega
        cases co with
        | @dicK kvs vs2 h r =>
          obtain ⟨kk, rfl, rfl⟩ := keyK vk q1
          obtain ⟨k1, k2⟩ := putK_keys kD eqv_kD kk rd r
          have hz : kvs.length < sizeLine := by
            rw [List.length_map] at q3
            rw [sizeLine_eq]; unfold LIM at q3; exact Nat.lt_trans q3 (by decide)
          refine d_setItem (A := X.A) (by omega) I (DPut.k h hz) ri rv (fun s' I' => (⟨_, I', fin μ _ (e _) ?_⟩ : ∃ H', Inv X pins σ H' s' ∧ Q H'))
          refine w.wrote hx ?_ lims
          rw [k1]
          exact .dicK upd_same (k2.ext (e _))
        | @dicT kvs vs2 h r =>
          obtain ⟨bb, kk, rfl, hbb, rfl⟩ := keyT vk q1
          obtain ⟨k1, k2⟩ := putK_keys kDT (fun a b => by show D.eqv (.tup _) (.tup _) = _; rw [D.eqv]; exact eqvL_kD a b) kk rd r
          have hz : kvs.length < sizeLine := by
            rw [List.length_map] at q3
            rw [sizeLine_eq]; unfold LIM at q3; exact Nat.lt_trans q3 (by decide)
          refine d_setItem (A := X.A) (by omega) I (DPut.t h hbb hz) ri rv (fun s' I' => (⟨_, I', fin μ _ (e _) ?_⟩ : ∃ H', Inv X pins σ H' s' ∧ Q H'))
          refine w.wrote hx ?_ lims
          rw [k1]
          exact .dicT upd_same (k2.ext (e _))
      · cases hs
    | lst ds =>
      simp only at hs
      cases k with
      | int j =>
        simp only at hs
        split at hs
        · rename_i q
          split at hs
          · rename_i z hz
            simp only [Option.some.injEq] at hs
            subst hs
            cases rk
            cases co with
            | lst h r =>
              obtain ⟨a1, a2, a3, a4⟩ := atD_place hz
              have hl := r.length
              have hlt := (List.getElem?_eq_some_iff.mp a2).1
              refine set_list pins s σ H _ _ v ov iv u Q I ro ri rv ⟨p, _, j, _, rfl, rfl, h, (?_ : ixN _ j = some (if 0 ≤ j then j.toNat else (j + ds.length).toNat)), fin μ _ (e _) ?_⟩
              · unfold ixN
                rw [hl]
                by_cases h0 : 0 ≤ j
                · rw [if_pos h0, if_pos h0, if_pos (by omega)]
                · rw [if_neg h0, if_neg h0, if_pos (by omega)]
              · refine w.wrote hx (.lst upd_same ((r.set _ rd).ext (e _))) fun c hc' hlt' => ?_
                have hl2 := w.lims n _ hc c hc' hlt'
                unfold Cell.lim at hl2 ⊢
                refine limL_of (xs := [d]) (fun x hx' => ?_) hl2 ?_
                · rcases List.mem_or_eq_of_mem_set hx' with z | z
                  · exact .inl z
                  · exact .inr (by rw [z]; simp)
                · rw [D.limL, D.limL, Bool.and_true]
                  unfold putOk at q
                  rw [Bool.or_eq_true, decide_eq_true_eq] at q
                  rcases q with z | z
                  · exact D.lim_mono (Nat.zero_le _) _ z
                  · have := hb c hc'; omega
          · cases hs
        · cases hs
      | _ => cases hs
    | ins _ _ _ => cases hs
section
variable {X : Cx} {Y : Sx} {Bs : List Nat} {W : WX} {b : Nat} {M : MC} {c : Ctx} {x y t i z : Expr} {p : Pos} {tg : Tg} {ma mb mc : Env → Store → R D} {xs ys : List Stmt} {m1 m2 : Env → Store → RS}
theorem st_setIdx (G : GoodS Y c b Bs W M X) {p2 : Pos} (h1 : notSlice y = true) (h2 : notComp z = true) (hx : PE X x (tI Y Bs W ma)) (hy : PE X y (tI Y Bs W mb)) (hz : PE X z (tI Y Bs W mc)) :
    PS X (.Assign [.Subscript x y p2] z p) (tS Y Bs W fun ρ S => (mc ρ S).then ρ fun w S1 => (ma ρ S1).then ρ fun d S2 => (mb ρ S2).then ρ fun k S3 => match d with
    | .ref n => match storeK b n k w S3 with
      | some S4 => .ok (.nx ρ) S4
      | none => .bad
    | _ => .bad) := by
  refine (ps_asg (g := gSub (tI Y Bs W ma) (tI Y Bs W mb) (rSetD Bs b)) hz (pg_sub hx hy (set_D G.hu Bs b) (fun v => by cases y <;> first | rfl | cases h1)) (show swapsWith z (some (.Subscript x y p2)) p.line X.env = pure false from swaps_of h2) (by cases z <;> rfl) rfl).imp ?_
  rintro D σ H ⟨μ, ρ, S, w, en, k⟩
  refine tS.bind w en k fun v S1 μ1 H1 vv w1 en1 x1 r1 k1 => tS.bind w1 en1 k1 fun d S2 μ2 H2 dv w2 en2 x2 r2 k2 => tS.bind w2 en2 k2 fun kk S3 μ3 H3 kv w3 en3 x3 r3 k3 => ?_
  cases d with
  | ref n =>
    simp only at k3
    cases hs : storeK b n kk v S3 with
    | none => rw [hs] at k3; exact k3.elim
    | some S4 =>
      rw [hs] at k3
      exact ⟨Y, μ3, S3, S4, n, kk, v, G.hb, w3, r2.ext x3, r3, (r1.ext x2).ext x3, hs, fun μ' H' e w' => k3 μ' H' σ e w' (en3.ext e)⟩
  | _ => exact k3.elim
theorem st_aug (G : GoodS Y c b Bs W M X) {j : Nat} {n : Str} {p2 : Pos} (h1 : M.N[j]? = some n) (hfr : M.exi ≠ some j) (h2 : locB M.sc n = true) (hx : PE X x (tI Y Bs W ma)) :
    PS X (.AugAssign (.Name n p2) .Add x p) (tS Y Bs W fun ρ S => match ρ[j]? with
    | some (some x) => (ma ρ S).then ρ fun d S1 => match x, d with
      | .int p, .int q => .ok (.nx (ρ.set j (some (.int (p + q))))) S1
      | _, _ => .bad
    | _ => .bad) := by
  obtain ⟨l1, l2⟩ := G.loc n h2
  refine (ps_aug (pos := p) (pos' := p2) G.nd (by rw [G.hN]; exact h1) l1 hx ip_add l2).imp ?_
  rintro D σ H ⟨μ, ρ, S, w, en, k⟩
  dsimp only at k
  match e : ρ[j]?, k with
  | some (some d0), k =>
    obtain ⟨v, e2, r⟩ := en.at_ j d0 e
    refine ⟨v, e2, tS.bind w en k fun d S1 μ1 H1 u w1 en1 x1 r1 k1 => ?_⟩
    cases r with
    | int a =>
      cases r1 with
      | int q => exact ⟨a, q, rfl, rfl, KS.nx k1 w1 (en1.set (.int _) j (G.toGood.free hfr))⟩
      | _ => exact k1.elim
    | _ => exact k1.elim
  | some none, k => exact k.elim
  | none, k => exact k.elim
theorem st_ex (h : notComp x = true) (hx : PE X x (tI Y Bs W ma)) : PS X (.Expr x p) (tS Y Bs W fun ρ S => (ma ρ S).then ρ fun _ S1 => .ok (.nx ρ) S1) := by
  refine (ps_expr hx (swaps_of h)).imp ?_
  rintro D σ H ⟨μ, ρ, S, w, en, k⟩
  exact tS.bind w en k fun d S1 μ1 H1 u w1 en1 x1 r1 k1 => KS.nx k1 w1 en1
theorem st_ret (hx : PE X x (tI Y Bs W ma)) : PS X (.Return (some x) p) (tS Y Bs W fun ρ S => (ma ρ S).then ρ fun d S1 => .ok (.rt d) S1) := by
  refine (ps_ret hx).imp ?_
  rintro D σ H ⟨μ, ρ, S, w, en, k⟩
  exact tS.bind w en k fun d S1 μ1 H1 u w1 en1 x1 r1 k1 => k1 μ1 H1 u (.refl _ _) w1 r1
theorem st_ret0 : PS X (.Return none p) (tS Y Bs W fun ρ S => .ok (.rt .non) S) := by
  refine ps_retN.imp ?_
  rintro D σ H ⟨μ, ρ, S, w, en, k⟩
  exact k μ H _ (.refl _ _) w .non
theorem st_pass : PS X (.Pass p) (tS Y Bs W fun ρ S => .ok (.nx ρ) S) := by
  refine ps_pass.imp ?_
  rintro D σ H ⟨μ, ρ, S, w, en, k⟩
  exact KS.nx k w en
theorem st_brk : PS X (.Break p) (tS Y Bs W fun ρ S => .ok (.bk ρ) S) := by
  refine ps_break.imp ?_
  rintro D σ H ⟨μ, ρ, S, w, en, k⟩
  exact k μ H σ (.refl _ _) w en
theorem st_cont : PS X (.Continue p) (tS Y Bs W fun ρ S => .ok (.ct ρ) S) := by
  refine ps_continue.imp ?_
  rintro D σ H ⟨μ, ρ, S, w, en, k⟩
  exact k μ H σ (.refl _ _) w en
theorem tst_read {D : Ends} {σ : L2.St} {H : Hp} {μ : List Addr} {ρ : Env} {S : Store} {t u : TS} (w : World Y Bs μ H S) (en : EnvOk Y μ H σ ρ) (k : KS Y Bs W μ H D ((ma ρ S).then ρ fun d S1 => match truD (vw S1 d) with
    | some true => m1 ρ S1
    | some false => m2 ρ S1
    | none => .bad)) (h1 : ∀ μ' H' S', World Y Bs μ' H' S' → EnvOk Y μ' H' σ ρ → Ext μ H μ' H' → KS Y Bs W μ' H' D (m1 ρ S') → t D σ H') (h2 : ∀ μ' H' S', World Y Bs μ' H' S' → EnvOk Y μ' H' σ ρ → Ext μ H μ' H' → KS Y Bs W μ' H' D (m2 ρ S') → u D σ H') :
    tT Y Bs W (truM ma) σ H fun b H1 => if b = true then t D σ H1 else u D σ H1 := by
  refine ⟨μ, ρ, S, w, en, ?_⟩
  revert k
  unfold truM
  cases ma ρ S with
  | ok d S1 =>
    intro k
    simp only [R.then, R.bind] at k ⊢
    cases ht : truD (vw S1 d) with
    | none => rw [ht] at k; exact k.elim
    | some q =>
      rw [ht] at k
      intro μ' H' q' x w' e
      subst e
      cases q' with
      | true => exact h1 μ' H' S1 w' (en.ext x) x (KS.mono x k)
      | false => exact h2 μ' H' S1 w' (en.ext x) x (KS.mono x k)
  | err C ns ds S1 => exact fun k μ1 H1 cc dd x w1 ex => k μ1 H1 σ cc dd x w1 (en.ext x) ex
  | bad => exact fun k => k
theorem st_ite (ht : PT X x (tT Y Bs W (truM ma))) (h1 : PSs X xs (tS Y Bs W m1)) (h2 : PSs X ys (tS Y Bs W m2)) : PS X (.If x xs ys p) (tS Y Bs W fun ρ S => (ma ρ S).then ρ fun d S1 => match truD (vw S1 d) with
    | some true => m1 ρ S1
    | some false => m2 ρ S1
    | none => .bad) := by
  refine (ps_if ht h1 h2).imp ?_
  rintro D σ H ⟨μ, ρ, S, w, en, k⟩
  exact tst_read w en k (fun μ' H' S' w' en' _ k' => ⟨μ', ρ, S', w', en', k'⟩) fun μ' H' S' w' en' _ k' => ⟨μ', ρ, S', w', en', k'⟩
theorem st_for (G : GoodS Y c b Bs W M X) (hcm : M.calm = true) {mi : Env → Store → R Walk} (ht : tg.mt M t = true) (hs : notSet i = true) (hi : PI X t i (tW Y Bs W mi)) (hb : PSs X xs (tS Y Bs W m1)) :
    PS X (.For t i xs [] p) (tS Y Bs W fun ρ S => (mi ρ S).then ρ fun w S1 => forL m1 tg w w.items ρ S1) := by
  refine (ps_for (G.pass hcm) (G.calm hcm) hi (g_tg G.locs ht) hb (folded_of hs)).imp ?_
  rintro D σ H ⟨μ, ρ, S, w, en, k⟩
  refine tS.bind w en k fun wk S1 μ1 H1 J w1 en1 x1 hJ k1 => ?_
  refine ⟨fun i m σ H => ∃ (μ : List Addr) (ρ : Env) (S : Store), m = wk.items.length - i ∧ i ≤ wk.items.length ∧ World Y Bs μ H S ∧ EnvOk Y μ H σ ρ ∧ Ext μ1 H1 μ H ∧ KS Y Bs W μ H D (forL m1 tg wk (wk.items.drop i) ρ S), ?_, ?_⟩
  · exact ⟨_, μ1, ρ, S1, rfl, Nat.zero_le _, w1, en1, .refl _ _, by rw [List.drop_zero]; exact k1⟩
  · rintro i m σ2 H2 ⟨μ2, ρ2, S2, rfl, hi2, w2, en2, x2, k2⟩
    cases hd : wk.items.drop i with
    | nil =>
      rw [hd] at k2
      simp only [forL] at k2
      split at k2
      · rename_i hst
        have hii : i = wk.items.length := by
          have := List.drop_eq_nil_iff.mp hd
          omega
        refine .inl ⟨?_, KS.nx k2 w2 en2⟩
        rw [hii]
        exact (hJ Y μ2 H2 (.refl _ _) x2 Bs S2 w2 hst).2
      · exact k2.elim
    | cons d l =>
      rw [hd] at k2
      simp only [forL] at k2
      split at k2
      · rename_i hst
        have hlt : i < wk.items.length := by
          have : (wk.items.drop i).length = l.length + 1 := by rw [hd]; rfl
          rw [List.length_drop] at this
          omega
        have hget : wk.items[i]? = some d := by
          have : (wk.items.drop i)[0]? = some d := by rw [hd]; rfl
          rw [List.getElem?_drop] at this
          simpa using this
        have hdrop : wk.items.drop (i + 1) = l := by
          have : (wk.items.drop i).drop 1 = l := by rw [hd]; rfl
          rw [List.drop_drop] at this
          exact this
        obtain ⟨hgo, hy⟩ := (hJ Y μ2 H2 (.refl _ _) x2 Bs S2 w2 hst).1 i d hget
        refine .inr ⟨hgo, fun σ' H' => ∃ (μ : List Addr) (ρ : Env) (S : Store), World Y Bs μ H' S ∧ EnvOk Y μ H' σ' ρ ∧ Ext μ1 H1 μ H' ∧ KS Y Bs W μ H' D (forL m1 tg wk l ρ S), ?_, ?_⟩
        · rintro σ' H' ⟨μ, ρ, S, a1, a2, a3, a4⟩
          exact ⟨_, by omega, μ, ρ, S, rfl, hlt, a1, a2, a3, by rw [hdrop]; exact a4⟩
        · intro y H3 yl
          obtain ⟨μ3, x3, w3, ry⟩ := hy y H3 yl
          cases ha : asg tg d ρ2 with
          | none => rw [ha] at k2; exact k2.elim
          | some ρ3 =>
            rw [ha] at k2
            refine ⟨Y, μ3, Bs, S2, ρ2, d, ρ3, tg_free G.toGood ht, w3, en2.ext x3, ry, ha, fun σ' en' _ => ⟨μ3, ρ3, S2, w3, en', ?_⟩⟩
            have k3 := KS.mono x3 k2
            have xx := x2.trans x3
            revert k3
            dsimp only
            cases m1 ρ3 S2 with
            | ok f S4 =>
              cases f with
              | nx ρ4 => exact fun k3 μ' H' σ' x w' en' => ⟨μ', ρ4, S4, w', en', xx.trans x, KS.mono x k3⟩
              | ct ρ4 => exact fun k3 μ' H' σ' x w' en' => ⟨μ', ρ4, S4, w', en', xx.trans x, KS.mono x k3⟩
              | bk ρ4 => exact fun k3 => k3
              | rt d => exact fun k3 => k3
            | err C ns ds ρ4 S4 => exact fun k3 => k3
            | bad => exact fun k3 => k3
      · exact k2.elim
theorem st_whl (G : GoodS Y c b Bs W M X) (hcm : M.calm = true) (n : Nat) (ht : PT X x (tT Y Bs W (truM ma))) (hb : PSs X xs (tS Y Bs W m1)) : PS X (.While x xs [] p) (tS Y Bs W fun ρ S => whlL ma m1 n ρ S) := by
  refine (ps_while (G.pass hcm) ht hb).imp ?_
  rintro D σ H ⟨μ, ρ, S, w, en, k⟩
  refine ⟨fun m σ H => ∃ (μ : List Addr) (ρ : Env) (S : Store), World Y Bs μ H S ∧ EnvOk Y μ H σ ρ ∧ KS Y Bs W μ H D (whlL ma m1 m ρ S), ⟨n, μ, ρ, S, w, en, k⟩, ?_⟩
  rintro m σ2 H2 ⟨μ2, ρ2, S2, w2, en2, k2⟩
  cases m with
  | zero => exact k2.elim
  | succ m =>
    unfold whlL at k2
    refine tst_read (m1 := fun ρ S1 => match m1 ρ S1 with
      | .ok (.nx ρ2) S2 => whlL ma m1 m ρ2 S2
      | .ok (.ct ρ2) S2 => whlL ma m1 m ρ2 S2
      | .ok (.bk ρ2) S2 => .ok (.nx ρ2) S2
      | .ok (.rt d) S2 => .ok (.rt d) S2
      | .err C ns es ρ2 S2 => .err C ns es ρ2 S2
      | .bad => .bad) (m2 := fun ρ S1 => .ok (.nx ρ) S1) (t := fun D σ H1 => ∃ N : L2.St → Hp → Prop, (∀ σ' H', N σ' H' → ∃ m', m' < m + 1 ∧ ∃ (μ : List Addr) (ρ : Env) (S : Store), World Y Bs μ H' S ∧ EnvOk Y μ H' σ' ρ ∧ KS Y Bs W μ H' D (whlL ma m1 m' ρ S)) ∧ tS Y Bs W m1 { D with nx := N, ct := N, bk := D.nx } σ H1)
      (u := fun D σ H1 => D.nx σ H1) w2 en2 k2 (fun μ' H' S' w' en' _ k' => ?_) fun μ' H' S' w' en' _ k' => KS.nx k' w' en'
    refine ⟨fun σ' H' => ∃ (μ : List Addr) (ρ : Env) (S : Store), World Y Bs μ H' S ∧ EnvOk Y μ H' σ' ρ ∧ KS Y Bs W μ H' D (whlL ma m1 m ρ S), fun σ' H' h => ⟨m, Nat.lt_succ_self m, h⟩, μ', ρ2, S', w', en', ?_⟩
    revert k'
    cases m1 ρ2 S' with
    | ok f S4 =>
      cases f with
      | nx ρ4 => exact fun k3 μ' H' σ' x w' en' => ⟨μ', ρ4, S4, w', en', KS.mono x k3⟩
      | ct ρ4 => exact fun k3 μ' H' σ' x w' en' => ⟨μ', ρ4, S4, w', en', KS.mono x k3⟩
      | bk ρ4 => exact fun k3 => k3
      | rt d => exact fun k3 => k3
    | err C ns ds ρ4 S4 => exact fun k3 => k3
    | bad => exact fun k3 => k3
end
end CL
namespace CL
open PySem PySem.Spec PyProof.Rows L2
structure LaF (K : PySem.W.Frag) (L : Addr) : Prop where
  rd : PySem.W.readsIn K L (.type "type") = true
  sg : PySem.W.specialIn K (.ref L) "__getattribute__" = some (some (.builtin "type.__getattribute__"))
  fc : PySem.W.findCls K (.ref L) (.type "type") "__init__" = some (.val (.builtin "ValueError.__init__"))
section
variable {X : Cx} {e : Expr} {es : List Expr} {ta : TA} {p1 p2 pos : Pos} {x : Str} {L : Addr}
theorem pe_lainit {pl : Sem Bool} (hg : Gl X x) (hm : X.mg x = some (.ref L)) (F : LaF X.K L) (ha : PA X (e :: es) ta) (hdb : (x == ("__debug__" : Str)) = false)
    (hc : eval (.Call (.Attribute (.Name x p1) "__init__" p2) (e :: es) [] pos) X.env = (do
      let ov ← eval (.Name x p1) X.env
      standAt p2.atName
      let (f, first) ← holding [ov] (getMethod ov "__init__" pl)
      callWith pos f first (backTo pos (starEach (e :: es) X.env)) (backToKw pos (keywordEach [] X.env))))
    (he : starEach (e :: es) X.env = (false, eval e X.env) :: starEach es X.env) (hpl : (backTo pos (starEach es X.env)).any (·.1) = false) :
    PE X (.Call (.Attribute (.Name x p1) "__init__" p2) (e :: es) [] pos) (tVeI X.K ta) := by
  refine ⟨fun pins s σ H Q I h => PySem.W.methodCall_KW (ld_glob I hg hm ?_ hdb) hc⟩
  refine PySem.W.method_cls I.kIn F.sg (PySem.W.cls_value I.kIn F.rd F.fc (by decide +kernel) ?_)
  show wpAny _ _ (callWith pos (Value.builtin "ValueError.__init__") [] (backTo pos (starEach (e :: es) X.env)) []) _ _ _
  refine PyProof.Rows.callWith_method1 (thn (ha.run pos pins _ σ H _ (I.tok _) h) fun us s1 ⟨vs, H1, I1, r1, a, C, ws, ev, hl, T, ea, q⟩ => ?_) he hpl
  subst ev
  cases r1 with
  | @cons _ u0 _ ur ra rw' =>
    obtain rfl : u0 = Value.ref a := ra
    have hlen : ur.length ≤ sizeLine := by
      have := Paired.length rw'
      rw [sizeLine_eq]
      omega
    exact oinit_ok T I1 ea hlen fun s' J => ⟨.non, H1, J, rfl, q⟩
end
theorem eval_on_line {o : Expr} {m : Str} {as : List Expr} {apos pos : Pos} {env : PySem.Env} (hb : attributeBase o m env (eval o env) = eval o env) (hf : methodCallForm (as.length + 0) (backTo pos (starEach as env)) (backToKw pos (keywordEach [] env)) = true) (hl : (apos.endLine == pos.line) = true) :
    eval (.Call (.Attribute o m apos) as [] pos) env = (do
      let ov ← eval o env
      standAt apos.atName
      let (f, first) ← holding [ov] (getMethod ov m (do return (← importBound o env).getD true))
      callWith pos f first (backTo pos (starEach as env)) (backToKw pos (keywordEach [] env))) := by
  have h1 : methodCallPos true o env apos pos = pure pos := by
    unfold methodCallPos
    exact if_pos (by rw [hl, Bool.or_true])
  show (do
    let ov ← attributeBase o m env (eval o env)
    standAt apos.atName
    methodCall o m apos pos env ov (as.length + 0) (backTo pos (starEach as env)) (backToKw pos (keywordEach [] env))) = _
  rw [hb]
  congr 1
  funext ov
  congr 1
  funext _
  unfold methodCall
  rw [hf, h1]
  first
    | rfl
    | (simp only [pure_bind]; done)
    | (simp; done)
def putsMt : List String → List Stmt → Bool
  | [], [] => true
  | f :: fs, .Assign [.Attribute (.Name s _) g _] (.Name n _) _ :: ss => decide (s = nm "self") && (decide (g = nm f) && (decide (n = nm f) && putsMt fs ss))
  | _, _ => false
def initMt (B : String) (ns : List String) (sc : Scope) : List Stmt → Bool
  | .Expr (.Call (.Attribute (.Name b _) i p) [.Name s _, .Constant (.str _) _ _] [] q) _ :: ss => (p.endLine == q.line) && (decide (b = nm B) && (decide (i = nm "__init__") && (decide (s = nm "self") && (glB sc (nm B) && (okN (nm B) && (ns.all (fun f => visB sc (nm f) && okN (nm f)) && (visB sc (nm "self") && putsMt ns ss)))))))
  | _ => false
structure InitF (K : PySem.W.Frag) (mg : Str → Option Value) (B : String) (C L : Addr) (ns : List String) (st : Stmt) (fI : Addr) (fd : FuncData) (qual : Str) : Prop where
  fn : Fun K (nm "__init__") qual st fI fd
  iC : PySem.W.findIn K (.ref C) "__init__" = some (some (.ref fI))
  tI : PySem.W.typeIn K (.ref fI) = some (.type "function")
  oe : OexC K C
  no : ∀ f ∈ ns, PySem.W.findIn K (.ref C) (nm f) = some none
  mgB : mg (nm B) = some (.ref L)
  la : LaF K L
  sc : FnScope (("self" :: ns).map nm) (("self" :: ns).map nm) (defScope st)
  bd : Binds K fd (("self" :: ns).map nm) []
  mt : initMt B ns (defScope st) (defBody st) = true
  ne : ns ≠ []
  few : ns.length < 20
theorem puts_cons {f : String} {fs : List String} {ss : List Stmt} (h : putsMt (f :: fs) ss = true) : ∃ p1 p2 p3 p4 ss', ss = .Assign [.Attribute (.Name (nm "self") p1) (nm f) p2] (.Name (nm f) p3) p4 :: ss' ∧ putsMt fs ss' = true := by
  unfold putsMt at h
  split at h
  · cases ‹f :: fs = []›
  · rename_i f' fs' s p1 g p2 n p3 p4 ss' heq
    simp only [List.cons.injEq] at heq
    obtain ⟨rfl, rfl⟩ := heq
    simp only [Bool.and_eq_true, decide_eq_true_eq] at h
    obtain ⟨rfl, rfl, rfl, hm⟩ := h
    exact ⟨p1, p2, p3, p4, ss', rfl, hm⟩
  · cases h
theorem puts_ok {X : Cx} {C : Addr} {ns0 : List String} (hN : X.N = ("self" :: ns0).map nm) (hnd : X.N.Nodup) (hno : ∀ f ∈ ns0, PySem.W.findIn X.K (.ref C) (nm f) = some none) (T : OexC X.K C) (hv : ∀ f ∈ ns0, Vis X.env.scope (nm f) ∧ okN (nm f) = true) (hs : Vis X.env.scope (nm "self")) :
    ∀ (ns done : List String) (ss : List Stmt) (wd ws : List V) (a d : Addr), ns0 = done ++ ns → done.length = wd.length → ws.length = ns.length → putsMt ns ss = true → ns0.length < 20 → done ≠ [] →
      ∀ {D : Ends} {σ : L2.St} {H : Hp}, σ = some (.ref a) :: (wd ++ ws).map some → H a = some (exo a C (some d)) → H d = some (exd d ((done.map nm).zip wd).reverse) → a ≠ d → 
      (∀ H', (∀ b, b ≠ d → H' b = H b) → H' d = some (exd d ((ns0.map nm).zip (wd ++ ws)).reverse) → D.nx σ H') → ∃ t, PSs X ss t ∧ t D σ H
  | [], done, [], wd, [], a, d, e, hl, _, _, _, _, D, σ, H, hσ, ha, hd, hne, k => by
    refine ⟨_, pss_nil, k H (fun _ _ => rfl) ?_⟩
    rw [e, List.append_nil, List.append_nil]
    exact hd
  | [], _, _ :: _, _, _, _, _, _, _, _, h, _, _, _, _, _, _, _, _, _, _ => by simp [putsMt] at h
  | [], _, [], _, _ :: _, _, _, _, _, h, _, _, _, _, _, _, _, _, _, _, _ => by simp at h
  | _ :: _, _, _, _, [], _, _, _, _, h, _, _, _, _, _, _, _, _, _, _, _ => by simp at h
  | f :: ns, done, ss, wd, w :: ws, a, d, e, hl, hw, hm, hfew, hdn, D, σ, H, hσ, ha, hd, hne, k => by
    obtain ⟨p1, p2, p3, p4, ss', rfl, hm'⟩ := puts_cons hm
    have hf : f ∈ ns0 := by rw [e]; simp
    have hNi : X.N[done.length + 1]? = some (nm f) := by rw [hN, e]; simp
    have hσi : σ[done.length + 1]? = some (some w) := by rw [hσ, hl]; simp
    obtain ⟨v1, v2⟩ := hv f hf
    have h1 : PE X (.Name (nm f) p3) (tVar (done.length + 1)) := pe_var hNi v1 (okN_db v2) (okN_cd v2)
    have h2 : PE X (.Name (nm "self") p1) (tVar 0) := pe_var (by rw [hN]; rfl) hs (by decide +kernel) (by decide +kernel)
    have hst : PS X (.Assign [.Attribute (.Name (nm "self") p1) (nm f) p2] (.Name (nm f) p3) p4) (tOst X.K (nm f) (tVar 0) (tVar (done.length + 1))) := ps_ost h2 h1 rfl
    obtain ⟨t, ht, q⟩ := puts_ok hN hnd hno T hv hs ns (done ++ [f]) ss' (wd ++ [w]) ws a d (by rw [e]; simp) (by simp [hl]) (by simpa using hw) hm' hfew (by simp) (D := D) (σ := σ)
      (H := upd H d (exd d ((nm f, w) :: ((done.map nm).zip wd).reverse))) (by rw [hσ]; simp) (by rw [upd_ne hne]; exact ha) (by
        rw [upd_same, List.map_append, List.zip_append (by simpa using hl)]
        simp) hne (fun H' h1 h2 => k H' (fun b hb => by rw [h1 b hb, upd_ne hb]) (by rw [h2]; simp))
    refine ⟨_, pss_cons hst ht, ?_⟩
    refine ⟨w, hσi, .ref a, by rw [hσ]; rfl, a, C, rfl, T, hno f hf, .inr ⟨d, _, ha, hd, ?_, q⟩⟩
    rw [List.length_reverse, List.length_zip, List.length_map]
    have : done.length ≤ ns0.length := by rw [e]; simp
    omega
theorem init_ok {P : Program} {w : PySem.World} {K : PySem.W.Frag} {mg : Str → Option Value} {base : Heap} {B : String} {C L fI : Addr} {ns : List String} {st : Stmt} {fd : FuncData} {qual : Str} (F : InitF K mg B C L ns st fI fd qual) :
    FnOk P w K mg base (L2.CX P w) 1 fI fd (("self" :: ns).map nm) (spInit C ns) := by
  cases ns with
  | nil => exact absurd rfl F.ne
  | cons f ns =>
    refine F.fn.okX F.sc (fun vs H Q E ⟨a, ws, e, h, _⟩ => by rw [e]; simp [h]) fun cdv A outer s H vs Q E hr h => ?_
    obtain ⟨a, ws, rfl, hl, ha, hq⟩ := h
    obtain ⟨w1, ws, rfl⟩ : ∃ w1 ws', ws = w1 :: ws' := by
      cases ws with
      | nil => simp at hl
      | cons w1 ws => exact ⟨w1, ws, rfl⟩
    have hm := F.mt
    revert hm
    generalize hb : defBody st = body
    intro hm
    unfold initMt at hm
    split at hm
    · rename_i b p1 i p2 s' p3 cs k p4 p5 p6 ss
      simp only [Bool.and_eq_true, decide_eq_true_eq] at hm
      obtain ⟨g0, rfl, rfl, rfl, g1, g2, hv, hvs, hp⟩ := hm
      let X := cxOf (L2.CX P w) P w K mg base (("self" :: f :: ns).map nm) qual (defScope st) fI cdv A outer s H E
      have hself : PE X (.Name (nm "self") p3) (tVar 0) := pe_var rfl (visB_ok hvs) (by decide +kernel) (by decide +kernel)
      have hcall : PE X (.Call (.Attribute (.Name (nm B) p1) (nm "__init__") p2) [.Name (nm "self") p3, .Constant (.str cs) k p4] [] p5) (tVeI K (tCons (tVar 0) (tCons (tC (.str cs)) tNil))) :=
        pe_lainit (X := X) (show Gl X (nm B) from (of_decide_eq_true g1 : (defScope st).names.lookup (nm B) = some .globalImplicit)) F.mgB F.la (pa_cons hself (pa_cons pe_str pa_nil rfl) rfl) (okN_db g2) (eval_on_line rfl rfl g0) rfl rfl
      obtain ⟨p7, p8, p9, p10, ss', rfl, hp'⟩ := puts_cons hp
      have hvis : ∀ z ∈ f :: ns, Vis X.env.scope (nm z) ∧ okN (nm z) = true := fun z hz => by
        have := List.all_eq_true.mp hv z hz
        rw [Bool.and_eq_true] at this
        exact ⟨visB_ok this.1, this.2⟩
      have h1 : PE X (.Name (nm f) p9) (tVar 1) := pe_var rfl (hvis f (by simp)).1 (okN_db (hvis f (by simp)).2) (okN_cd (hvis f (by simp)).2)
      have h2 : PE X (.Name (nm "self") p7) (tVar 0) := pe_var rfl (visB_ok hvs) (by decide +kernel) (by decide +kernel)
      have hst : PS X (.Assign [.Attribute (.Name (nm "self") p7) (nm f) p8] (.Name (nm f) p9) p10) (tOst K (nm f) (tVar 0) (tVar 1)) := ps_ost h2 h1 rfl
      have hlw : ws.length = ns.length := by simpa using hl
      have hst0 : L2.start (("self" :: f :: ns).map nm) (.ref a :: w1 :: ws) = some (.ref a) :: ([w1] ++ ws).map some := by
        unfold L2.start
        simp [hlw]
      refine ⟨tSeq (tDrop (tVeI K (tCons (tVar 0) (tCons (tC (.str cs)) tNil)))) (tSeq (tOst K (nm f) (tVar 0) (tVar 1)) fun D σ H' => ∃ t, PSs X ss' t ∧ t D σ H'), ?_, ?_⟩
      · refine pss_cons (ps_expr hcall rfl) (pss_cons hst ?_)
        exact ⟨fun pins s2 σ H D I ⟨t, ht, q⟩ => ht.run pins s2 σ H D I q⟩
      · refine ⟨.ref a, rfl, a, C, [.str cs], rfl, by simp, F.oe, ha, ?_⟩
        refine ⟨w1, rfl, .ref a, rfl, a, C, rfl, F.oe, F.no f (by simp), .inl ⟨ha, fun d hd hda => ?_⟩⟩
        refine puts_ok (X := X) (C := C) (ns0 := f :: ns) rfl F.sc.nd F.no F.oe hvis (visB_ok hvs) ns [f] ss' [w1] ws a d rfl rfl hlw hp' F.few (by simp) hst0 upd_same (by rw [upd_ne hda, upd_same]; rfl) (Ne.symm hda) fun H' k1 k2 => ?_
        have e : H' = upd (upd H d (exd d ((((f :: ns).map nm).zip ([w1] ++ ws)).reverse))) a (exo a C (some d)) := by
          funext b
          by_cases hb1 : b = a
          · subst hb1
            rw [upd_same, k1 b (Ne.symm hda), upd_same]
          · by_cases hb2 : b = d
            · subst hb2
              rw [k2, upd_ne hb1, upd_same]
            · rw [k1 b hb2, upd_ne hb1, upd_ne hb2, upd_ne hb1, upd_ne hb2]
        rw [e]
        exact hq d hd hda
    · cases hm
section
variable {X : Cx} {Y : Sx} {Bs : List Nat} {W : WX} {b : Nat} {M : MC} {c : Ctx} {mas : Env → Store → R (List D)}
theorem raise_read {C : String} {ns : List String} {E0 : Ends} {σ : L2.St} {ρ : Env} {H1 : Hp} {μ1 : List Addr} {S1 : Store} {vs : List V} {ds : List D} (cl : ExF Y.ca C) (hno : ∀ f ∈ ns, PySem.W.findIn Y.ca.K (.ref (Y.ca C)) (nm f) = some none)
    (w1 : World Y Bs μ1 H1 S1) (en1 : EnvOk Y μ1 H1 σ ρ) (r1 : RepL Y μ1 H1 vs ds) (hl : ds.length = ns.length) (k : KS Y Bs W μ1 H1 E0 (.err C ns.reverse ds.reverse ρ S1)) (a d : Addr) (ha : H1 a = none) (hd : H1 d = none) (hda : d ≠ a) (oa oa' : HO) (od : HO) :
    W (.ref (Y.ca C)) (some d) σ (upd (del (upd (upd (upd H1 a oa) d od) a oa') a) d (.xd ((ns.map nm).zip vs).reverse)) := by
  have hv := r1.length
  have hs : ∀ b o, H1 b = some o → (upd (del (upd (upd (upd H1 a oa) d od) a oa') a) d (.xd ((ns.map nm).zip vs).reverse)) b = some o := fun b o h => by
    have n1 : b ≠ d := ne_of_none h hd
    have n2 : b ≠ a := ne_of_none h ha
    rw [upd_ne n1, del_ne n2, upd_ne n2, upd_ne n1, upd_ne n2]
    exact h
  refine k μ1 _ σ _ _ (.of_same hs) (w1.same hs) (en1.ext (.of_same hs)) ⟨rfl, cl, fun f hf => hno f (List.mem_reverse.mp hf), .inr ⟨d, _, rfl, upd_same, w1.fresh hd, ?_, ?_⟩⟩
  · rw [List.map_reverse, List.map_reverse, List.map_fst_zip (by rw [List.length_map]; omega)]
  · rw [List.map_reverse, List.map_snd_zip (by rw [List.length_map]; omega)]
    exact (r1.ext (.of_same hs)).reverse
theorem st_raise (G : GoodS Y c b Bs W M X) (hcm : M.calm = true) {C : String} {n : Str} {q p p2 : Pos} {y : Expr} {ys : List Expr} (hC : M.ex C = true) (hT : M.exT C = false) (hn : gnB M.sc C n = true) (hs : allNS (y :: ys) = true) (ha : PA X (y :: ys) (tA Y Bs W mas)) :
    PS X (.Raise (some (.Call (.Name n q) (y :: ys) [] p)) none p2) (tS Y Bs W fun ρ S => if c.deep then (mas ρ S).then ρ fun ds S1 => match exFields (c.ex C) ds with
    | some (ns, fs) => .err C ns fs ρ S1
    | none => .bad
    else .bad) := by
  obtain ⟨rfl, h4, h5⟩ := gnB_of hn
  by_cases hd : c.deep = true
  · obtain ⟨cl, hm, qq, hq, ht, rz⟩ := G.exg C hC
    cases qq with
    | none => rw [ht.mpr rfl] at hT; cases hT
    | some ns =>
      obtain ⟨T, hne, hno, fI, fd, iC, tI, F1, hb⟩ := rz
      have hs' := hs
      unfold allNS at hs'
      rw [List.all_cons, Bool.and_eq_true] at hs'
      refine (ps_raise (G.calm hcm) G.tk (pmk_oex (dvs := []) (ds := []) T iC tI F1 (G.deep hd hcm) hb .nil (passes_call G.tk fun _ _ _ _ h => h.elim) (G.gl h4) hm ha (okN_db h5) (starEach_of hs'.1) (starEach_ns hs'.2).1)).imp ?_
      rintro E0 σ H ⟨μ, ρ, S, w, en, k⟩
      dsimp only at k
      rw [if_pos hd] at k
      refine tS.bind w en k fun ds S1 μ1 H1 vs w1 en1 x1 r1 k1 => ?_
      rw [hq] at k1
      simp only [exFields] at k1
      split at k1
      · rename_i ns' fs' heq
        split at heq
        · rename_i hl
          cases heq
          refine ⟨by rw [r1.length, hl.1]; omega, fun a ha => ⟨a, vs, by rw [List.append_nil], by rw [r1.length]; exact hl.1, upd_same, fun d hd' hda => ?_⟩⟩
          rw [upd_ne hda] at hd'
          refine ⟨rfl, d, _, upd_same, by rw [upd_ne hda, upd_same], hd', ?_⟩
          exact raise_read cl hno w1 en1 r1 hl.1 k1 a d ha hd' hda _ _ _
        · cases heq
      · exact k1.elim
  · exact st_no fun ρ S => if_neg hd
theorem st_raiseT (G : GoodS Y c b Bs W M X) (hcm : M.calm = true) {C : String} {n z : Str} {q p p2 p3 : Pos} {l : List Nat} {j : Nat} (hC : M.ex C = true) (hT : M.exT C = true) (hn : gnB M.sc C n = true) :
    PS X (.Raise (some (.Call (.Name n q) [.Constant (.str z) j p3] [] p)) none p2) (tS Y Bs W fun ρ S => if c.deep then (evs c b (.cons (.str l) .nil) ρ S).then ρ fun ds S1 => match exFields (c.ex C) ds with
    | some (ns, fs) => .err C ns fs ρ S1
    | none => .bad
    else .bad) := by
  obtain ⟨rfl, h4, h5⟩ := gnB_of hn
  by_cases hd : c.deep = true
  · obtain ⟨cl, hm, qq, hq, ht, rz⟩ := G.exg C hC
    cases qq with
    | some ns => exact absurd (ht.mp hT) (by simp)
    | none =>
      have f1 := cl.kC
      have f2 := cl.exC
      have f3 := cl.tyC
      rw [G.hK] at f1 f2 f3
      refine (ps_raise (G.calm hcm) G.tk (pmk_own PySem.F.excBase_ValueError rz hm f1 (raises_own f2 f3) (G.gl h4) (okN_db h5))).imp ?_
      rintro E0 σ H ⟨μ, ρ, S, w, en, k⟩
      dsimp only at k
      rw [if_pos hd] at k
      simp only [evs, ev, R.bind, R.then, hq, exFields] at k
      exact k μ H σ _ _ (.refl _ _) w en ⟨rfl, cl, by simp, .inl ⟨rfl, rfl, rfl⟩⟩
  · exact st_no fun ρ S => if_neg hd
theorem GoodS.tr (G : GoodS Y c b Bs W M X) (hcm : M.calm = true) {W' : WX} {pn : List (Addr × Obj)} {xe : Value → Shared → Prop} (tk : Takes (X.tr pn xe) W') (ps : PassesOwn (model X.prog X.w) X.A X.env xe) : GoodS Y c b Bs W' M (X.tr pn xe) where
  hN := G.hN
  hK := G.hK
  nd := G.nd
  hsc := G.hsc
  calm := G.calm
  exs := G.exs
  cx := G.cx
  exn := fun z hz => by rw [G.toGood.bare hcm] at hz; cases hz
  isxK := G.isxK
  hu := G.hu
  hb := G.hb
  tk := tk
  bi := G.bi
  con := G.con
  cls := G.cls
  bcl := G.bcl
  isaN := G.isaN
  isaI := G.isaI
  call := fun f hf => by
    obtain ⟨k, a, fd, ps, h⟩ := (G.call f hf).get
    exact ⟨k, a, fd, ps, h⟩
  hfn := fun f hf => by
    obtain ⟨k, a, fd, ps, h⟩ := (G.hfn f hf).get
    exact ⟨k, a, fd, ps, h⟩
  loc := G.loc
  kind := G.kind
  stk := G.stk
  frm := G.frm
  exg := G.exg
  deep := G.deep
  exm := G.exm
  pass := fun _ => ps
def Sx.with (Y : Sx) (e : Option ExS) : Sx := ⟨Y.ca, Y.hid, e⟩
theorem GoodS.hot (G : GoodS Y c b Bs W M X) {a : Addr} {oe : Obj} {pn : List (Addr × Obj)} {e : Option ExS} {c' : Ctx} (hc : c' = { c with exc := c'.exc }) (he : ∀ z, e = some z → c'.exc = some (z.C, z.ns, z.ds) ∧ z.at_ = a ∧ Zc z.cls z.dd oe ∧ ∃ vs, oe.data = .fields vs) :
    GoodS (Y.with e) c' b Bs noW (M.hot (e.map ExS.slot)) (X.suite a ((a, oe) :: pn)) where
  hN := G.hN
  hK := G.hK
  nd := G.nd
  hsc := G.hsc
  calm := fun h => by cases h
  exs := rfl
  cx := fun h => by cases h
  exn := fun z hz => by
    obtain ⟨h1, h2, h3, h4⟩ := he z hz
    exact ⟨h1, oe, by rw [h2]; exact List.mem_cons_self, h3, h4⟩
  isxK := by rw [hc]; exact G.isxK
  hu := G.hu
  hb := G.hb
  tk := by
    rintro u s' ⟨_, _, _, _, _, _, _, _, _, _, _, _, _, _, _, _, h⟩
    exact h
  bi := G.bi
  con := by rw [hc]; exact G.con
  cls := G.cls
  bcl := G.bcl
  isaN := G.isaN
  isaI := by rw [hc]; exact G.isaI
  call := fun f hf => by cases hf
  hfn := fun f hf => by
    rw [hc]
    obtain ⟨k, a, fd, ps, h1, h2, h3⟩ := (G.hfn f hf).get
    exact ⟨k, a, fd, ps, h1, ⟨h2.dp, h2.un⟩, h3⟩
  loc := G.loc
  kind := G.kind
  stk := G.stk
  frm := G.frm
  exg := by rw [hc]; exact G.exg
  deep := fun _ h => by cases h
  exm := by rw [hc]; exact G.exm
  pass := fun h => by cases h
theorem KS.calmed {Y' : Sx} {μ : List Addr} {H : Hp} {E0 : Ends} {r : RS} (h1 : Y'.ca = Y.ca) (h2 : Y'.hid = Y.hid) (hx : Y'.exs = Y.exs) (k : KS Y Bs W μ H E0 r.calm) : KS Y' Bs noW μ H E0 r := by
  have h3 : Y' = Y := by
    cases Y; cases Y'
    simp only at h1 h2 hx
    subst h1 h2 hx
    rfl
  subst h3
  cases r with
  | ok f S => cases f <;> exact k
  | err C ns ds ρ S => exact k.elim
  | bad => exact k.elim
section
variable {m1 m2 mels : Env → Store → RS} {xs zs ss : List Stmt} {y : Stmt} {n : Str} {p p2 p3 : Pos} {C : String}
theorem st_try (G : GoodS Y c b Bs W M X) (hcm : M.calm = true) (hC : M.ex C = true) (hn : gnB M.sc C n = true) {h : String → List String → List D → Env → Store → RS}
    (h1 : ∀ (W' : WX) (pn : List (Addr × Obj)) (xe : Value → Shared → Prop), GoodS Y c b Bs W' M (X.tr pn xe) → PSs (X.tr pn xe) xs (tS Y Bs W' m1)) (h2 : PSs X zs (tS Y Bs W mels))
    (h3 : ∀ (a : Addr) (oe : Obj) (pn : List (Addr × Obj)), GoodS Y c b Bs noW (M.hot none) (X.suite a ((a, oe) :: pn)) → PSs (X.suite a ((a, oe) :: pn)) (y :: ss) (tS Y Bs noW m2)) (hh : ∀ Z ns ds ρ S, h Z ns ds ρ S = m2 ρ S) :
    PS X (.Try xs [.ExceptHandler (some (.Name n p)) none (y :: ss) p2] zs [] p3) (tS Y Bs W fun ρ S => RS.tried (m1 ρ S) (fun Z => c.isx Z C) none h mels) := by
  obtain ⟨rfl, h4, h5⟩ := gnB_of hn
  obtain ⟨cl, hm, _⟩ := G.exg C hC
  have hx := G.toGood.bare hcm
  have base := ps_try_onlyE (X := X) (x := nm C) (c := .ref (Y.ca C)) (np := p) (pos := p3) (pos' := p2) (tb := fun W' => tS Y Bs W' m1) (ts := fun a cls d => tS Y Bs noW m2) (Wout := W) h2 G.stk G.frm ⟨G.gl h4, okN_db h5, .inl hm⟩ G.tk (fun W' pn xe tk ps => h1 W' pn xe (G.tr hcm tk ps))
    (fun a oe cls d pn hz hv => by
      have g := G.hot (a := a) (oe := oe) (pn := pn) (e := none) (c' := { c with exc := c.exc }) rfl (fun z hz => by cases hz)
      have e : Y.with none = Y := by cases Y; simp only at hx; subst hx; rfl
      rw [e] at g
      exact h3 a oe pn g)
  refine base.imp ?_
  rintro E0 σ H ⟨μ, ρ, S, w, en, k⟩
  refine ⟨μ, ρ, S, w, en, ?_⟩
  replace k : KS Y Bs W μ H E0 (RS.tried (m1 ρ S) (fun Z => c.isx Z C) none h mels) := k
  revert k
  cases m1 ρ S with
  | ok f S1 =>
    cases f with
    | nx ρ1 => exact fun k μ' H' σ' x w' en' => ⟨μ', ρ1, S1, w', en', KS.mono x k⟩
    | rt d => exact fun k => k
    | bk ρ1 => exact fun k => k
    | ct ρ1 => exact fun k => k
  | err Z ns ds ρ1 S1 =>
    intro k μ' H' σ' cls dd x w' en' ex
    have k' := KS.mono x k
    clear k
    unfold RS.tried at k'
    dsimp only at k'
    cases hi : c.isx Z C with
    | none => rw [hi] at k'; exact k'.elim
    | some t =>
      rw [hi] at k'
      refine ⟨t, by rw [ex.cls_]; exact G.exm Z C t hi hC, fun ht a na => ?_, fun ht => ?_⟩
      · subst ht
        refine ⟨μ', ρ1, S1, w', en', ?_⟩
        rw [← hh Z ns ds]
        exact KS.calmed rfl rfl rfl k'
      · subst ht
        exact k' μ' H' σ' cls dd (.refl _ _) w' en' ex
  | bad => exact fun k => k
theorem EnvOk.other {Y' : Sx} {μ : List Addr} {H : Hp} {σ : L2.St} {ρ : Env} (h1 : Y'.ca = Y.ca) (h2 : Y'.hid = Y.hid) (h3 : ∀ z, Y'.exs = some z → σ[z.slot]? = some (some (.ref z.at_)) ∧ ExcAt Y' μ H z.C z.ns z.ds z.cls z.dd) (en : EnvOk Y μ H σ ρ) : EnvOk Y' μ H σ ρ :=
  ⟨en.len, fun i d q => by
    obtain ⟨v, a, r⟩ := en.at_ i d q
    exact ⟨v, a, r.move (.refl _ _) (.other h1 h2)⟩, h3⟩
theorem st_tryAs (G : GoodS Y c b Bs W M X) (hcm : M.calm = true) (hC : M.ex C = true) (hn : gnB M.sc C n = true) {i : Nat} {en : Str} (hi : M.N[i]? = some en) (hln : M.sc.names.lookup en = some .local) {h : String → List String → List D → Env → Store → RS}
    (h1 : ∀ (W' : WX) (pn : List (Addr × Obj)) (xe : Value → Shared → Prop), GoodS Y c b Bs W' M (X.tr pn xe) → PSs (X.tr pn xe) xs (tS Y Bs W' m1))
    (h3 : ∀ (a : Addr) (oe : Obj) (pn : List (Addr × Obj)) (z : ExS), z.slot = i → GoodS (Y.with (some z)) { c with exc := some (z.C, z.ns, z.ds) } b Bs noW (M.hot (some i)) (X.suite a ((a, oe) :: pn)) → PSs (X.suite a ((a, oe) :: pn)) (y :: ss) (tS (Y.with (some z)) Bs noW (h z.C z.ns z.ds))) :
    PS X (.Try xs [.ExceptHandler (some (.Name n p)) (some en) (y :: ss) p2] [] [] p3) (tS Y Bs W fun ρ S => RS.tried (m1 ρ S) (fun Z => c.isx Z C) (some i) h fun ρ1 S1 => .ok (.nx ρ1) S1) := by
  obtain ⟨rfl, h4, h5⟩ := gnB_of hn
  obtain ⟨cl, hm, _⟩ := G.exg C hC
  have hx := G.toGood.bare hcm
  have hkind : X.env.kindOf en = some .local := by
    unfold Env.kindOf
    rw [G.hsc]
    exact hln
  have base := ps_try_as (X := X) (x := nm C) (c := .ref (Y.ca C)) (n := en) (i := i) (np := p) (pos := p3) (pos' := p2) (tb := fun W' => tS Y Bs W' m1)
    (ts := fun a cls d E0 σ H => ∃ z : ExS, z.slot = i ∧ z.at_ = a ∧ z.cls = cls ∧ z.dd = d ∧ tS (Y.with (some z)) Bs noW (h z.C z.ns z.ds) E0 σ H) (Wout := W) G.stk G.frm G.nd (by rw [G.hN]; exact hi) hkind ⟨G.gl h4, okN_db h5, .inl hm⟩ G.tk (fun W' pn xe tk ps => h1 W' pn xe (G.tr hcm tk ps))
    (fun a oe cls d pn hz hv => ⟨fun pins s σ H E0 I ⟨z, e1, e2, e3, e4, q⟩ => by
      have g := G.hot (a := a) (oe := oe) (pn := pn) (e := some z) (c' := { c with exc := some (z.C, z.ns, z.ds) }) rfl (fun z' hz' => by
        obtain rfl := Option.some.inj hz'
        exact ⟨rfl, e2, by rw [e3, e4]; exact hz, hv⟩)
      rw [Option.map_some, e1] at g
      exact (h3 a oe pn z e1 g).run pins s σ H E0 I q⟩)
  refine base.imp ?_
  rintro E0 σ H ⟨μ, ρ, S, w, en0, k⟩
  refine ⟨μ, ρ, S, w, en0, ?_⟩
  replace k : KS Y Bs W μ H E0 (RS.tried (m1 ρ S) (fun Z => c.isx Z C) (some i) h fun ρ1 S1 => .ok (.nx ρ1) S1) := k
  revert k
  cases m1 ρ S with
  | ok f S1 =>
    cases f with
    | nx ρ1 => exact fun k => k
    | rt d => exact fun k => k
    | bk ρ1 => exact fun k => k
    | ct ρ1 => exact fun k => k
  | err Z ns ds ρ1 S1 =>
    intro k μ' H' σ' cls dd x w' en' ex
    have k' := KS.mono x k
    clear k
    unfold RS.tried at k'
    dsimp only at k'
    cases hi' : c.isx Z C with
    | none => rw [hi'] at k'; exact k'.elim
    | some t =>
      rw [hi'] at k'
      refine ⟨t, by rw [ex.cls_]; exact G.exm Z C t hi' hC, fun ht a na => ?_, fun ht => ?_⟩
      · subst ht
        dsimp only at k'
        split at k'
        · rename_i hlt
          have hlt' : i < σ'.length := by rw [← en'.len]; exact hlt
          refine ⟨⟨i, a, Z, ns, ds, cls, dd⟩, rfl, rfl, rfl, rfl, μ', ρ1.set i none, S1, World.other (Y := Y) (Y' := Y.with _) rfl rfl w', ?_, ?_⟩
          · have e1 := en'.drop (x := some (.ref a)) i (Sx.free_none hx i)
            refine EnvOk.other (Y := Y) (Y' := Y.with _) rfl rfl (fun z hz => ?_) e1
            obtain rfl := Option.some.inj hz
            exact ⟨List.getElem?_set_self hlt', ex.move (.refl _ _) (Up.other (Y := Y) (Y' := Y.with _) rfl rfl)⟩
          · have back : ∀ {μ2 : List Addr} {H2 : Hp} {σ2 : L2.St} {ρ2 : Env}, EnvOk (Y.with (some ⟨i, a, Z, ns, ds, cls, dd⟩)) μ2 H2 σ2 ρ2 → EnvOk Y μ2 H2 (σ2.set i none) (ρ2.set i none) := fun e2 =>
              (EnvOk.other (Y := Y.with (some ⟨i, a, Z, ns, ds, cls, dd⟩)) (Y' := Y) rfl rfl (fun z hz => by rw [hx] at hz; cases hz) e2).drop i (Sx.free_none hx i)
            revert k'
            cases h Z ns ds (ρ1.set i none) S1 with
            | ok f S2 =>
              cases f with
              | nx ρ2 => exact fun k' μ2 H2 σ2 x2 w2 e2 => k' μ2 H2 _ x2 (World.other (Y := Y.with (some ⟨i, a, Z, ns, ds, cls, dd⟩)) (Y' := Y) rfl rfl w2) (back e2)
              | rt d => exact fun k' μ2 H2 v x2 w2 r2 => k' μ2 H2 v x2 (World.other (Y := Y.with (some ⟨i, a, Z, ns, ds, cls, dd⟩)) (Y' := Y) rfl rfl w2) (r2.move (.refl _ _) (Up.other (Y := Y.with (some ⟨i, a, Z, ns, ds, cls, dd⟩)) (Y' := Y) rfl rfl))
              | bk ρ2 => exact fun k' μ2 H2 σ2 x2 w2 e2 => k' μ2 H2 _ x2 (World.other (Y := Y.with (some ⟨i, a, Z, ns, ds, cls, dd⟩)) (Y' := Y) rfl rfl w2) (back e2)
              | ct ρ2 => exact fun k' μ2 H2 σ2 x2 w2 e2 => k' μ2 H2 _ x2 (World.other (Y := Y.with (some ⟨i, a, Z, ns, ds, cls, dd⟩)) (Y' := Y) rfl rfl w2) (back e2)
            | err _ _ _ _ _ => exact fun k' => k'.elim
            | bad => exact fun k' => k'
        · exact k'.elim
      · subst ht
        exact k' μ' H' σ' cls dd (.refl _ _) w' en' ex
  | bad => exact fun k => k
end
end
end CL
namespace CL
open PySem PySem.Spec PyProof.Rows L2
theorem name_of {M : MC} {i : Nat} {t : Expr} (h : (Tg.one i).mt M t = true) : ∃ n p, t = .Name n p ∧ M.N[i]? = some n ∧ M.exi ≠ some i ∧ locB M.sc n = true := by
  unfold Tg.mt at h
  cases t with
  | Name n p =>
    simp only [Bool.and_eq_true, decide_eq_true_eq] at h
    exact ⟨n, p, rfl, h⟩
  | _ => cases h
theorem many_of {M : MC} {is : List Nat} {t : Expr} (h : (Tg.many is).mt M t = true) : ∃ xs k p, t = .Tuple xs k p := by
  unfold Tg.mt at h
  cases t with
  | Tuple xs k p => exact ⟨xs, k, p, rfl⟩
  | _ => cases h
theorem one_lc {Y : Sx} {c : Ctx} {b : Nat} {Bs : List Nat} {W : WX} {M : MC} {X : Cx} (G : GoodS Y c b Bs W M X) {i : Nat} {e : E} {n : Str} {py p : Pos} {x : Expr} (h1 : M.N[i]? = some n) (hfr : M.exi ≠ some i) (h2 : locB M.sc n = true) (h : e.mt M x = true) (hl : e.isLc = true) :
    PS X (.Assign [.Name n py] x p) (tS Y Bs W (setM (.one i) fun ρ S => ev c b e ρ S)) := by
  cases e with
  | lc elt tg it =>
    unfold E.mt at h
    split at h
    · simp only [Bool.and_eq_true] at h
      obtain ⟨g1, g2, g3, g4, g5⟩ := h
      exact st_lc G h1 hfr h2 g1 g2 g4 (It.ok it G.toGood g3) (fun s H C cl fp => pts_nil) (fun s H C cl fp => te_ok (Y := Y) (me := fun ρ S => ev c b elt ρ S) fun Y' hca => (E.ok elt ((G.toGood.hidden hca (G.toGood.bare (compB_calm g1))).blk hca.2 s H _ C cl fp) g5).1) fun σ H Q k => lc_tLc (f := lcF tg fun ρ S => ev c b elt ρ S) (G.toGood.bare (compB_calm g1)) (fun σ ρ => step_F) k
    · cases h
  | newlc elt tg it =>
    unfold E.mt at h
    split at h
    · simp only [Bool.and_eq_true] at h
      obtain ⟨g1, g2, g3, g4, g5⟩ := h
      exact st_lc G h1 hfr h2 g1 g2 g4 (It.ok it G.toGood g3) (fun s H C cl fp => pts_nil) (fun s H C cl fp => te_ok (Y := Y) (me := fun ρ S => ev c b elt ρ S) fun Y' hca => (E.ok elt ((G.toGood.hidden hca (G.toGood.bare (compB_calm g1))).blk hca.2 s H _ C cl fp) g5).1) fun σ H Q k => lc_tLcN (f := lcF tg fun ρ S => ev c b elt ρ S) (G.toGood.bare (compB_calm g1)) (fun σ ρ => step_F) k
    · cases h
  | lcIf elt tg it q =>
    unfold E.mt at h
    split at h
    · simp only [Bool.and_eq_true] at h
      obtain ⟨g1, g2, g3, g4, g5, g6⟩ := h
      exact st_lc G h1 hfr h2 g1 g2 g4 (It.ok it G.toGood g3) (fun s H C cl fp => pts_one (tt_ok (Y := Y) (me := fun ρ S => ev c b q ρ S) fun Y' hca => (E.ok q ((G.toGood.hidden hca (G.toGood.bare (compB_calm g1))).blk hca.2 s H _ C cl fp) g5).2)) (fun s H C cl fp => te_ok (Y := Y) (me := fun ρ S => ev c b elt ρ S) fun Y' hca => (E.ok elt ((G.toGood.hidden hca (G.toGood.bare (compB_calm g1))).blk hca.2 s H _ C cl fp) g6).1)
        fun σ H Q k => lc_tLc (f := lcFI tg (fun ρ S => ev c b q ρ S) fun ρ S => ev c b elt ρ S) (G.toGood.bare (compB_calm g1)) (fun σ ρ => step_FI) k
    · cases h
  | newlcIf elt tg it q =>
    unfold E.mt at h
    split at h
    · simp only [Bool.and_eq_true] at h
      obtain ⟨g1, g2, g3, g4, g5, g6⟩ := h
      exact st_lc G h1 hfr h2 g1 g2 g4 (It.ok it G.toGood g3) (fun s H C cl fp => pts_one (tt_ok (Y := Y) (me := fun ρ S => ev c b q ρ S) fun Y' hca => (E.ok q ((G.toGood.hidden hca (G.toGood.bare (compB_calm g1))).blk hca.2 s H _ C cl fp) g5).2)) (fun s H C cl fp => te_ok (Y := Y) (me := fun ρ S => ev c b elt ρ S) fun Y' hca => (E.ok elt ((G.toGood.hidden hca (G.toGood.bare (compB_calm g1))).blk hca.2 s H _ C cl fp) g6).1)
        fun σ H Q k => lc_tLcN (f := lcFI tg (fun ρ S => ev c b q ρ S) fun ρ S => ev c b elt ρ S) (G.toGood.bare (compB_calm g1)) (fun σ ρ => step_FI) k
    · cases h
  | _ => cases hl
mutual
theorem St.ok : ∀ (s : St) {Y : Sx} {c : Ctx} {b : Nat} {Bs : List Nat} {W : WX} {M : MC} {X : Cx} {x : Stmt}, GoodS Y c b Bs W M X → s.mt M x = true → PS X x (tS Y Bs W fun ρ S => exS b s c ρ S)
  | .no, Y, c, b, Bs, W, M, X, x, G, h => st_no fun _ _ => rfl
  | .set tg e, Y, c, b, Bs, W, M, X, x, G, h => by
    unfold St.mt at h
    split at h
    · rename_i t x p
      simp only [Bool.and_eq_true] at h
      obtain ⟨h1, h2, h3⟩ := h
      cases tg with
      | many is =>
        simp only [Bool.and_eq_true, Bool.not_eq_true'] at h3
        exact st_set G h1 (swaps_of h3.1) (stores_of h3.2) (E.ok e G.toGood h2).1
      | one i =>
        simp only [Bool.or_eq_true] at h3
        obtain ⟨n, py, rfl, a1, a0, a2⟩ := name_of h1
        by_cases hn : notComp x = true
        · exact st_set G h1 (swaps_of hn) (by cases x <;> rfl) (E.ok e G.toGood h2).1
        · exact one_lc G a1 a0 a2 h2 (h3.resolve_left hn)
    · cases h
  | .par _ _ _ _, Y, c, b, Bs, W, M, X, x, G, h => by simp [St.mt] at h
  | .setIdx a i v, Y, c, b, Bs, W, M, X, x, G, h => by
    unfold St.mt at h
    split at h
    · simp only [Bool.and_eq_true] at h
      exact st_setIdx G h.1 h.2.1 (E.ok a G.toGood h.2.2.1).1 (E.ok i G.toGood h.2.2.2.1).1 (E.ok v G.toGood h.2.2.2.2).1
    · cases h
  | .setFld _ _ _, Y, c, b, Bs, W, M, X, x, G, h => by simp [St.mt] at h
  | .aug i e, Y, c, b, Bs, W, M, X, x, G, h => by
    unfold St.mt at h
    split at h
    · simp only [Bool.and_eq_true, decide_eq_true_eq] at h
      exact st_aug G h.1 h.2.1 h.2.2.1 (E.ok e G.toGood h.2.2.2).1
    · cases h
  | .ex e, Y, c, b, Bs, W, M, X, x, G, h => by
    unfold St.mt at h
    split at h
    · simp only [Bool.and_eq_true] at h
      exact st_ex h.1 (E.ok e G.toGood h.2).1
    · cases h
  | .ite q a d, Y, c, b, Bs, W, M, X, x, G, h => by
    unfold St.mt at h
    split at h
    · simp only [Bool.and_eq_true] at h
      exact st_ite (E.ok q G.toGood h.1).2 (Ss.ok a G h.2.1) (Ss.ok d G h.2.2)
    · cases h
  | .for_ tg it body, Y, c, b, Bs, W, M, X, x, G, h => by
    unfold St.mt at h
    split at h
    · simp only [Bool.and_eq_true] at h
      exact st_for G h.1 h.2.1 h.2.2.1 (It.ok it G.toGood h.2.2.2.1) (Ss.ok body G h.2.2.2.2)
    · cases h
  | .whl q body, Y, c, b, Bs, W, M, X, x, G, h => by
    unfold St.mt at h
    split at h
    · simp only [Bool.and_eq_true] at h
      exact st_whl G h.1 c.fuel (E.ok q G.toGood h.2.1).2 (Ss.ok body G h.2.2)
    · cases h
  | .ret e, Y, c, b, Bs, W, M, X, x, G, h => by
    unfold St.mt at h
    split at h
    · exact st_ret (E.ok e G.toGood h).1
    · cases h
  | .ret0, Y, c, b, Bs, W, M, X, x, G, h => by
    unfold St.mt at h
    split at h
    · exact st_ret0
    · cases h
  | .brk, Y, c, b, Bs, W, M, X, x, G, h => by
    unfold St.mt at h
    split at h
    · exact st_brk
    · cases h
  | .cont, Y, c, b, Bs, W, M, X, x, G, h => by
    unfold St.mt at h
    split at h
    · exact st_cont
    · cases h
  | .pass, Y, c, b, Bs, W, M, X, x, G, h => by
    unfold St.mt at h
    split at h
    · exact st_pass
    · cases h
  | .raise C es, Y, c, b, Bs, W, M, X, x, G, h => by
    unfold St.mt at h
    split at h
    · rename_i n q y ys p p2
      simp only [Bool.and_eq_true] at h
      obtain ⟨h1, h2, h3, h4, h5⟩ := h
      by_cases hT : M.exT C = true
      · rw [hT] at h5
        simp only [Bool.not_true, Bool.false_or] at h5
        split at h5
        · exact st_raiseT G h1 h2 hT h3
        · cases h5
      · have hT' : M.exT C = false := by simpa using hT
        have ih := Es.ok es G.toGood h4
        exact st_raise G h1 h2 hT' h3 ih.ns ih.args
    · cases h
  | .try_ body C as hd els, Y, c, b, Bs, W, M, X, x, G, h => by
    unfold St.mt at h
    split at h
    · rename_i xs n np nmo y ys p2 zs p3
      simp only [Bool.and_eq_true] at h
      obtain ⟨h1, h2, h3, h4, h5, h6⟩ := h
      split at h6
      · exact st_try (h := fun X ns ds ρ1 S1 => exs b hd c ρ1 S1) G h1 h2 h3 (fun W' pn xe G' => Ss.ok body G' h4) (Ss.ok els G h5) (fun a oe pn G' => Ss.ok hd G' h6) fun _ _ _ _ _ => rfl
      · rename_i i en
        simp only [Bool.and_eq_true, decide_eq_true_eq, List.isEmpty_iff] at h6
        obtain ⟨rfl, h7, h8, h9⟩ := h6
        have he : els = .nil := by
          cases els with
          | nil => rfl
          | cons _ _ => simp [Ss.mt] at h5
        subst he
        exact st_tryAs (h := fun X ns ds ρ1 S1 => exs b hd { c with exc := some (X, ns, ds) } ρ1 S1) G h1 h2 h3 h7 h8 (fun W' pn xe G' => Ss.ok body G' h4) (fun a oe pn z hz G' => Ss.ok hd G' h9)
      · cases h6
    · cases h
theorem Ss.ok : ∀ (ss : Ss) {Y : Sx} {c : Ctx} {b : Nat} {Bs : List Nat} {W : WX} {M : MC} {X : Cx} {xs : List Stmt}, GoodS Y c b Bs W M X → ss.mt M xs = true → PSs X xs (tS Y Bs W fun ρ S => exs b ss c ρ S)
  | .nil, Y, c, b, Bs, W, M, X, xs, G, h => by
    unfold Ss.mt at h
    rw [List.isEmpty_iff] at h
    subst h
    exact ss_nil
  | .cons s ss, Y, c, b, Bs, W, M, X, xs, G, h => by
    cases xs with
    | nil => simp [Ss.mt] at h
    | cons x xs =>
      simp only [Ss.mt, Bool.and_eq_true] at h
      exact ss_cons (St.ok s G h.1) (Ss.ok ss G h.2)
end
end CL
namespace CL
open PySem PySem.Spec PyProof.Rows L2
section
variable {Y : Sx} {μ : List Addr} {H : Hp} {Bs : List Nat} {S : Store}
theorem out_cut {n i : Nat} {a : Addr} (w : World Y Bs μ H S) (h : μ[i]? = some a) (hi : ¬ i < n) : Fr Y (μ.take n) a := by
  refine ⟨fun m => ?_, w.hidC a (List.mem_of_getElem? h)⟩
  obtain ⟨j, hj⟩ := List.getElem?_of_mem m
  have hjn : j < n := by
    have := (List.getElem?_eq_some_iff.mp hj).1
    simp at this; omega
  rw [List.getElem?_take_of_lt hjn] at hj
  obtain ⟨l1, e1⟩ := List.getElem?_eq_some_iff.mp h
  obtain ⟨l2, e2⟩ := List.getElem?_eq_some_iff.mp hj
  have := (List.getElem_inj w.nd).mp (e1.trans e2.symm)
  omega
theorem res_list {n k : Nat} (ih : ∀ (v : V) (d : D), Rep Y μ H v d → (res n S k d).lim n = true → Rep Y (μ.take n) H v (res n S k d)) : ∀ {vs : List V} {ds : List D}, RepL Y μ H vs ds → D.limL n (ds.map (res n S k)) = true → RepL Y (μ.take n) H vs (ds.map (res n S k))
  | _, _, .nil, _ => .nil
  | _, _, .cons h t, q => by
    rw [List.map_cons, D.limL, Bool.and_eq_true] at q
    exact .cons (ih _ _ h q.1) (res_list ih t q.2)
theorem res_rep {n : Nat} (w : World Y Bs μ H S) : ∀ (k : Nat) (v : V) (d : D), Rep Y μ H v d → (res n S k d).lim n = true → Rep Y (μ.take n) H v (res n S k d)
  | 0, v, d, r, q => r.cut (by simpa [res] using q)
  | k + 1, v, d, r, q => by
    have ih := res_rep (n := n) w k
    cases r with
    | tup h m r =>
      simp only [res, D.lim] at q ⊢
      exact .tup h m.cut (res_list ih r q)
    | lst h m r =>
      simp only [res, D.lim] at q ⊢
      exact .lst h m.cut (res_list ih r q)
    | way h ho m r =>
      simp only [res, D.lim] at q ⊢
      exact .way h ho m.cut (res_list ih r q)
    | ins h m hn r =>
      simp only [res, D.lim] at q ⊢
      exact .ins h m.cut hn (res_list ih r q)
    | @ref a i hi =>
      unfold res at q ⊢
      by_cases hlt : i < n
      · rw [if_pos hlt] at q ⊢
        exact (Rep.ref hi).cut q
      · rw [if_neg hlt] at q ⊢
        cases hc : S[i]? with
        | none =>
          rw [hc] at q
          simp only [D.lim, decide_eq_true_eq] at q
          exact absurd q hlt
        | some ce =>
          rw [hc] at q
          have co := w.cells i a ce hi hc
          have fr := out_cut w hi hlt
          cases co with
          | lst h r =>
            simp only [D.lim] at q ⊢
            exact .lst h fr (res_list ih r q)
          | dicK h r =>
            simp only [D.lim, Bool.and_eq_true] at q ⊢
            exact .dicK h fr (res_list ih r q.2)
          | dicT h r =>
            simp only [D.lim, Bool.and_eq_true] at q ⊢
            exact .dicT h fr (res_list ih r q.2)
          | ins h hn r =>
            simp only [D.lim] at q ⊢
            exact .ins h fr hn (res_list ih r q)
    | non => exact .non
    | bl b => exact .bl b
    | int i => exact .int i
    | str l => exact .str l
    | dicK h m r => exact (Rep.dicK h m r).cut q
    | dicT h m r => exact (Rep.dicT h m r).cut q
    | scr h => exact (Rep.scr h).cut q
theorem Ext.cut {μ' : List Addr} {H' : Hp} (e : Ext μ H μ' H') : Ext μ H (μ'.take μ.length) H' := by
  obtain ⟨r, hr⟩ := e.pre
  refine ⟨⟨[], by rw [hr]; simp⟩, e.keep, fun a m n => ?_⟩
  rw [hr, List.take_left] at m
  exact absurd m n
theorem CellOk.lst_at {a : Addr} {ds : List D} (h : CellOk Y μ H a (.lst ds)) : ∃ xs, H a = some (.lst xs) ∧ RepL Y μ H xs ds := by
  cases h with
  | lst h r => exact ⟨_, h, r⟩
theorem fin_read {W : WX} {μ0 : List Addr} {H0 : Hp} {keep give : Bool} {n : Nat} {v : V} {d : D} {Q : VK} {Bs' : List Nat} (hk : keep = true ∧ Bs' = Bs ∨ keep = false ∧ Bs' = n :: Bs) (hn : n = μ0.length) (hb : ∀ q ∈ Bs, q ≤ n) (e : Ext μ0 H0 μ H) (w : World Y Bs' μ H S) (r : Rep Y μ H v d)
    (k : KR Y Bs (Rep Y) μ0 H0 [] Q W (fin keep give n S d)) : Q v H := by
  rcases hk with ⟨rfl, rfl⟩ | ⟨rfl, rfl⟩
  · simp only [fin, if_true] at k
    exact k μ H v e w r
  · simp only [fin, Bool.false_eq_true, if_false] at k
    have w1 := w.cut hb
    have e1 : Ext μ0 H0 (μ.take n) H := by rw [hn]; exact e.cut
    split at k
    · exact k.elim
    · split at k
      · rename_i hl
        exact k (μ.take n) H v e1 w1 (res_rep w 8 v d r hl)
      · exact k.elim
end
theorem ExcAt.cut {Y : Sx} {μ : List Addr} {H : Hp} {C : String} {ns : List String} {ds : List D} {cls : Value} {dd : Option Addr} {n : Nat} (x : ExcAt Y μ H C ns ds cls dd) (h : D.limL n ds = true) : ExcAt Y (μ.take n) H C ns ds cls dd :=
  ⟨x.cls_, x.cl, x.no, x.flds.imp id fun ⟨a, fs, e1, e2, f, e3, r⟩ => ⟨a, fs, e1, e2, f.cut, e3, r.cut h⟩⟩
theorem start_ok {Y : Sx} (hx : Y.exs = none) {μ : List Addr} {H : Hp} {vs : List V} {ds : List D} {N : List Str} {d : Fn} (r : RepL Y μ H vs ds) (hN : N.length = d.names.length) (hl : ds.length = d.np) (hnp : d.np ≤ d.names.length) : EnvOk Y μ H (L2.start N vs) (d.start ds) := by
  have hv := r.length
  refine ⟨?_, fun i x h => ?_, fun z hz => by rw [hx] at hz; cases hz⟩
  · unfold L2.start Fn.start
    simp only [List.length_append, List.length_map, List.length_replicate]
    omega
  · unfold Fn.start at h
    have hi : i < ds.length := by
      refine Decidable.byContradiction fun q => ?_
      rw [List.getElem?_append_right (by simp; omega), List.getElem?_replicate] at h
      split at h <;> cases h
    rw [List.getElem?_append_left (by simpa using hi), List.getElem?_map, Option.map_eq_some_iff] at h
    obtain ⟨y, hy, e⟩ := h
    cases e
    obtain ⟨v, hv', rv⟩ := r.get hy
    refine ⟨v, ?_, rv⟩
    unfold L2.start
    rw [List.getElem?_append_left (by rw [List.length_map]; omega), List.getElem?_map, hv']
    rfl
structure DefAt (T : Text) (K : PySem.W.Frag) (mg : Str → Option Value) (M0 : MC) (f : String) (d : Fn) (st : Stmt) (a : Addr) (fd : FuncData) : Prop where
  fn : Fun K (nm f) (nm f) st a fd
  mg : mg (nm f) = some (.ref a)
  sc : FnScope (d.names.map nm) ((d.names.map nm).take d.np) (defScope st)
  np : d.np ≤ d.names.length
  bd : Binds K fd ((d.names.map nm).take d.np) []
  mt : d.body.mt { M0 with N := d.names.map nm, sc := defScope st } (defBody st) = true
structure HDefAt (T : Text) (K : PySem.W.Frag) (mg : Str → Option Value) (M0 : MC) (f : String) (d : Fn) (st : Stmt) (a : Addr) (fd : FuncData) : Prop where
  fn : Fun K (nm f) (nm f) st a fd
  mg : mg (nm f) = some (.ref a)
  sc : FnScope (d.names.map nm) ((d.names.map nm).take d.np) (defScope st)
  np : d.np ≤ d.names.length
  bd : Binds K fd ((d.names.map nm).take d.np) []
  mt : d.body.mt (({ M0 with N := d.names.map nm, sc := defScope st, hfn := fun _ => false } : MC).hot (some 0)) (defBody st) = true
structure TextOk (T : Text) (P : Program) (w : PySem.World) (K : PySem.W.Frag) (mg : Str → Option Value) (base : Heap) (ca : CA) (M0 : MC) : Prop where
  hK : ca.K = K
  mc : M0.calm = true ∧ M0.exi = none
  isxK : ∀ Y : Sx, Y.ca = ca → ∀ Z C k, T.isx Z C = some k → (isB C = true ∨ M0.cl C = true) → PySem.W.kitOne K (.ref (ca Z)) (clsVal Y C) = some k
  exg : ∀ C, M0.ex C = true → ExF ca C ∧ mg (nm C) = some (.ref (ca C)) ∧ ∃ q, T.ex C = some q ∧ (M0.exT C = true ↔ q = none) ∧ RaiseOk ca P w K mg base C q
  exm : ∀ Z C k, T.isx Z C = some k → M0.ex C = true → PySem.W.exmOne K (.ref (ca Z)) (.ref (ca C)) = some k
  fns : ∀ f, M0.fn f = true → ∃ d st a fd, T.fns f = some d ∧ DefAt T K mg M0 f d st a fd
  hfns : ∀ f, M0.hfn f = true → ∃ d st a fd, T.fns f = some d ∧ HDefAt T K mg M0 f d st a fd
  bi : ∀ g ∈ bis, mg (nm g) = none
  con : ∀ g, M0.con g = true → ∃ d u v, T.con g = some d ∧ mg (nm g) = some u ∧ RelV v u ∧ ∀ Z μ H, Rep Z μ H v d
  cls : ∀ C, M0.cl C = true → isB C = false → mg (nm C) = some (.ref (ca C))
  bcl : ∀ C, isB C = true → mg (nm C) = none
  isaN : ∀ C, M0.cl C = true → isB C = false → ∀ T ∈ basT, PySem.W.kitOne K (.type T) (.ref (ca C)) = some false
  isaI : ∀ Y : Sx, Y.ca = ca → ∀ Z, (∃ C k, T.isa Z C = some k) → ∀ (H : Hp) (a dx : Addr) (fs : List (Str × V)), H a = some (.ins (ca Z) dx fs) → ∃ t, TyX K H (.ref a) t ∧ ∀ C k, T.isa Z C = some k → (isB C = true ∨ M0.cl C = true) → PySem.W.kitOne K t (clsVal Y C) = some k
section
variable {T : Text} {P : Program} {w : PySem.World} {K : PySem.W.Frag} {mg : Str → Option Value} {base : Heap} {ca : CA} {M0 : MC}
theorem hfn_level (X0 : TextOk T P w K mg base ca M0) : ∀ (n : Nat) (f : String), M0.hfn f = true → ∀ d st a fd, T.fns f = some d → HDefAt T K mg M0 f d st a fd → FnE P w K mg base n a fd ((d.names.map nm).take d.np) (spE ca ((callsN T n).hcall f))
  | 0, f, hf, d, st, a, fd, hT, dA => by
    have no : ∀ p vs H Q E, ¬ spE ca ((callsN T 0).hcall f) p vs H Q E := by
      rintro p vs H Q E ⟨Y, _, z, b, Bs, μ, S, _, _, _, _, _, _, _, k⟩
      exact k
    exact ⟨fun p vs H Q E h => absurd h (no p vs H Q E), fun A outer s H args us vs Q E p _ _ _ _ _ h => absurd h (no p vs H Q E)⟩
  | n + 1, f, hf, d, st, a, fd, hT, dA => by
    have one : ∀ p vs H Q E, spE ca ((callsN T (n + 1)).hcall f) p vs H Q E → d.np = 1 ∧ 0 < d.names.length := by
      rintro p vs H Q E ⟨Y, _, z, b, Bs, μ, S, _, _, _, _, _, _, _, k⟩
      simp only [callsN, hT] at k
      split at k
      · assumption
      · exact k.elim
    have len : ∀ p vs H Q E, spE ca ((callsN T (n + 1)).hcall f) p vs H Q E → vs.length = ((d.names.map nm).take d.np).length := by
      intro p vs H Q E h
      obtain ⟨o1, o2⟩ := one p vs H Q E h
      obtain ⟨Y, _, z, b, Bs, μ, S, rfl, _⟩ := h
      rw [List.length_take, List.length_map, o1]
      simp
      omega
    refine funE dA.fn dA.sc len fun cdv A outer s H vs Q E p hr h => ?_
    obtain ⟨o1, o2⟩ := one p vs H Q E h
    obtain ⟨Y, hca, z, b, Bs, μ, S, rfl, hp, hZ, hv, hb, wo, ex, k⟩ := h
    obtain ⟨pa, po⟩ := p
    simp only at hp hZ hv
    subst hp
    simp only [callsN, hT, if_pos (And.intro o1 o2)] at k
    let z' : ExS := { z with slot := 0 }
    let Y' : Sx := ⟨Y.ca, Y.hid, some z'⟩
    have wo1 : World Y' Bs μ H S := World.other (Y := Y) (Y' := Y') rfl rfl wo
    have ex1 : ExcAt Y' μ H z.C z.ns z.ds z.cls z.dd := ex.move (.refl _ _) (Up.other (Y := Y) (Y' := Y') rfl rfl)
    have en : EnvOk Y' μ H (L2.start (d.names.map nm) [V.ref z.at_]) (List.replicate d.names.length none) := by
      refine ⟨?_, fun i x hi => ?_, fun y hy => ?_⟩
      · unfold L2.start
        simp
        omega
      · rw [List.getElem?_replicate] at hi
        split at hi <;> cases hi
      · cases hy
        exact ⟨rfl, ex1⟩
    have X1 : ∀ (b' : Nat) (Bs' : List Nat), (∀ q ∈ Bs', q ≤ b') → GoodS Y' { ctxOf T (callsN T n) (decide (2 ≤ n)) with exc := some (z.C, z.ns, z.ds) } b' Bs' noW (({ M0 with N := d.names.map nm, sc := defScope st, hfn := fun _ => false } : MC).hot (some 0)) (L2H.cxH (L2.CX P w) P w K mg base (d.names.map nm) (nm f) (defScope st) a cdv A outer s H E (z.at_, po)) := by
      intro b' Bs' hb'
      have hu : (A.deeper (envOfC (nm f) (defScope st) s.heap.objs.size a cdv)).units + 64 < cLine := by have := hr.un; omega
      exact { hN := rfl, hK := by show Y.ca.K = K; rw [hca]; exact X0.hK, nd := dA.sc.nd, hsc := rfl, calm := fun h => (by cases h), exs := rfl, cx := fun h => (by cases h), exn := fun y hy => (by cases hy; exact ⟨rfl, po, List.mem_cons_self, hZ, hv⟩), isxK := fun Z C k h1 h2 => (by have := X0.isxK Y' hca Z C k h1 h2; rw [← hca] at this; exact this),
              hu := hu, hb := hb', tk := fun u s' h => (by obtain ⟨_, _, _, _, _, _, _, _, _, _, _, _, _, _, _, _, h⟩ := h; exact h.elim), bi := X0.bi, con := X0.con, cls := by show ∀ C, _ → _ → mg (nm C) = some (.ref (Y.ca C)); rw [hca]; exact X0.cls, bcl := X0.bcl, isaN := by show ∀ C, _ → _ → ∀ T ∈ basT, PySem.W.kitOne K (.type T) (.ref (Y.ca C)) = some false; rw [hca]; exact X0.isaN,
              isaI := fun Z q => (by have := X0.isaI Y' hca Z q; rw [← hca] at this; exact this), hfn := fun f' hf' => (by cases hf'), call := fun f' hf' => (by cases hf'), loc := fun x hx => ⟨locB_ok hx, .inl rfl⟩, kind := dA.sc.kind, stk := rfl, frm := rfl, exg := by show ∀ C, _ → ExF Y.ca C ∧ mg (nm C) = some (.ref (Y.ca C)) ∧ _; rw [hca]; exact X0.exg,
              deep := fun _ h => (by cases h), exm := by show ∀ Z C k, _ → _ → PySem.W.exmOne K (.ref (Y.ca Z)) (.ref (Y.ca C)) = some k; rw [hca]; exact X0.exm, pass := fun h => (by cases h) }
    unfold runFn at k
    have main : ∀ (b' : Nat) (Bs' : List Nat), (d.keep = true ∧ Bs' = Bs ∧ b' = b ∨ d.keep = false ∧ Bs' = S.length :: Bs ∧ b' = S.length) → ∃ t, PSs (L2H.cxH (L2.CX P w) P w K mg base (d.names.map nm) (nm f) (defScope st) a cdv A outer s H E (z.at_, po)) (defBody st) t ∧ t { nx := fun _ H' => Q .non H', rt := Q } (L2.start (d.names.map nm) [V.ref z.at_]) H := by
      intro b' Bs' hk
      have hb' : ∀ q ∈ Bs', q ≤ b' := by
        rcases hk with ⟨_, rfl, rfl⟩ | ⟨_, rfl, rfl⟩
        · exact hb
        · intro q hq
          rcases List.mem_cons.mp hq with e | e
          · omega
          · exact wo.bs q e
      have wo' : World Y' Bs' μ H S := by
        rcases hk with ⟨_, rfl, rfl⟩ | ⟨_, rfl, rfl⟩
        · exact wo1
        · exact wo1.mark
      have hif : (if d.keep then b else S.length) = b' := by
        rcases hk with ⟨h1, _, rfl⟩ | ⟨h1, _, rfl⟩
        · rw [h1]; rfl
        · rw [h1]; rfl
      have hk2 : d.keep = true ∧ Bs' = Bs ∨ d.keep = false ∧ Bs' = S.length :: Bs := by
        rcases hk with ⟨h1, h2, _⟩ | ⟨h1, h2, _⟩
        · exact .inl ⟨h1, h2⟩
        · exact .inr ⟨h1, h2⟩
      refine ⟨_, Ss.ok d.body (X1 b' Bs' hb') dA.mt, μ, List.replicate d.names.length none, S, wo', en, ?_⟩
      rw [hif] at k
      show KS Y' Bs' _ μ H _ (exs b' d.body { ctxOf T (callsN T n) (decide (2 ≤ n)) with exc := some (z.C, z.ns, z.ds) } (List.replicate d.names.length none) S)
      revert k
      have back : ∀ {μ' : List Addr} {H' : Hp} {v : V} {dd : D}, Rep Y' μ' H' v dd → Rep Y μ' H' v dd := fun r => r.move (.refl _ _) (Up.other (Y := Y') (Y' := Y) rfl rfl)
      have backW : ∀ {Bs : List Nat} {μ' : List Addr} {H' : Hp} {S' : Store}, World Y' Bs μ' H' S' → World Y Bs μ' H' S' := fun w => World.other (Y := Y') (Y' := Y) rfl rfl w
      have calmed : ∀ {r : R D}, KR Y Bs (Rep Y) μ H [] Q (fun cls d _ H' => E cls d H') r.calm → KR Y Bs (Rep Y) μ H [] Q noW r ∨ False := by
        intro r k
        cases r with
        | ok a S => exact .inl k
        | err C ns ds S => exact .inr k
        | bad => exact .inr k
      cases exs b' d.body { ctxOf T (callsN T n) (decide (2 ≤ n)) with exc := some (z.C, z.ns, z.ds) } (List.replicate d.names.length none) S with
      | ok fl S' =>
        cases fl with
        | nx ρ' =>
          intro k μ' H' σ' x w' _
          rcases calmed k with k | k
          · exact fin_read hk2 wo.len.symm wo.bs x (backW w') .non k
          · exact k.elim
        | rt dd =>
          intro k μ' H' v x w' rv
          rcases calmed k with k | k
          · exact fin_read hk2 wo.len.symm wo.bs x (backW w') (back rv) k
          · exact k.elim
        | bk ρ' => exact fun k => k.elim
        | ct ρ' => exact fun k => k.elim
      | err C ns fs ρ' S' =>
        intro k
        simp only at k
        rcases hk2 with ⟨h1, rfl⟩ | ⟨h1, rfl⟩
        · rw [h1] at k
          exact k.elim
        · rw [h1] at k
          simp only [Bool.false_eq_true, if_false] at k
          split at k
          · exact k.elim
          · exact k.elim
      | bad => exact fun k => k
    cases hk : d.keep with
    | true => exact main b Bs (.inl ⟨hk, rfl, rfl⟩)
    | false => exact main S.length (S.length :: Bs) (.inr ⟨hk, rfl, rfl⟩)
theorem fn_level (X0 : TextOk T P w K mg base ca M0) : ∀ (n : Nat) (f : String), M0.fn f = true → ∀ d st a fd, T.fns f = some d → DefAt T K mg M0 f d st a fd → FnOk P w K mg base (L2.CX P w) n a fd ((d.names.map nm).take d.np) (spI ca (callN T n f))
  | 0, f, hf, d, st, a, fd, hT, dA => by
    have no : ∀ vs H Q E, ¬ spI ca (callN T 0 f) vs H Q E := by
      rintro vs H Q E ⟨Y, _, _, g, b, Bs, μ, S, ds, _, _, _, k⟩
      exact k
    exact ⟨fun vs H Q E h => absurd h (no vs H Q E), fun A outer s H args us vs Q E _ _ _ _ h => absurd h (no vs H Q E)⟩
  | n + 1, f, hf, d, st, a, fd, hT, dA => by
    have len : ∀ vs H Q E, spI ca (callN T (n + 1) f) vs H Q E → vs.length = ((d.names.map nm).take d.np).length := by
      rintro vs H Q E ⟨Y, _, _, g, b, Bs, μ, S, ds, _, _, r, k⟩
      simp only [callN, callsN, hT] at k
      split at k
      · rename_i hl
        rw [r.length, hl, List.length_take, List.length_map]
        have := dA.np
        omega
      · exact k.elim
    refine dA.fn.okX dA.sc len fun cdv A outer s H vs Q E hr h => ?_
    obtain ⟨Y, hca, hx, g, b, Bs, μ, S, ds, hb, wo, r, k⟩ := h
    simp only [callN, callsN, hT] at k
    split at k
    · rename_i hl
      have hNl : (d.names.map nm).length = d.names.length := List.length_map _
      have en := start_ok hx (N := d.names.map nm) r hNl hl dA.np
      have X1 : ∀ (b' : Nat) (Bs' : List Nat), (∀ q ∈ Bs', q ≤ b') → GoodS Y (ctxN T n) b' Bs' (fun cls d _ H => E cls d H) { M0 with N := d.names.map nm, sc := defScope st } (cxOf (L2.CX P w) P w K mg base (d.names.map nm) (nm f) (defScope st) a cdv A outer s H E) := by
        intro b' Bs' hb'
        have hu : (A.deeper (envOfC (nm f) (defScope st) s.heap.objs.size a cdv)).units + 64 < cLine := hr.units
        exact { hN := rfl, hK := by rw [hca]; exact X0.hK, nd := dA.sc.nd, hsc := rfl, calm := fun _ => rfl, exs := by rw [hx]; exact X0.mc.2, cx := fun _ => X0.mc.2, exn := fun z hz => (by rw [hx] at hz; cases hz), isxK := by rw [hca]; exact X0.isxK Y hca, hu := hu, hb := hb', tk := takes_of rfl rfl rfl rfl, bi := X0.bi, con := X0.con, cls := by rw [hca]; exact X0.cls, bcl := X0.bcl, isaN := by rw [hca]; exact X0.isaN,
                isaI := by rw [hca]; exact X0.isaI Y hca,
                hfn := fun f' hf' => by
                  obtain ⟨d', st', a', fd', hT', dA'⟩ := X0.hfns f' hf'
                  rw [hca]
                  exact ⟨n, a', fd', _, hfn_level X0 n f' hf' d' st' a' fd' hT' dA', L2H.roomH_of hr, dA'.mg, dA'.fn.kp, dA'.bd⟩
                call := fun f' hf' => by
                  obtain ⟨d', st', a', fd', hT', dA'⟩ := X0.fns f' hf'
                  rw [hca]
                  exact ⟨n, a', fd', _, fn_level X0 n f' hf' d' st' a' fd' hT' dA', hr, dA'.mg, dA'.fn.kp, dA'.bd⟩
                loc := fun x hx => ⟨locB_ok hx, .inl rfl⟩, kind := dA.sc.kind, stk := rfl, frm := rfl, exg := by rw [hca]; exact X0.exg, deep := fun h _ => hr.mono (of_decide_eq_true h), exm := by rw [hca]; exact X0.exm, pass := fun _ => passes_of rfl }
      unfold runFn at k
      have main : ∀ (b' : Nat) (Bs' : List Nat), (d.keep = true ∧ Bs' = Bs ∧ b' = b ∨ d.keep = false ∧ Bs' = S.length :: Bs ∧ b' = S.length) → ∃ t, PSs (cxOf (L2.CX P w) P w K mg base (d.names.map nm) (nm f) (defScope st) a cdv A outer s H E) (defBody st) t ∧ t { nx := fun _ H' => Q .non H', rt := Q } (L2.start (d.names.map nm) vs) H := by
        intro b' Bs' hk
        have hb' : ∀ q ∈ Bs', q ≤ b' := by
          rcases hk with ⟨_, rfl, rfl⟩ | ⟨_, rfl, rfl⟩
          · exact hb
          · intro q hq
            rcases List.mem_cons.mp hq with e | e
            · omega
            · exact wo.bs q e
        have wo' : World Y Bs' μ H S := by
          rcases hk with ⟨_, rfl, rfl⟩ | ⟨_, rfl, rfl⟩
          · exact wo
          · exact wo.mark
        have hif : (if d.keep then b else S.length) = b' := by
          rcases hk with ⟨h1, _, rfl⟩ | ⟨h1, _, rfl⟩
          · rw [h1]; rfl
          · rw [h1]; rfl
        have hk2 : d.keep = true ∧ Bs' = Bs ∨ d.keep = false ∧ Bs' = S.length :: Bs := by
          rcases hk with ⟨h1, h2, _⟩ | ⟨h1, h2, _⟩
          · exact .inl ⟨h1, h2⟩
          · exact .inr ⟨h1, h2⟩
        refine ⟨_, Ss.ok d.body (X1 b' Bs' hb') dA.mt, μ, d.start ds, S, wo', en, ?_⟩
        rw [hif] at k
        show KS Y Bs' _ μ H _ (exs b' d.body (ctxN T n) (d.start ds) S)
        revert k
        cases exs b' d.body (ctxN T n) (d.start ds) S with
        | ok fl S' =>
          cases fl with
          | nx ρ' => exact fun k μ' H' σ' x w' _ => fin_read hk2 wo.len.symm wo.bs x w' .non k
          | rt dd => exact fun k μ' H' v x w' rv => fin_read hk2 wo.len.symm wo.bs x w' rv k
          | bk ρ' => exact fun k => k.elim
          | ct ρ' => exact fun k => k.elim
        | err C ns fs ρ' S' =>
          intro k μ' H' σ' cls dd x w' _ ex
          simp only at k
          rcases hk2 with ⟨h1, rfl⟩ | ⟨h1, rfl⟩
          · rw [h1] at k
            exact k μ' H' cls dd x w' ex
          · rw [h1] at k
            simp only [Bool.false_eq_true, if_false] at k
            split at k
            · rename_i hlim
              have e1 : Ext μ H (μ'.take S.length) H' := by rw [← wo.len]; exact x.cut
              exact k (μ'.take S.length) H' cls dd e1 (w'.cut wo.bs) (ex.cut hlim)
            · exact k.elim
        | bad => exact fun k => k
      cases hk : d.keep with
      | true => exact main b Bs (.inl ⟨hk, rfl, rfl⟩)
      | false => exact main S.length (S.length :: Bs) (.inr ⟨hk, rfl, rfl⟩)
    · exact k.elim
end
end CL
namespace CL
open PySem PySem.Spec PyProof.Rows L2
structure LT where
  body : List Stmt
  fns : List (String × Fn × Nat)
  hfns : List (String × Fn × Nat) := []
  cons : List (String × D)
  exs : List (String × Option (List String) × Nat × List String)
  base : String
  fuel : Nat
namespace LT
def at_ (L : LT) (i : Nat) : Stmt := L.body.getD i (.Pass ⟨0, 0, 0, 0⟩)
def initOf : Stmt → Stmt
  | .ClassDef _ _ _ b _ _ _ _ _ _ _ => (b.find? fun s => match s with | .FunctionDef n _ _ _ _ _ _ _ _ _ => decide (n = nm "__init__") | _ => false).getD (.Pass ⟨0, 0, 0, 0⟩)
  | s => s
def text (L : LT) : Text where
  fns := fun f => ((L.fns ++ L.hfns).lookup f).map (·.1)
  cls := fun _ => none
  meth := fun _ _ => none
  con := fun g => L.cons.lookup g
  isa := fun _ _ => none
  isx := fun Z C => match L.exs.lookup Z with
    | some e => if isB C || (L.exs.lookup C).isSome then some (e.2.2.contains C) else none
    | none => none
  ex := fun C => (L.exs.lookup C).map (·.1)
  fuel := L.fuel
def mc (L : LT) : MC where
  N := []
  sc := { kind := .function, names := [], isGenerator := false, isCoroutine := false }
  fn := fun f => (L.fns.lookup f).isSome
  hfn := fun f => (L.hfns.lookup f).isSome && (L.fns.lookup f).isNone
  cl := fun C => (L.exs.lookup C).isSome
  con := fun g => (L.cons.lookup g).isSome
  ex := fun C => (L.exs.lookup C).isSome
  exT := fun C => match L.exs.lookup C with
    | some e => e.1.isNone
    | none => false
def C_ (K : PySem.W.Frag) (C : String) : Addr := He.ga K (nm C)
def ca (K : PySem.W.Frag) : CA := ⟨C_ K, K⟩
def isO (a b : Option (Option Value)) : Bool := decide (a = b)
def oexB (K : PySem.W.Frag) (C : Addr) : Bool := match K.lookup C with
  | some ⟨.type t, _, .cls cd, sl⟩ => (match cd.mro, sl.toList with
    | .ref C' :: bm, [_, _, _, _, some (.builtin n), _] => decide (t = "type") && (decide (C' = C) && (decide (n = "ValueError.__new__") && (!cd.hasDel && (cd.hasDict && PySem.HandSPX.refsVE bm))))
    | _, _ => false)
  | _ => false
def exfB (K : PySem.W.Frag) (C : Addr) : Bool :=
  isO (PySem.W.findIn K (.ref C) "__getattribute__") (some (some (.builtin "BaseException.__getattribute__"))) && (isO (PySem.W.findIn K (.ref C) "__getattr__") (some none) && (decide (PySem.W.subIn K (.ref C) (.type "BaseException") = some true) &&
  (PySem.W.hasDictIn K C && (PySem.W.isClsIn K C && (isO (PySem.W.findIn K (.ref C) "__class__") (some (some (.builtin "object.__class__"))) && (isO (PySem.W.specialIn K (.builtin "object.__class__") "__get__") (some (some (.builtin "getset_descriptor.__get__"))) &&
  (decide (PySem.W.takesIn K (.builtin "object.__class__") = some true) && (decide (PySem.W.mroIn K C (.type "object") = some true) && (decide (PySem.W.typeIn K (.ref C) = some (.type "type")) && PySem.W.keepIn K (.ref C))))))))))
def laB (K : PySem.W.Frag) (L : Addr) : Bool := PySem.W.readsIn K L (.type "type") && (isO (PySem.W.specialIn K (.ref L) "__getattribute__") (some (some (.builtin "type.__getattribute__"))) && (match PySem.W.findCls K (.ref L) (.type "type") "__init__" with
  | some (.val (.builtin n)) => decide (n = "ValueError.__init__")
  | _ => false))
def conB (K : PySem.W.Frag) (x : String) : D → Bool
  | .int i => (match PySem.W.nsIn K mainGlobals (nm x) with
    | some (some (.int j _)) => decide (j = i)
    | _ => false)
  | .str l => (match PySem.W.nsIn K mainGlobals (nm x) with
    | some (some (.str y _)) => decide (y = ⟨l.toArray⟩)
    | _ => false)
  | _ => false
def gloB (K : PySem.W.Frag) (x : String) : Bool := isO (PySem.W.nsIn K mainGlobals (nm x)) (some (some (.ref (C_ K x))))
def exB (L : LT) (K : PySem.W.Frag) (e : String × Option (List String) × Nat × List String) : Bool :=
  gloB K e.1 && (exfB K (C_ K e.1) && ((match e.2.1 with
    | none => PySem.W.excIn K (C_ K e.1) [.type "ValueError", .type "Exception", .type "BaseException", .type "object"] "ValueError.__new__"
    | some ns => oexB K (C_ K e.1) && (isO (PySem.W.findIn K (.ref (C_ K e.1)) "__setattr__") (some (some (.builtin "object.__setattr__"))) && (isO (PySem.W.findIn K (.ref (C_ K e.1)) "__init__") (some (some (.ref (He.ma K (C_ K e.1) "__init__")))) &&
      (decide (PySem.W.typeIn K (.ref (He.ma K (C_ K e.1) "__init__")) = some (.type "function")) && ns.all fun f => isO (PySem.W.findIn K (.ref (C_ K e.1)) (nm f)) (some none)))))
  && (bTy.all (fun C => decide (PySem.W.kitOne K (.ref (C_ K e.1)) (.type C) = some (e.2.2.2.contains C))) &&
    L.exs.all fun d => decide (PySem.W.kitOne K (.ref (C_ K e.1)) (.ref (C_ K d.1)) = some (e.2.2.2.contains d.1)) && decide (PySem.W.exmOne K (.ref (C_ K e.1)) (.ref (C_ K d.1)) = some (e.2.2.2.contains d.1)))))
def okK (L : LT) (K : PySem.W.Frag) : Bool :=
  ((L.fns ++ L.hfns).all fun f => gloB K f.1) && (((bis ++ bTy).all fun x => isO (PySem.W.nsIn K mainGlobals (nm x)) (some none)) && ((L.cons.all fun g => conB K g.1 g.2) && ((L.exs.all fun e => exB L K e) &&
  ((L.exs.isEmpty || laB K (C_ K L.base) && gloB K L.base) && ((L.exs.all fun e => basT.all fun T => decide (PySem.W.kitOne K (.type T) (.ref (C_ K e.1)) = some false)))))))
def defs (L : LT) : List He.DefD :=
  (L.fns ++ L.hfns).map (fun f => ⟨(nm f.1, none), nm f.1, nm f.1, defArgs (L.at_ f.2.2), defBody (L.at_ f.2.2), defScope (L.at_ f.2.2), [], []⟩) ++
  (L.exs.filter fun e => e.2.1.isSome).map fun e => ⟨(nm e.1, some (nm "__init__")), nm "__init__", nm (e.1 ++ ".__init__"), defArgs (initOf (L.at_ e.2.2.1)), defBody (initOf (L.at_ e.2.2.1)), defScope (initOf (L.at_ e.2.2.1)), [], []⟩
abbrev Seen : Type := Bool × List He.FnW
def seen (L : LT) (K : PySem.W.Frag) : Seen := (okK L K && L.defs.all (fun d => d.ok K), L.defs.map fun d => He.fnW K d.at_)
def due (L : LT) : Seen := (true, L.defs.map He.DefD.val)
def look (L : LT) (n : Nat) (g : Addr → Option Obj) : Seen := L.seen (He.frG g (He.asD g n ++ [cStatics]))
def hook (L : LT) (n : Nat) : PySem.W.Hook where
  α := Seen
  obs := fun st => L.look n st.heap.get?
  val := fun _ => L.due
  says := fun _ hp => ∃ K : PySem.W.Frag, K.In hp ∧ L.seen K = L.due
  of := fun _ _ eq => ⟨_, He.frG_in, eq⟩
  keeps := fun _ _ _ ⟨K, hin, c⟩ kp => ⟨K, hin.keeps kp, c⟩
def ob (L : LT) (n : Nat) (s : PySem.W.SharedT) : Seen := L.look n (HandSHeadRun.getT s)
theorem ob_eq (L : LT) (n : Nat) (s : PySem.W.SharedT) : L.ob n s = (L.hook n).obs s.abs := by
  have e : HandSHeadRun.getT s = s.abs.heap.get? := funext (HandSHeadRun.getT_eq s)
  show L.look n _ = L.look n _
  rw [e]
theorem def_of {L : LT} {K : PySem.W.Frag} (c : L.seen K = L.due) {d : He.DefD} (hd : d ∈ L.defs) : ∃ fd, FunD K d.name d.qual d.params d.body d.scope (d.dvs K) (d.kws K) (He.fAd K d.at_) fd := by
  have c1 : (okK L K && L.defs.all (fun d => d.ok K)) = true := congrArg Prod.fst c
  have c2 : (L.defs.map fun d => He.fnW K d.at_) = L.defs.map He.DefD.val := congrArg Prod.snd c
  rw [Bool.and_eq_true] at c1
  refine He.DefD.funD ?_ (List.all_eq_true.mp c1.2 d hd)
  obtain ⟨i, hi⟩ := List.getElem?_of_mem hd
  have := congrArg (fun l => l[i]?) c2
  simp only [List.getElem?_map, hi, Option.map_some, Option.some.injEq] at this
  exact this
theorem funOf {K : PySem.W.Frag} {x qual : Str} {st : Stmt} {f : Addr} {fd : FuncData} (F : FunD K x qual (defArgs st) (defBody st) (defScope st) [] [] f fd) : Fun K x qual st f fd := by
  obtain ⟨oc, od, dV, kV, doc, pm, an, cdv, ct, osl, e, lk, hcd, hD, _⟩ := F.ex
  rcases hD with ⟨_, rfl⟩ | ⟨q, _⟩
  · exact ⟨⟨oc, od, kV, doc, pm, an, cdv, ct, osl, e, lk, hcd⟩, F.kp⟩
  · exact absurd rfl q
def BindsOk (x qual : Str) (st : Stmt) (ps : List Str) : Prop := ∀ (kV doc pm : Value) (an : Option Addr) (cdv ct : Value) (us : List Value), us.length = ps.length → bindArgs (PySem.W.fnOf x qual (defArgs st) (defBody st) (defScope st) .none kV doc pm an cdv ct) ⟨us, []⟩ = pure (ps.zip us)
structure FnFine (L : LT) (f : String × Fn × Nat) : Prop where
  sc : FnScope (f.2.1.names.map nm) ((f.2.1.names.map nm).take f.2.1.np) (defScope (L.at_ f.2.2))
  np : f.2.1.np ≤ f.2.1.names.length
  bd : BindsOk (nm f.1) (nm f.1) (L.at_ f.2.2) ((f.2.1.names.map nm).take f.2.1.np)
  mt : f.2.1.body.mt { L.mc with N := f.2.1.names.map nm, sc := defScope (L.at_ f.2.2) } (defBody (L.at_ f.2.2)) = true
structure HFnFine (L : LT) (f : String × Fn × Nat) : Prop where
  sc : FnScope (f.2.1.names.map nm) ((f.2.1.names.map nm).take f.2.1.np) (defScope (L.at_ f.2.2))
  np : f.2.1.np ≤ f.2.1.names.length
  bd : BindsOk (nm f.1) (nm f.1) (L.at_ f.2.2) ((f.2.1.names.map nm).take f.2.1.np)
  mt : f.2.1.body.mt (({ L.mc with N := f.2.1.names.map nm, sc := defScope (L.at_ f.2.2), hfn := fun _ => false } : MC).hot (some 0)) (defBody (L.at_ f.2.2)) = true
structure ExFine (L : LT) (C : String) (ns : List String) (i : Nat) : Prop where
  sc : FnScope (("self" :: ns).map nm) (("self" :: ns).map nm) (defScope (initOf (L.at_ i)))
  bd : BindsOk (nm "__init__") (nm (C ++ ".__init__")) (initOf (L.at_ i)) (("self" :: ns).map nm)
  mt : initMt L.base ns (defScope (initOf (L.at_ i))) (defBody (initOf (L.at_ i))) = true
  ne : ns ≠ []
  few : ns.length < 20
structure Fine (L : LT) : Prop where
  fns : ∀ f ∈ L.fns, FnFine L f
  hfns : ∀ f ∈ L.hfns, HFnFine L f
  exs : ∀ C ns i ss, (C, some ns, i, ss) ∈ L.exs → ExFine L C ns i
  cls : ∀ e ∈ L.exs, isB e.1 = false
theorem lookup_mem {β : Type} {k : String} {v : β} : ∀ {l : List (String × β)}, l.lookup k = some v → (k, v) ∈ l
  | [], h => by cases h
  | (a, b) :: l, h => by
    rw [List.lookup] at h
    split at h
    · rename_i q
      rw [beq_iff_eq] at q
      cases h
      rw [q]; exact List.mem_cons_self
    · exact List.mem_cons_of_mem _ (lookup_mem h)
theorem isO_ok {a b : Option (Option Value)} (h : isO a b = true) : a = b := of_decide_eq_true h
theorem exf_ok {K : PySem.W.Frag} {C : String} (h : exfB K (C_ K C) = true) : ExF (ca K) C := by
  unfold exfB at h
  simp only [Bool.and_eq_true, decide_eq_true_eq] at h
  obtain ⟨h1, h2, h3, h4, h5, h6, h7, h8, h9, h10, h11⟩ := h
  exact ⟨isO_ok h1, isO_ok h2, h3, h4, h5, isO_ok h6, isO_ok h7, h8, h9, h10, h11⟩
theorem oex_ok {K : PySem.W.Frag} {C : Addr} (h : oexB K C = true) : ∃ nm q N bs bm sn sub ab col dd k0 k1 k2 k3 k5, K.lookup C = some (excClassObj nm q C N bs bm true sn sub ab col dd k0 k1 k2 k3 k5 "ValueError.__new__") ∧ PySem.HandSPX.refsVE bm = true := by
  unfold oexB at h
  split at h
  · rename_i t dd cd sl ho
    split at h
    · rename_i C' bm k0 k1 k2 k3 n k5 hm hs
      simp only [Bool.and_eq_true, decide_eq_true_eq, Bool.not_eq_true'] at h
      obtain ⟨rfl, rfl, rfl, hdel, hdct, hr⟩ := h
      obtain ⟨nm, bs, mro, ns, qn, hd, sn, sub, ab, col, del⟩ := cd
      dsimp only at hm hdel hdct
      subst hm hdel hdct
      have hsl : sl = #[k0, k1, k2, k3, some (.builtin "ValueError.__new__"), k5] := by
        obtain ⟨l⟩ := sl
        simp only at hs
        rw [hs]
      subst hsl
      exact ⟨nm, qn, ns, bs, bm, sn, sub, ab, col, dd, k0, k1, k2, k3, k5, ho, hr⟩
    · cases h
  · cases h
theorem la_ok {K : PySem.W.Frag} {L : Addr} (h : laB K L = true) : LaF K L := by
  unfold laB at h
  simp only [Bool.and_eq_true] at h
  obtain ⟨h1, h2, h3⟩ := h
  refine ⟨h1, isO_ok h2, ?_⟩
  split at h3
  · rename_i n hn
    rw [hn, of_decide_eq_true h3]
  · cases h3
section
variable {L : LT} {P : Program} {w : PySem.World} {K : PySem.W.Frag} {mg : Str → Option Value} {h : Heap}
theorem con_ok (X : K.In h) (G : h.Ns mainGlobals mg) {x : String} {d : D} (c : conB K x d = true) : ∃ u v, mg (nm x) = some u ∧ RelV v u ∧ ∀ Z μ H, Rep Z μ H v d := by
  unfold conB at c
  split at c
  · split at c
    · rename_i i j t e
      have := of_decide_eq_true c
      subst this
      exact ⟨_, .int j, PySem.W.mg_of X G e, ⟨t, rfl⟩, fun _ _ _ => .int j⟩
    · cases c
  · split at c
    · rename_i y t e
      have := of_decide_eq_true c
      subst this
      exact ⟨_, .str _, PySem.W.mg_of X G e, ⟨t, rfl⟩, fun _ _ _ => .str _⟩
    · cases c
  · cases c
theorem glo_ok (X : K.In h) (G : h.Ns mainGlobals mg) {x : String} (c : gloB K x = true) : mg (nm x) = some (.ref (C_ K x)) := PySem.W.mg_of X G (isO_ok c)
theorem def_at (F : Fine L) (X : K.In h) (G : h.Ns mainGlobals mg) (c : L.seen K = L.due) {f : String} {d : Fn} {i : Nat} (hf : L.fns.lookup f = some (d, i)) :
    ∃ fd, DefAt L.text K mg L.mc f d (L.at_ i) (C_ K f) fd ∧ ∀ (s : Shared) (us : List Value), us.length = ((d.names.map nm).take d.np).length → BindsTo s fd ⟨us, []⟩ (((d.names.map nm).take d.np).zip us) := by
  have hm := lookup_mem hf
  have ff := F.fns _ hm
  have hd : (⟨(nm f, none), nm f, nm f, defArgs (L.at_ i), defBody (L.at_ i), defScope (L.at_ i), [], []⟩ : He.DefD) ∈ L.defs := List.mem_append_left _ (List.mem_map.mpr ⟨_, List.mem_append_left _ hm, rfl⟩)
  obtain ⟨fd, fu⟩ := def_of c hd
  have c1 : (okK L K && L.defs.all (fun d => d.ok K)) = true := congrArg Prod.fst c
  unfold okK at c1
  simp only [Bool.and_eq_true] at c1
  have g := List.all_eq_true.mp c1.1.1 _ (List.mem_append_left _ hm)
  exact ⟨fd, ⟨funOf fu, glo_ok X G g, ff.sc, ff.np, fu.bindsN ff.bd, ff.mt⟩, fun s us hl => fu.bindsA ff.bd s us hl⟩
theorem look_app {β : Type} {k : String} : ∀ {l m : List (String × β)} {v : β}, l.lookup k = some v → (l ++ m).lookup k = some v
  | [], _, _, h => by cases h
  | (a, b) :: l, m, v, h => by
    rw [List.cons_append, List.lookup]
    rw [List.lookup] at h
    split
    · rename_i q
      rw [q] at h
      exact h
    · rename_i q
      rw [q] at h
      exact look_app h
theorem look_app2 {β : Type} {k : String} : ∀ {l m : List (String × β)} {v : β}, l.lookup k = none → m.lookup k = some v → (l ++ m).lookup k = some v
  | [], _, _, _, h => h
  | (a, b) :: l, m, v, h, h2 => by
    rw [List.cons_append, List.lookup]
    rw [List.lookup] at h
    split
    · rename_i q
      rw [q] at h
      cases h
    · rename_i q
      rw [q] at h
      exact look_app2 h h2
theorem hdef_at (F : Fine L) (X : K.In h) (G : h.Ns mainGlobals mg) (c : L.seen K = L.due) {f : String} {d : Fn} {i : Nat} (hf : L.hfns.lookup f = some (d, i)) : ∃ fd, HDefAt L.text K mg L.mc f d (L.at_ i) (C_ K f) fd := by
  have hm := lookup_mem hf
  have ff := F.hfns _ hm
  have hd : (⟨(nm f, none), nm f, nm f, defArgs (L.at_ i), defBody (L.at_ i), defScope (L.at_ i), [], []⟩ : He.DefD) ∈ L.defs := List.mem_append_left _ (List.mem_map.mpr ⟨_, List.mem_append_right _ hm, rfl⟩)
  obtain ⟨fd, fu⟩ := def_of c hd
  have c1 : (okK L K && L.defs.all (fun d => d.ok K)) = true := congrArg Prod.fst c
  unfold okK at c1
  simp only [Bool.and_eq_true] at c1
  have g := List.all_eq_true.mp c1.1.1 _ (List.mem_append_right _ hm)
  exact ⟨fd, ⟨funOf fu, glo_ok X G g, ff.sc, ff.np, fu.bindsN ff.bd, ff.mt⟩⟩
theorem text_ok (F : Fine L) (X : K.In h) (G : h.Ns mainGlobals mg) (c : L.seen K = L.due) (base : Heap) : TextOk L.text P w K mg base (ca K) L.mc := by
  have c1 : (okK L K && L.defs.all (fun d => d.ok K)) = true := congrArg Prod.fst c
  unfold okK at c1
  simp only [Bool.and_eq_true, Bool.or_eq_true] at c1
  obtain ⟨⟨k1, k2, k3, k4, k5, k6⟩, _⟩ := c1
  have ex1 : ∀ e ∈ L.exs, exB L K e = true := fun e he => List.all_eq_true.mp k4 e he
  have nb : ∀ x ∈ bis ++ bTy, mg (nm x) = none := fun x hx => PySem.W.mg_none_of X G (isO_ok (List.all_eq_true.mp k2 x hx))
  refine { hK := rfl, mc := ⟨rfl, rfl⟩, isxK := ?_, exg := ?_, exm := ?_, fns := ?_, hfns := ?_, bi := fun g hg => nb g (List.mem_append_left _ hg), con := ?_, cls := ?_, bcl := fun C hC => nb C (List.mem_append_right _ (isB_mem hC)), isaN := ?_, isaI := ?_ }
  · intro Y hY Z C k hk hC
    simp only [text] at hk
    split at hk
    · rename_i e he
      split at hk
      · rename_i hq
        simp only [Option.some.injEq] at hk
        subst hk
        have hb := ex1 _ (lookup_mem he)
        unfold exB at hb
        simp only [Bool.and_eq_true] at hb
        obtain ⟨_, _, _, b1, b2⟩ := hb
        unfold clsVal
        rw [hY]
        by_cases hB : isB C = true
        · rw [if_pos hB]
          exact of_decide_eq_true (List.all_eq_true.mp b1 C (isB_mem hB))
        · rw [if_neg hB]
          have hB' : isB C = false := by simpa using hB
          rw [hB', Bool.false_or] at hq
          obtain ⟨e', he'⟩ := Option.isSome_iff_exists.mp hq
          have := List.all_eq_true.mp b2 _ (lookup_mem he')
          rw [Bool.and_eq_true] at this
          exact of_decide_eq_true this.1
      · cases hk
    · cases hk
  · intro C hC
    obtain ⟨e, he⟩ := Option.isSome_iff_exists.mp (show (L.exs.lookup C).isSome = true from hC)
    have hm := lookup_mem he
    have hb := ex1 _ hm
    unfold exB at hb
    simp only [Bool.and_eq_true] at hb
    obtain ⟨b1, b2, b3, _⟩ := hb
    have hbase : laB K (C_ K L.base) = true ∧ gloB K L.base = true := by
      rcases k5 with q | q
      · rw [List.isEmpty_iff] at q
        rw [q] at hm; cases hm
      · exact q
    refine ⟨exf_ok b2, glo_ok X G b1, e.1, by simp only [text, he, Option.map_some], ?_, ?_⟩
    · simp only [mc, he]
      cases e.1 <;> simp
    · obtain ⟨q, i, ss⟩ := e
      cases q with
      | none => exact b3
      | some ns =>
        simp only [Bool.and_eq_true] at b3
        obtain ⟨b4, b5, b6, b7, b8⟩ := b3
        have ef := F.exs C ns i ss hm
        have cl := exf_ok b2
        have hno : ∀ f ∈ ns, PySem.W.findIn K (.ref (C_ K C)) (nm f) = some none := fun f hf => isO_ok (List.all_eq_true.mp b8 f hf)
        have oe : OexC K (C_ K C) := ⟨oex_ok b4, isO_ok b5, cl.exC, cl.tyC, cl.kC⟩
        have hd : (⟨(nm C, some (nm "__init__")), nm "__init__", nm (C ++ ".__init__"), defArgs (initOf (L.at_ i)), defBody (initOf (L.at_ i)), defScope (initOf (L.at_ i)), [], []⟩ : He.DefD) ∈ L.defs :=
          List.mem_append_right _ (List.mem_map.mpr ⟨_, List.mem_filter.mpr ⟨hm, rfl⟩, rfl⟩)
        obtain ⟨fd, fu⟩ := def_of c hd
        have ini : InitF K mg L.base (C_ K C) (C_ K L.base) ns (initOf (L.at_ i)) (He.ma K (C_ K C) "__init__") fd (nm (C ++ ".__init__")) :=
          ⟨funOf fu, isO_ok b6, of_decide_eq_true b7, oe, hno, glo_ok X G hbase.2, la_ok hbase.1, ef.sc, fu.bindsN ef.bd, ef.mt, ef.ne, ef.few⟩
        exact ⟨oe, ef.ne, hno, _, fd, isO_ok b6, of_decide_eq_true b7, init_ok ini, fu.bindsN ef.bd⟩
  · intro Z C k hk hC
    simp only [text] at hk
    split at hk
    · rename_i e he
      split at hk
      · simp only [Option.some.injEq] at hk
        subst hk
        have hb := ex1 _ (lookup_mem he)
        unfold exB at hb
        simp only [Bool.and_eq_true] at hb
        obtain ⟨_, _, _, b1, b2⟩ := hb
        obtain ⟨e', he'⟩ := Option.isSome_iff_exists.mp (show (L.exs.lookup C).isSome = true from hC)
        have := List.all_eq_true.mp b2 _ (lookup_mem he')
        rw [Bool.and_eq_true] at this
        exact of_decide_eq_true this.2
      · cases hk
    · cases hk
  · intro f hf
    obtain ⟨⟨d, i⟩, he⟩ := Option.isSome_iff_exists.mp (show (L.fns.lookup f).isSome = true from hf)
    obtain ⟨fd, dA, _⟩ := def_at F X G c he
    exact ⟨d, _, _, fd, by simp only [text, look_app he, Option.map_some], dA⟩
  · intro f hf
    have hf' : ((L.hfns.lookup f).isSome && (L.fns.lookup f).isNone) = true := hf
    rw [Bool.and_eq_true] at hf'
    obtain ⟨⟨d, i⟩, he⟩ := Option.isSome_iff_exists.mp hf'.1
    obtain ⟨fd, dA⟩ := hdef_at F X G c he
    exact ⟨d, _, _, fd, by simp only [text, look_app2 (Option.isNone_iff_eq_none.mp hf'.2) he, Option.map_some], dA⟩
  · intro g hg
    obtain ⟨d, he⟩ := Option.isSome_iff_exists.mp (show (L.cons.lookup g).isSome = true from hg)
    obtain ⟨u, v, h1, h2, h3⟩ := con_ok X G (List.all_eq_true.mp k3 _ (lookup_mem he))
    exact ⟨d, u, v, he, h1, h2, h3⟩
  · intro C hC _
    obtain ⟨e, he⟩ := Option.isSome_iff_exists.mp (show (L.exs.lookup C).isSome = true from hC)
    have hb := ex1 _ (lookup_mem he)
    unfold exB at hb
    simp only [Bool.and_eq_true] at hb
    exact glo_ok X G hb.1
  · intro C hC _ T hT
    obtain ⟨e, he⟩ := Option.isSome_iff_exists.mp (show (L.exs.lookup C).isSome = true from hC)
    exact of_decide_eq_true (List.all_eq_true.mp (List.all_eq_true.mp k6 _ (lookup_mem he)) T hT)
  · rintro Y _ Z ⟨C, k, q⟩
    cases q
end
end LT
theorem law_sp {T : Text} {ca : CA} {n N : Nat} (ht : ∀ ns : List Int, ns.length ≤ n → callN T N "law" false [.scr ns] 0 [] = .ok (.bl true) []) {K : PySem.W.Frag} (hK : ca.K = K) (H : Hp) (a : Addr) (ns : List Int) (hn : ns.length ≤ n) (hO : Only H) (hS : SqL K H a (ns.map V.int)) :
    spI ca (callN T N "law") [.ref a] H (fun v _ => v = .bl true) fun _ _ _ => False := by
  refine ⟨⟨ca, fun _ => False, none⟩, rfl, rfl, false, 0, [], [], [], [.scr ns], by simp, ⟨rfl, List.nodup_nil, by simp, by simp, by simp, fun a z => z.elim, by simp⟩, .cons (.scr ?_) .nil, ?_⟩
  · rcases hS with hS | hS
    · rcases hS with hS | ⟨o, hS⟩
      · rcases hO a with z | ⟨o, xs, z⟩
        · rw [z] at hS; cases hS
        · rw [z] at hS; cases hS
      · exact .inl ⟨o, hS, by simp, fun z => z⟩
    · refine .inr ?_
      subst hK
      exact hS
  · rw [ht ns hn]
    intro μ' H' v _ _ r
    cases r
    rfl
theorem no_cx {P : Program} {w : PySem.World} (H : Hp) (s : Shared) (e : Value) (s' : Shared) (h : L2.CX P w [] H s (fun _ _ _ => False) e s') : False := by
  obtain ⟨_, _, _, _, _, _, _, _, _, _, _, _, h⟩ := h
  exact h
theorem law_walk {l : PySem.W.OpenLaw} {q : Program} {loose : List Str} {XP : (Str → Option Value) → Heap → Prop} {d : DefRec} {L : LT} {N n m : Nat} {x : String} {dl : Fn} {il : Nat}
    (F : L.Fine) (hn : l.most = some n) (hn2 : n ≤ sizeLine) (hdf : d.params.defaults = []) (hname : d.name = nm "law") (hr : Room N callerA) (hl : L.fns.lookup "law" = some (dl, il)) (hps : (dl.names.map nm).take dl.np = [nm x])
    (ht : ∀ ns : List Int, ns.length ≤ n → callN L.text N "law" false [.scr ns] 0 [] = .ok (.bl true) []) :
    PySem.W.WalkO q loose XP (L.hook m).says l.row.toRowW d [] (fun f vs => PySem.call f vs) := by
  refine Att.attach_call hn hdf fun w s₀ s₁ mg mb fa o pm cd doc a vs ns G Y ho hd hcd hmg hobj hints hlen hg => ?_
  obtain ⟨K, KX, c⟩ := Y
  obtain ⟨fd, dA, hb⟩ := L.def_at F KX G.T.g c hl
  rw [hname] at hmg
  have e := hmg.symm.trans dA.mg
  cases e
  rw [hps] at hb
  refine law_call (CX := L2.CX l.prog w) (k := N) (sp := spI (LT.ca K) (callN L.text N "law")) KX G.T.g G.T.b G.T.builtins G.T.nolimit hg hobj hints (Nat.le_trans hlen hn2) hr (fun base _ _ => ?_) (fun s u => hb s [u] rfl) (fun H hO hS => law_sp ht rfl H a ns hlen hO hS) fun H e s' h => no_cx H s₁ e s' h
  have := fn_level (LT.text_ok (P := l.prog) (w := w) F KX G.T.g c base) N "law" (by show (L.fns.lookup "law").isSome = true; rw [hl]; rfl) dl _ _ fd (by show ((L.fns ++ L.hfns).lookup "law").map _ = _; rw [LT.look_app hl]; rfl) dA
  rw [hps] at this
  exact this
end CL
namespace CL
theorem call_eq {T : Text} {n : Nat} {f : String} {d : Fn} {g : Bool} {args : List D} {b : Nat} {S : Store} (hT : T.fns f = some d) (hl : args.length = d.np) : callN T (n + 1) f g args b S = runFn (ctxN T n) d g (d.start args) b S := by
  simp only [callN, callsN, hT, hl, if_true]
theorem forL_run {body : Env → Store → RS} {tg : Tg} {w : Walk} {S : Store} (P : Env → Prop) (hw : w.held = []) : ∀ {items : List D} {ρ : Env} {F : RS}, forL body tg w items ρ S = F → P ρ →
    (∀ d ∈ items, ∀ ρ, P ρ → ∃ ρ1 ρ2, asg tg d ρ = some ρ1 ∧ body ρ1 S = .ok (.nx ρ2) S ∧ P ρ2) → ∃ ρ', F = .ok (.nx ρ') S ∧ P ρ'
  | [], ρ, F, hF, hP, _ => by
    rw [← hF]
    refine ⟨ρ, ?_, hP⟩
    simp [forL, Walk.still, hw]
  | d :: ds, ρ, F, hF, hP, h => by
    obtain ⟨ρ1, ρ2, h1, h2, h3⟩ := h d List.mem_cons_self ρ hP
    have st : w.still S = true := by simp [Walk.still, hw]
    simp only [forL, st, if_true, h1, h2] at hF
    exact forL_run P hw hF h3 fun e he => h e (List.mem_cons_of_mem _ he)
theorem lcL_pure {f : D → Env → Store → R (Option D)} {w : Walk} {ρ : Env} {S : Store} (g : D → Option D) (hw : w.held = []) : ∀ {items : List D}, (∀ d ∈ items, f d ρ S = .ok (g d) S) → lcL f w ρ items S = .ok (items.filterMap g) S
  | [], _ => by simp [lcL, Walk.still, hw]
  | d :: ds, h => by
    have st : w.still S = true := by simp [Walk.still, hw]
    have ih := lcL_pure (f := f) (ρ := ρ) (S := S) g hw (items := ds) fun e he => h e (List.mem_cons_of_mem _ he)
    have h1 := h d List.mem_cons_self
    simp only [lcL, st, if_true, h1]
    cases hg : g d with
    | none => simp [ih, List.filterMap_cons, hg]
    | some x => simp [ih, List.filterMap_cons, hg]
theorem lcL_run {f : D → Env → Store → R (Option D)} {w : Walk} {ρ : Env} (P : Store → Prop) (Rx : D → Prop) (hw : w.held = []) : ∀ {items : List D} {S : Store}, P S →
    (∀ d ∈ items, ∀ S, P S → ∃ x S', f d ρ S = .ok (some x) S' ∧ P S' ∧ Rx x) → ∃ xs S', lcL f w ρ items S = .ok xs S' ∧ P S' ∧ (∀ x ∈ xs, Rx x) ∧ xs.length = items.length
  | [], S, hP, _ => ⟨[], S, by simp [lcL, Walk.still, hw], hP, by simp, rfl⟩
  | d :: ds, S, hP, h => by
    have st : w.still S = true := by simp [Walk.still, hw]
    obtain ⟨x, S', h1, h2, h3⟩ := h d List.mem_cons_self S hP
    obtain ⟨xs, S'', h4, h5, h6, h7⟩ := lcL_run (f := f) (ρ := ρ) P Rx hw (items := ds) h2 fun e he => h e (List.mem_cons_of_mem _ he)
    refine ⟨x :: xs, S'', by simp only [lcL, st, if_true, h1, h4], h5, ?_, by simp [h7]⟩
    intro y hy
    rcases List.mem_cons.mp hy with e | e
    · rw [e]; exact h3
    · exact h6 y e
theorem datL_strs {n : Nat} (hn : 0 < n) : ∀ ls : List (List Nat), D.datL n (ls.map .str) = true
  | [] => rfl
  | l :: ls => by simp [D.datL, D.dat, hn, datL_strs hn ls]
section
variable {c : Ctx} {b : Nat} {ρ : Env} {S : Store} {ss : Ss} {Q : RS → Prop}
theorem X_set {i : Nat} {e : E} (d : D) (S1 : Store) (h : ev c b e ρ S = .ok d S1) (k : Q (exs b ss c (ρ.set i (some d)) S1)) : Q (exs b (.cons (.set (.one i) e) ss) c ρ S) := by
  simp only [exs, exS, h, R.then, asg, RS.then]
  exact k
theorem X_ret {e : E} (d : D) (S1 : Store) (h : ev c b e ρ S = .ok d S1) (k : Q (.ok (.rt d) S1)) : Q (exs b (.cons (.ret e) ss) c ρ S) := by
  simp only [exs, exS, h, R.then, RS.then]
  exact k
theorem X_ex {e : E} (d : D) (S1 : Store) (h : ev c b e ρ S = .ok d S1) (k : Q (exs b ss c ρ S1)) : Q (exs b (.cons (.ex e) ss) c ρ S) := by
  simp only [exs, exS, h, R.then, RS.then]
  exact k
theorem X_ite {q : E} {xs ys : Ss} (d : D) (S1 : Store) (t : Bool) (h : ev c b q ρ S = .ok d S1) (ht : truD (vw S1 d) = some t) (k : Q ((exs b (if t then xs else ys) c ρ S1).then fun ρ1 S2 => exs b ss c ρ1 S2)) : Q (exs b (.cons (.ite q xs ys) ss) c ρ S) := by
  simp only [exs, exS, h, R.then, ht]
  cases t <;> exact k
theorem X_skip {q : E} {xs : Ss} (d : D) (S1 : Store) (h : ev c b q ρ S = .ok d S1) (ht : truD (vw S1 d) = some false) (k : Q (exs b ss c ρ S1)) : Q (exs b (.cons (.ite q xs .nil) ss) c ρ S) := by
  simp only [exs, exS, h, R.then, ht, RS.then]
  exact k
theorem X_stop {q e : E} {xs ys : Ss} (d : D) (S1 : Store) (r : D) (S2 : Store) (h : ev c b q ρ S = .ok d S1) (ht : truD (vw S1 d) = some true) (h2 : ev c b e ρ S1 = .ok r S2) (k : Q (.ok (.rt r) S2)) : Q (exs b (.cons (.ite q (.cons (.ret e) xs) ys) ss) c ρ S) := by
  simp only [exs, exS, h, R.then, ht, RS.then, h2]
  exact k
theorem X_yes {q : E} {xs ys : Ss} (d : D) (S1 : Store) (h : ev c b q ρ S = .ok d S1) (ht : truD (vw S1 d) = some true) {r : RS} (h2 : exs b xs c ρ S1 = r) (k : Q (r.then fun ρ1 S2 => exs b ss c ρ1 S2)) : Q (exs b (.cons (.ite q xs ys) ss) c ρ S) := by
  simp only [exs, exS, h, R.then, ht, h2]
  exact k
theorem X_for {tg : Tg} {it : It} {body : Ss} (w : Walk) (S1 : Store) (h : evIt c b it ρ S = .ok w S1) (k : Q ((forL (fun ρ S => exs b body c ρ S) tg w w.items ρ S1).then fun ρ1 S2 => exs b ss c ρ1 S2)) : Q (exs b (.cons (.for_ tg it body) ss) c ρ S) := by
  simp only [exs, exS, h, R.then]
  exact k
end
theorem forL_on {body : Env → Store → RS} {tg : Tg} {w : Walk} {S : Store} {Q : RS → Prop} (P : Env → Prop) (hw : w.held = []) {items : List D} {ρ : Env} (hP : P ρ)
    (h : ∀ d ∈ items, ∀ ρ, P ρ → ∃ ρ1 ρ2, asg tg d ρ = some ρ1 ∧ body ρ1 S = .ok (.nx ρ2) S ∧ P ρ2) (k : ∀ ρ', P ρ' → Q (.ok (.nx ρ') S)) : Q (forL body tg w items ρ S) := by
  obtain ⟨ρ', e, hp⟩ := forL_run P hw rfl hP h
  rw [e]
  exact k ρ' hp
def fnRes (keep give : Bool) (n : Nat) : RS → R D
  | .ok (.nx _) S' => fin keep give n S' .non
  | .ok (.rt d) S' => fin keep give n S' d
  | .err C ns ds _ S' => if keep then .err C ns ds S' else if D.limL n ds then .err C ns ds (S'.take n) else .bad
  | _ => .bad
theorem run_res {c : Ctx} {f : Fn} {give : Bool} {ρ : Env} {b : Nat} {S : Store} : runFn c f give ρ b S = fnRes f.keep give S.length (exs (if f.keep then b else S.length) f.body c ρ S) := by
  unfold runFn fnRes
  rfl
theorem call_by {T : Text} {n : Nat} {f : String} {d : Fn} {args : List D} {b : Nat} {S : Store} {r : R D} (hT : T.fns f = some d) (hl : args.length = d.np)
    (h : ∀ Q : RS → Prop, (∀ x, fnRes d.keep false S.length x = r → Q x) → Q (exs (if d.keep then b else S.length) d.body (ctxN T n) (d.start args) S)) : callN T (n + 1) f false args b S = r := by
  rw [call_eq hT hl, run_res]
  exact h (fun x => fnRes d.keep false S.length x = r) fun x e => e
theorem e_cmp {c : Ctx} {b : Nat} {o : CO} {x y : E} {ρ : Env} {S S1 S2 : Store} {d e : D} {t : Bool} (h1 : ev c b x ρ S = .ok d S1) (h2 : ev c b y ρ S1 = .ok e S2) (h3 : cmpD o (vw S2 d) (vw S2 e) = some t) : ev c b (.cmp o x y) ρ S = .ok (.bl t) S2 := by
  simp only [ev, h1, R.bind, h2, h3, R.of, Option.map_some]
theorem datL_signs {n : Nat} (hn : 0 < n) : ∀ l : List Nat, D.datL n (l.map fun ch => D.str [ch]) = true
  | [] => rfl
  | l :: ls => by simp [D.datL, D.dat, hn, datL_signs hn ls]
theorem eqv_nil (ds : List D) : D.eqv (.lst ds) (.lst []) = ds.isEmpty := by
  cases ds <;> simp [D.eqv, D.eqvL]
theorem ctx_call (T : Text) (n : Nat) (f : String) (g : Bool) (ds : List D) (b : Nat) (S : Store) : (ctxN T n).call f g ds b S = callN T n f g ds b S := rfl
theorem ctx_con (T : Text) (n : Nat) (g : String) : (ctxN T n).con g = T.con g := rfl
theorem cut_len {α : Type} (l : List α) (lo hi : Option Int) : (cutL l lo hi).length ≤ l.length := by
  unfold cutL
  dsimp only
  rw [List.length_take, List.length_drop]
  omega
theorem lim_of {n : Nat} (h : n ≤ 1000) : n ≤ LIM := by unfold LIM; omega
theorem eq_signs (S : Store) (l : List Nat) : cmpD .eq (vw S (.lst (l.map fun ch => D.str [ch]))) (vw S (.lst [])) = some l.isEmpty := by
  show eqD (.lst (l.map fun ch => D.str [ch])) (.lst []) = _
  have hd : D.dat dp (.lst (l.map fun ch => D.str [ch])) = true := by rw [D.dat]; exact datL_signs (by decide) _
  have h2 : D.dat dp (.lst []) = true := rfl
  unfold eqD
  rw [if_pos (by rw [hd, h2]; rfl), eqv_nil]
  cases l <;> rfl
theorem vw_bl (S : Store) (t : Bool) : vw S (.bl t) = .bl t := rfl
theorem bls_map {α : Type} (f : α → Bool) : ∀ l : List α, bls (l.map fun a => D.bl (f a)) = some (l.map f)
  | [] => rfl
  | a :: l => by simp [bls, bls_map f l]
theorem filterMap_map_some {α : Type} (f : α → D) (g : D → Option D) (h : α → D) (e : ∀ a, g (f a) = some (h a)) : ∀ l : List α, (l.map f).filterMap g = l.map h
  | [] => rfl
  | a :: l => by simp only [List.map_cons, List.filterMap_cons, e, filterMap_map_some f g h e l]
section
variable {c : Ctx} {b : Nat} {ρ : Env} {S S1 S2 S3 : Store}
theorem e_lc {elt : E} {tg : Tg} {it : It} {w : Walk} {ds : List D} (h1 : evIt c b it ρ S = .ok w S1) (h2 : w.items.length ≤ LIM) (h3 : lcL (lcF tg fun ρ S => ev c b elt ρ S) w (wipeE ρ tg.slots) w.items S1 = .ok ds S2) : ev c b (.lc elt tg it) ρ S = .ok (.lst ds) S2 := by
  have e : ev c b (.lc elt tg it) ρ S = (evIt c b it ρ S).bind fun w S1 => (lcR (lcF tg fun ρ S => ev c b elt ρ S) w (wipeE ρ tg.slots) S1).bind fun ds S2 => .ok (.lst ds) S2 := by
    simp only [ev]
    rfl
  rw [e, h1]
  simp only [R.bind, lcR, h2, if_true, h3]
theorem e_bm {m : MB} {x : E} {es : Es} {d r : D} {ds : List D} (h1 : ev c b x ρ S = .ok d S1) (hm : (mbId m (kindD (vw S1 d))).isSome = true) (h2 : evs c b es ρ S1 = .ok ds S2) (hk : kindD (vw S1 d) = kindD (vw S2 d)) (h3 : bmD m d ds b S2 = .ok r S3) : ev c b (.bm m x es) ρ S = .ok r S3 := by
  simp only [ev, h1, R.bind, hm, if_true, h2]
  rw [if_pos hk, h3]
theorem e_call {T : Text} {n : Nat} {f : String} {g : Bool} {es : Es} {ds : List D} {r : R D} (h1 : evs (ctxN T n) b es ρ S = .ok ds S1) (h2 : callN T n f g ds b S1 = r) : ev (ctxN T n) b (.call f g es) ρ S = r := by
  simp only [ev, h1, R.bind, ctx_call, h2]
theorem es_one {e : E} {d : D} (h : ev c b e ρ S = .ok d S1) : evs c b (.cons e .nil) ρ S = .ok [d] S1 := by
  simp only [evs, h, R.bind]
theorem e_idx {x y : E} {d e r : D} (h1 : ev c b x ρ S = .ok d S1) (h2 : ev c b y ρ S1 = .ok e S2) (h3 : idxD (vw S2 d) (vw S2 e) = some r) : ev c b (.idx x y) ρ S = .ok r S2 := by
  simp only [ev, h1, R.bind, h2, h3, R.of]
theorem e_bop {o : BO} {x y : E} {d e r : D} (h1 : ev c b x ρ S = .ok d S1) (h2 : ev c b y ρ S1 = .ok e S2) (h3 : bop o (vw S2 d) (vw S2 e) = some r) : ev c b (.bop o x y) ρ S = .ok r S2 := by
  simp only [ev, h1, R.bind, h2, h3, R.of]
theorem e_slHi {x y : E} {l : List Nat} {i : Int} (h1 : ev c b x ρ S = .ok (.str l) S1) (h2 : ev c b y ρ S1 = .ok (.int i) S2) (hl : l.length ≤ LIM) : ev c b (.slHi x y) ρ S = .ok (.str (cutL l none (some i))) S2 := by
  simp only [ev, h1, R.bind, h2, vw, slD, hl, if_true, R.of]
theorem e_slLo {x y : E} {l : List Nat} {i : Int} (h1 : ev c b x ρ S = .ok (.str l) S1) (h2 : ev c b y ρ S1 = .ok (.int i) S2) (hl : l.length ≤ LIM) : ev c b (.slLo x y) ρ S = .ok (.str (cutL l (some i) none)) S2 := by
  simp only [ev, h1, R.bind, h2, vw, slD, hl, if_true, R.of]
theorem e_cat {x y : E} {l m : List Nat} (h1 : ev c b x ρ S = .ok (.str l) S1) (h2 : ev c b y ρ S1 = .ok (.str m) S2) (hl : l.length + m.length ≤ LIM) : ev c b (.bop .add x y) ρ S = .ok (.str (l ++ m)) S2 :=
  e_bop h1 h2 (by
    have : catOk l.length m.length = true := decide_eq_true hl
    simp only [vw, bop, this, if_true])
theorem e_len {x : E} {l : List Nat} (h1 : ev c b x ρ S = .ok (.str l) S1) (hl : l.length ≤ LIM) : ev c b (.bi .len (.cons x .nil)) ρ S = .ok (.int (l.length : Int)) S1 := by
  simp only [ev, evs, h1, R.bind, List.map_cons, List.map_nil, vw, fbD, lenD, hl, if_true, Option.map_some, R.of]
end
theorem txts_ones : ∀ xs : List D, (∀ x ∈ xs, ∃ ch, x = .str [ch]) → ∃ ls, txts xs = some ls ∧ (∀ l ∈ ls, l.length = 1) ∧ ls.length = xs.length
  | [], _ => ⟨[], rfl, by simp, rfl⟩
  | x :: xs, h => by
    obtain ⟨ch, rfl⟩ := h x List.mem_cons_self
    obtain ⟨ls, h1, h2, h3⟩ := txts_ones xs fun y hy => h y (List.mem_cons_of_mem _ hy)
    exact ⟨[ch] :: ls, by simp [txts, h1], by simpa using h2, by simp [h3]⟩
theorem sum_ones : ∀ ls : List (List Nat), (∀ l ∈ ls, l.length = 1) → (ls.map List.length).sum = ls.length
  | [], _ => rfl
  | l :: ls, h => by
    have := sum_ones ls fun y hy => h y (List.mem_cons_of_mem _ hy)
    simp [h l List.mem_cons_self, this]; omega
theorem join_ones_len (ls : List (List Nat)) (h : ∀ l ∈ ls, l.length = 1) : ∃ l, tD (PySem.Txt.join (sT []) (ls.map sT)) = .str l ∧ l.length = ls.length := by
  refine ⟨_, rfl, ?_⟩
  have e : sT [] = PySem.Str.ofString "" := by decide +kernel
  rw [e]
  have := PySem.W.KT.join_ones (ls.map sT) fun a ha => by
    obtain ⟨l, hl, rfl⟩ := List.mem_map.mp ha
    rw [show (sT l).length = l.length from str_len l]
    exact h l hl
  rw [List.length_map] at this
  rw [← this]
  simp [PySem.Str.length]
theorem forL_st {body : Env → Store → RS} {tg : Tg} {w : Walk} {Q : RS → Prop} (P : Env → Store → Prop) (hw : w.held = []) : ∀ {items : List D} {ρ : Env} {S : Store}, P ρ S →
    (∀ d ∈ items, ∀ ρ S, P ρ S → ∃ ρ1, asg tg d ρ = some ρ1 ∧ ∃ ρ2 S2, body ρ1 S = .ok (.nx ρ2) S2 ∧ P ρ2 S2) → (∀ ρ' S', P ρ' S' → Q (.ok (.nx ρ') S')) → Q (forL body tg w items ρ S)
  | [], ρ, S, hP, _, k => by
    have st : w.still S = true := by simp [Walk.still, hw]
    simp only [forL, st, if_true]
    exact k ρ S hP
  | d :: ds, ρ, S, hP, h, k => by
    have st : w.still S = true := by simp [Walk.still, hw]
    obtain ⟨ρ1, h1, ρ2, S2, h2, h3⟩ := h d List.mem_cons_self ρ S hP
    simp only [forL, st, if_true, h1, h2]
    exact forL_st P hw h3 (fun e he => h e (List.mem_cons_of_mem _ he)) k
theorem ranges_one {n : Int} (h1 : -10000000 ≤ n) (h2 : n ≤ 10000000) : ranges [.int n] = some ((List.range n.toNat).map fun (k : Nat) => .int k) := by
  unfold ranges
  exact if_pos ⟨h1, h2⟩
theorem it_range1 {c : Ctx} {b : Nat} {ρ : Env} {S S1 : Store} {es : Es} {n : Int} (h : evs c b es ρ S = .ok [.int n] S1) (h1 : -10000000 ≤ n) (h2 : n ≤ 10000000) : evIt c b (.range es) ρ S = .ok ⟨(List.range n.toNat).map fun (k : Nat) => .int k, []⟩ S1 := by
  simp only [evIt, h, R.bind, ranges_one h1 h2, Option.map_some, R.of]
end CL
namespace CL
def P_is_name : Fn := { np := 1, names := ["thing", "sign"], body := (.cons (.ite (.or (.cons (.not (.isi (.var 0) ["str"] false)) (.cons (.not (.chain .le .le (.int 1) (.bi .len (.cons (.var 0) .nil)) (.gcon "MOST_SIGNS"))) .nil))) (.cons (.ret (.bl false)) .nil) .nil) (.cons (.ite (.or (.cons (.cmp .eq (.var 0) (.str [111, 117, 116])) (.cons (.cmp .eq (.var 0) (.str [121, 97, 114, 100])) .nil))) (.cons (.ret (.bl false)) .nil) .nil) (.cons (.ret (.cmp .eq (.lcIf (.var 1) (.one 1) (.val (.var 0)) (.cmp .notIn (.var 1) (.gcon "LETTERS"))) (.lst .nil))) .nil))), keep := false }
def P_is_whole : Fn := { np := 1, names := ["thing"], body := (.cons (.ret (.and (.cons (.isi (.var 0) ["int"] false) (.cons (.not (.isi (.var 0) ["bool"] false)) .nil)))) .nil), keep := false }
def P_is_bound : Fn := { np := 1, names := ["thing"], body := (.cons (.ret (.and (.cons (.call "is_whole" false (.cons (.var 0) .nil)) (.cons (.chain .le .le (.int 1) (.var 0) (.gcon "MOST_BOUND")) .nil)))) .nil), keep := false }
def P_is_row_of : Fn := { np := 2, names := ["thing", "many"], body := (.cons (.ret (.and (.cons (.isi (.var 0) ["tuple"] false) (.cons (.cmp .eq (.bi .len (.cons (.var 0) .nil)) (.var 1)) (.cons (.call "is_name" false (.cons (.idx (.var 0) (.int 0)) .nil)) .nil))))) .nil), keep := false }
def P_all_unlike : Fn := { np := 1, names := ["names"], body := (.cons (.ret (.cmp .eq (.lset (.var 0)) (.bi .len (.cons (.var 0) .nil)))) .nil), keep := false }
def P_are_lanes : Fn := { np := 1, names := ["thing", "lane"], body := (.cons (.ite (.or (.cons (.not (.isi (.var 0) ["tuple"] false)) (.cons (.not (.chain .le .le (.int 1) (.bi .len (.cons (.var 0) .nil)) (.gcon "MOST_LANES"))) .nil))) (.cons (.ret (.bl false)) .nil) .nil) (.cons (.for_ (.one 1) (.val (.var 0)) (.cons (.ite (.or (.cons (.not (.call "is_row_of" false (.cons (.var 1) (.cons (.int 2) .nil)))) (.cons (.not (.call "is_bound" false (.cons (.idx (.var 1) (.int 1)) .nil))) .nil))) (.cons (.ret (.bl false)) .nil) .nil) .nil)) (.cons (.ret (.call "all_unlike" false (.cons (.lc (.idx (.var 1) (.int 0)) (.one 1) (.val (.var 0))) .nil))) .nil))), keep := false }
def P_is_way : Fn := { np := 2, names := ["thing", "many", "last", "lane"], body := (.cons (.ite (.or (.cons (.not (.isi (.var 0) ["tuple"] false)) (.cons (.cmp .eq (.bi .len (.cons (.var 0) .nil)) (.int 0)) .nil))) (.cons (.ret (.bl false)) .nil) .nil) (.cons (.set (.one 2) (.neg (.int 1))) (.cons (.for_ (.one 3) (.val (.var 0)) (.cons (.ite (.or (.cons (.not (.call "is_whole" false (.cons (.var 3) .nil))) (.cons (.not (.chain .lt .lt (.var 2) (.var 3) (.var 1))) .nil))) (.cons (.ret (.bl false)) .nil) .nil) (.cons (.set (.one 2) (.var 3)) .nil))) (.cons (.ret (.bl true)) .nil)))), keep := false }
def P_are_kinds : Fn := { np := 2, names := ["thing", "many", "kind", "bound"], body := (.cons (.ite (.or (.cons (.not (.isi (.var 0) ["tuple"] false)) (.cons (.not (.chain .le .le (.int 1) (.bi .len (.cons (.var 0) .nil)) (.gcon "MOST_LANES"))) .nil))) (.cons (.ret (.bl false)) .nil) .nil) (.cons (.for_ (.one 2) (.val (.var 0)) (.cons (.ite (.or (.cons (.not (.call "is_row_of" false (.cons (.var 2) (.cons (.int 3) .nil)))) (.cons (.not (.call "is_way" false (.cons (.idx (.var 2) (.int 1)) (.cons (.var 1) .nil)))) .nil))) (.cons (.ret (.bl false)) .nil) .nil) (.cons (.ite (.or (.cons (.not (.isi (.idx (.var 2) (.int 2)) ["tuple"] false)) (.cons (.cmp .ne (.bi .len (.cons (.idx (.var 2) (.int 2)) .nil)) (.bi .len (.cons (.idx (.var 2) (.int 1)) .nil))) .nil))) (.cons (.ret (.bl false)) .nil) .nil) (.cons (.ite (.not (.bi .all (.cons (.lc (.call "is_bound" false (.cons (.var 3) .nil)) (.one 3) (.val (.idx (.var 2) (.int 2)))) .nil))) (.cons (.ret (.bl false)) .nil) .nil) .nil)))) (.cons (.ret (.call "all_unlike" false (.cons (.lc (.idx (.var 2) (.int 0)) (.one 2) (.val (.var 0))) .nil))) .nil))), keep := false }
def P_is_plan : Fn := { np := 1, names := ["thing"], body := (.cons (.ite (.or (.cons (.not (.isi (.var 0) ["tuple"] false)) (.cons (.cmp .ne (.bi .len (.cons (.var 0) .nil)) (.int 2)) .nil))) (.cons (.ret (.bl false)) .nil) .nil) (.cons (.ret (.and (.cons (.call "are_lanes" false (.cons (.idx (.var 0) (.int 0)) .nil)) (.cons (.call "are_kinds" false (.cons (.idx (.var 0) (.int 1)) (.cons (.bi .len (.cons (.idx (.var 0) (.int 0)) .nil)) .nil))) .nil)))) .nil)), keep := false }
def P_lane_number : Fn := { np := 2, names := ["plan", "name", "number", "lane"], body := (.cons (.for_ (.many [2, 3]) (.enum (.idx (.var 0) (.int 0))) (.cons (.ite (.cmp .eq (.idx (.var 3) (.int 0)) (.var 1)) (.cons (.ret (.var 2)) .nil) .nil) .nil)) (.cons (.raise "NoLane" (.cons (.var 1) .nil)) .nil)), keep := false }
def P_kind_of : Fn := { np := 2, names := ["plan", "name", "kind"], body := (.cons (.for_ (.one 2) (.val (.idx (.var 0) (.int 1))) (.cons (.ite (.cmp .eq (.idx (.var 2) (.int 0)) (.var 1)) (.cons (.ret (.var 2)) .nil) .nil) .nil)) (.cons (.raise "NoKind" (.cons (.var 1) .nil)) .nil)), keep := false }
def P_way_of : Fn := { np := 2, names := ["plan", "kind"], body := (.cons (.ret (.idx (.call "kind_of" false (.cons (.var 0) (.cons (.var 1) .nil))) (.int 1))) .nil), keep := false }
end CL
namespace CL
def Ulaw_digits : Fn := { np := 2, names := ["_law_script", "_law_k", "_law_cell", "_law_total", "_law_number", "_law_turn"], body := (.cons (.set (.one 2) (.ife (.cmp .lt (.var 1) (.bi .len (.cons (.var 0) .nil))) (.idx (.var 0) (.var 1)) (.int 0))) (.cons (.ite (.cmp .ge (.var 2) (.bop .pow (.int 10) (.int 18))) (.cons (.ret (.newl (.cons (.bop .sub (.var 2) (.bop .pow (.int 10) (.int 18))) .nil))) .nil) .nil) (.cons (.set (.one 3) (.int 0)) (.cons (.set (.one 4) (.bop .mod (.bop .add (.bop .add (.bop .mul (.var 2) (.int 48271)) (.bop .mul (.int 7919) (.var 1))) (.int 11)) (.int 2147483647))) (.cons (.for_ (.one 5) (.range (.cons (.int 12) .nil)) (.cons (.set (.one 4) (.bop .mod (.bop .add (.bop .add (.bop .mul (.var 4) (.var 4)) (.bop .mul (.int 48271) (.var 4))) (.var 5)) (.int 2147483629))) (.cons (.set (.one 3) (.bop .add (.bop .mul (.var 3) (.int 2147483587)) (.bop .mod (.bop .mul (.var 4) (.int 69621)) (.int 2147483587)))) .nil))) (.cons (.ret (.newl (.cons (.var 3) .nil))) .nil)))))), keep := true }
def Ulaw_take : Fn := { np := 2, names := ["_law_held", "_law_many", "_law_found"], body := (.cons (.set (.one 2) (.bop .mod (.idx (.var 0) (.int 0)) (.var 1))) (.cons (.setIdx (.var 0) (.int 0) (.bop .fdiv (.idx (.var 0) (.int 0)) (.var 1))) (.cons (.ret (.var 2)) .nil))), keep := false }
def Ulaw_words : Fn := { np := 2, names := ["_law_held", "_law_many", "_law_letters", "_law_word", "_law_at", "_law_start", "_law_signs", "_law_ahead", "_law_behind", "_law_turned", "_law_found", "_law_sign", "_law_k", "_law_one"], body := (.cons (.set (.one 2) (.str [97, 98, 99, 100, 101, 102, 103, 104, 105, 106, 107, 108, 109])) (.cons (.set (.one 3) (.bm .join (.str []) (.cons (.lc (.idx (.var 2) (.call "_law_take" false (.cons (.var 0) (.cons (.int 13) .nil)))) (.one 12) (.range (.cons (.bop .add (.int 1) (.call "_law_take" false (.cons (.var 0) (.cons (.int 7) .nil)))) .nil))) .nil))) (.cons (.set (.one 4) (.call "_law_take" false (.cons (.var 0) (.cons (.bi .len (.cons (.var 3) .nil)) .nil)))) (.cons (.set (.one 5) (.call "_law_take" false (.cons (.var 0) (.cons (.int 26) .nil)))) (.cons (.set (.one 6) (.str [97, 98, 99, 100, 101, 102, 103, 104, 105, 106, 107, 108, 109, 110, 111, 112, 113, 114, 115, 116, 117, 118, 119, 120, 121, 122])) (.cons (.set (.one 7) (.slHi (.var 3) (.var 4))) (.cons (.set (.one 8) (.slLo (.var 3) (.bop .add (.var 4) (.int 1)))) (.cons (.set (.one 9) (.bop .add (.slLo (.var 6) (.var 5)) (.slHi (.var 6) (.var 5)))) (.cons (.set (.one 10) (.lc (.bop .add (.bop .add (.var 7) (.var 11)) (.var 8)) (.one 11) (.val (.var 9)))) (.cons (.ret (.slHi (.bop .add (.var 10) (.lc (.bop .add (.var 13) (.str [122])) (.one 13) (.val (.var 10)))) (.var 1))) .nil)))))))))), keep := false }
def Ulaw_bound : Fn := { np := 1, names := ["_law_held"], body := (.cons (.ret (.idx (.lst (.cons (.int 1) (.cons (.int 1) (.cons (.int 2) (.cons (.int 2) (.cons (.int 3) (.cons (.int 5) (.cons (.int 99) (.cons (.bop .add (.int 1) (.call "_law_take" false (.cons (.var 0) (.cons (.int 99) .nil)))) .nil))))))))) (.call "_law_take" false (.cons (.var 0) (.cons (.int 8) .nil))))) .nil), keep := false }
def Ulaw_plan : Fn := { np := 1, names := ["_law_held", "_law_names", "_law_lanes", "_law_k", "_law_shift", "_law_kinds", "_law_way", "_law_bounds", "_law_lane"], body := (.cons (.set (.one 1) (.call "_law_words" false (.cons (.var 0) (.cons (.int 12) .nil)))) (.cons (.set (.one 2) (.newl .nil)) (.cons (.for_ (.one 3) (.range (.cons (.bop .add (.int 1) (.call "_law_take" false (.cons (.var 0) (.cons (.int 6) .nil)))) .nil)) (.cons (.ex (.bm .append (.var 2) (.cons (.tup (.cons (.idx (.var 1) (.var 3)) (.cons (.call "_law_bound" false (.cons (.var 0) .nil)) .nil))) .nil))) .nil)) (.cons (.set (.one 4) (.call "_law_take" false (.cons (.var 0) (.cons (.int 7) .nil)))) (.cons (.set (.one 5) (.newl .nil)) (.cons (.for_ (.one 3) (.range (.cons (.bop .add (.int 1) (.call "_law_take" false (.cons (.var 0) (.cons (.int 6) .nil)))) .nil)) (.cons (.set (.one 6) (.lcIf (.var 8) (.one 8) (.range (.cons (.bi .len (.cons (.var 2) .nil)) .nil)) (.cmp .gt (.call "_law_take" false (.cons (.var 0) (.cons (.int 3) .nil))) (.int 0)))) (.cons (.ite (.cmp .eq (.var 6) (.lst .nil)) (.cons (.set (.one 6) (.lst (.cons (.call "_law_take" false (.cons (.var 0) (.cons (.bi .len (.cons (.var 2) .nil)) .nil))) .nil))) .nil) .nil) (.cons (.set (.one 7) (.bi .tuple (.cons (.lc (.call "_law_bound" false (.cons (.var 0) .nil)) (.one 8) (.val (.var 6))) .nil))) (.cons (.ex (.bm .append (.var 5) (.cons (.tup (.cons (.idx (.var 1) (.bop .add (.var 3) (.var 4))) (.cons (.bi .wtuple (.cons (.var 6) .nil)) (.cons (.var 7) .nil)))) .nil))) .nil))))) (.cons (.ret (.tup (.cons (.bi .tuple (.cons (.var 2) .nil)) (.cons (.bi .tuple (.cons (.var 5) .nil)) .nil)))) .nil))))))), keep := false }
end CL
namespace CL
open PySem PySem.Spec PyProof.Rows L2
section
variable {c : Ctx} {b : Nat} {ρ : Env} {S S1 : Store} {d e : D}
@[simp] theorem vw_str (S : Store) (l : List Nat) : vw S (.str l) = .str l := (rfl)
@[simp] theorem vw_int (S : Store) (i : Int) : vw S (.int i) = .int i := (rfl)
@[simp] theorem vw_bool (S : Store) (t : Bool) : vw S (.bl t) = .bl t := (rfl)
@[simp] theorem vw_tup (S : Store) (ds : List D) : vw S (.tup ds) = .tup ds := (rfl)
@[simp] theorem vw_lst (S : Store) (ds : List D) : vw S (.lst ds) = .lst ds := (rfl)
@[simp] theorem vw_way (S : Store) (ds : List D) : vw S (.way ds) = .way ds := (rfl)
@[simp] theorem vw_non (S : Store) : vw S .non = .non := (rfl)
@[simp] theorem vw_scr (S : Store) (ns : List Int) : vw S (.scr ns) = .scr ns := (rfl)
@[simp] theorem of_some {α : Type} (S : Store) (a : α) : R.of S (some a) = .ok a S := (rfl)
@[simp] theorem rbind_ok {α β : Type} (a : α) (S : Store) (f : α → Store → R β) : (R.ok a S).bind f = f a S := (rfl)
@[simp] theorem rbind_err {α β : Type} (C : String) (ns : List String) (ds : List D) (S : Store) (f : α → Store → R β) : (R.err C ns ds S).bind f = .err C ns ds S := (rfl)
@[simp] theorem beq_cast (m n : Nat) : ((m : Int) == (n : Int)) = (m == n) := by
  rw [Bool.eq_iff_iff, beq_iff_eq, beq_iff_eq]
  omega
def kv2 (d : D) (r : R D) (k : Store → D → D → R D) : R D := r.bind fun e S2 => k S2 d e
def ev2 (r : R D) (c : Ctx) (b : Nat) (y : E) (ρ : Env) (k : Store → D → D → R D) : R D := r.bind fun d S1 => kv2 d (ev c b y ρ S1) k
@[simp] theorem kv2_ok (d e : D) (S : Store) (k : Store → D → D → R D) : kv2 d (.ok e S) k = k S d e := (rfl)
@[simp] theorem kv2_err (d : D) (C : String) (ns : List String) (ds : List D) (S : Store) (k : Store → D → D → R D) : kv2 d (.err C ns ds S) k = .err C ns ds S := (rfl)
@[simp] theorem ev2_ok (d : D) (S : Store) (c : Ctx) (b : Nat) (y : E) (ρ : Env) (k : Store → D → D → R D) : ev2 (.ok d S) c b y ρ k = kv2 d (ev c b y ρ S) k := (rfl)
@[simp] theorem ev2_err (C : String) (ns : List String) (ds : List D) (S : Store) (c : Ctx) (b : Nat) (y : E) (ρ : Env) (k : Store → D → D → R D) : ev2 (.err C ns ds S) c b y ρ k = .err C ns ds S := (rfl)
def kbop (o : BO) (S : Store) (d e : D) : R D := R.of S (bop o (vw S d) (vw S e))
def kcmp (o : CO) (S : Store) (d e : D) : R D := R.of S ((cmpD o (vw S d) (vw S e)).map .bl)
def kidx (S : Store) (d e : D) : R D := R.of S (idxD (vw S d) (vw S e))
def kslo (S : Store) (d e : D) : R D := match e with | .int i => R.of S (slD (some i) none (vw S d)) | _ => .bad
def kshi (S : Store) (d e : D) : R D := match e with | .int i => R.of S (slD none (some i) (vw S d)) | _ => .bad
def kncat (S : Store) (d e : D) : R D := match bop .add (vw S d) (vw S e) with | some (.lst ds) => .ok (.ref S.length) (S ++ [.lst ds]) | _ => .bad
@[simp] theorem kbop_eq (o : BO) (S : Store) (d e : D) : kbop o S d e = R.of S (bop o (vw S d) (vw S e)) := (rfl)
@[simp] theorem kcmp_eq (o : CO) (S : Store) (d e : D) : kcmp o S d e = R.of S ((cmpD o (vw S d) (vw S e)).map .bl) := (rfl)
@[simp] theorem kidx_eq (S : Store) (d e : D) : kidx S d e = R.of S (idxD (vw S d) (vw S e)) := (rfl)
@[simp] theorem kslo_eq (S : Store) (d : D) (i : Int) : kslo S d (.int i) = R.of S (slD (some i) none (vw S d)) := (rfl)
@[simp] theorem kshi_eq (S : Store) (d : D) (i : Int) : kshi S d (.int i) = R.of S (slD none (some i) (vw S d)) := (rfl)
@[simp] theorem ev_bop (o : BO) (x y : E) : ev c b (.bop o x y) ρ S = ev2 (ev c b x ρ S) c b y ρ (kbop o) := by simp only [ev]; rfl
@[simp] theorem ev_cmp (o : CO) (x y : E) : ev c b (.cmp o x y) ρ S = ev2 (ev c b x ρ S) c b y ρ (kcmp o) := by simp only [ev]; rfl
@[simp] theorem ev_idx (x y : E) : ev c b (.idx x y) ρ S = ev2 (ev c b x ρ S) c b y ρ kidx := by simp only [ev]; rfl
@[simp] theorem ev_slLo (x y : E) : ev c b (.slLo x y) ρ S = ev2 (ev c b x ρ S) c b y ρ kslo := by simp only [ev]; rfl
@[simp] theorem ev_slHi (x y : E) : ev c b (.slHi x y) ρ S = ev2 (ev c b x ρ S) c b y ρ kshi := by simp only [ev]; rfl
@[simp] theorem ev_ncat (x y : E) : ev c b (.ncat x y) ρ S = ev2 (ev c b x ρ S) c b y ρ kncat := by simp only [ev]; rfl
def ev1 (r : R D) (k : Store → D → R D) : R D := r.bind fun d S1 => k S1 d
@[simp] theorem ev1_ok (d : D) (S : Store) (k : Store → D → R D) : ev1 (.ok d S) k = k S d := (rfl)
@[simp] theorem ev1_err (C : String) (ns : List String) (ds : List D) (S : Store) (k : Store → D → R D) : ev1 (.err C ns ds S) k = .err C ns ds S := (rfl)
def kneg (S : Store) (d : D) : R D := match d with | .int i => .ok (.int (-i)) S | _ => .bad
def knot (S : Store) (d : D) : R D := R.of S ((truD (vw S d)).map fun k => .bl (!k))
def kisi (c : Ctx) (cs : List String) (S : Store) (d : D) : R D := R.of S ((isaAny c (vw S d) cs).map .bl)
def klset (S : Store) (d : D) : R D := R.of S (lsetD (vw S d))
def ksset (S : Store) (d : D) : R D := R.of S (ssetD (vw S d))
def ksall (S : Store) (d : D) : R D := R.of S (slD none none (vw S d))
def knlist (S : Store) (d : D) : R D := match seqD (vw S d) with | some ds => .ok (.ref S.length) (S ++ [.lst ds]) | none => .bad
@[simp] theorem kneg_eq (S : Store) (i : Int) : kneg S (.int i) = .ok (.int (-i)) S := (rfl)
@[simp] theorem knot_eq (S : Store) (d : D) : knot S d = R.of S ((truD (vw S d)).map fun k => .bl (!k)) := (rfl)
@[simp] theorem kisi_eq (c : Ctx) (cs : List String) (S : Store) (d : D) : kisi c cs S d = R.of S ((isaAny c (vw S d) cs).map .bl) := (rfl)
@[simp] theorem klset_eq (S : Store) (d : D) : klset S d = R.of S (lsetD (vw S d)) := (rfl)
@[simp] theorem ksset_eq (S : Store) (d : D) : ksset S d = R.of S (ssetD (vw S d)) := (rfl)
@[simp] theorem ksall_eq (S : Store) (d : D) : ksall S d = R.of S (slD none none (vw S d)) := (rfl)
@[simp] theorem ev_neg (x : E) : ev c b (.neg x) ρ S = ev1 (ev c b x ρ S) kneg := by simp only [ev]; rfl
@[simp] theorem ev_not (x : E) : ev c b (.not x) ρ S = ev1 (ev c b x ρ S) knot := by simp only [ev]; rfl
@[simp] theorem ev_isi (x : E) (cs : List String) (t : Bool) : ev c b (.isi x cs t) ρ S = ev1 (ev c b x ρ S) (kisi c cs) := by simp only [ev]; rfl
@[simp] theorem ev_lset (x : E) : ev c b (.lset x) ρ S = ev1 (ev c b x ρ S) klset := by simp only [ev]; rfl
@[simp] theorem ev_sset (x : E) : ev c b (.sset x) ρ S = ev1 (ev c b x ρ S) ksset := by simp only [ev]; rfl
@[simp] theorem ev_slAll (x : E) : ev c b (.slAll x) ρ S = ev1 (ev c b x ρ S) ksall := by simp only [ev]; rfl
@[simp] theorem ev_nlist (x : E) : ev c b (.nlist x) ρ S = ev1 (ev c b x ρ S) knlist := by simp only [ev]; rfl
@[simp] theorem ev_non : ev c b .non ρ S = .ok .non S := by simp only [ev]
@[simp] theorem ev_bl (t : Bool) : ev c b (.bl t) ρ S = .ok (.bl t) S := by simp only [ev]
@[simp] theorem ev_int (i : Int) : ev c b (.int i) ρ S = .ok (.int i) S := by simp only [ev]
@[simp] theorem ev_str (l : List Nat) : ev c b (.str l) ρ S = .ok (.str l) S := by simp only [ev]
@[simp] theorem ev_gcon (x : String) : ev c b (.gcon x) ρ S = R.of S (c.con x) := by simp only [ev]
@[simp] theorem ctxN_con (T : Text) (n : Nat) (g : String) : (ctxN T n).con g = T.con g := (rfl)
@[simp] theorem ctxN_call (T : Text) (n : Nat) (f : String) (g : Bool) (ds : List D) (b : Nat) (S : Store) : (ctxN T n).call f g ds b S = callN T n f g ds b S := (rfl)
def slotR (S : Store) : Option (Option D) → R D
  | some (some d) => .ok d S
  | _ => .bad
@[simp] theorem slotR_ok (S : Store) (d : D) : slotR S (some (some d)) = .ok d S := (rfl)
@[simp] theorem ev_var (i : Nat) : ev c b (.var i) ρ S = slotR S ρ[i]? := by
  simp only [ev]
  cases ρ[i]? with
  | none => rfl
  | some o => cases o <;> rfl
def cons2 (d : D) (r : R (List D)) : R (List D) := r.bind fun ds S2 => .ok (d :: ds) S2
def cons1 (r : R D) (c : Ctx) (b : Nat) (es : Es) (ρ : Env) : R (List D) := r.bind fun d S1 => cons2 d (evs c b es ρ S1)
@[simp] theorem cons2_ok (d : D) (ds : List D) (S : Store) : cons2 d (.ok ds S) = .ok (d :: ds) S := (rfl)
@[simp] theorem cons1_ok (d : D) (S : Store) (c : Ctx) (b : Nat) (es : Es) (ρ : Env) : cons1 (.ok d S) c b es ρ = cons2 d (evs c b es ρ S) := (rfl)
@[simp] theorem cons2_err (d : D) (C : String) (ns : List String) (ds : List D) (S : Store) : cons2 d (.err C ns ds S) = .err C ns ds S := (rfl)
@[simp] theorem cons1_err (C : String) (ns : List String) (ds : List D) (S : Store) (c : Ctx) (b : Nat) (es : Es) (ρ : Env) : cons1 (.err C ns ds S) c b es ρ = .err C ns ds S := (rfl)
@[simp] theorem evs_nil : evs c b .nil ρ S = .ok [] S := by simp only [evs]
@[simp] theorem evs_cons (e : E) (es : Es) : evs c b (.cons e es) ρ S = cons1 (ev c b e ρ S) c b es ρ := by simp only [evs]; rfl
def evk (r : R (List D)) (k : Store → List D → R D) : R D := r.bind fun ds S1 => k S1 ds
@[simp] theorem evk_ok (ds : List D) (S : Store) (k : Store → List D → R D) : evk (.ok ds S) k = k S ds := (rfl)
@[simp] theorem evk_err (C : String) (ns : List String) (ds : List D) (S : Store) (k : Store → List D → R D) : evk (.err C ns ds S) k = .err C ns ds S := (rfl)
def ktup (S : Store) (ds : List D) : R D := .ok (.tup ds) S
def klst (S : Store) (ds : List D) : R D := .ok (.lst ds) S
def knewl (S : Store) (ds : List D) : R D := .ok (.ref S.length) (S ++ [.lst ds])
def kbi (f : FB) (S : Store) (ds : List D) : R D := R.of S (fbD f (ds.map (vw S)))
def kcall (c : Ctx) (b : Nat) (f : String) (g : Bool) (S : Store) (ds : List D) : R D := c.call f g ds b S
@[simp] theorem ktup_eq (S : Store) (ds : List D) : ktup S ds = .ok (.tup ds) S := (rfl)
@[simp] theorem klst_eq (S : Store) (ds : List D) : klst S ds = .ok (.lst ds) S := (rfl)
@[simp] theorem knewl_eq (S : Store) (ds : List D) : knewl S ds = .ok (.ref S.length) (S ++ [.lst ds]) := (rfl)
@[simp] theorem kbi_eq (f : FB) (S : Store) (ds : List D) : kbi f S ds = R.of S (fbD f (ds.map (vw S))) := (rfl)
@[simp] theorem kcall_eq (T : Text) (n b : Nat) (f : String) (g : Bool) (S : Store) (ds : List D) : kcall (ctxN T n) b f g S ds = callN T n f g ds b S := (rfl)
@[simp] theorem ev_tup (es : Es) : ev c b (.tup es) ρ S = evk (evs c b es ρ S) ktup := by simp only [ev]; rfl
@[simp] theorem ev_lst (es : Es) : ev c b (.lst es) ρ S = evk (evs c b es ρ S) klst := by simp only [ev]; rfl
@[simp] theorem ev_newl (es : Es) : ev c b (.newl es) ρ S = evk (evs c b es ρ S) knewl := by simp only [ev]; rfl
@[simp] theorem ev_bi (f : FB) (es : Es) : ev c b (.bi f es) ρ S = evk (evs c b es ρ S) (kbi f) := by simp only [ev]; rfl
@[simp] theorem ev_call (f : String) (g : Bool) (es : Es) : ev c b (.call f g es) ρ S = evk (evs c b es ρ S) (kcall c b f g) := by simp only [ev]; rfl
def ifeB (t : Option Bool) (c : Ctx) (b : Nat) (x y : E) (ρ : Env) (S : Store) : R D := match t with
  | some true => ev c b x ρ S
  | some false => ev c b y ρ S
  | none => .bad
def ifeR (r : R D) (c : Ctx) (b : Nat) (x y : E) (ρ : Env) : R D := r.bind fun d S1 => ifeB (truD (vw S1 d)) c b x y ρ S1
@[simp] theorem ifeR_ok (d : D) (S : Store) (c : Ctx) (b : Nat) (x y : E) (ρ : Env) : ifeR (.ok d S) c b x y ρ = ifeB (truD (vw S d)) c b x y ρ S := (rfl)
@[simp] theorem ifeB_t (c : Ctx) (b : Nat) (x y : E) (ρ : Env) (S : Store) : ifeB (some true) c b x y ρ S = ev c b x ρ S := (rfl)
@[simp] theorem ifeB_f (c : Ctx) (b : Nat) (x y : E) (ρ : Env) (S : Store) : ifeB (some false) c b x y ρ S = ev c b y ρ S := (rfl)
@[simp] theorem ev_ife (q x y : E) : ev c b (.ife q x y) ρ S = ifeR (ev c b q ρ S) c b x y ρ := by simp only [ev]; rfl
def andB (t : Option Bool) (d : D) (c : Ctx) (b : Nat) (es : Es) (ρ : Env) (S : Store) : R D := match t with
  | some true => evAnd c b es ρ S
  | some false => .ok d S
  | none => .bad
def andR (r : R D) (c : Ctx) (b : Nat) (es : Es) (ρ : Env) : R D := r.bind fun d S1 => andB (truD (vw S1 d)) d c b es ρ S1
@[simp] theorem andR_ok (d : D) (S : Store) (c : Ctx) (b : Nat) (es : Es) (ρ : Env) : andR (.ok d S) c b es ρ = andB (truD (vw S d)) d c b es ρ S := (rfl)
@[simp] theorem andR_err (C : String) (ns : List String) (ds : List D) (S : Store) (c : Ctx) (b : Nat) (es : Es) (ρ : Env) : andR (.err C ns ds S) c b es ρ = .err C ns ds S := (rfl)
@[simp] theorem andB_t (d : D) (c : Ctx) (b : Nat) (es : Es) (ρ : Env) (S : Store) : andB (some true) d c b es ρ S = evAnd c b es ρ S := (rfl)
@[simp] theorem andB_f (d : D) (c : Ctx) (b : Nat) (es : Es) (ρ : Env) (S : Store) : andB (some false) d c b es ρ S = .ok d S := (rfl)
def orB (t : Option Bool) (d : D) (c : Ctx) (b : Nat) (es : Es) (ρ : Env) (S : Store) : R D := match t with
  | some false => evOr c b es ρ S
  | some true => .ok d S
  | none => .bad
def orR (r : R D) (c : Ctx) (b : Nat) (es : Es) (ρ : Env) : R D := r.bind fun d S1 => orB (truD (vw S1 d)) d c b es ρ S1
@[simp] theorem orR_ok (d : D) (S : Store) (c : Ctx) (b : Nat) (es : Es) (ρ : Env) : orR (.ok d S) c b es ρ = orB (truD (vw S d)) d c b es ρ S := (rfl)
@[simp] theorem orR_err (C : String) (ns : List String) (ds : List D) (S : Store) (c : Ctx) (b : Nat) (es : Es) (ρ : Env) : orR (.err C ns ds S) c b es ρ = .err C ns ds S := (rfl)
@[simp] theorem orB_t (d : D) (c : Ctx) (b : Nat) (es : Es) (ρ : Env) (S : Store) : orB (some true) d c b es ρ S = .ok d S := (rfl)
@[simp] theorem orB_f (d : D) (c : Ctx) (b : Nat) (es : Es) (ρ : Env) (S : Store) : orB (some false) d c b es ρ S = evOr c b es ρ S := (rfl)
@[simp] theorem ev_and (es : Es) : ev c b (.and es) ρ S = evAnd c b es ρ S := by simp only [ev]
@[simp] theorem ev_or (es : Es) : ev c b (.or es) ρ S = evOr c b es ρ S := by simp only [ev]
@[simp] theorem and_one (e : E) : evAnd c b (.cons e .nil) ρ S = ev c b e ρ S := by simp only [evAnd]
@[simp] theorem or_one (e : E) : evOr c b (.cons e .nil) ρ S = ev c b e ρ S := by simp only [evOr]
@[simp] theorem and_two (e e2 : E) (es : Es) : evAnd c b (.cons e (.cons e2 es)) ρ S = andR (ev c b e ρ S) c b (.cons e2 es) ρ := by simp only [evAnd]; rfl
@[simp] theorem or_two (e e2 : E) (es : Es) : evOr c b (.cons e (.cons e2 es)) ρ S = orR (ev c b e ρ S) c b (.cons e2 es) ρ := by simp only [evOr]; rfl
def chB (t : Option Bool) (e : D) (c : Ctx) (b : Nat) (p : CO) (z : E) (ρ : Env) (S : Store) : R D := match t with
  | some true => kv2 e (ev c b z ρ S) (kcmp p)
  | some false => .ok (.bl false) S
  | none => .bad
def ch2 (d : D) (r : R D) (c : Ctx) (b : Nat) (o p : CO) (z : E) (ρ : Env) : R D := r.bind fun e S2 => chB (cmpD o (vw S2 d) (vw S2 e)) e c b p z ρ S2
def ch1 (r : R D) (c : Ctx) (b : Nat) (o p : CO) (y z : E) (ρ : Env) : R D := r.bind fun d S1 => ch2 d (ev c b y ρ S1) c b o p z ρ
@[simp] theorem ch1_ok (d : D) (S : Store) (c : Ctx) (b : Nat) (o p : CO) (y z : E) (ρ : Env) : ch1 (.ok d S) c b o p y z ρ = ch2 d (ev c b y ρ S) c b o p z ρ := (rfl)
@[simp] theorem ch2_ok (d e : D) (S : Store) (c : Ctx) (b : Nat) (o p : CO) (z : E) (ρ : Env) : ch2 d (.ok e S) c b o p z ρ = chB (cmpD o (vw S d) (vw S e)) e c b p z ρ S := (rfl)
@[simp] theorem chB_t (e : D) (c : Ctx) (b : Nat) (p : CO) (z : E) (ρ : Env) (S : Store) : chB (some true) e c b p z ρ S = kv2 e (ev c b z ρ S) (kcmp p) := (rfl)
@[simp] theorem chB_f (e : D) (c : Ctx) (b : Nat) (p : CO) (z : E) (ρ : Env) (S : Store) : chB (some false) e c b p z ρ S = .ok (.bl false) S := (rfl)
@[simp] theorem ev_chain (o p : CO) (x y z : E) : ev c b (.chain o p x y z) ρ S = ch1 (ev c b x ρ S) c b o p y z ρ := by
  simp only [ev, ch1]
  congr 1
def walkR (r : R D) : R Walk := r.bind fun d S1 => R.of S1 (walkD S1 d)
@[simp] theorem walkR_ok (d : D) (S : Store) : walkR (.ok d S) = R.of S (walkD S d) := (rfl)
@[simp] theorem it_val (e : E) : evIt c b (.val e) ρ S = walkR (ev c b e ρ S) := by simp only [evIt]; rfl
def enumR (r : R D) : R Walk := r.bind fun d S1 => R.of S1 (enumD S1 d)
@[simp] theorem enumR_ok (d : D) (S : Store) : enumR (.ok d S) = R.of S (enumD S d) := (rfl)
@[simp] theorem it_enum (e : E) : evIt c b (.enum e) ρ S = enumR (ev c b e ρ S) := by simp only [evIt]; rfl
def rangeR (r : R (List D)) : R Walk := r.bind fun ds S1 => R.of S1 ((ranges ds).map fun l => ⟨l, []⟩)
@[simp] theorem rangeR_ok (ds : List D) (S : Store) : rangeR (.ok ds S) = R.of S ((ranges ds).map fun l => ⟨l, []⟩) := (rfl)
@[simp] theorem it_range (es : Es) : evIt c b (.range es) ρ S = rangeR (evs c b es ρ S) := by simp only [evIt]; rfl
def zip2 (d : D) (r : R D) : R Walk := r.bind fun e S2 => R.of S2 (zipD S2 d e)
def zip1 (r : R D) (c : Ctx) (b : Nat) (y : E) (ρ : Env) : R Walk := r.bind fun d S1 => zip2 d (ev c b y ρ S1)
@[simp] theorem zip2_ok (d e : D) (S : Store) : zip2 d (.ok e S) = R.of S (zipD S d e) := (rfl)
@[simp] theorem zip1_ok (d : D) (S : Store) (c : Ctx) (b : Nat) (y : E) (ρ : Env) : zip1 (.ok d S) c b y ρ = zip2 d (ev c b y ρ S) := (rfl)
@[simp] theorem it_zip (x y : E) : evIt c b (.zip x y) ρ S = zip1 (ev c b x ρ S) c b y ρ := by simp only [evIt]; rfl
def lcOne (c : Ctx) (b : Nat) (elt : E) (tg : Tg) (d : D) (ρ : Env) (S : Store) : R (Option D) := match asg tg d ρ with
  | some ρ' => (ev c b elt ρ' S).bind fun x S' => .ok (some x) S'
  | none => .bad
def lcTwo (c : Ctx) (b : Nat) (elt q : E) (tg : Tg) (d : D) (ρ : Env) (S : Store) : R (Option D) := match asg tg d ρ with
  | some ρ' => (ev c b q ρ' S).bind fun k S' => match truD (vw S' k) with
    | some true => (ev c b elt ρ' S').bind fun x S' => .ok (some x) S'
    | some false => .ok none S'
    | none => .bad
  | none => .bad
def lcAll (f : D → Env → Store → R (Option D)) (tg : Tg) (ρ : Env) (w : Walk) (S : Store) : R (List D) := lcR f w (wipeE ρ tg.slots) S
def lcW (r : R Walk) (f : D → Env → Store → R (Option D)) (tg : Tg) (ρ : Env) : R (List D) := r.bind fun w S1 => lcAll f tg ρ w S1
@[simp] theorem lcW_ok (w : Walk) (S : Store) (f : D → Env → Store → R (Option D)) (tg : Tg) (ρ : Env) : lcW (.ok w S) f tg ρ = lcAll f tg ρ w S := (rfl)
@[simp] theorem ev_lc (elt : E) (tg : Tg) (it : It) : ev c b (.lc elt tg it) ρ S = evk (lcW (evIt c b it ρ S) (lcOne c b elt tg) tg ρ) klst := by
  simp only [ev]
  cases evIt c b it ρ S <;> rfl
@[simp] theorem ev_lcIf (elt : E) (tg : Tg) (it : It) (q : E) : ev c b (.lcIf elt tg it q) ρ S = evk (lcW (evIt c b it ρ S) (lcTwo c b elt q tg) tg ρ) klst := by
  simp only [ev]
  cases evIt c b it ρ S <;> rfl
@[simp] theorem ev_newlc (elt : E) (tg : Tg) (it : It) : ev c b (.newlc elt tg it) ρ S = evk (lcW (evIt c b it ρ S) (lcOne c b elt tg) tg ρ) knewl := by
  simp only [ev]
  cases evIt c b it ρ S <;> rfl
@[simp] theorem ev_newlcIf (elt : E) (tg : Tg) (it : It) (q : E) : ev c b (.newlcIf elt tg it q) ρ S = evk (lcW (evIt c b it ρ S) (lcTwo c b elt q tg) tg ρ) knewl := by
  simp only [ev]
  cases evIt c b it ρ S <;> rfl
def seqR (r : RS) (b : Nat) (ss : Ss) (c : Ctx) : RS := r.then fun ρ1 S1 => exs b ss c ρ1 S1
@[simp] theorem seqR_nx (ρ : Env) (S : Store) (b : Nat) (ss : Ss) (c : Ctx) : seqR (.ok (.nx ρ) S) b ss c = exs b ss c ρ S := (rfl)
@[simp] theorem seqR_rt (d : D) (S : Store) (b : Nat) (ss : Ss) (c : Ctx) : seqR (.ok (.rt d) S) b ss c = .ok (.rt d) S := (rfl)
@[simp] theorem seqR_bk (ρ : Env) (S : Store) (b : Nat) (ss : Ss) (c : Ctx) : seqR (.ok (.bk ρ) S) b ss c = .ok (.bk ρ) S := (rfl)
@[simp] theorem seqR_ct (ρ : Env) (S : Store) (b : Nat) (ss : Ss) (c : Ctx) : seqR (.ok (.ct ρ) S) b ss c = .ok (.ct ρ) S := (rfl)
@[simp] theorem seqR_err (C : String) (ns : List String) (ds : List D) (ρ : Env) (S : Store) (b : Nat) (ss : Ss) (c : Ctx) : seqR (.err C ns ds ρ S) b ss c = .err C ns ds ρ S := (rfl)
@[simp] theorem exs_nil : exs b .nil c ρ S = .ok (.nx ρ) S := by simp only [exs]
@[simp] theorem exs_cons (s : St) (ss : Ss) : exs b (.cons s ss) c ρ S = seqR (exS b s c ρ S) b ss c := by simp only [exs]; rfl
def thenK (r : R D) (ρ : Env) (k : Env → Store → D → RS) : RS := r.then ρ fun d S1 => k ρ S1 d
@[simp] theorem thenK_ok (d : D) (S : Store) (ρ : Env) (k : Env → Store → D → RS) : thenK (.ok d S) ρ k = k ρ S d := (rfl)
@[simp] theorem thenK_err (C : String) (ns : List String) (ds : List D) (S : Store) (ρ : Env) (k : Env → Store → D → RS) : thenK (.err C ns ds S) ρ k = .err C ns ds ρ S := (rfl)
def kset (t : Tg) (ρ : Env) (S : Store) (d : D) : RS := match asg t d ρ with | some ρ' => .ok (.nx ρ') S | none => .bad
def kret (ρ : Env) (S : Store) (d : D) : RS := .ok (.rt d) S
def kex (ρ : Env) (S : Store) (d : D) : RS := .ok (.nx ρ) S
def iteB (t : Option Bool) (b : Nat) (x y : Ss) (c : Ctx) (ρ : Env) (S : Store) : RS := match t with
  | some true => exs b x c ρ S
  | some false => exs b y c ρ S
  | none => .bad
def kite (b : Nat) (x y : Ss) (c : Ctx) (ρ : Env) (S : Store) (d : D) : RS := iteB (truD (vw S d)) b x y c ρ S
@[simp] theorem kset_one (i : Nat) (ρ : Env) (S : Store) (d : D) : kset (.one i) ρ S d = .ok (.nx (ρ.set i (some d))) S := (rfl)
@[simp] theorem kret_eq (ρ : Env) (S : Store) (d : D) : kret ρ S d = .ok (.rt d) S := (rfl)
@[simp] theorem kex_eq (ρ : Env) (S : Store) (d : D) : kex ρ S d = .ok (.nx ρ) S := (rfl)
@[simp] theorem kite_eq (b : Nat) (x y : Ss) (c : Ctx) (ρ : Env) (S : Store) (d : D) : kite b x y c ρ S d = iteB (truD (vw S d)) b x y c ρ S := (rfl)
@[simp] theorem iteB_t (b : Nat) (x y : Ss) (c : Ctx) (ρ : Env) (S : Store) : iteB (some true) b x y c ρ S = exs b x c ρ S := (rfl)
@[simp] theorem iteB_f (b : Nat) (x y : Ss) (c : Ctx) (ρ : Env) (S : Store) : iteB (some false) b x y c ρ S = exs b y c ρ S := (rfl)
@[simp] theorem x_set (t : Tg) (e : E) : exS b (.set t e) c ρ S = thenK (ev c b e ρ S) ρ (kset t) := by simp only [exS]; rfl
@[simp] theorem x_ret (e : E) : exS b (.ret e) c ρ S = thenK (ev c b e ρ S) ρ kret := by simp only [exS]; rfl
@[simp] theorem x_ret0 : exS b .ret0 c ρ S = .ok (.rt .non) S := by simp only [exS]
@[simp] theorem x_pass : exS b .pass c ρ S = .ok (.nx ρ) S := by simp only [exS]
@[simp] theorem x_brk : exS b .brk c ρ S = .ok (.bk ρ) S := by simp only [exS]
@[simp] theorem x_cont : exS b .cont c ρ S = .ok (.ct ρ) S := by simp only [exS]
@[simp] theorem x_ex (e : E) : exS b (.ex e) c ρ S = thenK (ev c b e ρ S) ρ kex := by simp only [exS]; rfl
@[simp] theorem x_ite (q : E) (x y : Ss) : exS b (.ite q x y) c ρ S = thenK (ev c b q ρ S) ρ (kite b x y c) := by simp only [exS]; rfl
def forS (b : Nat) (t : Tg) (body : Ss) (c : Ctx) (w : Walk) (items : List D) (ρ : Env) (S : Store) : RS := forL (fun ρ S => exs b body c ρ S) t w items ρ S
def forR (r : R Walk) (b : Nat) (t : Tg) (body : Ss) (c : Ctx) (ρ : Env) : RS := r.then ρ fun w S1 => forS b t body c w w.items ρ S1
@[simp] theorem forR_ok (w : Walk) (S : Store) (b : Nat) (t : Tg) (body : Ss) (c : Ctx) (ρ : Env) : forR (.ok w S) b t body c ρ = forS b t body c w w.items ρ S := (rfl)
@[simp] theorem x_for (t : Tg) (it : It) (body : Ss) : exS b (.for_ t it body) c ρ S = forR (evIt c b it ρ S) b t body c ρ := by simp only [exS]; rfl
def raiseR (r : R (List D)) (C : String) (c : Ctx) (ρ : Env) : RS := if c.deep then r.then ρ fun ds S1 => match exFields (c.ex C) ds with
    | some (ns, fs) => .err C ns fs ρ S1
    | none => .bad
    else .bad
@[simp] theorem x_raise (C : String) (es : Es) : exS b (.raise C es) c ρ S = raiseR (evs c b es ρ S) C c ρ := by simp only [exS]; rfl
end
def foldE {α : Type} (f : α → D → α ⊕ D) : α → List D → α ⊕ D
  | a, [] => .inl a
  | a, d :: ds => match f a d with
    | .inl a' => foldE f a' ds
    | .inr r => .inr r
def ForEnd {α : Type} (P : α → Env → Store → Prop) (Z : D → Store → Prop) (F : RS) : α ⊕ D → Prop
  | .inl a => ∃ ρ S, F = .ok (.nx ρ) S ∧ P a ρ S
  | .inr r => ∃ S, F = .ok (.rt r) S ∧ Z r S
def Turn {α : Type} (P : α → Env → Store → Prop) (Z : D → Store → Prop) (b : Nat) (body : Ss) (c : Ctx) (ρ1 : Env) (S : Store) : α ⊕ D → Prop
  | .inl a => ∃ ρ2 S2, (exs b body c ρ1 S = .ok (.nx ρ2) S2 ∨ exs b body c ρ1 S = .ok (.ct ρ2) S2) ∧ P a ρ2 S2
  | .inr r => ∃ S2, exs b body c ρ1 S = .ok (.rt r) S2 ∧ Z r S2
theorem forS_fold {α : Type} {b : Nat} {t : Tg} {body : Ss} {c : Ctx} {w : Walk} (hw : w.held = []) (P : α → Env → Store → Prop) (Z : D → Store → Prop) (f : α → D → α ⊕ D) :
    ∀ (items : List D) (a : α) (ρ : Env) (S : Store), P a ρ S →
    (∀ d ∈ items, ∀ a ρ S, P a ρ S → ∃ ρ1, asg t d ρ = some ρ1 ∧ Turn P Z b body c ρ1 S (f a d)) → ForEnd P Z (forS b t body c w items ρ S) (foldE f a items)
  | [], a, ρ, S, hP, _ => by
    have st : w.still S = true := by simp [Walk.still, hw]
    exact ⟨ρ, S, by simp [forS, forL, st], hP⟩
  | d :: ds, a, ρ, S, hP, h => by
    have st : w.still S = true := by simp [Walk.still, hw]
    obtain ⟨ρ1, h1, h2⟩ := h d List.mem_cons_self a ρ S hP
    rw [foldE]
    generalize hf : f a d = s at h2
    cases s with
    | inl a' =>
      obtain ⟨ρ2, S2, h3, h4⟩ := h2
      have := forS_fold hw P Z f ds a' ρ2 S2 h4 fun x hx => h x (List.mem_cons_of_mem _ hx)
      have e : forS b t body c w (d :: ds) ρ S = forS b t body c w ds ρ2 S2 := by
        rcases h3 with h3 | h3 <;> simp only [forS, forL, st, if_true, h1, h3]
      rw [e]
      exact this
    | inr r =>
      obtain ⟨S2, h3, h4⟩ := h2
      exact ⟨S2, by simp only [forS, forL, st, if_true, h1, h3], h4⟩
theorem forS_end {α : Type} {b : Nat} {t : Tg} {body : Ss} {c : Ctx} {w : Walk} {items : List D} {ρ : Env} {S : Store} {F : RS} (hF : forS b t body c w items ρ S = F) (P : α → Env → Store → Prop) (Z : D → Store → Prop) (f : α → D → α ⊕ D) (a : α) (hw : w.held = []) (hP : P a ρ S)
    (h : ∀ d ∈ items, ∀ a ρ S, P a ρ S → ∃ ρ1, asg t d ρ = some ρ1 ∧ Turn P Z b body c ρ1 S (f a d)) : ForEnd P Z F (foldE f a items) := by
  subst hF
  exact forS_fold hw P Z f items a ρ S hP h
end CL
namespace CL
open PySem PySem.Spec PyProof.Rows L2
theorem limL_all {n : Nat} : ∀ {ds : List D}, D.limL n ds = true ↔ ∀ d ∈ ds, d.lim n = true
  | [] => by simp [D.limL]
  | d :: ds => by rw [D.limL, Bool.and_eq_true, limL_all]; simp
theorem map_same {α : Type} {f : α → α} {l : List α} (h : ∀ x ∈ l, f x = x) : l.map f = l := by
  rw [List.map_congr_left (g := id) (by simpa using h), List.map_id]
theorem res_flat (n : Nat) (S : Store) : ∀ (k : Nat) (d : D), d.lim 0 = true → res n S k d = d
  | 0, d, _ => by cases d <;> rfl
  | k + 1, d, h => by
    have key : ∀ ds : List D, D.limL 0 ds = true → ds.map (res n S k) = ds := fun ds hd => map_same fun x hx => res_flat n S k x (limL_all.mp hd x hx)
    cases d with
    | tup ds => show D.tup (ds.map (res n S k)) = _; rw [key ds (by rw [D.lim] at h; exact h)]
    | lst ds => show D.lst (ds.map (res n S k)) = _; rw [key ds (by rw [D.lim] at h; exact h)]
    | way ds => show D.way (ds.map (res n S k)) = _; rw [key ds (by rw [D.lim] at h; exact h)]
    | ins C ns ds => show D.ins C ns (ds.map (res n S k)) = _; rw [key ds (by rw [D.lim] at h; exact h)]
    | ref i => simp [D.lim] at h
    | _ => rfl
@[simp] theorem fnRes_rt (keep give : Bool) (n : Nat) (d : D) (S : Store) : fnRes keep give n (.ok (.rt d) S) = fin keep give n S d := (rfl)
@[simp] theorem fnRes_nx (keep give : Bool) (n : Nat) (ρ : Env) (S : Store) : fnRes keep give n (.ok (.nx ρ) S) = fin keep give n S .non := (rfl)
@[simp] theorem fin_keep (give : Bool) (n : Nat) (d : D) (S : Store) : fin true give n S d = .ok d S := (rfl)
@[simp] theorem fin_flat (n : Nat) (d : D) (S : Store) (h : d.lim 0 = true) : fin false false n S d = .ok d (S.take n) := by
  unfold fin
  simp only [Bool.false_eq_true, if_false, res_flat n S 8 d h]
  rw [if_pos (D.lim_mono (Nat.zero_le n) d h)]
@[simp] theorem fnRes_err (give : Bool) (n : Nat) (C : String) (ns : List String) (ds : List D) (ρ : Env) (S : Store) (h : D.limL 0 ds = true) : fnRes false give n (.err C ns ds ρ S) = .err C ns ds (S.take n) := by
  unfold fnRes
  simp only [Bool.false_eq_true, if_false]
  rw [if_pos (D.limL_mono (Nat.zero_le n) ds h)]
@[simp] theorem lim_str (n : Nat) (l : List Nat) : D.lim n (.str l) = true := (rfl)
@[simp] theorem lim_int (n : Nat) (i : Int) : D.lim n (.int i) = true := (rfl)
@[simp] theorem lim_bl (n : Nat) (t : Bool) : D.lim n (.bl t) = true := (rfl)
@[simp] theorem lim_non (n : Nat) : D.lim n .non = true := (rfl)
@[simp] theorem lim_tup (n : Nat) (ds : List D) : D.lim n (.tup ds) = D.limL n ds := by rw [D.lim]
@[simp] theorem lim_lst (n : Nat) (ds : List D) : D.lim n (.lst ds) = D.limL n ds := by rw [D.lim]
@[simp] theorem lim_way (n : Nat) (ds : List D) : D.lim n (.way ds) = D.limL n ds := by rw [D.lim]
@[simp] theorem limL_nil (n : Nat) : D.limL n [] = true := (rfl)
@[simp] theorem limL_cons (n : Nat) (d : D) (ds : List D) : D.limL n (d :: ds) = (d.lim n && D.limL n ds) := (rfl)
@[simp] theorem limL_str (n : Nat) (ls : List (List Nat)) : D.limL n (ls.map .str) = true := limL_all.mpr fun d hd => by
  obtain ⟨l, _, rfl⟩ := List.mem_map.mp hd
  rfl
@[simp] theorem limL_int (n : Nat) (ls : List Int) : D.limL n (ls.map .int) = true := limL_all.mpr fun d hd => by
  obtain ⟨l, _, rfl⟩ := List.mem_map.mp hd
  rfl
def hold (S : Store) (i : Nat) (v : Int) : Store := S.set i (.lst [.int v])
section
variable {S X : Store} {i j n : Nat} {v w : Int}
@[simp] theorem hold_len : (hold S i v).length = S.length := by simp [hold]
@[simp high] theorem hold_get (h : i < S.length) : (hold S i v)[i]? = some (.lst [.int v]) := by simp [hold, h]
theorem hold_ne (h : i ≠ j) : (hold S i v)[j]? = S[j]? := by simp [hold, h]
@[simp] theorem hold_top : i < S.length → (hold S i v)[S.length]? = none := fun _ => by simp
@[simp] theorem hold_app (h : i < S.length) : hold S i v ++ X = hold (S ++ X) i v := by simp [hold, List.set_append_left, h]
@[simp] theorem hold_set : (hold S i v).set i (.lst [.int w]) = hold S i w := by simp [hold]
theorem hold_set_ne (h : i ≠ j) (c : Cell) : (hold S i v).set j c = hold (S.set j c) i v := by
  unfold hold
  exact List.set_comm _ _ h
@[simp] theorem hold_take (h : i < n) : (hold S i v).take n = hold (S.take n) i v := by
  unfold hold
  rw [List.take_set]
@[simp] theorem hold_take_len : (hold S i v).take S.length = hold S i v := by
  rw [List.take_of_length_le (by simp)]
@[simp] theorem vw_hold (h : i < S.length) : vw (hold S i v) (.ref i) = .lst [.int v] := by
  simp only [vw, hold_get h]
theorem hold_self (h : S[i]? = some (.lst [.int v])) : hold S i v = S := by
  unfold hold
  obtain ⟨hi, e⟩ := List.getElem?_eq_some_iff.mp h
  rw [← e, List.set_getElem_self]
end
@[simp] theorem truD_bl (t : Bool) : truD (.bl t) = some t := (rfl)
@[simp] theorem idx_lst (ds : List D) (i : Int) : idxD (.lst ds) (.int i) = atD ds i := (rfl)
@[simp] theorem idx_tup (ds : List D) (i : Int) : idxD (.tup ds) (.int i) = atD ds i := (rfl)
@[simp] theorem idx_way (ds : List D) (i : Int) : idxD (.way ds) (.int i) = atD ds i := (rfl)
@[simp] theorem at_pos {α : Type} (l : List α) (i : Int) (h : 0 ≤ i) : atD l i = l[i.toNat]? := by simp [atD, h]
@[simp] theorem bop_add_int (a b : Int) : bop .add (.int a) (.int b) = some (.int (a + b)) := (rfl)
@[simp] theorem bop_sub_int (a b : Int) : bop .sub (.int a) (.int b) = some (.int (a - b)) := (rfl)
@[simp] theorem cmp_lt_int (a b : Int) : cmpD .lt (.int a) (.int b) = some (decide (a < b)) := (rfl)
@[simp] theorem cmp_gt_int (a b : Int) : cmpD .gt (.int a) (.int b) = some (decide (b < a)) := (rfl)
@[simp] theorem cmp_le_int (a b : Int) : cmpD .le (.int a) (.int b) = some (decide (a ≤ b)) := by
  show some (!decide (b < a)) = _
  rw [← decide_not]
  congr 2
  rw [Int.not_lt]
@[simp] theorem cmp_ge_int (a b : Int) : cmpD .ge (.int a) (.int b) = some (decide (b ≤ a)) := by
  show some (!decide (a < b)) = _
  rw [← decide_not]
  congr 2
  rw [Int.not_lt]
@[simp] theorem cmp_eq_int (a b : Int) : cmpD .eq (.int a) (.int b) = some (a == b) := by
  simp [cmpD, eqD, D.dat, D.eqv]
@[simp] theorem cmp_ne_int (a b : Int) : cmpD .ne (.int a) (.int b) = some (!(a == b)) := by
  simp [cmpD, eqD, D.dat, D.eqv]
@[simp] theorem cmp_eq_str (l m : List Nat) : cmpD .eq (.str l) (.str m) = some (l == m) := by
  simp [cmpD, eqD, D.dat, D.eqv]
@[simp] theorem cmp_ne_str (l m : List Nat) : cmpD .ne (.str l) (.str m) = some (!(l == m)) := by
  simp [cmpD, eqD, D.dat, D.eqv]
theorem cat_few {a b : Nat} (h : a ≤ 1000) (h2 : b ≤ 1000) : catOk a b = true := decide_eq_true (show a + b ≤ 10000000 by omega)
theorem bop_add_str (a b : List Nat) (h : a.length ≤ 1000) (h2 : b.length ≤ 1000) : bop .add (.str a) (.str b) = some (.str (a ++ b)) := by
  simp only [bop, cat_few h h2, if_true]
theorem bop_add_lst (a b : List D) (h : a.length ≤ 1000) (h2 : b.length ≤ 1000) : bop .add (.lst a) (.lst b) = some (.lst (a ++ b)) := by
  simp only [bop, cat_few h h2, if_true]
theorem bop_add_tup (a b : List D) (h : a.length ≤ 1000) (h2 : b.length ≤ 1000) : bop .add (.tup a) (.tup b) = some (.tup (a ++ b)) := by
  simp only [bop, cat_few h h2, if_true]
theorem at_in {α : Type} (l : List α) (i : Int) (h : 0 ≤ i) (h2 : i < l.length) : ∃ x, atD l i = some x ∧ x ∈ l ∧ l[i.toNat]? = some x := by
  unfold atD
  rw [if_pos h]
  have : i.toNat < l.length := by omega
  exact ⟨l[i.toNat], List.getElem?_eq_getElem this, List.getElem_mem this, List.getElem?_eq_getElem this⟩
def bmX (d : D) (r : R (List D)) (m : MB) (S1 : Store) (b : Nat) : R D := r.bind fun ds S2 => if kindD (vw S1 d) = kindD (vw S2 d) then bmD m d ds b S2 else .bad
def bmR (r : R D) (c : Ctx) (b : Nat) (m : MB) (es : Es) (ρ : Env) : R D := r.bind fun d S1 => if (mbId m (kindD (vw S1 d))).isSome then bmX d (evs c b es ρ S1) m S1 b else .bad
@[simp] theorem bmR_ok (d : D) (S : Store) (c : Ctx) (b : Nat) (m : MB) (es : Es) (ρ : Env) : bmR (.ok d S) c b m es ρ = if (mbId m (kindD (vw S d))).isSome then bmX d (evs c b es ρ S) m S b else .bad := (rfl)
@[simp] theorem bmX_ok (d : D) (ds : List D) (S1 S2 : Store) (m : MB) (b : Nat) : bmX d (.ok ds S2) m S1 b = if kindD (vw S1 d) = kindD (vw S2 d) then bmD m d ds b S2 else .bad := (rfl)
@[simp] theorem ev_bm {c : Ctx} {b : Nat} {ρ : Env} {S : Store} (m : MB) (x : E) (es : Es) : ev c b (.bm m x es) ρ S = bmR (ev c b x ρ S) c b m es ρ := by simp only [ev]; rfl
def six3 (w d : D) (r : R D) (b : Nat) (ρ : Env) : RS := r.then ρ fun k S3 => match d with
  | .ref n => match storeK b n k w S3 with
    | some S4 => .ok (.nx ρ) S4
    | none => .bad
  | _ => .bad
def six2 (w : D) (r : R D) (c : Ctx) (b : Nat) (i : E) (ρ : Env) : RS := r.then ρ fun d S2 => six3 w d (ev c b i ρ S2) b ρ
def six1 (r : R D) (c : Ctx) (b : Nat) (x i : E) (ρ : Env) : RS := r.then ρ fun w S1 => six2 w (ev c b x ρ S1) c b i ρ
@[simp] theorem six1_ok (w : D) (S : Store) (c : Ctx) (b : Nat) (x i : E) (ρ : Env) : six1 (.ok w S) c b x i ρ = six2 w (ev c b x ρ S) c b i ρ := (rfl)
@[simp] theorem six2_ok (w d : D) (S : Store) (c : Ctx) (b : Nat) (i : E) (ρ : Env) : six2 w (.ok d S) c b i ρ = six3 w d (ev c b i ρ S) b ρ := (rfl)
@[simp] theorem six3_ok (w k : D) (n : Nat) (S : Store) (b : Nat) (ρ : Env) : six3 w (.ref n) (.ok k S) b ρ = match storeK b n k w S with | some S4 => .ok (.nx ρ) S4 | none => .bad := (rfl)
@[simp] theorem x_setIdx {c : Ctx} {b : Nat} {ρ : Env} {S : Store} (x i v : E) : exS b (.setIdx x i v) c ρ S = six1 (ev c b v ρ S) c b x i ρ := by simp only [exS]; rfl
end CL
namespace CL
open PySem PySem.Spec PyProof.Rows L2
def one1 (r : R D) : R (Option D) := r.bind fun x S' => .ok (some x) S'
@[simp] theorem one1_ok (x : D) (S : Store) : one1 (.ok x S) = .ok (some x) S := (rfl)
@[simp] theorem lcOne_one (c : Ctx) (b : Nat) (elt : E) (i : Nat) (d : D) (ρ : Env) (S : Store) : lcOne c b elt (.one i) d ρ S = one1 (ev c b elt (ρ.set i (some d)) S) := (rfl)
def two2 (t : Option Bool) (c : Ctx) (b : Nat) (elt : E) (ρ : Env) (S : Store) : R (Option D) := match t with
  | some true => one1 (ev c b elt ρ S)
  | some false => .ok none S
  | none => .bad
def two1 (r : R D) (c : Ctx) (b : Nat) (elt : E) (ρ : Env) : R (Option D) := r.bind fun k S' => two2 (truD (vw S' k)) c b elt ρ S'
@[simp] theorem two1_ok (k : D) (S : Store) (c : Ctx) (b : Nat) (elt : E) (ρ : Env) : two1 (.ok k S) c b elt ρ = two2 (truD (vw S k)) c b elt ρ S := (rfl)
@[simp] theorem two2_t (c : Ctx) (b : Nat) (elt : E) (ρ : Env) (S : Store) : two2 (some true) c b elt ρ S = one1 (ev c b elt ρ S) := (rfl)
@[simp] theorem two2_f (c : Ctx) (b : Nat) (elt : E) (ρ : Env) (S : Store) : two2 (some false) c b elt ρ S = .ok none S := (rfl)
@[simp] theorem lcTwo_one (c : Ctx) (b : Nat) (elt q : E) (i : Nat) (d : D) (ρ : Env) (S : Store) : lcTwo c b elt q (.one i) d ρ S = two1 (ev c b q (ρ.set i (some d)) S) c b elt (ρ.set i (some d)) := (rfl)
section
variable {f : D → Env → Store → R (Option D)} {tg : Tg} {w : Walk} {ρ : Env} {S : Store}
theorem lcAll_run (P : Store → Prop) (Rx : D → Prop) (hw : w.held = []) (hl : w.items.length ≤ LIM) (hP : P S) (h : ∀ d ∈ w.items, ∀ S, P S → ∃ x S', f d (wipeE ρ tg.slots) S = .ok (some x) S' ∧ P S' ∧ Rx x) :
    ∃ xs S', lcAll f tg ρ w S = .ok xs S' ∧ P S' ∧ (∀ x ∈ xs, Rx x) ∧ xs.length = w.items.length := by
  obtain ⟨xs, S', h1, h2, h3, h4⟩ := lcL_run (f := f) (ρ := wipeE ρ tg.slots) P Rx hw (items := w.items) hP h
  exact ⟨xs, S', by simp only [lcAll, lcR, hl, if_true, h1], h2, h3, h4⟩
theorem lcAll_filter (g : D → Option D) (hw : w.held = []) (hl : w.items.length ≤ LIM) (h : ∀ d ∈ w.items, f d (wipeE ρ tg.slots) S = .ok (g d) S) : lcAll f tg ρ w S = .ok (w.items.filterMap g) S := by
  simp only [lcAll, lcR, hl, if_true]
  exact lcL_pure g hw h
theorem lcAll_map (g : D → D) (hw : w.held = []) (hl : w.items.length ≤ LIM) (h : ∀ d ∈ w.items, f d (wipeE ρ tg.slots) S = .ok (some (g d)) S) : lcAll f tg ρ w S = .ok (w.items.map g) S := by
  rw [lcAll_filter (fun d => some (g d)) hw hl h, List.filterMap_eq_map']
theorem lcAll_some (P : Store → Prop) (Rx : D → Prop) (hw : w.held = []) (hl : w.items.length ≤ LIM) (hP : P S) (h : ∀ d ∈ w.items, ∀ S, P S → ∃ x S', f d (wipeE ρ tg.slots) S = .ok x S' ∧ P S' ∧ (x = none ∨ x = some d)) :
    ∃ xs S', lcAll f tg ρ w S = .ok xs S' ∧ P S' ∧ xs.Sublist w.items := by
  have key : ∀ (items : List D) (S : Store), P S → (∀ d ∈ items, ∀ S, P S → ∃ x S', f d (wipeE ρ tg.slots) S = .ok x S' ∧ P S' ∧ (x = none ∨ x = some d)) → ∃ xs S', lcL f w (wipeE ρ tg.slots) items S = .ok xs S' ∧ P S' ∧ xs.Sublist items := by
    intro items
    induction items with
    | nil => intro S hP _; exact ⟨[], S, by simp [lcL, Walk.still, hw], hP, .slnil⟩
    | cons d ds ih =>
      intro S hP h
      have st : w.still S = true := by simp [Walk.still, hw]
      obtain ⟨x, S', h1, h2, h3⟩ := h d List.mem_cons_self S hP
      obtain ⟨xs, S'', h4, h5, h6⟩ := ih S' h2 fun e he => h e (List.mem_cons_of_mem _ he)
      rcases h3 with rfl | rfl
      · exact ⟨xs, S'', by simp only [lcL, st, if_true, h1, h4], h5, .cons _ h6⟩
      · exact ⟨d :: xs, S'', by simp only [lcL, st, if_true, h1, h4], h5, .cons_cons _ h6⟩
  obtain ⟨xs, S', h1, h2, h3⟩ := key w.items S hP h
  exact ⟨xs, S', by simp only [lcAll, lcR, hl, if_true, h1], h2, h3⟩
end
section
variable {f : D → Env → Store → R (Option D)} {tg : Tg} {w : Walk} {ρ : Env} {S : Store} {F : R (List D)}
theorem lcAll_go (hF : lcAll f tg ρ w S = F) (P : Store → Prop) (Rx : D → Prop) (hw : w.held = []) (hl : w.items.length ≤ LIM) (hP : P S) (h : ∀ d ∈ w.items, ∀ S, P S → ∃ x S', f d (wipeE ρ tg.slots) S = .ok (some x) S' ∧ P S' ∧ Rx x) :
    ∃ xs S', F = .ok xs S' ∧ P S' ∧ (∀ x ∈ xs, Rx x) ∧ xs.length = w.items.length := by
  subst hF
  exact lcAll_run P Rx hw hl hP h
theorem lcAll_is (hF : lcAll f tg ρ w S = F) (g : D → D) (hw : w.held = []) (hl : w.items.length ≤ LIM) (h : ∀ d ∈ w.items, f d (wipeE ρ tg.slots) S = .ok (some (g d)) S) : F = .ok (w.items.map g) S := by
  subst hF
  exact lcAll_map g hw hl h
theorem lcAll_of {α : Type} (l : List α) (f0 g : α → D) (hF : lcAll f tg ρ w S = F) (hi : w.items = l.map f0) (hw : w.held = []) (hl : l.length ≤ LIM) (h : ∀ a ∈ l, f (f0 a) (wipeE ρ tg.slots) S = .ok (some (g a)) S) : F = .ok (l.map g) S := by
  subst hF
  have key : ∀ l : List α, (∀ a ∈ l, f (f0 a) (wipeE ρ tg.slots) S = .ok (some (g a)) S) → lcL f w (wipeE ρ tg.slots) (l.map f0) S = .ok (l.map g) S := by
    intro l
    have st : w.still S = true := by simp [Walk.still, hw]
    induction l with
    | nil => intro _; simp [lcL, st]
    | cons a l ih =>
      intro h
      have h1 := h a List.mem_cons_self
      simp only [List.map_cons, lcL, st, if_true, h1, ih fun x hx => h x (List.mem_cons_of_mem _ hx)]
  have hl' : w.items.length ≤ LIM := by rw [hi, List.length_map]; exact hl
  simp only [lcAll, lcR, hl', if_true]
  rw [hi]
  exact key l h
theorem lcAll_pass {α : Type} (l : List α) (f0 g : α → D) (p : α → Bool) (hF : lcAll f tg ρ w S = F) (hi : w.items = l.map f0) (hw : w.held = []) (hl : l.length ≤ LIM) (h : ∀ a ∈ l, f (f0 a) (wipeE ρ tg.slots) S = .ok (if p a then some (g a) else none) S) : F = .ok ((l.filter p).map g) S := by
  subst hF
  have key : ∀ l : List α, (∀ a ∈ l, f (f0 a) (wipeE ρ tg.slots) S = .ok (if p a then some (g a) else none) S) → lcL f w (wipeE ρ tg.slots) (l.map f0) S = .ok ((l.filter p).map g) S := by
    intro l
    have st : w.still S = true := by simp [Walk.still, hw]
    induction l with
    | nil => intro _; simp [lcL, st]
    | cons a l ih =>
      intro h
      have h1 := h a List.mem_cons_self
      have h2 := ih fun x hx => h x (List.mem_cons_of_mem _ hx)
      cases hp : p a with
      | true =>
        rw [hp, if_pos rfl] at h1
        simp only [List.map_cons, lcL, st, if_true, h1, h2, List.filter_cons, hp]
      | false =>
        rw [hp, if_neg (by decide)] at h1
        simp only [List.map_cons, lcL, st, if_true, h1, h2, List.filter_cons, hp, Bool.false_eq_true, if_false]
  have hl' : w.items.length ≤ LIM := by rw [hi, List.length_map]; exact hl
  simp only [lcAll, lcR, hl', if_true]
  rw [hi]
  exact key l h
theorem lcAll_ifs (hF : lcAll f tg ρ w S = F) (g : D → Option D) (hw : w.held = []) (hl : w.items.length ≤ LIM) (h : ∀ d ∈ w.items, f d (wipeE ρ tg.slots) S = .ok (g d) S) : F = .ok (w.items.filterMap g) S := by
  subst hF
  exact lcAll_filter g hw hl h
theorem lcAll_sub (hF : lcAll f tg ρ w S = F) (P : Store → Prop) (hw : w.held = []) (hl : w.items.length ≤ LIM) (hP : P S) (h : ∀ d ∈ w.items, ∀ S, P S → ∃ x S', f d (wipeE ρ tg.slots) S = .ok x S' ∧ P S' ∧ (x = none ∨ x = some d)) :
    ∃ xs S', F = .ok xs S' ∧ P S' ∧ xs.Sublist w.items := by
  subst hF
  exact lcAll_some P (fun _ => True) hw hl hP h
end
theorem forS_go {b : Nat} {t : Tg} {body : Ss} {c : Ctx} {w : Walk} {items : List D} {ρ : Env} {S : Store} {F : RS} (hF : forS b t body c w items ρ S = F) (P : Env → Store → Prop) (hw : w.held = []) (hP : P ρ S)
    (h : ∀ d ∈ items, ∀ ρ S, P ρ S → ∃ ρ1, asg t d ρ = some ρ1 ∧ ∃ ρ2 S2, (exs b body c ρ1 S = .ok (.nx ρ2) S2 ∨ exs b body c ρ1 S = .ok (.ct ρ2) S2) ∧ P ρ2 S2) : ∃ ρ' S', F = .ok (.nx ρ') S' ∧ P ρ' S' := by
  subst hF
  have e : ∀ l : List D, foldE (fun (_ : Unit) _ => .inl ()) () l = .inl () := by
    intro l
    induction l with
    | nil => rfl
    | cons x l ih => exact ih
  have := forS_fold (α := Unit) (w := w) hw (fun _ => P) (fun _ _ => False) (fun _ _ => .inl ()) items () ρ S hP fun d hd _ ρ S hP => h d hd ρ S hP
  rw [e] at this
  exact this
def Goes (P : Env → Store → Prop) (Z : D → Store → Prop) : RS → Prop
  | .ok (.nx ρ) S => P ρ S
  | .ok (.ct ρ) S => P ρ S
  | .ok (.rt d) S => Z d S
  | _ => False
def noZ : D → Store → Prop := fun _ _ => False
theorem for_any {b : Nat} {t : Tg} {body : Ss} {c : Ctx} {w : Walk} (hw : w.held = []) (P : Nat → Env → Store → Prop) (Z : D → Store → Prop) : ∀ (items : List D) (k : Nat) (ρ : Env) (S : Store), P k ρ S →
    (∀ j d ρ S, items[j]? = some d → P (k + j) ρ S → ∃ ρ1, asg t d ρ = some ρ1 ∧ Goes (P (k + j + 1)) Z (exs b body c ρ1 S)) →
    (∃ ρ' S', forS b t body c w items ρ S = .ok (.nx ρ') S' ∧ P (k + items.length) ρ' S') ∨ ∃ r S', forS b t body c w items ρ S = .ok (.rt r) S' ∧ Z r S'
  | [], k, ρ, S, hP, _ => by
    have st : w.still S = true := by simp [Walk.still, hw]
    exact .inl ⟨ρ, S, by simp [forS, forL, st], hP⟩
  | d :: ds, k, ρ, S, hP, h => by
    have st : w.still S = true := by simp [Walk.still, hw]
    obtain ⟨ρ1, h1, h2⟩ := h 0 d ρ S rfl hP
    have on : ∀ ρ2 S2, (exs b body c ρ1 S = .ok (.nx ρ2) S2 ∨ exs b body c ρ1 S = .ok (.ct ρ2) S2) → P (k + 0 + 1) ρ2 S2 → (∃ ρ' S', forS b t body c w (d :: ds) ρ S = .ok (.nx ρ') S' ∧ P (k + (d :: ds).length) ρ' S') ∨ ∃ r S', forS b t body c w (d :: ds) ρ S = .ok (.rt r) S' ∧ Z r S' := by
      intro ρ2 S2 h3 h4
      have ih := for_any (t := t) (body := body) (c := c) (b := b) hw P Z ds (k + 1) ρ2 S2 h4 fun j x ρ S hx hp => by
        have := h (j + 1) x ρ S hx (by rw [show k + (j + 1) = k + 1 + j by omega]; exact hp)
        rw [show k + (j + 1) = k + 1 + j by omega] at this
        exact this
      have e : forS b t body c w (d :: ds) ρ S = forS b t body c w ds ρ2 S2 := by
        rcases h3 with h3 | h3 <;> simp only [forS, forL, st, if_true, h1, h3]
      rw [e, List.length_cons, show k + (ds.length + 1) = k + 1 + ds.length by omega]
      exact ih
    cases hr : exs b body c ρ1 S with
    | ok f S2 =>
      rw [hr] at h2
      cases f with
      | nx ρ2 => exact on ρ2 S2 (.inl hr) h2
      | ct ρ2 => exact on ρ2 S2 (.inr hr) h2
      | rt r => exact .inr ⟨r, S2, by simp only [forS, forL, st, if_true, h1, hr], h2⟩
      | bk _ => exact h2.elim
    | err _ _ _ _ _ => rw [hr] at h2; exact h2.elim
    | bad => rw [hr] at h2; exact h2.elim
theorem for_or {b : Nat} {t : Tg} {body : Ss} {c : Ctx} {w : Walk} {items : List D} {ρ : Env} {S : Store} {F : RS} (hF : forS b t body c w items ρ S = F) (P : Nat → Env → Store → Prop) (Z : D → Store → Prop) (hw : w.held = []) (hP : P 0 ρ S)
    (h : ∀ k d ρ S, items[k]? = some d → P k ρ S → ∃ ρ1, asg t d ρ = some ρ1 ∧ ∀ Q : RS → Prop, (∀ ρ2 S2, P (k + 1) ρ2 S2 → Q (.ok (.nx ρ2) S2)) → (∀ ρ2 S2, P (k + 1) ρ2 S2 → Q (.ok (.ct ρ2) S2)) → (∀ r S2, Z r S2 → Q (.ok (.rt r) S2)) → Q (exs b body c ρ1 S)) :
    (∃ ρ' S', F = .ok (.nx ρ') S' ∧ P items.length ρ' S') ∨ ∃ r S', F = .ok (.rt r) S' ∧ Z r S' := by
  subst hF
  have := for_any (t := t) (body := body) (c := c) (b := b) hw P Z items 0 ρ S hP fun j d ρ S hd hp => by
    rw [Nat.zero_add] at hp ⊢
    obtain ⟨ρ1, h1, h2⟩ := h j d ρ S hd hp
    exact ⟨ρ1, h1, h2 (Goes (P (j + 1)) Z) (fun _ _ z => z) (fun _ _ z => z) fun _ _ z => z⟩
  rwa [Nat.zero_add] at this
theorem for_at {b : Nat} {t : Tg} {body : Ss} {c : Ctx} {w : Walk} {items : List D} {ρ : Env} {S : Store} {F : RS} (hF : forS b t body c w items ρ S = F) (P : Nat → Env → Store → Prop) (hw : w.held = []) (hP : P 0 ρ S)
    (h : ∀ k d ρ S, items[k]? = some d → P k ρ S → ∃ ρ1, asg t d ρ = some ρ1 ∧ ∀ Q : RS → Prop, (∀ ρ2 S2, P (k + 1) ρ2 S2 → Q (.ok (.nx ρ2) S2)) → (∀ ρ2 S2, P (k + 1) ρ2 S2 → Q (.ok (.ct ρ2) S2)) → Q (exs b body c ρ1 S)) : ∃ ρ' S', F = .ok (.nx ρ') S' ∧ P items.length ρ' S' := by
  rcases for_or hF P noZ hw hP (fun k d ρ S hd hp => by
    obtain ⟨ρ1, h1, h2⟩ := h k d ρ S hd hp
    exact ⟨ρ1, h1, fun Q q1 q2 _ => h2 Q q1 q2⟩) with h | ⟨_, _, _, h⟩
  · exact h
  · exact h.elim
@[simp] theorem asg_one (i : Nat) (d : D) (ρ : Env) : asg (.one i) d ρ = some (ρ.set i (some d)) := (rfl)
theorem get_range {n k : Nat} {d : D} (h : ((List.range n).map fun (k : Nat) => D.int k)[k]? = some d) : d = .int k ∧ k < n := by
  rw [List.getElem?_map] at h
  obtain ⟨j, hj, rfl⟩ := Option.map_eq_some_iff.mp h
  obtain ⟨hk, e⟩ := List.getElem?_eq_some_iff.mp hj
  rw [List.length_range] at hk
  rw [List.getElem_range] at e
  exact ⟨by rw [e], hk⟩
def joinL (sep : List Nat) : List (List Nat) → List Nat
  | [] => []
  | x :: xs => x ++ xs.flatMap (sep ++ ·)
theorem join_eq (sep : List Nat) (ls : List (List Nat)) : tD (PySem.Txt.join (sT sep) (ls.map sT)) = .str (joinL sep ls) := by
  have key : ∀ (ls : List (List Nat)) (acc : Array Nat), ((ls.map sT).foldl (fun (acc : Array Nat) (p : Str) => acc ++ (sT sep).cps ++ p.cps) acc).toList = acc.toList ++ ls.flatMap (sep ++ ·) := by
    intro ls
    induction ls with
    | nil => intro acc; simp
    | cons x ls ih =>
      intro acc
      rw [List.map_cons, List.foldl_cons, ih]
      simp [sT]
  cases ls with
  | nil => rfl
  | cons x ls =>
    show D.str _ = D.str _
    congr 1
    exact key ls (sT x).cps
theorem joinL_nil (ls : List (List Nat)) : joinL [] ls = ls.flatten := by
  cases ls with
  | nil => rfl
  | cons x ls => simp [joinL, List.flatten_cons, List.flatMap_def]
theorem txts_strs : ∀ ls : List (List Nat), txts (ls.map .str) = some ls
  | [] => rfl
  | l :: ls => by simp [txts, txts_strs ls]
def Is (T : Text) (x : String) (g : Fn) : Prop := ∃ d, T.fns x = some d ∧ d.np = g.np ∧ d.names.length = g.names.length ∧ d.body = g.body ∧ d.keep = g.keep
theorem call_is {T : Text} {x : String} {g : Fn} {n : Nat} {give : Bool} {args : List D} {b : Nat} {S : Store} (h : Is T x g) (ha : args.length = g.np) :
    callN T (n + 1) x give args b S = fnRes g.keep give S.length (exs (if g.keep then b else S.length) g.body (ctxN T n) (g.start args) S) := by
  obtain ⟨d, h1, h2, h3, h4, h5⟩ := h
  rw [call_eq h1 (ha.trans h2.symm), run_res, h4, h5]
  unfold Fn.start
  rw [h2, h3]
end CL
namespace CL
open PySem PySem.Spec PyProof.Rows L2
def abc : List Nat := [97, 98, 99, 100, 101, 102, 103, 104, 105, 106, 107, 108, 109, 110, 111, 112, 113, 114, 115, 116, 117, 118, 119, 120, 121, 122]
def isNm (l : List Nat) : Bool := decide (1 ≤ l.length) && (decide (l.length ≤ 8) && (!(l == [111, 117, 116]) && (!(l == [121, 97, 114, 100]) && l.all fun ch => decide (ch ∈ abc))))
structure LawT (T : Text) : Prop where
  take : Is T "_law_take" Ulaw_take
  digits : Is T "_law_digits" Ulaw_digits
  words : Is T "_law_words" Ulaw_words
  bound : Is T "_law_bound" Ulaw_bound
theorem mod_in (v m : Int) (h : 0 < m) : 0 ≤ v % m ∧ v % m < m := ⟨Int.emod_nonneg _ (by omega), Int.emod_lt_of_pos _ h⟩
section
variable {T : Text}
theorem take_sp (L : LawT T) (n i b : Nat) (S : Store) (v m : Int) (hi : i < S.length) (hm : 0 < m) (hm2 : m ≤ 1000000) : callN T (n + 1) "_law_take" false [.ref i, .int m] b (hold S i v) = .ok (.int (v % m)) (hold S i (v / m)) := by
  rw [call_is L.take rfl]
  have : m < 2 ^ 4000 := Int.lt_of_le_of_lt hm2 (by decide +kernel)
  simp [Ulaw_take, Fn.start, hi, bop, hm, this, storeK, putOk]
theorem digits_sp (L : LawT T) (n : Nat) (ns : List Int) (k : Nat) (b : Nat) (S : Store) : ∃ v, callN T (n + 1) "_law_digits" false [.scr ns, .int k] b S = .ok (.ref S.length) (hold (S ++ [.lst []]) S.length v) := by
  have hh : ∀ v : Int, hold (S ++ [.lst []]) S.length v = S ++ [.lst [.int v]] := fun v => by simp [hold]
  simp only [hh]
  rw [call_is L.digits rfl]
  obtain ⟨cell, hc⟩ : ∃ cell : Int, ev (ctxN T n) b (.ife (.cmp .lt (.var 1) (.bi .len (.cons (.var 0) .nil))) (.idx (.var 0) (.var 1)) (.int 0)) [some (.scr ns), some (.int k), none, none, none, none] S = .ok (.int cell) S := by
    by_cases h : k < ns.length
    · exact ⟨ns[k], by simp [fbD, lenD, cmpD, ltD, truD, idxD, h]⟩
    · exact ⟨0, by simp [fbD, lenD, cmpD, ltD, truD, idxD, h]⟩
  show ∃ v : Int, fnRes true false S.length (exs b Ulaw_digits.body (ctxN T n) [some (.scr ns), some (.int k), none, none, none, none] S) = R.ok (D.ref S.length) (S ++ [Cell.lst [D.int v]])
  unfold Ulaw_digits
  dsimp only
  rw [exs_cons, x_set, hc]
  by_cases h : cell < 10 ^ 18
  · have h' : ¬ (1000000000000000000 : Int) ≤ cell := by omega
    have h2 : decide (cell < 1000000000000000000) = true := by simpa using h
    simp [bop, cmpD, ltD, h2, ranges]
    generalize hF : forS _ _ _ _ _ _ _ _ = F
    obtain ⟨ρ', S', rfl, rfl, t, m, x, _, _, rfl⟩ := forS_go hF (fun ρ S' => S' = S ∧ ∃ (t m : Int) (x : Option D), 0 ≤ m ∧ m < 2147483647 ∧ ρ = [some (.scr ns), some (.int k), some (.int cell), some (.int t), some (.int m), x]) rfl ⟨rfl, _, _, _, Int.emod_nonneg _ (by decide), Int.emod_lt_of_pos _ (by decide), rfl⟩ (by
      rintro d hd ρ S' ⟨rfl, t, m, x, h1, h2, rfl⟩
      obtain ⟨j, rfl⟩ : ∃ j : Int, d = .int j := by
        simp only [List.mem_map] at hd
        obtain ⟨j, _, rfl⟩ := hd
        exact ⟨j, rfl⟩
      have hm : m.natAbs < 18446744073709551616 := by omega
      exact ⟨_, asg_one _ _ _, [some (.scr ns), some (.int k), some (.int cell), some (.int (t * 2147483587 + (m * m + 48271 * m + j) % 2147483629 * 69621 % 2147483587)), some (.int ((m * m + 48271 * m + j) % 2147483629)), some (.int j)], _, .inl (by simp [bop, hm]), rfl, _, _, _, Int.emod_nonneg _ (by decide), Int.lt_trans (Int.emod_lt_of_pos _ (by decide)) (by decide), rfl⟩)
    exact ⟨t, by simp⟩
  · have h2 : decide (cell < 1000000000000000000) = false := by simpa using h
    refine ⟨cell - 10 ^ 18, ?_⟩
    simp [bop, cmpD, ltD, h2]
theorem bound_sp (L : LawT T) (n i b : Nat) (S : Store) (v : Int) (hi : i < S.length) : ∃ (r v' : Int), callN T (n + 2) "_law_bound" false [.ref i] b (hold S i v) = .ok (.int r) (hold S i v') ∧ 1 ≤ r ∧ r ≤ 99 := by
  have h1 := mod_in v 99 (by decide)
  have h2 := mod_in (v / 99) 8 (by decide)
  obtain ⟨x, hx, hm, _⟩ := at_in [D.int 1, .int 1, .int 2, .int 2, .int 3, .int 5, .int 99, .int (1 + v % 99)] (v / 99 % 8) h2.1 h2.2
  obtain ⟨r, rfl, r1, r2⟩ : ∃ r : Int, x = .int r ∧ 1 ≤ r ∧ r ≤ 99 := by
    simp only [List.mem_cons, List.not_mem_nil, or_false] at hm
    rcases hm with rfl | rfl | rfl | rfl | rfl | rfl | rfl | rfl <;> exact ⟨_, rfl, by omega, by omega⟩
  refine ⟨r, v / 99 / 8, ?_, r1, r2⟩
  rw [call_is L.bound rfl]
  simp [Ulaw_bound, Fn.start, take_sp L, hi, bop, -at_pos, hx]
end
end CL
namespace CL
open PySem PySem.Spec PyProof.Rows L2
def low : List Nat := [97, 98, 99, 100, 101, 102, 103, 104, 105, 106, 107, 108, 109]
def wordsL (ah be rot : List Nat) (many : Nat) : List (List Nat) := ((rot.map fun s => ah ++ [s] ++ be) ++ (rot.map fun s => ah ++ [s] ++ be ++ [122])).take many
theorem words_ok (ah be rot : List Nat) (many : Nat) (h1 : ∀ x ∈ ah, x ∈ low) (h2 : ∀ x ∈ be, x ∈ low) (h3 : ah.length + be.length ≤ 6) (hr : rot.Perm abc) :
    (wordsL ah be rot many).length = min many 52 ∧ (wordsL ah be rot many).Nodup ∧ ∀ l ∈ wordsL ah be rot many, isNm l = true := by
  have hl : rot.length = 26 := hr.length_eq
  have hnd : rot.Nodup := hr.nodup_iff.mpr (by decide)
  have hm : ∀ x, x ∈ rot ↔ x ∈ abc := fun x => hr.mem_iff
  have low_le : ∀ x ∈ low, x ≤ 109 := by decide
  have low_abc : ∀ x ∈ low, x ∈ abc := by decide
  have cnt : ∀ l : List Nat, (∀ x ∈ l, x ∈ low) → l.countP (fun x => decide (109 < x)) = 0 := fun l hl => by
    rw [List.countP_eq_zero]
    intro x hx
    have := low_le x (hl x hx)
    simp; omega
  have nm : ∀ s ∈ rot, ∀ z : List Nat, (z = [] ∨ z = [122]) → isNm (ah ++ [s] ++ be ++ z) = true := by
    intro s hs z hz
    have ha : ∀ x ∈ ah ++ [s] ++ be ++ z, x ∈ abc := by
      intro x hx
      simp only [List.mem_append, List.mem_singleton] at hx
      rcases hx with ((hx | rfl) | hx) | hx
      · exact low_abc x (h1 x hx)
      · exact (hm x).mp hs
      · exact low_abc x (h2 x hx)
      · rcases hz with rfl | rfl
        · cases hx
        · rw [List.mem_singleton.mp hx]; decide
    have n1 : ah ++ [s] ++ be ++ z ≠ [111, 117, 116] := by
      intro e
      rcases hz with rfl | rfl
      · have := congrArg (List.countP fun x => decide (109 < x)) e
        simp only [List.countP_append, cnt ah h1, cnt be h2, List.append_nil] at this
        have h4 : List.countP (fun x => decide (109 < x)) [s] ≤ 1 := List.countP_le_length
        have h5 : List.countP (fun x => decide (109 < x)) [111, 117, 116] = 3 := by decide
        omega
      · have := congrArg List.getLast? e
        rw [List.getLast?_concat] at this
        cases this
    have n2 : ah ++ [s] ++ be ++ z ≠ [121, 97, 114, 100] := by
      intro e
      rcases hz with rfl | rfl
      · have := congrArg (List.countP fun x => decide (109 < x)) e
        simp only [List.countP_append, cnt ah h1, cnt be h2, List.append_nil] at this
        have h4 : List.countP (fun x => decide (109 < x)) [s] ≤ 1 := List.countP_le_length
        have h5 : List.countP (fun x => decide (109 < x)) [121, 97, 114, 100] = 2 := by decide
        omega
      · have := congrArg List.getLast? e
        rw [List.getLast?_concat] at this
        cases this
    have hz2 : z.length ≤ 1 := by rcases hz with rfl | rfl <;> simp
    unfold isNm
    simp only [Bool.and_eq_true, decide_eq_true_eq, Bool.not_eq_true', beq_eq_false_iff_ne, List.all_eq_true]
    refine ⟨?_, ?_, n1, n2, ha⟩
    · simp only [List.length_append, List.length_singleton]; omega
    · simp only [List.length_append, List.length_singleton]; omega
  refine ⟨?_, ?_, ?_⟩
  · simp [wordsL, hl]
  · refine (List.nodup_append.mpr ⟨?_, ?_, ?_⟩).sublist (List.take_sublist _ _)
    · exact List.Pairwise.map _ (fun a b hab e => hab (by simpa using e)) hnd
    · exact List.Pairwise.map _ (fun a b hab e => hab (by simpa using e)) hnd
    · intro x hx y hy e
      simp only [List.mem_map] at hx hy
      obtain ⟨s, _, rfl⟩ := hx
      obtain ⟨t, _, rfl⟩ := hy
      have := congrArg List.length e
      simp only [List.length_append, List.length_singleton] at this
      omega
  · intro l hl
    have := List.mem_of_mem_take hl
    simp only [List.mem_append, List.mem_map] at this
    rcases this with ⟨s, hs, rfl⟩ | ⟨s, hs, rfl⟩
    · simpa using nm s hs [] (.inl rfl)
    · simpa using nm s hs [122] (.inr rfl)
theorem cut_lo (l : List Nat) (i : Int) (h : 0 ≤ i) (h2 : i ≤ l.length) : cutL l (some i) none = l.drop i.toNat := by
  unfold cutL clipI
  have : ¬ i < 0 := by omega
  simp only [this, if_false]
  rw [Nat.min_eq_left (by omega), List.take_of_length_le (by simp)]
theorem cut_hi {α : Type} (l : List α) (i : Int) (h : 0 ≤ i) : cutL l none (some i) = l.take i.toNat := by
  unfold cutL clipI
  have : ¬ i < 0 := by omega
  simp only [this, if_false, List.drop_zero, Nat.sub_zero]
  by_cases q : i.toNat ≤ l.length
  · rw [Nat.min_eq_left q]
  · rw [Nat.min_eq_right (by omega), List.take_of_length_le (by omega), List.take_of_length_le (by omega)]
theorem join_ones (w : List Nat) (h : w.length ≤ 1000) : mbD .join (.str []) [.lst (w.map fun ch => .str [ch])] = some (.str w) := by
  have t : txts (w.map fun ch => .str [ch]) = some (w.map fun ch => [ch]) := by
    rw [← txts_strs, List.map_map]
    rfl
  have fl : (w.map fun ch => [ch]).flatten = w := by
    clear t h
    induction w with
    | nil => rfl
    | cons x w ih => simp [ih]
  have sm : ((w.map fun ch => [ch]).map List.length).sum = w.length := by
    clear t fl h
    induction w with
    | nil => rfl
    | cons x w ih => simp at ih ⊢; omega
  simp only [mbD, t]
  rw [if_pos (by rw [sm, List.length_nil, Nat.mul_zero]; exact lim_of (by omega)), join_eq, joinL_nil, fl]
section
variable {T : Text}
theorem words_sp (L : LawT T) (n i b : Nat) (S : Store) (v : Int) (many : Nat) (hi : i < S.length) : ∃ (ls : List (List Nat)) (v' : Int), callN T (n + 2) "_law_words" false [.ref i, .int many] b (hold S i v) = .ok (.lst (ls.map .str)) (hold S i v') ∧ ls.length = min many 52 ∧ ls.Nodup ∧ ∀ l ∈ ls, isNm l = true := by
  have k7 := mod_in v 7 (by decide)
  suffices H : ∀ Q : R D → Prop, (∀ (ah be rot : List Nat) (v' : Int), (∀ x ∈ ah, x ∈ low) → (∀ x ∈ be, x ∈ low) → ah.length + be.length ≤ 6 → rot.Perm abc → Q (.ok (.lst ((wordsL ah be rot many).map .str)) (hold S i v'))) → Q (callN T (n + 2) "_law_words" false [.ref i, .int many] b (hold S i v)) from
    H (fun r => ∃ (ls : List (List Nat)) (v' : Int), r = .ok (.lst (ls.map .str)) (hold S i v') ∧ ls.length = min many 52 ∧ ls.Nodup ∧ ∀ l ∈ ls, isNm l = true) fun ah be rot v' h1 h2 h3 h4 => ⟨_, v', rfl, words_ok ah be rot many h1 h2 h3 h4⟩
  intro Q hQ
  rw [call_is L.words rfl]
  have r1 : -10000000 ≤ 1 + v % 7 ∧ 1 + v % 7 ≤ 10000000 := by omega
  simp [Ulaw_words, Fn.start, take_sp L, hi, bop, ranges, kindD, mbId, r1]
  generalize hF : lcAll _ _ _ _ _ = F
  obtain ⟨xs, _, rfl, ⟨v1, rfl⟩, g1, g2⟩ := lcAll_go hF (fun S' => ∃ x, S' = hold S i x) (fun d => ∃ ch, d = .str [ch] ∧ ch ∈ low) rfl (lim_of (by simp; omega)) ⟨_, rfl⟩ (by
    rintro d hd _ ⟨x, rfl⟩
    have h13 := mod_in x 13 (by decide)
    obtain ⟨ch, c1, c2, _⟩ := at_in low (x % 13) h13.1 h13.2
    unfold low at c1
    exact ⟨.str [ch], hold S i (x / 13), by simp [take_sp L, hi, idxD, LIM, -at_pos, c1, Tg.slots, wipeE], ⟨_, rfl⟩, ch, rfl, c2⟩)
  simp only [List.length_map, List.length_range] at g2
  obtain ⟨w, rfl, hw⟩ : ∃ w : List Nat, xs = w.map (fun ch => .str [ch]) ∧ ∀ ch ∈ w, ch ∈ low := by
    clear hF g2
    induction xs with
    | nil => exact ⟨[], rfl, by simp⟩
    | cons x xs ih =>
      obtain ⟨w, rfl, h⟩ := ih fun y hy => g1 y (List.mem_cons_of_mem _ hy)
      obtain ⟨ch, rfl, hc⟩ := g1 x List.mem_cons_self
      exact ⟨ch :: w, rfl, by simpa using ⟨hc, h⟩⟩
  simp only [List.length_map] at g2
  have hwl : 1 ≤ w.length ∧ w.length ≤ 7 := by omega
  have hL : w.length ≤ 10000000 := by omega
  have hL2 : w.length ≤ 1000 := by omega
  have mj := join_ones w (by omega)
  have w1 : (0 : Int) < w.length := by omega
  have w2 : (w.length : Int) ≤ 1000000 := by omega
  have m1 := mod_in v1 w.length w1
  have m2 := mod_in (v1 / w.length) 26 (by decide)
  have ca : cutL w none (some (v1 % w.length)) = w.take (v1 % w.length).toNat := cut_hi _ _ m1.1
  have cb : cutL w (some (v1 % w.length + 1)) none = w.drop (v1 % w.length + 1).toNat := cut_lo _ _ (by omega) (by omega)
  have cc : cutL abc (some (v1 / w.length % 26)) none = abc.drop (v1 / w.length % 26).toNat := cut_lo _ _ m2.1 (by have : abc.length = 26 := rfl; omega)
  have cd : cutL abc none (some (v1 / w.length % 26)) = abc.take (v1 / w.length % 26).toNat := cut_hi _ _ m2.1
  have tk := fun x b => take_sp L n i b S x w.length hi w1 w2
  have hp : (abc.drop (v1 / w.length % 26).toNat ++ abc.take (v1 / w.length % 26).toNat).Perm abc := List.perm_append_comm.trans (by rw [List.take_append_drop])
  obtain ⟨rot, hrot⟩ : ∃ rot, rot = abc.drop (v1 / w.length % 26).toNat ++ abc.take (v1 / w.length % 26).toNat := ⟨_, rfl⟩
  have rt : bop .add (.str (abc.drop (v1 / w.length % 26).toNat)) (.str (abc.take (v1 / w.length % 26).toNat)) = some (.str rot) := by
    have a1 : (abc.drop (v1 / w.length % 26).toNat).length ≤ 1000 := by rw [List.length_drop]; have : abc.length = 26 := rfl; omega
    have a2 : (abc.take (v1 / w.length % 26).toNat).length ≤ 1000 := by rw [List.length_take]; have : abc.length = 26 := rfl; omega
    rw [bop_add_str _ _ a1 a2, hrot]
  rw [← hrot] at hp
  clear hrot
  have ha : ∀ x ∈ w.take (v1 % w.length).toNat, x ∈ low := fun x hx => hw x (List.mem_of_mem_take hx)
  have hb : ∀ x ∈ w.drop (v1 % w.length + 1).toNat, x ∈ low := fun x hx => hw x (List.mem_of_mem_drop hx)
  have hab : (w.take (v1 % w.length).toNat).length + (w.drop (v1 % w.length + 1).toNat).length ≤ 6 := by
    rw [List.length_take, List.length_drop]; omega
  unfold abc at cc cd rt
  simp [bmD, MB.writes, mj, tk, kindD, vw, hL, fbD, lenD, take_sp L, hi, w1, w2, slD, ca, cb, cc, cd, LIM, rt, walkD]
  generalize (v1 / w.length / 26) = v2 at *
  generalize w.take (v1 % w.length).toNat = ah at *
  generalize w.drop (v1 % w.length + 1).toNat = be at *
  have hrl : rot.length = 26 := hp.length_eq
  generalize hF : lcAll _ _ _ _ _ = F
  have e := lcAll_of rot (fun c => .str [c]) (fun c => .str (ah ++ [c] ++ be)) hF rfl rfl (lim_of (by omega)) (by
    intro s _
    simp [wipeE, Tg.slots, bop_add_str, (show ah.length ≤ 1000 by omega), (show ah.length + 1 ≤ 1000 by omega), (show be.length ≤ 1000 by omega)])
  clear hF
  subst e
  simp [walkD, listD]
  generalize hF : lcAll _ _ _ _ _ = F
  have e := lcAll_of rot (fun c => .str (ah ++ [c] ++ be)) (fun c => .str (ah ++ [c] ++ be ++ [122])) hF (by simp) rfl (lim_of (by omega)) (by
    intro s _
    simp [wipeE, Tg.slots, bop_add_str, (show ah.length + (be.length + 1) ≤ 1000 by omega)])
  clear hF
  subst e
  simp [bop_add_lst, hrl, slD]
  have fe : cutL (List.map (fun c => D.str (ah ++ c :: be)) rot ++ List.map (fun c => D.str (ah ++ c :: (be ++ [122]))) rot) none (some (many : Int)) = (wordsL ah be rot many).map .str := by
    rw [cut_hi _ _ (Int.natCast_nonneg _), Int.toNat_natCast]
    simp [wordsL, List.map_take, Function.comp_def]
  rw [fe]
  simpa using hQ ah be rot v2 ha hb hab hp
end
end CL
namespace CL
open PySem PySem.Spec PyProof.Rows L2
abbrev Lane := List Nat × Int
abbrev Kind := List Nat × List Int × List Int
structure Plan where
  lanes : List Lane
  kinds : List Kind
def laneD (l : Lane) : D := .tup [.str l.1, .int l.2]
def kndD (k : Kind) : D := .tup [.str k.1, .way (k.2.1.map .int), .tup (k.2.2.map .int)]
def planD (p : Plan) : D := .tup [.tup (p.lanes.map laneD), .tup (p.kinds.map kndD)]
@[simp] theorem lim_lanes (n : Nat) (l : List Lane) : D.limL n (l.map laneD) = true := limL_all.mpr fun d hd => by
  obtain ⟨x, _, rfl⟩ := List.mem_map.mp hd
  simp [laneD]
@[simp] theorem lim_kinds (n : Nat) (l : List Kind) : D.limL n (l.map kndD) = true := limL_all.mpr fun d hd => by
  obtain ⟨x, _, rfl⟩ := List.mem_map.mp hd
  simp [kndD]
@[simp] theorem lim_plan (n : Nat) (p : Plan) : D.lim n (planD p) = true := by simp [planD]
def bdOk (i : Int) : Prop := 1 ≤ i ∧ i ≤ 99
structure KindOk (n : Nat) (k : Kind) : Prop where
  nm : isNm k.1 = true
  ne : k.2.1 ≠ []
  up : k.2.1.Pairwise (· < ·)
  lo : ∀ x ∈ k.2.1, 0 ≤ x ∧ x < n
  len : k.2.2.length = k.2.1.length
  bd : ∀ x ∈ k.2.2, bdOk x
structure PlanOk (p : Plan) : Prop where
  l1 : 1 ≤ p.lanes.length
  l2 : p.lanes.length ≤ 6
  ln : (p.lanes.map (·.1)).Nodup
  lm : ∀ l ∈ p.lanes, isNm l.1 = true ∧ bdOk l.2
  k1 : 1 ≤ p.kinds.length
  k2 : p.kinds.length ≤ 6
  kn : (p.kinds.map (·.1)).Nodup
  km : ∀ k ∈ p.kinds, KindOk p.lanes.length k
theorem eq_nil_ints (xs : List Int) : cmpD .eq (.lst (xs.map .int)) (.lst []) = some xs.isEmpty := by
  have : ∀ (n : Nat) (xs : List Int), D.datL (n + 1) (xs.map .int) = true := by
    intro n xs
    induction xs with
    | nil => rfl
    | cons x xs ih => simp [D.datL, D.dat, ih]
  show eqD _ _ = _
  unfold eqD
  rw [if_pos (by rw [Bool.and_eq_true]; exact ⟨by rw [D.dat]; exact this 19 xs, rfl⟩), eqv_nil]
  cases xs <;> rfl
theorem take_snoc {α : Type} {l : List α} {k : Nat} {x : α} (h : l[k]? = some x) : l.take (k + 1) = l.take k ++ [x] := by
  rw [List.take_succ, h]; rfl
section
variable {S : Store} {i : Nat} {v : Int} {ds : List D} {c : Cell}
theorem get_top (hi : i < S.length) : (hold (S ++ [c]) i v)[S.length]? = some c := by
  rw [hold_ne (show i ≠ S.length by omega)]; simp
theorem get_top1 {c' : Cell} (hi : i < S.length) : (hold (S ++ [c, c']) i v)[S.length]? = some c := by
  rw [hold_ne (show i ≠ S.length by omega)]; simp
theorem get_top2 {c' : Cell} (hi : i < S.length) : (hold (S ++ [c', c]) i v)[S.length + 1]? = some c := by
  rw [hold_ne (show i ≠ S.length + 1 by omega), List.getElem?_append_right (by omega)]; simp
theorem set_top {c' : Cell} (hi : i < S.length) : (hold (S ++ [c]) i v).set S.length c' = hold (S ++ [c']) i v := by
  rw [hold_set_ne (show i ≠ S.length by omega), List.set_append_right _ _ (Nat.le_refl _)]; simp
theorem set_top2 {c1 c' : Cell} (hi : i < S.length) : (hold (S ++ [c1, c]) i v).set (S.length + 1) c' = hold (S ++ [c1, c']) i v := by
  rw [hold_set_ne (show i ≠ S.length + 1 by omega), List.set_append_right _ _ (by omega)]; simp
theorem vw_top (hi : i < S.length) : vw (hold (S ++ [.lst ds]) i v) (.ref S.length) = .lst ds := by
  simp only [vw, get_top hi]
theorem vw_top2 (hi : i < S.length) : vw (hold (S ++ [c, .lst ds]) i v) (.ref (S.length + 1)) = .lst ds := by
  simp only [vw, get_top2 hi]
theorem vw_top1 (hi : i < S.length) : vw (hold (S ++ [.lst ds, c]) i v) (.ref S.length) = .lst ds := by
  simp only [vw, get_top1 hi]
theorem bm_app {S : Store} {j : Nat} (g : S[j]? = some (.lst ds)) (b : Nat) (x : D) (hl : ds.length ≤ 1000) (hx : x.lim 0 = true) : bmD .append (.ref j) [x] b S = .ok .non (S.set j (.lst (ds ++ [x]))) := by
  have h1 : ds.length < LIM := by unfold LIM; omega
  have h2 : (D.limL 0 [x] || decide (b ≤ j)) = true := by simp [hx]
  simp only [bmD, MB.writes, if_true, g, mcD, h1, h2]
theorem app_top (hi : i < S.length) (b : Nat) (x : D) (hl : ds.length ≤ 1000) (hx : x.lim 0 = true) : bmD .append (.ref S.length) [x] b (hold (S ++ [.lst ds]) i v) = .ok .non (hold (S ++ [.lst (ds ++ [x])]) i v) := by
  rw [bm_app (get_top hi) b x hl hx, set_top hi]
theorem app_top2 (hi : i < S.length) (b : Nat) (x : D) (hl : ds.length ≤ 1000) (hx : x.lim 0 = true) : bmD .append (.ref (S.length + 1)) [x] b (hold (S ++ [c, .lst ds]) i v) = .ok .non (hold (S ++ [c, .lst (ds ++ [x])]) i v) := by
  rw [bm_app (get_top2 hi) b x hl hx, set_top2 hi]
end
section
variable {T : Text}
theorem plan_sp (L : LawT T) (hp : Is T "_law_plan" Ulaw_plan) (n i b : Nat) (S : Store) (v : Int) (hi : i < S.length) : ∃ (p : Plan) (v' : Int), callN T (n + 3) "_law_plan" false [.ref i] b (hold S i v) = .ok (planD p) (hold S i v') ∧ PlanOk p := by
  obtain ⟨ls, v1, e1, l1, l2, l3⟩ := words_sp L n i S.length S v 12 hi
  rw [show min 12 52 = 12 from rfl] at l1
  suffices H : ∀ Q : R D → Prop, (∀ (p : Plan) (v' : Int), PlanOk p → Q (.ok (planD p) (hold S i v'))) → Q (callN T (n + 3) "_law_plan" false [.ref i] b (hold S i v)) from
    H (fun r => ∃ (p : Plan) (v' : Int), r = .ok (planD p) (hold S i v') ∧ PlanOk p) fun p v' h => ⟨p, v', rfl, h⟩
  intro Q hQ
  rw [call_is hp rfl]
  have a6 := mod_in v1 6 (by decide)
  have r1 : -10000000 ≤ 1 + v1 % 6 ∧ 1 + v1 % 6 ≤ 10000000 := by omega
  have e1' : callN T (n + 2) "_law_words" false [.ref i, .int 12] S.length (hold S i v) = .ok (.lst (ls.map .str)) (hold S i v1) := e1
  have h1 : i < S.length + 1 := by omega
  have h2 : i < S.length + 2 := by omega
  have tk1 : ∀ (c : Cell) (x : Int) (b : Nat) (m : Int), 0 < m → m ≤ 1000000 → callN T (n + 2) "_law_take" false [.ref i, .int m] b (hold (S ++ [c]) i x) = .ok (.int (x % m)) (hold (S ++ [c]) i (x / m)) := fun c x b m hm hm2 => take_sp L (n + 1) i b _ x m (by simpa using h1) hm hm2
  have tk2 : ∀ (c c2 : Cell) (x : Int) (b : Nat) (m : Int), 0 < m → m ≤ 1000000 → callN T (n + 2) "_law_take" false [.ref i, .int m] b (hold (S ++ [c, c2]) i x) = .ok (.int (x % m)) (hold (S ++ [c, c2]) i (x / m)) := fun c c2 x b m hm hm2 => take_sp L (n + 1) i b _ x m (by simpa using h2) hm hm2
  simp [Ulaw_plan, Fn.start, e1', tk1, hi, ranges, r1]
  generalize hF : forS _ _ _ _ _ _ _ _ = F
  obtain ⟨ρ', _, rfl, x, lanes, v2, rfl, rfl, q1, q2, q3⟩ := for_at hF (fun k ρ S' => ∃ (x : Option D) (m : List Lane) (v' : Int), ρ = [some (.ref i), some (.lst (ls.map .str)), some (.ref S.length), x, none, none, none, none, none] ∧ S' = hold (S ++ [.lst (m.map laneD)]) i v' ∧ m.length = k ∧ m.map (·.1) = ls.take k ∧ ∀ l ∈ m, bdOk l.2) rfl ⟨_, [], _, rfl, rfl, rfl, rfl, by simp⟩ (by
    rintro k d _ _ hd ⟨x, m, w, rfl, rfl, g1, g2, g3⟩
    obtain ⟨rfl, hk⟩ := get_range hd
    have hk : k < 6 := by omega
    obtain ⟨r, w', e, r2, r3⟩ := bound_sp L n i S.length (S ++ [.lst (m.map laneD)]) w (by simpa using h1)
    have hlk : ls[k]? = some ls[k] := List.getElem?_eq_getElem (by omega)
    refine ⟨_, asg_one _ _ _, fun Q hn _ => ?_⟩
    simp [vw_top hi, kindD, mbId, e, app_top hi, hlk, g1, (show k ≤ 1000 by omega)]
    refine hn _ _ ⟨_, m ++ [(ls[k], r)], w', rfl, by simp [laneD], by simp [g1], by rw [take_snoc hlk]; simp [g2], ?_⟩
    intro l hl
    rcases List.mem_append.mp hl with hl | hl
    · exact g3 l hl
    · rw [List.mem_singleton.mp hl]; exact ⟨r2, r3⟩)
  have hll : lanes.length = (1 + v1 % 6).toNat := by simpa using q1
  have b6 := mod_in (v2 / 7) 6 (by decide)
  have r2 : -10000000 ≤ 1 + v2 / 7 % 6 ∧ 1 + v2 / 7 % 6 ≤ 10000000 := by omega
  have b7 := mod_in v2 7 (by decide)
  obtain ⟨sh, hsh⟩ : ∃ sh : Nat, v2 % 7 = sh := ⟨(v2 % 7).toNat, by omega⟩
  clear hF
  simp [tk1, tk2, hi, h1, h2, ranges, r2, hsh]
  generalize hF : forS _ _ _ _ _ _ _ _ = F
  obtain ⟨ρ', _, rfl, y3, y6, y7, y8, kinds, v4, rfl, rfl, k1, k2, k3⟩ := for_at hF (fun k ρ S' => ∃ (y3 y6 y7 y8 : Option D) (m : List Kind) (v' : Int), ρ = [some (.ref i), some (.lst (ls.map .str)), some (.ref S.length), y3, some (.int sh), some (.ref (S.length + 1)), y6, y7, y8] ∧ S' = hold (S ++ [.lst (lanes.map laneD), .lst (m.map kndD)]) i v' ∧ m.length = k ∧ m.map (·.1) = (ls.drop sh).take k ∧ ∀ l ∈ m, KindOk lanes.length l) rfl ⟨_, _, _, _, [], _, rfl, rfl, rfl, rfl, by simp⟩ (by
    rintro k d _ _ hd ⟨y3, y6, y7, y8, m, w, rfl, rfl, g1, g2, g3⟩
    obtain ⟨rfl, hk⟩ := get_range hd
    have hk : k < 6 := by omega
    refine ⟨_, asg_one _ _ _, fun Q hn _ => ?_⟩
    have r3 : (lanes.length : Int) ≤ 10000000 := by omega
    have r4 : -10000000 ≤ (lanes.length : Int) := by omega
    simp [vw_top1 hi, fbD, lenD, ranges, r3, r4]
    generalize hF : lcAll _ _ _ _ _ = F
    obtain ⟨xs, _, rfl, ⟨w1, rfl⟩, sub⟩ := lcAll_sub hF (fun S' => ∃ x, S' = hold (S ++ [.lst (lanes.map laneD), .lst (m.map kndD)]) i x) rfl (lim_of (by simp; omega)) ⟨_, rfl⟩ (by
      rintro d hd _ ⟨x, rfl⟩
      obtain ⟨j, _, rfl⟩ := List.mem_map.mp hd
      by_cases hx : 0 < x % 3
      · exact ⟨some (.int j), hold (S ++ [.lst (lanes.map laneD), .lst (m.map kndD)]) i (x / 3), by simp [tk2, Tg.slots, wipeE, cmpD, ltD, hx], ⟨_, rfl⟩, .inr rfl⟩
      · exact ⟨none, hold (S ++ [.lst (lanes.map laneD), .lst (m.map kndD)]) i (x / 3), by simp [tk2, Tg.slots, wipeE, cmpD, ltD, hx], ⟨_, rfl⟩, .inl rfl⟩)
    clear hF
    obtain ⟨way0, sub0, rfl⟩ := List.sublist_map_iff.mp sub
    clear sub
    have up0 : (way0.map fun (k : Nat) => (k : Int)).Pairwise (· < ·) := by
      rw [List.pairwise_map]
      exact (List.pairwise_lt_range.sublist sub0).imp fun h => by omega
    have lo0 : ∀ x ∈ way0.map fun (k : Nat) => (k : Int), 0 ≤ x ∧ x < lanes.length := by
      intro x hx
      obtain ⟨j, hj, rfl⟩ := List.mem_map.mp hx
      have := List.mem_range.mp (sub0.subset hj)
      omega
    have ew : way0.map (fun (k : Nat) => D.int k) = (way0.map fun (k : Nat) => (k : Int)).map .int := by rw [List.map_map]; rfl
    rw [ew]
    have ln1 : (way0.map fun (k : Nat) => (k : Int)).length ≤ 6 := by
      have := sub0.length_le
      rw [List.length_range] at this
      rw [List.length_map]
      omega
    generalize way0.map (fun (k : Nat) => (k : Int)) = way1 at *
    simp [eq_nil_ints]
    generalize hT : Ss.cons (St.set (.one 7) _) _ = TAIL
    have tail : ∀ (way : List Int) (w : Int) (y3 y8 : Option D), way ≠ [] → way.Pairwise (· < ·) → (∀ x ∈ way, 0 ≤ x ∧ x < lanes.length) → way.length ≤ 6 → Q (exs S.length TAIL (ctxN T (n + 2)) [some (.ref i), some (.lst (ls.map .str)), some (.ref S.length), some (.int k), some (.int sh), some (.ref (S.length + 1)), some (.lst (way.map .int)), y7, y8] (hold (S ++ [.lst (lanes.map laneD), .lst (m.map kndD)]) i w)) := by
      intro way w y7 y8 q1 q2 q3 q4
      subst hT
      simp [walkD, listD]
      generalize hF : lcAll _ _ _ _ _ = F
      obtain ⟨xs, _, rfl, ⟨w2, rfl⟩, x1, x2⟩ := lcAll_go hF (fun S' => ∃ x, S' = hold (S ++ [.lst (lanes.map laneD), .lst (m.map kndD)]) i x) (fun d => ∃ r : Int, d = .int r ∧ bdOk r) rfl (lim_of (by simp; omega)) ⟨_, rfl⟩ (by
        rintro d hd _ ⟨x, rfl⟩
        obtain ⟨r, x', e, r2, r3⟩ := bound_sp L n i S.length (S ++ [.lst (lanes.map laneD), .lst (m.map kndD)]) x (by simpa using h2)
        exact ⟨.int r, hold (S ++ [.lst (lanes.map laneD), .lst (m.map kndD)]) i x', by simp [e, Tg.slots, wipeE], ⟨_, rfl⟩, r, rfl, r2, r3⟩)
      clear hF
      obtain ⟨bs, rfl, hbs⟩ : ∃ bs : List Int, xs = bs.map .int ∧ ∀ r ∈ bs, bdOk r := by
        clear x2
        induction xs with
        | nil => exact ⟨[], rfl, by simp⟩
        | cons x xs ih =>
          obtain ⟨bs, rfl, h⟩ := ih fun y hy => x1 y (List.mem_cons_of_mem _ hy)
          obtain ⟨r, rfl, hr⟩ := x1 x List.mem_cons_self
          exact ⟨r :: bs, rfl, by simpa using ⟨hr, h⟩⟩
      simp only [List.length_map] at x2
      have hlk : atD (ls.map D.str) ((k : Int) + sh) = some (.str ls[k + sh]) := by
        rw [at_pos _ _ (by omega), show ((k : Int) + sh).toNat = k + sh by omega, List.getElem?_map, List.getElem?_eq_getElem (by omega)]
        rfl
      have hls : (ls.drop sh)[k]? = some ls[k + sh] := by
        rw [List.getElem?_drop, List.getElem?_eq_getElem (by omega)]
        congr 2
        omega
      simp [fbD, vw_top2 hi, kindD, mbId, -at_pos, hlk, app_top2 hi, g1, (show k ≤ 1000 by omega)]
      refine hn _ _ ⟨_, _, _, _, m ++ [(ls[k + sh], way, bs)], w2, rfl, by simp [kndD], by simp [g1], by rw [take_snoc hls]; simp [g2], ?_⟩
      intro l hl
      rcases List.mem_append.mp hl with hl | hl
      · exact g3 l hl
      · rw [List.mem_singleton.mp hl]
        exact ⟨l3 _ (List.getElem_mem _), q1, q2, q3, x2, hbs⟩
    cases hne : way1.isEmpty with
    | false =>
      simp only [iteB_f, exs_nil, seqR_nx]
      exact tail way1 w1 y7 y8 (by intro e; rw [e] at hne; cases hne) up0 lo0 ln1
    | true =>
      have hn1 : (0 : Int) < lanes.length := by omega
      have md := mod_in w1 lanes.length hn1
      simp [vw_top1 hi, fbD, lenD, tk2 _ _ w1 _ (lanes.length : Int) hn1 (by omega)]
      exact tail [w1 % lanes.length] _ y7 y8 (by simp) (by simp) (by simpa using md) (by simp))
  simp [vw_top1 hi, vw_top2 hi, fbD]
  simp only [List.length_map, List.length_range] at q1 k1 q2 k2
  rw [hold_take hi, show (S ++ [Cell.lst (lanes.map laneD), Cell.lst (kinds.map kndD)]).take S.length = S by simp]
  refine hQ ⟨lanes, kinds⟩ v4 ⟨by simp only; omega, by simp only; omega, ?_, ?_, by simp only; omega, by simp only; omega, ?_, k3⟩
  · simp only
    rw [q2]
    exact l2.sublist (List.take_sublist _ _)
  · intro l hl
    refine ⟨l3 _ ?_, q3 l hl⟩
    have := List.mem_map_of_mem (f := fun x : Lane => x.1) hl
    rw [q2] at this
    exact List.mem_of_mem_take this
  · simp only
    rw [k2]
    exact l2.sublist ((List.take_sublist _ _).trans (List.drop_sublist _ _))
end
end CL
namespace CL
open PySem PySem.Spec PyProof.Rows L2
structure NameT (T : Text) : Prop where
  is_name : Is T "is_name" P_is_name
  is_whole : Is T "is_whole" P_is_whole
  is_bound : Is T "is_bound" P_is_bound
  letters : T.con "LETTERS" = some (.str [97, 98, 99, 100, 101, 102, 103, 104, 105, 106, 107, 108, 109, 110, 111, 112, 113, 114, 115, 116, 117, 118, 119, 120, 121, 122])
  signs : T.con "MOST_SIGNS" = some (.int 8)
  most : T.con "MOST_BOUND" = some (.int 99)
structure PlansT (T : Text) : Prop extends NameT T where
  is_row_of : T.fns "is_row_of" = some P_is_row_of
  all_unlike : T.fns "all_unlike" = some P_all_unlike
  are_lanes : T.fns "are_lanes" = some P_are_lanes
  is_way : T.fns "is_way" = some P_is_way
  are_kinds : T.fns "are_kinds" = some P_are_kinds
  is_plan : T.fns "is_plan" = some P_is_plan
  lanes : T.con "MOST_LANES" = some (.int 6)
mutual
def D.small : D → Bool
  | .non => true
  | .bl _ => true
  | .int _ => true
  | .str l => decide (l.length ≤ 1000)
  | .tup ds => decide (ds.length ≤ 1000) && D.smallL ds
  | .lst ds => decide (ds.length ≤ 1000) && D.smallL ds
  | .way ds => decide (ds.length ≤ 1000) && D.smallL ds
  | _ => false
def D.smallL : List D → Bool
  | [] => true
  | d :: ds => d.small && D.smallL ds
end
theorem smallL_all : ∀ {ds : List D}, D.smallL ds = true ↔ ∀ d ∈ ds, d.small = true
  | [] => by simp [D.smallL]
  | d :: ds => by rw [D.smallL, Bool.and_eq_true, smallL_all]; simp
def nmD : D → Bool
  | .str l => isNm l
  | _ => false
def whB : D → Bool
  | .int _ => true
  | _ => false
def bdB : D → Bool
  | .int i => decide (1 ≤ i) && decide (i ≤ 99)
  | _ => false
def isTup (d : D) : Bool := (tupD d).isSome
def rowB (m : Nat) (d : D) : Bool := match tupD d with
  | some ds => ds.length == m && (match ds[0]? with | some x => nmD x | none => false)
  | none => false
section
variable {T : Text}
theorem small_str {d : D} (h : d.small = true) (c : Ctx) (S : Store) : (∃ l, d = .str l ∧ l.length ≤ 1000) ∨ (isaAny c (vw S d) ["str"] = some false ∧ nmD d = false) := by
  cases d with
  | str l => exact .inl ⟨l, rfl, by simpa [D.small] using h⟩
  | ref i => simp [D.small] at h
  | _ => first | exact .inr ⟨rfl, rfl⟩ | simp [D.small] at h
theorem strs_filter (l : List Nat) : (l.map fun ch => D.str [ch]).filterMap (fun d => match d with | .str [ch] => if ch ∈ abc then none else some d | _ => none) = (l.filter fun ch => decide (ch ∉ abc)).map fun ch => D.str [ch] := by
  induction l with
  | nil => rfl
  | cons ch l ih =>
    by_cases h : ch ∈ abc
    · simp [h, ih]
    · simp [h, ih]
theorem is_name_sp (L : NameT T) (n : Nat) (d : D) (b : Nat) (S : Store) (h : d.small = true) : callN T (n + 1) "is_name" false [d] b S = .ok (.bl (nmD d)) S := by
  rw [call_is L.is_name rfl]
  rcases small_str h (ctxN T n) S with ⟨l, rfl, hl⟩ | ⟨e, e2⟩
  · have hL : l.length ≤ LIM := lim_of hl
    have key : ∀ b, lcAll (lcTwo (ctxN T n) b (.var 1) (.cmp .notIn (.var 1) (.gcon "LETTERS")) (.one 1)) (.one 1) [some (.str l), none] ⟨l.map fun c => .str [c], []⟩ S = .ok ((l.filter fun ch => !decide (ch ∈ abc)).map fun c => .str [c]) S := fun b =>
      lcAll_pass l (fun c => .str [c]) (fun c => .str [c]) (fun ch => !decide (ch ∈ abc)) rfl rfl rfl hL fun ch _ => by
        by_cases hc : ch ∈ abc
        · have hc' := hc
          unfold abc at hc'
          simp [Tg.slots, wipeE, L.letters, cmpD, inD, hc, hc']
        · have hc' := hc
          unfold abc at hc'
          simp [Tg.slots, wipeE, L.letters, cmpD, inD, hc, hc']
    have e0 : ((l.filter fun ch => !decide (ch ∈ abc)).map fun c => D.str [c]).isEmpty = l.all fun ch => decide (ch ∈ abc) := by
      rw [Bool.eq_iff_iff]
      simp [List.isEmpty_iff]
    have e1 : cmpD .eq (vw S (.lst ((l.filter fun ch => !decide (ch ∈ abc)).map fun c => D.str [c]))) (vw S (.lst [])) = some (l.all fun ch => decide (ch ∈ abc)) := by
      rw [eq_signs, ← e0]
      simp
    simp only [vw_lst] at e1
    have nmE : nmD (.str l) = (decide (1 ≤ (l.length : Int)) && (decide ((l.length : Int) ≤ 8) && (!(l == [111, 117, 116]) && (!(l == [121, 97, 114, 100]) && l.all fun ch => decide (ch ∈ abc))))) := by
      have d1 : decide (1 ≤ l.length) = decide (1 ≤ (l.length : Int)) := by rw [decide_eq_decide]; omega
      have d2 : decide (l.length ≤ 8) = decide ((l.length : Int) ≤ 8) := by rw [decide_eq_decide]; omega
      show (decide (1 ≤ l.length) && (decide (l.length ≤ 8) && _)) = _
      rw [d1, d2]
    rw [nmE]
    by_cases h1 : 1 ≤ (l.length : Int)
    · by_cases h2 : (l.length : Int) ≤ 8
      · cases h3 : l == [111, 117, 116] with
        | true => simp [P_is_name, Fn.start, isaAny, isaD, fbD, lenD, hL, L.signs, walkD, h1, h2, h3]
        | false =>
          cases h4 : l == [121, 97, 114, 100] with
          | true => simp [P_is_name, Fn.start, isaAny, isaD, fbD, lenD, hL, L.signs, walkD, h1, h2, h3, h4]
          | false => simp [P_is_name, Fn.start, isaAny, isaD, fbD, lenD, hL, L.signs, walkD, h1, h2, h3, h4, key, e1]
      · simp [P_is_name, Fn.start, isaAny, isaD, fbD, lenD, hL, L.signs, walkD, h1, h2]
    · simp [P_is_name, Fn.start, isaAny, isaD, fbD, lenD, hL, L.signs, walkD, h1]
  · rw [e2]
    simp [P_is_name, Fn.start, e]
theorem is_whole_sp (L : NameT T) (n : Nat) (d : D) (b : Nat) (S : Store) (h : d.small = true) : callN T (n + 1) "is_whole" false [d] b S = .ok (.bl (whB d)) S := by
  rw [call_is L.is_whole rfl]
  cases d <;> first | (simp [D.small] at h; done) | simp [P_is_whole, Fn.start, isaAny, isaD, whB]
theorem is_bound_sp (L : NameT T) (n : Nat) (d : D) (b : Nat) (S : Store) (h : d.small = true) : callN T (n + 2) "is_bound" false [d] b S = .ok (.bl (bdB d)) S := by
  rw [call_is L.is_bound rfl]
  have e := is_whole_sp L n d S.length S h
  cases d with
  | int i =>
    simp only [whB] at e
    by_cases h1 : 1 ≤ i <;> simp [P_is_bound, Fn.start, e, bdB, L.most, h1]
  | _ => first | (simp [D.small] at h; done) | (simp only [whB] at e; simp [P_is_bound, Fn.start, e, bdB])
theorem is_row_sp (L : PlansT T) (n : Nat) (d : D) (m : Nat) (hm : 0 < m) (b : Nat) (S : Store) (h : d.small = true) : callN T (n + 2) "is_row_of" false [d, .int m] b S = .ok (.bl (rowB m d)) S := by
  rw [call_eq L.is_row_of rfl, run_res]
  have tp : ∀ ds : List D, D.smallL ds = true → (ds.length == m) = true → ∃ x, ds[0]? = some x ∧ x.small = true := by
    intro ds hs hl
    cases ds with
    | nil => simp at hl; omega
    | cons x ds => exact ⟨x, rfl, smallL_all.mp hs x List.mem_cons_self⟩
  cases d with
  | tup ds =>
    cases hl : ds.length == m with
    | false => simp [P_is_row_of, Fn.start, isaAny, isaD, fbD, lenD, rowB, tupD, hl]
    | true =>
      obtain ⟨x, hx, hs⟩ := tp ds (by simp [D.small] at h; exact h.2) hl
      simp [P_is_row_of, Fn.start, isaAny, isaD, fbD, lenD, rowB, tupD, hl, hx, is_name_sp L.toNameT n x _ _ hs]
  | way ds =>
    cases hl : ds.length == m with
    | false => simp [P_is_row_of, Fn.start, isaAny, isaD, fbD, lenD, rowB, tupD, hl]
    | true =>
      obtain ⟨x, hx, hs⟩ := tp ds (by simp [D.small] at h; exact h.2) hl
      simp [P_is_row_of, Fn.start, isaAny, isaD, fbD, lenD, rowB, tupD, hl, hx, is_name_sp L.toNameT n x _ _ hs]
  | _ => first | (simp [D.small] at h; done) | simp [P_is_row_of, Fn.start, isaAny, isaD, rowB, tupD]
end
end CL
namespace CL
open PySem PySem.Spec PyProof.Rows L2
theorem firsts_len : ∀ (ls : List (List Nat)) (acc : List D), (firsts acc (ls.map .str)).length ≤ ls.length
  | [], _ => by simp [firsts]
  | l :: ls, acc => by
    rw [List.map_cons, firsts]
    split
    · have := firsts_len ls acc
      simp only [List.length_cons]; omega
    · have := firsts_len ls (acc ++ [.str l])
      simp only [List.length_cons]; omega
theorem firsts_nodup : ∀ (ls : List (List Nat)) (acc : List (List Nat)), ((firsts (acc.map .str) (ls.map .str)).length == ls.length) = decide (ls.Nodup ∧ ∀ l ∈ ls, l ∉ acc)
  | [], acc => by simp [firsts]
  | l :: ls, acc => by
    rw [List.map_cons, firsts]
    have e : ((acc.map D.str).any fun z => D.eqv z (.str l)) = decide (l ∈ acc) := by
      rw [Bool.eq_iff_iff]
      simp [D.eqv]
    rw [e]
    by_cases h : l ∈ acc
    · rw [if_pos (by simpa using h)]
      have := firsts_len ls (acc.map .str)
      rw [Bool.eq_iff_iff]
      simp only [beq_iff_eq, List.length_cons, decide_eq_true_eq]
      constructor
      · intro q; omega
      · rintro ⟨_, q⟩
        exact absurd h (q l List.mem_cons_self)
    · rw [if_neg (by simpa using h)]
      have ih := firsts_nodup ls (acc ++ [l])
      rw [List.map_append] at ih
      simp only [List.map_cons, List.map_nil] at ih
      rw [Bool.eq_iff_iff] at ih ⊢
      simp only [beq_iff_eq, List.length_cons, decide_eq_true_eq, Nat.add_right_cancel_iff] at ih ⊢
      rw [ih, List.nodup_cons]
      constructor
      · rintro ⟨h1, h2⟩
        refine ⟨⟨fun q => (h2 l q) (by simp), h1⟩, fun x hx => ?_⟩
        rcases List.mem_cons.mp hx with rfl | hx
        · exact h
        · intro q; exact h2 x hx (by simp [q])
      · rintro ⟨⟨h1, h2⟩, h3⟩
        refine ⟨h2, fun x hx q => ?_⟩
        rcases List.mem_append.mp q with q | q
        · exact h3 x (List.mem_cons_of_mem _ hx) q
        · rw [List.mem_singleton.mp q] at hx; exact h1 hx
def firstD (d : D) : List Nat := match tupD d with
  | some (.str l :: _) => l
  | _ => []
def itemD (d : D) (i : Nat) : D := match tupD d with
  | some ds => (ds[i]?).getD .non
  | none => .non
def lanesB (d : D) : Bool := match tupD d with
  | some ds => decide (1 ≤ ds.length) && (decide (ds.length ≤ 6) && ((ds.all fun x => rowB 2 x && bdB (itemD x 1)) && decide (ds.map firstD).Nodup))
  | none => false
def riseB (many : Int) : Int → List D → Bool
  | _, [] => true
  | last, .int x :: r => decide (last < x) && (decide (x < many) && riseB many x r)
  | _, _ :: _ => false
def wayB (many : Int) (d : D) : Bool := match tupD d with
  | some ds => !ds.isEmpty && riseB many (-1) ds
  | none => false
def lenT (d : D) : Nat := match tupD d with
  | some ds => ds.length
  | none => 0
def kindB (many : Int) (x : D) : Bool := rowB 3 x && (wayB many (itemD x 1) && (isTup (itemD x 2) && ((lenT (itemD x 2) == lenT (itemD x 1)) && ((tupD (itemD x 2)).getD []).all bdB)))
def kindsB (many : Int) (d : D) : Bool := match tupD d with
  | some ds => decide (1 ≤ ds.length) && (decide (ds.length ≤ 6) && ((ds.all (kindB many)) && decide (ds.map firstD).Nodup))
  | none => false
def planB (d : D) : Bool := match tupD d with
  | some [l, k] => lanesB l && kindsB (lenT l) k
  | _ => false
theorem tup_cases {d : D} (h : d.small = true) : (∃ ds, (d = .tup ds ∨ d = .way ds) ∧ tupD d = some ds ∧ ds.length ≤ 1000 ∧ (∀ x ∈ ds, x.small = true)) ∨ ((∀ (c : Ctx) (S : Store), isaAny c (vw S d) ["tuple"] = some false) ∧ tupD d = none) := by
  cases d with
  | tup ds =>
    simp only [D.small, Bool.and_eq_true, decide_eq_true_eq] at h
    exact .inl ⟨ds, .inl rfl, rfl, h.1, smallL_all.mp h.2⟩
  | way ds =>
    simp only [D.small, Bool.and_eq_true, decide_eq_true_eq] at h
    exact .inl ⟨ds, .inr rfl, rfl, h.1, smallL_all.mp h.2⟩
  | _ => first | exact .inr ⟨fun _ _ => rfl, rfl⟩ | simp [D.small] at h
theorem row_shape {m : Nat} {d : D} (h : rowB (m + 1) d = true) (hs : d.small = true) : ∃ l ds, (d = .tup (.str l :: ds) ∨ d = .way (.str l :: ds)) ∧ tupD d = some (.str l :: ds) ∧ ds.length = m ∧ isNm l = true ∧ firstD d = l ∧ (∀ x ∈ ds, x.small = true) := by
  rcases tup_cases hs with ⟨ds, hd, e, _, hsm⟩ | ⟨_, e⟩
  · unfold rowB at h
    rw [e] at h
    simp only [Bool.and_eq_true, beq_iff_eq] at h
    cases ds with
    | nil => simp at h
    | cons x ds =>
      cases x with
      | str l => exact ⟨l, ds, hd, e, by simpa using h.1, by simpa [nmD] using h.2, by unfold firstD; rw [e], fun x hx => hsm x (List.mem_cons_of_mem _ hx)⟩
      | _ => simp [nmD] at h
  · unfold rowB at h
    rw [e] at h
    cases h
section
variable {T : Text}
theorem all_unlike_sp (L : PlansT T) (n : Nat) (ls : List (List Nat)) (b : Nat) (S : Store) (hl : ls.length ≤ 1000) : callN T (n + 1) "all_unlike" false [.lst (ls.map .str)] b S = .ok (.bl (decide ls.Nodup)) S := by
  rw [call_eq L.all_unlike rfl, run_res]
  have e := firsts_nodup ls []
  simp only [List.map_nil, List.not_mem_nil, not_false_eq_true, implies_true, and_true] at e
  have h4 : ls.length ≤ 4000 := by omega
  rw [← e]
  simp [P_all_unlike, Fn.start, lsetD, txts_strs, h4, fbD, lenD]
theorem names_lc {T : Text} {n b i : Nat} {ρ : Env} {S : Store} {ds : List D} {m : Nat} {F : R (List D)} (hi : i < ρ.length) (hF : lcAll (lcOne (ctxN T n) b (.idx (.var i) (.int 0)) (.one i)) (.one i) ρ ⟨ds, []⟩ S = F) (hl : ds.length ≤ 1000) (h : ∀ x ∈ ds, rowB (m + 1) x = true) (hs : ∀ x ∈ ds, x.small = true) : F = .ok ((ds.map firstD).map .str) S := by
  rw [List.map_map]
  refine lcAll_is hF (D.str ∘ firstD) rfl (lim_of hl) fun d hd => ?_
  obtain ⟨l, r, q, _, _, _, q2, _⟩ := row_shape (h d hd) (hs d hd)
  rcases q with rfl | rfl <;> simp [Tg.slots, wipeE, hi, q2]
theorem are_lanes_sp (L : PlansT T) (n : Nat) (d : D) (b : Nat) (S : Store) (h : d.small = true) : callN T (n + 3) "are_lanes" false [d] b S = .ok (.bl (lanesB d)) S := by
  rw [call_eq L.are_lanes rfl, run_res]
  rcases tup_cases h with ⟨ds, hd, et, hl, hs⟩ | ⟨e, e2⟩
  · have ek : isaAny (ctxN T (n + 2)) (vw S d) ["tuple"] = some true := by rcases hd with rfl | rfl <;> rfl
    have el : lenD (vw S d) = some ds.length := by rcases hd with rfl | rfl <;> rfl
    have ew : walkD S d = some ⟨ds, []⟩ := by rcases hd with rfl | rfl <;> rfl
    have lB : lanesB d = (decide (1 ≤ (ds.length : Int)) && (decide ((ds.length : Int) ≤ 6) && ((ds.all fun x => rowB 2 x && bdB (itemD x 1)) && decide (ds.map firstD).Nodup))) := by
      unfold lanesB
      rw [et]
      have d1 : decide (1 ≤ ds.length) = decide (1 ≤ (ds.length : Int)) := by rw [decide_eq_decide]; omega
      have d2 : decide (ds.length ≤ 6) = decide ((ds.length : Int) ≤ 6) := by rw [decide_eq_decide]; omega
      show (decide (1 ≤ ds.length) && (decide (ds.length ≤ 6) && _)) = _
      rw [d1, d2]
    rw [lB]
    by_cases h1 : 1 ≤ (ds.length : Int)
    · by_cases h2 : (ds.length : Int) ≤ 6
      · simp [P_are_lanes, Fn.start, ek, el, fbD, h1, h2, L.lanes, ew]
        generalize hF : forS _ _ _ _ _ _ _ _ = F
        have := for_or hF (fun k ρ S' => S' = S ∧ (∃ x, ρ = [some d, x]) ∧ ∀ x ∈ ds.take k, (rowB 2 x && bdB (itemD x 1)) = true) (fun r S' => S' = S ∧ r = .bl false ∧ (ds.all fun x => rowB 2 x && bdB (itemD x 1)) = false) rfl ⟨rfl, ⟨_, rfl⟩, by simp⟩ (by
          rintro k x _ S hx ⟨rfl, ⟨y, rfl⟩, hp⟩
          refine ⟨_, asg_one _ _ _, fun Q hn _ hz => ?_⟩
          have hm := List.mem_of_getElem? hx
          have hsx := hs x hm
          have er : callN T (n + 2) "is_row_of" false [x, .int 2] S.length S = .ok (.bl (rowB 2 x)) S := is_row_sp L n x 2 (by decide) S.length S hsx
          cases hr : rowB 2 x with
          | false =>
            rw [hr] at er
            simp [er]
            exact hz _ _ ⟨rfl, rfl, by rw [List.all_eq_false]; exact ⟨x, hm, by simp [hr]⟩⟩
          | true =>
            rw [hr] at er
            obtain ⟨l, r, q, q1, q2, _, _, q4⟩ := row_shape hr hsx
            obtain ⟨y, rfl⟩ : ∃ y, r = [y] := by
              match r, q2 with
              | [y], _ => exact ⟨y, rfl⟩
            have eb := is_bound_sp L.toNameT n y S.length S (q4 y (by simp))
            have ei : itemD x 1 = y := by unfold itemD; rw [q1]; rfl
            have ev : idxD (vw S x) (.int 1) = some y := by rcases q with rfl | rfl <;> rfl
            cases hb : bdB y with
            | false =>
              rw [hb] at eb
              simp [er, ev, eb]
              exact hz _ _ ⟨rfl, rfl, by rw [List.all_eq_false]; exact ⟨x, hm, by simp [hr, ei, hb]⟩⟩
            | true =>
              rw [hb] at eb
              simp [er, ev, eb]
              refine hn _ _ ⟨rfl, ⟨_, rfl⟩, fun z hz => ?_⟩
              rw [take_snoc hx] at hz
              rcases List.mem_append.mp hz with hz | hz
              · exact hp z hz
              · rw [List.mem_singleton.mp hz, hr, ei, hb]; rfl)
        rcases this with ⟨ρ', S, rfl, rfl, ⟨y, rfl⟩, hp⟩ | ⟨r, S, rfl, rfl, rfl, ha⟩
        · rw [List.take_length] at hp
          clear hF
          have ha : (ds.all fun x => rowB 2 x && bdB (itemD x 1)) = true := List.all_eq_true.mpr hp
          simp [ew]
          generalize hF : lcAll _ _ _ _ _ = F
          have e := names_lc (m := 1) (by simp) hF hl (fun x hx => (Bool.and_eq_true_iff.mp (hp x hx)).1) hs
          clear hF
          subst e
          have au := all_unlike_sp L (n + 1) (ds.map firstD) S.length S (by rw [List.length_map]; exact hl)
          rw [List.map_map] at au
          simp [au, ha]
        · rw [ha]
          simp
      · simp [P_are_lanes, Fn.start, ek, el, fbD, h1, h2, L.lanes]
    · simp [P_are_lanes, Fn.start, ek, el, fbD, h1]
  · unfold lanesB
    rw [e2]
    simp [P_are_lanes, Fn.start, e]
theorem is_way_sp (L : PlansT T) (n : Nat) (d : D) (many : Int) (b : Nat) (S : Store) (h : d.small = true) : callN T (n + 2) "is_way" false [d, .int many] b S = .ok (.bl (wayB many d)) S := by
  rw [call_eq L.is_way rfl, run_res]
  rcases tup_cases h with ⟨ds, hd, et, hl, hs⟩ | ⟨e, e2⟩
  · have ek : isaAny (ctxN T (n + 1)) (vw S d) ["tuple"] = some true := by rcases hd with rfl | rfl <;> rfl
    have el : lenD (vw S d) = some ds.length := by rcases hd with rfl | rfl <;> rfl
    have ew : walkD S d = some ⟨ds, []⟩ := by rcases hd with rfl | rfl <;> rfl
    have lB : wayB many d = (!ds.isEmpty && riseB many (-1) ds) := by
      unfold wayB
      rw [et]
    rw [lB]
    cases ds with
    | nil => simp [P_is_way, Fn.start, ek, el, fbD]
    | cons x0 r0 =>
      have h0 : ((r0.length : Int) + 1 == 0) = false := by rw [beq_eq_false_iff_ne]; omega
      simp [P_is_way, Fn.start, ek, el, fbD, ew, h0]
      generalize hds : x0 :: r0 = ds at *
      clear hds h0
      generalize hF : forS _ _ _ _ _ _ _ _ = F
      have key : ∀ (items : List D) (last : Int) (x : Option D), (∀ x ∈ items, x.small = true) → ∀ F, forS S.length (.one 3) (.cons (.ite (.or (.cons (.not (.call "is_whole" false (.cons (.var 3) .nil))) (.cons (.not (.chain .lt .lt (.var 2) (.var 3) (.var 1))) .nil))) (.cons (.ret (.bl false)) .nil) .nil) (.cons (.set (.one 2) (.var 3)) .nil)) (ctxN T (n + 1)) ⟨ds, []⟩ items [some d, some (.int many), some (.int last), x] S = F →
          if riseB many last items = true then ∃ l x, F = .ok (.nx [some d, some (.int many), some (.int l), x]) S else F = .ok (.rt (.bl false)) S := by
        intro items
        induction items with
        | nil =>
          intro last x _ F hF
          rw [if_pos (show riseB many last [] = true from rfl), ← hF]
          exact ⟨last, x, by simp [forS, forL, Walk.still]⟩
        | cons y items ih =>
          intro last x hs F hF
          have ewh := is_whole_sp L.toNameT n y S.length S (hs y List.mem_cons_self)
          have st : (⟨ds, []⟩ : Walk).still S = true := rfl
          rw [forS, forL] at hF
          simp only [st, if_true, asg_one] at hF
          cases y with
          | int i =>
            simp only [whB] at ewh
            by_cases h1 : last < i
            · by_cases h2 : i < many
              · simp [ewh, h1, h2] at hF
                have := ih i (some (.int i)) (fun x hx => hs x (List.mem_cons_of_mem _ hx)) F hF
                simpa [riseB, h1, h2] using this
              · simp [ewh, h1, h2] at hF
                simp [riseB, h1, h2, hF]
            · simp [ewh, h1] at hF
              simp [riseB, h1, hF]
          | _ =>
            simp only [whB] at ewh
            simp [ewh] at hF
            simp [riseB, hF]
      have := key ds (-1) none hs F hF
      cases hr : riseB many (-1) ds with
      | true =>
        rw [hr, if_pos rfl] at this
        obtain ⟨l, x, rfl⟩ := this
        simp
      | false =>
        rw [hr, if_neg (by decide)] at this
        rw [this]
        simp
  · unfold wayB
    rw [e2]
    simp [P_is_way, Fn.start, e]
end
end CL
namespace CL
open PySem PySem.Spec PyProof.Rows L2
theorem row3 {d : D} (h : rowB 3 d = true) (hs : d.small = true) : ∃ l y z, (d = .tup [.str l, y, z] ∨ d = .way [.str l, y, z]) ∧ y.small = true ∧ z.small = true := by
  obtain ⟨l, r, q, _, q2, _, _, q4⟩ := row_shape h hs
  match r, q2 with
  | [y, z], _ => exact ⟨l, y, z, q, q4 y (by simp), q4 z (by simp)⟩
theorem bounds_lc {T : Text} (L : PlansT T) {n b i : Nat} {ρ : Env} {S : Store} {ds : List D} {F : R (List D)} (hi : i < ρ.length) (hF : lcAll (lcOne (ctxN T (n + 2)) b (.call "is_bound" false (.cons (.var i) .nil)) (.one i)) (.one i) ρ ⟨ds, []⟩ S = F) (hl : ds.length ≤ 1000) (hs : ∀ x ∈ ds, x.small = true) : F = .ok (ds.map fun x => .bl (bdB x)) S := by
  refine lcAll_is hF (fun x => .bl (bdB x)) rfl (lim_of hl) fun d hd => ?_
  simp [Tg.slots, wipeE, hi, is_bound_sp L.toNameT n d _ _ (hs d hd)]
section
variable {T : Text}
theorem are_kinds_sp (L : PlansT T) (n : Nat) (d : D) (many : Int) (b : Nat) (S : Store) (h : d.small = true) : callN T (n + 3) "are_kinds" false [d, .int many] b S = .ok (.bl (kindsB many d)) S := by
  rw [call_eq L.are_kinds rfl, run_res]
  rcases tup_cases h with ⟨ds, hd, et, hl, hs⟩ | ⟨e, e2⟩
  · have ek : isaAny (ctxN T (n + 2)) (vw S d) ["tuple"] = some true := by rcases hd with rfl | rfl <;> rfl
    have el : lenD (vw S d) = some ds.length := by rcases hd with rfl | rfl <;> rfl
    have ew : walkD S d = some ⟨ds, []⟩ := by rcases hd with rfl | rfl <;> rfl
    have lB : kindsB many d = (decide (1 ≤ (ds.length : Int)) && (decide ((ds.length : Int) ≤ 6) && ((ds.all (kindB many)) && decide (ds.map firstD).Nodup))) := by
      unfold kindsB
      rw [et]
      have d1 : decide (1 ≤ ds.length) = decide (1 ≤ (ds.length : Int)) := by rw [decide_eq_decide]; omega
      have d2 : decide (ds.length ≤ 6) = decide ((ds.length : Int) ≤ 6) := by rw [decide_eq_decide]; omega
      show (decide (1 ≤ ds.length) && (decide (ds.length ≤ 6) && _)) = _
      rw [d1, d2]
    rw [lB]
    by_cases h1 : 1 ≤ (ds.length : Int)
    · by_cases h2 : (ds.length : Int) ≤ 6
      · simp [P_are_kinds, Fn.start, ek, el, fbD, h1, h2, L.lanes, ew]
        generalize hF : forS _ _ _ _ _ _ _ _ = F
        have := for_or hF (fun k ρ S' => S' = S ∧ (∃ x y, ρ = [some d, some (.int many), x, y]) ∧ ∀ x ∈ ds.take k, kindB many x = true) (fun r S' => S' = S ∧ r = .bl false ∧ (ds.all (kindB many)) = false) rfl ⟨rfl, ⟨_, _, rfl⟩, by simp⟩ (by
          rintro k x _ S hx ⟨rfl, ⟨y1, y2, rfl⟩, hp⟩
          refine ⟨_, asg_one _ _ _, fun Q hn _ hz => ?_⟩
          have hm := List.mem_of_getElem? hx
          have hsx := hs x hm
          have er : callN T (n + 2) "is_row_of" false [x, .int 3] S.length S = .ok (.bl (rowB 3 x)) S := is_row_sp L n x 3 (by decide) S.length S hsx
          have no : kindB many x = false → Q (.ok (.rt (.bl false)) S) := fun q => hz _ _ ⟨rfl, rfl, by rw [List.all_eq_false]; exact ⟨x, hm, by simp [q]⟩⟩
          have yes : kindB many x = true → Q (.ok (.nx [some d, some (.int many), some x, y2]) S) := fun q => hn _ _ ⟨rfl, ⟨_, _, rfl⟩, fun z hz => by
            rw [take_snoc hx] at hz
            rcases List.mem_append.mp hz with hz | hz
            · exact hp z hz
            · rw [List.mem_singleton.mp hz, q]⟩
          cases hr : rowB 3 x with
          | false =>
            rw [hr] at er
            simp [er]
            exact no (by simp [kindB, hr])
          | true =>
            rw [hr] at er
            obtain ⟨l, y, z, q, ys, zs⟩ := row3 hr hsx
            have i1 : itemD x 1 = y := by rcases q with rfl | rfl <;> rfl
            have i2 : itemD x 2 = z := by rcases q with rfl | rfl <;> rfl
            have v1 : idxD (vw S x) (.int 1) = some y := by rcases q with rfl | rfl <;> rfl
            have v2 : idxD (vw S x) (.int 2) = some z := by rcases q with rfl | rfl <;> rfl
            have ey := is_way_sp L n y many S.length S ys
            have kB : kindB many x = (wayB many y && (isTup z && ((lenT z == lenT y) && ((tupD z).getD []).all bdB))) := by
              unfold kindB
              rw [hr, i1, i2, Bool.true_and]
            cases hy : wayB many y with
            | false =>
              rw [hy] at ey
              simp [er, v1, ey]
              exact no (by rw [kB, hy]; rfl)
            | true =>
              rw [hy] at ey
              obtain ⟨dy, hdy, ty, _, _⟩ | ⟨_, ty⟩ := tup_cases ys
              · have ly : lenD (vw S y) = some dy.length := by rcases hdy with rfl | rfl <;> rfl
                have ly2 : lenT y = dy.length := by unfold lenT; rw [ty]
                obtain ⟨dz, hdz, tz, lz, sz⟩ | ⟨nz, tz⟩ := tup_cases zs
                · have kz : isaAny (ctxN T (n + 2)) (vw S z) ["tuple"] = some true := by rcases hdz with rfl | rfl <;> rfl
                  have lz1 : lenD (vw S z) = some dz.length := by rcases hdz with rfl | rfl <;> rfl
                  have wz : walkD S z = some ⟨dz, []⟩ := by rcases hdz with rfl | rfl <;> rfl
                  have lz2 : lenT z = dz.length := by unfold lenT; rw [tz]
                  have kB2 : kindB many x = ((dz.length == dy.length) && dz.all bdB) := by
                    rw [kB, hy, lz2, ly2, isTup, tz]; simp
                  cases hlen : dz.length == dy.length with
                  | false =>
                    simp [er, v1, v2, ey, kz, fbD, lz1, ly, hlen]
                    exact no (by rw [kB2, hlen]; rfl)
                  | true =>
                    simp [er, v1, v2, ey, kz, fbD, lz1, ly, hlen, wz]
                    generalize hG : lcAll _ _ _ _ _ = G
                    have e := bounds_lc L (by simp) hG lz sz
                    clear hG
                    subst e
                    have hb : bls (dz.map fun x => D.bl (bdB x)) = some (dz.map bdB) := bls_map bdB dz
                    have ha : ((dz.map bdB).all id) = dz.all bdB := by rw [List.all_map]; rfl
                    cases hall : dz.all bdB with
                    | true =>
                      simp only [evk_ok, klst_eq, cons1_ok, evs_nil, cons2_ok, kbi_eq, List.map_cons, List.map_nil, vw_lst, fbD, hb, Option.map_some, ha, hall, of_some, ev1_ok, knot_eq, vw_bool, truD_bl, thenK_ok, kite_eq, Bool.not_true, iteB_f, exs_nil, seqR_nx]
                      exact yes (by rw [kB2, hlen, hall]; rfl)
                    | false =>
                      simp only [evk_ok, klst_eq, cons1_ok, evs_nil, cons2_ok, kbi_eq, List.map_cons, List.map_nil, vw_lst, fbD, hb, Option.map_some, ha, hall, of_some, ev1_ok, knot_eq, vw_bool, truD_bl, thenK_ok, kite_eq, Bool.not_false, iteB_t, exs_cons, x_ret, ev_bl, kret_eq, seqR_rt]
                      exact no (by rw [kB2, hlen, hall]; rfl)
                · simp [er, v1, v2, ey, nz]
                  exact no (by rw [kB, hy, isTup, tz]; rfl)
              · unfold wayB at hy
                rw [ty] at hy
                cases hy)
        rcases this with ⟨ρ', S, rfl, rfl, ⟨y1, y2, rfl⟩, hp⟩ | ⟨r, S, rfl, rfl, rfl, ha⟩
        · rw [List.take_length] at hp
          clear hF
          have ha : ds.all (kindB many) = true := List.all_eq_true.mpr hp
          simp [ew]
          generalize hF : lcAll _ _ _ _ _ = F
          have e := names_lc (m := 2) (by simp) hF hl (fun x hx => (Bool.and_eq_true_iff.mp (hp x hx)).1) hs
          clear hF
          subst e
          have au := all_unlike_sp L (n + 1) (ds.map firstD) S.length S (by rw [List.length_map]; exact hl)
          rw [List.map_map] at au
          simp [au, ha]
        · rw [ha]
          simp
      · simp [P_are_kinds, Fn.start, ek, el, fbD, h1, h2, L.lanes]
    · simp [P_are_kinds, Fn.start, ek, el, fbD, h1]
  · unfold kindsB
    rw [e2]
    simp [P_are_kinds, Fn.start, e]
theorem is_plan_sp (L : PlansT T) (n : Nat) (d : D) (b : Nat) (S : Store) (h : d.small = true) : callN T (n + 4) "is_plan" false [d] b S = .ok (.bl (planB d)) S := by
  rw [call_eq L.is_plan rfl, run_res]
  rcases tup_cases h with ⟨ds, hd, et, hl, hs⟩ | ⟨e, e2⟩
  · have ek : isaAny (ctxN T (n + 3)) (vw S d) ["tuple"] = some true := by rcases hd with rfl | rfl <;> rfl
    have el : lenD (vw S d) = some ds.length := by rcases hd with rfl | rfl <;> rfl
    by_cases h2 : ds.length = 2
    · match ds, h2 with
      | [l, k], _ =>
        have v0 : idxD (vw S d) (.int 0) = some l := by rcases hd with rfl | rfl <;> rfl
        have v1 : idxD (vw S d) (.int 1) = some k := by rcases hd with rfl | rfl <;> rfl
        have ls := hs l (by simp)
        have ks := hs k (by simp)
        have e1 := are_lanes_sp L n l S.length S ls
        have pB : planB d = (lanesB l && kindsB (lenT l) k) := by unfold planB; rw [et]
        rw [pB]
        cases hb : lanesB l with
        | false =>
          rw [hb] at e1
          simp [P_is_plan, Fn.start, ek, el, fbD, v0, e1]
        | true =>
          rw [hb] at e1
          obtain ⟨dl, hdl, tl, _, _⟩ | ⟨_, tl⟩ := tup_cases ls
          · have ll : lenD (vw S l) = some dl.length := by rcases hdl with rfl | rfl <;> rfl
            have ll2 : lenT l = dl.length := by unfold lenT; rw [tl]
            have e3 := are_kinds_sp L n k dl.length S.length S ks
            simp [P_is_plan, Fn.start, ek, el, fbD, v0, v1, e1, ll, ll2, e3]
          · unfold lanesB at hb
            rw [tl] at hb
            cases hb
    · have h2' : ((ds.length : Int) == 2) = false := by rw [beq_eq_false_iff_ne]; omega
      have pB : planB d = false := by
        unfold planB
        rw [et]
        split
        · rename_i q; cases q; simp at h2
        · rfl
      rw [pB]
      simp [P_is_plan, Fn.start, ek, el, fbD, h2']
  · unfold planB
    rw [e2]
    simp [P_is_plan, Fn.start, e]
end
end CL
namespace CL
open PySem PySem.Spec PyProof.Rows L2
def ctxX (T : Text) (n : Nat) (x : String × List String × List D) : Ctx := { ctxN T n with exc := some x }
def tryR (r : RS) (C : String) (as : Option Nat) (h els : Ss) (c : Ctx) (b : Nat) : RS := RS.tried r (fun X => c.isx X C) as (fun X ns ds ρ1 S1 => exs b h (match as with | some _ => { c with exc := some (X, ns, ds) } | none => c) ρ1 S1) (fun ρ1 S1 => exs b els c ρ1 S1)
def calmR (i : Nat) (r : RS) : RS := r.calm.forget i
section
variable {T : Text} {n b : Nat} {ρ : Env} {S : Store} {c : Ctx}
@[simp] theorem x_try (body : Ss) (C : String) (as : Option Nat) (h els : Ss) : exS b (.try_ body C as h els) c ρ S = tryR (exs b body c ρ S) C as h els c b := by simp only [exS]; rfl
@[simp] theorem tryR_ok (f : Fl) (C : String) (as : Option Nat) (h els : Ss) : tryR (.ok f S) C as h els c b = seqR (.ok f S) b els c := (rfl)
theorem tryR_as {X : String} {ns : List String} {ds : List D} {C : String} {i : Nat} (h els : Ss) (hx : T.isx X C = some true) (hi : i < ρ.length) : tryR (.err X ns ds ρ S) C (some i) h els (ctxN T n) b = calmR i (exs b h (ctxX T n (X, ns, ds)) (ρ.set i none) S) := by
  have hx' : (ctxN T n).isx X C = some true := hx
  simp only [tryR, RS.tried, hx', hi, if_true]
  rfl
theorem tryR_no {X : String} {ns : List String} {ds : List D} {C : String} (h els : Ss) (hx : T.isx X C = some true) : tryR (.err X ns ds ρ S) C none h els (ctxN T n) b = (exs b h (ctxN T n) ρ S).calm := by
  have hx' : (ctxN T n).isx X C = some true := hx
  simp only [tryR, RS.tried, hx']
@[simp] theorem calmR_nx (i : Nat) : calmR i (.ok (.nx ρ) S) = .ok (.nx (ρ.set i none)) S := (rfl)
@[simp] theorem calmR_rt (i : Nat) (d : D) : calmR i (.ok (.rt d) S) = .ok (.rt d) S := (rfl)
@[simp] theorem ctxX_con (x : String × List String × List D) (g : String) : (ctxX T n x).con g = T.con g := (rfl)
@[simp] theorem kcallX_eq (x : String × List String × List D) (f : String) (g : Bool) (ds : List D) : kcall (ctxX T n x) b f g S ds = callN T n f g ds b S := (rfl)
theorem isxAnyX (x : String × List String × List D) (X : String) : ∀ cs : List String, isxAny (ctxX T n x) X cs = isxAny (ctxN T n) X cs
  | [] => rfl
  | C :: r => by
    have e : (ctxX T n x).isx X C = (ctxN T n).isx X C := rfl
    rw [isxAny, isxAny, e, isxAnyX x X r]
@[simp] theorem ev_xis (x : String × List String × List D) (cs : List String) (t : Bool) : ev (ctxX T n x) b (.xis cs t) ρ S = R.of S ((isxAny (ctxN T n) x.1 cs).map .bl) := by
  simp only [ev, ctxX]
  rw [← isxAnyX x]
  rfl
@[simp] theorem ev_xfld (x : String × List String × List D) (f : String) : ev (ctxX T n x) b (.xfld f) ρ S = R.of S (fldD f x.2.1 x.2.2) := by
  simp only [ev, ctxX]
theorem isx_one {X C : String} {t : Bool} (h : T.isx X C = some t) : isxAny (ctxN T n) X [C] = some t := by
  have h' : (ctxN T n).isx X C = some t := h
  simp only [isxAny, h']
  cases t <;> rfl
theorem raise_one {C f : String} (hn : 2 ≤ n) (hx : T.ex C = some (some [f])) (d : D) : raiseR (.ok [d] S) C (ctxN T n) ρ = .err C [f] [d] ρ S := by
  have hd : (ctxN T n).deep = true := by simp only [ctxN, ctxOf]; exact decide_eq_true hn
  have he : (ctxN T n).ex C = some (some [f]) := hx
  simp [raiseR, hd, R.then, he, exFields]
end
theorem for_find {α : Type} {b : Nat} {t : Tg} {body : Ss} {c : Ctx} {w : Walk} {S : Store} (l : List α) (f0 g : α → D) (p : α → Bool) (P : Env → Prop) (hw : w.held = []) : ∀ {ρ : Env} {F : RS}, forS b t body c w (l.map f0) ρ S = F → P ρ →
    (∀ a ∈ l, ∀ ρ, P ρ → ∃ ρ1, asg t (f0 a) ρ = some ρ1 ∧ ∀ Q : RS → Prop, (∀ ρ2, P ρ2 → p a = false → Q (.ok (.nx ρ2) S)) → (p a = true → Q (.ok (.rt (g a)) S)) → Q (exs b body c ρ1 S)) →
    (∃ a, l.find? p = some a ∧ F = .ok (.rt (g a)) S) ∨ (l.find? p = none ∧ ∃ ρ', F = .ok (.nx ρ') S ∧ P ρ') := by
  induction l with
  | nil =>
    intro ρ F hF hP _
    have st : w.still S = true := by simp [Walk.still, hw]
    exact .inr ⟨rfl, ρ, by rw [← hF]; simp [forS, forL, st], hP⟩
  | cons a l ih =>
    intro ρ F hF hP h
    have st : w.still S = true := by simp [Walk.still, hw]
    obtain ⟨ρ1, h1, h2⟩ := h a List.mem_cons_self ρ hP
    rw [List.find?_cons]
    refine h2 (fun r => exs b body c ρ1 S = r → _) (fun ρ2 hp hq e => ?_) (fun hq e => ?_) rfl
    · rw [hq]
      refine ih ?_ hp fun x hx => h x (List.mem_cons_of_mem _ hx)
      rw [← hF]
      simp only [forS, List.map_cons, forL, st, if_true, h1, e]
    · rw [hq]
      refine .inl ⟨a, rfl, ?_⟩
      rw [← hF]
      simp only [forS, List.map_cons, forL, st, if_true, h1, e]
theorem numbered_map {α : Type} (f : α → D) : ∀ (l : List α) (k : Nat), numbered k (l.map f) = (l.zipIdx k).map fun x => .tup [.int (x.2 : Nat), f x.1]
  | [], _ => rfl
  | a :: l, k => by
    rw [List.map_cons, numbered, List.zipIdx_cons, List.map_cons, numbered_map f l (k + 1)]
theorem rise_ok (many : Int) : ∀ (l : List Int) (last : Int), (last :: l).Pairwise (· < ·) → (∀ x ∈ l, x < many) → riseB many last (l.map .int) = true
  | [], _, _, _ => rfl
  | x :: l, last, h, h2 => by
    rw [List.map_cons, riseB]
    have h3 := List.pairwise_cons.mp h
    simp only [Bool.and_eq_true, decide_eq_true_eq]
    exact ⟨h3.1 x List.mem_cons_self, h2 x List.mem_cons_self, rise_ok many l x h3.2 fun y hy => h2 y (List.mem_cons_of_mem _ hy)⟩
theorem rise_len (n : Int) : ∀ (l : List Int) (last : Int), (last :: l).Pairwise (· < ·) → (∀ x ∈ l, x < n) → last < n → (l.length : Int) ≤ n - 1 - last
  | [], last, _, _, h3 => by simp; omega
  | x :: l, last, h, h2, h3 => by
    have h4 := List.pairwise_cons.mp h
    have h5 := h4.1 x List.mem_cons_self
    have := rise_len n l x h4.2 (fun y hy => h2 y (List.mem_cons_of_mem _ hy)) (h2 x List.mem_cons_self)
    rw [List.length_cons]
    omega
theorem nm_len {l : List Nat} (h : isNm l = true) : l.length ≤ 8 := by
  unfold isNm at h
  simp only [Bool.and_eq_true, decide_eq_true_eq] at h
  exact h.2.1
theorem ints_small (l : List Int) : D.smallL (l.map .int) = true := smallL_all.mpr fun d hd => by
  obtain ⟨x, _, rfl⟩ := List.mem_map.mp hd
  rfl
theorem lane_small {l : Lane} (h : isNm l.1 = true) : (laneD l).small = true := by
  have := nm_len h
  simp [laneD, D.small, D.smallL]; omega
theorem kind_small {n : Nat} {k : Kind} (hn : n ≤ 6) (h : KindOk n k) : (kndD k).small = true := by
  have h1 := nm_len h.nm
  have h2 : k.2.1.length ≤ 6 := by
    have hb := h.lo
    have hu := h.up
    generalize k.2.1 = w at hb hu
    have := rise_len n w (-1) (List.pairwise_cons.mpr ⟨fun x hx => by have := (hb x hx).1; omega, hu⟩) (fun x hx => (hb x hx).2) (by omega)
    omega
  have h3 := h.len
  simp [kndD, D.small, D.smallL, ints_small]; omega
theorem plan_small {p : Plan} (h : PlanOk p) : (planD p).small = true := by
  have h1 := h.l2
  have h2 := h.k2
  simp only [planD, D.small, D.smallL, Bool.and_eq_true, decide_eq_true_eq, List.length_cons, List.length_nil, List.length_map]
  refine ⟨by omega, ⟨by omega, smallL_all.mpr fun d hd => ?_⟩, ⟨by omega, smallL_all.mpr fun d hd => ?_⟩, trivial⟩
  · obtain ⟨x, hx, rfl⟩ := List.mem_map.mp hd
    exact lane_small (h.lm x hx).1
  · obtain ⟨x, hx, rfl⟩ := List.mem_map.mp hd
    exact kind_small h1 (h.km x hx)
theorem plan_ok {p : Plan} (h : PlanOk p) : planB (planD p) = true := by
  have h1 : lanesB (.tup (p.lanes.map laneD)) = true := by
    simp only [lanesB, tupD, Bool.and_eq_true, decide_eq_true_eq, List.length_map, List.all_eq_true]
    refine ⟨h.l1, h.l2, fun x hx => ?_, ?_⟩
    · obtain ⟨y, hy, rfl⟩ := List.mem_map.mp hx
      have := h.lm y hy
      refine ⟨?_, ?_⟩
      · simp [rowB, laneD, tupD, nmD, this.1]
      · have := this.2
        unfold bdOk at this
        simp [itemD, laneD, tupD, bdB, this]
    · rw [List.map_map]
      exact h.ln
  have h2 : kindsB p.lanes.length (.tup (p.kinds.map kndD)) = true := by
    simp only [kindsB, tupD, Bool.and_eq_true, decide_eq_true_eq, List.length_map, List.all_eq_true]
    refine ⟨h.k1, h.k2, fun x hx => ?_, ?_⟩
    · obtain ⟨y, hy, rfl⟩ := List.mem_map.mp hx
      have := h.km y hy
      have r1 : rowB 3 (kndD y) = true := by simp [rowB, kndD, tupD, nmD, this.nm]
      have w1 : wayB p.lanes.length (.way (y.2.1.map .int)) = true := by
        simp only [wayB, tupD, Bool.and_eq_true]
        refine ⟨by simpa using this.ne, rise_ok _ _ _ ?_ fun x hx => (this.lo x hx).2⟩
        rw [List.pairwise_cons]
        exact ⟨fun x hx => by have := (this.lo x hx).1; omega, this.up⟩
      have b1 : ((y.2.2.map D.int).all bdB) = true := by
        rw [List.all_map, List.all_eq_true]
        intro x hx
        have := this.bd x hx
        unfold bdOk at this
        simp [bdB, this]
      simp only [kindB, r1, Bool.true_and, Bool.and_eq_true]
      refine ⟨w1, rfl, ?_, b1⟩
      simp [lenT, itemD, kndD, tupD, this.len]
    · rw [List.map_map]
      exact h.kn
  show (lanesB (.tup (p.lanes.map laneD)) && kindsB ((lenT (.tup (p.lanes.map laneD)) : Nat) : Int) (.tup (p.kinds.map kndD))) = true
  have e : lenT (.tup (p.lanes.map laneD)) = p.lanes.length := by simp [lenT, tupD]
  rw [e, h1, h2]
  rfl
@[simp] theorem ev_hcallX {T : Text} {n b : Nat} {ρ : Env} {S : Store} (x : String × List String × List D) (f : String) : ev (ctxX T n x) b (.hcall f) ρ S = (callsN T n).hcall f x b S := by
  simp only [ev]
  rfl
theorem hcall_is {T : Text} {x : String} {g : Fn} {n b : Nat} {e : String × List String × List D} {S : Store} (h : Is T x g) (h1 : g.np = 1) (h2 : 0 < g.names.length) :
    (callsN T (n + 1)).hcall x e b S = (fnRes g.keep false S.length (exs (if g.keep then b else S.length) g.body (ctxX T n e) (List.replicate g.names.length none) S)).calm := by
  obtain ⟨d, a1, a2, a3, a4, a5⟩ := h
  show (match T.fns x with
      | none => (R.bad : R D)
      | some d => if d.np = 1 ∧ 0 < d.names.length then (runFn (ctxX T n e) d false (List.replicate d.names.length none) b S).calm else R.bad) = _
  rw [a1]
  simp only
  rw [if_pos ⟨by rw [a2]; exact h1, by rw [a3]; exact h2⟩, run_res, a3, a4, a5]
end CL
namespace CL
open PySem PySem.Spec PyProof.Rows L2
structure LookT (T : Text) : Prop where
  lane : T.fns "lane_number" = some P_lane_number
  kind : T.fns "kind_of" = some P_kind_of
  way : T.fns "way_of" = some P_way_of
  noLane : T.ex "NoLane" = some (some ["lane"])
  noKind : T.ex "NoKind" = some (some ["kind"])
def laneAt (p : Plan) (l : List Nat) : Option Nat := (p.lanes.zipIdx.find? fun x => x.1.1 == l).map (·.2)
def kindAt (p : Plan) (l : List Nat) : Option Kind := p.kinds.find? fun k => k.1 == l
section
variable {T : Text}
theorem lane_sp (L : LookT T) (n : Nat) (p : Plan) (hp : p.lanes.length ≤ 1000) (l : List Nat) (b : Nat) (S : Store) : callN T (n + 3) "lane_number" false [planD p, .str l] b S = match laneAt p l with
    | some k => .ok (.int k) S
    | none => .err "NoLane" ["lane"] [.str l] S := by
  rw [call_eq L.lane rfl, run_res]
  simp [P_lane_number, Fn.start, planD, enumD, tupD, numbered_map]
  generalize hF : forS _ _ _ _ _ _ _ _ = F
  unfold laneAt
  rcases for_find (p.lanes.zipIdx) _ (fun x => .int (x.2 : Nat)) (fun x => x.1.1 == l) (fun ρ => ∃ x y, ρ = [some (planD p), some (.str l), x, y]) rfl hF ⟨_, _, rfl⟩ (by
    rintro ⟨a, k⟩ ha _ ⟨x, y, rfl⟩
    refine ⟨[some (planD p), some (.str l), some (.int k), some (laneD a)], rfl, fun Q hn hz => ?_⟩
    cases he : a.1 == l with
    | true =>
      simp [laneD, he]
      exact hz he
    | false =>
      simp [laneD, he]
      exact hn _ ⟨_, _, rfl⟩ he) with ⟨a, h1, rfl⟩ | ⟨h1, ρ', rfl, x, y, rfl⟩
  · rw [h1]
    simp
  · rw [h1]
    simp [raise_one (show 2 ≤ n + 2 by omega) L.noLane]
theorem kind_sp (L : LookT T) (n : Nat) (p : Plan) (hp : p.kinds.length ≤ 1000) (l : List Nat) (b : Nat) (S : Store) : callN T (n + 3) "kind_of" false [planD p, .str l] b S = match kindAt p l with
    | some k => .ok (kndD k) S
    | none => .err "NoKind" ["kind"] [.str l] S := by
  rw [call_eq L.kind rfl, run_res]
  simp [P_kind_of, Fn.start, planD, walkD]
  generalize hF : forS _ _ _ _ _ _ _ _ = F
  unfold kindAt
  rcases for_find p.kinds _ kndD (fun k => k.1 == l) (fun ρ => ∃ x, ρ = [some (planD p), some (.str l), x]) rfl hF ⟨_, rfl⟩ (by
    rintro a ha _ ⟨x, rfl⟩
    refine ⟨_, asg_one _ _ _, fun Q hn hz => ?_⟩
    cases he : a.1 == l with
    | true =>
      simp [kndD, he]
      exact hz he
    | false =>
      simp [kndD, he]
      exact hn _ ⟨_, rfl⟩ he) with ⟨a, h1, rfl⟩ | ⟨h1, ρ', rfl, x, rfl⟩
  · rw [h1]
    simp [kndD]
  · rw [h1]
    simp [raise_one (show 2 ≤ n + 2 by omega) L.noKind]
def wayD (k : Kind) : D := .way (k.2.1.map .int)
theorem way_sp (L : LookT T) (n : Nat) (p : Plan) (hp : p.kinds.length ≤ 1000) (l : List Nat) (b : Nat) (S : Store) : callN T (n + 4) "way_of" false [planD p, .str l] b S = match kindAt p l with
    | some k => .ok (wayD k) S
    | none => .err "NoKind" ["kind"] [.str l] S := by
  rw [call_eq L.way rfl, run_res]
  have e := kind_sp L n p hp l S.length S
  cases h : kindAt p l with
  | some k =>
    rw [h] at e
    simp [P_way_of, Fn.start, e]
    simp [kndD, wayD]
  | none =>
    rw [h] at e
    simp [P_way_of, Fn.start, e]
end
end CL
namespace CL
open PySem PySem.Spec PyProof.Rows L2
@[simp] theorem vw_plan (S : Store) (p : Plan) : vw S (planD p) = planD p := (rfl)
@[simp] theorem vw_lane (S : Store) (l : Lane) : vw S (laneD l) = laneD l := (rfl)
@[simp] theorem vw_kind (S : Store) (k : Kind) : vw S (kndD k) = kndD k := (rfl)
@[simp] theorem idx_plan0 (p : Plan) : idxD (planD p) (.int 0) = some (.tup (p.lanes.map laneD)) := (rfl)
@[simp] theorem idx_plan1 (p : Plan) : idxD (planD p) (.int 1) = some (.tup (p.kinds.map kndD)) := (rfl)
@[simp] theorem idx_lane0 (l : Lane) : idxD (laneD l) (.int 0) = some (.str l.1) := (rfl)
@[simp] theorem idx_lane1 (l : Lane) : idxD (laneD l) (.int 1) = some (.int l.2) := (rfl)
@[simp] theorem idx_kind0 (k : Kind) : idxD (kndD k) (.int 0) = some (.str k.1) := (rfl)
@[simp] theorem idx_kind1 (k : Kind) : idxD (kndD k) (.int 1) = some (.way (k.2.1.map .int)) := (rfl)
@[simp] theorem idx_kind2 (k : Kind) : idxD (kndD k) (.int 2) = some (.tup (k.2.2.map .int)) := (rfl)
mutual
theorem eqv_refl : ∀ (n : Nat) (d : D), d.dat n = true → D.eqv d d = true
  | _, .non, _ => rfl
  | _, .bl b, _ => by simp [D.eqv]
  | _, .int i, _ => by simp [D.eqv]
  | _, .str l, _ => by simp [D.eqv]
  | n, .tup ds, h => by rw [D.dat] at h; rw [D.eqv]; exact eqvL_refl n ds h
  | n, .lst ds, h => by rw [D.dat] at h; rw [D.eqv]; exact eqvL_refl n ds h
  | n, .way ds, h => by rw [D.dat] at h; rw [D.eqv]; exact eqvL_refl n ds h
theorem eqvL_refl : ∀ (n : Nat) (ds : List D), D.datL n ds = true → D.eqvL ds ds = true
  | _, [], _ => rfl
  | n, d :: ds, h => by
    rw [D.datL] at h
    simp only [Bool.and_eq_true] at h
    rw [D.eqvL, eqv_refl (n - 1) d h.2.1, eqvL_refl n ds h.2.2]
    rfl
end
theorem eq_self (d : D) (h : d.dat dp = true) : cmpD .eq d d = some true := by
  show eqD d d = _
  unfold eqD
  rw [h, eqv_refl dp d h]
  rfl
theorem ne_self (d : D) (h : d.dat dp = true) : cmpD .ne d d = some false := by
  show (eqD d d).map _ = _
  unfold eqD
  rw [h, eqv_refl dp d h]
  rfl
theorem datL_all {n : Nat} (hn : 0 < n) : ∀ {ds : List D}, (∀ d ∈ ds, d.dat (n - 1) = true) → D.datL n ds = true
  | [], _ => rfl
  | d :: ds, h => by
    simp only [D.datL, hn, decide_true, Bool.true_and, Bool.and_eq_true]
    exact ⟨h d List.mem_cons_self, datL_all hn fun e he => h e (List.mem_cons_of_mem _ he)⟩
theorem datL_map {α : Type} {n : Nat} (hn : 0 < n) (f : α → D) (l : List α) (h : ∀ a, (f a).dat (n - 1) = true) : D.datL n (l.map f) = true := datL_all hn fun d hd => by
  obtain ⟨a, _, rfl⟩ := List.mem_map.mp hd
  exact h a
@[simp] theorem datL_nil (n : Nat) : D.datL n [] = true := (rfl)
@[simp] theorem datL_cons (n : Nat) (d : D) (ds : List D) : D.datL (n + 1) (d :: ds) = (d.dat n && D.datL (n + 1) ds) := by
  simp [D.datL]
@[simp] theorem dat_str (n : Nat) (l : List Nat) : D.dat n (.str l) = true := by simp [D.dat]
@[simp] theorem dat_int (n : Nat) (i : Int) : D.dat n (.int i) = true := by simp [D.dat]
@[simp] theorem dat_bl (n : Nat) (t : Bool) : D.dat n (.bl t) = true := by simp [D.dat]
@[simp] theorem dat_non (n : Nat) : D.dat n .non = true := by simp [D.dat]
@[simp] theorem dat_tup (n : Nat) (ds : List D) : D.dat n (.tup ds) = D.datL n ds := by rw [D.dat]
@[simp] theorem dat_lst (n : Nat) (ds : List D) : D.dat n (.lst ds) = D.datL n ds := by rw [D.dat]
@[simp] theorem dat_way (n : Nat) (ds : List D) : D.dat n (.way ds) = D.datL n ds := by rw [D.dat]
@[simp] theorem datL_ints (n : Nat) (l : List Int) : D.datL (n + 1) (l.map .int) = true := datL_map (Nat.succ_pos _) _ _ fun _ => dat_int _ _
@[simp] theorem datL_txts (n : Nat) (l : List (List Nat)) : D.datL (n + 1) (l.map .str) = true := datL_map (Nat.succ_pos _) _ _ fun _ => dat_str _ _
@[simp] theorem dat_lane (n : Nat) (l : Lane) : D.dat (n + 1) (laneD l) = true := by simp [laneD]
@[simp] theorem dat_kind (n : Nat) (k : Kind) : D.dat (n + 2) (kndD k) = true := by simp [kndD]
theorem dat_plan (p : Plan) : (planD p).dat dp = true := by
  have h1 : D.datL 19 (p.lanes.map laneD) = true := datL_map (by decide) _ _ fun a => dat_lane 17 a
  have h2 : D.datL 19 (p.kinds.map kndD) = true := datL_map (by decide) _ _ fun a => dat_kind 16 a
  show D.dat 20 (planD p) = true
  simp [planD, h1, h2]
theorem in_strs (l : List Nat) (ls : List (List Nat)) : cmpD .isIn (.str l) (.lst (ls.map .str)) = some (decide (l ∈ ls)) := by
  have h : D.datL 20 (ls.map .str) = true := datL_txts 19 ls
  simp only [cmpD, inD, dp, dat_str, h, Bool.and_self, if_true, Option.some.injEq]
  rw [List.any_map, Bool.eq_iff_iff]
  simp [D.eqv]
theorem notin_strs (l : List Nat) (ls : List (List Nat)) : cmpD .notIn (.str l) (.lst (ls.map .str)) = some (!decide (l ∈ ls)) := by
  have := in_strs l ls
  simp only [cmpD] at this ⊢
  rw [this]
  rfl
theorem laneAt_none {p : Plan} {l : List Nat} (h : l ∉ p.lanes.map (·.1)) : laneAt p l = none := by
  unfold laneAt
  rw [Option.map_eq_none_iff, List.find?_eq_none]
  rintro ⟨a, k⟩ hx
  have := List.fst_mem_of_mem_zipIdx hx
  simp only [beq_iff_eq]
  intro e
  exact h (List.mem_map.mpr ⟨a, this, e⟩)
theorem kindAt_none {p : Plan} {l : List Nat} (h : l ∉ p.kinds.map (·.1)) : kindAt p l = none := by
  unfold kindAt
  rw [List.find?_eq_none]
  intro a ha
  simp only [beq_iff_eq]
  intro e
  exact h (List.mem_map.mpr ⟨a, ha, e⟩)
theorem find_zip {l : List Lane} (hn : (l.map (·.1)).Nodup) {k : Nat} {a : Lane} : ∀ {j : Nat}, l[k]? = some a → ((l.zipIdx j).find? fun x => x.1.1 == a.1) = some (a, j + k) := by
  induction l generalizing k with
  | nil => intro j h; simp at h
  | cons x l ih =>
    intro j h
    rw [List.map_cons, List.nodup_cons] at hn
    rw [List.zipIdx_cons, List.find?_cons]
    cases k with
    | zero =>
      simp only [List.getElem?_cons_zero, Option.some.injEq] at h
      subst h
      simp
    | succ k =>
      rw [List.getElem?_cons_succ] at h
      have hm : a.1 ∈ l.map (·.1) := List.mem_map_of_mem (List.mem_of_getElem? h)
      have hne : (x.1 == a.1) = false := by
        rw [beq_eq_false_iff_ne]
        intro e
        rw [e] at hn
        exact hn.1 hm
      simp only [hne]
      rw [ih hn.2 h]
      congr 2
      omega
theorem laneAt_some {p : Plan} (hp : PlanOk p) {k : Nat} {a : Lane} (h : p.lanes[k]? = some a) : laneAt p a.1 = some k := by
  unfold laneAt
  rw [find_zip hp.ln h]
  simp
theorem find_kind {l : List Kind} (hn : (l.map (·.1)).Nodup) {a : Kind} (h : a ∈ l) : (l.find? fun x => x.1 == a.1) = some a := by
  induction l with
  | nil => cases h
  | cons x l ih =>
    rw [List.map_cons, List.nodup_cons] at hn
    rw [List.find?_cons]
    rcases List.mem_cons.mp h with rfl | h
    · simp
    · have hm : a.1 ∈ l.map (·.1) := List.mem_map_of_mem h
      have hne : (x.1 == a.1) = false := by
        rw [beq_eq_false_iff_ne]
        intro e
        rw [e] at hn
        exact hn.1 hm
      simp only [hne]
      exact ih hn.2 h
theorem kindAt_some {p : Plan} (hp : PlanOk p) {a : Kind} (h : a ∈ p.kinds) : kindAt p a.1 = some a := find_kind hp.kn h
end CL
namespace CL
def P_first_stand : Fn := { np := 1, names := ["plan", "lane"], body := (.cons (.ret (.tup (.cons (.bi .tuple (.cons (.lc (.idx (.var 1) (.int 1)) (.one 1) (.val (.idx (.var 0) (.int 0)))) .nil)) (.cons (.tup .nil) (.cons (.tup .nil) .nil))))) .nil), keep := false }
def P_lane_at : Fn := { np := 3, names := ["plan", "kind", "place", "way"], body := (.cons (.set (.one 3) (.call "way_of" false (.cons (.var 0) (.cons (.var 1) .nil)))) (.cons (.ite (.cmp .eq (.var 2) (.int 0)) (.cons (.ret (.neg (.int 1))) .nil) .nil) (.cons (.ite (.cmp .gt (.var 2) (.bi .len (.cons (.var 3) .nil))) (.cons (.ret (.bi .len (.cons (.idx (.var 0) (.int 0)) .nil))) .nil) .nil) (.cons (.ret (.idx (.var 3) (.bop .sub (.var 2) (.int 1)))) .nil)))), keep := false }
def P_card_of : Fn := { np := 2, names := ["stand", "card", "one"], body := (.cons (.for_ (.one 2) (.val (.idx (.var 0) (.int 1))) (.cons (.ite (.cmp .eq (.idx (.var 2) (.int 0)) (.var 1)) (.cons (.ret (.var 2)) .nil) .nil) .nil)) (.cons (.raise "NoCard" (.cons (.var 1) .nil)) .nil)), keep := false }
def P_lane_of : Fn := { np := 3, names := ["plan", "stand", "card", "one"], body := (.cons (.set (.one 3) (.call "card_of" false (.cons (.var 1) (.cons (.var 2) .nil)))) (.cons (.ret (.call "lane_at" false (.cons (.var 0) (.cons (.idx (.var 3) (.int 1)) (.cons (.idx (.var 3) (.int 2)) .nil))))) .nil)), keep := false }
def P_cards_in : Fn := { np := 3, names := ["plan", "stand", "lane", "one"], body := (.cons (.ret (.lcIf (.idx (.var 3) (.int 0)) (.one 3) (.val (.idx (.var 1) (.int 1))) (.cmp .eq (.call "lane_at" false (.cons (.var 0) (.cons (.idx (.var 3) (.int 1)) (.cons (.idx (.var 3) (.int 2)) .nil)))) (.var 2)))) .nil), keep := false }
def P_many_of : Fn := { np := 4, names := ["plan", "stand", "lane", "kind", "one"], body := (.cons (.ret (.bi .len (.cons (.lcIf (.var 4) (.one 4) (.val (.idx (.var 1) (.int 1))) (.and (.cons (.cmp .eq (.idx (.var 4) (.int 1)) (.var 3)) (.cons (.cmp .eq (.call "lane_at" false (.cons (.var 0) (.cons (.var 3) (.cons (.idx (.var 4) (.int 2)) .nil)))) (.var 2)) .nil)))) .nil))) .nil), keep := false }
def P_is_out : Fn := { np := 2, names := ["plan", "one"], body := (.cons (.ret (.cmp .gt (.idx (.var 1) (.int 2)) (.bi .len (.cons (.call "way_of" false (.cons (.var 0) (.cons (.idx (.var 1) (.int 1)) .nil))) .nil)))) .nil), keep := false }
def P_out_names : Fn := { np := 2, names := ["plan", "stand", "one"], body := (.cons (.ret (.lcIf (.idx (.var 2) (.int 0)) (.one 2) (.val (.idx (.var 1) (.int 1))) (.call "is_out" false (.cons (.var 0) (.cons (.var 2) .nil))))) .nil), keep := false }
def P_is_card : Fn := { np := 2, names := ["plan", "thing", "kind"], body := (.cons (.ite (.or (.cons (.not (.isi (.var 1) ["tuple"] false)) (.cons (.cmp .ne (.bi .len (.cons (.var 1) .nil)) (.int 4)) (.cons (.not (.call "is_name" false (.cons (.idx (.var 1) (.int 0)) .nil))) .nil)))) (.cons (.ret (.bl false)) .nil) .nil) (.cons (.ite (.or (.cons (.not (.isi (.idx (.var 1) (.int 1)) ["str"] false)) (.cons (.cmp .notIn (.idx (.var 1) (.int 1)) (.lc (.idx (.var 2) (.int 0)) (.one 2) (.val (.idx (.var 0) (.int 1))))) .nil))) (.cons (.ret (.bl false)) .nil) .nil) (.cons (.ite (.or (.cons (.not (.call "is_whole" false (.cons (.idx (.var 1) (.int 2)) .nil))) (.cons (.not (.chain .le .le (.int 0) (.idx (.var 1) (.int 2)) (.bop .add (.bi .len (.cons (.call "way_of" false (.cons (.var 0) (.cons (.idx (.var 1) (.int 1)) .nil))) .nil)) (.int 1)))) .nil))) (.cons (.ret (.bl false)) .nil) .nil) (.cons (.ret (.and (.cons (.isi (.idx (.var 1) (.int 3)) ["bool"] false) (.cons (.not (.and (.cons (.idx (.var 1) (.int 3)) (.cons (.call "is_out" false (.cons (.var 0) (.cons (.var 1) .nil))) .nil)))) .nil)))) .nil)))), keep := false }
def P_are_cards : Fn := { np := 2, names := ["plan", "thing", "last", "one"], body := (.cons (.ite (.or (.cons (.not (.isi (.var 1) ["tuple"] false)) (.cons (.cmp .gt (.bi .len (.cons (.var 1) .nil)) (.gcon "MOST_CARDS")) .nil))) (.cons (.ret (.bl false)) .nil) .nil) (.cons (.set (.one 2) (.str [])) (.cons (.for_ (.one 3) (.val (.var 1)) (.cons (.ite (.or (.cons (.not (.call "is_card" false (.cons (.var 0) (.cons (.var 3) .nil)))) (.cons (.cmp .le (.idx (.var 3) (.int 0)) (.var 2)) .nil))) (.cons (.ret (.bl false)) .nil) .nil) (.cons (.set (.one 2) (.idx (.var 3) (.int 0))) .nil))) (.cons (.ret (.bl true)) .nil)))), keep := false }
def P_is_wait : Fn := { np := 3, names := ["names", "many", "thing"], body := (.cons (.ite (.or (.cons (.not (.isi (.var 2) ["tuple"] false)) (.cons (.cmp .ne (.bi .len (.cons (.var 2) .nil)) (.int 3)) .nil))) (.cons (.ret (.bl false)) .nil) .nil) (.cons (.ite (.or (.cons (.not (.isi (.idx (.var 2) (.int 0)) ["str"] false)) (.cons (.not (.isi (.idx (.var 2) (.int 2)) ["str"] false)) .nil))) (.cons (.ret (.bl false)) .nil) .nil) (.cons (.ite (.or (.cons (.cmp .notIn (.idx (.var 2) (.int 0)) (.var 0)) (.cons (.cmp .notIn (.idx (.var 2) (.int 2)) (.var 0)) .nil))) (.cons (.ret (.bl false)) .nil) .nil) (.cons (.ret (.and (.cons (.call "is_whole" false (.cons (.idx (.var 2) (.int 1)) .nil)) (.cons (.chain .le .le (.int 0) (.idx (.var 2) (.int 1)) (.var 1)) .nil)))) .nil)))), keep := false }
def P_are_waits : Fn := { np := 3, names := ["names", "many", "thing", "at", "wait"], body := (.cons (.ite (.or (.cons (.not (.isi (.var 2) ["tuple"] false)) (.cons (.cmp .gt (.bi .len (.cons (.var 2) .nil)) (.gcon "MOST_WAITS")) .nil))) (.cons (.ret (.bl false)) .nil) .nil) (.cons (.for_ (.many [3, 4]) (.enum (.var 2)) (.cons (.ite (.not (.call "is_wait" false (.cons (.var 0) (.cons (.var 1) (.cons (.var 4) .nil))))) (.cons (.ret (.bl false)) .nil) .nil) (.cons (.ite (.and (.cons (.cmp .gt (.var 3) (.int 0)) (.cons (.cmp .le (.var 4) (.idx (.var 2) (.bop .sub (.var 3) (.int 1)))) .nil))) (.cons (.ret (.bl false)) .nil) .nil) .nil))) (.cons (.ret (.bl true)) .nil))), keep := false }
def P_bounds_hold : Fn := { np := 2, names := ["plan", "stand", "lane", "bound", "name", "way", "bounds"], body := (.cons (.for_ (.many [2, 3]) (.enum (.idx (.var 1) (.int 0))) (.cons (.ite (.cmp .gt (.bi .len (.cons (.call "cards_in" false (.cons (.var 0) (.cons (.var 1) (.cons (.var 2) .nil)))) .nil)) (.var 3)) (.cons (.ret (.bl false)) .nil) .nil) .nil)) (.cons (.for_ (.many [4, 5, 6]) (.val (.idx (.var 0) (.int 1))) (.cons (.for_ (.many [2, 3]) (.zip (.var 5) (.var 6)) (.cons (.ite (.cmp .gt (.call "many_of" false (.cons (.var 0) (.cons (.var 1) (.cons (.var 2) (.cons (.var 4) .nil))))) (.var 3)) (.cons (.ret (.bl false)) .nil) .nil) .nil)) .nil)) (.cons (.ret (.bl true)) .nil))), keep := false }
def P_waits_hold : Fn := { np := 2, names := ["plan", "stand", "out", "card", "lane", "other"], body := (.cons (.set (.one 2) (.call "out_names" false (.cons (.var 0) (.cons (.var 1) .nil)))) (.cons (.for_ (.many [3, 4, 5]) (.val (.idx (.var 1) (.int 2))) (.cons (.ite (.and (.cons (.cmp .notIn (.var 5) (.var 2)) (.cons (.cmp .ge (.call "lane_of" false (.cons (.var 0) (.cons (.var 1) (.cons (.var 3) .nil)))) (.var 4)) .nil))) (.cons (.ret (.bl false)) .nil) .nil) .nil)) (.cons (.ret (.bl true)) .nil))), keep := false }
def P_is_stand : Fn := { np := 2, names := ["plan", "thing", "one", "bound"], body := (.cons (.ite (.or (.cons (.not (.isi (.var 1) ["tuple"] false)) (.cons (.cmp .ne (.bi .len (.cons (.var 1) .nil)) (.int 3)) .nil))) (.cons (.ret (.bl false)) .nil) .nil) (.cons (.ite (.or (.cons (.not (.isi (.idx (.var 1) (.int 0)) ["tuple"] false)) (.cons (.cmp .ne (.bi .len (.cons (.idx (.var 1) (.int 0)) .nil)) (.bi .len (.cons (.idx (.var 0) (.int 0)) .nil))) .nil))) (.cons (.ret (.bl false)) .nil) .nil) (.cons (.ite (.or (.cons (.not (.bi .all (.cons (.lc (.call "is_bound" false (.cons (.var 3) .nil)) (.one 3) (.val (.idx (.var 1) (.int 0)))) .nil))) (.cons (.not (.call "are_cards" false (.cons (.var 0) (.cons (.idx (.var 1) (.int 1)) .nil)))) .nil))) (.cons (.ret (.bl false)) .nil) .nil) (.cons (.ite (.not (.call "are_waits" false (.cons (.lc (.idx (.var 2) (.int 0)) (.one 2) (.val (.idx (.var 1) (.int 1)))) (.cons (.bi .len (.cons (.idx (.var 0) (.int 0)) .nil)) (.cons (.idx (.var 1) (.int 2)) .nil))))) (.cons (.ret (.bl false)) .nil) .nil) (.cons (.ret (.and (.cons (.call "bounds_hold" false (.cons (.var 0) (.cons (.var 1) .nil))) (.cons (.call "waits_hold" false (.cons (.var 0) (.cons (.var 1) .nil))) .nil)))) .nil))))), keep := false }
def Ulaw_kind : Fn := { np := 2, names := ["_law_plan_here", "_law_name", "_law_kind_here"], body := (.cons (.ret (.idx (.lcIf (.var 2) (.one 2) (.val (.idx (.var 0) (.int 1))) (.cmp .eq (.idx (.var 2) (.int 0)) (.var 1))) (.int 0))) .nil), keep := false }
def Ulaw_lane : Fn := { np := 2, names := ["_law_plan_here", "_law_one", "_law_way"], body := (.cons (.set (.one 2) (.idx (.call "_law_kind" false (.cons (.var 0) (.cons (.idx (.var 1) (.int 1)) .nil))) (.int 1))) (.cons (.ret (.idx (.bop .add (.bop .add (.tup (.cons (.neg (.int 1)) .nil)) (.var 2)) (.tup (.cons (.bi .len (.cons (.idx (.var 0) (.int 0)) .nil)) .nil))) (.idx (.var 1) (.int 2)))) .nil)), keep := false }
def Ulaw_room : Fn := { np := 5, names := ["_law_plan_here", "_law_bounds", "_law_cards", "_law_kind_here", "_law_lane_here", "_law_there", "_law_one"], body := (.cons (.set (.one 5) (.lcIf (.idx (.var 6) (.int 1)) (.one 6) (.val (.var 2)) (.cmp .eq (.call "_law_lane" false (.cons (.var 0) (.cons (.var 6) .nil))) (.var 4)))) (.cons (.ite (.not (.chain .le .lt (.int 0) (.var 4) (.bi .len (.cons (.idx (.var 0) (.int 0)) .nil)))) (.cons (.ret (.str [])) .nil) .nil) (.cons (.ite (.cmp .ge (.bi .len (.cons (.var 5) .nil)) (.idx (.var 1) (.var 4))) (.cons (.ret (.str [70, 117, 108, 108])) .nil) .nil) (.cons (.ite (.cmp .ge (.bm .count (.var 5) (.cons (.idx (.var 3) (.int 0)) .nil)) (.idx (.idx (.var 3) (.int 2)) (.bm .index (.idx (.var 3) (.int 1)) (.cons (.var 4) .nil)))) (.cons (.ret (.str [75, 105, 110, 100, 70, 117, 108, 108])) .nil) .nil) (.cons (.ret (.str [])) .nil))))), keep := false }
def Ulaw_bars : Fn := { np := 3, names := ["_law_plan_here", "_law_cards", "_law_wait", "_law_found", "_law_one"], body := (.cons (.set (.one 3) (.lcIf (.var 4) (.one 4) (.val (.var 1)) (.cmp .eq (.idx (.var 4) (.int 0)) (.idx (.var 2) (.int 2))))) (.cons (.ret (.cmp .lt (.call "_law_lane" false (.cons (.var 0) (.cons (.idx (.var 3) (.int 0)) .nil))) (.bi .len (.cons (.idx (.var 0) (.int 0)) .nil)))) .nil)), keep := false }
def Ulaw_stand : Fn := { np := 3, names := ["_law_held", "_law_plan_here", "_law_most", "_law_bounds", "_law_cards", "_law_name", "_law_waits", "_law_turn", "_law_kind_here", "_law_one", "_law_two", "_law_wait", "_law_lane_here"], body := (.cons (.set (.one 3) (.lc (.idx (.lst (.cons (.idx (.var 12) (.int 1)) (.cons (.call "_law_bound" false (.cons (.var 0) .nil)) .nil))) (.call "_law_take" false (.cons (.var 0) (.cons (.int 2) .nil)))) (.one 12) (.val (.idx (.var 1) (.int 0))))) (.cons (.set (.one 4) (.newl .nil)) (.cons (.for_ (.one 5) (.val (.bi .sorted (.cons (.slHi (.call "_law_words" false (.cons (.var 0) (.cons (.int 30) .nil))) (.call "_law_take" false (.cons (.var 0) (.cons (.bop .add (.var 2) (.int 1)) .nil)))) .nil))) (.cons (.set (.one 8) (.idx (.idx (.var 1) (.int 1)) (.call "_law_take" false (.cons (.var 0) (.cons (.bi .len (.cons (.idx (.var 1) (.int 1)) .nil)) .nil))))) (.cons (.set (.one 9) (.tup (.cons (.var 5) (.cons (.idx (.var 8) (.int 0)) (.cons (.call "_law_take" false (.cons (.var 0) (.cons (.bop .add (.bi .len (.cons (.idx (.var 8) (.int 1)) .nil)) (.int 2)) .nil))) .nil))))) (.cons (.ite (.cmp .ne (.call "_law_room" false (.cons (.var 1) (.cons (.var 3) (.cons (.var 4) (.cons (.var 8) (.cons (.call "_law_lane" false (.cons (.var 1) (.cons (.var 9) .nil))) .nil)))))) (.str [])) (.cons (.set (.one 9) (.tup (.cons (.var 5) (.cons (.idx (.var 8) (.int 0)) (.cons (.idx (.lst (.cons (.int 0) (.cons (.bop .add (.bi .len (.cons (.idx (.var 8) (.int 1)) .nil)) (.int 1)) .nil))) (.call "_law_take" false (.cons (.var 0) (.cons (.int 2) .nil)))) .nil))))) .nil) .nil) (.cons (.ex (.bm .append (.var 4) (.cons (.bop .add (.var 9) (.tup (.cons (.and (.cons (.cmp .le (.idx (.var 9) (.int 2)) (.bi .len (.cons (.idx (.var 8) (.int 1)) .nil))) (.cons (.cmp .eq (.call "_law_take" false (.cons (.var 0) (.cons (.int 5) .nil))) (.int 0)) .nil))) .nil))) .nil))) .nil))))) (.cons (.set (.one 6) (.newl .nil)) (.cons (.for_ (.one 7) (.range (.cons (.bop .mul (.call "_law_take" false (.cons (.var 0) (.cons (.idx (.lst (.cons (.int 3) (.cons (.int 7) (.cons (.int 7) (.cons (.int 90) .nil))))) (.call "_law_take" false (.cons (.var 0) (.cons (.int 4) .nil)))) .nil))) (.bi .int (.cons (.cmp .ne (.var 4) (.lst .nil)) .nil))) .nil)) (.cons (.set (.one 9) (.idx (.var 4) (.call "_law_take" false (.cons (.var 0) (.cons (.bi .len (.cons (.var 4) .nil)) .nil))))) (.cons (.set (.one 10) (.idx (.idx (.var 4) (.call "_law_take" false (.cons (.var 0) (.cons (.bi .len (.cons (.var 4) .nil)) .nil)))) (.int 0))) (.cons (.set (.one 11) (.tup (.cons (.idx (.var 9) (.int 0)) (.cons (.call "_law_take" false (.cons (.var 0) (.cons (.bop .add (.bi .len (.cons (.idx (.var 1) (.int 0)) .nil)) (.int 1)) .nil))) (.cons (.var 10) .nil))))) (.cons (.ite (.or (.cons (.cmp .lt (.call "_law_lane" false (.cons (.var 1) (.cons (.var 9) .nil))) (.idx (.var 11) (.int 1))) (.cons (.not (.call "_law_bars" false (.cons (.var 1) (.cons (.var 4) (.cons (.var 11) .nil))))) .nil))) (.cons (.ex (.bm .append (.var 6) (.cons (.var 11) .nil))) .nil) .nil) .nil))))) (.cons (.ret (.tup (.cons (.bi .tuple (.cons (.var 3) .nil)) (.cons (.bi .tuple (.cons (.var 4) .nil)) (.cons (.bi .tuple (.cons (.slHi (.sset (.var 6)) (.int 60)) .nil)) .nil))))) .nil)))))), keep := false }
def Ulaw_same : Fn := { np := 2, names := ["_law_found", "_law_due", "_law_one", "_law_other"], body := (.cons (.ite (.or (.cons (.isi (.var 1) ["tuple"] false) (.cons (.isi (.var 1) ["list"] false) .nil))) (.cons (.ite (.cmp .ne (.isi (.var 0) ["tuple"] false) (.isi (.var 1) ["tuple"] false)) (.cons (.ret (.bl false)) .nil) .nil) (.cons (.ite (.or (.cons (.cmp .ne (.isi (.var 0) ["list"] false) (.isi (.var 1) ["list"] false)) (.cons (.cmp .ne (.bi .len (.cons (.var 0) .nil)) (.bi .len (.cons (.var 1) .nil))) .nil))) (.cons (.ret (.bl false)) .nil) .nil) (.cons (.ret (.bi .all (.cons (.lc (.call "_law_same" false (.cons (.var 2) (.cons (.var 3) .nil))) (.many [2, 3]) (.zip (.var 0) (.var 1))) .nil))) .nil))) .nil) (.cons (.ret (.and (.cons (.cmp .eq (.isi (.var 0) ["bool"] false) (.isi (.var 1) ["bool"] false)) (.cons (.cmp .eq (.var 0) (.var 1)) .nil)))) .nil)), keep := false }
def P_with_card : Fn := { np := 2, names := ["stand", "one", "cards", "other"], body := (.cons (.set (.one 2) (.lcIf (.var 3) (.one 3) (.val (.idx (.var 0) (.int 1))) (.cmp .ne (.idx (.var 3) (.int 0)) (.idx (.var 1) (.int 0))))) (.cons (.ret (.tup (.cons (.idx (.var 0) (.int 0)) (.cons (.bi .tuple (.cons (.bi .sorted (.cons (.bop .add (.var 2) (.lst (.cons (.var 1) .nil))) .nil)) .nil)) (.cons (.idx (.var 0) (.int 2)) .nil))))) .nil)), keep := false }
def P_bound_of : Fn := { np := 3, names := ["plan", "kind", "lane", "name", "way", "bounds"], body := (.cons (.set (.many [3, 4, 5]) (.call "kind_of" false (.cons (.var 0) (.cons (.var 1) .nil)))) (.cons (.ret (.idx (.var 5) (.bm .index (.var 4) (.cons (.var 2) .nil)))) .nil)), keep := false }
def P_hold_room : Fn := { np := 4, names := ["plan", "stand", "kind", "lane", "name", "bound"], body := (.cons (.ite (.not (.chain .le .lt (.int 0) (.var 3) (.bi .len (.cons (.idx (.var 0) (.int 0)) .nil)))) (.cons .ret0 .nil) .nil) (.cons (.set (.one 4) (.idx (.idx (.idx (.var 0) (.int 0)) (.var 3)) (.int 0))) (.cons (.ite (.cmp .ge (.bi .len (.cons (.call "cards_in" false (.cons (.var 0) (.cons (.var 1) (.cons (.var 3) .nil)))) .nil)) (.idx (.idx (.var 1) (.int 0)) (.var 3))) (.cons (.raise "Full" (.cons (.var 4) (.cons (.idx (.idx (.var 1) (.int 0)) (.var 3)) .nil))) .nil) .nil) (.cons (.set (.one 5) (.call "bound_of" false (.cons (.var 0) (.cons (.var 2) (.cons (.var 3) .nil))))) (.cons (.ite (.cmp .ge (.call "many_of" false (.cons (.var 0) (.cons (.var 1) (.cons (.var 3) (.cons (.var 2) .nil))))) (.var 5)) (.cons (.raise "KindFull" (.cons (.var 4) (.cons (.var 2) (.cons (.var 5) .nil)))) .nil) .nil) .nil))))), keep := false }
def P_hold_waits : Fn := { np := 4, names := ["plan", "stand", "card", "lane", "out", "name", "least", "other"], body := (.cons (.set (.one 4) (.call "out_names" false (.cons (.var 0) (.cons (.var 1) .nil)))) (.cons (.for_ (.many [5, 6, 7]) (.val (.idx (.var 1) (.int 2))) (.cons (.ite (.and (.cons (.cmp .eq (.var 5) (.var 2)) (.cons (.cmp .le (.var 6) (.var 3)) (.cons (.cmp .notIn (.var 7) (.var 4)) .nil)))) (.cons (.raise "Waits" (.cons (.var 2) (.cons (.var 7) .nil))) .nil) .nil) .nil)) .nil)), keep := false }
def P_hold_free : Fn := { np := 2, names := ["plan", "one"], body := (.cons (.ite (.call "is_out" false (.cons (.var 0) (.cons (.var 1) .nil))) (.cons (.raise "Out" (.cons (.idx (.var 1) (.int 0)) .nil)) .nil) .nil) (.cons (.ite (.idx (.var 1) (.int 3)) (.cons (.raise "Blocked" (.cons (.idx (.var 1) (.int 0)) .nil)) .nil) .nil) .nil)), keep := false }
def P_pulled : Fn := { np := 3, names := ["plan", "stand", "card", "one", "lane"], body := (.cons (.set (.one 3) (.call "card_of" false (.cons (.var 1) (.cons (.var 2) .nil)))) (.cons (.ex (.call "hold_free" false (.cons (.var 0) (.cons (.var 3) .nil)))) (.cons (.set (.one 4) (.call "lane_at" false (.cons (.var 0) (.cons (.idx (.var 3) (.int 1)) (.cons (.bop .add (.idx (.var 3) (.int 2)) (.int 1)) .nil))))) (.cons (.ex (.call "hold_waits" false (.cons (.var 0) (.cons (.var 1) (.cons (.var 2) (.cons (.var 4) .nil)))))) (.cons (.ex (.call "hold_room" false (.cons (.var 0) (.cons (.var 1) (.cons (.idx (.var 3) (.int 1)) (.cons (.var 4) .nil)))))) (.cons (.ret (.call "with_card" false (.cons (.var 1) (.cons (.tup (.cons (.var 2) (.cons (.idx (.var 3) (.int 1)) (.cons (.bop .add (.idx (.var 3) (.int 2)) (.int 1)) (.cons (.bl false) .nil))))) .nil)))) .nil)))))), keep := false }
def P_put_back : Fn := { np := 3, names := ["plan", "stand", "card", "one"], body := (.cons (.set (.one 3) (.call "card_of" false (.cons (.var 1) (.cons (.var 2) .nil)))) (.cons (.ex (.call "hold_free" false (.cons (.var 0) (.cons (.var 3) .nil)))) (.cons (.ite (.cmp .eq (.idx (.var 3) (.int 2)) (.int 0)) (.cons (.raise "InYard" (.cons (.var 2) .nil)) .nil) .nil) (.cons (.ex (.call "hold_room" false (.cons (.var 0) (.cons (.var 1) (.cons (.idx (.var 3) (.int 1)) (.cons (.call "lane_at" false (.cons (.var 0) (.cons (.idx (.var 3) (.int 1)) (.cons (.bop .sub (.idx (.var 3) (.int 2)) (.int 1)) .nil)))) .nil)))))) (.cons (.ret (.call "with_card" false (.cons (.var 1) (.cons (.tup (.cons (.var 2) (.cons (.idx (.var 3) (.int 1)) (.cons (.bop .sub (.idx (.var 3) (.int 2)) (.int 1)) (.cons (.bl false) .nil))))) .nil)))) .nil))))), keep := false }
end CL
namespace CL
def Ulaw_refusal : Fn := { np := 1, names := ["_law_e", "_law_some", "_law_word"], body := (.cons (.set (.one 1) (.lst (.cons (.xis ["NoCard"] false) (.cons (.xis ["Out"] false) (.cons (.xis ["Blocked"] false) .nil))))) (.cons (.set (.one 1) (.bop .add (.var 1) (.lst (.cons (.xis ["Waits"] false) (.cons (.xis ["Full"] false) .nil))))) (.cons (.set (.one 1) (.bop .add (.var 1) (.lst (.cons (.xis ["KindFull"] false) (.cons (.xis ["InYard"] false) .nil))))) (.cons (.ite (.or (.cons (.cmp .ne (.bm .count (.var 1) (.cons (.bl true) .nil)) (.int 1)) (.cons (.not (.xis ["ValueError"] false)) .nil))) (.cons (.ret (.tup (.cons (.str [111, 116, 104, 101, 114]) .nil))) .nil) .nil) (.cons (.set (.one 2) (.idx (.lst (.cons (.str [78, 111, 67, 97, 114, 100]) (.cons (.str [79, 117, 116]) (.cons (.str [66, 108, 111, 99, 107, 101, 100]) (.cons (.str [87, 97, 105, 116, 115]) (.cons (.str [70, 117, 108, 108]) (.cons (.str [75, 105, 110, 100, 70, 117, 108, 108]) (.cons (.str [73, 110, 89, 97, 114, 100]) .nil)))))))) (.bm .index (.var 1) (.cons (.bl true) .nil)))) (.cons (.ite (.cmp .eq (.var 2) (.str [70, 117, 108, 108])) (.cons (.ret (.tup (.cons (.var 2) (.cons (.xfld "lane") (.cons (.xfld "bound") .nil))))) .nil) .nil) (.cons (.ite (.cmp .eq (.var 2) (.str [75, 105, 110, 100, 70, 117, 108, 108])) (.cons (.ret (.tup (.cons (.var 2) (.cons (.xfld "lane") (.cons (.xfld "kind") (.cons (.xfld "bound") .nil)))))) .nil) .nil) (.cons (.ite (.cmp .eq (.var 2) (.str [87, 97, 105, 116, 115])) (.cons (.ret (.tup (.cons (.var 2) (.cons (.xfld "card") (.cons (.xfld "other") .nil))))) .nil) .nil) (.cons (.ret (.tup (.cons (.var 2) (.cons (.xfld "card") .nil)))) .nil))))))))), keep := false }
def Ulaw_came : Fn := { np := 4, names := ["_law_plan_here", "_law_stand_here", "_law_one", "_law_later", "_law_kind_here", "_law_goal", "_law_lack", "_law_others", "_law_other"], body := (.cons (.set (.one 4) (.call "_law_kind" false (.cons (.var 0) (.cons (.idx (.var 2) (.int 1)) .nil)))) (.cons (.set (.one 5) (.call "_law_lane" false (.cons (.var 0) (.cons (.var 3) .nil)))) (.cons (.set (.one 6) (.call "_law_room" false (.cons (.var 0) (.cons (.idx (.var 1) (.int 0)) (.cons (.idx (.var 1) (.int 1)) (.cons (.var 4) (.cons (.var 5) .nil))))))) (.cons (.ite (.cmp .eq (.var 6) (.str [70, 117, 108, 108])) (.cons (.ret (.tup (.cons (.str [70, 117, 108, 108]) (.cons (.idx (.idx (.idx (.var 0) (.int 0)) (.var 5)) (.int 0)) (.cons (.idx (.idx (.var 1) (.int 0)) (.var 5)) .nil))))) .nil) .nil) (.cons (.ite (.cmp .eq (.var 6) (.str [75, 105, 110, 100, 70, 117, 108, 108])) (.cons (.ret (.tup (.cons (.str [75, 105, 110, 100, 70, 117, 108, 108]) (.cons (.idx (.idx (.idx (.var 0) (.int 0)) (.var 5)) (.int 0)) (.cons (.idx (.var 4) (.int 0)) (.cons (.idx (.idx (.var 4) (.int 2)) (.bm .index (.idx (.var 4) (.int 1)) (.cons (.var 5) .nil))) .nil)))))) .nil) .nil) (.cons (.set (.one 7) (.lcIf (.var 8) (.one 8) (.val (.idx (.var 1) (.int 1))) (.cmp .ne (.var 8) (.var 2)))) (.cons (.ret (.tup (.cons (.idx (.var 1) (.int 0)) (.cons (.bi .tuple (.cons (.bi .sorted (.cons (.bop .add (.var 7) (.lst (.cons (.var 3) .nil))) .nil)) .nil)) (.cons (.idx (.var 1) (.int 2)) .nil))))) .nil))))))), keep := false }
def Ulaw_back_due : Fn := { np := 3, names := ["_law_plan_here", "_law_stand_here", "_law_name", "_law_found", "_law_one"], body := (.cons (.set (.one 3) (.lcIf (.var 4) (.one 4) (.val (.idx (.var 1) (.int 1))) (.cmp .eq (.idx (.var 4) (.int 0)) (.var 2)))) (.cons (.ite (.cmp .eq (.var 3) (.lst .nil)) (.cons (.ret (.tup (.cons (.str [78, 111, 67, 97, 114, 100]) (.cons (.var 2) .nil)))) .nil) .nil) (.cons (.set (.one 4) (.idx (.var 3) (.int 0))) (.cons (.ite (.cmp .eq (.call "_law_lane" false (.cons (.var 0) (.cons (.var 4) .nil))) (.bi .len (.cons (.idx (.var 0) (.int 0)) .nil))) (.cons (.ret (.tup (.cons (.str [79, 117, 116]) (.cons (.var 2) .nil)))) .nil) .nil) (.cons (.ite (.idx (.var 4) (.int 3)) (.cons (.ret (.tup (.cons (.str [66, 108, 111, 99, 107, 101, 100]) (.cons (.var 2) .nil)))) .nil) .nil) (.cons (.ite (.cmp .eq (.idx (.var 4) (.int 2)) (.int 0)) (.cons (.ret (.tup (.cons (.str [73, 110, 89, 97, 114, 100]) (.cons (.var 2) .nil)))) .nil) .nil) (.cons (.ret (.call "_law_came" false (.cons (.var 0) (.cons (.var 1) (.cons (.var 4) (.cons (.tup (.cons (.var 2) (.cons (.idx (.var 4) (.int 1)) (.cons (.bop .sub (.idx (.var 4) (.int 2)) (.int 1)) (.cons (.bl false) .nil))))) .nil)))))) .nil))))))), keep := false }
def Ulaw_pull_due : Fn := { np := 3, names := ["_law_plan_here", "_law_stand_here", "_law_name", "_law_found", "_law_one", "_law_later", "_law_goal", "_law_wait", "_law_bars_here"], body := (.cons (.set (.one 3) (.lcIf (.var 4) (.one 4) (.val (.idx (.var 1) (.int 1))) (.cmp .eq (.idx (.var 4) (.int 0)) (.var 2)))) (.cons (.ite (.cmp .eq (.var 3) (.lst .nil)) (.cons (.ret (.tup (.cons (.str [78, 111, 67, 97, 114, 100]) (.cons (.var 2) .nil)))) .nil) .nil) (.cons (.set (.one 4) (.idx (.var 3) (.int 0))) (.cons (.ite (.cmp .eq (.call "_law_lane" false (.cons (.var 0) (.cons (.var 4) .nil))) (.bi .len (.cons (.idx (.var 0) (.int 0)) .nil))) (.cons (.ret (.tup (.cons (.str [79, 117, 116]) (.cons (.var 2) .nil)))) .nil) .nil) (.cons (.ite (.idx (.var 4) (.int 3)) (.cons (.ret (.tup (.cons (.str [66, 108, 111, 99, 107, 101, 100]) (.cons (.var 2) .nil)))) .nil) .nil) (.cons (.set (.one 5) (.tup (.cons (.var 2) (.cons (.idx (.var 4) (.int 1)) (.cons (.bop .add (.idx (.var 4) (.int 2)) (.int 1)) (.cons (.bl false) .nil)))))) (.cons (.set (.one 6) (.call "_law_lane" false (.cons (.var 0) (.cons (.var 5) .nil)))) (.cons (.for_ (.one 7) (.val (.idx (.var 1) (.int 2))) (.cons (.set (.one 8) (.and (.cons (.cmp .eq (.idx (.var 7) (.int 0)) (.var 2)) (.cons (.cmp .le (.idx (.var 7) (.int 1)) (.var 6)) .nil)))) (.cons (.ite (.and (.cons (.var 8) (.cons (.call "_law_bars" false (.cons (.var 0) (.cons (.idx (.var 1) (.int 1)) (.cons (.var 7) .nil)))) .nil))) (.cons (.ret (.tup (.cons (.str [87, 97, 105, 116, 115]) (.cons (.var 2) (.cons (.idx (.var 7) (.int 2)) .nil))))) .nil) .nil) .nil))) (.cons (.ret (.call "_law_came" false (.cons (.var 0) (.cons (.var 1) (.cons (.var 4) (.cons (.var 5) .nil)))))) .nil))))))))), keep := false }
def P_with_wait : Fn := { np := 5, names := ["plan", "stand", "card", "lane", "other", "here", "there", "wait", "others", "one"], body := (.cons (.set (.one 5) (.call "lane_of" false (.cons (.var 0) (.cons (.var 1) (.cons (.var 2) .nil))))) (.cons (.set (.one 6) (.call "lane_of" false (.cons (.var 0) (.cons (.var 1) (.cons (.var 4) .nil))))) (.cons (.ite (.not (.chain .le .le (.int 0) (.var 3) (.bi .len (.cons (.idx (.var 0) (.int 0)) .nil)))) (.cons (.raise "NoLane" (.cons (.var 3) .nil)) .nil) .nil) (.cons (.ite (.and (.cons (.cmp .ge (.var 5) (.var 3)) (.cons (.cmp .lt (.var 6) (.bi .len (.cons (.idx (.var 0) (.int 0)) .nil))) .nil))) (.cons (.raise "Past" (.cons (.var 2) .nil)) .nil) .nil) (.cons (.set (.one 7) (.tup (.cons (.var 2) (.cons (.var 3) (.cons (.var 4) .nil))))) (.cons (.set (.one 8) (.lcIf (.var 9) (.one 9) (.val (.idx (.var 1) (.int 2))) (.cmp .ne (.var 9) (.var 7)))) (.cons (.ite (.cmp .eq (.bi .len (.cons (.var 8) .nil)) (.gcon "MOST_WAITS")) (.cons (.raise "TooMany" (.cons (.str [116, 111, 111, 32, 109, 97, 110, 121, 32, 119, 97, 105, 116, 115]) .nil)) .nil) .nil) (.cons (.ret (.tup (.cons (.idx (.var 1) (.int 0)) (.cons (.idx (.var 1) (.int 1)) (.cons (.bi .tuple (.cons (.bi .sorted (.cons (.bop .add (.var 8) (.lst (.cons (.var 7) .nil))) .nil)) .nil)) .nil))))) .nil)))))))), keep := false }
def P_without_waits : Fn := { np := 3, names := ["stand", "card", "other", "left", "wait"], body := (.cons (.ex (.call "card_of" false (.cons (.var 0) (.cons (.var 1) .nil)))) (.cons (.ex (.call "card_of" false (.cons (.var 0) (.cons (.var 2) .nil)))) (.cons (.set (.one 3) (.lcIf (.var 4) (.one 4) (.val (.idx (.var 0) (.int 2))) (.or (.cons (.cmp .ne (.idx (.var 4) (.int 0)) (.var 1)) (.cons (.cmp .ne (.idx (.var 4) (.int 2)) (.var 2)) .nil))))) (.cons (.ite (.cmp .eq (.bi .len (.cons (.var 3) .nil)) (.bi .len (.cons (.idx (.var 0) (.int 2)) .nil))) (.cons (.raise "NoWait" (.cons (.var 1) .nil)) .nil) .nil) (.cons (.ret (.tup (.cons (.idx (.var 0) (.int 0)) (.cons (.idx (.var 0) (.int 1)) (.cons (.bi .tuple (.cons (.var 3) .nil)) .nil))))) .nil))))), keep := false }
def Ulaw_wait_refusal : Fn := { np := 1, names := ["_law_e", "_law_some", "_law_word"], body := (.cons (.set (.one 1) (.lst (.cons (.xis ["NoCard"] false) (.cons (.xis ["NoLane"] false) (.cons (.xis ["Past"] false) .nil))))) (.cons (.set (.one 1) (.bop .add (.var 1) (.lst (.cons (.xis ["TooMany"] false) (.cons (.xis ["NoWait"] false) .nil))))) (.cons (.ite (.or (.cons (.cmp .ne (.bm .count (.var 1) (.cons (.bl true) .nil)) (.int 1)) (.cons (.not (.xis ["ValueError"] false)) .nil))) (.cons (.ret (.tup (.cons (.str [111, 116, 104, 101, 114]) .nil))) .nil) .nil) (.cons (.set (.one 2) (.idx (.lst (.cons (.str [78, 111, 67, 97, 114, 100]) (.cons (.str [78, 111, 76, 97, 110, 101]) (.cons (.str [80, 97, 115, 116]) (.cons (.str [84, 111, 111, 77, 97, 110, 121]) (.cons (.str [78, 111, 87, 97, 105, 116]) .nil)))))) (.bm .index (.var 1) (.cons (.bl true) .nil)))) (.cons (.ite (.cmp .eq (.var 2) (.str [84, 111, 111, 77, 97, 110, 121])) (.cons (.ret (.tup (.cons (.var 2) .nil))) .nil) .nil) (.cons (.ite (.cmp .eq (.var 2) (.str [78, 111, 76, 97, 110, 101])) (.cons (.ret (.tup (.cons (.var 2) (.cons (.xfld "lane") .nil)))) .nil) .nil) (.cons (.ret (.tup (.cons (.var 2) (.cons (.xfld "card") .nil)))) .nil))))))), keep := false }
end CL
namespace CL
open PySem PySem.Spec PyProof.Rows L2
def lcQ {α : Type} (l : List α) (F : α → Store → R (Option D)) (S : Store) : R (List D) := if l.length ≤ LIM then go l S else .bad
where go : List α → Store → R (List D)
  | [], S => .ok [] S
  | a :: l, S => match F a S with
    | .ok none S1 => go l S1
    | .ok (some x) S1 => match go l S1 with
      | .ok xs S2 => .ok (x :: xs) S2
      | _ => .bad
    | _ => .bad
section
variable {α : Type} {tg : Tg} {ρ : Env} {S : Store}
theorem lcAll_q (f : D → Env → Store → R (Option D)) (l : List α) (f0 : α → D) : lcAll f tg ρ ⟨l.map f0, []⟩ S = lcQ l (fun a S' => f (f0 a) (wipeE ρ tg.slots) S') S := by
  unfold lcAll lcR lcQ
  simp only [List.length_map]
  split
  · have st : ∀ S, (Walk.mk (l.map f0) []).still S = true := fun S => rfl
    generalize (Walk.mk (l.map f0) []) = w at st
    generalize wipeE ρ tg.slots = ρ'
    induction l generalizing S with
    | nil => simp [lcL, st, lcQ.go]
    | cons a l ih =>
      rename_i hl
      have ih' := fun S => ih (S := S) (by rw [List.length_cons] at hl; omega)
      simp only [List.map_cons, lcL, st, if_true, lcQ.go]
      cases f (f0 a) ρ' S with
      | ok o S1 =>
        cases o with
        | none => exact ih' S1
        | some x =>
          simp only
          rw [ih' S1]
          all_goals (cases lcQ.go (fun a S' => f (f0 a) ρ' S') l S1 <;> rfl)
      | err C ns es S1 => rfl
      | bad => rfl
  · rfl
@[simp] theorem lcQ_map (l : List α) (g : α → D) (hl : l.length ≤ LIM) : lcQ l (fun a S' => .ok (some (g a)) S') S = .ok (l.map g) S := by
  unfold lcQ
  rw [if_pos hl]
  clear hl
  induction l with
  | nil => rfl
  | cons a l ih => simp only [lcQ.go, ih, List.map_cons]
@[simp] theorem lcQ_if (l : List α) (g : α → D) (p : α → Prop) [DecidablePred p] (hl : l.length ≤ LIM) : lcQ l (fun a S' => if p a then .ok (some (g a)) S' else .ok none S') S = .ok ((l.filter fun a => decide (p a)).map g) S := by
  unfold lcQ
  rw [if_pos hl]
  clear hl
  induction l with
  | nil => rfl
  | cons a l ih =>
    by_cases h : p a
    · simp only [lcQ.go, if_pos h, ih, List.filter_cons, h, decide_true, if_true, List.map_cons]
    · simp only [lcQ.go, if_neg h, ih, List.filter_cons, h, decide_false, Bool.false_eq_true, if_false]
@[simp] theorem lcQ_ifn (l : List α) (g : α → D) (p : α → Prop) [DecidablePred p] (hl : l.length ≤ LIM) : lcQ l (fun a S' => if p a then .ok none S' else .ok (some (g a)) S') S = .ok ((l.filter fun a => !decide (p a)).map g) S := by
  unfold lcQ
  rw [if_pos hl]
  clear hl
  induction l with
  | nil => rfl
  | cons a l ih =>
    by_cases h : p a
    · simp [lcQ.go, h, ih]
    · simp [lcQ.go, h, ih]
theorem lcQ_in (l : List α) (F G : α → Store → R (Option D)) (h : ∀ a, a ∈ l → ∀ S', F a S' = G a S') : lcQ l F S = lcQ l G S := by
  have key : ∀ (l : List α) (S : Store), (∀ a, a ∈ l → ∀ S', F a S' = G a S') → lcQ.go F l S = lcQ.go G l S := by
    intro l
    induction l with
    | nil => intro S _; rfl
    | cons a l ih =>
      intro S h
      simp only [lcQ.go, h a List.mem_cons_self, fun S => ih S fun b hb => h b (List.mem_cons_of_mem _ hb)]
  unfold lcQ
  rw [key l S h]
end
@[simp] theorem two2_if (t : Bool) (c : Ctx) (b : Nat) (elt : E) (ρ : Env) (S : Store) : two2 (some t) c b elt ρ S = if t = true then one1 (ev c b elt ρ S) else .ok none S := by
  cases t <;> rfl
theorem lim_ok {n : Nat} (h : n ≤ 1000) : n ≤ LIM := by unfold LIM; omega
theorem for_list {α : Type} {b : Nat} {t : Tg} {body : Ss} {c : Ctx} {w : Walk} {ρ : Env} {S : Store} {F : RS} (l : List α) (f0 : α → D) (hF : forS b t body c w (l.map f0) ρ S = F) (P : Nat → Env → Prop) (hw : w.held = []) (hP : P 0 ρ)
    (h : ∀ k a ρ, l[k]? = some a → P k ρ → ∃ ρ1, asg t (f0 a) ρ = some ρ1 ∧ ∀ Q : RS → Prop, (∀ ρ2, P (k + 1) ρ2 → Q (.ok (.nx ρ2) S)) → Q (exs b body c ρ1 S)) : ∃ ρ', F = .ok (.nx ρ') S ∧ P l.length ρ' := by
  obtain ⟨ρ', S', e, rfl, q⟩ := for_at hF (fun k ρ S' => S' = S ∧ P k ρ) hw ⟨rfl, hP⟩ (by
    rintro k d ρ S' hd ⟨rfl, hp⟩
    rw [List.getElem?_map] at hd
    obtain ⟨a, ha, rfl⟩ := Option.map_eq_some_iff.mp hd
    obtain ⟨ρ1, h1, h2⟩ := h k a ρ ha hp
    exact ⟨ρ1, h1, fun Q q _ => h2 Q fun ρ2 z => q ρ2 _ ⟨rfl, z⟩⟩)
  rw [List.length_map] at q
  exact ⟨ρ', e, q⟩
theorem for_listS {α : Type} {b : Nat} {t : Tg} {body : Ss} {c : Ctx} {w : Walk} {ρ : Env} {S : Store} {F : RS} (l : List α) (f0 : α → D) (hF : forS b t body c w (l.map f0) ρ S = F) (P : Nat → Env → Store → Prop) (hw : w.held = []) (hP : P 0 ρ S)
    (h : ∀ k a ρ S, l[k]? = some a → P k ρ S → ∃ ρ1, asg t (f0 a) ρ = some ρ1 ∧ ∀ Q : RS → Prop, (∀ ρ2 S2, P (k + 1) ρ2 S2 → Q (.ok (.nx ρ2) S2)) → Q (exs b body c ρ1 S)) : ∃ ρ' S', F = .ok (.nx ρ') S' ∧ P l.length ρ' S' := by
  have := for_at hF P hw hP (by
    rintro k d ρ S' hd hp
    rw [List.getElem?_map] at hd
    obtain ⟨a, ha, rfl⟩ := Option.map_eq_some_iff.mp hd
    obtain ⟨ρ1, h1, h2⟩ := h k a ρ S' ha hp
    exact ⟨ρ1, h1, fun Q q _ => h2 Q fun ρ2 S2 z => q ρ2 S2 z⟩)
  rw [List.length_map] at this
  exact this
end CL
namespace CL
open PySem PySem.Spec PyProof.Rows L2
structure Card where
  name : List Nat
  kind : List Nat
  place : Int
  blocked : Bool
  deriving DecidableEq
structure Wt where
  card : List Nat
  lane : Int
  other : List Nat
  deriving DecidableEq
structure Stand where
  bounds : List Int
  cards : List Card
  waits : List Wt
def cardD (c : Card) : D := .tup [.str c.name, .str c.kind, .int c.place, .bl c.blocked]
def waitD (w : Wt) : D := .tup [.str w.card, .int w.lane, .str w.other]
def standD (s : Stand) : D := .tup [.tup (s.bounds.map .int), .tup (s.cards.map cardD), .tup (s.waits.map waitD)]
section
variable {S : Store} {n : Nat} {c : Card} {w : Wt} {s : Stand}
@[simp] theorem vw_card : vw S (cardD c) = cardD c := (rfl)
@[simp] theorem vw_wait : vw S (waitD w) = waitD w := (rfl)
@[simp] theorem vw_stand : vw S (standD s) = standD s := (rfl)
@[simp] theorem idx_card0 : idxD (cardD c) (.int 0) = some (.str c.name) := (rfl)
@[simp] theorem idx_card1 : idxD (cardD c) (.int 1) = some (.str c.kind) := (rfl)
@[simp] theorem idx_card2 : idxD (cardD c) (.int 2) = some (.int c.place) := (rfl)
@[simp] theorem idx_card3 : idxD (cardD c) (.int 3) = some (.bl c.blocked) := (rfl)
@[simp] theorem idx_wait0 : idxD (waitD w) (.int 0) = some (.str w.card) := (rfl)
@[simp] theorem idx_wait1 : idxD (waitD w) (.int 1) = some (.int w.lane) := (rfl)
@[simp] theorem idx_wait2 : idxD (waitD w) (.int 2) = some (.str w.other) := (rfl)
@[simp] theorem idx_stand0 : idxD (standD s) (.int 0) = some (.tup (s.bounds.map .int)) := (rfl)
@[simp] theorem idx_stand1 : idxD (standD s) (.int 1) = some (.tup (s.cards.map cardD)) := (rfl)
@[simp] theorem idx_stand2 : idxD (standD s) (.int 2) = some (.tup (s.waits.map waitD)) := (rfl)
@[simp] theorem lim_card : (cardD c).lim n = true := by simp [cardD]
@[simp] theorem lim_wait : (waitD w).lim n = true := by simp [waitD]
@[simp] theorem lim_cards (l : List Card) : D.limL n (l.map cardD) = true := limL_all.mpr fun d hd => by
  obtain ⟨x, _, rfl⟩ := List.mem_map.mp hd
  exact lim_card
@[simp] theorem lim_waits (l : List Wt) : D.limL n (l.map waitD) = true := limL_all.mpr fun d hd => by
  obtain ⟨x, _, rfl⟩ := List.mem_map.mp hd
  exact lim_wait
@[simp] theorem lim_stand : (standD s).lim n = true := by simp [standD]
@[simp] theorem dat_card : D.dat (n + 1) (cardD c) = true := by simp [cardD]
@[simp] theorem dat_wait : D.dat (n + 1) (waitD w) = true := by simp [waitD]
@[simp] theorem datL_cards (l : List Card) : D.datL (n + 2) (l.map cardD) = true := datL_map (Nat.succ_pos _) _ _ fun _ => dat_card
@[simp] theorem datL_waits (l : List Wt) : D.datL (n + 2) (l.map waitD) = true := datL_map (Nat.succ_pos _) _ _ fun _ => dat_wait
@[simp] theorem dat_stand : D.dat (n + 3) (standD s) = true := by simp [standD]
@[simp] theorem walk_tupD (ds : List D) : walkD S (.tup ds) = some ⟨ds, []⟩ := (rfl)
@[simp] theorem walk_lstD (ds : List D) : walkD S (.lst ds) = some ⟨ds, []⟩ := (rfl)
@[simp] theorem walk_wayD (ds : List D) : walkD S (.way ds) = some ⟨ds, []⟩ := (rfl)
@[simp] theorem len_tup (ds : List D) : lenD (.tup ds) = some ds.length := (rfl)
@[simp] theorem len_lst (ds : List D) : lenD (.lst ds) = some ds.length := (rfl)
@[simp] theorem len_way (ds : List D) : lenD (.way ds) = some ds.length := (rfl)
@[simp] theorem fb_len (d : D) : fbD .len [d] = (lenD d).map fun (n : Nat) => D.int n := (rfl)
@[simp] theorem fb_tuple (ds : List D) : fbD .tuple [.lst ds] = some (.tup ds) := (rfl)
@[simp] theorem fb_tuple2 (ds : List D) : fbD .tuple [.tup ds] = some (.tup ds) := (rfl)
@[simp] theorem fb_list (ds : List D) : fbD .list [.lst ds] = some (.lst ds) := (rfl)
@[simp] theorem fb_list2 (ds : List D) : fbD .list [.tup ds] = some (.lst ds) := (rfl)
end
def laneOf (p : Plan) (k : Kind) (pl : Int) : Int := if pl = 0 then -1 else if (k.2.1.length : Int) < pl then p.lanes.length else k.2.1.getD (pl - 1).toNat 0
def cardLane (p : Plan) (c : Card) : Int := match kindAt p c.kind with
  | some k => laneOf p k c.place
  | none => -2
def isOut (p : Plan) (c : Card) : Bool := match kindAt p c.kind with
  | some k => decide ((k.2.1.length : Int) < c.place)
  | none => false
def cardsIn (p : Plan) (s : Stand) (lane : Int) : List (List Nat) := (s.cards.filter fun c => decide (cardLane p c = lane)).map (·.name)
def manyOf (p : Plan) (s : Stand) (lane : Int) (k : Kind) : Nat := (s.cards.filter fun c => decide (c.kind = k.1 ∧ laneOf p k c.place = lane)).length
def outNames (p : Plan) (s : Stand) : List (List Nat) := (s.cards.filter (isOut p)).map (·.name)
def cardOf (s : Stand) (l : List Nat) : Option Card := s.cards.find? fun c => c.name == l
structure Fits (p : Plan) (c : Card) : Prop where
  kind : ∃ k, kindAt p c.kind = some k
  pos : 0 ≤ c.place
structure KindT (T : Text) : Prop where
  kind_of : Is T "kind_of" P_kind_of
  way_of : Is T "way_of" P_way_of
  noKind : T.ex "NoKind" = some (some ["kind"])
structure LaneT (T : Text) : Prop where
  kinds : KindT T
  lane_at : Is T "lane_at" P_lane_at
structure CardT (T : Text) : Prop where
  noCard : T.ex "NoCard" = some (some ["card"])
  card_of : Is T "card_of" P_card_of
section
variable {T : Text}
theorem kind_at (L : KindT T) (n : Nat) (p : Plan) (l : List Nat) (b : Nat) (S : Store) : callN T (n + 3) "kind_of" false [planD p, .str l] b S = match kindAt p l with
    | some k => .ok (kndD k) S
    | none => .err "NoKind" ["kind"] [.str l] S := by
  rw [call_is L.kind_of rfl]
  simp [P_kind_of, Fn.start]
  generalize hF : forS _ _ _ _ _ _ _ _ = F
  unfold kindAt
  rcases for_find p.kinds _ kndD (fun k => k.1 == l) (fun ρ => ∃ x, ρ = [some (planD p), some (.str l), x]) rfl hF ⟨_, rfl⟩ (by
    rintro a ha _ ⟨x, rfl⟩
    refine ⟨_, asg_one _ _ _, fun Q hn hz => ?_⟩
    cases he : a.1 == l with
    | true =>
      simp [he]
      exact hz he
    | false =>
      simp [he]
      exact hn _ ⟨_, rfl⟩ he) with ⟨a, h1, rfl⟩ | ⟨h1, ρ', rfl, x, rfl⟩
  · rw [h1]
    simp [kndD]
  · rw [h1]
    simp [raise_one (show 2 ≤ n + 2 by omega) L.noKind]
theorem way_at (L : KindT T) (n : Nat) (p : Plan) (l : List Nat) {k : Kind} (h : kindAt p l = some k) (b : Nat) (S : Store) : callN T (n + 4) "way_of" false [planD p, .str l] b S = .ok (wayD k) S := by
  rw [call_is L.way_of rfl]
  have e := kind_at L n p l S.length S
  rw [h] at e
  simp [P_way_of, Fn.start, e]
  simp [wayD]
@[simp] theorem len_wayD (k : Kind) : lenD (wayD k) = some k.2.1.length := by simp [wayD]
@[simp] theorem vw_wayD (S : Store) (k : Kind) : vw S (wayD k) = wayD k := (rfl)
@[simp] theorem lim_wayD (n : Nat) (k : Kind) : (wayD k).lim n = true := by simp [wayD]
theorem way_len {p : Plan} (hp : PlanOk p) {l : List Nat} {k : Kind} (h : kindAt p l = some k) : k.2.1.length ≤ 6 := by
  have m := hp.km k (List.mem_of_find?_eq_some h)
  have u := rise_len p.lanes.length k.2.1 (-1) (by
    rw [List.pairwise_cons]
    exact ⟨fun x hx => by have := (m.lo x hx).1; omega, m.up⟩) (fun x hx => (m.lo x hx).2) (by have := hp.l1; omega)
  have := hp.l2
  omega
theorem lane_at_sp (L : LaneT T) (n : Nat) (p : Plan) (l : List Nat) {k : Kind} (h : kindAt p l = some k) (pl : Int) (h0 : 0 ≤ pl) (b : Nat) (S : Store) : callN T (n + 5) "lane_at" false [planD p, .str l, .int pl] b S = .ok (.int (laneOf p k pl)) S := by
  rw [call_is L.lane_at rfl]
  have e := way_at L.kinds n p l h S.length S
  cases h1 : pl == 0 with
  | true =>
    rw [show laneOf p k pl = _ from if_pos (by simpa using h1)]
    simp [P_lane_at, Fn.start, e, h1]
  | false =>
    have h1' : ¬ pl = 0 := by simpa using h1
    by_cases h2 : (k.2.1.length : Int) < pl
    · rw [show laneOf p k pl = p.lanes.length by unfold laneOf; rw [if_neg h1', if_pos h2]]
      simp [P_lane_at, Fn.start, e, h1, h2]
    · rw [show laneOf p k pl = k.2.1.getD (pl - 1).toNat 0 by unfold laneOf; rw [if_neg h1', if_neg h2]]
      have h3 : 0 ≤ pl - 1 := by omega
      have h4 : (pl - 1).toNat < k.2.1.length := by omega
      have h5 : k.2.1[(pl - 1).toNat]? = some (k.2.1.getD (pl - 1).toNat 0) := by
        rw [List.getD_eq_getElem?_getD, List.getElem?_eq_getElem h4]
        rfl
      have h6 : idxD (wayD k) (.int (pl - 1)) = some (.int (k.2.1.getD (pl - 1).toNat 0)) := by
        unfold wayD
        rw [idx_way, at_pos _ _ h3, List.getElem?_map, h5]
        rfl
      simp [P_lane_at, Fn.start, e, h1, h2, h6]
theorem card_lane (L : LaneT T) (n : Nat) (p : Plan) (c : Card) (h : Fits p c) (b : Nat) (S : Store) : callN T (n + 5) "lane_at" false [planD p, .str c.kind, .int c.place] b S = .ok (.int (cardLane p c)) S := by
  obtain ⟨k, hk⟩ := h.kind
  rw [lane_at_sp L n p _ hk _ h.pos]
  unfold cardLane
  rw [hk]
theorem card_of_sp (L : CardT T) (n : Nat) (s : Stand) (l : List Nat) (b : Nat) (S : Store) : callN T (n + 3) "card_of" false [standD s, .str l] b S = match cardOf s l with
    | some c => .ok (cardD c) S
    | none => .err "NoCard" ["card"] [.str l] S := by
  rw [call_is L.card_of rfl]
  simp [P_card_of, Fn.start]
  generalize hF : forS _ _ _ _ _ _ _ _ = F
  unfold cardOf
  rcases for_find s.cards _ cardD (fun k => k.name == l) (fun ρ => ∃ x, ρ = [some (standD s), some (.str l), x]) rfl hF ⟨_, rfl⟩ (by
    rintro a ha _ ⟨x, rfl⟩
    refine ⟨_, asg_one _ _ _, fun Q hn hz => ?_⟩
    cases he : a.name == l with
    | true =>
      simp [he]
      exact hz he
    | false =>
      simp [he]
      exact hn _ ⟨_, rfl⟩ he) with ⟨a, h1, rfl⟩ | ⟨h1, ρ', rfl, x, rfl⟩
  · rw [h1]
    simp
  · rw [h1]
    simp [raise_one (show 2 ≤ n + 2 by omega) L.noCard]
theorem lane_of_sp (L : LaneT T) (C : CardT T) (ho : Is T "lane_of" P_lane_of) (n : Nat) (p : Plan) (s : Stand) (l : List Nat) (h : ∀ c ∈ s.cards, Fits p c) (b : Nat) (S : Store) : callN T (n + 6) "lane_of" false [planD p, standD s, .str l] b S = match cardOf s l with
    | some c => .ok (.int (cardLane p c)) S
    | none => .err "NoCard" ["card"] [.str l] S := by
  rw [call_is ho rfl]
  have e := card_of_sp C (n + 2) s l S.length S
  cases hc : cardOf s l with
  | none =>
    rw [hc] at e
    simp [P_lane_of, Fn.start, e]
  | some c =>
    rw [hc] at e
    have e2 := card_lane L n p c (h c (List.mem_of_find?_eq_some hc)) S.length S
    simp [P_lane_of, Fn.start, e, e2]
@[simp] theorem limL_mapD {α : Type} (n : Nat) (f : α → D) (l : List α) (h : ∀ a, a ∈ l → (f a).lim n = true) : D.limL n (l.map f) = true := limL_all.mpr fun d hd => by
  obtain ⟨x, hx, rfl⟩ := List.mem_map.mp hd
  exact h x hx
@[simp] theorem wipe_one (ρ : Env) (i : Nat) : wipeE ρ (Tg.slots (.one i)) = ρ.set i none := (rfl)
theorem cards_in_sp (L : LaneT T) (hci : Is T "cards_in" P_cards_in) (n : Nat) (p : Plan) (s : Stand) (lane : Int) (hl : s.cards.length ≤ 1000) (h : ∀ c ∈ s.cards, Fits p c) (b : Nat) (S : Store) : callN T (n + 6) "cards_in" false [planD p, standD s, .int lane] b S = .ok (.lst ((cardsIn p s lane).map .str)) S := by
  rw [call_is hci rfl]
  simp [P_cards_in, Fn.start, lcAll_q]
  rw [lcQ_in s.cards _ (fun a S' => if cardLane p a = lane then .ok (some (.str a.name)) S' else .ok none S') fun a ha S' => by
    have e := card_lane L n p a (h a ha) S.length S'
    simp [e]]
  simp [lim_ok hl, cardsIn, Function.comp_def]
theorem many_of_sp (L : LaneT T) (hmo : Is T "many_of" P_many_of) (n : Nat) (p : Plan) (s : Stand) (lane : Int) (l : List Nat) {k : Kind} (hk : kindAt p l = some k) (hl : s.cards.length ≤ 1000) (h : ∀ c ∈ s.cards, Fits p c) (b : Nat) (S : Store) :
    callN T (n + 6) "many_of" false [planD p, standD s, .int lane, .str l] b S = .ok (.int (manyOf p s lane k)) S := by
  have hkl : k.1 = l := by
    have := List.find?_some hk
    simpa using this
  rw [call_is hmo rfl]
  simp [P_many_of, Fn.start, lcAll_q]
  rw [lcQ_in s.cards _ (fun a S' => if a.kind = k.1 ∧ laneOf p k a.place = lane then .ok (some (cardD a)) S' else .ok none S') fun a ha S' => by
    have e := lane_at_sp L n p l hk a.place (h a ha).pos S.length S'
    cases h1 : a.kind == l with
    | false =>
      have h2 : ¬ a.kind = k.1 := by rw [hkl]; simpa using h1
      simp [h1, h2]
    | true =>
      have h2 : a.kind = k.1 := by rw [hkl]; simpa using h1
      simp [h1, h2, e]]
  simp [lim_ok hl, manyOf]
theorem is_out_sp (K : KindT T) (hio : Is T "is_out" P_is_out) (n : Nat) (p : Plan) (c : Card) (h : Fits p c) (b : Nat) (S : Store) : callN T (n + 5) "is_out" false [planD p, cardD c] b S = .ok (.bl (isOut p c)) S := by
  rw [call_is hio rfl]
  obtain ⟨k, hk⟩ := h.kind
  have e := way_at K n p _ hk S.length S
  simp [P_is_out, Fn.start, e, isOut, hk]
theorem out_names_sp (K : KindT T) (hio : Is T "is_out" P_is_out) (hon : Is T "out_names" P_out_names) (n : Nat) (p : Plan) (s : Stand) (hl : s.cards.length ≤ 1000) (h : ∀ c ∈ s.cards, Fits p c) (b : Nat) (S : Store) : callN T (n + 6) "out_names" false [planD p, standD s] b S = .ok (.lst ((outNames p s).map .str)) S := by
  rw [call_is hon rfl]
  simp [P_out_names, Fn.start, lcAll_q]
  rw [lcQ_in s.cards _ (fun a S' => if isOut p a = true then .ok (some (.str a.name)) S' else .ok none S') fun a ha S' => by
    have e := is_out_sp K hio n p a (h a ha) S.length S'
    simp [e]]
  simp [lim_ok hl, outNames, Function.comp_def]
def firstStand (p : Plan) : Stand := ⟨p.lanes.map (·.2), [], []⟩
theorem first_sp (hfs : Is T "first_stand" P_first_stand) (n : Nat) (p : Plan) (hl : p.lanes.length ≤ 1000) (b : Nat) (S : Store) : callN T (n + 1) "first_stand" false [planD p] b S = .ok (standD (firstStand p)) S := by
  rw [call_is hfs rfl]
  simp [P_first_stand, Fn.start, lcAll_q, lim_ok hl]
  simp [firstStand, standD, Function.comp_def]
end
end CL
namespace CL
open PySem PySem.Spec PyProof.Rows L2
structure CardOk (p : Plan) (c : Card) : Prop where
  nm : isNm c.name = true
  kind : ∃ k, kindAt p c.kind = some k ∧ c.place ≤ k.2.1.length + 1
  pos : 0 ≤ c.place
  bl : c.blocked = true → isOut p c = false
theorem CardOk.fits {p : Plan} {c : Card} (h : CardOk p c) : Fits p c := ⟨let ⟨k, e, _⟩ := h.kind; ⟨k, e⟩, h.pos⟩
def wLt (v w : Wt) : Prop := ltD (waitD v) (waitD w) = some true
structure StandOk (p : Plan) (s : Stand) : Prop where
  bl : s.bounds.length = p.lanes.length
  bd : ∀ x ∈ s.bounds, bdOk x
  cl : s.cards.length ≤ 30
  cn : (s.cards.map (·.name)).Pairwise (· < ·)
  cm : ∀ c ∈ s.cards, CardOk p c
  wl : s.waits.length ≤ 60
  wp : s.waits.Pairwise wLt
  wm : ∀ w ∈ s.waits, w.card ∈ s.cards.map (·.name) ∧ w.other ∈ s.cards.map (·.name) ∧ 0 ≤ w.lane ∧ w.lane ≤ p.lanes.length
  bh : ∀ (i : Nat) (x : Int), s.bounds[i]? = some x → ((cardsIn p s i).length : Int) ≤ x
  kh : ∀ k ∈ p.kinds, ∀ z ∈ k.2.1.zip k.2.2, (manyOf p s z.1 k : Int) ≤ z.2
  wh : ∀ w ∈ s.waits, ∀ c ∈ s.cards, c.name = w.card → w.other ∉ outNames p s → cardLane p c < w.lane
theorem StandOk.fits {p : Plan} {s : Stand} (h : StandOk p s) : ∀ c ∈ s.cards, Fits p c := fun c hc => (h.cm c hc).fits
structure IsStandT (T : Text) : Prop where
  names : NameT T
  lane : LaneT T
  card : CardT T
  lane_of : Is T "lane_of" P_lane_of
  many_of : Is T "many_of" P_many_of
  is_out : Is T "is_out" P_is_out
  out_names : Is T "out_names" P_out_names
  cards_in : Is T "cards_in" P_cards_in
  is_card : Is T "is_card" P_is_card
  are_cards : Is T "are_cards" P_are_cards
  is_wait : Is T "is_wait" P_is_wait
  are_waits : Is T "are_waits" P_are_waits
  bounds_hold : Is T "bounds_hold" P_bounds_hold
  waits_hold : Is T "waits_hold" P_waits_hold
  is_stand : Is T "is_stand" P_is_stand
  cards : T.con "MOST_CARDS" = some (.int 30)
  waits : T.con "MOST_WAITS" = some (.int 60)
section
variable {T : Text}
@[simp] theorem isa_card (c : Ctx) (x : Card) : isaAny c (cardD x) ["tuple"] = some true := (rfl)
@[simp] theorem isa_wait (c : Ctx) (x : Wt) : isaAny c (waitD x) ["tuple"] = some true := (rfl)
@[simp] theorem isa_stand (c : Ctx) (x : Stand) : isaAny c (standD x) ["tuple"] = some true := (rfl)
@[simp] theorem isa_tup (c : Ctx) (x : List D) : isaAny c (.tup x) ["tuple"] = some true := (rfl)
@[simp] theorem isa_strD (c : Ctx) (x : List Nat) : isaAny c (.str x) ["str"] = some true := (rfl)
@[simp] theorem isa_blD (c : Ctx) (x : Bool) : isaAny c (.bl x) ["bool"] = some true := (rfl)
@[simp] theorem len_card (x : Card) : lenD (cardD x) = some 4 := (rfl)
@[simp] theorem len_wait (x : Wt) : lenD (waitD x) = some 3 := (rfl)
@[simp] theorem len_stand (x : Stand) : lenD (standD x) = some 3 := (rfl)
theorem notin_map {α : Type} (f : α → List Nat) (x : List Nat) (l : List α) : cmpD .notIn (.str x) (.lst (l.map fun a => .str (f a))) = some (!decide (x ∈ l.map f)) := by
  rw [← notin_strs]
  simp [Function.comp_def]
theorem small_str_nm {l : List Nat} (h : isNm l = true) : (D.str l).small = true := by
  have := nm_len h
  simp only [D.small, decide_eq_true_eq]
  omega
theorem is_card_ok (L : IsStandT T) (n : Nat) (p : Plan) (hp : PlanOk p) (c : Card) (h : CardOk p c) (b : Nat) (S : Store) : callN T (n + 6) "is_card" false [planD p, cardD c] b S = .ok (.bl true) S := by
  rw [call_is L.is_card rfl]
  obtain ⟨k, hk, hle⟩ := h.kind
  have e1 := is_name_sp L.names (n + 4) (.str c.name) S.length S (small_str_nm h.nm)
  have e2 := is_whole_sp L.names (n + 4) (.int c.place) S.length S rfl
  have e3 := way_at L.lane.kinds (n + 1) p c.kind hk S.length S
  have e4 := is_out_sp L.lane.kinds L.is_out n p c h.fits S.length S
  have m : c.kind ∈ p.kinds.map (·.1) := by
    have h1 := List.mem_of_find?_eq_some hk
    have h2 := List.find?_some hk
    exact List.mem_map.mpr ⟨k, h1, by simpa using h2⟩
  have k2 := hp.k2
  have hpos := h.pos
  have q1 : nmD (.str c.name) = true := h.nm
  have q2 : whB (.int c.place) = true := rfl
  rw [q1] at e1
  rw [q2] at e2
  simp [P_is_card, Fn.start, e1, e2, e3, lcAll_q, lim_ok (show p.kinds.length ≤ 1000 by omega), notin_map, m, hpos, hle]
  cases hb : c.blocked with
  | false => simp
  | true => simp [e4, h.bl hb]
theorem le_str (a b : List Nat) : cmpD .le (.str a) (.str b) = some (!decide (b < a)) := (rfl)
theorem are_cards_ok (L : IsStandT T) (n : Nat) (p : Plan) (hp : PlanOk p) (l : List Card) (hl : l.length ≤ 30) (hn : (l.map (·.name)).Pairwise (· < ·)) (h : ∀ c ∈ l, CardOk p c) (b : Nat) (S : Store) :
    callN T (n + 7) "are_cards" false [planD p, .tup (l.map cardD)] b S = .ok (.bl true) S := by
  rw [call_is L.are_cards rfl]
  have hl' : ¬ (30 : Int) < l.length := by omega
  simp [P_are_cards, Fn.start, L.cards, hl']
  generalize hF : forS _ _ _ _ _ _ _ _ = F
  obtain ⟨ρ', rfl, x, y, rfl, _⟩ := for_list l cardD hF (fun k ρ => ∃ x y, ρ = [some (planD p), some (.tup (l.map cardD)), some (.str x), y] ∧ ∀ c, l[k]? = some c → x < c.name) rfl ⟨_, _, rfl, fun c hc => by
      have := (h c (List.mem_of_getElem? hc)).nm
      cases hcn : c.name with
      | nil => rw [hcn] at this; cases this
      | cons x xs => exact List.nil_lt_cons x xs⟩ (by
    rintro k a _ hk ⟨x, y, rfl, hx⟩
    refine ⟨_, asg_one _ _ _, fun Q hq => ?_⟩
    have e := is_card_ok L n p hp a (h a (List.mem_of_getElem? hk)) S.length S
    simp [e, le_str, hx a hk]
    refine hq _ ⟨_, _, rfl, fun c hc => ?_⟩
    rw [List.pairwise_map] at hn
    obtain ⟨i1, e1⟩ := List.getElem?_eq_some_iff.mp hk
    obtain ⟨i2, e2⟩ := List.getElem?_eq_some_iff.mp hc
    have := List.pairwise_iff_getElem.mp hn k (k + 1) i1 i2 (by omega)
    rw [e1, e2] at this
    exact this)
  simp
theorem is_wait_ok (L : IsStandT T) (n : Nat) (ns : List (List Nat)) (m : Nat) (w : Wt) (h1 : w.card ∈ ns) (h2 : w.other ∈ ns) (h3 : 0 ≤ w.lane) (h4 : w.lane ≤ m) (b : Nat) (S : Store) :
    callN T (n + 2) "is_wait" false [.lst (ns.map .str), .int m, waitD w] b S = .ok (.bl true) S := by
  rw [call_is L.is_wait rfl]
  have e2 := is_whole_sp L.names n (.int w.lane) S.length S rfl
  rw [show whB (.int w.lane) = true from rfl] at e2
  simp [P_is_wait, Fn.start, e2, notin_strs, h1, h2, h3, h4]
theorem le_wait {v w : Wt} (h : wLt v w) : cmpD .le (waitD w) (waitD v) = some false := by
  show (ltD (waitD v) (waitD w)).map (!·) = _
  rw [show ltD (waitD v) (waitD w) = some true from h]
  rfl
theorem asg_two (i j : Nat) (x y : D) (ρ : Env) : asg (.many [i, j]) (.tup [x, y]) ρ = some ((ρ.set i (some x)).set j (some y)) := (rfl)
theorem are_waits_ok (L : IsStandT T) (n : Nat) (ns : List (List Nat)) (m : Nat) (l : List Wt) (hl : l.length ≤ 60) (hw : l.Pairwise wLt) (h : ∀ w ∈ l, w.card ∈ ns ∧ w.other ∈ ns ∧ 0 ≤ w.lane ∧ w.lane ≤ m) (b : Nat) (S : Store) :
    callN T (n + 3) "are_waits" false [.lst (ns.map .str), .int m, .tup (l.map waitD)] b S = .ok (.bl true) S := by
  rw [call_is L.are_waits rfl]
  have hl' : ¬ (60 : Int) < l.length := by omega
  simp [P_are_waits, Fn.start, L.waits, hl', enumD, tupD, numbered_map]
  generalize hF : forS _ _ _ _ _ _ _ _ = F
  obtain ⟨ρ', rfl, x, y, rfl⟩ := for_list l.zipIdx _ hF (fun k ρ => ∃ x y, ρ = [some (.lst (ns.map .str)), some (.int m), some (.tup (l.map waitD)), x, y]) rfl ⟨_, _, rfl⟩ (by
    rintro k ⟨a, j⟩ _ hk ⟨x, y, rfl⟩
    refine ⟨_, asg_two _ _ _ _ _, fun Q hq => ?_⟩
    have hz := List.mem_zipIdx_iff_getElem?.mp (List.mem_of_getElem? hk)
    obtain ⟨a1, a2, a3, a4⟩ := h a (List.mem_of_getElem? hz)
    have e := is_wait_ok L n ns m a a1 a2 a3 a4 S.length S
    simp [e]
    cases j with
    | zero =>
      simp
      exact hq _ ⟨_, _, rfl⟩
    | succ j =>
      obtain ⟨i1, e1⟩ := List.getElem?_eq_some_iff.mp hz
      have i2 : j < l.length := by simp at i1; omega
      have lt := List.pairwise_iff_getElem.mp hw j (j + 1) i2 i1 (by omega)
      rw [show l[j + 1] = a from e1] at lt
      have e2 : idxD (.tup (l.map waitD)) (.int ((j : Int) + 1 - 1)) = some (waitD l[j]) := by
        rw [idx_tup, at_pos _ _ (by omega), show ((j : Int) + 1 - 1).toNat = j by omega, List.getElem?_map, List.getElem?_eq_getElem i2]
        rfl
      have e3 : (0 : Int) < (j : Int) + 1 := by omega
      have e4 : decide ((0 : Int) < (j : Int) + 1) = true := decide_eq_true e3
      simp [e4, e2, le_wait lt, -Int.add_sub_cancel]
      exact hq _ ⟨_, _, rfl⟩)
  simp
theorem asg_three (i j k : Nat) (x y z : D) (ρ : Env) : asg (.many [i, j, k]) (.tup [x, y, z]) ρ = some (((ρ.set i (some x)).set j (some y)).set k (some z)) := (rfl)
theorem zip_pairs {α β : Type} (f : α → D) (g : β → D) : ∀ (l : List α) (m : List β), pairs (l.map f) (m.map g) = (l.zip m).map fun z => .tup [f z.1, g z.2]
  | [], _ => by simp [pairs]
  | _ :: _, [] => by simp [pairs]
  | x :: l, y :: m => by simp [pairs, zip_pairs f g l m]
theorem bounds_hold_ok (L : IsStandT T) (n : Nat) (p : Plan) (hp : PlanOk p) (s : Stand) (h : StandOk p s) (b : Nat) (S : Store) : callN T (n + 7) "bounds_hold" false [planD p, standD s] b S = .ok (.bl true) S := by
  rw [call_is L.bounds_hold rfl]
  have cl := h.cl
  simp [P_bounds_hold, Fn.start, enumD, tupD, numbered_map]
  generalize hF : forS _ _ _ _ _ _ _ _ = F
  obtain ⟨ρ', rfl, x2, x3, rfl⟩ := for_list s.bounds.zipIdx _ hF (fun k ρ => ∃ x y, ρ = [some (planD p), some (standD s), x, y, none, none, none]) rfl ⟨_, _, rfl⟩ (by
    rintro k ⟨a, j⟩ _ hk ⟨x, y, rfl⟩
    refine ⟨_, asg_two _ _ _ _ _, fun Q hq => ?_⟩
    have hz := List.mem_zipIdx_iff_getElem?.mp (List.mem_of_getElem? hk)
    have e := cards_in_sp L.lane L.cards_in n p s j (by omega) h.fits S.length S
    have lt : ¬ a < ((cardsIn p s j).length : Int) := by have := h.bh j a (by simpa using hz); omega
    simp [e, lt]
    exact hq _ ⟨_, _, rfl⟩)
  clear hF
  simp
  generalize hF : forS _ _ _ _ _ _ _ _ = F
  obtain ⟨ρ', rfl, x2, x3, x4, x5, x6, rfl⟩ := for_list p.kinds kndD hF (fun k ρ => ∃ x y z u v, ρ = [some (planD p), some (standD s), x, y, z, u, v]) rfl ⟨_, _, _, _, _, rfl⟩ (by
    rintro k a _ hk ⟨x, y, z, u, v, rfl⟩
    refine ⟨_, asg_three _ _ _ _ _ _ _, fun Q hq => ?_⟩
    have ha := List.mem_of_getElem? hk
    simp [zipD, tupD, zip_pairs]
    generalize hF : forS _ _ _ _ _ _ _ _ = F
    obtain ⟨ρ', rfl, x2, x3, rfl⟩ := for_list (a.2.1.zip a.2.2) _ hF (fun k ρ => ∃ x y, ρ = [some (planD p), some (standD s), x, y, some (.str a.1), some (.way (a.2.1.map .int)), some (.tup (a.2.2.map .int))]) rfl ⟨_, _, rfl⟩ (by
      rintro k c _ hk ⟨x, y, rfl⟩
      refine ⟨_, asg_two _ _ _ _ _, fun Q hq => ?_⟩
      have e := many_of_sp L.lane L.many_of n p s c.1 a.1 (kindAt_some hp ha) (by omega) h.fits S.length S
      have lt : ¬ c.2 < (manyOf p s c.1 a : Int) := by have := h.kh a ha c (List.mem_of_getElem? hk); omega
      simp [e, lt]
      exact hq _ ⟨_, _, rfl⟩)
    simp
    exact hq _ ⟨_, _, _, _, _, rfl⟩)
  simp
theorem cardOf_some {s : Stand} (hn : (s.cards.map (·.name)).Pairwise (· < ·)) {c : Card} (h : c ∈ s.cards) : cardOf s c.name = some c := by
  unfold cardOf
  have nd : (s.cards.map (·.name)).Nodup := hn.imp fun {a b} h e => by subst e; exact List.lt_irrefl a h
  generalize s.cards = l at h nd
  induction l with
  | nil => cases h
  | cons x l ih =>
    rw [List.map_cons, List.nodup_cons] at nd
    rcases List.mem_cons.mp h with rfl | h
    · simp
    · have : (x.name == c.name) = false := by
        rw [beq_eq_false_iff_ne]
        intro e
        exact nd.1 (by rw [e]; exact List.mem_map.mpr ⟨c, h, rfl⟩)
      rw [List.find?_cons, this]
      exact ih h nd.2
theorem waits_hold_ok (L : IsStandT T) (n : Nat) (p : Plan) (s : Stand) (h : StandOk p s) (b : Nat) (S : Store) : callN T (n + 7) "waits_hold" false [planD p, standD s] b S = .ok (.bl true) S := by
  rw [call_is L.waits_hold rfl]
  have cl := h.cl
  have e := out_names_sp L.lane.kinds L.is_out L.out_names n p s (by omega) h.fits S.length S
  simp [P_waits_hold, Fn.start, e]
  generalize hF : forS _ _ _ _ _ _ _ _ = F
  obtain ⟨ρ', rfl, x3, x4, x5, rfl⟩ := for_list s.waits waitD hF (fun k ρ => ∃ x y z, ρ = [some (planD p), some (standD s), some (.lst ((outNames p s).map .str)), x, y, z]) rfl ⟨_, _, _, rfl⟩ (by
    rintro k a _ hk ⟨x, y, z, rfl⟩
    refine ⟨_, asg_three _ _ _ _ _ _ _, fun Q hq => ?_⟩
    have ha := List.mem_of_getElem? hk
    by_cases ho : a.other ∈ outNames p s
    · simp [notin_strs, ho]
      exact hq _ ⟨_, _, _, rfl⟩
    · obtain ⟨c, hc, ec⟩ := List.mem_map.mp (h.wm a ha).1
      have e2 := lane_of_sp L.lane L.card L.lane_of n p s a.card h.fits S.length S
      rw [← ec, cardOf_some h.cn hc] at e2
      rw [ec] at e2
      have lt := h.wh a ha c hc ec ho
      have lt' : ¬ a.lane ≤ cardLane p c := by omega
      simp [notin_strs, ho, e2, lt']
      exact hq _ ⟨_, _, _, rfl⟩)
  simp
theorem bls_mapD {α : Type} (g : α → Bool) : ∀ l : List α, bls (l.map fun a => .bl (g a)) = some (l.map g)
  | [] => rfl
  | a :: l => by simp [bls, bls_mapD g l]
@[simp] theorem fb_all {α : Type} (g : α → Bool) (l : List α) : fbD .all [.lst (l.map fun a => .bl (g a))] = some (.bl (l.all g)) := by
  show (bls _).map _ = _
  rw [bls_mapD]
  simp [List.all_map]
@[simp] theorem all_yes {α : Type} (l : List α) : (l.all fun _ => true) = true := List.all_eq_true.mpr fun _ _ => rfl
theorem is_stand_ok (L : IsStandT T) (n : Nat) (p : Plan) (hp : PlanOk p) (s : Stand) (h : StandOk p s) (b : Nat) (S : Store) : callN T (n + 8) "is_stand" false [planD p, standD s] b S = .ok (.bl true) S := by
  rw [call_is L.is_stand rfl]
  have cl := h.cl
  have l2 := hp.l2
  have bl := h.bl
  have e1 := are_cards_ok L n p hp s.cards h.cl h.cn h.cm S.length S
  have e2 := are_waits_ok L (n + 4) (s.cards.map (·.name)) p.lanes.length s.waits h.wl h.wp h.wm S.length S
  have e3 := bounds_hold_ok L n p hp s h S.length S
  have e4 := waits_hold_ok L n p s h S.length S
  have e5 : ((s.bounds.length : Int) == (p.lanes.length : Int)) = true := by rw [bl]; simp
  simp [Function.comp_def] at e2
  simp [P_is_stand, Fn.start, lcAll_q, bl]
  rw [lcQ_in s.bounds _ (fun a S' => .ok (some (.bl true)) S') fun a ha S' => by
    have e := is_bound_sp L.names (n + 5) (.int a) S.length S' rfl
    have q : bdB (.int a) = true := by
      have := h.bd a ha
      simp only [bdB, Bool.and_eq_true, decide_eq_true_eq]
      exact this
    rw [q] at e
    simp [e]]
  simp [lim_ok (show s.bounds.length ≤ 1000 by omega), lim_ok (show s.cards.length ≤ 1000 by omega), e1, e2, e3, e4, fb_all (fun _ : Int => true), lcAll_q]
end
end CL
namespace CL
open PySem PySem.Spec PyProof.Rows L2
def Items (S : Store) (d : D) (ds : List D) : Prop := ∃ w, walkD S d = some w ∧ w.items = ds ∧ w.still S = true
theorem items_tup (S : Store) (ds : List D) : Items S (.tup ds) ds := ⟨_, rfl, rfl, rfl⟩
theorem items_lst (S : Store) (ds : List D) : Items S (.lst ds) ds := ⟨_, rfl, rfl, rfl⟩
theorem items_ref {S : Store} {i : Nat} {ds : List D} (h : S[i]? = some (.lst ds)) : Items S (.ref i) ds := ⟨⟨ds, [(i, ds)]⟩, by simp [walkD, listD, h], rfl, by simp [Walk.still, h, D.sameL_self]⟩
theorem lcAll_items {α : Type} {f : D → Env → Store → R (Option D)} {tg : Tg} {w : Walk} {ρ : Env} {S : Store} (l : List α) (f0 : α → D) (hi : w.items = l.map f0) (hs : w.still S = true) (g : α → Option D) (hl : l.length ≤ 1000)
    (h : ∀ a ∈ l, f (f0 a) (wipeE ρ tg.slots) S = .ok (g a) S) : lcAll f tg ρ w S = .ok (l.filterMap g) S := by
  unfold lcAll lcR
  rw [if_pos (by rw [hi, List.length_map]; exact lim_ok hl), hi]
  clear hi hl
  induction l with
  | nil => simp [lcL, hs]
  | cons a l ih =>
    have h1 := h a List.mem_cons_self
    have h2 := ih fun x hx => h x (List.mem_cons_of_mem _ hx)
    simp only [List.map_cons, lcL, hs, if_true, h1]
    cases hg : g a with
    | none => simp only [h2, List.filterMap_cons, hg]
    | some x => simp only [h2, List.filterMap_cons, hg]
theorem filterMap_if {α β : Type} (p : α → Bool) (f : α → β) (l : List α) : l.filterMap (fun a => if p a then some (f a) else none) = (l.filter p).map f := by
  induction l with
  | nil => rfl
  | cons a l ih =>
    cases h : p a <;> simp [List.filterMap_cons, List.filter_cons, h, ih]
structure LStandT (T : Text) : Prop where
  kind : Is T "_law_kind" Ulaw_kind
  lane : Is T "_law_lane" Ulaw_lane
  room : Is T "_law_room" Ulaw_room
  bars : Is T "_law_bars" Ulaw_bars
section
variable {T : Text}
theorem lkind_sp (L : Is T "_law_kind" Ulaw_kind) (n : Nat) (p : Plan) (hp : PlanOk p) (l : List Nat) {k : Kind} (h : kindAt p l = some k) (b : Nat) (S : Store) : callN T (n + 1) "_law_kind" false [planD p, .str l] b S = .ok (kndD k) S := by
  rw [call_is L rfl]
  have k2 := hp.k2
  have hd : (p.kinds.filter fun a => decide (a.1 = l)).head? = some k := by
    rw [List.head?_filter, ← h]
    unfold kindAt
    congr 1
    funext a
    rw [Bool.eq_iff_iff]
    simp
  simp [Ulaw_kind, Fn.start, lcAll_q, lim_ok (show p.kinds.length ≤ 1000 by omega)]
  generalize p.kinds.filter (fun a => decide (a.1 = l)) = m at hd ⊢
  cases m with
  | nil => cases hd
  | cons a m =>
    simp only [List.head?_cons, Option.some.injEq] at hd
    subst hd
    simp
    simp [kndD]
theorem lane_get (p : Plan) (k : Kind) (pl : Int) (h0 : 0 ≤ pl) (h1 : pl ≤ k.2.1.length + 1) : ([D.int (-1)] ++ k.2.1.map .int ++ [.int p.lanes.length])[pl.toNat]? = some (.int (laneOf p k pl)) := by
  unfold laneOf
  by_cases c0 : pl = 0
  · subst c0
    rfl
  · rw [if_neg c0]
    obtain ⟨j, rfl⟩ : ∃ j : Nat, pl = j + 1 := ⟨(pl - 1).toNat, by omega⟩
    rw [show ((j : Int) + 1).toNat = j + 1 by omega, show ((j : Int) + 1 - 1).toNat = j by omega]
    simp only [List.cons_append, List.nil_append, List.getElem?_cons_succ]
    by_cases c1 : (k.2.1.length : Int) < j + 1
    · rw [if_pos c1]
      obtain rfl : j = k.2.1.length := by omega
      rw [List.getElem?_append_right (by simp)]
      simp
    · rw [if_neg c1]
      have lt : j < k.2.1.length := by omega
      rw [List.getElem?_append_left (by simpa using lt), List.getElem?_map, List.getD_eq_getElem?_getD, List.getElem?_eq_getElem lt]
      rfl
theorem kind_ok {p : Plan} (hp : PlanOk p) {l : List Nat} {k : Kind} (h : kindAt p l = some k) : KindOk p.lanes.length k := hp.km k (List.mem_of_find?_eq_some h)
theorem llane_any (L : LStandT T) (n : Nat) (p : Plan) (hp : PlanOk p) (d : D) (l : List Nat) (pl : Int) {k : Kind} (h : kindAt p l = some k) (h0 : 0 ≤ pl) (h1 : pl ≤ k.2.1.length + 1) (b : Nat) (S : Store)
    (d1 : idxD (vw S d) (.int 1) = some (.str l)) (d2 : idxD (vw S d) (.int 2) = some (.int pl)) : callN T (n + 2) "_law_lane" false [planD p, d] b S = .ok (.int (laneOf p k pl)) S := by
  rw [call_is L.lane rfl]
  have e := lkind_sp L.kind n p hp l h S.length S
  have w := way_len hp h
  have ne := (kind_ok hp h).ne
  have ne' : (k.2.1.map D.int).isEmpty = false := by
    cases hk : k.2.1 with
    | nil => exact absurd hk ne
    | cons a l => rfl
  have e1 : bop .add (.tup [.int (-1)]) (.way (k.2.1.map .int)) = some (.tup ([.int (-1)] ++ k.2.1.map .int)) := by
    simp only [bop, ne']
    rw [if_pos (by simp [catOk, LIM]; omega)]
  have e2 := bop_add_tup ([.int (-1)] ++ k.2.1.map .int) [.int p.lanes.length] (by simp; omega) (by simp)
  have e3 := lane_get p k pl h0 h1
  have e4 : idxD (.tup ([.int (-1)] ++ k.2.1.map .int ++ [.int p.lanes.length])) (.int pl) = some (.int (laneOf p k pl)) := by
    rw [idx_tup, at_pos _ _ h0, e3]
  simp only [List.cons_append, List.nil_append] at e1 e2 e4
  simp [Ulaw_lane, Fn.start, d1, e, e1, e2, d2, e4, -at_pos]
theorem llane_sp (L : LStandT T) (n : Nat) (p : Plan) (hp : PlanOk p) (c : Card) (h : CardOk p c) (b : Nat) (S : Store) : callN T (n + 2) "_law_lane" false [planD p, cardD c] b S = .ok (.int (cardLane p c)) S := by
  obtain ⟨k, hk, hle⟩ := h.kind
  rw [llane_any L n p hp (cardD c) c.kind c.place hk h.pos hle b S rfl rfl]
  unfold cardLane
  rw [hk]
theorem count_strs {α : Type} (f : α → List Nat) (x : List Nat) (l : List α) (hl : l.length ≤ 1000) : mbD .count (.lst (l.map fun a => .str (f a))) [.str x] = some (.int ((l.filter fun a => decide (f a = x)).length : Nat)) := by
  have e : (l.map fun a => D.str (f a)).countP (fun y => D.eqv y (.str x)) = (l.filter fun a => decide (f a = x)).length := by
    rw [List.countP_map, ← List.countP_eq_length_filter]
    congr 1
    funext a
    show (f a == x) = decide (f a = x)
    rw [Bool.eq_iff_iff]
    simp
  have d : D.datL dp (l.map fun a => D.str (f a)) = true := datL_map (by decide) _ _ fun _ => dat_str _ _
  simp only [mbD, d, dat_str, Bool.and_self, if_true, e]
theorem place_int (x : Int) : ∀ l : List Int, x ∈ l → placeD (.int x) (l.map .int) = some (l.idxOf x)
  | [], h => by cases h
  | a :: l, h => by
    rw [List.map_cons]
    unfold placeD
    by_cases e : a = x
    · subst e
      simp [D.eqv]
    · have e' : D.eqv (.int a) (.int x) = false := by simp [D.eqv, e]
      have m : x ∈ l := by
        rcases List.mem_cons.mp h with rfl | h
        · exact absurd rfl e
        · exact h
      rw [e', place_int x l m, List.idxOf_cons, show (a == x) = false by simpa using e]
      simp
theorem index_way (k : Kind) (x : Int) (h : x ∈ k.2.1) : mbD .index (wayD k) [.int x] = some (.int (k.2.1.idxOf x : Nat)) := by
  have d : D.datL dp (k.2.1.map .int) = true := datL_ints _ _
  simp only [wayD, mbD, d, dat_int, Bool.and_self, if_true, place_int x _ h, Option.map_some]
def boundAt (k : Kind) (lane : Int) : Int := k.2.2.getD (k.2.1.idxOf lane) 0
theorem bound_idx {m : Nat} {k : Kind} (h : KindOk m k) {lane : Int} (hm : lane ∈ k.2.1) : idxD (.tup (k.2.2.map .int)) (.int (k.2.1.idxOf lane : Nat)) = some (.int (boundAt k lane)) := by
  have lt : k.2.1.idxOf lane < k.2.2.length := by
    rw [h.len]
    exact List.idxOf_lt_length_iff.mpr hm
  rw [idx_tup, at_pos _ _ (by omega), List.getElem?_map]
  unfold boundAt
  rw [List.getD_eq_getElem?_getD, show ((k.2.1.idxOf lane : Nat) : Int).toNat = k.2.1.idxOf lane by omega, List.getElem?_eq_getElem lt]
  rfl
def laneMany (p : Plan) (cs : List Card) (lane : Int) : Nat := (cs.filter fun c => decide (cardLane p c = lane)).length
def kindMany (p : Plan) (cs : List Card) (lane : Int) (kn : List Nat) : Nat := (cs.filter fun c => decide (cardLane p c = lane ∧ c.kind = kn)).length
def fullT : List Nat := [70, 117, 108, 108]
def kindFullT : List Nat := [75, 105, 110, 100, 70, 117, 108, 108]
def roomOf (p : Plan) (bs : List Int) (cs : List Card) (k : Kind) (lane : Int) : List Nat :=
  if ¬ (0 ≤ lane ∧ lane < p.lanes.length) then [] else
  if bs.getD lane.toNat 0 ≤ laneMany p cs lane then fullT else
  if boundAt k lane ≤ kindMany p cs lane k.1 then kindFullT else []
theorem room_sp (L : LStandT T) (n : Nat) (p : Plan) (hp : PlanOk p) (bd : D) (bs : List Int) (hb : bd = .lst (bs.map .int) ∨ bd = .tup (bs.map .int)) (hbl : bs.length = p.lanes.length) (cd : D) (cs : List Card) (hl : cs.length ≤ 1000) (h : ∀ c ∈ cs, CardOk p c)
    (k : Kind) (hk : k ∈ p.kinds) (lane : Int) (hm : 0 ≤ lane ∧ lane < p.lanes.length → lane ∈ k.2.1) (b : Nat) (S : Store) (hc : Items S cd (cs.map cardD)) :
    callN T (n + 3) "_law_room" false [planD p, bd, cd, kndD k, .int lane] b S = .ok (.str (roomOf p bs cs k lane)) S := by
  rw [call_is L.room rfl]
  obtain ⟨w, w1, w2, w3⟩ := hc
  have e := fun ρ => lcAll_items (f := lcTwo (ctxN T (n + 2)) S.length (.idx (.var 6) (.int 1)) (.cmp .eq (.call "_law_lane" false (.cons (.var 0) (.cons (.var 6) .nil))) (.var 4)) (.one 6)) (tg := .one 6) (ρ := [some (planD p), some bd, some cd, some (kndD k), some (.int lane), none, ρ]) cs cardD w2 w3 (fun a => if decide (cardLane p a = lane) = true then some (.str a.kind) else none) hl (by
    intro a ha
    have e := llane_sp L n p hp a (h a ha) S.length S
    by_cases q : cardLane p a = lane
    · simp [e, q]
    · simp [e, q])
  simp only [filterMap_if] at e
  have bi : ∀ i : Nat, i < bs.length → idxD (vw S bd) (.int i) = some (.int (bs.getD i 0)) := by
    intro i hi
    have : atD (bs.map D.int) (i : Int) = some (.int (bs.getD i 0)) := by
      rw [at_pos _ _ (by omega), List.getElem?_map, show (i : Int).toNat = i by omega, List.getD_eq_getElem?_getD, List.getElem?_eq_getElem hi]
      rfl
    rcases hb with rfl | rfl <;> simpa using this
  have ko := hp.km k hk
  by_cases c1 : 0 ≤ lane ∧ lane < p.lanes.length
  · obtain ⟨i, rfl⟩ : ∃ i : Nat, lane = i := ⟨lane.toNat, by omega⟩
    have hi : i < bs.length := by omega
    have b2 := bi i hi
    have mm := hm c1
    have c1' : i < p.lanes.length := by omega
    have e3 := count_strs Card.kind k.1 (cs.filter fun a => decide (cardLane p a = (i : Int))) (Nat.le_trans (List.length_filter_le _ _) hl)
    have e4 := index_way k i mm
    have e5 := bound_idx ko mm
    have hr : roomOf p bs cs k i = if bs.getD i 0 ≤ laneMany p cs i then fullT else if boundAt k i ≤ kindMany p cs i k.1 then kindFullT else [] := by
      unfold roomOf
      rw [if_neg (by simpa using c1), show ((i : Nat) : Int).toNat = i by omega]
    have hk : kindMany p cs i k.1 = ((cs.filter fun a => decide (cardLane p a = (i : Int))).filter fun a => decide (a.kind = k.1)).length := by
      unfold kindMany
      rw [List.filter_filter]
      congr 2
      funext a
      rw [Bool.decide_and, Bool.and_comm]
    rw [hr, hk]
    unfold laneMany
    generalize bs.getD i 0 = x at b2
    generalize cs.filter (fun a => decide (cardLane p a = (i : Int))) = m at e e3
    generalize boundAt k i = z at e5
    generalize hj : k.2.1.idxOf (i : Int) = j at e4 e5
    have w0 : mbId .index (kindD (wayD k)) = some "tuple.index" := rfl
    have e4' : mbD .index (.way (k.2.1.map .int)) [.int (i : Int)] = some (.int j) := e4
    by_cases c2 : x ≤ m.length
    · rw [if_pos c2]
      simp [Ulaw_room, Fn.start, w1, e, c1', b2, c2, fullT]
    · rw [if_neg c2]
      by_cases c3 : z ≤ ((m.filter fun a => decide (a.kind = k.1)).length : Nat)
      · rw [if_pos c3]
        simp [Ulaw_room, Fn.start, w1, e, c1', b2, c2, c3, kindFullT, kindD, mbId, bmD, MB.writes, e3, e4', e5, -idx_tup]
      · rw [if_neg c3]
        simp [Ulaw_room, Fn.start, w1, e, c1', b2, c2, c3, kindFullT, kindD, mbId, bmD, MB.writes, e3, e4', e5, -idx_tup]
  · rw [show roomOf p bs cs k lane = [] by unfold roomOf; rw [if_pos c1]]
    by_cases c2 : 0 ≤ lane
    · have c3 : ¬ lane < p.lanes.length := fun q => c1 ⟨c2, q⟩
      simp [Ulaw_room, Fn.start, w1, e, c2, c3]
    · simp [Ulaw_room, Fn.start, w1, e, c2]
theorem bars_sp (L : LStandT T) (n : Nat) (p : Plan) (hp : PlanOk p) (cd : D) (cs : List Card) (hl : cs.length ≤ 1000) (h : ∀ c ∈ cs, CardOk p c) (wd : D) (l : List Nat) {c : Card} (hc : cs.find? (fun a => a.name == l) = some c) (b : Nat) (S : Store) (hi : Items S cd (cs.map cardD))
    (hw : idxD (vw S wd) (.int 2) = some (.str l)) : callN T (n + 3) "_law_bars" false [planD p, cd, wd] b S = .ok (.bl (decide (cardLane p c < p.lanes.length))) S := by
  rw [call_is L.bars rfl]
  obtain ⟨w, w1, w2, w3⟩ := hi
  have e := fun ρ => lcAll_items (f := lcTwo (ctxN T (n + 2)) S.length (.var 4) (.cmp .eq (.idx (.var 4) (.int 0)) (.idx (.var 2) (.int 2))) (.one 4)) (tg := .one 4) (ρ := [some (planD p), some cd, some wd, none, ρ]) cs cardD w2 w3 (fun a => if decide (a.name = l) = true then some (cardD a) else none) hl (by
    intro a ha
    by_cases q : a.name = l
    · simp [hw, q]
    · simp [hw, q])
  simp only [filterMap_if] at e
  have hd : (cs.filter fun a => decide (a.name = l)).head? = some c := by
    rw [List.head?_filter, ← hc]
    congr 1
    funext a
    rw [Bool.eq_iff_iff]
    simp
  have e2 := llane_sp L n p hp c (h c (List.mem_of_find?_eq_some hc)) S.length S
  have e3 : idxD (.lst ((cs.filter fun a => decide (a.name = l)).map cardD)) (.int 0) = some (cardD c) := by
    rw [idx_lst, at_pos _ _ (by omega), List.getElem?_map]
    rw [List.head?_eq_getElem?] at hd
    rw [show (0 : Int).toNat = 0 from rfl, hd]
    rfl
  simp [Ulaw_bars, Fn.start, w1, e, e2, e3, -idx_lst]
end
end CL
namespace CL
open PySem PySem.Spec PyProof.Rows L2
mutual
inductive Like : D → D → Prop
  | non : Like .non .non
  | bl (b : Bool) : Like (.bl b) (.bl b)
  | int (i : Int) : Like (.int i) (.int i)
  | str (l : List Nat) : Like (.str l) (.str l)
  | tt {ds es : List D} : LikeL ds es → Like (.tup ds) (.tup es)
  | tw {ds es : List D} : LikeL ds es → Like (.tup ds) (.way es)
  | wt {ds es : List D} : LikeL ds es → Like (.way ds) (.tup es)
  | ww {ds es : List D} : LikeL ds es → Like (.way ds) (.way es)
  | ll {ds es : List D} : LikeL ds es → Like (.lst ds) (.lst es)
inductive LikeL : List D → List D → Prop
  | nil : LikeL [] []
  | cons {d e : D} {ds es : List D} : Like d e → LikeL ds es → LikeL (d :: ds) (e :: es)
end
theorem LikeL.len : ∀ {ds es : List D}, LikeL ds es → ds.length = es.length
  | _, _, .nil => rfl
  | _, _, .cons _ t => by rw [List.length_cons, List.length_cons, LikeL.len t]
theorem LikeL.zip : ∀ {ds es : List D}, LikeL ds es → ∀ z ∈ ds.zip es, Like z.1 z.2
  | _, _, .nil, z, hz => by cases hz
  | _, _, .cons h t, z, hz => by
    rw [List.zip_cons_cons] at hz
    rcases List.mem_cons.mp hz with rfl | hz
    · exact h
    · exact LikeL.zip t z hz
mutual
theorem Like.refl : ∀ (n : Nat) (d : D), d.dat n = true → Like d d
  | _, .non, _ => .non
  | _, .bl b, _ => .bl b
  | _, .int i, _ => .int i
  | _, .str l, _ => .str l
  | n, .tup ds, h => .tt (LikeL.refl n ds (by rw [D.dat] at h; exact h))
  | n, .lst ds, h => .ll (LikeL.refl n ds (by rw [D.dat] at h; exact h))
  | n, .way ds, h => .ww (LikeL.refl n ds (by rw [D.dat] at h; exact h))
  | _, .dic _ _ _, h => by simp [D.dat] at h
  | _, .ins _ _ _, h => by simp [D.dat] at h
  | _, .exn _ _ _, h => by simp [D.dat] at h
  | _, .ref _, h => by simp [D.dat] at h
  | _, .scr _, h => by simp [D.dat] at h
theorem LikeL.refl : ∀ (n : Nat) (ds : List D), D.datL n ds = true → LikeL ds ds
  | _, [], _ => .nil
  | n, d :: ds, h => by
    simp only [D.datL, Bool.and_eq_true] at h
    exact .cons (Like.refl (n - 1) d h.2.1) (LikeL.refl n ds h.2.2)
end
theorem pairs_zip : ∀ ds es : List D, pairs ds es = (ds.zip es).map fun z => .tup [z.1, z.2]
  | [], _ => by simp [pairs]
  | _ :: _, [] => by simp [pairs]
  | x :: l, y :: m => by simp [pairs, pairs_zip l m]
theorem dat_zip {k : Nat} : ∀ {ds es : List D}, D.datL (k + 1) ds = true → D.datL (k + 1) es = true → ∀ z ∈ ds.zip es, z.1.dat k = true ∧ z.2.dat k = true
  | [], _, _, _, z, hz => by simp at hz
  | _ :: _, [], _, _, z, hz => by simp at hz
  | d :: ds, e :: es, h1, h2, z, hz => by
    rw [datL_cons, Bool.and_eq_true] at h1 h2
    rw [List.zip_cons_cons] at hz
    rcases List.mem_cons.mp hz with rfl | hz
    · exact ⟨h1.1, h2.1⟩
    · exact dat_zip h1.2 h2.2 z hz
@[simp] theorem cmp_eq_bl (a b : Bool) : cmpD .eq (.bl a) (.bl b) = some (a == b) := by
  simp [cmpD, eqD, D.dat, D.eqv]
@[simp] theorem cmp_ne_bl (a b : Bool) : cmpD .ne (.bl a) (.bl b) = some (!(a == b)) := by
  simp [cmpD, eqD, D.dat, D.eqv]
@[simp] theorem fb_all_map {α : Type} (g : α → Bool) (l : List α) : fbD .all [.lst (l.map fun a => .bl (g a))] = some (.bl (l.all g)) := fb_all g l
section
variable {T : Text}
theorem asg_pair (i j : Nat) (x y : D) (ρ : Env) : asg (.many [i, j]) (.tup [x, y]) ρ = some ((ρ.set i (some x)).set j (some y)) := (rfl)
theorem lcOne_two (c : Ctx) (b : Nat) (elt : E) (i j : Nat) (x y : D) (ρ : Env) (S : Store) : lcOne c b elt (.many [i, j]) (.tup [x, y]) ρ S = one1 (ev c b elt ((ρ.set i (some x)).set j (some y)) S) := (rfl)
theorem same_yes (L : Is T "_law_same" Ulaw_same) : ∀ (k n : Nat) (d e : D), Like d e → d.dat k = true → e.dat k = true → k ≤ 10 → d.small = true → ∀ (b : Nat) (S : Store), callN T (n + k + 1) "_law_same" false [d, e] b S = .ok (.bl true) S
  | k, n, d, e, h, hd, he, hk, sm, b, S => by
    rw [call_is L rfl]
    have seq : ∀ (d e : D) (ds es : List D), LikeL ds es → D.datL k ds = true → D.datL k es = true → ds.length ≤ 1000 → (∀ x ∈ ds, x.small = true) →
        (∀ ρ, lcAll (lcOne (ctxN T (n + k)) S.length (.call "_law_same" false (.cons (.var 2) (.cons (.var 3) .nil))) (.many [2, 3])) (.many [2, 3]) [some d, some e, none, ρ] ⟨pairs ds es, []⟩ S = .ok ((ds.zip es).map fun _ => .bl true) S) := by
      intro d e ds es hl h1 h2 len sml ρ
      rw [pairs_zip]
      have := lcAll_items (f := lcOne (ctxN T (n + k)) S.length (.call "_law_same" false (.cons (.var 2) (.cons (.var 3) .nil))) (.many [2, 3])) (tg := .many [2, 3]) (w := ⟨(ds.zip es).map fun z => .tup [z.1, z.2], []⟩) (ρ := [some d, some e, none, ρ]) (S := S) (ds.zip es) _ rfl rfl (fun _ => some (.bl true)) (by rw [List.length_zip]; omega) (by
        intro z hz
        obtain ⟨z1, z2⟩ := z
        rw [lcOne_two]
        match k, h1, h2 with
        | 0, h1, h2 =>
          cases ds with
          | nil => simp at hz
          | cons a l => simp [D.datL] at h1
        | k + 1, h1, h2 =>
          obtain ⟨q1, q2⟩ := dat_zip h1 h2 _ hz
          have := same_yes L k n z1 z2 (hl.zip _ hz) q1 q2 (by omega) (sml _ (List.of_mem_zip hz).1) S.length S
          have e : callN T (n + (k + 1)) "_law_same" false [z1, z2] S.length S = .ok (.bl true) S := this
          simp [Tg.slots, wipeE, e])
      rw [List.filterMap_eq_map'] at this
      exact this
    have sl : ∀ ds : List D, D.smallL ds = true → ∀ x ∈ ds, x.small = true := fun ds h => smallL_all.mp h
    cases h with
    | non => simp [Ulaw_same, Fn.start, isaAny, isaD, eq_self .non rfl]
    | bl t =>
      have q := eq_self (.bl t) (dat_bl _ _)
      simp [Ulaw_same, Fn.start, isaAny, isaD, q]
    | int i => simp [Ulaw_same, Fn.start, isaAny, isaD]
    | str l => simp [Ulaw_same, Fn.start, isaAny, isaD]
    | @tt ds es hl =>
      rw [dat_tup] at hd
      rw [dat_tup] at he
      simp only [D.small, Bool.and_eq_true, decide_eq_true_eq] at sm
      have e := seq (.tup ds) (.tup es) ds es hl hd he sm.1 (sl ds sm.2)
      have al := fb_all (fun _ : D × D => true) (ds.zip es)
      simp [Ulaw_same, Fn.start, isaAny, isaD, zipD, tupD, e, hl.len, al]
    | @tw ds es hl =>
      rw [dat_tup] at hd
      rw [dat_way] at he
      simp only [D.small, Bool.and_eq_true, decide_eq_true_eq] at sm
      have e := seq (.tup ds) (.way es) ds es hl hd he sm.1 (sl ds sm.2)
      have al := fb_all (fun _ : D × D => true) (ds.zip es)
      simp [Ulaw_same, Fn.start, isaAny, isaD, zipD, tupD, e, hl.len, al]
    | @wt ds es hl =>
      rw [dat_way] at hd
      rw [dat_tup] at he
      simp only [D.small, Bool.and_eq_true, decide_eq_true_eq] at sm
      have e := seq (.way ds) (.tup es) ds es hl hd he sm.1 (sl ds sm.2)
      have al := fb_all (fun _ : D × D => true) (ds.zip es)
      simp [Ulaw_same, Fn.start, isaAny, isaD, zipD, tupD, e, hl.len, al]
    | @ww ds es hl =>
      rw [dat_way] at hd
      rw [dat_way] at he
      simp only [D.small, Bool.and_eq_true, decide_eq_true_eq] at sm
      have e := seq (.way ds) (.way es) ds es hl hd he sm.1 (sl ds sm.2)
      have al := fb_all (fun _ : D × D => true) (ds.zip es)
      simp [Ulaw_same, Fn.start, isaAny, isaD, zipD, tupD, e, hl.len, al]
    | @ll ds es hl =>
      rw [dat_lst] at hd
      rw [dat_lst] at he
      simp only [D.small, Bool.and_eq_true, decide_eq_true_eq] at sm
      have e := seq (.lst ds) (.lst es) ds es hl hd he sm.1 (sl ds sm.2)
      have al := fb_all (fun _ : D × D => true) (ds.zip es)
      simp [Ulaw_same, Fn.start, isaAny, isaD, zipD, tupD, listD, e, hl.len, al]
end
end CL
namespace CL
open PySem PySem.Spec PyProof.Rows L2
theorem pdL_map {α : Type} (f : α → D) (g : α → PyData) (h : ∀ a, (f a).pd = some (g a)) : ∀ l : List α, D.pdL (l.map f) = some (l.map g)
  | [] => rfl
  | a :: l => by simp [D.pdL, h a, pdL_map f g h l]
theorem sortD_map {α : Type} (f : α → D) (g : α → PyData) (le : α → α → Bool) (hd : ∀ a, (f a).dat (dp - 1) = true) (hp : ∀ a, (f a).pd = some (g a)) (hal : ∀ a b, PySem.W.alike (g a) (g b) = true)
    (hso : (∀ a, ∃ x r, g a = .tuple (x :: r)) ∨ ∀ a, ∃ s, g a = .str s) (hle : ∀ a b, le a b = leD (f a) (f b)) (l : List α) (hl : l.length ≤ 1000) : sortD (l.map f) = some ((l.mergeSort le).map f) := by
  have d : D.datL dp (l.map f) = true := datL_map (by decide) f l hd
  unfold sortD
  rw [if_pos (by rw [d, List.length_map]; simpa using lim_ok hl), pdL_map f g hp l]
  have a1 : alikeAllD (l.map g) = true := by
    unfold alikeAllD
    rw [List.all_eq_true]
    intro x hx
    rw [List.all_eq_true]
    intro y hy
    obtain ⟨a, _, rfl⟩ := List.mem_map.mp hx
    obtain ⟨b, _, rfl⟩ := List.mem_map.mp hy
    exact hal a b
  have a2 : sortOk (l.map g) = true := by
    unfold sortOk
    rw [Bool.or_eq_true]
    rcases hso with h | h
    · left
      rw [List.all_eq_true]
      intro x hx
      obtain ⟨a, _, rfl⟩ := List.mem_map.mp hx
      obtain ⟨x, r, e⟩ := h a
      rw [e]
    · right
      rw [List.all_eq_true]
      intro x hx
      obtain ⟨a, _, rfl⟩ := List.mem_map.mp hx
      obtain ⟨s, e⟩ := h a
      rw [e]
  simp only [a1, a2, Bool.and_self, if_true]
  rw [List.map_mergeSort (s := leD) fun a _ b _ => hle a b]
def leS (a b : List Nat) : Bool := !decide (b < a)
theorem leS_trans (a b c : List Nat) (h1 : leS a b = true) (h2 : leS b c = true) : leS a c = true := by
  simp only [leS, Bool.not_eq_true', decide_eq_false_iff_not] at *
  exact List.le_trans (l₁ := a) (l₂ := b) (l₃ := c) h1 h2
theorem leS_total (a b : List Nat) : (leS a b || leS b a) = true := by
  rw [Bool.or_eq_true]
  simp only [leS, Bool.not_eq_true', decide_eq_false_iff_not]
  exact List.le_total a b
theorem sorted_strs (ls : List (List Nat)) (hl : ls.length ≤ 1000) : fbD .sorted [.lst (ls.map .str)] = some (.lst ((ls.mergeSort leS).map .str)) := by
  show (sortD (ls.map D.str)).map D.lst = _
  rw [sortD_map D.str (fun l => .str ⟨l.toArray⟩) leS (fun _ => dat_str _ _) (fun _ => by simp [D.pd]) (fun _ _ => rfl) (.inr fun a => ⟨_, rfl⟩) (fun a b => rfl) ls hl]
  rfl
theorem sort_lt {ls : List (List Nat)} (hn : ls.Nodup) : (ls.mergeSort leS).Pairwise (· < ·) := by
  have h1 := List.pairwise_mergeSort (le := leS) leS_trans leS_total ls
  have h2 : (ls.mergeSort leS).Nodup := (List.mergeSort_perm _ _).nodup_iff.mpr hn
  refine (h1.and h2).imp fun {a b} h => ?_
  simp only [leS, Bool.not_eq_true', decide_eq_false_iff_not] at h
  exact Classical.byContradiction fun q => h.2 (List.le_antisymm (as := a) (bs := b) h.1 q)
def wKey (w : Wt) : List Key := [.inr ⟨w.card.toArray⟩, .inl w.lane, .inr ⟨w.other.toArray⟩]
theorem wKey_D (w : Wt) : kDT (wKey w) = waitD w := by simp [kDT, wKey, kD, waitD]
theorem wKey_inj {v w : Wt} (h : wKey v = wKey w) : v = w := by
  cases v
  cases w
  simp only [wKey, List.cons.injEq, Sum.inr.injEq, Sum.inl.injEq, Str.mk.injEq, and_true] at h
  obtain ⟨h1, h2, h3⟩ := h
  simp only [Wt.mk.injEq]
  exact ⟨List.toArray_inj h1, h2, List.toArray_inj h3⟩
def wOf : List Key → Wt
  | [.inr a, .inl i, .inr b] => ⟨a.cps.toList, i, b.cps.toList⟩
  | _ => ⟨[], 0, []⟩
theorem wOf_key (w : Wt) : wOf (wKey w) = w := by simp [wOf, wKey]
theorem enc_wait (w : Wt) : (waitD w).pd = some (encD (waitD w)) ∧ ∃ x r, encD (waitD w) = .tuple (x :: r) := by
  have : (waitD w).pd = some (.tuple [.str ⟨w.card.toArray⟩, .int w.lane, .str ⟨w.other.toArray⟩]) := by simp [waitD, D.pd, D.pdL]
  unfold encD
  rw [this]
  exact ⟨rfl, _, _, rfl⟩
theorem alike_wait (v w : Wt) : PySem.W.alike (encD (waitD v)) (encD (waitD w)) = true := by
  have : ∀ w : Wt, encD (waitD w) = .tuple [.str ⟨w.card.toArray⟩, .int w.lane, .str ⟨w.other.toArray⟩] := fun w => by simp [encD, waitD, D.pd, D.pdL]
  rw [this, this]
  simp [PySem.W.alike, PySem.W.alikeAll]
theorem lt_wait (v w : Wt) : ltD (waitD v) (waitD w) = some (PySem.W.dataLt (encD (waitD v)) (encD (waitD w))) := by
  refine ltD_of dat_wait dat_wait (enc_wait v).1 (enc_wait w).1 (alike_wait v w) ?_
  obtain ⟨x, r, e⟩ := (enc_wait v).2
  rw [e]
  simp
theorem le_wait_eq (v w : Wt) : leD (waitD v) (waitD w) = PySem.W.dataLe false encD (waitD v) (waitD w) := by
  unfold leD
  rw [lt_wait]
  rfl
theorem wLt_of {v w : Wt} (h : leD (waitD v) (waitD w) = true) (ne : v ≠ w) : wLt v w := by
  unfold wLt
  rw [lt_wait]
  cases q : PySem.W.dataLt (encD (waitD v)) (encD (waitD w)) with
  | true => rfl
  | false =>
    have h2 : leD (waitD w) (waitD v) = true := by
      unfold leD
      rw [lt_wait, q]
      rfl
    rw [le_wait_eq] at h h2
    rw [← wKey_D, ← wKey_D] at h h2
    exact absurd (wKey_inj (le_both h h2)) ne
theorem sort_waits (ws : List Wt) (hl : ws.length ≤ 1000) (hn : ws.Nodup) : ∃ vs : List Wt, sortD (ws.map waitD) = some (vs.map waitD) ∧ vs.Perm ws ∧ vs.Pairwise wLt := by
  refine ⟨ws.mergeSort fun a b => leD (waitD a) (waitD b), sortD_map waitD (fun w => encD (waitD w)) _ (fun _ => dat_wait) (fun w => (enc_wait w).1) alike_wait (.inl fun w => (enc_wait w).2) (fun _ _ => rfl) ws hl, List.mergeSort_perm _ _, ?_⟩
  have tl := PySem.W.sortLe_total (PyProof.Rows.listOrd PyProof.Rows.itemOrd) false fun w : Wt => PySem.W.keyToks (encD (waitD w))
  have h1 := List.pairwise_mergeSort (le := fun a b : Wt => leD (waitD a) (waitD b)) (fun a b c h1 h2 => by
    rw [le_wait_eq] at *
    exact tl.trans a b c h1 h2) (fun a b => by
    rw [Bool.or_eq_true, le_wait_eq, le_wait_eq]
    exact tl.total a b) ws
  have h2 : (ws.mergeSort fun a b => leD (waitD a) (waitD b)).Nodup := (List.mergeSort_perm _ _).nodup_iff.mpr hn
  exact (h1.and h2).imp fun {a b} h => wLt_of h.1 h.2
theorem firsts_waits (ws : List Wt) : ∃ vs : List Wt, firsts [] (ws.map waitD) = vs.map waitD ∧ vs.Nodup ∧ ∀ w, w ∈ vs ↔ w ∈ ws := by
  obtain ⟨K, e1, e2, e3⟩ := firsts_keys (ws.map wKey) [] List.nodup_nil
  have f : (ws.map wKey).map kDT = ws.map waitD := by
    rw [List.map_map]
    exact List.map_congr_left fun w _ => wKey_D w
  rw [f] at e1
  rw [List.nil_append] at e2 e3
  have g : K = (K.map wOf).map wKey := by
    rw [List.map_map]
    conv => lhs; rw [← List.map_id K]
    refine List.map_congr_left fun k hk => ?_
    rcases (e3 k).mp hk with h | h
    · cases h
    · obtain ⟨w, _, rfl⟩ := List.mem_map.mp h
      simp [wOf_key]
  refine ⟨K.map wOf, ?_, ?_, fun w => ?_⟩
  · rw [show firsts [] (ws.map waitD) = K.map kDT from e1]
    conv => lhs; rw [g]
    rw [List.map_map]
    exact List.map_congr_left fun w _ => wKey_D w
  · rw [g] at e2
    exact (List.pairwise_map.mp e2).imp fun {a b} h e => h (by rw [e])
  · have := e3 (wKey w)
    simp only [List.not_mem_nil, false_or] at this
    constructor
    · intro h
      have h2 : wKey w ∈ K := by rw [g]; exact List.mem_map.mpr ⟨w, h, rfl⟩
      obtain ⟨v, hv, e⟩ := List.mem_map.mp (this.mp h2)
      rw [← wKey_inj e]; exact hv
    · intro h
      have h2 := this.mpr (List.mem_map.mpr ⟨w, h, rfl⟩)
      exact List.mem_map.mpr ⟨wKey w, h2, wOf_key w⟩
theorem keys_wait (ws : List Wt) : (ws.map waitD).all (keyOf true) = true := by
  rw [List.all_eq_true]
  intro d hd
  obtain ⟨w, _, rfl⟩ := List.mem_map.mp hd
  simp [waitD, keyOf, flatD]
theorem sset_waits (ws : List Wt) (hl : ws.length ≤ 120) : ∃ vs : List Wt, ssetL (ws.map waitD) = some (.lst (vs.map waitD)) ∧ vs.Pairwise wLt ∧ vs.Nodup ∧ (∀ w, w ∈ vs ↔ w ∈ ws) ∧ vs.length ≤ ws.length := by
  obtain ⟨us, e1, e2, e3⟩ := firsts_waits ws
  have len : us.length ≤ ws.length := List.Nodup.length_le_of_subset e2 fun w hw => (e3 w).mp hw
  obtain ⟨vs, f1, f2, f3⟩ := sort_waits us (by omega) e2
  refine ⟨vs, ?_, f3, f2.nodup_iff.mpr e2, fun w => by rw [f2.mem_iff, e3], by rw [f2.length_eq]; exact len⟩
  unfold ssetL
  rw [if_pos ⟨by simpa using hl, keys_wait ws⟩, e1, f1]
  rfl
end CL
namespace CL
open PySem PySem.Spec PyProof.Rows L2
theorem same_kind {p : Plan} (hp : PlanOk p) {k k' : Kind} (h : k ∈ p.kinds) (h' : k' ∈ p.kinds) (e : k.1 = k'.1) : k = k' := by
  have a := kindAt_some hp h
  have b := kindAt_some hp h'
  rw [e, b] at a
  exact (Option.some.inj a).symm
theorem laneOf_lt {p : Plan} (hp : PlanOk p) {k : Kind} (hk : k ∈ p.kinds) {pl : Int} (h0 : 0 ≤ pl) : -1 ≤ laneOf p k pl ∧ (laneOf p k pl < p.lanes.length ↔ pl ≤ k.2.1.length) ∧ laneOf p k pl ≤ p.lanes.length ∧ (0 ≤ laneOf p k pl ∧ laneOf p k pl < p.lanes.length → laneOf p k pl ∈ k.2.1) := by
  have ko := hp.km k hk
  have l1 := hp.l1
  unfold laneOf
  by_cases c0 : pl = 0
  · rw [if_pos c0]
    omega
  · rw [if_neg c0]
    by_cases c1 : (k.2.1.length : Int) < pl
    · rw [if_pos c1]
      omega
    · rw [if_neg c1]
      have lt : (pl - 1).toNat < k.2.1.length := by omega
      have m : k.2.1.getD (pl - 1).toNat 0 ∈ k.2.1 := by
        rw [List.getD_eq_getElem?_getD, List.getElem?_eq_getElem lt]
        exact List.getElem_mem lt
      have q := ko.lo _ m
      exact ⟨by omega, by omega, by omega, fun _ => m⟩
theorem CardOk.isOut {p : Plan} (hp : PlanOk p) {c : Card} (h : CardOk p c) : isOut p c = decide ((p.lanes.length : Int) ≤ cardLane p c) := by
  obtain ⟨k, hk, hle⟩ := h.kind
  have q := (laneOf_lt hp (List.mem_of_find?_eq_some hk) h.pos).2.1
  unfold CL.isOut cardLane
  rw [hk]
  simp only
  rw [decide_eq_decide]
  omega
structure Keeps (p : Plan) (bs : List Int) (cs : List Card) : Prop where
  cm : ∀ c ∈ cs, CardOk p c
  lm : ∀ (j : Nat) (x : Int), bs[j]? = some x → (laneMany p cs j : Int) ≤ x
  km : ∀ k ∈ p.kinds, ∀ lane ∈ k.2.1, (kindMany p cs lane k.1 : Int) ≤ boundAt k lane
theorem boundAt_pos {p : Plan} (hp : PlanOk p) {k : Kind} (hk : k ∈ p.kinds) {lane : Int} (hm : lane ∈ k.2.1) : 1 ≤ boundAt k lane := by
  have ko := hp.km k hk
  have lt : k.2.1.idxOf lane < k.2.2.length := by
    rw [ko.len]
    exact List.idxOf_lt_length_iff.mpr hm
  unfold boundAt
  rw [List.getD_eq_getElem?_getD, List.getElem?_eq_getElem lt]
  exact (ko.bd _ (List.getElem_mem lt)).1
theorem Keeps.nil {p : Plan} (hp : PlanOk p) {bs : List Int} (hb : ∀ x ∈ bs, bdOk x) : Keeps p bs [] where
  cm := by simp
  lm := fun j x h => by
    have := (hb x (List.mem_of_getElem? h)).1
    simp [laneMany]
    omega
  km := fun k hk lane hm => by
    have := boundAt_pos hp hk hm
    simp [kindMany]
    omega
theorem laneMany_snoc (p : Plan) (cs : List Card) (c : Card) (lane : Int) : laneMany p (cs ++ [c]) lane = laneMany p cs lane + if cardLane p c = lane then 1 else 0 := by
  unfold laneMany
  rw [List.filter_append, List.length_append]
  by_cases h : cardLane p c = lane <;> simp [h]
theorem kindMany_snoc (p : Plan) (cs : List Card) (c : Card) (lane : Int) (kn : List Nat) : kindMany p (cs ++ [c]) lane kn = kindMany p cs lane kn + if cardLane p c = lane ∧ c.kind = kn then 1 else 0 := by
  unfold kindMany
  rw [List.filter_append, List.length_append]
  by_cases h : cardLane p c = lane ∧ c.kind = kn
  · simp [h]
  · rw [if_neg h]
    have : List.filter (fun c => decide (cardLane p c = lane ∧ c.kind = kn)) [c] = [] := by simpa using h
    rw [this]
    rfl
theorem room_nil {p : Plan} {bs : List Int} {cs : List Card} {k : Kind} {lane : Int} (h : roomOf p bs cs k lane = []) : (0 ≤ lane ∧ lane < p.lanes.length) → (laneMany p cs lane : Int) < bs.getD lane.toNat 0 ∧ (kindMany p cs lane k.1 : Int) < boundAt k lane := by
  intro q
  unfold roomOf at h
  rw [if_neg (by simpa using q)] at h
  split at h
  · cases h
  · split at h
    · cases h
    · omega
theorem Keeps.snoc {p : Plan} (hp : PlanOk p) {bs : List Int} (hb : bs.length = p.lanes.length) {cs : List Card} (h : Keeps p bs cs) {c : Card} (hc : CardOk p c) {k : Kind} (hk : k ∈ p.kinds) (ek : c.kind = k.1) (hr : roomOf p bs cs k (cardLane p c) = []) : Keeps p bs (cs ++ [c]) where
  cm := fun d hd => by
    rcases List.mem_append.mp hd with hd | hd
    · exact h.cm d hd
    · rw [List.mem_singleton.mp hd]; exact hc
  lm := fun j x e => by
    rw [laneMany_snoc]
    have q := h.lm j x e
    by_cases z : cardLane p c = j
    · rw [if_pos z]
      have lt : j < bs.length := (List.getElem?_eq_some_iff.mp e).1
      have r := (room_nil hr (by rw [z]; omega)).1
      rw [z, show ((j : Nat) : Int).toNat = j by omega, List.getD_eq_getElem?_getD, e] at r
      simp only [Option.getD_some] at r
      omega
    · rw [if_neg z]
      omega
  km := fun k' hk' lane hm => by
    rw [kindMany_snoc]
    have q := h.km k' hk' lane hm
    by_cases z : cardLane p c = lane ∧ c.kind = k'.1
    · rw [if_pos z]
      have e := same_kind hp hk hk' (ek.symm.trans z.2)
      subst e
      have lo := (hp.km k hk).lo lane hm
      have r := (room_nil hr (by rw [z.1]; exact lo)).2
      rw [z.1] at r
      omega
    · rw [if_neg z]
      omega
theorem out_names_mem {p : Plan} {s : Stand} {l : List Nat} {c : Card} (h : c ∈ s.cards) (e : c.name = l) (ho : isOut p c = true) : l ∈ outNames p s := by
  unfold outNames
  exact List.mem_map.mpr ⟨c, List.mem_filter.mpr ⟨h, ho⟩, e⟩
theorem names_unique {cs : List Card} (hn : (cs.map (·.name)).Nodup) {a b : Card} (ha : a ∈ cs) (hb : b ∈ cs) (e : a.name = b.name) : a = b := by
  induction cs with
  | nil => cases ha
  | cons x cs ih =>
    rw [List.map_cons, List.nodup_cons] at hn
    rcases List.mem_cons.mp ha with h1 | h1
    · rcases List.mem_cons.mp hb with h2 | h2
      · rw [h1, h2]
      · exact absurd (by rw [← h1, e]; exact List.mem_map.mpr ⟨b, h2, rfl⟩) hn.1
    · rcases List.mem_cons.mp hb with h2 | h2
      · exact absurd (by rw [← h2, ← e]; exact List.mem_map.mpr ⟨a, h1, rfl⟩) hn.1
      · exact ih hn.2 h1 h2
theorem lt_nodup {l : List (List Nat)} (h : l.Pairwise (· < ·)) : l.Nodup := h.imp fun {a b} q e => by subst e; exact List.lt_irrefl a q
theorem manyOf_eq {p : Plan} (hp : PlanOk p) {s : Stand} {k : Kind} (hk : k ∈ p.kinds) (lane : Int) : manyOf p s lane k = kindMany p s.cards lane k.1 := by
  unfold manyOf kindMany
  congr 1
  refine List.filter_congr fun c _ => ?_
  rw [decide_eq_decide]
  constructor
  · rintro ⟨e, q⟩
    refine ⟨?_, e⟩
    unfold cardLane
    rw [e, kindAt_some hp hk]
    exact q
  · rintro ⟨q, e⟩
    refine ⟨e, ?_⟩
    unfold cardLane at q
    rw [e, kindAt_some hp hk] at q
    exact q
theorem zip_bound {k : Kind} (hn : k.2.1.Nodup) {z : Int × Int} (h : z ∈ k.2.1.zip k.2.2) : z.1 ∈ k.2.1 ∧ z.2 = boundAt k z.1 := by
  have m := (List.of_mem_zip h).1
  refine ⟨m, ?_⟩
  obtain ⟨j, hj⟩ := List.getElem?_of_mem h
  rw [List.getElem?_zip_eq_some] at hj
  obtain ⟨h1, h2⟩ := hj
  obtain ⟨lt, e⟩ := List.getElem?_eq_some_iff.mp h1
  have q : k.2.1.idxOf z.1 = j := by
    rw [← e]
    exact List.Nodup.idxOf_getElem hn j lt
  unfold boundAt
  rw [q, List.getD_eq_getElem?_getD, h2]
  rfl
theorem stand_of {p : Plan} (hp : PlanOk p) {bs : List Int} {cs : List Card} {ws : List Wt} (bl : bs.length = p.lanes.length) (bd : ∀ x ∈ bs, bdOk x) (cl : cs.length ≤ 30) (cn : (cs.map (·.name)).Pairwise (· < ·)) (h : Keeps p bs cs) (wl : ws.length ≤ 60) (wp : ws.Pairwise wLt)
    (wm : ∀ w ∈ ws, w.card ∈ cs.map (·.name) ∧ w.other ∈ cs.map (·.name) ∧ 0 ≤ w.lane ∧ w.lane ≤ p.lanes.length) (wh : ∀ w ∈ ws, ∀ c ∈ cs, c.name = w.card → (∃ d ∈ cs, d.name = w.other ∧ isOut p d = true) ∨ cardLane p c < w.lane) : StandOk p ⟨bs, cs, ws⟩ where
  bl := bl
  bd := bd
  cl := cl
  cn := cn
  cm := h.cm
  wl := wl
  wp := wp
  wm := wm
  bh := fun i x e => by
    have := h.lm i x e
    unfold cardsIn
    rw [List.length_map]
    exact this
  kh := fun k hk z hz => by
    have up := (hp.km k hk).up
    obtain ⟨m, e⟩ := zip_bound (up.imp fun {a b} h q => by omega) hz
    rw [manyOf_eq hp hk, e]
    exact h.km k hk z.1 m
  wh := fun w hw c hc e ho => by
    rcases wh w hw c hc e with ⟨d, hd, q1, q2⟩ | q
    · exact absurd (out_names_mem (s := ⟨bs, cs, ws⟩) hd q1 q2) ho
    · exact q
end CL
namespace CL
open PySem PySem.Spec PyProof.Rows L2
theorem slice_to {α : Type} (l : List α) (i : Int) (h : 0 ≤ i) : cutL l none (some i) = l.take i.toNat := by
  unfold cutL clipI
  simp only [if_neg (show ¬ i < 0 by omega), List.drop_zero, Nat.sub_zero]
  rcases Nat.le_total i.toNat l.length with c | c
  · rw [Nat.min_eq_left c]
  · rw [Nat.min_eq_right c, List.take_of_length_le (Nat.le_refl _), List.take_of_length_le c]
theorem ints_of_all : ∀ {xs : List D} {P : Int → Prop}, (∀ x ∈ xs, ∃ r : Int, x = .int r ∧ P r) → ∃ bs : List Int, xs = bs.map .int ∧ ∀ r ∈ bs, P r
  | [], _, _ => ⟨[], rfl, by simp⟩
  | x :: xs, P, h => by
    obtain ⟨bs, rfl, q⟩ := ints_of_all fun y hy => h y (List.mem_cons_of_mem _ hy)
    obtain ⟨r, rfl, hr⟩ := h x List.mem_cons_self
    exact ⟨r :: bs, rfl, by simpa using ⟨hr, q⟩⟩
theorem ne_nil_cards (cs : List Card) : cmpD .ne (.lst (cs.map cardD)) (.lst []) = some (!cs.isEmpty) := by
  have d : D.datL dp (cs.map cardD) = true := datL_cards _
  show (eqD (.lst (cs.map cardD)) (.lst [])).map (!·) = _
  unfold eqD
  rw [dat_lst, d, dat_lst]
  cases cs <;> simp [D.eqv, D.eqvL, D.datL]
@[simp] theorem fb_int_bl (t : Bool) : fbD .int [.bl t] = some (.int (if t then 1 else 0)) := (rfl)
theorem at3_0 (x y z : D) : atD [x, y, z] 0 = some x := (rfl)
theorem at3_1 (x y z : D) : atD [x, y, z] 1 = some y := (rfl)
theorem at3_2 (x y z : D) : atD [x, y, z] 2 = some z := (rfl)
def GoodW (p : Plan) (cs : List Card) (w : Wt) : Prop := w.card ∈ cs.map (·.name) ∧ w.other ∈ cs.map (·.name) ∧ 0 ≤ w.lane ∧ w.lane ≤ p.lanes.length ∧ ∀ c ∈ cs, c.name = w.card → (∃ d ∈ cs, d.name = w.other ∧ isOut p d = true) ∨ cardLane p c < w.lane
section
variable {T : Text}
theorem stand_sp (L : LawT T) (LS : LStandT T) (hp0 : Is T "_law_stand" Ulaw_stand) (p : Plan) (hp : PlanOk p) (most : Nat) (hm : most ≤ 30) (n i b : Nat) (S : Store) (v : Int) (hi : i < S.length) :
    ∃ (s : Stand) (v' : Int), callN T (n + 4) "_law_stand" false [.ref i, planD p, .int most] b (hold S i v) = .ok (standD s) (hold S i v') ∧ StandOk p s := by
  suffices H : ∀ Q : R D → Prop, (∀ (s : Stand) (v' : Int), StandOk p s → Q (.ok (standD s) (hold S i v'))) → Q (callN T (n + 4) "_law_stand" false [.ref i, planD p, .int most] b (hold S i v)) from
    H (fun r => ∃ (s : Stand) (v' : Int), r = .ok (standD s) (hold S i v') ∧ StandOk p s) fun s v' h => ⟨s, v', rfl, h⟩
  intro Q hQ
  rw [call_is hp0 rfl]
  have l1 := hp.l1
  have l2 := hp.l2
  have k1 := hp.k1
  have k2 := hp.k2
  have tk0 : ∀ (x : Int) (b : Nat) (m : Int), 0 < m → m ≤ 1000000 → callN T (n + 3) "_law_take" false [.ref i, .int m] b (hold S i x) = .ok (.int (x % m)) (hold S i (x / m)) := fun x b m h1 h2 => take_sp L (n + 2) i b S x m hi h1 h2
  have hi1 : i < S.length + 1 := by omega
  have hi2 : i < S.length + 2 := by omega
  have tk1 : ∀ (c : Cell) (x : Int) (b : Nat) (m : Int), 0 < m → m ≤ 1000000 → callN T (n + 3) "_law_take" false [.ref i, .int m] b (hold (S ++ [c]) i x) = .ok (.int (x % m)) (hold (S ++ [c]) i (x / m)) := fun c x b m h1 h2 => take_sp L (n + 2) i b (S ++ [c]) x m (by simpa using hi1) h1 h2
  have tk2 : ∀ (c d : Cell) (x : Int) (b : Nat) (m : Int), 0 < m → m ≤ 1000000 → callN T (n + 3) "_law_take" false [.ref i, .int m] b (hold (S ++ [c, d]) i x) = .ok (.int (x % m)) (hold (S ++ [c, d]) i (x / m)) := fun c d x b m h1 h2 => take_sp L (n + 2) i b (S ++ [c, d]) x m (by simpa using hi2) h1 h2
  simp [Ulaw_stand, Fn.start]
  generalize hF : lcAll _ _ _ _ _ = F
  obtain ⟨xs, _, rfl, ⟨v1, rfl⟩, x1, x2⟩ := lcAll_go hF (fun S' => ∃ x, S' = hold S i x) (fun d => ∃ r : Int, d = .int r ∧ bdOk r) rfl (by simp; exact lim_ok (by omega)) ⟨_, rfl⟩ (by
    rintro d hd _ ⟨x, rfl⟩
    obtain ⟨l, hl, rfl⟩ := List.mem_map.mp hd
    obtain ⟨r, x', e, r2, r3⟩ := bound_sp L (n + 1) i S.length S x hi
    have md := mod_in x' 2 (by decide)
    have := (hp.lm l hl).2
    have at2 : ∃ y, atD [D.int l.2, .int r] (x' % 2) = some (.int y) ∧ bdOk y := by
      have : x' % 2 = 0 ∨ x' % 2 = 1 := by omega
      rcases this with q | q
      · rw [q]; exact ⟨l.2, rfl, by assumption⟩
      · rw [q]; exact ⟨r, rfl, r2, r3⟩
    obtain ⟨y, y1, y2⟩ := at2
    exact ⟨.int y, hold S i (x' / 2), by simp [e, tk0, y1, -at_pos], ⟨_, rfl⟩, y, rfl, y2⟩)
  clear hF
  obtain ⟨bs, rfl, hbs⟩ := ints_of_all x1
  simp only [List.length_map] at x2
  clear x1
  obtain ⟨ls, v2, e1, w1, w2, w3⟩ := words_sp L (n + 1) i S.length (S ++ [.lst []]) v1 30 (by simpa using hi1)
  rw [show min 30 52 = 30 from rfl] at w1
  have e1' : callN T (n + 3) "_law_words" false [.ref i, .int 30] S.length (hold (S ++ [.lst []]) i v1) = .ok (.lst (ls.map .str)) (hold (S ++ [.lst []]) i v2) := e1
  have mm := mod_in v2 (most + 1) (by omega)
  obtain ⟨nm, hnm⟩ : ∃ nm, nm = (ls.take (v2 % (most + 1)).toNat).mergeSort leS := ⟨_, rfl⟩
  have nlen : nm.length ≤ 30 := by
    rw [hnm, (List.mergeSort_perm _ _).length_eq, List.length_take]
    omega
  have nlt : nm.Pairwise (· < ·) := by
    rw [hnm]
    exact sort_lt (w2.sublist (List.take_sublist _ _))
  have nok : ∀ l ∈ nm, isNm l = true := by
    intro l hl
    rw [hnm] at hl
    exact w3 l (List.mem_of_mem_take ((List.mergeSort_perm _ _).mem_iff.mp hl))
  have e2 : slD none (some (v2 % (most + 1))) (.lst (ls.map .str)) = some (.lst ((ls.take (v2 % (most + 1)).toNat).map .str)) := by
    show some (D.lst (cutL (ls.map .str) none (some (v2 % (most + 1))))) = _
    rw [slice_to _ _ mm.1, List.map_take]
  have e3 := sorted_strs (ls.take (v2 % (most + 1)).toNat) (by rw [List.length_take]; omega)
  rw [← hnm, List.map_take] at e3
  have m1 : (0 : Int) < most + 1 := by omega
  have m2 : (most : Int) + 1 ≤ 1000000 := by omega
  simp [hi, e1', tk1, m1, m2, e2, e3]
  generalize hF : forS _ _ _ _ _ _ _ _ = F
  obtain ⟨ρ', _, rfl, x5, x8, x9, cs, v3, rfl, rfl, q1, q2, q3⟩ := for_listS nm D.str hF (fun k ρ S' => ∃ (x5 x8 x9 : Option D) (cs : List Card) (v' : Int), ρ = [some (.ref i), some (planD p), some (.int most), some (.lst (bs.map .int)), some (.ref S.length), x5, none, none, x8, x9, none, none, none] ∧ S' = hold (S ++ [.lst (cs.map cardD)]) i v' ∧ cs.length = k ∧ cs.map (·.name) = nm.take k ∧ Keeps p bs cs) rfl ⟨_, _, _, [], _, rfl, rfl, rfl, rfl, Keeps.nil hp hbs⟩ (by
    rintro k a _ _ ha ⟨x5, x8, x9, cs, w, rfl, rfl, g1, g2, g3⟩
    refine ⟨_, asg_one _ _ _, fun Q hq => ?_⟩
    have am := List.mem_of_getElem? ha
    have lk : k < 30 := by have := (List.getElem?_eq_some_iff.mp ha).1; omega
    have n1 : (0 : Int) < p.kinds.length := by omega
    have n2 : (p.kinds.length : Int) ≤ 1000000 := by omega
    obtain ⟨kd, hkd, hkm, hk3⟩ := at_in p.kinds (w % p.kinds.length) (mod_in w _ n1).1 (mod_in w _ n1).2
    have e5 : atD (p.kinds.map kndD) (w % p.kinds.length) = some (kndD kd) := by
      rw [at_pos _ _ (mod_in w _ n1).1, List.getElem?_map, hk3]
      rfl
    have kat := kindAt_some hp hkm
    have wl := way_len hp kat
    have n3 : (0 : Int) < kd.2.1.length + 2 := by omega
    have n4 : (kd.2.1.length : Int) + 2 ≤ 1000000 := by omega
    have m3 := mod_in (w / p.kinds.length) (kd.2.1.length + 2) n3
    generalize hpl : w / p.kinds.length % (kd.2.1.length + 2) = pl at m3
    have lane := fun (d : D) (pl : Int) (h0 : 0 ≤ pl) (h1 : pl ≤ kd.2.1.length + 1) (b : Nat) (S : Store) (d1 : idxD (vw S d) (.int 1) = some (.str kd.1)) (d2 : idxD (vw S d) (.int 2) = some (.int pl)) => llane_any LS (n + 1) p hp d kd.1 pl kat h0 h1 b S d1 d2
    have e6 := lane (.tup [.str a, .str kd.1, .int pl]) pl m3.1 (by omega) S.length (hold (S ++ [.lst (cs.map cardD)]) i (w / p.kinds.length / (kd.2.1.length + 2))) rfl rfl
    have lq := laneOf_lt hp hkm m3.1
    have e7 := room_sp LS n p hp (.lst (bs.map .int)) bs (.inl rfl) x2 (.ref S.length) cs (by omega) g3.cm kd hkm (laneOf p kd pl) lq.2.2.2 S.length (hold (S ++ [.lst (cs.map cardD)]) i (w / p.kinds.length / (kd.2.1.length + 2))) (items_ref (get_top hi))
    have t1 := tk1 (.lst (cs.map cardD)) w S.length _ n1 n2
    have t2 := tk1 (.lst (cs.map cardD)) (w / p.kinds.length) S.length _ n3 n4
    rw [hpl] at t2
    generalize hw2 : w / p.kinds.length / (kd.2.1.length + 2) = w2 at *
    simp [vw_top hi, tk1, hi, t1, t2, e5, e6, e7, -at_pos]
    generalize hT : Ss.cons (St.ex _) _ = TAIL
    have tail : ∀ (pl w3 : Int), 0 ≤ pl → pl ≤ kd.2.1.length + 1 → roomOf p bs cs kd (laneOf p kd pl) = [] → Q (exs S.length TAIL (ctxN T (n + 3)) [some (.ref i), some (planD p), some (.int most), some (.lst (bs.map .int)), some (.ref S.length), some (.str a), none, none, some (kndD kd), some (.tup [.str a, .str kd.1, .int pl]), none, none, none] (hold (S ++ [.lst (cs.map cardD)]) i w3)) := by
      intro pl w3 p0 p1 pr
      subst hT
      have fin : ∀ (t : Bool) (w4 : Int), (t = true → pl ≤ kd.2.1.length) → Q (.ok (.nx [some (.ref i), some (planD p), some (.int most), some (.lst (bs.map .int)), some (.ref S.length), some (.str a), none, none, some (kndD kd), some (.tup [.str a, .str kd.1, .int pl]), none, none, none]) (hold (S ++ [.lst (cs.map cardD ++ [.tup [.str a, .str kd.1, .int pl, .bl t]])]) i w4)) := by
        intro t w4 ht
        have co : CardOk p ⟨a, kd.1, pl, t⟩ := ⟨nok a am, ⟨kd, kat, p1⟩, p0, fun e => by
          have := ht e
          unfold isOut
          rw [kat]
          simp only [decide_eq_false_iff_not]
          omega⟩
        have ec : cardLane p ⟨a, kd.1, pl, t⟩ = laneOf p kd pl := by
          unfold cardLane
          rw [kat]
        refine hq _ _ ⟨_, _, _, cs ++ [⟨a, kd.1, pl, t⟩], w4, rfl, by simp [cardD], by simp [g1], by rw [take_snoc ha]; simp [g2], g3.snoc hp x2 co hkm rfl (by rw [ec]; exact pr)⟩
      by_cases c : pl ≤ kd.2.1.length
      · simp [vw_top hi, tk1, hi, c, bop_add_tup, kindD, mbId, app_top hi, g1, (show k ≤ 1000 by omega)]
        exact fin _ _ fun _ => c
      · simp [vw_top hi, tk1, hi, c, bop_add_tup, kindD, mbId, app_top hi, g1, (show k ≤ 1000 by omega)]
        exact fin _ _ fun e => by cases e
    cases hr : (roomOf p bs cs kd (laneOf p kd pl)).isEmpty with
    | true =>
      simp
      exact tail pl w2 m3.1 (by omega) (List.isEmpty_iff.mp hr)
    | false =>
      have out : ∀ q : Int, q = 0 ∨ q = kd.2.1.length + 1 → roomOf p bs cs kd (laneOf p kd q) = [] := by
        intro q hq
        have z := laneOf_lt hp hkm (show 0 ≤ q by omega)
        unfold roomOf
        refine if_pos fun h => ?_
        rcases hq with rfl | rfl
        · have : laneOf p kd 0 = -1 := if_pos rfl
          omega
        · omega
      have md := mod_in w2 2 (by decide)
      have at2 : ∃ q : Int, atD [D.int 0, .int (kd.2.1.length + 1)] (w2 % 2) = some (.int q) ∧ (q = 0 ∨ q = kd.2.1.length + 1) := by
        have : w2 % 2 = 0 ∨ w2 % 2 = 1 := by omega
        rcases this with q | q
        · rw [q]; exact ⟨0, rfl, .inl rfl⟩
        · rw [q]; exact ⟨_, rfl, .inr rfl⟩
      obtain ⟨q, q1, q2⟩ := at2
      simp [tk1, hi, q1, -at_pos]
      exact tail q _ (by omega) (by omega) (out q q2))
  clear hF
  have cl : cs.length ≤ 30 := by omega
  have cnm : cs.map (·.name) = nm := by rw [q2, List.take_length]
  have ha : hold (S ++ [.lst (cs.map cardD)]) i v3 ++ [.lst []] = hold (S ++ [.lst (cs.map cardD), .lst []]) i v3 := by
    rw [hold_app (by simpa using hi1), List.append_assoc]
    rfl
  obtain ⟨M, M1, M2, M3⟩ : ∃ M : Int, atD [D.int 3, .int 7, .int 7, .int 90] (v3 % 4) = some (.int M) ∧ 0 < M ∧ M ≤ 90 := by
    have : v3 % 4 = 0 ∨ v3 % 4 = 1 ∨ v3 % 4 = 2 ∨ v3 % 4 = 3 := by omega
    rcases this with q | q | q | q <;> rw [q]
    · exact ⟨3, rfl, by decide, by decide⟩
    · exact ⟨7, rfl, by decide, by decide⟩
    · exact ⟨7, rfl, by decide, by decide⟩
    · exact ⟨90, rfl, by decide, by decide⟩
  have t5 := tk2 (.lst (cs.map cardD)) (.lst []) (v3 / 4) S.length M M2 (by omega)
  have r1 := mod_in (v3 / 4) M M2
  generalize v3 / 4 % M = r at t5 r1
  generalize v3 / 4 / M = v4 at t5
  obtain ⟨N, hN, hN2⟩ : ∃ N : Nat, bop .mul (.int r) (.int (if cs = [] then 0 else 1)) = some (.int N) ∧ N ≤ 89 ∧ (0 < N → cs ≠ []) := by
    have big : r.natAbs < 2 ^ 64 := by
      have : r.natAbs ≤ 90 := by omega
      omega
    cases cs with
    | nil => exact ⟨0, by simp [bop, big], by omega, by omega⟩
    | cons c cs => exact ⟨r.toNat, by simp [bop, big]; omega, by omega, by simp⟩
  have r2 : -10000000 ≤ (N : Int) ∧ (N : Int) ≤ 10000000 := by omega
  simp [tk2, hi, ha, M1, t5, vw_top1 hi, ne_nil_cards, hN, ranges, r2, -at_pos]
  generalize hF : forS _ _ _ _ _ _ _ _ = F
  obtain ⟨ρ', _, rfl, x7, x9', x10, x11, ws, v5, rfl, rfl, u1, u2⟩ := for_listS (List.range N) (fun k => D.int (k : Nat)) hF (fun k ρ S' => ∃ (x7 x9 x10 x11 : Option D) (ws : List Wt) (v' : Int), ρ = [some (.ref i), some (planD p), some (.int most), some (.lst (bs.map .int)), some (.ref S.length), x5, some (.ref (S.length + 1)), x7, x8, x9, x10, x11, none] ∧ S' = hold (S ++ [.lst (cs.map cardD), .lst (ws.map waitD)]) i v' ∧ ws.length ≤ k ∧ ∀ w ∈ ws, GoodW p cs w) rfl ⟨_, _, _, _, [], _, rfl, rfl, Nat.le_refl _, by simp⟩ (by
    rintro k a _ _ ha ⟨x7, x9, x10, x11, ws, w, rfl, rfl, g1, g2⟩
    refine ⟨_, asg_one _ _ _, fun Q hq => ?_⟩
    have lk : k < N := by have := (List.getElem?_eq_some_iff.mp ha).1; simpa using this
    have cne := hN2.2 (by omega)
    have c0 : (0 : Int) < cs.length := by
      have := List.length_pos_iff.mpr cne
      omega
    have c1 : (cs.length : Int) ≤ 1000000 := by omega
    have pick : ∀ w : Int, ∃ c, c ∈ cs ∧ atD (cs.map cardD) (w % cs.length) = some (cardD c) := by
      intro w
      obtain ⟨c, _, h2, h3⟩ := at_in cs (w % cs.length) (mod_in w _ c0).1 (mod_in w _ c0).2
      refine ⟨c, h2, ?_⟩
      rw [at_pos _ _ (mod_in w _ c0).1, List.getElem?_map, h3]
      rfl
    have t1 := tk2 (.lst (cs.map cardD)) (.lst (ws.map waitD)) w S.length _ c0 c1
    have t2 := tk2 (.lst (cs.map cardD)) (.lst (ws.map waitD)) (w / cs.length) S.length _ c0 c1
    obtain ⟨a1, m1, e1⟩ := pick w
    obtain ⟨a2, m2, e2⟩ := pick (w / cs.length)
    have n1 : (0 : Int) < p.lanes.length + 1 := by omega
    have n2 : (p.lanes.length : Int) + 1 ≤ 1000000 := by omega
    have t3 := tk2 (.lst (cs.map cardD)) (.lst (ws.map waitD)) (w / cs.length / cs.length) S.length _ n1 n2
    have r3 := mod_in (w / cs.length / cs.length) _ n1
    generalize w / cs.length / cs.length % (p.lanes.length + 1) = ln at t3 r3
    generalize w / cs.length / cs.length / (p.lanes.length + 1) = w3 at t3
    have e3 := llane_sp LS (n + 1) p hp a1 (q3.cm a1 m1) S.length (hold (S ++ [.lst (cs.map cardD), .lst (ws.map waitD)]) i w3)
    have fd := cardOf_some (s := ⟨[], cs, []⟩) (by rw [cnm]; exact nlt) m2
    have e4 := bars_sp LS n p hp (.ref S.length) cs (by omega) q3.cm (.tup [.str a1.name, .int ln, .str a2.name]) a2.name fd S.length (hold (S ++ [.lst (cs.map cardD), .lst (ws.map waitD)]) i w3) (items_ref (get_top1 hi)) rfl
    have fin : (cardLane p a1 < ln ∨ ¬ cardLane p a2 < p.lanes.length) → Q (.ok (.nx [some (.ref i), some (planD p), some (.int most), some (.lst (bs.map .int)), some (.ref S.length), x5, some (.ref (S.length + 1)), some (.int a), x8, some (cardD a1), some (.str a2.name), some (.tup [.str a1.name, .int ln, .str a2.name]), none]) (hold (S ++ [.lst (cs.map cardD), .lst (ws.map waitD ++ [.tup [.str a1.name, .int ln, .str a2.name]])]) i w3)) := by
      intro hz
      refine hq _ _ ⟨_, _, _, _, ws ++ [⟨a1.name, ln, a2.name⟩], w3, rfl, by simp [waitD], by simp; omega, fun z hz' => ?_⟩
      rcases List.mem_append.mp hz' with hz' | hz'
      · exact g2 z hz'
      · rw [List.mem_singleton.mp hz']
        refine ⟨List.mem_map.mpr ⟨a1, m1, rfl⟩, List.mem_map.mpr ⟨a2, m2, rfl⟩, r3.1, by simp only; omega, fun c hc ec => ?_⟩
        have := names_unique (lt_nodup (by rw [cnm]; exact nlt)) hc m1 ec
        subst this
        rcases hz with hz | hz
        · exact .inr hz
        · refine .inl ⟨a2, m2, rfl, ?_⟩
          rw [(q3.cm a2 m2).isOut hp]
          simp only [decide_eq_true_eq]
          omega
    by_cases h1 : cardLane p a1 < ln
    · simp [vw_top1 hi, vw_top2 hi, t1, t2, t3, e1, e2, e3, h1, kindD, mbId, app_top2 hi, (show ws.length ≤ 1000 by omega), at3_1, -at_pos]
      exact fin (.inl h1)
    · by_cases h2 : cardLane p a2 < p.lanes.length
      · simp [vw_top1 hi, t1, t2, t3, e1, e2, e3, e4, h1, h2, at3_1, -at_pos]
        exact hq _ _ ⟨_, _, _, _, ws, w3, rfl, rfl, by omega, g2⟩
      · simp [vw_top1 hi, vw_top2 hi, t1, t2, t3, e1, e2, e3, e4, h1, h2, kindD, mbId, app_top2 hi, (show ws.length ≤ 1000 by omega), at3_1, -at_pos]
        exact fin (.inr h2))
  clear hF
  simp only [List.length_range] at u1
  obtain ⟨vs, s1, s2, s3, s4, s5⟩ := sset_waits ws (by omega)
  have s6 : ssetD (.lst (ws.map waitD)) = some (.lst (vs.map waitD)) := s1
  have s7 : slD none (some 60) (.lst (vs.map waitD)) = some (.lst ((vs.take 60).map waitD)) := by
    show some (D.lst (cutL (vs.map waitD) none (some 60))) = _
    rw [slice_to _ _ (by decide), List.map_take]
    rfl
  simp [vw_top1 hi, vw_top2 hi, s6, s7]
  have st : StandOk p ⟨bs, cs, vs.take 60⟩ := by
    refine stand_of hp x2 hbs cl (by rw [cnm]; exact nlt) q3 (by rw [List.length_take]; omega) (s2.sublist (List.take_sublist _ _)) (fun w hw => ?_) fun w hw => ?_
    · obtain ⟨a, b, c, d, _⟩ := u2 w ((s4 w).mp (List.mem_of_mem_take hw))
      exact ⟨a, b, c, d⟩
    · exact (u2 w ((s4 w).mp (List.mem_of_mem_take hw))).2.2.2.2
  have e := hQ _ v5 st
  unfold standD at e
  simp only [List.map_take] at e
  rw [fin_flat _ _ _ (by simp [← List.map_take])]
  rw [hold_take hi, show (S ++ [Cell.lst (cs.map cardD), Cell.lst (ws.map waitD)]).take S.length = S by simp]
  exact e
end
end CL
namespace CL
open PySem PySem.Spec PyProof.Rows L2
theorem first_ok {p : Plan} (hp : PlanOk p) : StandOk p (firstStand p) := by
  refine stand_of hp (by simp) (fun x hx => ?_) (by simp) (by simp) (Keeps.nil hp fun x hx => ?_) (by simp) (by simp) (by simp) (by simp)
  all_goals
    obtain ⟨l, hl, rfl⟩ := List.mem_map.mp hx
    exact (hp.lm l hl).2
theorem card_small {p : Plan} (hp : PlanOk p) {c : Card} (h : CardOk p c) : (cardD c).small = true := by
  have h1 := nm_len h.nm
  obtain ⟨k, hk, _⟩ := h.kind
  have km := List.mem_of_find?_eq_some hk
  have ke : k.1 = c.kind := by
    have := List.find?_some hk
    simpa using this
  have h2 := nm_len (hp.km k km).nm
  rw [ke] at h2
  have h3 : c.name.length ≤ 1000 := by omega
  have h4 : c.kind.length ≤ 1000 := by omega
  simp [cardD, D.small, D.smallL, h3, h4]
theorem smallL_map {α : Type} (f : α → D) (l : List α) (h : ∀ a ∈ l, (f a).small = true) : D.smallL (l.map f) = true := smallL_all.mpr fun d hd => by
  obtain ⟨a, ha, rfl⟩ := List.mem_map.mp hd
  exact h a ha
theorem small_tup {ds : List D} (h1 : ds.length ≤ 1000) (h2 : D.smallL ds = true) : (D.tup ds).small = true := by
  simp [D.small, h1, h2]
theorem small_lst {ds : List D} (h1 : ds.length ≤ 1000) (h2 : D.smallL ds = true) : (D.lst ds).small = true := by
  simp [D.small, h1, h2]
theorem stand_small {p : Plan} (hp : PlanOk p) {s : Stand} (h : StandOk p s) : (standD s).small = true := by
  have l2 := hp.l2
  have bl := h.bl
  have cl := h.cl
  have wl := h.wl
  have nm : ∀ l ∈ s.cards.map (·.name), l.length ≤ 1000 := by
    intro l hl
    obtain ⟨c, hc, rfl⟩ := List.mem_map.mp hl
    have := nm_len (h.cm c hc).nm
    omega
  have a1 := small_tup (ds := s.bounds.map .int) (by rw [List.length_map]; omega) (ints_small _)
  have a2 := small_tup (ds := s.cards.map cardD) (by rw [List.length_map]; omega) (smallL_map _ _ fun c hc => card_small hp (h.cm c hc))
  have a3 := small_tup (ds := s.waits.map waitD) (by rw [List.length_map]; omega) (smallL_map _ _ fun w hw => by
    have h1 := nm _ (h.wm w hw).1
    have h2 := nm _ (h.wm w hw).2.1
    simp [waitD, D.small, D.smallL, h1, h2])
  exact small_tup (by simp) (by simp [D.smallL, a1, a2, a3])
def isxT (T : Text) (X : String) : List String → Option Bool
  | [] => some false
  | C :: r => match T.isx X C with
    | some true => some true
    | some false => isxT T X r
    | none => none
theorem isx_any {T : Text} {n : Nat} {X : String} : ∀ cs : List String, isxAny (ctxN T n) X cs = isxT T X cs
  | [] => rfl
  | C :: r => by
    unfold isxAny isxT
    show (match T.isx X C with | some true => some true | some false => isxAny (ctxN T n) X r | none => none) = _
    rw [isx_any r]
theorem same_cell {T : Text} (L : Is T "_law_same" Ulaw_same) (k n : Nat) {S : Store} {i : Nat} {ds es : List D} (hS : S[i]? = some (.lst ds)) (hl : LikeL ds es) (h1 : D.datL (k + 1) ds = true) (h2 : D.datL (k + 1) es = true) (hk : k ≤ 10) (sm : (D.lst ds).small = true) (b : Nat) :
    callN T (n + k + 2) "_law_same" false [.ref i, .lst es] b S = .ok (.bl true) S := by
  rw [call_is L rfl]
  have vw1 : vw S (.ref i) = .lst ds := by simp only [vw, hS]
  simp only [D.small, Bool.and_eq_true, decide_eq_true_eq] at sm
  have zp : zipD S (.ref i) (.lst es) = some ⟨pairs ds es, [(i, ds)]⟩ := by simp [zipD, tupD, listD, hS]
  have st : (Walk.mk (pairs ds es) [(i, ds)]).still S = true := by simp [Walk.still, hS, D.sameL_self]
  have e := fun ρ => lcAll_items (f := lcOne (ctxN T (n + k + 1)) S.length (.call "_law_same" false (.cons (.var 2) (.cons (.var 3) .nil))) (.many [2, 3])) (tg := .many [2, 3]) (w := ⟨pairs ds es, [(i, ds)]⟩) (ρ := [some (.ref i), some (.lst es), none, ρ]) (S := S) (ds.zip es) _ (pairs_zip ds es) st (fun _ => some (.bl true)) (by rw [List.length_zip]; omega) (by
    intro z hz
    obtain ⟨z1, z2⟩ := z
    rw [lcOne_two]
    obtain ⟨q1, q2⟩ := dat_zip h1 h2 _ hz
    have e := same_yes L k n z1 z2 (hl.zip _ hz) q1 q2 hk (smallL_all.mp sm.2 _ (List.of_mem_zip hz).1) S.length S
    simp [Tg.slots, wipeE, e])
  simp only [List.filterMap_eq_map'] at e
  have al := fb_all (fun _ : D × D => true) (ds.zip es)
  simp [Ulaw_same, Fn.start, isaAny, isaD, vw1, zp, e, hl.len, al]
theorem like_map {α : Type} (f : α → D) (l : List α) (h : ∀ a ∈ l, Like (f a) (f a)) : LikeL (l.map f) (l.map f) := by
  induction l with
  | nil => exact .nil
  | cons a l ih => exact .cons (h a List.mem_cons_self) (ih fun b hb => h b (List.mem_cons_of_mem _ hb))
end CL
namespace CL
open PySem PySem.Spec PyProof.Rows L2
theorem enc_card (c : Card) : (cardD c).pd = some (encD (cardD c)) ∧ encD (cardD c) = .tuple [.str ⟨c.name.toArray⟩, .str ⟨c.kind.toArray⟩, .int c.place, .bool c.blocked] := by
  have : (cardD c).pd = some (.tuple [.str ⟨c.name.toArray⟩, .str ⟨c.kind.toArray⟩, .int c.place, .bool c.blocked]) := by simp [cardD, D.pd, D.pdL]
  unfold encD
  rw [this]
  exact ⟨rfl, rfl⟩
theorem alike_card (a b : Card) : PySem.W.alike (encD (cardD a)) (encD (cardD b)) = true := by
  rw [(enc_card a).2, (enc_card b).2]
  simp [PySem.W.alike, PySem.W.alikeAll]
theorem lt_card (a b : Card) : ltD (cardD a) (cardD b) = some (PySem.W.dataLt (encD (cardD a)) (encD (cardD b))) := by
  refine ltD_of dat_card dat_card (enc_card a).1 (enc_card b).1 (alike_card a b) ?_
  rw [(enc_card a).2]
  simp
theorem le_card_eq (a b : Card) : leD (cardD a) (cardD b) = PySem.W.dataLe false encD (cardD a) (cardD b) := by
  unfold leD
  rw [lt_card]
  rfl
theorem lt_card_name {a b : Card} (ne : a.name ≠ b.name) : PySem.W.dataLt (encD (cardD a)) (encD (cardD b)) = decide (a.name < b.name) := by
  rw [(enc_card a).2, (enc_card b).2, PySem.W.dataLt_tuple, PySem.W.dataLt_cons (by rfl), if_neg, PySem.W.dataLt_str]
  intro e
  have q : ((⟨a.name.toArray⟩ : Str) == ⟨b.name.toArray⟩) = true := by simpa [PyData.eqv] using e
  have : a.name.toArray = b.name.toArray := by
    have := eq_of_beq q
    simpa using this
  exact ne (List.toArray_inj this)
def sortC (cs : List Card) : List Card := cs.mergeSort fun a b => leD (cardD a) (cardD b)
theorem sortC_D (cs : List Card) (hl : cs.length ≤ 1000) : sortD (cs.map cardD) = some ((sortC cs).map cardD) :=
  sortD_map cardD (fun c => encD (cardD c)) _ (fun _ => dat_card) (fun c => (enc_card c).1) alike_card (.inl fun c => ⟨_, _, (enc_card c).2⟩) (fun _ _ => rfl) cs hl
theorem sortC_perm (cs : List Card) : (sortC cs).Perm cs := List.mergeSort_perm _ _
theorem sortC_lt {cs : List Card} (hn : (cs.map (·.name)).Nodup) : ((sortC cs).map (·.name)).Pairwise (· < ·) := by
  have tl := PySem.W.sortLe_total (PyProof.Rows.listOrd PyProof.Rows.itemOrd) false fun c : Card => PySem.W.keyToks (encD (cardD c))
  have h1 := List.pairwise_mergeSort (le := fun a b : Card => leD (cardD a) (cardD b)) (fun a b c h1 h2 => by
    rw [le_card_eq] at *
    exact tl.trans a b c h1 h2) (fun a b => by
    rw [Bool.or_eq_true, le_card_eq, le_card_eq]
    exact tl.total a b) cs
  have h2 : ((sortC cs).map (·.name)).Nodup := ((sortC_perm cs).map _).nodup_iff.mpr hn
  rw [List.pairwise_map]
  have h3 := List.pairwise_map.mp h2
  refine (h1.and h3).imp fun {a b} h => ?_
  obtain ⟨q1, q2⟩ := h
  unfold leD at q1
  rw [lt_card, Option.getD_some, lt_card_name (Ne.symm q2)] at q1
  simp only [Bool.not_eq_true', decide_eq_false_iff_not] at q1
  exact Classical.byContradiction fun q => q2 (List.le_antisymm (as := a.name) (bs := b.name) q1 q)
def withCard (s : Stand) (c : Card) : Stand := ⟨s.bounds, sortC ((s.cards.filter fun d => decide (d.name ≠ c.name)) ++ [c]), s.waits⟩
theorem Keeps.perm {p : Plan} {bs : List Int} {cs ds : List Card} (h : Keeps p bs cs) (pm : ds.Perm cs) : Keeps p bs ds where
  cm := fun c hc => h.cm c (pm.mem_iff.mp hc)
  lm := fun j x e => by
    have := h.lm j x e
    unfold laneMany at this ⊢
    rw [(pm.filter _).length_eq]
    exact this
  km := fun k hk lane hm => by
    have := h.km k hk lane hm
    unfold kindMany at this ⊢
    rw [(pm.filter _).length_eq]
    exact this
theorem Keeps.sub {p : Plan} {bs : List Int} {cs ds : List Card} (h : Keeps p bs cs) (sb : ds.Sublist cs) : Keeps p bs ds where
  cm := fun c hc => h.cm c (sb.subset hc)
  lm := fun j x e => by
    have := h.lm j x e
    have q := (sb.filter fun c => decide (cardLane p c = (j : Int))).length_le
    unfold laneMany at this ⊢
    omega
  km := fun k hk lane hm => by
    have := h.km k hk lane hm
    have q := (sb.filter fun c => decide (cardLane p c = lane ∧ c.kind = k.1)).length_le
    unfold kindMany at this ⊢
    omega
theorem StandOk.keeps {p : Plan} (hp : PlanOk p) {s : Stand} (h : StandOk p s) : Keeps p s.bounds s.cards where
  cm := h.cm
  lm := fun j x e => by
    have := h.bh j x e
    unfold cardsIn at this
    rw [List.length_map] at this
    exact this
  km := fun k hk lane hm => by
    have ko := hp.km k hk
    have lt : k.2.1.idxOf lane < k.2.1.length := List.idxOf_lt_length_iff.mpr hm
    have lt2 : k.2.1.idxOf lane < k.2.2.length := by rw [ko.len]; exact lt
    have hz : (lane, boundAt k lane) ∈ k.2.1.zip k.2.2 := by
      refine List.mem_of_getElem? (i := k.2.1.idxOf lane) ?_
      rw [List.getElem?_zip_eq_some]
      refine ⟨?_, ?_⟩
      · rw [List.getElem?_eq_getElem lt, List.getElem_idxOf lt]
      · unfold boundAt
        rw [List.getD_eq_getElem?_getD, List.getElem?_eq_getElem lt2]
        rfl
    have := h.kh k hk _ hz
    rw [manyOf_eq hp hk] at this
    exact this
theorem withCard_ok {p : Plan} (hp : PlanOk p) {s : Stand} (h : StandOk p s) {c : Card} (hk : Keeps p s.bounds ((s.cards.filter fun d => decide (d.name ≠ c.name)) ++ [c])) (len : ((s.cards.filter fun d => decide (d.name ≠ c.name)) ++ [c]).length ≤ 30)
    (outs : ∀ d ∈ s.cards, d.name = c.name → isOut p d = true → isOut p c = true) (wh : ∀ w ∈ s.waits, w.card = c.name → w.other ∈ outNames p s ∨ cardLane p c < w.lane) : StandOk p (withCard s c) := by
  have nd := lt_nodup h.cn
  have pm := sortC_perm ((s.cards.filter fun d => decide (d.name ≠ c.name)) ++ [c])
  have nd2 : (((s.cards.filter fun d => decide (d.name ≠ c.name)) ++ [c]).map (·.name)).Nodup := by
    rw [List.map_append, List.nodup_append]
    refine ⟨nd.sublist (List.Sublist.map _ List.filter_sublist), by simp, ?_⟩
    intro a ha b hb e
    obtain ⟨d, hd, rfl⟩ := List.mem_map.mp ha
    have := (List.mem_filter.mp hd).2
    simp only [List.map_cons, List.map_nil, List.mem_singleton] at hb
    rw [hb] at e
    simp [e] at this
  have mem : ∀ d, d ∈ sortC ((s.cards.filter fun d => decide (d.name ≠ c.name)) ++ [c]) ↔ (d ∈ s.cards ∧ d.name ≠ c.name) ∨ d = c := by
    intro d
    rw [pm.mem_iff, List.mem_append, List.mem_filter, List.mem_singleton]
    simp
  have names : ∀ l, l ∈ s.cards.map (·.name) → l ∈ (sortC ((s.cards.filter fun d => decide (d.name ≠ c.name)) ++ [c])).map (·.name) := by
    intro l hl
    obtain ⟨d, hd, rfl⟩ := List.mem_map.mp hl
    by_cases e : d.name = c.name
    · exact List.mem_map.mpr ⟨c, (mem c).mpr (.inr rfl), e.symm⟩
    · exact List.mem_map.mpr ⟨d, (mem d).mpr (.inl ⟨hd, e⟩), rfl⟩
  have out2 : ∀ l, l ∈ outNames p s → ∃ d ∈ sortC ((s.cards.filter fun d => decide (d.name ≠ c.name)) ++ [c]), d.name = l ∧ isOut p d = true := by
    intro l hl
    obtain ⟨d, hd, rfl⟩ := List.mem_map.mp hl
    obtain ⟨hd, ho⟩ := List.mem_filter.mp hd
    by_cases e : d.name = c.name
    · exact ⟨c, (mem c).mpr (.inr rfl), e.symm, outs d hd e ho⟩
    · exact ⟨d, (mem d).mpr (.inl ⟨hd, e⟩), rfl, ho⟩
  refine stand_of hp h.bl h.bd (by rw [pm.length_eq]; exact len) (sortC_lt nd2) (hk.perm pm) h.wl h.wp (fun w hw => ?_) fun w hw d hd e => ?_
  · obtain ⟨a, b, q⟩ := h.wm w hw
    exact ⟨names _ a, names _ b, q⟩
  · rcases (mem d).mp hd with ⟨hd, ne⟩ | rfl
    · by_cases o : w.other ∈ outNames p s
      · exact .inl (out2 _ o)
      · exact .inr (h.wh w hw d hd e o)
    · rcases wh w hw e.symm with o | q
      · exact .inl (out2 _ o)
      · exact .inr q
end CL
namespace CL
open PySem PySem.Spec PyProof.Rows L2
abbrev Refusal := String × List String × List D
def told {α : Type} (f : α → D) (r : Except Refusal α) (S : Store) : R D := match r with
  | .ok a => .ok (f a) S
  | .error e => .err e.1 e.2.1 e.2.2 S
@[simp] theorem told_ok {α : Type} (f : α → D) (a : α) (S : Store) : told f (.ok a) S = .ok (f a) S := (rfl)
@[simp] theorem told_err {α : Type} (f : α → D) (e : Refusal) (S : Store) : told f (.error e) S = .err e.1 e.2.1 e.2.2 S := (rfl)
structure PullT (T : Text) : Prop where
  lane : LaneT T
  card : CardT T
  cards_in : Is T "cards_in" P_cards_in
  many_of : Is T "many_of" P_many_of
  is_out : Is T "is_out" P_is_out
  with_card : Is T "with_card" P_with_card
  bound_of : Is T "bound_of" P_bound_of
  hold_room : Is T "hold_room" P_hold_room
  hold_free : Is T "hold_free" P_hold_free
  full : T.ex "Full" = some (some ["lane", "bound"])
  kindFull : T.ex "KindFull" = some (some ["lane", "kind", "bound"])
  out : T.ex "Out" = some (some ["card"])
  blocked : T.ex "Blocked" = some (some ["card"])
section
variable {T : Text}
theorem raise_two {n : Nat} {ρ : Env} {S : Store} {C f g : String} (hn : 2 ≤ n) (hx : T.ex C = some (some [f, g])) (d e : D) : raiseR (.ok [d, e] S) C (ctxN T n) ρ = .err C [g, f] [e, d] ρ S := by
  unfold raiseR
  rw [if_pos (show (ctxN T n).deep = true from decide_eq_true hn)]
  show (match exFields (T.ex C) [d, e] with | some (ns, fs) => RS.err C ns fs ρ S | none => .bad) = _
  rw [hx]
  rfl
theorem raise_three {n : Nat} {ρ : Env} {S : Store} {C f g h : String} (hn : 2 ≤ n) (hx : T.ex C = some (some [f, g, h])) (d e i : D) : raiseR (.ok [d, e, i] S) C (ctxN T n) ρ = .err C [h, g, f] [i, e, d] ρ S := by
  unfold raiseR
  rw [if_pos (show (ctxN T n).deep = true from decide_eq_true hn)]
  show (match exFields (T.ex C) [d, e, i] with | some (ns, fs) => RS.err C ns fs ρ S | none => .bad) = _
  rw [hx]
  rfl
theorem sorted_cards (cs : List Card) (hl : cs.length ≤ 1000) : fbD .sorted [.lst (cs.map cardD)] = some (.lst ((sortC cs).map cardD)) := by
  show (sortD (cs.map cardD)).map D.lst = _
  rw [sortC_D cs hl]
  rfl
theorem with_card_sp (hwc : Is T "with_card" P_with_card) (n : Nat) (s : Stand) (c : Card) (hl : s.cards.length ≤ 100) (b : Nat) (S : Store) : callN T (n + 1) "with_card" false [standD s, cardD c] b S = .ok (standD (withCard s c)) S := by
  rw [call_is hwc rfl]
  have len : (s.cards.filter fun a => decide (a.name ≠ c.name)).length ≤ 100 := Nat.le_trans (List.length_filter_le _ _) hl
  have e := sorted_cards ((s.cards.filter fun a => decide (a.name ≠ c.name)) ++ [c]) (by simp at len ⊢; omega)
  simp at e len
  simp [P_with_card, Fn.start, lcAll_q, lim_ok (show s.cards.length ≤ 1000 by omega)]
  simp [bop_add_lst, e, (show (s.cards.filter fun a => !decide (a.name = c.name)).length ≤ 1000 by omega)]
  simp [standD, withCard]
theorem bound_of_sp (K : KindT T) (hbo : Is T "bound_of" P_bound_of) (n : Nat) (p : Plan) (hp : PlanOk p) (l : List Nat) {k : Kind} (h : kindAt p l = some k) (lane : Int) (hm : lane ∈ k.2.1) (b : Nat) (S : Store) : callN T (n + 4) "bound_of" false [planD p, .str l, .int lane] b S = .ok (.int (boundAt k lane)) S := by
  rw [call_is hbo rfl]
  have e := kind_at K n p l S.length S
  rw [h] at e
  have e4 := index_way k lane hm
  have e4' : mbD .index (.way (k.2.1.map .int)) [.int lane] = some (.int (k.2.1.idxOf lane : Nat)) := e4
  have e5 := bound_idx (kind_ok hp h) hm
  have ak : asg (.many [3, 4, 5]) (kndD k) [some (planD p), some (.str l), some (.int lane), none, none, none] = some [some (planD p), some (.str l), some (.int lane), some (.str k.1), some (.way (k.2.1.map .int)), some (.tup (k.2.2.map .int))] := rfl
  simp [P_bound_of, Fn.start, e, kset, ak, kindD, mbId, bmD, MB.writes, e4', e5, -idx_tup]
def roomErr (p : Plan) (s : Stand) (k : Kind) (lane : Int) : Except Refusal Unit :=
  if ¬ (0 ≤ lane ∧ lane < p.lanes.length) then .ok () else
  if s.bounds.getD lane.toNat 0 ≤ laneMany p s.cards lane then .error ("Full", ["bound", "lane"], [.int (s.bounds.getD lane.toNat 0), .str ((p.lanes.getD lane.toNat ([], 0)).1)]) else
  if boundAt k lane ≤ kindMany p s.cards lane k.1 then .error ("KindFull", ["bound", "kind", "lane"], [.int (boundAt k lane), .str k.1, .str ((p.lanes.getD lane.toNat ([], 0)).1)]) else .ok ()
theorem hold_room_sp (L : PullT T) (n : Nat) (p : Plan) (hp : PlanOk p) (s : Stand) (hs : StandOk p s) (k : Kind) (hk : k ∈ p.kinds) (lane : Int) (hm : 0 ≤ lane ∧ lane < p.lanes.length → lane ∈ k.2.1) (b : Nat) (S : Store) :
    callN T (n + 7) "hold_room" false [planD p, standD s, .str k.1, .int lane] b S = told (fun _ => .non) (roomErr p s k lane) S := by
  rw [call_is L.hold_room rfl]
  have kat := kindAt_some hp hk
  have bl := hs.bl
  have cl := hs.cl
  by_cases c1 : 0 ≤ lane ∧ lane < p.lanes.length
  · obtain ⟨i, rfl⟩ : ∃ i : Nat, lane = i := ⟨lane.toNat, by omega⟩
    have lt : i < p.lanes.length := by omega
    have lt2 : i < s.bounds.length := by omega
    have mm := hm c1
    have e1 := cards_in_sp L.lane L.cards_in n p s i (by omega) hs.fits S.length S
    have e2 := many_of_sp L.lane L.many_of n p s i k.1 kat (by omega) hs.fits S.length S
    have e3 := bound_of_sp L.lane.kinds L.bound_of (n + 2) p hp k.1 kat i mm S.length S
    rw [manyOf_eq hp hk] at e2
    have e4 : atD (s.bounds.map D.int) (i : Int) = some (.int (s.bounds.getD i 0)) := by
      rw [at_pos _ _ (by omega), List.getElem?_map, show (i : Int).toNat = i by omega, List.getD_eq_getElem?_getD, List.getElem?_eq_getElem lt2]
      rfl
    have e5 : atD (p.lanes.map laneD) (i : Int) = some (laneD (p.lanes.getD i ([], 0))) := by
      rw [at_pos _ _ (by omega), List.getElem?_map, show (i : Int).toNat = i by omega, List.getD_eq_getElem?_getD, List.getElem?_eq_getElem lt]
      rfl
    have cm : (cardsIn p s i).length = laneMany p s.cards i := by simp [cardsIn, laneMany]
    have hr : roomErr p s k i = if s.bounds.getD i 0 ≤ laneMany p s.cards i then .error ("Full", ["bound", "lane"], [.int (s.bounds.getD i 0), .str ((p.lanes.getD i ([], 0)).1)]) else if boundAt k i ≤ kindMany p s.cards i k.1 then .error ("KindFull", ["bound", "kind", "lane"], [.int (boundAt k i), .str k.1, .str ((p.lanes.getD i ([], 0)).1)]) else .ok () := by
      unfold roomErr
      rw [if_neg (by simpa using c1), show ((i : Nat) : Int).toNat = i by omega]
    rw [hr]
    generalize s.bounds.getD i 0 = x at e4
    generalize p.lanes.getD i ([], 0) = ln at e5
    generalize laneMany p s.cards i = m at cm
    generalize kindMany p s.cards i k.1 = mk at e2
    generalize boundAt k i = bk at e3
    by_cases c2 : x ≤ m
    · rw [if_pos c2]
      simp [P_hold_room, Fn.start, lt, e5, e1, cm, e4, c2, raise_two (show 2 ≤ n + 6 by omega) L.full, -at_pos]
    · rw [if_neg c2]
      by_cases c3 : bk ≤ mk
      · rw [if_pos c3]
        simp [P_hold_room, Fn.start, lt, e5, e1, cm, e4, c2, e3, e2, c3, raise_three (show 2 ≤ n + 6 by omega) L.kindFull, -at_pos]
      · rw [if_neg c3]
        simp [P_hold_room, Fn.start, lt, e5, e1, cm, e4, c2, e3, e2, c3, -at_pos]
  · rw [show roomErr p s k lane = .ok () from if_pos c1]
    by_cases c2 : 0 ≤ lane
    · have c3 : ¬ lane < p.lanes.length := fun q => c1 ⟨c2, q⟩
      simp [P_hold_room, Fn.start, c2, c3]
    · simp [P_hold_room, Fn.start, c2]
theorem hold_free_sp (L : PullT T) (n : Nat) (p : Plan) (c : Card) (h : Fits p c) (b : Nat) (S : Store) : callN T (n + 6) "hold_free" false [planD p, cardD c] b S = if isOut p c then .err "Out" ["card"] [.str c.name] S else if c.blocked then .err "Blocked" ["card"] [.str c.name] S else .ok .non S := by
  rw [call_is L.hold_free rfl]
  have e := is_out_sp L.lane.kinds L.is_out n p c h S.length S
  cases h1 : isOut p c with
  | true =>
    rw [h1] at e
    simp [P_hold_free, Fn.start, e, raise_one (show 2 ≤ n + 5 by omega) L.out]
  | false =>
    rw [h1] at e
    cases h2 : c.blocked with
    | true => simp [P_hold_free, Fn.start, e, h2, raise_one (show 2 ≤ n + 5 by omega) L.blocked]
    | false => simp [P_hold_free, Fn.start, e, h2]
end
end CL
namespace CL
open PySem PySem.Spec PyProof.Rows L2
theorem for_raise {α : Type} {b : Nat} {t : Tg} {body : Ss} {c : Ctx} {w : Walk} {S : Store} (l : List α) (f0 : α → D) (p : α → Bool) (er : α → Refusal) (P : Env → Prop) (hw : w.held = []) : ∀ {ρ : Env} {F : RS}, forS b t body c w (l.map f0) ρ S = F → P ρ →
    (∀ a ∈ l, ∀ ρ, P ρ → ∃ ρ1, asg t (f0 a) ρ = some ρ1 ∧ ∀ Q : RS → Prop, (∀ ρ2, P ρ2 → p a = false → Q (.ok (.nx ρ2) S)) → (∀ ρ2, p a = true → Q (.err (er a).1 (er a).2.1 (er a).2.2 ρ2 S)) → Q (exs b body c ρ1 S)) →
    (∃ a ρ', l.find? p = some a ∧ F = .err (er a).1 (er a).2.1 (er a).2.2 ρ' S) ∨ (l.find? p = none ∧ ∃ ρ', F = .ok (.nx ρ') S ∧ P ρ') := by
  have st : w.still S = true := by simp [Walk.still, hw]
  induction l with
  | nil =>
    intro ρ F hF hP _
    exact .inr ⟨rfl, ρ, by rw [← hF]; simp [forS, forL, st], hP⟩
  | cons a l ih =>
    intro ρ F hF hP h
    obtain ⟨ρ1, h1, h2⟩ := h a List.mem_cons_self ρ hP
    have key := h2 (fun r => (∃ ρ2, r = .ok (.nx ρ2) S ∧ P ρ2 ∧ p a = false) ∨ ∃ ρ2, r = .err (er a).1 (er a).2.1 (er a).2.2 ρ2 S ∧ p a = true) (fun ρ2 q e => .inl ⟨ρ2, rfl, q, e⟩) (fun ρ2 e => .inr ⟨ρ2, rfl, e⟩)
    rcases key with ⟨ρ2, e, q, pa⟩ | ⟨ρ2, e, pa⟩
    · have hF2 : forS b t body c w (l.map f0) ρ2 S = F := by
        rw [← hF]
        simp only [forS, List.map_cons, forL, st, if_true, h1, e]
      have := ih hF2 q fun x hx => h x (List.mem_cons_of_mem _ hx)
      rw [List.find?_cons, pa]
      exact this
    · refine .inl ⟨a, ρ2, by rw [List.find?_cons, pa], ?_⟩
      rw [← hF]
      simp only [forS, List.map_cons, forL, st, if_true, h1, e]
def barred (p : Plan) (s : Stand) (l : List Nat) (lane : Int) : Option Wt := s.waits.find? fun w => decide (w.card = l ∧ w.lane ≤ lane ∧ w.other ∉ outNames p s)
def waitsErr (p : Plan) (s : Stand) (l : List Nat) (lane : Int) : Except Refusal Unit := match barred p s l lane with
  | some w => .error ("Waits", ["other", "card"], [.str w.other, .str l])
  | none => .ok ()
def pullM (p : Plan) (s : Stand) (l : List Nat) : Except Refusal Stand := match cardOf s l with
  | none => .error ("NoCard", ["card"], [.str l])
  | some c => if isOut p c then .error ("Out", ["card"], [.str c.name]) else if c.blocked then .error ("Blocked", ["card"], [.str c.name]) else match kindAt p c.kind with
    | none => .error ("NoKind", ["kind"], [.str c.kind])
    | some k => match waitsErr p s l (laneOf p k (c.place + 1)) with
      | .error e => .error e
      | .ok _ => match roomErr p s k (laneOf p k (c.place + 1)) with
        | .error e => .error e
        | .ok _ => .ok (withCard s ⟨l, c.kind, c.place + 1, false⟩)
def backM (p : Plan) (s : Stand) (l : List Nat) : Except Refusal Stand := match cardOf s l with
  | none => .error ("NoCard", ["card"], [.str l])
  | some c => if isOut p c then .error ("Out", ["card"], [.str c.name]) else if c.blocked then .error ("Blocked", ["card"], [.str c.name]) else if c.place = 0 then .error ("InYard", ["card"], [.str l]) else match kindAt p c.kind with
    | none => .error ("NoKind", ["kind"], [.str c.kind])
    | some k => match roomErr p s k (laneOf p k (c.place - 1)) with
        | .error e => .error e
        | .ok _ => .ok (withCard s ⟨l, c.kind, c.place - 1, false⟩)
theorem cardOf_name {s : Stand} {l : List Nat} {c : Card} (h : cardOf s l = some c) : c ∈ s.cards ∧ c.name = l := by
  refine ⟨List.mem_of_find?_eq_some h, ?_⟩
  have := List.find?_some h
  simpa using this
theorem kindAt_mem {p : Plan} {l : List Nat} {k : Kind} (h : kindAt p l = some k) : k ∈ p.kinds ∧ k.1 = l := by
  refine ⟨List.mem_of_find?_eq_some h, ?_⟩
  have := List.find?_some h
  simpa using this
section
variable {T : Text}
theorem hold_waits_sp (L : PullT T) (hon : Is T "out_names" P_out_names) (hhw : Is T "hold_waits" P_hold_waits) (hx : T.ex "Waits" = some (some ["card", "other"])) (n : Nat) (p : Plan) (s : Stand) (hs : StandOk p s) (l : List Nat) (lane : Int) (b : Nat) (S : Store) :
    callN T (n + 7) "hold_waits" false [planD p, standD s, .str l, .int lane] b S = told (fun _ => .non) (waitsErr p s l lane) S := by
  rw [call_is hhw rfl]
  have cl := hs.cl
  have e := out_names_sp L.lane.kinds L.is_out hon n p s (by omega) hs.fits S.length S
  simp [P_hold_waits, Fn.start, e]
  generalize hF : forS _ _ _ _ _ _ _ _ = F
  unfold waitsErr barred
  rcases for_raise s.waits waitD (fun w => decide (w.card = l ∧ w.lane ≤ lane ∧ w.other ∉ outNames p s)) (fun w => ("Waits", ["other", "card"], [.str w.other, .str l])) (fun ρ => ∃ x y z, ρ = [some (planD p), some (standD s), some (.str l), some (.int lane), some (.lst ((outNames p s).map .str)), x, y, z]) rfl hF ⟨_, _, _, rfl⟩ (by
    rintro a ha _ ⟨x, y, z, rfl⟩
    refine ⟨_, asg_three _ _ _ _ _ _ _, fun Q hn hz => ?_⟩
    by_cases c1 : a.card = l
    · by_cases c2 : a.lane ≤ lane
      · by_cases c3 : a.other ∈ outNames p s
        · simp [c1, c2, notin_strs, c3]
          exact hn _ ⟨_, _, _, rfl⟩ (by simp [c3])
        · simp [c1, c2, notin_strs, c3, raise_two (show 2 ≤ n + 6 by omega) hx]
          exact hz _ (by simp [c1, c2, c3])
      · simp [c1, c2]
        exact hn _ ⟨_, _, _, rfl⟩ (by simp [c2])
    · have c1' : (a.card == l) = false := by simpa using c1
      simp [c1']
      exact hn _ ⟨_, _, _, rfl⟩ (by simp [c1])) with ⟨a, ρ', h1, rfl⟩ | ⟨h1, ρ', rfl, x, y, z, rfl⟩
  · rw [h1]
    simp
  · rw [h1]
    simp
structure PullT2 (T : Text) : Prop where
  pull : PullT T
  out_names : Is T "out_names" P_out_names
  hold_waits : Is T "hold_waits" P_hold_waits
  pulled : Is T "pulled" P_pulled
  waits : T.ex "Waits" = some (some ["card", "other"])
theorem stand_kind {p : Plan} {s : Stand} (hs : StandOk p s) {c : Card} (hc : c ∈ s.cards) : ∃ k, kindAt p c.kind = some k ∧ k ∈ p.kinds ∧ k.1 = c.kind ∧ c.place ≤ k.2.1.length + 1 := by
  obtain ⟨k, hk, hle⟩ := (hs.cm c hc).kind
  exact ⟨k, hk, (kindAt_mem hk).1, (kindAt_mem hk).2, hle⟩
theorem isOut_at {p : Plan} {c : Card} {k : Kind} (h : kindAt p c.kind = some k) : isOut p c = decide ((k.2.1.length : Int) < c.place) := by
  unfold isOut
  rw [h]
theorem waits_lim {p : Plan} {s : Stand} {l : List Nat} {lane : Int} {e : Refusal} (h : waitsErr p s l lane = .error e) : D.limL 0 e.2.2 = true := by
  unfold waitsErr at h
  split at h
  · cases h
    rfl
  · cases h
theorem room_lim {p : Plan} {s : Stand} {k : Kind} {lane : Int} {e : Refusal} (h : roomErr p s k lane = .error e) : D.limL 0 e.2.2 = true := by
  unfold roomErr at h
  split at h
  · cases h
  · split at h
    · cases h
      rfl
    · split at h
      · cases h
        rfl
      · cases h
theorem pulled_sp (L : PullT2 T) (n : Nat) (p : Plan) (hp : PlanOk p) (s : Stand) (hs : StandOk p s) (l : List Nat) (b : Nat) (S : Store) : callN T (n + 8) "pulled" false [planD p, standD s, .str l] b S = told standD (pullM p s l) S := by
  rw [call_is L.pulled rfl]
  have cl := hs.cl
  have e1 := card_of_sp L.pull.card (n + 4) s l S.length S
  unfold pullM
  cases hc : cardOf s l with
  | none =>
    rw [hc] at e1
    simp [P_pulled, Fn.start, e1]
  | some c =>
    rw [hc] at e1
    obtain ⟨cm, cn⟩ := cardOf_name hc
    obtain ⟨k, hk, km, ke, hle⟩ := stand_kind hs cm
    have e2 := hold_free_sp L.pull (n + 1) p c (hs.fits c cm) S.length S
    cases ho : isOut p c with
    | true =>
      rw [ho] at e2
      simp [P_pulled, Fn.start, e1, e2, ho]
    | false =>
      cases hb : c.blocked with
      | true =>
        rw [ho, hb] at e2
        simp [P_pulled, Fn.start, e1, e2, ho, hb]
      | false =>
        rw [ho, hb] at e2
        have pos := (hs.cm c cm).pos
        have le2 : c.place + 1 ≤ k.2.1.length + 1 := by
          rw [isOut_at hk] at ho
          simp only [decide_eq_false_iff_not] at ho
          omega
        have e3 := lane_at_sp L.pull.lane (n + 2) p c.kind hk (c.place + 1) (by omega) S.length S
        have e4 := hold_waits_sp L.pull L.out_names L.hold_waits L.waits n p s hs l (laneOf p k (c.place + 1)) S.length S
        have e5 := hold_room_sp L.pull n p hp s hs k km (laneOf p k (c.place + 1)) (laneOf_lt hp km (by omega)).2.2.2 S.length S
        rw [ke] at e5
        have e6 := with_card_sp L.pull.with_card (n + 6) s ⟨l, c.kind, c.place + 1, false⟩ (by omega) S.length S
        simp only [cardD] at e6
        simp only [hk]
        cases hw : waitsErr p s l (laneOf p k (c.place + 1)) with
        | error e =>
          rw [hw] at e4
          simp [P_pulled, Fn.start, e1, e2, e3, e4, ho, hb, hw, waits_lim hw]
        | ok _ =>
          rw [hw] at e4
          cases hr : roomErr p s k (laneOf p k (c.place + 1)) with
          | error e =>
            rw [hr] at e5
            simp [P_pulled, Fn.start, e1, e2, e3, e4, e5, ho, hb, hw, hr, room_lim hr]
          | ok _ =>
            rw [hr] at e5
            simp [P_pulled, Fn.start, e1, e2, e3, e4, e5, e6, ho, hb, hw, hr]
structure BackT (T : Text) : Prop where
  pull : PullT T
  put_back : Is T "put_back" P_put_back
  inYard : T.ex "InYard" = some (some ["card"])
theorem put_back_sp (L : BackT T) (n : Nat) (p : Plan) (hp : PlanOk p) (s : Stand) (hs : StandOk p s) (l : List Nat) (b : Nat) (S : Store) : callN T (n + 8) "put_back" false [planD p, standD s, .str l] b S = told standD (backM p s l) S := by
  rw [call_is L.put_back rfl]
  have cl := hs.cl
  have e1 := card_of_sp L.pull.card (n + 4) s l S.length S
  unfold backM
  cases hc : cardOf s l with
  | none =>
    rw [hc] at e1
    simp [P_put_back, Fn.start, e1]
  | some c =>
    rw [hc] at e1
    obtain ⟨cm, cn⟩ := cardOf_name hc
    obtain ⟨k, hk, km, ke, hle⟩ := stand_kind hs cm
    have e2 := hold_free_sp L.pull (n + 1) p c (hs.fits c cm) S.length S
    cases ho : isOut p c with
    | true =>
      rw [ho] at e2
      simp [P_put_back, Fn.start, e1, e2, ho]
    | false =>
      cases hb : c.blocked with
      | true =>
        rw [ho, hb] at e2
        simp [P_put_back, Fn.start, e1, e2, ho, hb]
      | false =>
        rw [ho, hb] at e2
        have pos := (hs.cm c cm).pos
        cases h0 : c.place == 0 with
        | true =>
          have h0' : c.place = 0 := by simpa using h0
          simp [P_put_back, Fn.start, e1, e2, ho, hb, h0, h0', raise_one (show 2 ≤ n + 7 by omega) L.inYard]
        | false =>
          have h0' : ¬ c.place = 0 := by simpa using h0
          have e3 := lane_at_sp L.pull.lane (n + 2) p c.kind hk (c.place - 1) (by omega) S.length S
          have e5 := hold_room_sp L.pull n p hp s hs k km (laneOf p k (c.place - 1)) (laneOf_lt hp km (by omega)).2.2.2 S.length S
          rw [ke] at e5
          have e6 := with_card_sp L.pull.with_card (n + 6) s ⟨l, c.kind, c.place - 1, false⟩ (by omega) S.length S
          simp only [cardD] at e6
          simp only [hk]
          cases hr : roomErr p s k (laneOf p k (c.place - 1)) with
          | error e =>
            rw [hr] at e5
            simp [P_put_back, Fn.start, e1, e2, e3, e5, ho, hb, h0, h0', hr, room_lim hr]
          | ok _ =>
            rw [hr] at e5
            simp [P_put_back, Fn.start, e1, e2, e3, e5, e6, ho, hb, h0, h0', hr]
end
end CL
namespace CL
open PySem PySem.Spec PyProof.Rows L2
theorem laneMany_sub {p : Plan} {cs ds : List Card} (sb : ds.Sublist cs) (lane : Int) : laneMany p ds lane ≤ laneMany p cs lane := (sb.filter _).length_le
theorem kindMany_sub {p : Plan} {cs ds : List Card} (sb : ds.Sublist cs) (lane : Int) (kn : List Nat) : kindMany p ds lane kn ≤ kindMany p cs lane kn := (sb.filter _).length_le
theorem roomErr_ok {p : Plan} {s : Stand} {k : Kind} {lane : Int} (h : roomErr p s k lane = .ok ()) {ds : List Card} (sb : ds.Sublist s.cards) : roomOf p s.bounds ds k lane = [] := by
  have a := laneMany_sub (p := p) sb lane
  have b := kindMany_sub (p := p) sb lane k.1
  unfold roomErr at h
  unfold roomOf
  split at h
  · rename_i c
    rw [if_pos c]
  · rename_i c
    rw [if_neg c]
    split at h
    · cases h
    · split at h
      · cases h
      · rw [if_neg (by omega), if_neg (by omega)]
theorem laneOf_mono {p : Plan} (hp : PlanOk p) {k : Kind} (hk : k ∈ p.kinds) {a b : Int} (h0 : 0 ≤ a) (h : a ≤ b) : laneOf p k a ≤ laneOf p k b := by
  have ko := hp.km k hk
  have la := laneOf_lt hp hk h0
  have lb := laneOf_lt hp hk (show 0 ≤ b by omega)
  by_cases e : a = b
  · rw [e]
    exact Int.le_refl _
  · by_cases c0 : a = 0
    · subst c0
      have : laneOf p k 0 = -1 := if_pos rfl
      omega
    · by_cases c1 : (k.2.1.length : Int) < b
      · have : laneOf p k b = p.lanes.length := by unfold laneOf; rw [if_neg (by omega), if_pos c1]
        omega
      · have ea : laneOf p k a = k.2.1.getD (a - 1).toNat 0 := by unfold laneOf; rw [if_neg c0, if_neg (by omega)]
        have eb : laneOf p k b = k.2.1.getD (b - 1).toNat 0 := by unfold laneOf; rw [if_neg (by omega), if_neg c1]
        have l1 : (a - 1).toNat < k.2.1.length := by omega
        have l2 : (b - 1).toNat < k.2.1.length := by omega
        rw [ea, eb, List.getD_eq_getElem?_getD, List.getD_eq_getElem?_getD, List.getElem?_eq_getElem l1, List.getElem?_eq_getElem l2]
        have := List.pairwise_iff_getElem.mp ko.up (a - 1).toNat (b - 1).toNat l1 l2 (by omega)
        simp only [Option.getD_some]
        omega
theorem went_ok {p : Plan} (hp : PlanOk p) {s : Stand} (hs : StandOk p s) {l : List Nat} {c : Card} (hc : cardOf s l = some c) (ho : isOut p c = false) {k : Kind} (hk : kindAt p c.kind = some k) {pl : Int} (p0 : 0 ≤ pl) (p1 : pl ≤ k.2.1.length + 1)
    (room : roomErr p s k (laneOf p k pl) = .ok ()) (wh : ∀ w ∈ s.waits, w.card = l → w.other ∈ outNames p s ∨ laneOf p k pl < w.lane) : StandOk p (withCard s ⟨l, c.kind, pl, false⟩) := by
  obtain ⟨cm, cn⟩ := cardOf_name hc
  obtain ⟨km, ke⟩ := kindAt_mem hk
  have co : CardOk p ⟨l, c.kind, pl, false⟩ := ⟨by have := (hs.cm c cm).nm; rw [cn] at this; exact this, ⟨k, hk, p1⟩, p0, fun e => by cases e⟩
  have cl : cardLane p ⟨l, c.kind, pl, false⟩ = laneOf p k pl := by
    unfold cardLane
    rw [hk]
  have nd := lt_nodup hs.cn
  have keeps := ((hs.keeps hp).sub (List.filter_sublist (p := fun d : Card => decide (d.name ≠ l)))).snoc hp hs.bl co km ke.symm (by rw [cl]; exact roomErr_ok room List.filter_sublist)
  refine withCard_ok hp hs keeps ?_ ?_ ?_
  · have lt : (s.cards.filter fun d => decide (d.name ≠ l)).length < s.cards.length := by
      refine Nat.lt_of_le_of_ne (List.length_filter_le _ _) fun e => ?_
      have := List.length_filter_eq_length_iff.mp e c cm
      simp [cn] at this
    have := hs.cl
    rw [List.length_append, List.length_singleton]
    show (s.cards.filter fun d => decide (d.name ≠ l)).length + 1 ≤ 30
    omega
  · intro d hd e o
    have : d = c := names_unique nd hd cm (by rw [cn]; exact e)
    rw [this, ho] at o
    cases o
  · intro w hw e
    rw [cl]
    exact wh w hw e
theorem pullM_ok {p : Plan} (hp : PlanOk p) {s s' : Stand} (hs : StandOk p s) {l : List Nat} (h : pullM p s l = .ok s') : StandOk p s' ∧ ∃ c, cardOf s l = some c ∧ isOut p c = false ∧ c.blocked = false ∧ s' = withCard s ⟨l, c.kind, c.place + 1, false⟩ := by
  unfold pullM at h
  split at h
  · cases h
  · rename_i c hc
    split at h
    · cases h
    · rename_i ho
      split at h
      · cases h
      · rename_i hb
        split at h
        · cases h
        · rename_i k hk
          split at h
          · cases h
          · rename_i u hw
            split at h
            · cases h
            · rename_i u2 hr
              cases h
              obtain ⟨cm, cn⟩ := cardOf_name hc
              have pos := (hs.cm c cm).pos
              have ho' : isOut p c = false := by simpa using ho
              have le : c.place ≤ k.2.1.length := by
                rw [isOut_at hk] at ho'
                simp only [decide_eq_false_iff_not] at ho'
                omega
              refine ⟨went_ok hp hs hc ho' hk (by omega) (by omega) hr fun w hw' e => ?_, c, hc, ho', by simpa using hb, rfl⟩
              unfold waitsErr at hw
              split at hw
              · cases hw
              · rename_i hbar
                unfold barred at hbar
                rw [List.find?_eq_none] at hbar
                have := hbar w hw'
                simp only [decide_eq_true_eq, not_and, Decidable.not_not] at this
                by_cases c1 : w.lane ≤ laneOf p k (c.place + 1)
                · exact .inl (this e c1)
                · exact .inr (by omega)
theorem backM_ok {p : Plan} (hp : PlanOk p) {s s' : Stand} (hs : StandOk p s) {l : List Nat} (h : backM p s l = .ok s') : StandOk p s' ∧ ∃ c, cardOf s l = some c ∧ isOut p c = false ∧ c.blocked = false ∧ c.place ≠ 0 ∧ s' = withCard s ⟨l, c.kind, c.place - 1, false⟩ := by
  unfold backM at h
  split at h
  · cases h
  · rename_i c hc
    split at h
    · cases h
    · rename_i ho
      split at h
      · cases h
      · rename_i hb
        split at h
        · cases h
        · rename_i h0
          split at h
          · cases h
          · rename_i k hk
            split at h
            · cases h
            · rename_i u2 hr
              cases h
              obtain ⟨cm, cn⟩ := cardOf_name hc
              obtain ⟨km, ke⟩ := kindAt_mem hk
              have pos := (hs.cm c cm).pos
              obtain ⟨k', hk', hle⟩ := (hs.cm c cm).kind
              rw [hk] at hk'
              cases hk'
              have ho' : isOut p c = false := by simpa using ho
              refine ⟨went_ok hp hs hc ho' hk (by omega) (by omega) hr fun w hw' e => ?_, c, hc, ho', by simpa using hb, h0, rfl⟩
              by_cases o : w.other ∈ outNames p s
              · exact .inl o
              · have lt := hs.wh w hw' c cm (by rw [cn, e]) o
                have mono := laneOf_mono hp km (a := c.place - 1) (b := c.place) (by omega) (by omega)
                have : cardLane p c = laneOf p k c.place := by
                  unfold cardLane
                  rw [hk]
                exact .inr (by omega)
theorem withCard_map {p : Plan} {s : Stand} (hs : StandOk p s) {l : List Nat} {c : Card} (hc : cardOf s l = some c) {c' : Card} (hn : c'.name = l) : (withCard s c').cards = s.cards.map fun d => if d.name = l then c' else d := by
  obtain ⟨cm, cn⟩ := cardOf_name hc
  have nd := lt_nodup hs.cn
  have names : (s.cards.map fun d => if d.name = l then c' else d).map (·.name) = s.cards.map (·.name) := by
    rw [List.map_map]
    refine List.map_congr_left fun d _ => ?_
    show (if d.name = l then c' else d).name = d.name
    by_cases e : d.name = l
    · rw [if_pos e, hn, e]
    · rw [if_neg e]
  have pm : ((s.cards.filter fun d => decide (d.name ≠ c'.name)) ++ [c']).Perm (s.cards.map fun d => if d.name = l then c' else d) := by
    rw [hn]
    have key : ∀ cs : List Card, (cs.map (·.name)).Nodup → c ∈ cs → ((cs.filter fun d => decide (d.name ≠ l)) ++ [c']).Perm (cs.map fun d => if d.name = l then c' else d) := by
      intro cs
      induction cs with
      | nil => intro _ h; cases h
      | cons d cs ih =>
        intro nd h
        rw [List.map_cons, List.nodup_cons] at nd
        by_cases e : d.name = l
        · have no : ∀ x ∈ cs, x.name ≠ l := by
            intro x hx q
            exact nd.1 (by rw [e, ← q]; exact List.mem_map.mpr ⟨x, hx, rfl⟩)
          have f1 : (cs.filter fun d => decide (d.name ≠ l)) = cs := List.filter_eq_self.mpr fun x hx => by simpa using no x hx
          have f2 : (cs.map fun d => if d.name = l then c' else d) = cs := by
            conv => rhs; rw [← List.map_id cs]
            exact List.map_congr_left fun x hx => by rw [if_neg (no x hx)]; rfl
          rw [List.filter_cons, if_neg (by simp [e]), f1, List.map_cons, if_pos e, f2]
          exact List.perm_append_singleton _ _
        · rw [List.filter_cons, if_pos (by simpa using e), List.map_cons, if_neg e, List.cons_append]
          refine (ih nd.2 ?_).cons d
          rcases List.mem_cons.mp h with q | q
          · exact absurd (by rw [← q]; exact cn) e
          · exact q
    exact key s.cards nd cm
  have sorted := sortC_lt (cs := (s.cards.filter fun d => decide (d.name ≠ c'.name)) ++ [c']) ((pm.map _).nodup_iff.mpr (by rw [names]; exact nd))
  have sorted2 : ((s.cards.map fun d => if d.name = l then c' else d).map (·.name)).Pairwise (· < ·) := by rw [names]; exact hs.cn
  rw [List.pairwise_map] at sorted sorted2
  refine List.Perm.eq_of_pairwise (le := fun a b : Card => a.name < b.name) (fun a b _ _ h1 h2 => absurd h2 (List.lt_asymm h1)) sorted sorted2 ((sortC_perm _).trans pm)
end CL
namespace CL
open PySem PySem.Spec PyProof.Rows L2
def wordOf (C : String) : D :=
  if C = "NoCard" then .str [78, 111, 67, 97, 114, 100] else if C = "Out" then .str [79, 117, 116] else if C = "Blocked" then .str [66, 108, 111, 99, 107, 101, 100] else
  if C = "Waits" then .str [87, 97, 105, 116, 115] else if C = "Full" then .str [70, 117, 108, 108] else if C = "KindFull" then .str [75, 105, 110, 100, 70, 117, 108, 108] else .str [73, 110, 89, 97, 114, 100]
def dueE (e : Refusal) : D := .tup (wordOf e.1 :: e.2.2.reverse)
def dueD : Except Refusal Stand → D
  | .ok s => standD s
  | .error e => dueE e
inductive Told : Refusal → Prop
  | noCard (l : List Nat) : Told ("NoCard", ["card"], [.str l])
  | out (l : List Nat) : Told ("Out", ["card"], [.str l])
  | blocked (l : List Nat) : Told ("Blocked", ["card"], [.str l])
  | inYard (l : List Nat) : Told ("InYard", ["card"], [.str l])
  | waits (l m : List Nat) : Told ("Waits", ["other", "card"], [.str m, .str l])
  | full (l : List Nat) (x : Int) : Told ("Full", ["bound", "lane"], [.int x, .str l])
  | kindFull (l m : List Nat) (x : Int) : Told ("KindFull", ["bound", "kind", "lane"], [.int x, .str m, .str l])
def names7 : List String := ["NoCard", "Out", "Blocked", "Waits", "Full", "KindFull", "InYard"]
structure RefT (T : Text) : Prop where
  refusal : Is T "_law_refusal" Ulaw_refusal
  isx : ∀ X ∈ names7, ∀ C ∈ names7, T.isx X C = some (X == C)
  value : ∀ X ∈ names7, T.isx X "ValueError" = some true
  lane : ∀ X ∈ names7, T.isx X "LaneError" = some true
section
variable {T : Text}
theorem RefT.one (R : RefT T) {X : String} (h : X ∈ names7) {C : String} (hC : C ∈ names7) : isxT T X [C] = some (X == C) := by
  unfold isxT
  rw [R.isx X h C hC]
  cases (X == C) <;> rfl
theorem RefT.all (R : RefT T) (X : String) (h : X ∈ names7) : isxT T X ["NoCard"] = some (X == "NoCard") ∧ isxT T X ["Out"] = some (X == "Out") ∧ isxT T X ["Blocked"] = some (X == "Blocked") ∧ isxT T X ["Waits"] = some (X == "Waits") ∧
    isxT T X ["Full"] = some (X == "Full") ∧ isxT T X ["KindFull"] = some (X == "KindFull") ∧ isxT T X ["InYard"] = some (X == "InYard") ∧ isxT T X ["ValueError"] = some true := by
  refine ⟨R.one h (by decide), R.one h (by decide), R.one h (by decide), R.one h (by decide), R.one h (by decide), R.one h (by decide), R.one h (by decide), ?_⟩
  unfold isxT
  rw [R.value X h]
theorem bools_count (a b c d e f g : Bool) : mbD .count (.lst [.bl a, .bl b, .bl c, .bl d, .bl e, .bl f, .bl g]) [.bl true] = some (.int ([a, b, c, d, e, f, g].count true : Nat)) := by
  cases a <;> cases b <;> cases c <;> cases d <;> cases e <;> cases f <;> cases g <;> rfl
theorem bools_index (a b c d e f g : Bool) (h : [a, b, c, d, e, f, g].count true = 1) : mbD .index (.lst [.bl a, .bl b, .bl c, .bl d, .bl e, .bl f, .bl g]) [.bl true] = some (.int ([a, b, c, d, e, f, g].idxOf true : Nat)) := by
  revert h
  cases a <;> cases b <;> cases c <;> cases d <;> cases e <;> cases f <;> cases g <;> intro h <;> first | rfl | exact absurd h (by decide)
theorem refusal_sp (R : RefT T) (n : Nat) (e : Refusal) (h : Told e) (b : Nat) (S : Store) : (callsN T (n + 1)).hcall "_law_refusal" e b S = .ok (dueE e) S := by
  rw [hcall_is R.refusal rfl (by decide)]
  cases h with
  | noCard l =>
    obtain ⟨i1, i2, i3, i4, i5, i6, i7, i8⟩ := R.all "NoCard" (by decide)
    simp [Ulaw_refusal, isx_any, i1, i2, i3, i4, i5, i6, i7, i8, fldD, bop_add_lst, dueE, wordOf, kindD, mbId, bmD, MB.writes, bools_count, bools_index, List.idxOf_cons, CL.R.calm]
  | out l =>
    obtain ⟨i1, i2, i3, i4, i5, i6, i7, i8⟩ := R.all "Out" (by decide)
    simp [Ulaw_refusal, isx_any, i1, i2, i3, i4, i5, i6, i7, i8, fldD, bop_add_lst, dueE, wordOf, kindD, mbId, bmD, MB.writes, bools_count, bools_index, List.idxOf_cons, CL.R.calm]
  | blocked l =>
    obtain ⟨i1, i2, i3, i4, i5, i6, i7, i8⟩ := R.all "Blocked" (by decide)
    simp [Ulaw_refusal, isx_any, i1, i2, i3, i4, i5, i6, i7, i8, fldD, bop_add_lst, dueE, wordOf, kindD, mbId, bmD, MB.writes, bools_count, bools_index, List.idxOf_cons, CL.R.calm]
  | inYard l =>
    obtain ⟨i1, i2, i3, i4, i5, i6, i7, i8⟩ := R.all "InYard" (by decide)
    simp [Ulaw_refusal, isx_any, i1, i2, i3, i4, i5, i6, i7, i8, fldD, bop_add_lst, dueE, wordOf, kindD, mbId, bmD, MB.writes, bools_count, bools_index, List.idxOf_cons, CL.R.calm]
  | waits l m =>
    obtain ⟨i1, i2, i3, i4, i5, i6, i7, i8⟩ := R.all "Waits" (by decide)
    simp [Ulaw_refusal, isx_any, i1, i2, i3, i4, i5, i6, i7, i8, fldD, bop_add_lst, dueE, wordOf, kindD, mbId, bmD, MB.writes, bools_count, bools_index, List.idxOf_cons, CL.R.calm]
  | full l x =>
    obtain ⟨i1, i2, i3, i4, i5, i6, i7, i8⟩ := R.all "Full" (by decide)
    simp [Ulaw_refusal, isx_any, i1, i2, i3, i4, i5, i6, i7, i8, fldD, bop_add_lst, dueE, wordOf, kindD, mbId, bmD, MB.writes, bools_count, bools_index, List.idxOf_cons, CL.R.calm]
  | kindFull l m x =>
    obtain ⟨i1, i2, i3, i4, i5, i6, i7, i8⟩ := R.all "KindFull" (by decide)
    simp [Ulaw_refusal, isx_any, i1, i2, i3, i4, i5, i6, i7, i8, fldD, bop_add_lst, dueE, wordOf, kindD, mbId, bmD, MB.writes, bools_count, bools_index, List.idxOf_cons, CL.R.calm]
structure DueT (T : Text) : Prop where
  law : LStandT T
  came : Is T "_law_came" Ulaw_came
theorem eq_nil_cards (cs : List Card) : cmpD .eq (.lst (cs.map cardD)) (.lst []) = some cs.isEmpty := by
  have d1 : (D.lst (cs.map cardD)).dat dp = true := by
    rw [dat_lst]
    exact datL_map (by decide) _ _ fun _ => dat_card
  have d2 : (D.lst []).dat dp = true := rfl
  simp only [cmpD, eqD, d1, d2, Bool.and_self, if_true]
  cases cs <;> rfl
theorem eq_nil_cons (c : Card) (cs : List Card) : cmpD .eq (.lst (cardD c :: cs.map cardD)) (.lst []) = some false := eq_nil_cards (c :: cs)
theorem eq_nil_nil : cmpD .eq (.lst []) (.lst []) = some true := eq_nil_cards []
theorem room_both (p : Plan) (s : Stand) (k : Kind) (lane : Int) : (roomErr p s k lane = .ok () ∧ roomOf p s.bounds s.cards k lane = []) ∨
    (0 ≤ lane ∧ lane < p.lanes.length ∧ roomErr p s k lane = .error ("Full", ["bound", "lane"], [.int (s.bounds.getD lane.toNat 0), .str ((p.lanes.getD lane.toNat ([], 0)).1)]) ∧ roomOf p s.bounds s.cards k lane = fullT) ∨
    (0 ≤ lane ∧ lane < p.lanes.length ∧ roomErr p s k lane = .error ("KindFull", ["bound", "kind", "lane"], [.int (boundAt k lane), .str k.1, .str ((p.lanes.getD lane.toNat ([], 0)).1)]) ∧ roomOf p s.bounds s.cards k lane = kindFullT) := by
  unfold roomErr roomOf
  by_cases c1 : 0 ≤ lane ∧ lane < p.lanes.length
  · have n1 : ¬¬(0 ≤ lane ∧ lane < p.lanes.length) := fun h => h c1
    rw [if_neg n1, if_neg n1]
    by_cases c2 : s.bounds.getD lane.toNat 0 ≤ laneMany p s.cards lane
    · rw [if_pos c2, if_pos c2]
      exact .inr (.inl ⟨c1.1, c1.2, rfl, rfl⟩)
    · rw [if_neg c2, if_neg c2]
      by_cases c3 : boundAt k lane ≤ kindMany p s.cards lane k.1
      · rw [if_pos c3, if_pos c3]
        exact .inr (.inr ⟨c1.1, c1.2, rfl, rfl⟩)
      · rw [if_neg c3, if_neg c3]
        exact .inl ⟨rfl, rfl⟩
  · rw [if_pos c1, if_pos c1]
    exact .inl ⟨rfl, rfl⟩
theorem ne_card (a c : Card) : cmpD .ne (cardD a) (cardD c) = some (decide (a ≠ c)) := by
  have e : D.eqv (cardD a) (cardD c) = decide (a = c) := by
    cases a; cases c
    rw [Bool.eq_iff_iff]
    simp [cardD, D.eqv, D.eqvL]
  have d1 : (cardD a).dat dp = true := dat_card
  have d2 : (cardD c).dat dp = true := dat_card
  simp [cmpD, eqD, d1, d2, e]
theorem came_sp (L : DueT T) (n : Nat) (p : Plan) (hp : PlanOk p) (s : Stand) (hs : StandOk p s) {c : Card} (hc : c ∈ s.cards) {k : Kind} (hk : kindAt p c.kind = some k) (pl : Int) (h0 : 0 ≤ pl) (h1 : pl ≤ k.2.1.length + 1) (b : Nat) (S : Store) :
    callN T (n + 4) "_law_came" false [planD p, standD s, cardD c, cardD ⟨c.name, c.kind, pl, false⟩] b S = .ok (dueD (match roomErr p s k (laneOf p k pl) with | .error e => .error e | .ok _ => .ok (withCard s ⟨c.name, c.kind, pl, false⟩))) S := by
  rw [call_is L.came rfl]
  obtain ⟨km, ke⟩ := kindAt_mem hk
  have e1 := lkind_sp L.law.kind (n + 2) p hp c.kind hk S.length S
  have e2 := llane_any L.law (n + 1) p hp (cardD ⟨c.name, c.kind, pl, false⟩) c.kind pl hk h0 h1 S.length S rfl rfl
  have ll := laneOf_lt hp km h0
  have cl := hs.cl
  have bl := hs.bl
  have e3 := room_sp L.law n p hp (.tup (s.bounds.map .int)) s.bounds (.inr rfl) hs.bl (.tup (s.cards.map cardD)) s.cards (by omega) hs.cm k km (laneOf p k pl) ll.2.2.2 S.length S (items_tup _ _)
  have le : (s.cards.filter fun a => decide (a ≠ c)).length ≤ 30 := Nat.le_trans (List.length_filter_le _ _) cl
  have fe : (s.cards.filter fun a => decide (a.name ≠ c.name)) = s.cards.filter fun a => decide (a ≠ c) := by
    refine List.filter_congr fun a ha => ?_
    by_cases e : a = c
    · simp [e]
    · have : a.name ≠ c.name := fun q => e (names_unique (lt_nodup hs.cn) ha hc q)
      simp [e, this]
  have e4 := sorted_cards ((s.cards.filter fun a => decide (a ≠ c)) ++ [⟨c.name, c.kind, pl, false⟩]) (by simp at le ⊢; omega)
  generalize laneOf p k pl = lane at e2 e3 ll ⊢
  rcases room_both p s k lane with ⟨r1, r2⟩ | ⟨c1, c2, r1, r2⟩ | ⟨c1, c2, r1, r2⟩
  · rw [r1]
    rw [r2] at e3
    simp at e4 le
    simp [Ulaw_came, Fn.start, e1, e2, e3, lcAll_q, ne_card, lim_ok (show s.cards.length ≤ 1000 by omega)]
    simp [bop_add_lst, e4, (show (s.cards.filter fun a => !decide (a = c)).length ≤ 1000 by omega)]
    simp [dueD, standD, withCard]
    simp at fe
    rw [fe]
  · rw [r1]
    rw [r2] at e3
    obtain ⟨i, rfl⟩ : ∃ i : Nat, lane = i := ⟨lane.toNat, by omega⟩
    have lt : i < p.lanes.length := by omega
    have lt2 : i < s.bounds.length := by omega
    have a1 : atD (s.bounds.map D.int) (i : Int) = some (.int (s.bounds.getD i 0)) := by
      rw [at_pos _ _ (by omega), List.getElem?_map, show (i : Int).toNat = i by omega, List.getD_eq_getElem?_getD, List.getElem?_eq_getElem lt2]
      rfl
    have a2 : atD (p.lanes.map laneD) (i : Int) = some (laneD (p.lanes.getD i ([], 0))) := by
      rw [at_pos _ _ (by omega), List.getElem?_map, show (i : Int).toNat = i by omega, List.getD_eq_getElem?_getD, List.getElem?_eq_getElem lt]
      rfl
    rw [show ((i : Nat) : Int).toNat = i by omega]
    generalize s.bounds.getD i 0 = x at a1 ⊢
    generalize p.lanes.getD i ([], 0) = ln at a2 ⊢
    simp [Ulaw_came, Fn.start, e1, e2, e3, fullT, a1, a2, dueD, dueE, wordOf, -at_pos]
  · rw [r1]
    rw [r2] at e3
    have mm := ll.2.2.2 ⟨c1, c2⟩
    obtain ⟨i, rfl⟩ : ∃ i : Nat, lane = i := ⟨lane.toNat, by omega⟩
    have lt : i < p.lanes.length := by omega
    have a2 : atD (p.lanes.map laneD) (i : Int) = some (laneD (p.lanes.getD i ([], 0))) := by
      rw [at_pos _ _ (by omega), List.getElem?_map, show (i : Int).toNat = i by omega, List.getD_eq_getElem?_getD, List.getElem?_eq_getElem lt]
      rfl
    have a4 := index_way k i mm
    have a5 := bound_idx (hp.km k km) mm
    have a4' : mbD .index (.way (k.2.1.map .int)) [.int (i : Int)] = some (.int (k.2.1.idxOf (i : Int) : Nat)) := a4
    rw [show ((i : Nat) : Int).toNat = i by omega]
    generalize p.lanes.getD i ([], 0) = ln at a2 ⊢
    have a2' := (idx_tup (p.lanes.map laneD) (i : Int)).trans a2
    generalize boundAt k i = x at a5 ⊢
    simp [Ulaw_came, Fn.start, e1, e2, e3, kindFullT, a2', a2, a4', a5, kindD, mbId, bmD, MB.writes, dueD, dueE, wordOf, -at_pos, -idx_tup]
theorem room_told {p : Plan} {s : Stand} {k : Kind} {lane : Int} {e : Refusal} (h : roomErr p s k lane = .error e) : Told e := by
  rcases room_both p s k lane with ⟨r, _⟩ | ⟨_, _, r, _⟩ | ⟨_, _, r, _⟩
  · rw [r] at h; cases h
  · rw [r] at h; cases h; exact .full _ _
  · rw [r] at h; cases h; exact .kindFull _ _ _
theorem fin_due {e : Refusal} (h : Told e) (S : Store) : fin false false S.length S (dueE e) = .ok (dueE e) S := by
  cases h <;> simp [dueE, wordOf]
theorem pull_told {p : Plan} {s : Stand} (hs : StandOk p s) {l : List Nat} {e : Refusal} (h : pullM p s l = .error e) : Told e := by
  unfold pullM at h
  split at h
  · cases h; exact .noCard _
  · rename_i c hc
    split at h
    · cases h; exact .out _
    · split at h
      · cases h; exact .blocked _
      · split at h
        · rename_i hk
          obtain ⟨k, hk', _⟩ := stand_kind hs (cardOf_name hc).1
          rw [hk] at hk'
          cases hk'
        · split at h
          · rename_i hw
            cases h
            unfold waitsErr at hw
            split at hw
            · cases hw; exact .waits _ _
            · cases hw
          · split at h
            · rename_i hr
              cases h
              exact room_told hr
            · cases h
theorem back_told {p : Plan} {s : Stand} (hs : StandOk p s) {l : List Nat} {e : Refusal} (h : backM p s l = .error e) : Told e := by
  unfold backM at h
  split at h
  · cases h; exact .noCard _
  · rename_i c hc
    split at h
    · cases h; exact .out _
    · split at h
      · cases h; exact .blocked _
      · split at h
        · cases h; exact .inYard _
        · split at h
          · rename_i hk
            obtain ⟨k, hk', _⟩ := stand_kind hs (cardOf_name hc).1
            rw [hk] at hk'
            cases hk'
          · split at h
            · rename_i hr
              cases h
              exact room_told hr
            · cases h
structure DueT2 (T : Text) : Prop where
  due : DueT T
  pull : Is T "_law_pull_due" Ulaw_pull_due
theorem found_one {s : Stand} (hn : (s.cards.map (·.name)).Pairwise (· < ·)) (l : List Nat) : (s.cards.filter fun a => decide (a.name = l)).head? = cardOf s l := by
  rw [List.head?_filter]
  unfold cardOf
  congr 1
  funext a
  rw [Bool.eq_iff_iff]
  simp
theorem out_cases {p : Plan} (hp : PlanOk p) {c : Card} (h : CardOk p c) : (isOut p c = true ∧ cardLane p c = p.lanes.length) ∨ (isOut p c = false ∧ cardLane p c < p.lanes.length) := by
  obtain ⟨k, hk, hle⟩ := h.kind
  have ll := laneOf_lt hp (kindAt_mem hk).1 h.pos
  have e : cardLane p c = laneOf p k c.place := by unfold cardLane; rw [hk]
  rw [h.isOut hp, e]
  by_cases q : (p.lanes.length : Int) ≤ laneOf p k c.place
  · exact .inl ⟨by simpa using q, by omega⟩
  · exact .inr ⟨by simpa using q, by omega⟩
theorem not_out {p : Plan} {s : Stand} (hs : StandOk p s) {c : Card} (h : c ∈ s.cards) : c.name ∈ outNames p s ↔ isOut p c = true := by
  constructor
  · intro m
    obtain ⟨d, hd, e⟩ := List.mem_map.mp m
    obtain ⟨hd, o⟩ := List.mem_filter.mp hd
    rw [← names_unique (lt_nodup hs.cn) hd h e]
    exact o
  · exact out_names_mem h rfl
theorem pull_due_sp (L : DueT2 T) (n : Nat) (p : Plan) (hp : PlanOk p) (s : Stand) (hs : StandOk p s) (l : List Nat) (b : Nat) (S : Store) :
    callN T (n + 5) "_law_pull_due" false [planD p, standD s, .str l] b S = .ok (dueD (pullM p s l)) S := by
  rw [call_is L.pull rfl]
  have cl := hs.cl
  have fo := found_one hs.cn l
  unfold pullM
  simp [Ulaw_pull_due, Fn.start, lcAll_q, lim_ok (show s.cards.length ≤ 1000 by omega)]
  generalize hf : (s.cards.filter fun a => decide (a.name = l)) = fs at fo ⊢
  cases fs with
  | nil =>
    rw [← fo]
    simp [dueD, dueE, wordOf, eq_nil_nil, eq_nil_cons]
  | cons c cs =>
    rw [← fo]
    simp only [List.head?_cons]
    have cm : c ∈ s.cards := (List.mem_filter.mp (hf ▸ List.mem_cons_self : c ∈ s.cards.filter fun a => decide (a.name = l))).1
    have cn : c.name = l := by
      have := (List.mem_filter.mp (hf ▸ List.mem_cons_self : c ∈ s.cards.filter fun a => decide (a.name = l))).2
      simpa using this
    clear hf fo
    obtain ⟨k, hk, km, ke, hle⟩ := stand_kind hs cm
    have co := hs.cm c cm
    have e1 := llane_sp L.due.law (n + 2) p hp c co S.length S
    rcases out_cases hp co with ⟨o1, o2⟩ | ⟨o1, o2⟩
    · simp [e1, o1, o2, cn, dueD, dueE, wordOf, eq_nil_nil, eq_nil_cons]
    · have o2' : (cardLane p c == (p.lanes.length : Int)) = false := by
        have : ¬ cardLane p c = p.lanes.length := by omega
        simpa using this
      cases hb : c.blocked with
      | true => simp [e1, o1, o2', hb, cn, dueD, dueE, wordOf, eq_nil_nil, eq_nil_cons]
      | false =>
        have pos := co.pos
        have le2 : c.place + 1 ≤ k.2.1.length + 1 := by
          rw [isOut_at hk] at o1
          simp only [decide_eq_false_iff_not] at o1
          omega
        have e2 := llane_any L.due.law (n + 2) p hp (cardD ⟨l, c.kind, c.place + 1, false⟩) c.kind (c.place + 1) hk (by omega) le2 S.length S rfl rfl
        have e3 := came_sp L.due n p hp s hs cm hk (c.place + 1) (by omega) le2 S.length S
        rw [cn] at e3
        simp only [hk]
        generalize laneOf p k (c.place + 1) = lane at e2 e3 ⊢
        rw [show cardD ⟨l, c.kind, c.place + 1, false⟩ = .tup [.str l, .str c.kind, .int (c.place + 1), .bl false] from rfl] at e2 e3
        simp [e1, o1, o2', hb, e2, eq_nil_cons]
        generalize hF : forS _ _ _ _ _ _ _ _ = F
        unfold waitsErr barred
        rcases for_find s.waits waitD (fun w => .tup [.str [87, 97, 105, 116, 115], .str l, .str w.other]) (fun w => decide (w.card = l ∧ w.lane ≤ lane ∧ w.other ∉ outNames p s)) (fun ρ => ∃ x y, ρ = [some (planD p), some (standD s), some (.str l), some (.lst (cardD c :: cs.map cardD)), some (cardD c), some (.tup [.str l, .str c.kind, .int (c.place + 1), .bl false]), some (.int lane), x, y]) rfl hF ⟨_, _, rfl⟩ (by
          rintro a ha _ ⟨x, y, rfl⟩
          refine ⟨_, asg_one _ _ _, fun Q hn hz => ?_⟩
          obtain ⟨w1, w2, w3, w4⟩ := hs.wm a ha
          obtain ⟨d, hd, dn⟩ := List.mem_map.mp w2
          have e4 := bars_sp L.due.law (n + 1) p hp (.tup (s.cards.map cardD)) s.cards (by omega) hs.cm (waitD a) a.other (c := d) (by have := cardOf_some hs.cn hd; rw [dn] at this; exact this) S.length S (items_tup _ _) rfl
          have e5 := not_out hs hd
          rw [dn] at e5
          by_cases c1 : a.card = l
          · by_cases c2 : a.lane ≤ lane
            · rcases out_cases hp (hs.cm d hd) with ⟨q1, q2⟩ | ⟨q1, q2⟩
              · have c3 : a.other ∈ outNames p s := e5.mpr q1
                have q3 : ¬ cardLane p d < p.lanes.length := by omega
                simp [c1, c2, e4, q3]
                exact hn _ ⟨_, _, rfl⟩ (by simp [c3])
              · have c3 : a.other ∉ outNames p s := fun h => by rw [e5.mp h] at q1; cases q1
                simp [c1, c2, e4, q2]
                exact hz (by simp [c1, c2, c3])
            · simp [c1, c2]
              exact hn _ ⟨_, _, rfl⟩ (by simp [c2])
          · have c1' : (a.card == l) = false := by simpa using c1
            simp [c1']
            exact hn _ ⟨_, _, rfl⟩ (by simp [c1])) with ⟨a, h1, rfl⟩ | ⟨h1, ρ', rfl, x, y, rfl⟩
        · rw [h1]
          simp [dueD, dueE, wordOf, eq_nil_nil, eq_nil_cons]
        · rw [h1]
          cases hr : roomErr p s k lane with
          | error e =>
            rw [hr] at e3
            simp [e3, dueD, fin_due (room_told hr)]
          | ok _ =>
            rw [hr] at e3
            simp [e3, dueD]
structure DueT3 (T : Text) : Prop where
  due : DueT2 T
  back : Is T "_law_back_due" Ulaw_back_due
theorem back_due_sp (L : DueT3 T) (n : Nat) (p : Plan) (hp : PlanOk p) (s : Stand) (hs : StandOk p s) (l : List Nat) (b : Nat) (S : Store) :
    callN T (n + 5) "_law_back_due" false [planD p, standD s, .str l] b S = .ok (dueD (backM p s l)) S := by
  rw [call_is L.back rfl]
  have cl := hs.cl
  have fo := found_one hs.cn l
  unfold backM
  simp [Ulaw_back_due, Fn.start, lcAll_q, lim_ok (show s.cards.length ≤ 1000 by omega)]
  generalize hf : (s.cards.filter fun a => decide (a.name = l)) = fs at fo ⊢
  cases fs with
  | nil =>
    rw [← fo]
    simp [dueD, dueE, wordOf, eq_nil_nil, eq_nil_cons]
  | cons c cs =>
    rw [← fo]
    simp only [List.head?_cons]
    have cm : c ∈ s.cards := (List.mem_filter.mp (hf ▸ List.mem_cons_self : c ∈ s.cards.filter fun a => decide (a.name = l))).1
    have cn : c.name = l := by
      have := (List.mem_filter.mp (hf ▸ List.mem_cons_self : c ∈ s.cards.filter fun a => decide (a.name = l))).2
      simpa using this
    clear hf fo
    obtain ⟨k, hk, km, ke, hle⟩ := stand_kind hs cm
    have co := hs.cm c cm
    have e1 := llane_sp L.due.due.law (n + 2) p hp c co S.length S
    rcases out_cases hp co with ⟨o1, o2⟩ | ⟨o1, o2⟩
    · simp [e1, o1, o2, cn, dueD, dueE, wordOf, eq_nil_nil, eq_nil_cons]
    · have o2' : (cardLane p c == (p.lanes.length : Int)) = false := by
        have : ¬ cardLane p c = p.lanes.length := by omega
        simpa using this
      cases hb : c.blocked with
      | true => simp [e1, o1, o2', hb, cn, dueD, dueE, wordOf, eq_nil_nil, eq_nil_cons]
      | false =>
        have pos := co.pos
        by_cases h0 : c.place = 0
        · simp [e1, o1, o2', hb, h0, dueD, dueE, wordOf, eq_nil_nil, eq_nil_cons]
        · have e3 := came_sp L.due.due n p hp s hs cm hk (c.place - 1) (by omega) (by omega) S.length S
          rw [cn] at e3
          simp only [hk]
          rw [show cardD ⟨l, c.kind, c.place - 1, false⟩ = .tup [.str l, .str c.kind, .int (c.place - 1), .bl false] from rfl] at e3
          generalize laneOf p k (c.place - 1) = lane at e3 ⊢
          have h0' : (c.place == 0) = false := by simpa using h0
          cases hr : roomErr p s k lane with
          | error e =>
            rw [hr] at e3
            simp [e1, o1, o2', hb, h0, h0', e3, eq_nil_cons, dueD, fin_due (room_told hr)]
          | ok _ =>
            rw [hr] at e3
            simp [e1, o1, o2', hb, h0, h0', e3, eq_nil_cons, dueD]
end
end CL
namespace CL
open PySem PySem.Spec PyProof.Rows L2
def Short (e : Refusal) : Prop := ∀ d ∈ e.2.2, d.small = true
theorem short_str {l : List Nat} (h : l.length ≤ 1000) : (D.str l).small = true := by
  simp only [D.small, decide_eq_true_eq]
  exact h
theorem lane_nm {p : Plan} (hp : PlanOk p) (i : Nat) : ((p.lanes.getD i ([], 0)).1).length ≤ 1000 := by
  rw [List.getD_eq_getElem?_getD]
  cases h : p.lanes[i]? with
  | none => simp
  | some x =>
    have := nm_len (hp.lm x (List.mem_of_getElem? h)).1
    simp only [Option.getD_some]
    omega
theorem room_short {p : Plan} (hp : PlanOk p) {s : Stand} {k : Kind} (hk : k ∈ p.kinds) {lane : Int} {e : Refusal} (h : roomErr p s k lane = .error e) : Short e := by
  have kn := nm_len (hp.km k hk).nm
  rcases room_both p s k lane with ⟨r, _⟩ | ⟨_, _, r, _⟩ | ⟨_, _, r, _⟩
  · rw [r] at h; cases h
  · rw [r] at h
    cases h
    intro d hd
    simp only [List.mem_cons, List.not_mem_nil, or_false] at hd
    rcases hd with rfl | rfl
    · rfl
    · exact short_str (lane_nm hp _)
  · rw [r] at h
    cases h
    intro d hd
    simp only [List.mem_cons, List.not_mem_nil, or_false] at hd
    rcases hd with rfl | rfl | rfl
    · rfl
    · exact short_str (by omega)
    · exact short_str (lane_nm hp _)
theorem short_one {C : String} {fs : List String} {l : List Nat} (h : l.length ≤ 1000) : Short (C, fs, [.str l]) := by
  intro d hd
  simp only [List.mem_cons, List.not_mem_nil, or_false] at hd
  rw [hd]
  exact short_str h
theorem pull_short {p : Plan} (hp : PlanOk p) {s : Stand} (hs : StandOk p s) {l : List Nat} (hl : l.length ≤ 1000) {e : Refusal} (h : pullM p s l = .error e) : Short e := by
  unfold pullM at h
  split at h
  · cases h; exact short_one hl
  · rename_i c hc
    have cn := (cardOf_name hc).2
    split at h
    · cases h; exact short_one (by rw [cn]; exact hl)
    · split at h
      · cases h; exact short_one (by rw [cn]; exact hl)
      · split at h
        · rename_i hk
          obtain ⟨k, hk', _⟩ := stand_kind hs (cardOf_name hc).1
          rw [hk] at hk'
          cases hk'
        · rename_i k hk
          split at h
          · rename_i hw
            cases h
            unfold waitsErr barred at hw
            split at hw
            · rename_i w hb
              cases hw
              have wm := List.mem_of_find?_eq_some hb
              obtain ⟨d, hd, dn⟩ := List.mem_map.mp (hs.wm w wm).2.1
              have := nm_len (hs.cm d hd).nm
              intro d hd
              simp only [List.mem_cons, List.not_mem_nil, or_false] at hd
              rcases hd with rfl | rfl
              · exact short_str (by rw [← dn]; omega)
              · exact short_str hl
            · cases hw
          · split at h
            · rename_i hr
              cases h
              exact room_short hp (kindAt_mem hk).1 hr
            · cases h
theorem back_short {p : Plan} (hp : PlanOk p) {s : Stand} (hs : StandOk p s) {l : List Nat} (hl : l.length ≤ 1000) {e : Refusal} (h : backM p s l = .error e) : Short e := by
  unfold backM at h
  split at h
  · cases h; exact short_one hl
  · rename_i c hc
    have cn := (cardOf_name hc).2
    split at h
    · cases h; exact short_one (by rw [cn]; exact hl)
    · split at h
      · cases h; exact short_one (by rw [cn]; exact hl)
      · split at h
        · cases h; exact short_one hl
        · split at h
          · rename_i hk
            obtain ⟨k, hk', _⟩ := stand_kind hs (cardOf_name hc).1
            rw [hk] at hk'
            cases hk'
          · rename_i k hk
            split at h
            · rename_i hr
              cases h
              exact room_short hp (kindAt_mem hk).1 hr
            · cases h
theorem due_dat {e : Refusal} (h : Told e) (n : Nat) : D.dat (n + 1 + 1) (dueE e) = true := by
  cases h <;> simp [dueE, wordOf, D.dat, D.datL]
theorem due_small {e : Refusal} (h : Told e) (hs : Short e) : (dueE e).small = true := by
  have w : (wordOf e.1).small = true := by
    unfold wordOf
    split
    · rfl
    · split
      · rfl
      · split
        · rfl
        · split
          · rfl
          · split
            · rfl
            · split <;> rfl
  refine small_tup ?_ ?_
  · cases h <;> simp
  · refine smallL_all.mpr fun d hd => ?_
    rcases List.mem_cons.mp hd with rfl | hd
    · exact w
    · exact hs d (List.mem_reverse.mp hd)
theorem due_same {T : Text} (L : Is T "_law_same" Ulaw_same) {p : Plan} (hp : PlanOk p) (n : Nat) (r : Except Refusal Stand) (h1 : ∀ e, r = .error e → Told e ∧ Short e) (h2 : ∀ s, r = .ok s → StandOk p s) (b : Nat) (S : Store) :
    callN T (n + 4) "_law_same" false [dueD r, dueD r] b S = .ok (.bl true) S := by
  cases r with
  | ok s => exact same_yes L 3 n (standD s) (standD s) (Like.refl 3 _ dat_stand) dat_stand dat_stand (by decide) (stand_small hp (h2 s rfl)) b S
  | error e =>
    obtain ⟨t, sh⟩ := h1 e rfl
    exact same_yes L 3 n (dueE e) (dueE e) (Like.refl 3 _ (due_dat t 1)) (due_dat t 1) (due_dat t 1) (by decide) (due_small t sh) b S
theorem pull_same {T : Text} (L : Is T "_law_same" Ulaw_same) {p : Plan} (hp : PlanOk p) {s : Stand} (hs : StandOk p s) {l : List Nat} (hl : l.length ≤ 1000) (n : Nat) (b : Nat) (S : Store) : callN T (n + 4) "_law_same" false [dueD (pullM p s l), dueD (pullM p s l)] b S = .ok (.bl true) S :=
  due_same L hp n _ (fun e h => ⟨pull_told hs h, pull_short hp hs hl h⟩) (fun s' h => (pullM_ok hp hs h).1) b S
theorem back_same {T : Text} (L : Is T "_law_same" Ulaw_same) {p : Plan} (hp : PlanOk p) {s : Stand} (hs : StandOk p s) {l : List Nat} (hl : l.length ≤ 1000) (n : Nat) (b : Nat) (S : Store) : callN T (n + 4) "_law_same" false [dueD (backM p s l), dueD (backM p s l)] b S = .ok (.bl true) S :=
  due_same L hp n _ (fun e h => ⟨back_told hs h, back_short hp hs hl h⟩) (fun s' h => (backM_ok hp hs h).1) b S
theorem ne_stand (s : Stand) : cmpD .ne (standD s) (standD s) = some false := by
  have d : (standD s).dat dp = true := dat_stand
  simp [cmpD, eqD, d, eqv_refl _ _ d]
end CL
namespace CL
open PySem PySem.Spec PyProof.Rows L2
def sortW (ws : List Wt) : List Wt := ws.mergeSort fun a b => leD (waitD a) (waitD b)
theorem sortW_D (ws : List Wt) (hl : ws.length ≤ 1000) : sortD (ws.map waitD) = some ((sortW ws).map waitD) :=
  sortD_map waitD (fun w => encD (waitD w)) _ (fun _ => dat_wait) (fun w => (enc_wait w).1) alike_wait (.inl fun w => (enc_wait w).2) (fun _ _ => rfl) ws hl
theorem sortW_perm (ws : List Wt) : (sortW ws).Perm ws := List.mergeSort_perm _ _
theorem sortW_lt {ws : List Wt} (hn : ws.Nodup) : (sortW ws).Pairwise wLt := by
  have tl := PySem.W.sortLe_total (PyProof.Rows.listOrd PyProof.Rows.itemOrd) false fun w : Wt => PySem.W.keyToks (encD (waitD w))
  have h1 := List.pairwise_mergeSort (le := fun a b : Wt => leD (waitD a) (waitD b)) (fun a b c h1 h2 => by
    rw [le_wait_eq] at *
    exact tl.trans a b c h1 h2) (fun a b => by
    rw [Bool.or_eq_true, le_wait_eq, le_wait_eq]
    exact tl.total a b) ws
  have h2 : (sortW ws).Nodup := (sortW_perm ws).nodup_iff.mpr hn
  exact (h1.and h2).imp fun {a b} h => wLt_of h.1 h.2
theorem wLt_irrefl {w : Wt} : ¬ wLt w w := by
  intro h
  have h2 : leD (waitD w) (waitD w) = false := by
    unfold leD
    unfold wLt at h
    rw [h]
    rfl
  have tl := PySem.W.sortLe_total (PyProof.Rows.listOrd PyProof.Rows.itemOrd) false fun w : Wt => PySem.W.keyToks (encD (waitD w))
  have h3 : PySem.W.dataLe false encD (waitD w) (waitD w) = true := by rcases tl.total w w with h | h <;> exact h
  rw [le_wait_eq, h3] at h2
  cases h2
theorem wLt_asymm {v w : Wt} (h : wLt v w) (h' : wLt w v) : False := by
  have a : ∀ {v w : Wt}, wLt v w → leD (waitD w) (waitD v) = false := by
    intro v w h
    unfold leD
    unfold wLt at h
    rw [h]
    rfl
  have tl := PySem.W.sortLe_total (PyProof.Rows.listOrd PyProof.Rows.itemOrd) false fun w : Wt => PySem.W.keyToks (encD (waitD w))
  have q1 := a h
  have q2 := a h'
  rw [le_wait_eq] at q1 q2
  have h3 : PySem.W.dataLe false encD (waitD v) (waitD w) = true ∨ PySem.W.dataLe false encD (waitD w) (waitD v) = true := tl.total v w
  rcases h3 with h3 | h3
  · rw [h3] at q2; cases q2
  · rw [h3] at q1; cases q1
theorem sorted_waits (ws : List Wt) (hl : ws.length ≤ 1000) : fbD .sorted [.lst (ws.map waitD)] = some (.lst ((sortW ws).map waitD)) := by
  show (sortD (ws.map waitD)).map D.lst = _
  rw [sortW_D ws hl]
  rfl
theorem waits_eq {vs ws : List Wt} (hv : vs.Pairwise wLt) (hw : ws.Pairwise wLt) (pm : vs.Perm ws) : vs = ws :=
  List.Perm.eq_of_pairwise (le := wLt) (fun a b _ _ h1 h2 => (wLt_asymm h1 h2).elim) hv hw pm
theorem wLt_nodup {ws : List Wt} (h : ws.Pairwise wLt) : ws.Nodup := h.imp fun {a b} q e => by subst e; exact wLt_irrefl q
theorem ne_wait (a c : Wt) : cmpD .ne (waitD a) (waitD c) = some (decide (a ≠ c)) := by
  have e : D.eqv (waitD a) (waitD c) = decide (a = c) := by
    cases a; cases c
    rw [Bool.eq_iff_iff]
    simp [waitD, D.eqv, D.eqvL]
  have d1 : (waitD a).dat dp = true := dat_wait
  have d2 : (waitD c).dat dp = true := dat_wait
  simp [cmpD, eqD, d1, d2, e]
def withWait (s : Stand) (w : Wt) : Stand := ⟨s.bounds, s.cards, sortW ((s.waits.filter fun v => decide (v ≠ w)) ++ [w])⟩
def waitM (p : Plan) (s : Stand) (w : Wt) : Except Refusal Stand := match cardOf s w.card with
  | none => .error ("NoCard", ["card"], [.str w.card])
  | some c => match cardOf s w.other with
    | none => .error ("NoCard", ["card"], [.str w.other])
    | some d => if ¬ (0 ≤ w.lane ∧ w.lane ≤ p.lanes.length) then .error ("NoLane", ["lane"], [.int w.lane]) else
      if w.lane ≤ cardLane p c ∧ cardLane p d < p.lanes.length then .error ("Past", ["card"], [.str w.card]) else
      if (s.waits.filter fun v => decide (v ≠ w)).length = 60 then .error ("TooMany", [], []) else .ok (withWait s w)
def leftW (s : Stand) (l m : List Nat) : List Wt := s.waits.filter fun v => decide (v.card ≠ l ∨ v.other ≠ m)
def letM (s : Stand) (l m : List Nat) : Except Refusal Stand := match cardOf s l with
  | none => .error ("NoCard", ["card"], [.str l])
  | some _ => match cardOf s m with
    | none => .error ("NoCard", ["card"], [.str m])
    | some _ => if (leftW s l m).length = s.waits.length then .error ("NoWait", ["card"], [.str l]) else .ok ⟨s.bounds, s.cards, leftW s l m⟩
structure WaitT (T : Text) : Prop where
  lane : LaneT T
  card : CardT T
  lane_of : Is T "lane_of" P_lane_of
  with_wait : Is T "with_wait" P_with_wait
  noLane : T.ex "NoLane" = some (some ["lane"])
  past : T.ex "Past" = some (some ["card"])
  tooMany : T.ex "TooMany" = some none
  most : T.con "MOST_WAITS" = some (.int 60)
section
variable {T : Text}
theorem raise_text {n : Nat} {ρ : Env} {S : Store} {C : String} (hn : 2 ≤ n) (hx : T.ex C = some none) (l : List Nat) : raiseR (.ok [.str l] S) C (ctxN T n) ρ = .err C [] [] ρ S := by
  unfold raiseR
  rw [if_pos (show (ctxN T n).deep = true from decide_eq_true hn)]
  show (match exFields (T.ex C) [.str l] with | some (ns, fs) => RS.err C ns fs ρ S | none => .bad) = _
  rw [hx]
  rfl
theorem with_wait_sp (L : WaitT T) (n : Nat) (p : Plan) (hp : PlanOk p) (s : Stand) (hs : StandOk p s) (w : Wt) (b : Nat) (S : Store) : callN T (n + 7) "with_wait" false [planD p, standD s, .str w.card, .int w.lane, .str w.other] b S = told standD (waitM p s w) S := by
  rw [call_is L.with_wait rfl]
  have cl := hs.cl
  have wl := hs.wl
  have e1 := lane_of_sp L.lane L.card L.lane_of n p s w.card hs.fits S.length S
  have e2 := lane_of_sp L.lane L.card L.lane_of n p s w.other hs.fits S.length S
  unfold waitM
  cases h1 : cardOf s w.card with
  | none =>
    rw [h1] at e1
    simp [P_with_wait, Fn.start, e1]
  | some c =>
    rw [h1] at e1
    cases h2 : cardOf s w.other with
    | none =>
      rw [h2] at e2
      simp [P_with_wait, Fn.start, e1, e2]
    | some d =>
      rw [h2] at e2
      have le : (s.waits.filter fun v => decide (v ≠ w)).length ≤ 60 := Nat.le_trans (List.length_filter_le _ _) wl
      have e3 := sorted_waits ((s.waits.filter fun v => decide (v ≠ w)) ++ [w]) (by simp at le ⊢; omega)
      have wd : waitD w = .tup [.str w.card, .int w.lane, .str w.other] := rfl
      have nw := fun v => ne_wait v w
      rw [wd] at nw
      by_cases c1 : 0 ≤ w.lane
      · by_cases c2 : w.lane ≤ p.lanes.length
        · have c3 : ¬¬(0 ≤ w.lane ∧ w.lane ≤ p.lanes.length) := fun h => h ⟨c1, c2⟩
          simp only [if_neg c3]
          by_cases c4 : w.lane ≤ cardLane p c
          · by_cases c5 : cardLane p d < p.lanes.length
            · simp [P_with_wait, Fn.start, e1, e2, c1, c2, c4, c5, raise_one (show 2 ≤ n + 6 by omega) L.past]
            · simp only [c5, and_false, if_false]
              simp [P_with_wait, Fn.start, e1, e2, c1, c2, c4, c5, lcAll_q, nw, lim_ok (show s.waits.length ≤ 1000 by omega), L.most]
              by_cases c6 : (s.waits.filter fun a => !decide (a = w)).length = 60
              · rw [c6]
                simp [raise_text (show 2 ≤ n + 6 by omega) L.tooMany]
              · have c6' : (((s.waits.filter fun a => !decide (a = w)).length : Int) == 60) = false := by simpa using (by omega : ¬ ((s.waits.filter fun a => !decide (a = w)).length : Int) = 60)
                simp at e3 le
                rw [wd] at e3
                simp [c6, c6', bop_add_lst, e3, (show (s.waits.filter fun a => !decide (a = w)).length ≤ 1000 by omega)]
                simp [standD, withWait]
          · simp only [c4, false_and, if_false]
            simp [P_with_wait, Fn.start, e1, e2, c1, c2, c4, lcAll_q, nw, lim_ok (show s.waits.length ≤ 1000 by omega), L.most]
            by_cases c6 : (s.waits.filter fun a => !decide (a = w)).length = 60
            · rw [c6]
              simp [raise_text (show 2 ≤ n + 6 by omega) L.tooMany]
            · have c6' : (((s.waits.filter fun a => !decide (a = w)).length : Int) == 60) = false := by simpa using (by omega : ¬ ((s.waits.filter fun a => !decide (a = w)).length : Int) = 60)
              simp at e3 le
              rw [wd] at e3
              simp [c6, c6', bop_add_lst, e3, (show (s.waits.filter fun a => !decide (a = w)).length ≤ 1000 by omega)]
              simp [standD, withWait]
        · simp [P_with_wait, Fn.start, e1, e2, c1, c2, raise_one (show 2 ≤ n + 6 by omega) L.noLane]
      · simp [P_with_wait, Fn.start, e1, e2, c1, raise_one (show 2 ≤ n + 6 by omega) L.noLane]
structure LetT (T : Text) : Prop where
  card : CardT T
  without : Is T "without_waits" P_without_waits
  noWait : T.ex "NoWait" = some (some ["card"])
theorem let_waits_sp (L : LetT T) (n : Nat) (p : Plan) (s : Stand) (hs : StandOk p s) (l m : List Nat) (b : Nat) (S : Store) : callN T (n + 4) "without_waits" false [standD s, .str l, .str m] b S = told standD (letM s l m) S := by
  rw [call_is L.without rfl]
  have wl := hs.wl
  have e1 := card_of_sp L.card n s l S.length S
  have e2 := card_of_sp L.card n s m S.length S
  unfold letM
  cases h1 : cardOf s l with
  | none =>
    rw [h1] at e1
    simp [P_without_waits, Fn.start, e1]
  | some c =>
    rw [h1] at e1
    cases h2 : cardOf s m with
    | none =>
      rw [h2] at e2
      simp [P_without_waits, Fn.start, e1, e2]
    | some d =>
      rw [h2] at e2
      simp [P_without_waits, Fn.start, e1, e2, lcAll_q]
      rw [lcQ_in s.waits _ (fun a S' => if a.card ≠ l ∨ a.other ≠ m then .ok (some (waitD a)) S' else .ok none S') fun a ha S' => by
        by_cases q1 : a.card = l
        · by_cases q2 : a.other = m
          · simp [q1, q2]
          · have q2' : (a.other == m) = false := by simpa using q2
            simp [q1, q2, q2']
        · have q1' : (a.card == l) = false := by simpa using q1
          simp [q1, q1']]
      simp only [lcQ_if _ _ _ (lim_ok (show s.waits.length ≤ 1000 by omega))]
      rw [show s.waits.filter (fun v => decide (v.card ≠ l ∨ v.other ≠ m)) = leftW s l m from rfl]
      generalize leftW s l m = fs
      by_cases q : fs.length = s.waits.length
      · simp [q, raise_one (show 2 ≤ n + 3 by omega) L.noWait]
      · have q' : ((fs.length : Int) == (s.waits.length : Int)) = false := by simpa using q
        simp [q, q']
        rfl
end
end CL
namespace CL
open PySem PySem.Spec PyProof.Rows L2
theorem waits_sub {p : Plan} {s : Stand} (hs : StandOk p s) {V : List Wt} (hl : V.length ≤ 60) (hp : V.Pairwise wLt) (sub : ∀ w ∈ V, w ∈ s.waits) : StandOk p ⟨s.bounds, s.cards, V⟩ where
  bl := hs.bl
  bd := hs.bd
  cl := hs.cl
  cn := hs.cn
  cm := hs.cm
  wl := hl
  wp := hp
  wm := fun w hw => hs.wm w (sub w hw)
  bh := hs.bh
  kh := hs.kh
  wh := fun w hw => hs.wh w (sub w hw)
theorem nodup_len {V W : List Wt} (h : V.Nodup) (sub : ∀ w ∈ V, w ∈ W) : V.length ≤ W.length := List.Nodup.length_le_of_subset h sub
theorem wait_on {p : Plan} (hp : PlanOk p) {s : Stand} (hs : StandOk p s) {V : List Wt} (hn : V.Nodup) (sub : ∀ w ∈ V, w ∈ s.waits) {w : Wt} (hw : w ∈ s.waits) : waitM p ⟨s.bounds, s.cards, V⟩ w = .ok ⟨s.bounds, s.cards, sortW ((V.filter fun v => decide (v ≠ w)) ++ [w])⟩ := by
  obtain ⟨w1, w2, w3, w4⟩ := hs.wm w hw
  obtain ⟨c, hc, cn⟩ := List.mem_map.mp w1
  obtain ⟨d, hd, dn⟩ := List.mem_map.mp w2
  have e1 : cardOf ⟨s.bounds, s.cards, V⟩ w.card = some c := by
    have := cardOf_some hs.cn hc
    rw [cn] at this
    exact this
  have e2 : cardOf ⟨s.bounds, s.cards, V⟩ w.other = some d := by
    have := cardOf_some hs.cn hd
    rw [dn] at this
    exact this
  have n1 : ¬¬(0 ≤ w.lane ∧ w.lane ≤ p.lanes.length) := fun h => h ⟨w3, w4⟩
  have n2 : ¬(w.lane ≤ cardLane p c ∧ cardLane p d < p.lanes.length) := by
    rintro ⟨q1, q2⟩
    rcases out_cases hp (hs.cm d hd) with ⟨o1, o2⟩ | ⟨o1, o2⟩
    · omega
    · have no := not_out hs hd
      rw [dn] at no
      have := hs.wh w hw c hc cn fun h => by rw [no.mp h] at o1; cases o1
      omega
  have n3 : ¬ (V.filter fun v => decide (v ≠ w)).length = 60 := by
    have nd : ((V.filter fun v => decide (v ≠ w)) ++ [w]).Nodup := by
      rw [List.nodup_append]
      refine ⟨hn.sublist List.filter_sublist, by simp, ?_⟩
      intro a ha b hb e
      rw [List.mem_singleton.mp hb] at e
      have := (List.mem_filter.mp ha).2
      simp [e] at this
    have := nodup_len nd (W := s.waits) fun v hv => by
      rcases List.mem_append.mp hv with h | h
      · exact sub v (List.mem_filter.mp h).1
      · rw [List.mem_singleton.mp h]; exact hw
    have wl := hs.wl
    rw [List.length_append, List.length_singleton] at this
    omega
  unfold waitM
  simp only [e1, e2, if_neg n1, if_neg n2, if_neg n3]
  rfl
def wordW (C : String) : D :=
  if C = "NoCard" then .str [78, 111, 67, 97, 114, 100] else if C = "NoLane" then .str [78, 111, 76, 97, 110, 101] else if C = "Past" then .str [80, 97, 115, 116] else
  if C = "TooMany" then .str [84, 111, 111, 77, 97, 110, 121] else .str [78, 111, 87, 97, 105, 116]
def dueF (e : Refusal) : D := .tup (wordW e.1 :: e.2.2.reverse)
def dueW : Except Refusal Stand → D
  | .ok s => standD s
  | .error e => dueF e
inductive ToldW : Refusal → Prop
  | noCard (l : List Nat) : ToldW ("NoCard", ["card"], [.str l])
  | noLane (x : Int) : ToldW ("NoLane", ["lane"], [.int x])
  | past (l : List Nat) : ToldW ("Past", ["card"], [.str l])
  | tooMany : ToldW ("TooMany", [], [])
  | noWait (l : List Nat) : ToldW ("NoWait", ["card"], [.str l])
def names5 : List String := ["NoCard", "NoLane", "Past", "TooMany", "NoWait"]
structure RefW (T : Text) : Prop where
  refusal : Is T "_law_wait_refusal" Ulaw_wait_refusal
  isx : ∀ X ∈ names5, ∀ C ∈ names5, T.isx X C = some (X == C)
  value : ∀ X ∈ names5, T.isx X "ValueError" = some true
  lane : ∀ X ∈ names5, T.isx X "LaneError" = some true
section
variable {T : Text}
theorem RefW.one (R : RefW T) {X : String} (h : X ∈ names5) {C : String} (hC : C ∈ names5) : isxT T X [C] = some (X == C) := by
  unfold isxT
  rw [R.isx X h C hC]
  cases (X == C) <;> rfl
theorem RefW.all (R : RefW T) (X : String) (h : X ∈ names5) : isxT T X ["NoCard"] = some (X == "NoCard") ∧ isxT T X ["NoLane"] = some (X == "NoLane") ∧ isxT T X ["Past"] = some (X == "Past") ∧ isxT T X ["TooMany"] = some (X == "TooMany") ∧
    isxT T X ["NoWait"] = some (X == "NoWait") ∧ isxT T X ["ValueError"] = some true := by
  refine ⟨R.one h (by decide), R.one h (by decide), R.one h (by decide), R.one h (by decide), R.one h (by decide), ?_⟩
  unfold isxT
  rw [R.value X h]
theorem bools5_count (a b c d e : Bool) : mbD .count (.lst [.bl a, .bl b, .bl c, .bl d, .bl e]) [.bl true] = some (.int ([a, b, c, d, e].count true : Nat)) := by
  cases a <;> cases b <;> cases c <;> cases d <;> cases e <;> rfl
theorem bools5_index (a b c d e : Bool) (h : [a, b, c, d, e].count true = 1) : mbD .index (.lst [.bl a, .bl b, .bl c, .bl d, .bl e]) [.bl true] = some (.int ([a, b, c, d, e].idxOf true : Nat)) := by
  revert h
  cases a <;> cases b <;> cases c <;> cases d <;> cases e <;> intro h <;> first | rfl | exact absurd h (by decide)
theorem refusalW_sp (R : RefW T) (n : Nat) (e : Refusal) (h : ToldW e) (b : Nat) (S : Store) : (callsN T (n + 1)).hcall "_law_wait_refusal" e b S = .ok (dueF e) S := by
  rw [hcall_is R.refusal rfl (by decide)]
  cases h with
  | noCard l =>
    obtain ⟨i1, i2, i3, i4, i5, i8⟩ := R.all "NoCard" (by decide)
    simp [Ulaw_wait_refusal, isx_any, i1, i2, i3, i4, i5, i8, fldD, bop_add_lst, dueF, wordW, kindD, mbId, bmD, MB.writes, bools5_count, bools5_index, List.idxOf_cons, CL.R.calm]
  | noLane x =>
    obtain ⟨i1, i2, i3, i4, i5, i8⟩ := R.all "NoLane" (by decide)
    simp [Ulaw_wait_refusal, isx_any, i1, i2, i3, i4, i5, i8, fldD, bop_add_lst, dueF, wordW, kindD, mbId, bmD, MB.writes, bools5_count, bools5_index, List.idxOf_cons, CL.R.calm]
  | past l =>
    obtain ⟨i1, i2, i3, i4, i5, i8⟩ := R.all "Past" (by decide)
    simp [Ulaw_wait_refusal, isx_any, i1, i2, i3, i4, i5, i8, fldD, bop_add_lst, dueF, wordW, kindD, mbId, bmD, MB.writes, bools5_count, bools5_index, List.idxOf_cons, CL.R.calm]
  | tooMany =>
    obtain ⟨i1, i2, i3, i4, i5, i8⟩ := R.all "TooMany" (by decide)
    simp [Ulaw_wait_refusal, isx_any, i1, i2, i3, i4, i5, i8, fldD, bop_add_lst, dueF, wordW, kindD, mbId, bmD, MB.writes, bools5_count, bools5_index, List.idxOf_cons, CL.R.calm]
  | noWait l =>
    obtain ⟨i1, i2, i3, i4, i5, i8⟩ := R.all "NoWait" (by decide)
    simp [Ulaw_wait_refusal, isx_any, i1, i2, i3, i4, i5, i8, fldD, bop_add_lst, dueF, wordW, kindD, mbId, bmD, MB.writes, bools5_count, bools5_index, List.idxOf_cons, CL.R.calm]
theorem fin_dueF {e : Refusal} (h : ToldW e) (S : Store) : fin false false S.length S (dueF e) = .ok (dueF e) S := by
  cases h <;> simp [dueF, wordW]
theorem dueF_dat {e : Refusal} (h : ToldW e) (n : Nat) : D.dat (n + 1 + 1) (dueF e) = true := by
  cases h <;> simp [dueF, wordW, D.dat, D.datL]
theorem dueF_small {e : Refusal} (h : ToldW e) (hs : Short e) : (dueF e).small = true := by
  have w : (wordW e.1).small = true := by
    unfold wordW
    split
    · rfl
    · split
      · rfl
      · split
        · rfl
        · split <;> rfl
  refine small_tup ?_ ?_
  · cases h <;> simp
  · refine smallL_all.mpr fun d hd => ?_
    rcases List.mem_cons.mp hd with rfl | hd
    · exact w
    · exact hs d (List.mem_reverse.mp hd)
theorem dueF_same (L : Is T "_law_same" Ulaw_same) {p : Plan} (hp : PlanOk p) (n : Nat) (r : Except Refusal Stand) (h1 : ∀ e, r = .error e → ToldW e ∧ Short e) (h2 : ∀ s, r = .ok s → StandOk p s) (b : Nat) (S : Store) :
    callN T (n + 4) "_law_same" false [dueW r, dueW r] b S = .ok (.bl true) S := by
  cases r with
  | ok s => exact same_yes L 3 n (standD s) (standD s) (Like.refl 3 _ dat_stand) dat_stand dat_stand (by decide) (stand_small hp (h2 s rfl)) b S
  | error e =>
    obtain ⟨t, sh⟩ := h1 e rfl
    exact same_yes L 3 n (dueF e) (dueF e) (Like.refl 3 _ (dueF_dat t 1)) (dueF_dat t 1) (dueF_dat t 1) (by decide) (dueF_small t sh) b S
end
theorem let_told {s : Stand} {l m : List Nat} {e : Refusal} (h : letM s l m = .error e) : ToldW e := by
  unfold letM at h
  split at h
  · cases h; exact .noCard _
  · split at h
    · cases h; exact .noCard _
    · split at h
      · cases h; exact .noWait _
      · cases h
theorem let_short {s : Stand} {l m : List Nat} (hl : l.length ≤ 1000) (hm : m.length ≤ 1000) {e : Refusal} (h : letM s l m = .error e) : Short e := by
  unfold letM at h
  split at h
  · cases h; exact short_one hl
  · split at h
    · cases h; exact short_one hm
    · split at h
      · cases h; exact short_one hl
      · cases h
theorem leftW_sub (s : Stand) (l m : List Nat) : (leftW s l m).Sublist s.waits := List.filter_sublist
theorem let_ok {p : Plan} {s s' : Stand} (hs : StandOk p s) {l m : List Nat} (h : letM s l m = .ok s') : s' = ⟨s.bounds, s.cards, leftW s l m⟩ ∧ StandOk p s' := by
  unfold letM at h
  split at h
  · cases h
  · split at h
    · cases h
    · split at h
      · cases h
      · cases h
        have sb := leftW_sub s l m
        exact ⟨rfl, waits_sub hs (Nat.le_trans sb.length_le hs.wl) (hs.wp.sublist sb) fun w hw => sb.subset hw⟩
theorem eq_stand (s : Stand) : cmpD .eq (standD s) (standD s) = some true := by
  have d : (standD s).dat dp = true := dat_stand
  simp [cmpD, eqD, d, eqv_refl _ _ d]
theorem ne_two (a b l m : List Nat) : cmpD .ne (.tup [.str a, .str b]) (.tup [.str l, .str m]) = some (decide (a ≠ l ∨ b ≠ m)) := by
  have d1 : (D.tup [.str a, .str b]).dat dp = true := rfl
  have d2 : (D.tup [.str l, .str m]).dat dp = true := rfl
  simp only [cmpD, eqD, d1, d2, Bool.and_self, if_true, Option.map_some, Option.some.injEq]
  simp only [D.eqv, D.eqvL, Bool.and_true]
  by_cases e1 : a = l
  · by_cases e2 : b = m <;> simp [e1, e2]
  · simp [e1]
end CL
namespace CL
open PySem PySem.Spec PyProof.Rows L2
namespace K14
abbrev prog : Program := PySem.Challenge.pw_cardlanes_k14_without_waits
def f__law_plan : Fn := { np := 1, names := ["_law_held", "_law_names", "_law_lanes", "_law_k", "_law_shift", "_law_kinds", "_law_way", "_law_bounds", "_law_lane_here"], body := (.cons (.set (.one 1) (.call "_law_words" false (.cons (.var 0) (.cons (.int 12) .nil)))) (.cons (.set (.one 2) (.newl .nil)) (.cons (.for_ (.one 3) (.range (.cons (.bop .add (.int 1) (.call "_law_take" false (.cons (.var 0) (.cons (.int 6) .nil)))) .nil)) (.cons (.ex (.bm .append (.var 2) (.cons (.tup (.cons (.idx (.var 1) (.var 3)) (.cons (.call "_law_bound" false (.cons (.var 0) .nil)) .nil))) .nil))) .nil)) (.cons (.set (.one 4) (.call "_law_take" false (.cons (.var 0) (.cons (.int 7) .nil)))) (.cons (.set (.one 5) (.newl .nil)) (.cons (.for_ (.one 3) (.range (.cons (.bop .add (.int 1) (.call "_law_take" false (.cons (.var 0) (.cons (.int 6) .nil)))) .nil)) (.cons (.set (.one 6) (.lcIf (.var 8) (.one 8) (.range (.cons (.bi .len (.cons (.var 2) .nil)) .nil)) (.cmp .gt (.call "_law_take" false (.cons (.var 0) (.cons (.int 3) .nil))) (.int 0)))) (.cons (.ite (.cmp .eq (.var 6) (.lst .nil)) (.cons (.set (.one 6) (.lst (.cons (.call "_law_take" false (.cons (.var 0) (.cons (.bi .len (.cons (.var 2) .nil)) .nil))) .nil))) .nil) .nil) (.cons (.set (.one 7) (.bi .tuple (.cons (.lc (.call "_law_bound" false (.cons (.var 0) .nil)) (.one 8) (.val (.var 6))) .nil))) (.cons (.ex (.bm .append (.var 5) (.cons (.tup (.cons (.idx (.var 1) (.bop .add (.var 3) (.var 4))) (.cons (.bi .wtuple (.cons (.var 6) .nil)) (.cons (.var 7) .nil)))) .nil))) .nil))))) (.cons (.ret (.tup (.cons (.bi .tuple (.cons (.var 2) .nil)) (.cons (.bi .tuple (.cons (.var 5) .nil)) .nil)))) .nil))))))), keep := false }
def f__law_let_due : Fn := { np := 3, names := ["_law_stand_here", "_law_card", "_law_other", "_law_name", "_law_left", "_law_wait", "_law_one"], body := (.cons (.for_ (.one 3) (.val (.tup (.cons (.var 1) (.cons (.var 2) .nil)))) (.cons (.ite (.cmp .eq (.lcIf (.var 6) (.one 6) (.val (.idx (.var 0) (.int 1))) (.cmp .eq (.idx (.var 6) (.int 0)) (.var 3))) (.lst .nil)) (.cons (.ret (.tup (.cons (.str [78, 111, 67, 97, 114, 100]) (.cons (.var 3) .nil)))) .nil) .nil) .nil)) (.cons (.set (.one 4) (.lcIf (.var 5) (.one 5) (.val (.idx (.var 0) (.int 2))) (.cmp .ne (.tup (.cons (.idx (.var 5) (.int 0)) (.cons (.idx (.var 5) (.int 2)) .nil))) (.tup (.cons (.var 1) (.cons (.var 2) .nil)))))) (.cons (.ite (.cmp .eq (.bi .len (.cons (.var 4) .nil)) (.bi .len (.cons (.idx (.var 0) (.int 2)) .nil))) (.cons (.ret (.tup (.cons (.str [78, 111, 87, 97, 105, 116]) (.cons (.var 1) .nil)))) .nil) .nil) (.cons (.ret (.tup (.cons (.idx (.var 0) (.int 0)) (.cons (.idx (.var 0) (.int 1)) (.cons (.bi .tuple (.cons (.var 4) .nil)) .nil))))) .nil)))), keep := false }
def f__law_told : Fn := { np := 3, names := ["_law_stand_here", "_law_card", "_law_other", "_law_told_here", "_law_e"], body := (.cons (.set (.one 3) .non) (.cons (.try_ (.cons (.set (.one 3) (.call "without_waits" false (.cons (.var 0) (.cons (.var 1) (.cons (.var 2) .nil))))) .nil) "LaneError" (some 4) (.cons (.set (.one 3) (.hcall "_law_wait_refusal")) .nil) .nil) (.cons (.ret (.var 3)) .nil))), keep := false }
def f__law_right : Fn := { np := 4, names := ["_law_plan_here", "_law_stand_here", "_law_card", "_law_other", "_law_kept", "_law_due", "_law_found", "_law_wait"], body := (.cons (.set (.one 4) (.tup (.cons (.idx (.var 1) (.int 0)) (.cons (.idx (.var 1) (.int 1)) (.cons (.bi .tuple (.cons (.bi .list (.cons (.idx (.var 1) (.int 2)) .nil)) .nil)) .nil))))) (.cons (.set (.one 5) (.call "_law_let_due" false (.cons (.var 1) (.cons (.var 2) (.cons (.var 3) .nil))))) (.cons (.set (.one 6) (.call "_law_told" false (.cons (.var 1) (.cons (.var 2) (.cons (.var 3) .nil))))) (.cons (.ite (.or (.cons (.not (.call "_law_same" false (.cons (.var 6) (.cons (.var 5) .nil)))) (.cons (.cmp .ne (.var 1) (.var 4)) .nil))) (.cons (.ret (.bl false)) .nil) .nil) (.cons (.ite (.not (.isi (.idx (.var 5) (.int 0)) ["str"] false)) (.cons (.for_ (.one 7) (.val (.idx (.var 1) (.int 2))) (.cons (.set (.one 6) (.call "with_wait" false (.cons (.var 0) (.cons (.var 6) (.cons (.idx (.var 7) (.int 0)) (.cons (.idx (.var 7) (.int 1)) (.cons (.idx (.var 7) (.int 2)) .nil))))))) .nil)) (.cons (.ret (.cmp .eq (.var 6) (.var 1))) .nil)) .nil) (.cons (.ret (.bl true)) .nil)))))), keep := false }
def f_law : Fn := { np := 1, names := ["_law_script", "_law_k", "_law_held", "_law_plan_here", "_law_stand_here", "_law_names", "_law_turn", "_law_card", "_law_other", "_law_lane_here", "_law_one"], body := (.cons (.for_ (.one 1) (.range (.cons (.bop .add (.bi .min (.cons (.int 8) (.cons (.bi .len (.cons (.var 0) .nil)) .nil))) (.int 1)) .nil)) (.cons (.set (.one 2) (.call "_law_digits" false (.cons (.var 0) (.cons (.var 1) .nil)))) (.cons (.set (.one 3) (.call "_law_plan" false (.cons (.var 2) .nil))) (.cons (.set (.one 4) (.call "_law_stand" false (.cons (.var 2) (.cons (.var 3) (.cons (.idx (.lst (.cons (.int 5) (.cons (.int 9) (.cons (.int 30) .nil)))) (.call "_law_take" false (.cons (.var 2) (.cons (.int 3) .nil)))) .nil))))) (.cons (.set (.one 5) (.bop .add (.bop .add (.bop .mul (.lc (.idx (.var 10) (.int 0)) (.one 10) (.val (.idx (.var 4) (.int 1)))) (.int 4)) (.call "_law_words" false (.cons (.var 2) (.cons (.int 2) .nil)))) (.lst (.cons (.str [122, 122, 122, 122, 122, 122, 122, 122]) .nil)))) (.cons (.for_ (.one 6) (.range (.cons (.int 12) .nil)) (.cons (.set (.one 7) (.idx (.var 5) (.call "_law_take" false (.cons (.var 2) (.cons (.bi .len (.cons (.var 5) .nil)) .nil))))) (.cons (.set (.one 8) (.idx (.var 5) (.call "_law_take" false (.cons (.var 2) (.cons (.bi .len (.cons (.var 5) .nil)) .nil))))) (.cons (.ite (.and (.cons (.cmp .eq (.call "_law_take" false (.cons (.var 2) (.cons (.int 2) .nil))) (.int 0)) (.cons (.cmp .ne (.idx (.var 4) (.int 2)) (.tup .nil)) .nil))) (.cons (.set (.many [7, 9, 8]) (.idx (.idx (.var 4) (.int 2)) (.call "_law_take" false (.cons (.var 2) (.cons (.bi .len (.cons (.idx (.var 4) (.int 2)) .nil)) .nil))))) .nil) .nil) (.cons (.ite (.not (.call "_law_right" false (.cons (.var 3) (.cons (.var 4) (.cons (.var 7) (.cons (.var 8) .nil)))))) (.cons (.ret (.bl false)) .nil) .nil) .nil))))) .nil)))))) (.cons (.ret (.bl true)) .nil)), keep := false }
def L : LT where
  body := prog.main.body
  fns := [("kind_of", P_kind_of, 9), ("way_of", P_way_of, 10), ("lane_at", P_lane_at, 13), ("card_of", P_card_of, 14), ("lane_of", P_lane_of, 15), ("with_wait", P_with_wait, 17), ("without_waits", P_without_waits, 18), ("_law_digits", Ulaw_digits, 20), ("_law_take", Ulaw_take, 21), ("_law_words", Ulaw_words, 22), ("_law_bound", Ulaw_bound, 23), ("_law_plan", f__law_plan, 24), ("_law_kind", Ulaw_kind, 25), ("_law_lane", Ulaw_lane, 26), ("_law_room", Ulaw_room, 27), ("_law_bars", Ulaw_bars, 28), ("_law_stand", Ulaw_stand, 29), ("_law_same", Ulaw_same, 30), ("_law_let_due", f__law_let_due, 31), ("_law_told", f__law_told, 33), ("_law_right", f__law_right, 34), ("law", f_law, 35)]
  hfns := [("_law_wait_refusal", Ulaw_wait_refusal, 32)]
  cons := [("MOST_WAITS", .int 60)]
  exs := [("LaneError", none, 1, ["LaneError", "ValueError"]), ("TooMany", none, 2, ["TooMany", "LaneError", "ValueError"]), ("NoCard", some ["card"], 3, ["NoCard", "LaneError", "ValueError"]), ("NoKind", some ["kind"], 4, ["NoKind", "LaneError", "ValueError"]), ("NoLane", some ["lane"], 5, ["NoLane", "LaneError", "ValueError"]), ("NoWait", some ["card"], 6, ["NoWait", "LaneError", "ValueError"]), ("Past", some ["card"], 7, ["Past", "LaneError", "ValueError"])]
  base := "LaneError"
  fuel := 100000
theorem fine_kind_of : LT.FnFine L ("kind_of", P_kind_of, 9) := ⟨⟨rfl, rfl, rfl, by decide +kernel, rfl, by decide +kernel, by decide +kernel⟩, by decide +kernel, fun _ _ _ _ _ _ us hl => match us, hl with | [_, _], _ => rfl, by decide +kernel⟩
theorem fine_way_of : LT.FnFine L ("way_of", P_way_of, 10) := ⟨⟨rfl, rfl, rfl, by decide +kernel, rfl, by decide +kernel, by decide +kernel⟩, by decide +kernel, fun _ _ _ _ _ _ us hl => match us, hl with | [_, _], _ => rfl, by decide +kernel⟩
theorem fine_lane_at : LT.FnFine L ("lane_at", P_lane_at, 13) := ⟨⟨rfl, rfl, rfl, by decide +kernel, rfl, by decide +kernel, by decide +kernel⟩, by decide +kernel, fun _ _ _ _ _ _ us hl => match us, hl with | [_, _, _], _ => rfl, by decide +kernel⟩
theorem fine_card_of : LT.FnFine L ("card_of", P_card_of, 14) := ⟨⟨rfl, rfl, rfl, by decide +kernel, rfl, by decide +kernel, by decide +kernel⟩, by decide +kernel, fun _ _ _ _ _ _ us hl => match us, hl with | [_, _], _ => rfl, by decide +kernel⟩
theorem fine_lane_of : LT.FnFine L ("lane_of", P_lane_of, 15) := ⟨⟨rfl, rfl, rfl, by decide +kernel, rfl, by decide +kernel, by decide +kernel⟩, by decide +kernel, fun _ _ _ _ _ _ us hl => match us, hl with | [_, _, _], _ => rfl, by decide +kernel⟩
theorem fine_with_wait : LT.FnFine L ("with_wait", P_with_wait, 17) := ⟨⟨rfl, rfl, rfl, by decide +kernel, rfl, by decide +kernel, by decide +kernel⟩, by decide +kernel, fun _ _ _ _ _ _ us hl => match us, hl with | [_, _, _, _, _], _ => rfl, by decide +kernel⟩
theorem fine_without_waits : LT.FnFine L ("without_waits", P_without_waits, 18) := ⟨⟨rfl, rfl, rfl, by decide +kernel, rfl, by decide +kernel, by decide +kernel⟩, by decide +kernel, fun _ _ _ _ _ _ us hl => match us, hl with | [_, _, _], _ => rfl, by decide +kernel⟩
theorem fine__law_digits : LT.FnFine L ("_law_digits", Ulaw_digits, 20) := ⟨⟨rfl, rfl, rfl, by decide +kernel, rfl, by decide +kernel, by decide +kernel⟩, by decide +kernel, fun _ _ _ _ _ _ us hl => match us, hl with | [_, _], _ => rfl, by decide +kernel⟩
theorem fine__law_take : LT.FnFine L ("_law_take", Ulaw_take, 21) := ⟨⟨rfl, rfl, rfl, by decide +kernel, rfl, by decide +kernel, by decide +kernel⟩, by decide +kernel, fun _ _ _ _ _ _ us hl => match us, hl with | [_, _], _ => rfl, by decide +kernel⟩
theorem fine__law_words : LT.FnFine L ("_law_words", Ulaw_words, 22) := ⟨⟨rfl, rfl, rfl, by decide +kernel, rfl, by decide +kernel, by decide +kernel⟩, by decide +kernel, fun _ _ _ _ _ _ us hl => match us, hl with | [_, _], _ => rfl, by decide +kernel⟩
theorem fine__law_bound : LT.FnFine L ("_law_bound", Ulaw_bound, 23) := ⟨⟨rfl, rfl, rfl, by decide +kernel, rfl, by decide +kernel, by decide +kernel⟩, by decide +kernel, fun _ _ _ _ _ _ us hl => match us, hl with | [_], _ => rfl, by decide +kernel⟩
theorem fine__law_plan : LT.FnFine L ("_law_plan", f__law_plan, 24) := ⟨⟨rfl, rfl, rfl, by decide +kernel, rfl, by decide +kernel, by decide +kernel⟩, by decide +kernel, fun _ _ _ _ _ _ us hl => match us, hl with | [_], _ => rfl, by decide +kernel⟩
theorem fine__law_kind : LT.FnFine L ("_law_kind", Ulaw_kind, 25) := ⟨⟨rfl, rfl, rfl, by decide +kernel, rfl, by decide +kernel, by decide +kernel⟩, by decide +kernel, fun _ _ _ _ _ _ us hl => match us, hl with | [_, _], _ => rfl, by decide +kernel⟩
theorem fine__law_lane : LT.FnFine L ("_law_lane", Ulaw_lane, 26) := ⟨⟨rfl, rfl, rfl, by decide +kernel, rfl, by decide +kernel, by decide +kernel⟩, by decide +kernel, fun _ _ _ _ _ _ us hl => match us, hl with | [_, _], _ => rfl, by decide +kernel⟩
theorem fine__law_room : LT.FnFine L ("_law_room", Ulaw_room, 27) := ⟨⟨rfl, rfl, rfl, by decide +kernel, rfl, by decide +kernel, by decide +kernel⟩, by decide +kernel, fun _ _ _ _ _ _ us hl => match us, hl with | [_, _, _, _, _], _ => rfl, by decide +kernel⟩
theorem fine__law_bars : LT.FnFine L ("_law_bars", Ulaw_bars, 28) := ⟨⟨rfl, rfl, rfl, by decide +kernel, rfl, by decide +kernel, by decide +kernel⟩, by decide +kernel, fun _ _ _ _ _ _ us hl => match us, hl with | [_, _, _], _ => rfl, by decide +kernel⟩
theorem fine__law_stand : LT.FnFine L ("_law_stand", Ulaw_stand, 29) := ⟨⟨rfl, rfl, rfl, by decide +kernel, rfl, by decide +kernel, by decide +kernel⟩, by decide +kernel, fun _ _ _ _ _ _ us hl => match us, hl with | [_, _, _], _ => rfl, by decide +kernel⟩
theorem fine__law_same : LT.FnFine L ("_law_same", Ulaw_same, 30) := ⟨⟨rfl, rfl, rfl, by decide +kernel, rfl, by decide +kernel, by decide +kernel⟩, by decide +kernel, fun _ _ _ _ _ _ us hl => match us, hl with | [_, _], _ => rfl, by decide +kernel⟩
theorem fine__law_let_due : LT.FnFine L ("_law_let_due", f__law_let_due, 31) := ⟨⟨rfl, rfl, rfl, by decide +kernel, rfl, by decide +kernel, by decide +kernel⟩, by decide +kernel, fun _ _ _ _ _ _ us hl => match us, hl with | [_, _, _], _ => rfl, by decide +kernel⟩
theorem fine__law_wait_refusal : LT.HFnFine L ("_law_wait_refusal", Ulaw_wait_refusal, 32) := ⟨⟨rfl, rfl, rfl, by decide +kernel, rfl, by decide +kernel, by decide +kernel⟩, by decide +kernel, fun _ _ _ _ _ _ us hl => match us, hl with | [_], _ => rfl, by decide +kernel⟩
theorem fine__law_told : LT.FnFine L ("_law_told", f__law_told, 33) := ⟨⟨rfl, rfl, rfl, by decide +kernel, rfl, by decide +kernel, by decide +kernel⟩, by decide +kernel, fun _ _ _ _ _ _ us hl => match us, hl with | [_, _, _], _ => rfl, by decide +kernel⟩
theorem fine__law_right : LT.FnFine L ("_law_right", f__law_right, 34) := ⟨⟨rfl, rfl, rfl, by decide +kernel, rfl, by decide +kernel, by decide +kernel⟩, by decide +kernel, fun _ _ _ _ _ _ us hl => match us, hl with | [_, _, _, _], _ => rfl, by decide +kernel⟩
theorem fine_law : LT.FnFine L ("law", f_law, 35) := ⟨⟨rfl, rfl, rfl, by decide +kernel, rfl, by decide +kernel, by decide +kernel⟩, by decide +kernel, fun _ _ _ _ _ _ us hl => match us, hl with | [_], _ => rfl, by decide +kernel⟩
theorem exf_NoCard : LT.ExFine L "NoCard" ["card"] 3 := ⟨⟨rfl, rfl, rfl, by decide +kernel, rfl, by decide +kernel, by decide +kernel⟩, fun _ _ _ _ _ _ us hl => match us, hl with | [_, _], _ => rfl, by decide +kernel, by decide, by decide⟩
theorem exf_NoKind : LT.ExFine L "NoKind" ["kind"] 4 := ⟨⟨rfl, rfl, rfl, by decide +kernel, rfl, by decide +kernel, by decide +kernel⟩, fun _ _ _ _ _ _ us hl => match us, hl with | [_, _], _ => rfl, by decide +kernel, by decide, by decide⟩
theorem exf_NoLane : LT.ExFine L "NoLane" ["lane"] 5 := ⟨⟨rfl, rfl, rfl, by decide +kernel, rfl, by decide +kernel, by decide +kernel⟩, fun _ _ _ _ _ _ us hl => match us, hl with | [_, _], _ => rfl, by decide +kernel, by decide, by decide⟩
theorem exf_NoWait : LT.ExFine L "NoWait" ["card"] 6 := ⟨⟨rfl, rfl, rfl, by decide +kernel, rfl, by decide +kernel, by decide +kernel⟩, fun _ _ _ _ _ _ us hl => match us, hl with | [_, _], _ => rfl, by decide +kernel, by decide, by decide⟩
theorem exf_Past : LT.ExFine L "Past" ["card"] 7 := ⟨⟨rfl, rfl, rfl, by decide +kernel, rfl, by decide +kernel, by decide +kernel⟩, fun _ _ _ _ _ _ us hl => match us, hl with | [_, _], _ => rfl, by decide +kernel, by decide, by decide⟩
theorem fine : L.Fine where
  fns := by
    intro f hf
    simp only [L, List.mem_cons, List.not_mem_nil, or_false] at hf
    rcases hf with rfl | rfl | rfl | rfl | rfl | rfl | rfl | rfl | rfl | rfl | rfl | rfl | rfl | rfl | rfl | rfl | rfl | rfl | rfl | rfl | rfl | rfl
    · exact fine_kind_of
    · exact fine_way_of
    · exact fine_lane_at
    · exact fine_card_of
    · exact fine_lane_of
    · exact fine_with_wait
    · exact fine_without_waits
    · exact fine__law_digits
    · exact fine__law_take
    · exact fine__law_words
    · exact fine__law_bound
    · exact fine__law_plan
    · exact fine__law_kind
    · exact fine__law_lane
    · exact fine__law_room
    · exact fine__law_bars
    · exact fine__law_stand
    · exact fine__law_same
    · exact fine__law_let_due
    · exact fine__law_told
    · exact fine__law_right
    · exact fine_law
  hfns := by
    intro f hf
    simp only [L, List.mem_cons, List.not_mem_nil, or_false] at hf
    subst hf
    · exact fine__law_wait_refusal
  exs := by
    intro C ns i ss h
    simp only [L, List.mem_cons, List.not_mem_nil, or_false, Prod.mk.injEq, Option.some.injEq, reduceCtorEq, and_false, false_and, false_or] at h
    rcases h with ⟨rfl, rfl, rfl, rfl⟩ | ⟨rfl, rfl, rfl, rfl⟩ | ⟨rfl, rfl, rfl, rfl⟩ | ⟨rfl, rfl, rfl, rfl⟩ | ⟨rfl, rfl, rfl, rfl⟩
    · exact exf_NoCard
    · exact exf_NoKind
    · exact exf_NoLane
    · exact exf_NoWait
    · exact exf_Past
  cls := by decide +kernel
end K14
end CL
namespace CL
namespace K14
open PySem PySem.Spec PyProof.Rows L2
def others : List Str := ([("LaneError" : Str), ("TooMany" : Str), ("NoCard" : Str), ("NoKind" : Str), ("NoLane" : Str), ("NoWait" : Str), ("Past" : Str), ("kind_of" : Str), ("way_of" : Str), ("MOST_WAITS" : Str), ("lane_at" : Str), ("card_of" : Str), ("lane_of" : Str), ("with_wait" : Str), ("without_waits" : Str), ("_law_digits" : Str), ("_law_take" : Str), ("_law_words" : Str), ("_law_bound" : Str), ("_law_plan" : Str), ("_law_kind" : Str), ("_law_lane" : Str), ("_law_room" : Str), ("_law_bars" : Str), ("_law_stand" : Str), ("_law_same" : Str), ("_law_let_due" : Str), ("_law_wait_refusal" : Str), ("_law_told" : Str), ("_law_right" : Str)] : List Str)
abbrev row : PySem.W.OpenRow := PySem.W.OpenLaw.row PySem.Challenge.rw_cardlanes_k14_without_waits
set_option maxHeartbeats 0 in
theorem run (w : PySem.World) : HandSHeadRun.RunEq row (PySem.W.view row.prog [35]) (L.hook 5) (L.ob 5) 4000 others w := by
  intro os
  kernel_rfl
end K14
end CL
namespace CL
namespace K14
open PySem PySem.Spec PyProof.Rows L2
theorem lawT : LawT L.text := ⟨⟨_, rfl, rfl, rfl, rfl, rfl⟩, ⟨_, rfl, rfl, rfl, rfl, rfl⟩, ⟨_, rfl, rfl, rfl, rfl, rfl⟩, ⟨_, rfl, rfl, rfl, rfl, rfl⟩⟩
theorem kindT : KindT L.text := ⟨⟨_, rfl, rfl, rfl, rfl, rfl⟩, ⟨_, rfl, rfl, rfl, rfl, rfl⟩, rfl⟩
theorem laneT : LaneT L.text := ⟨kindT, ⟨_, rfl, rfl, rfl, rfl, rfl⟩⟩
theorem cardT : CardT L.text := ⟨rfl, ⟨_, rfl, rfl, rfl, rfl, rfl⟩⟩
theorem lstandT : LStandT L.text := ⟨⟨_, rfl, rfl, rfl, rfl, rfl⟩, ⟨_, rfl, rfl, rfl, rfl, rfl⟩, ⟨_, rfl, rfl, rfl, rfl, rfl⟩, ⟨_, rfl, rfl, rfl, rfl, rfl⟩⟩
theorem waitT : WaitT L.text := ⟨laneT, cardT, ⟨_, rfl, rfl, rfl, rfl, rfl⟩, ⟨_, rfl, rfl, rfl, rfl, rfl⟩, rfl, rfl, rfl, rfl⟩
theorem letT : LetT L.text := ⟨cardT, ⟨_, rfl, rfl, rfl, rfl, rfl⟩, rfl⟩
theorem refW : RefW L.text where
  refusal := ⟨_, rfl, rfl, rfl, rfl, rfl⟩
  isx := by decide +kernel
  value := by decide +kernel
  lane := by decide +kernel
theorem planIs : Is L.text "_law_plan" Ulaw_plan := ⟨_, rfl, rfl, rfl, rfl, rfl⟩
theorem standIs : Is L.text "_law_stand" Ulaw_stand := ⟨_, rfl, rfl, rfl, rfl, rfl⟩
theorem sameIs : Is L.text "_law_same" Ulaw_same := ⟨_, rfl, rfl, rfl, rfl, rfl⟩
theorem told_sp (n : Nat) (p : Plan) (s : Stand) (hs : StandOk p s) (l m : List Nat) (b : Nat) (S : Store) : callN L.text (n + 5) "_law_told" false [standD s, .str l, .str m] b S = .ok (dueW (letM s l m)) S := by
  rw [call_eq (d := f__law_told) rfl rfl, run_res]
  have e1 := let_waits_sp letT n p s hs l m S.length S
  cases hr : letM s l m with
  | ok s' =>
    rw [hr] at e1
    simp [f__law_told, Fn.start, e1, dueW]
  | error e =>
    rw [hr] at e1
    have t := let_told hr
    have e2 := fun b S => refusalW_sp refW (n + 3) e t b S
    have e3 : L.text.isx e.1 "LaneError" = some true := refW.lane e.1 (by cases t <;> simp [names5])
    have e4 : D.limL 0 e.2.2 = true := by cases t <;> rfl
    obtain ⟨C, fs, ds⟩ := e
    simp only at e3 e4
    simp only [told_err] at e1
    have e5 := fin_dueF t S
    simp [f__law_told, Fn.start, e1, tryR_as, e3, e2, dueW, e5]
theorem let_due_sp (n : Nat) (p : Plan) (s : Stand) (hs : StandOk p s) (l m : List Nat) (b : Nat) (S : Store) : callN L.text (n + 1) "_law_let_due" false [standD s, .str l, .str m] b S = .ok (dueW (letM s l m)) S := by
  rw [call_eq (d := f__law_let_due) rfl rfl, run_res]
  have cl := hs.cl
  have wl := hs.wl
  simp [f__law_let_due, Fn.start]
  generalize hF : forS _ _ _ _ _ _ _ _ = F
  have it : [D.str l, .str m] = [l, m].map D.str := rfl
  rw [it] at hF
  unfold letM
  rcases for_find [l, m] D.str (fun x => .tup [.str [78, 111, 67, 97, 114, 100], .str x]) (fun x => (cardOf s x).isNone) (fun ρ => ∃ x, ρ = [some (standD s), some (.str l), some (.str m), x, none, none, none]) rfl hF ⟨_, rfl⟩ (by
    rintro a _ _ ⟨x, rfl⟩
    refine ⟨_, asg_one _ _ _, fun Q hn hz => ?_⟩
    have fo := found_one hs.cn a
    simp [lcAll_q, lim_ok (show s.cards.length ≤ 1000 by omega)]
    generalize (s.cards.filter fun c => decide (c.name = a)) = fs at fo ⊢
    cases fs with
    | nil =>
      simp [eq_nil_nil]
      exact hz (by rw [← fo]; rfl)
    | cons c cs =>
      simp [eq_nil_cons]
      exact hn _ ⟨_, rfl⟩ (by rw [← fo]; rfl)) with ⟨a, h1, rfl⟩ | ⟨h1, ρ', rfl, x, rfl⟩
  · cases h2 : cardOf s l with
    | none =>
      simp [h2] at h1
      subst h1
      simp [dueW, dueF, wordW]
    | some c =>
      cases h3 : cardOf s m with
      | none =>
        simp [h2, h3] at h1
        subst h1
        simp [dueW, dueF, wordW]
      | some d => simp [h2, h3] at h1
  · cases h2 : cardOf s l with
    | none => simp [h2] at h1
    | some c =>
      cases h3 : cardOf s m with
      | none => simp [h2, h3] at h1
      | some d =>
        simp [lcAll_q]
        rw [lcQ_in s.waits _ (fun a S' => if a.card ≠ l ∨ a.other ≠ m then .ok (some (waitD a)) S' else .ok none S') fun a ha S' => by
          have e := ne_two a.card a.other l m
          by_cases q1 : a.card = l
          · by_cases q2 : a.other = m
            · simp [q1, q2] at e
              simp [q1, q2, e]
            · simp [q1, q2] at e
              simp [q1, q2, e]
          · simp [q1] at e
            simp [q1, e]]
        simp only [lcQ_if _ _ _ (lim_ok (show s.waits.length ≤ 1000 by omega))]
        rw [show s.waits.filter (fun v => decide (v.card ≠ l ∨ v.other ≠ m)) = leftW s l m from rfl]
        generalize leftW s l m = fs
        by_cases q : fs.length = s.waits.length
        · simp [q, dueW, dueF, wordW]
        · have q' : ((fs.length : Int) == (s.waits.length : Int)) = false := by simpa using q
          simp [q, q', dueW]
          rfl
theorem right_sp (n : Nat) (p : Plan) (hp : PlanOk p) (s : Stand) (hs : StandOk p s) (l m : List Nat) (hl : l.length ≤ 1000) (hm : m.length ≤ 1000) (b : Nat) (S : Store) : callN L.text (n + 8) "_law_right" false [planD p, standD s, .str l, .str m] b S = .ok (.bl true) S := by
  rw [call_eq (d := f__law_right) rfl rfl, run_res]
  have wl := hs.wl
  have e1 := told_sp (n + 2) p s hs l m S.length S
  have e2 := let_due_sp (n + 6) p s hs l m S.length S
  have e3 := dueF_same sameIs hp (n + 3) (letM s l m) (fun e h => ⟨let_told h, let_short hl hm h⟩) (fun s' h => (let_ok hs h).2) S.length S
  have ke : D.tup [.tup (s.bounds.map .int), .tup (s.cards.map cardD), .tup (s.waits.map waitD)] = standD s := rfl
  have ne := ne_stand s
  cases hr : letM s l m with
  | error e =>
    rw [hr] at e1 e2 e3
    have d1 : dueW (.error e) = dueF e := rfl
    rw [d1] at e1 e2 e3
    have t := let_told hr
    have f6 : ∀ S, idxD (vw S (dueF e)) (.int 0) = some (wordW e.1) := fun _ => rfl
    have f7 : ∃ w, wordW e.1 = .str w := by cases t <;> exact ⟨_, rfl⟩
    obtain ⟨w, f7⟩ := f7
    rw [f7] at f6
    have f8 : isaAny (ctxN L.text (n + 7)) (.str w) ["str"] = some true := rfl
    simp [f__law_right, Fn.start, ke, e2, e1, e3, ne, f6, f8]
  | ok s' =>
    rw [hr] at e1 e2 e3
    have d1 : dueW (.ok s') = standD s' := rfl
    rw [d1] at e1 e2 e3
    obtain ⟨e', ok'⟩ := let_ok hs hr
    have f8 : isaAny (ctxN L.text (n + 7)) (.tup (s'.bounds.map .int)) ["str"] = some false := rfl
    simp [f__law_right, Fn.start, ke, e2, e1, e3, ne, f8]
    generalize hF : forS _ _ _ _ _ _ _ _ = F
    have sb := leftW_sub s l m
    obtain ⟨ρ', rfl, V, x7, hV, hm, rfl⟩ := for_list s.waits waitD hF (fun k ρ => ∃ V x7, V.Pairwise wLt ∧ (∀ w, w ∈ V ↔ w ∈ leftW s l m ∨ w ∈ s.waits.take k) ∧ ρ = [some (planD p), some (standD s), some (.str l), some (.str m), some (standD s), some (standD s'), some (standD ⟨s.bounds, s.cards, V⟩), x7]) rfl ⟨leftW s l m, none, hs.wp.sublist sb, by simp, by rw [← e']⟩ (by
      rintro k w _ hk ⟨V, x7, hV, hm, rfl⟩
      refine ⟨_, asg_one _ _ _, fun Q hq => ?_⟩
      have hw := List.mem_of_getElem? hk
      have sub : ∀ w ∈ V, w ∈ s.waits := fun w hw => by
        rcases (hm w).mp hw with h | h
        · exact sb.subset h
        · exact List.mem_of_mem_take h
      have nd := wLt_nodup hV
      have ok2 := waits_sub hs (Nat.le_trans (nodup_len nd sub) wl) hV sub
      have f1 := with_wait_sp waitT n p hp ⟨s.bounds, s.cards, V⟩ ok2 w S.length S
      rw [wait_on hp hs nd sub hw] at f1
      have nd2 : ((V.filter fun v => decide (v ≠ w)) ++ [w]).Nodup := by
        rw [List.nodup_append]
        refine ⟨nd.sublist List.filter_sublist, by simp, ?_⟩
        intro a ha b hb e
        rw [List.mem_singleton.mp hb] at e
        have := (List.mem_filter.mp ha).2
        simp [e] at this
      have hm2 : ∀ v, v ∈ sortW ((V.filter fun v => decide (v ≠ w)) ++ [w]) ↔ v ∈ leftW s l m ∨ v ∈ s.waits.take (k + 1) := by
        intro v
        rw [(sortW_perm _).mem_iff, List.mem_append, List.mem_filter, List.mem_singleton, List.take_add_one, hk, List.mem_append, Option.toList_some, List.mem_singleton, hm v]
        by_cases e : v = w
        · simp [e]
        · simp [e]
      have pw := sortW_lt nd2
      generalize sortW ((V.filter fun v => decide (v ≠ w)) ++ [w]) = V2 at f1 hm2 pw
      simp at f1
      simp [f1]
      exact hq _ ⟨V2, _, pw, hm2, rfl⟩)
    have pm : V.Perm s.waits := (List.perm_ext_iff_of_nodup (wLt_nodup hV) (wLt_nodup hs.wp)).mpr fun w => by
      rw [hm w, List.take_length]
      exact ⟨fun h => h.elim (fun h => sb.subset h) id, .inr⟩
    have ve := waits_eq hV hs.wp pm
    subst ve
    have eqs : cmpD .eq (standD s) (standD s) = some true := eq_stand s
    simp [eqs]
theorem ne_nil_waits (ws : List Wt) : cmpD .ne (.tup (ws.map waitD)) (.tup []) = some (!ws.isEmpty) := by
  show (eqD (.tup (ws.map waitD)) (.tup [])).map (!·) = _
  unfold eqD
  have d1 : (D.tup (ws.map waitD)).dat dp = true := by
    rw [show dp = (dp - 1) + 1 from rfl, dat_tup]
    exact datL_map (by decide) _ _ fun _ => dat_wait
  have d2 : (D.tup []).dat dp = true := rfl
  rw [d1, d2]
  cases ws <;> simp [D.eqv, D.eqvL]
theorem names_at (ns : List (List Nat)) (hn : 0 < ns.length) (hl : ns.length ≤ 1000000) (n i b : Nat) (S : Store) (v : Int) (hi : i < S.length) : ∃ l ∈ ns, ∃ v' x, callN L.text (n + 1) "_law_take" false [.ref i, .int (ns.length : Nat)] b (hold S i v) = .ok (.int x) (hold S i v') ∧ atD (ns.map D.str) x = some (.str l) := by
  have t1 := take_sp lawT n i b S v (ns.length : Nat) hi (by omega) (by omega)
  have p1 := Int.emod_nonneg v (show (ns.length : Int) ≠ 0 by omega)
  have p2 := Int.emod_lt_of_pos v (show 0 < (ns.length : Int) by omega)
  have lt : (v % (ns.length : Int)).toNat < ns.length := by omega
  refine ⟨ns[(v % (ns.length : Int)).toNat], List.getElem_mem lt, _, _, t1, ?_⟩
  rw [at_pos _ _ p1, List.getElem?_map, List.getElem?_eq_getElem lt]
  rfl
theorem wait_at (ns : List Wt) (hn : 0 < ns.length) (hl : ns.length ≤ 1000000) (n i b : Nat) (S : Store) (v : Int) (hi : i < S.length) : ∃ l ∈ ns, ∃ v' x, callN L.text (n + 1) "_law_take" false [.ref i, .int (ns.length : Nat)] b (hold S i v) = .ok (.int x) (hold S i v') ∧ atD (ns.map waitD) x = some (waitD l) := by
  have t1 := take_sp lawT n i b S v (ns.length : Nat) hi (by omega) (by omega)
  have p1 := Int.emod_nonneg v (show (ns.length : Int) ≠ 0 by omega)
  have p2 := Int.emod_lt_of_pos v (show 0 < (ns.length : Int) by omega)
  have lt : (v % (ns.length : Int)).toNat < ns.length := by omega
  refine ⟨ns[(v % (ns.length : Int)).toNat], List.getElem_mem lt, _, _, t1, ?_⟩
  rw [at_pos _ _ p1, List.getElem?_map, List.getElem?_eq_getElem lt]
  rfl
theorem law_true (ns : List Int) (h : ns.length ≤ 63) : callN L.text 12 "law" false [.scr ns] 0 [] = .ok (.bl true) [] := by
  rw [call_eq (d := f_law) rfl rfl, run_res]
  obtain ⟨m, hm, hm2⟩ : ∃ m : Nat, (if (ns.length : Int) < 8 then (ns.length : Int) else 8) = m ∧ m ≤ 8 := by
    split
    · exact ⟨ns.length, rfl, by omega⟩
    · exact ⟨8, rfl, by omega⟩
  have r1 : -10000000 ≤ (m : Int) + 1 ∧ (m : Int) + 1 ≤ 10000000 := by omega
  simp [f_law, Fn.start, fbD, lenD, hm, ranges, r1]
  generalize hF : forS _ _ _ _ _ _ _ _ = F
  obtain ⟨ρ', S, rfl, x1, x2, x3, x4, x5, x6, x7, x8, x9, rfl⟩ := for_at hF (fun _ ρ _ => ∃ a b c d e f g h i, ρ = [some (.scr ns), a, b, c, d, e, f, g, h, i, none]) rfl ⟨_, _, _, _, _, _, _, _, _, rfl⟩ (by
    rintro j d ρ S hd ⟨x1, x2, x3, x4, x5, x6, x7, x8, x9, rfl⟩
    obtain ⟨rfl, hk⟩ := get_range hd
    refine ⟨_, asg_one _ _ _, fun Q hn _ => ?_⟩
    obtain ⟨v, e1⟩ := digits_sp lawT 10 ns j 0 S
    obtain ⟨p, v', e2, hp⟩ := plan_sp lawT planIs 8 S.length 0 (S ++ [.lst []]) v (by simp)
    have tk := take_sp lawT 10 S.length 0 (S ++ [.lst []]) v' 3 (by simp) (by decide) (by decide)
    obtain ⟨most, hmost, hat⟩ : ∃ most : Nat, most ≤ 30 ∧ atD [D.int 5, .int 9, .int 30] (v' % 3) = some (.int most) := by
      have : v' % 3 = 0 ∨ v' % 3 = 1 ∨ v' % 3 = 2 := by omega
      rcases this with c | c | c
      · exact ⟨5, by omega, by rw [c]; rfl⟩
      · exact ⟨9, by omega, by rw [c]; rfl⟩
      · exact ⟨30, by omega, by rw [c]; rfl⟩
    obtain ⟨s, v2, e3, hs⟩ := stand_sp lawT lstandT standIs p hp most hmost 7 S.length 0 (S ++ [.lst []]) (v' / 3) (by simp)
    obtain ⟨ls, v3, e4, w1, _, w2⟩ := words_sp lawT 9 S.length 0 (S ++ [.lst []]) v2 2 (by simp)
    rw [show min 2 52 = 2 from rfl] at w1
    have e4' : callN L.text 11 "_law_words" false [.ref S.length, .int 2] 0 (hold (S ++ [.lst []]) S.length v2) = .ok (.lst (ls.map .str)) (hold (S ++ [.lst []]) S.length v3) := e4
    have cl := hs.cl
    have wl := hs.wl
    have b0 : bop .mul (.lst (s.cards.map fun c => D.str c.name)) (.int 4) = some (.lst (((List.replicate 4 (s.cards.map Card.name)).flatten).map D.str)) := by
      show (if (0 : Int) ≤ 4 ∧ (4 : Int) ≤ 1000 ∧ (s.cards.map fun c => D.str c.name).length ≤ 1000 then some (D.lst (List.replicate (4 : Int).toNat (s.cards.map fun c => D.str c.name)).flatten) else none) = _
      rw [if_pos ⟨by omega, by omega, by rw [List.length_map]; omega⟩]
      congr 2
      rw [List.map_flatten, List.map_replicate, List.map_map]
      rfl
    have nl : (List.replicate 4 (s.cards.map Card.name)).flatten.length = 4 * s.cards.length := by simp; omega
    have b1 := bop_add_lst (((List.replicate 4 (s.cards.map Card.name)).flatten).map D.str) (ls.map .str) (by rw [List.length_map, nl]; omega) (by simp; omega)
    have b2 := bop_add_lst (((List.replicate 4 (s.cards.map Card.name)).flatten).map D.str ++ ls.map .str) [.str [122, 122, 122, 122, 122, 122, 122, 122]] (by rw [List.length_append, List.length_map, nl, List.length_map]; omega) (by simp)
    have all : ((((List.replicate 4 (s.cards.map Card.name)).flatten).map D.str) ++ ls.map .str) ++ [.str [122, 122, 122, 122, 122, 122, 122, 122]] = (((List.replicate 4 (s.cards.map Card.name)).flatten) ++ ls ++ [[122, 122, 122, 122, 122, 122, 122, 122]]).map D.str := by
      rw [List.map_append, List.map_append]
      rfl
    rw [all] at b2
    have short : ∀ l ∈ ((List.replicate 4 (s.cards.map Card.name)).flatten) ++ ls ++ [[122, 122, 122, 122, 122, 122, 122, 122]], l.length ≤ 1000 := by
      intro l hl
      rcases List.mem_append.mp hl with hl | hl
      · rcases List.mem_append.mp hl with hl | hl
        · obtain ⟨k, hk, hl⟩ := List.mem_flatten.mp hl
          rw [(List.mem_replicate.mp hk).2] at hl
          obtain ⟨c, hc, rfl⟩ := List.mem_map.mp hl
          have := nm_len (hs.cm c hc).nm
          omega
        · have := nm_len (w2 l hl)
          omega
      · rw [List.mem_singleton.mp hl]
        decide
    have len : 0 < (((List.replicate 4 (s.cards.map Card.name)).flatten) ++ ls ++ [[122, 122, 122, 122, 122, 122, 122, 122]]).length ∧ (((List.replicate 4 (s.cards.map Card.name)).flatten) ++ ls ++ [[122, 122, 122, 122, 122, 122, 122, 122]]).length ≤ 200 := by
      rw [List.length_append, List.length_append, nl, List.length_singleton]
      omega
    generalize (((List.replicate 4 (s.cards.map Card.name)).flatten) ++ ls ++ [[122, 122, 122, 122, 122, 122, 122, 122]]) = nsL at short b2 len
    generalize ((List.replicate 4 (s.cards.map Card.name)).flatten).map D.str = q0 at b0 b1 b2
    have nn := ne_nil_waits s.waits
    simp [e1, e2, tk, hat, e3, e4', b0, b1, lcAll_q, lim_ok (show s.cards.length ≤ 1000 by omega), -at_pos]
    rw [b2]
    have r12 : ranges [D.int 12] = some ((List.range 12).map fun (k : Nat) => .int k) := rfl
    simp [r12, -List.map_map]
    generalize hF : forS _ _ _ _ _ _ _ _ = F
    obtain ⟨ρ', S', rfl, v4, x6, x7, x8, x9, rfl, rfl⟩ := for_listS (List.range 12) (fun k : Nat => D.int k) hF (fun k ρ S' => ∃ v x6 x7 x8 x9, ρ = [some (.scr ns), some (.int j), some (.ref S.length), some (planD p), some (standD s), some (.lst (nsL.map .str)), x6, x7, x8, x9, none] ∧ S' = hold (S ++ [.lst []]) S.length v) rfl ⟨v3, _, _, _, _, rfl, rfl⟩ (by
      rintro k a _ S' hk ⟨v, x6, x7, x8, x9, rfl, rfl⟩
      refine ⟨_, asg_one _ _ _, fun Q hq => ?_⟩
      obtain ⟨l1, hl1, v1, y1, f1, g1⟩ := names_at nsL len.1 (by omega) 10 S.length 0 (S ++ [.lst []]) v (by simp)
      obtain ⟨l2, hl2, v2, y2, f2, g2⟩ := names_at nsL len.1 (by omega) 10 S.length 0 (S ++ [.lst []]) v1 (by simp)
      have t2 := take_sp lawT 10 S.length 0 (S ++ [.lst []]) v2 2 (by simp) (by decide) (by decide)
      have r0 := fun S => right_sp 3 p hp s hs l1 l2 (short l1 hl1) (short l2 hl2) 0 S
      simp [f1, g1, f2, g2, t2, nn, -at_pos]
      by_cases c0 : v2 % 2 = 0
      · by_cases c1 : s.waits = []
        · have nn' : cmpD .ne (.tup []) (.tup []) = some false := by rw [c1] at nn; exact nn
          simp [c0, c1, r0, nn']
          exact hq _ _ ⟨_, _, _, _, _, rfl, rfl⟩
        · have c1' : 0 < s.waits.length := by cases hw : s.waits with | nil => exact absurd hw c1 | cons a b => simp
          obtain ⟨w, hw, v5, y3, f3, g3⟩ := wait_at s.waits c1' (by omega) 10 S.length 0 (S ++ [.lst []]) (v2 / 2) (by simp)
          have as : ∀ x6 : Option D, asg (.many [7, 9, 8]) (waitD w) [some (.scr ns), some (.int j), some (.ref S.length), some (planD p), some (standD s), some (.lst (nsL.map .str)), x6, some (.str l1), some (.str l2), x9, none] = some [some (.scr ns), some (.int j), some (.ref S.length), some (planD p), some (standD s), some (.lst (nsL.map .str)), x6, some (.str w.card), some (.str w.other), some (.int w.lane), none] := fun _ => rfl
          obtain ⟨u1, u2, u3, u4⟩ := hs.wm w hw
          obtain ⟨c, hc, cn⟩ := List.mem_map.mp u1
          obtain ⟨d, hd, dn⟩ := List.mem_map.mp u2
          have n1 := nm_len (hs.cm c hc).nm
          have n2 := nm_len (hs.cm d hd).nm
          rw [cn] at n1
          rw [dn] at n2
          have r2 := fun S => right_sp 3 p hp s hs w.card w.other (by omega) (by omega) 0 S
          have nn' : cmpD .ne (.tup (s.waits.map waitD)) (.tup []) = some true := by
            rw [nn]
            cases hw : s.waits with
            | nil => exact absurd hw c1
            | cons a b => rfl
          simp [c0, nn', f3, g3, kset, as, r2, -at_pos]
          exact hq _ _ ⟨_, _, _, _, _, rfl, rfl⟩
      · have c0' : (v2 % 2 == 0) = false := by simpa using c0
        simp [c0, c0', r0]
        exact hq _ _ ⟨_, _, _, _, _, rfl, rfl⟩)
    simp
    exact hn _ _ ⟨_, _, _, _, _, _, _, _, _, rfl⟩)
  simp
end K14
end CL
open PySem PySem.W PySem.Calls PyProof.Rows
set_option maxHeartbeats 0 in
theorem PySem.Challenge.cw_cardlanes_k14_without_waits_holds : PySem.Challenge.rw_cardlanes_k14_without_waits.Holds := by
  w_on; o_law
  refine HandSHeadRun.head_any (r := CL.K14.row) (q := view CL.K14.row.prog [35]) (H := CL.K14.L.hook 5) (ob := CL.K14.L.ob 5) (M := 4000) (loose := CL.K14.others) (d := HandSHeadRun.topDef CL.K14.row.prog 35) (kwd := []) (CL.LT.ob_eq CL.K14.L 5)
    (by kernel_rfl) (fun s => by kernel_rfl) CL.K14.run (by kernel_rfl) (by kernel_rfl) (by kernel_rfl) (by rfl) (by first | assumption | decide +kernel) (by decide +kernel) ⟨rfl, rfl, rfl, rfl, rfl, by decide +kernel⟩ ?hw ?hc
  case hw => w_witness2
  case hc =>
    exact CL.law_walk (l := PySem.Challenge.rw_cardlanes_k14_without_waits) (dl := CL.K14.f_law) (il := 35) (N := 12) (n := 63) (x := "_law_script") CL.K14.fine rfl (by decide) (by kernel_rfl) (by kernel_rfl) ⟨rfl, by decide, by decide⟩ rfl rfl CL.K14.law_true
