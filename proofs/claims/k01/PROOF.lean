import PyProof.Rows.All
import Wide.All
import OpenK.AllK
import Wide.FinOn
import HandS.ForMost
import KE.SortData
import KE.DataEq
import KE.DataCmp
import KE.DataFind
import KE.DataMinMax
import KE.DataAny
import HandS.Exc
import HandS.Wide
import HandS.TupAny
import HandS.Deep
import HandS.IsInst
import PyProof.SeqIndex
import KE.KIndexOf
import HandS.Text
import HandS.More
import HandS.Strs
import HandS.ExcOwn
import HandS.CallSlots
import HandS.Comp
import HandS.Iter
import HandS.Zip
import HandS.Dict
import HandS.List
import HandS.Words
import HandS.WordsExc
import KE.KxText
import PySem.Challenge.RW_cardlanes_k01_names
set_option Elab.async false
set_option maxRecDepth 100000
set_option maxHeartbeats 1000000
set_option autoImplicit false
set_option linter.all false
namespace CL
open PySem
inductive D where
  | non | bl (b : Bool) | int (i : Int) | str (s : List Nat)
  | tup (ds : List D) | lst (ds : List D) | dic (t : Bool) (ks vs : List D)
  | ins (C : String) (ns : List String) (ds : List D)
  | exn (C : String) (ns : List String) (ds : List D)
  | ref (i : Nat)
  | scr (ns : List Int)
  | way (ds : List D)
  deriving Inhabited
inductive Cell where
  | lst (ds : List D) | dic (t : Bool) (ks vs : List D) | ins (C : String) (ns : List String) (ds : List D)
abbrev Store := List Cell
abbrev Env := List (Option D)
mutual
def D.lim (n : Nat) : D → Bool
  | .ref i => decide (i < n)
  | .tup ds => D.limL n ds
  | .lst ds => D.limL n ds
  | .dic t ks vs => D.limL n ks && D.limL n vs
  | .ins _ _ ds => D.limL n ds
  | .exn _ _ ds => D.limL n ds
  | .non => true
  | .bl _ => true
  | .int _ => true
  | .str _ => true
  | .scr _ => true
  | .way ds => D.limL n ds
def D.limL (n : Nat) : List D → Bool
  | [] => true
  | d :: ds => d.lim n && D.limL n ds
end
def Cell.lim (n : Nat) : Cell → Bool
  | .lst ds => D.limL n ds
  | .dic t ks vs => D.limL n ks && D.limL n vs
  | .ins _ _ ds => D.limL n ds
mutual
def D.pd : D → Option PyData
  | .non => some .none
  | .bl b => some (.bool b)
  | .int i => some (.int i)
  | .str l => some (.str ⟨l.toArray⟩)
  | .tup ds => (D.pdL ds).map .tuple
  | .lst ds => (D.pdL ds).map .list
  | .way ds => (D.pdL ds).map .tuple
  | _ => none
def D.pdL : List D → Option (List PyData)
  | [] => some []
  | d :: ds => match d.pd, D.pdL ds with
    | some x, some xs => some (x :: xs)
    | _, _ => none
end
mutual
def D.eqv : D → D → Bool
  | .non, .non => true
  | .bl a, .bl b => a == b
  | .bl a, .int j => (if a then 1 else 0) == j
  | .int i, .bl b => i == (if b then 1 else 0)
  | .int i, .int j => i == j
  | .str x, .str y => x == y
  | .lst xs, .lst ys => D.eqvL xs ys
  | .tup xs, .tup ys => D.eqvL xs ys
  | .way xs, .tup ys => D.eqvL xs ys
  | .tup xs, .way ys => D.eqvL xs ys
  | .way xs, .way ys => D.eqvL xs ys
  | _, _ => false
def D.eqvL : List D → List D → Bool
  | [], [] => true
  | x :: xs, y :: ys => D.eqv x y && D.eqvL xs ys
  | _, _ => false
end
mutual
def D.same : D → D → Bool
  | .non, .non => true
  | .bl a, .bl b => a == b
  | .int i, .int j => i == j
  | .str x, .str y => x == y
  | .tup xs, .tup ys => D.sameL xs ys
  | .lst xs, .lst ys => D.sameL xs ys
  | .way xs, .way ys => D.sameL xs ys
  | .dic t ks vs, .dic u js ws => t == u && (D.sameL ks js && D.sameL vs ws)
  | .ins C ns ds, .ins C' ms es => C == C' && (ns == ms && D.sameL ds es)
  | .exn C ns ds, .exn C' ms es => C == C' && (ns == ms && D.sameL ds es)
  | .ref i, .ref j => i == j
  | .scr x, .scr y => x == y
  | _, _ => false
def D.sameL : List D → List D → Bool
  | [], [] => true
  | x :: xs, y :: ys => D.same x y && D.sameL xs ys
  | _, _ => false
end
mutual
def D.dat : Nat → D → Bool
  | _, .non => true
  | _, .bl _ => true
  | _, .int _ => true
  | _, .str _ => true
  | n, .tup ds => D.datL n ds
  | n, .lst ds => D.datL n ds
  | n, .way ds => D.datL n ds
  | _, _ => false
def D.datL : Nat → List D → Bool
  | _, [] => true
  | n, d :: ds => decide (0 < n) && (d.dat (n - 1) && D.datL n ds)
end
def vw (S : Store) : D → D
  | .ref i => match S[i]? with
    | some (.lst ds) => .lst ds
    | some (.dic t ks vs) => .dic t ks vs
    | _ => .ref i
  | d => d
def res (n : Nat) (S : Store) : Nat → D → D
  | 0, d => d
  | k + 1, .ref i => if i < n then .ref i else match S[i]? with
    | some (.lst ds) => .lst (ds.map (res n S k))
    | some (.dic t ks vs) => .dic t ks (vs.map (res n S k))
    | some (.ins C ns ds) => .ins C ns (ds.map (res n S k))
    | none => .ref i
  | k + 1, .tup ds => .tup (ds.map (res n S k))
  | k + 1, .lst ds => .lst (ds.map (res n S k))
  | k + 1, .way ds => .way (ds.map (res n S k))
  | k + 1, .ins C ns ds => .ins C ns (ds.map (res n S k))
  | _ + 1, d => d
inductive R (α : Type) where
  | ok (a : α) (S : Store) | err (C : String) (ns : List String) (ds : List D) (S : Store) | bad
def R.bind {α β : Type} (r : R α) (f : α → Store → R β) : R β := match r with
  | .ok a S => f a S
  | .err C ns ds S => .err C ns ds S
  | .bad => .bad
def R.of {α : Type} (S : Store) : Option α → R α
  | some a => .ok a S
  | none => .bad
def R.calm {α : Type} : R α → R α
  | .err _ _ _ _ => .bad
  | r => r
inductive BO where | add | sub | mul | fdiv | mod | pow | shl
inductive CO where | eq | ne | lt | le | gt | ge | isIn | notIn | is | isNot
inductive FB where | len | str | int | tuple | wtuple | list | sorted | min | max | abs | sum | all | lenSet | sortedSet
inductive MB where | join | split | partition | startswith | index | count | append | pop | popAt | insert | reverse | extend | remove | clear | get
inductive Tg where | one (i : Nat) | many (is : List Nat)
def Tg.slots : Tg → List Nat
  | .one i => [i]
  | .many is => is
def wipeE (ρ : Env) : List Nat → Env
  | [] => ρ
  | v :: vs => (wipeE ρ vs).set v none
mutual
inductive E where
  | no | var (i : Nat) | non | bl (b : Bool) | int (i : Int) | str (l : List Nat)
  | gcon (x : String)
  | tup (es : Es) | lst (es : Es) | newl (es : Es) | newdK | newdT
  | bop (o : BO) (a b : E) | neg (a : E)
  | cmp (o : CO) (a b : E) | chain (o p : CO) (a b c : E)
  | and (es : Es) | or (es : Es) | not (a : E) | ife (c a b : E)
  | idx (a i : E) | slAll (a : E) | slLo (a lo : E) | slHi (a hi : E) | sl (a lo hi : E)
  | bi (f : FB) (es : Es) | bm (m : MB) (a : E) (es : Es)
  | isi (a : E) (cs : List String) (tp : Bool)
  | call (f : String) (give : Bool) (es : Es)
  | make (C : String) (es : Es)
  | meth (a : E) (m : String) (give : Bool) (es : Es)
  | fld (a : E) (f : String)
  | xis (cs : List String) (tp : Bool) | xfld (f : String) | hcall (f : String)
  | lc (elt : E) (tg : Tg) (it : It) | lcIf (elt : E) (tg : Tg) (it : It) (c : E)
  | newlc (elt : E) (tg : Tg) (it : It) | newlcIf (elt : E) (tg : Tg) (it : It) (c : E)
inductive Es where
  | nil | cons (e : E) (es : Es)
inductive It where
  | val (e : E) | range (es : Es) | enum (e : E) | zip (a b : E)
end
def Es.len : Es → Nat
  | .nil => 0
  | .cons _ es => es.len + 1
mutual
inductive St where
  | set (t : Tg) (e : E) | par (i j : Nat) (a b : E)
  | setIdx (a i v : E) | setFld (a : E) (f : String) (v : E) | aug (i : Nat) (e : E)
  | ex (e : E) | ite (c : E) (a b : Ss)
  | for_ (t : Tg) (it : It) (b : Ss) | whl (c : E) (b : Ss)
  | no | ret (e : E) | ret0 | brk | cont | pass
  | raise (C : String) (es : Es)
  | try_ (b : Ss) (C : String) (as : Option Nat) (h : Ss) (els : Ss)
inductive Ss where
  | nil | cons (s : St) (ss : Ss)
end
structure Ctx where
  call : String → Bool → List D → Nat → Store → R D
  hcall : String → String × List String × List D → Nat → Store → R D
  exc : Option (String × List String × List D)
  make : String → List D → Nat → Store → R D
  meth : String → String → Option String
  con : String → Option D
  isa : String → String → Option Bool
  fuel : Nat
def LIM : Nat := 10000000
def catOk (a b : Nat) : Bool := decide (a + b ≤ LIM)
def bop : BO → D → D → Option D
  | .add, .int a, .int b => some (.int (a + b))
  | .add, .str a, .str b => if catOk a.length b.length then some (.str (a ++ b)) else none
  | .add, .lst a, .lst b => if catOk a.length b.length then some (.lst (a ++ b)) else none
  | .add, .tup a, .tup b => if catOk a.length b.length then some (.tup (a ++ b)) else none
  | .add, .tup a, .way b => if catOk a.length b.length && !a.isEmpty && !b.isEmpty then some (.tup (a ++ b)) else none
  | .add, .way a, .tup b => if catOk a.length b.length && !a.isEmpty && !b.isEmpty then some (.tup (a ++ b)) else none
  | .sub, .int a, .int b => some (.int (a - b))
  | .mul, .int a, .int b => if a.natAbs < 2 ^ 64 ∨ b.natAbs < 2 ^ 64 then some (.int (a * b)) else none
  | .fdiv, .int a, .int b => if 0 < b ∧ b < 2 ^ 4000 then some (.int (a / b)) else none
  | .mod, .int a, .int b => if 0 < b then some (.int (a % b)) else none
  | .pow, .int a, .int b => if 0 ≤ b ∧ b ≤ 1000 ∧ a.natAbs < 2 ^ 64 then some (.int (a ^ b.toNat)) else none
  | .shl, .int a, .int b => if 0 ≤ b ∧ b ≤ 1000 ∧ a.natAbs < 2 ^ 64 then some (.int (a * 2 ^ b.toNat)) else none
  | _, _, _ => none
def dp : Nat := 20
def eqD (a b : D) : Option Bool := if a.dat dp && b.dat dp then some (D.eqv a b) else none
def nonP : PyData → Bool
  | .none => true
  | _ => false
def ltD (a b : D) : Option Bool := match a, b with
  | .int i, .int j => some (decide (i < j))
  | .str x, .str y => some (decide (x < y))
  | _, _ => if a.dat dp && b.dat dp then match a.pd, b.pd with
    | some p, some q => if PySem.W.alike p q && !nonP p then some (PySem.W.dataLt p q) else none
    | _, _ => none
    else none
def flatD : D → Bool
  | .int _ => true
  | .str _ => true
  | _ => false
def keyOf (t : Bool) (d : D) : Bool := match d with
  | .int _ => !t
  | .str _ => !t
  | .tup ds => t && ds.all flatD
  | _ => false
def lookD (k : D) : List D → List D → Option D
  | x :: ks, v :: vs => if D.eqv x k then some v else lookD k ks vs
  | _, _ => none
def inD (a b : D) : Option Bool := match b with
  | .str l => match a with
    | .str [c] => some (decide (c ∈ l))
    | _ => none
  | .lst ds => if a.dat dp && D.datL dp ds then some (ds.any fun z => D.eqv z a) else none
  | .tup ds => if a.dat dp && D.datL dp ds then some (ds.any fun z => D.eqv z a) else none
  | .way ds => if a.dat dp && D.datL dp ds then some (ds.any fun z => D.eqv z a) else none
  | .dic t ks vs => if keyOf t a then some (lookD a ks vs).isSome else none
  | _ => none
def isD (a b : D) : Option Bool := match b with
  | .non => some (match a with | .non => true | _ => false)
  | .bl k => match a with
    | .bl j => some (j == k)
    | _ => none
  | _ => none
def cmpD : CO → D → D → Option Bool
  | .eq, a, b => eqD a b
  | .ne, a, b => (eqD a b).map (!·)
  | .lt, a, b => ltD a b
  | .gt, a, b => ltD b a
  | .le, a, b => (ltD b a).map (!·)
  | .ge, a, b => (ltD a b).map (!·)
  | .isIn, a, b => inD a b
  | .notIn, a, b => (inD a b).map (!·)
  | .is, a, b => isD a b
  | .isNot, a, b => (isD a b).map (!·)
def truD : D → Option Bool
  | .non => some false
  | .bl b => some b
  | .int i => some (i != 0)
  | .str l => if l.length ≤ LIM then some (!l.isEmpty) else none
  | .tup ds => some (!ds.isEmpty)
  | .way ds => some (!ds.isEmpty)
  | .lst ds => some (!ds.isEmpty)
  | _ => none
def atD {α : Type} (l : List α) (i : Int) : Option α := if 0 ≤ i then l[i.toNat]? else if 0 ≤ i + l.length then l[(i + l.length).toNat]? else none
def idxD : D → D → Option D
  | .lst ds, .int i => atD ds i
  | .tup ds, .int i => atD ds i
  | .way ds, .int i => atD ds i
  | .str l, .int i => if l.length ≤ LIM then (atD l i).map fun c => .str [c] else none
  | .dic t ks vs, k => if keyOf t k then lookD k ks vs else none
  | .scr ns, .int i => (atD ns i).map .int
  | _, _ => none
def clipI (n : Nat) (v : Int) : Nat := if v < 0 then (max (v + n) 0).toNat else min v.toNat n
def cutL {α : Type} (l : List α) (lo hi : Option Int) : List α :=
  let i := match lo with | some v => clipI l.length v | none => 0
  let j := match hi with | some v => clipI l.length v | none => l.length
  (l.drop i).take (j - i)
def slD (lo hi : Option Int) : D → Option D
  | .lst ds => some (.lst (cutL ds lo hi))
  | .tup ds => some (.tup (cutL ds lo hi))
  | .str l => if l.length ≤ LIM then some (.str (cutL l lo hi)) else none
  | _ => none
def lenD : D → Option Nat
  | .lst ds => some ds.length
  | .tup ds => some ds.length
  | .way ds => some ds.length
  | .str l => if l.length ≤ LIM then some l.length else none
  | .dic false ks _ => some ks.length
  | .scr ns => some ns.length
  | _ => none
def strI (i : Int) : List Nat := (toString i).toList.map Char.toNat
def txts : List D → Option (List (List Nat))
  | [] => some []
  | .str l :: ds => (txts ds).map (l :: ·)
  | _ :: _ => none
def intsD : List D → Option (List Int)
  | [] => some []
  | .int i :: ds => (intsD ds).map (i :: ·)
  | _ :: _ => none
def bls : List D → Option (List Bool)
  | [] => some []
  | .bl b :: ds => (bls ds).map (b :: ·)
  | _ :: _ => none
def joinN (sep : List Nat) : List (List Nat) → List Nat
  | [] => []
  | [x] => x
  | x :: y :: r => x ++ sep ++ joinN sep (y :: r)
def splitN (c : Nat) : List Nat → List Nat → List (List Nat)
  | acc, [] => [acc]
  | acc, x :: r => if x = c then acc :: splitN c [] r else splitN c (acc ++ [x]) r
def parN (c : Nat) : List Nat → List Nat → Option (List Nat × List Nat)
  | _, [] => none
  | acc, x :: r => if x = c then some (acc, r) else parN c (acc ++ [x]) r
def alikeAllD (ps : List PyData) : Bool := ps.all fun p => ps.all fun q => PySem.W.alike p q
def sortOk (ps : List PyData) : Bool := (ps.all fun p => match p with | .tuple (_ :: _) => true | _ => false) || (ps.all fun p => match p with | .none => false | .tuple _ => false | _ => true)
def leD (a b : D) : Bool := !(ltD b a).getD false
def sortD (ds : List D) : Option (List D) :=
  if D.datL dp ds && decide (ds.length ≤ LIM) then match D.pdL ds with
    | some ps => if alikeAllD ps && sortOk ps then some (ds.mergeSort leD) else none
    | none => none
  else none
def firsts : List D → List D → List D
  | _, [] => []
  | seen, d :: ds => if seen.any fun z => D.eqv z d then firsts seen ds else d :: firsts (seen ++ [d]) ds
def minL : D → List D → D
  | m, [] => m
  | m, d :: ds => if (ltD d m).getD false then minL d ds else minL m ds
def maxL : D → List D → D
  | m, [] => m
  | m, d :: ds => if (ltD m d).getD false then maxL d ds else maxL m ds
def seqD : D → Option (List D)
  | .lst ds => some ds
  | .tup ds => some ds
  | .way ds => some ds
  | _ => none
def bestD (f : D → List D → D) : List D → Option D
  | [] => none
  | d :: ds => if D.datL dp (d :: ds) then match D.pdL (d :: ds) with
    | some ps => if alikeAllD ps then some (f d ds) else none
    | none => none
    else none
def fbD : FB → List D → Option D
  | .len, [d] => (lenD d).map fun (n : Nat) => D.int n
  | .str, [.int i] => if i.natAbs < 2 ^ 1000 then some (.str (strI i)) else none
  | .int, [.int i] => some (.int i)
  | .int, [.bl b] => some (.int (if b then 1 else 0))
  | .int, [.str l] => if l.length ≤ 640 then (intText? ⟨l.toArray⟩).map .int else none
  | .tuple, [.lst ds] => some (.tup ds)
  | .wtuple, [.lst ds] => some (.way ds)
  | .list, [.way ds] => some (.lst ds)
  | .tuple, [.tup ds] => some (.tup ds)
  | .list, [.lst ds] => some (.lst ds)
  | .list, [.tup ds] => some (.lst ds)
  | .min, [.int a, .int b] => some (.int (if b < a then b else a))
  | .max, [.int a, .int b] => some (.int (if b > a then b else a))
  | .abs, [.int a] => some (.int (if a < 0 then -a else a))
  | .sum, [.lst ds] => (intsD ds).map fun l => .int l.sum
  | .all, [.lst ds] => (bls ds).map fun l => .bl (l.all id)
  | _, _ => none
def remAt {α : Type} (l : List α) (i : Int) : Option (α × List α) :=
  match atD l i with
  | some x => some (x, l.eraseIdx (if 0 ≤ i then i.toNat else (i + l.length).toNat))
  | none => none
def placeD (x : D) : List D → Option Nat
  | [] => none
  | d :: ds => if D.eqv d x then some 0 else (placeD x ds).map (· + 1)
def tD (x : Str) : D := .str x.cps.toList
def sT (l : List Nat) : Str := ⟨l.toArray⟩
def kindD : D → Nat
  | .str _ => 1
  | .lst _ => 2
  | .way _ => 3
  | _ => 0
def mbId : MB → Nat → Option String
  | .join, 1 => some "str.join"
  | .split, 1 => some "str.split"
  | .partition, 1 => some "str.partition"
  | .startswith, 1 => some "str.startswith"
  | .index, 2 => some "list.index"
  | .index, 3 => some "tuple.index"
  | .count, 2 => some "list.count"
  | .append, 2 => some "list.append"
  | .extend, 2 => some "list.extend"
  | .pop, 2 => some "list.pop"
  | .popAt, 2 => some "list.pop"
  | .insert, 2 => some "list.insert"
  | .reverse, 2 => some "list.reverse"
  | .clear, 2 => some "list.clear"
  | .remove, 2 => some "list.remove"
  | _, _ => none
def mbD : MB → D → List D → Option D
  | .join, .str sep, [.lst ds] => match txts ds with
    | some ls => if ((ls.map List.length).sum + ls.length * sep.length) ≤ LIM then some (tD (Txt.join (sT sep) (ls.map sT))) else none
    | none => none
  | .split, .str l, [.str [c]] => if l.length ≤ LIM then some (.lst ((Txt.split (sT l) (sT [c])).map tD)) else none
  | .partition, .str l, [.str [c]] => if l.length ≤ LIM then some (.tup [tD (Txt.partition (sT l) (sT [c])).1, tD (Txt.partition (sT l) (sT [c])).2.1, tD (Txt.partition (sT l) (sT [c])).2.2]) else none
  | .startswith, .str l, [.str p] => some (.bl (Txt.startswith (sT l) (sT p)))
  | .index, .lst ds, [x] => if x.dat dp && D.datL dp ds then (placeD x ds).map fun (n : Nat) => D.int n else none
  | .index, .way ds, [x] => if x.dat dp && D.datL dp ds then (placeD x ds).map fun (n : Nat) => D.int n else none
  | .count, .lst ds, [x] => if x.dat dp && D.datL dp ds then some (.int (ds.countP fun y => D.eqv y x : Nat)) else none
  | _, _, _ => none
def mcD : MB → List D → List D → List D → Option (D × List D)
  | .append, ds, [x], _ => if ds.length < LIM then some (.non, ds ++ [x]) else none
  | .extend, ds, [_], [.lst xs] => if ds.length + xs.length ≤ LIM then some (.non, ds ++ xs) else none
  | .pop, ds, [], _ => (ds[ds.length - 1]?).map fun x => (x, ds.dropLast)
  | .popAt, ds, [.int i], _ => if ds.length ≤ LIM then remAt ds i else none
  | .insert, ds, [.int i, x], _ => if ds.length < LIM ∧ 0 ≤ i ∧ i < 2 ^ 63 then some (.non, ds.take i.toNat ++ [x] ++ ds.drop i.toNat) else none
  | .reverse, ds, [], _ => some (.non, ds.reverse)
  | .clear, _, [], _ => some (.non, [])
  | .remove, ds, [_], [x] => if x.dat dp && D.datL dp ds then (placeD x ds).map fun n => (.non, ds.eraseIdx n) else none
  | _, _, _, _ => none
def MB.writes : MB → Bool
  | .append => true | .extend => true | .pop => true | .popAt => true | .insert => true | .reverse => true | .clear => true | .remove => true
  | _ => false
def putOk (b i : Nat) (v : D) : Bool := v.lim 0 || decide (b ≤ i)
def bmD (m : MB) (a : D) (xs : List D) (b : Nat) (S : Store) : R D :=
  if m.writes then match a with
    | .ref i => match S[i]? with
      | some (.lst ds) => match mcD m ds xs (xs.map (vw S)) with
        | some (r, ds') => if D.limL 0 xs || decide (b ≤ i) then .ok r (S.set i (.lst ds')) else .bad
        | none => .bad
      | _ => .bad
    | _ => .bad
  else R.of S (mbD m (vw S a) (xs.map (vw S)))
def asg (t : Tg) (d : D) (ρ : Env) : Option Env := match t with
  | .one i => some (ρ.set i (some d))
  | .many is => match d with
    | .tup ds => if ds.length = is.length then some ((is.zip ds).foldl (fun ρ p => ρ.set p.1 (some p.2)) ρ) else none
    | _ => none
def isaD (c : Ctx) (d : D) (C : String) : Option Bool := match d with
  | .non => some false
  | .bl _ => some (C == "bool" || C == "int")
  | .int _ => some (C == "int")
  | .str _ => some (C == "str")
  | .tup _ => some (C == "tuple")
  | .way _ => some (C == "tuple")
  | .lst _ => some (C == "list")
  | .dic _ _ _ => some (C == "dict")
  | .ins X _ _ => c.isa X C
  | .exn X _ _ => c.isa X C
  | _ => none
def isaAny (c : Ctx) (d : D) : List String → Option Bool
  | [] => some false
  | C :: r => match isaD c d C with
    | some true => some true
    | some false => isaAny c d r
    | none => none
def fldD (f : String) : List String → List D → Option D
  | n :: ns, d :: ds => if n = f then some d else fldD f ns ds
  | _, _ => none
def putD (f : String) (v : D) : List String → List D → List String × List D
  | n :: ns, d :: ds => if n = f then (n :: ns, v :: ds) else let r := putD f v ns ds; (n :: r.1, d :: r.2)
  | _, _ => ([f], [v])
def putK (k v : D) (ks vs : List D) : List D × List D :=
  if ks.any fun x => D.eqv x k then (ks, List.zipWith (fun x w => if D.eqv x k then v else w) ks vs) else (ks ++ [k], vs ++ [v])
def ofLim (n : Nat) (b : Bool) : Option Unit := if b then some () else none
structure Walk where
  items : List D
  held : List (Nat × List D)
def Walk.still (w : Walk) (S : Store) : Bool := w.held.all fun p => match S[p.1]? with
  | some (.lst ds) => D.sameL ds p.2
  | _ => false
def lcL (f : D → Env → Store → R (Option D)) (w : Walk) (ρ : Env) : List D → Store → R (List D)
  | [], S => if w.still S then .ok [] S else .bad
  | d :: ds, S => if w.still S then match f d ρ S with
    | .ok none S1 => lcL f w ρ ds S1
    | .ok (some x) S1 => match lcL f w ρ ds S1 with
      | .ok xs S2 => .ok (x :: xs) S2
      | _ => .bad
    | _ => .bad
    else .bad
def lcR (f : D → Env → Store → R (Option D)) (w : Walk) (ρ : Env) (S : Store) : R (List D) := if w.items.length ≤ LIM then lcL f w ρ w.items S else .bad
def ranges : List D → Option (List D)
  | [.int n] => if -10000000 ≤ n ∧ n ≤ 10000000 then some ((List.range n.toNat).map fun (k : Nat) => .int k) else none
  | [.int a, .int b] => if -10000000 ≤ a ∧ a ≤ 10000000 ∧ -10000000 ≤ b ∧ b ≤ 10000000 then some ((List.range (b - a).toNat).map fun (k : Nat) => .int (a + k)) else none
  | [.int a, .int b, .int c] => if c = -1 ∧ -10000000 ≤ a ∧ a ≤ 10000000 ∧ -10000000 ≤ b ∧ b ≤ 10000000 then some ((List.range (a - b).toNat).map fun (k : Nat) => .int (a - k)) else none
  | _ => none
def listD (S : Store) (d : D) : Option (List D × List (Nat × List D)) := match d with
  | .lst ds => some (ds, [])
  | .ref i => match S[i]? with
    | some (.lst ds) => some (ds, [(i, ds)])
    | _ => none
  | _ => none
def walkD (S : Store) (d : D) : Option Walk := match d with
  | .tup ds => some ⟨ds, []⟩
  | .way ds => some ⟨ds, []⟩
  | .str l => some ⟨l.map fun c => .str [c], []⟩
  | .scr ns => some ⟨ns.map .int, []⟩
  | d => (listD S d).map fun p => ⟨p.1, p.2⟩
def numbered (k : Nat) : List D → List D
  | [] => []
  | d :: ds => .tup [.int k, d] :: numbered (k + 1) ds
def pairs : List D → List D → List D
  | x :: xs, y :: ys => .tup [x, y] :: pairs xs ys
  | _, _ => []
def isxAny (c : Ctx) (X : String) : List String → Option Bool
  | [] => some false
  | C :: r => match c.isa X C with
    | some true => some true
    | some false => isxAny c X r
    | none => none
mutual
def ev (c : Ctx) (b : Nat) : E → Env → Store → R D
  | .no, _, _ => .bad
  | .var i, ρ, S => match ρ[i]? with
    | some (some d) => .ok d S
    | _ => .bad
  | .non, _, S => .ok .non S
  | .bl k, _, S => .ok (.bl k) S
  | .int i, _, S => .ok (.int i) S
  | .str l, _, S => .ok (.str l) S
  | .gcon x, _, S => R.of S (c.con x)
  | .tup es, ρ, S => (evs c b es ρ S).bind fun ds S1 => .ok (.tup ds) S1
  | .lst es, ρ, S => (evs c b es ρ S).bind fun ds S1 => .ok (.lst ds) S1
  | .newl es, ρ, S => (evs c b es ρ S).bind fun ds S1 => .ok (.ref S1.length) (S1 ++ [.lst ds])
  | .newdK, _, S => .ok (.ref S.length) (S ++ [.dic false [] []])
  | .newdT, _, S => .ok (.ref S.length) (S ++ [.dic true [] []])
  | .bop o x y, ρ, S => (ev c b x ρ S).bind fun d S1 => (ev c b y ρ S1).bind fun e S2 => R.of S2 (bop o (vw S2 d) (vw S2 e))
  | .neg x, ρ, S => (ev c b x ρ S).bind fun d S1 => match d with
    | .int i => .ok (.int (-i)) S1
    | _ => .bad
  | .cmp o x y, ρ, S => (ev c b x ρ S).bind fun d S1 => (ev c b y ρ S1).bind fun e S2 => R.of S2 ((cmpD o (vw S2 d) (vw S2 e)).map .bl)
  | .chain o p x y z, ρ, S => (ev c b x ρ S).bind fun d S1 => (ev c b y ρ S1).bind fun e S2 => match cmpD o (vw S2 d) (vw S2 e) with
    | some true => (ev c b z ρ S2).bind fun f S3 => R.of S3 ((cmpD p (vw S3 e) (vw S3 f)).map .bl)
    | some false => .ok (.bl false) S2
    | none => .bad
  | .and es, ρ, S => evAnd c b es ρ S
  | .or es, ρ, S => evOr c b es ρ S
  | .not x, ρ, S => (ev c b x ρ S).bind fun d S1 => R.of S1 ((truD (vw S1 d)).map fun k => .bl (!k))
  | .ife q x y, ρ, S => (ev c b q ρ S).bind fun d S1 => match truD (vw S1 d) with
    | some true => ev c b x ρ S1
    | some false => ev c b y ρ S1
    | none => .bad
  | .idx x i, ρ, S => (ev c b x ρ S).bind fun d S1 => (ev c b i ρ S1).bind fun e S2 => R.of S2 (idxD (vw S2 d) (vw S2 e))
  | .slAll x, ρ, S => (ev c b x ρ S).bind fun d S1 => R.of S1 (slD none none (vw S1 d))
  | .slLo x lo, ρ, S => (ev c b x ρ S).bind fun d S1 => (ev c b lo ρ S1).bind fun e S2 => match e with
    | .int i => R.of S2 (slD (some i) none (vw S2 d))
    | _ => .bad
  | .slHi x hi, ρ, S => (ev c b x ρ S).bind fun d S1 => (ev c b hi ρ S1).bind fun e S2 => match e with
    | .int i => R.of S2 (slD none (some i) (vw S2 d))
    | _ => .bad
  | .sl x lo hi, ρ, S => (ev c b x ρ S).bind fun d S1 => (ev c b lo ρ S1).bind fun e S2 => match e with
    | .int i => (ev c b hi ρ S2).bind fun f S3 => match f with
      | .int j => R.of S3 (slD (some i) (some j) (vw S3 d))
      | _ => .bad
    | _ => .bad
  | .bi f es, ρ, S => (evs c b es ρ S).bind fun ds S1 => R.of S1 (fbD f (ds.map (vw S1)))
  | .bm m x es, ρ, S => (ev c b x ρ S).bind fun d S1 => if (mbId m (kindD (vw S1 d))).isSome then (evs c b es ρ S1).bind fun ds S2 => if kindD (vw S1 d) = kindD (vw S2 d) then bmD m d ds b S2 else .bad else .bad
  | .isi x cs _, ρ, S => (ev c b x ρ S).bind fun d S1 => R.of S1 ((isaAny c (vw S1 d) cs).map .bl)
  | .call f g es, ρ, S => (evs c b es ρ S).bind fun ds S1 => c.call f g ds b S1
  | .make C es, ρ, S => (evs c b es ρ S).bind fun ds S1 => c.make C ds b S1
  | .meth x m g es, ρ, S => (ev c b x ρ S).bind fun d S1 => (evs c b es ρ S1).bind fun ds S2 => match d with
    | .ins C _ _ => match c.meth C m with
      | some f => c.call f g (d :: ds) b S2
      | none => .bad
    | .ref i => match S2[i]? with
      | some (.ins C _ _) => match c.meth C m with
        | some f => c.call f g (d :: ds) b S2
        | none => .bad
      | _ => .bad
    | _ => .bad
  | .fld x f, ρ, S => (ev c b x ρ S).bind fun d S1 => match d with
    | .ins _ ns ds => R.of S1 (fldD f ns ds)
    | .exn _ ns ds => R.of S1 (fldD f ns ds)
    | .ref i => match S1[i]? with
      | some (.ins _ ns ds) => R.of S1 (fldD f ns ds)
      | _ => .bad
    | _ => .bad
  | .xis cs _, _, S => match c.exc with
    | some x => R.of S ((isxAny c x.1 cs).map .bl)
    | none => .bad
  | .xfld f, _, S => match c.exc with
    | some x => R.of S (fldD f x.2.1 x.2.2)
    | none => .bad
  | .hcall f, _, S => match c.exc with
    | some x => c.hcall f x b S
    | none => .bad
  | .lc elt tg it, ρ, S => (evIt c b it ρ S).bind fun w S1 =>
      (lcR (fun d ρ S => match asg tg d ρ with | some ρ' => (ev c b elt ρ' S).bind fun x S' => .ok (some x) S' | none => .bad) w (wipeE ρ tg.slots) S1).bind fun ds S2 => .ok (.lst ds) S2
  | .lcIf elt tg it q, ρ, S => (evIt c b it ρ S).bind fun w S1 =>
      (lcR (fun d ρ S => match asg tg d ρ with
        | some ρ' => (ev c b q ρ' S).bind fun k S' => match truD (vw S' k) with
          | some true => (ev c b elt ρ' S').bind fun x S' => .ok (some x) S'
          | some false => .ok none S'
          | none => .bad
        | none => .bad) w (wipeE ρ tg.slots) S1).bind fun ds S2 => .ok (.lst ds) S2
  | .newlc elt tg it, ρ, S => (evIt c b it ρ S).bind fun w S1 =>
      (lcR (fun d ρ S => match asg tg d ρ with | some ρ' => (ev c b elt ρ' S).bind fun x S' => .ok (some x) S' | none => .bad) w (wipeE ρ tg.slots) S1).bind fun ds S2 => .ok (.ref S2.length) (S2 ++ [.lst ds])
  | .newlcIf elt tg it q, ρ, S => (evIt c b it ρ S).bind fun w S1 =>
      (lcR (fun d ρ S => match asg tg d ρ with
        | some ρ' => (ev c b q ρ' S).bind fun k S' => match truD (vw S' k) with
          | some true => (ev c b elt ρ' S').bind fun x S' => .ok (some x) S'
          | some false => .ok none S'
          | none => .bad
        | none => .bad) w (wipeE ρ tg.slots) S1).bind fun ds S2 => .ok (.ref S2.length) (S2 ++ [.lst ds])
def evs (c : Ctx) (b : Nat) : Es → Env → Store → R (List D)
  | .nil, _, S => .ok [] S
  | .cons e es, ρ, S => (ev c b e ρ S).bind fun d S1 => (evs c b es ρ S1).bind fun ds S2 => .ok (d :: ds) S2
def evAnd (c : Ctx) (b : Nat) : Es → Env → Store → R D
  | .nil, _, _ => .bad
  | .cons e .nil, ρ, S => ev c b e ρ S
  | .cons e (.cons e2 es), ρ, S => (ev c b e ρ S).bind fun d S1 => match truD (vw S1 d) with
    | some true => evAnd c b (.cons e2 es) ρ S1
    | some false => .ok d S1
    | none => .bad
def evOr (c : Ctx) (b : Nat) : Es → Env → Store → R D
  | .nil, _, _ => .bad
  | .cons e .nil, ρ, S => ev c b e ρ S
  | .cons e (.cons e2 es), ρ, S => (ev c b e ρ S).bind fun d S1 => match truD (vw S1 d) with
    | some false => evOr c b (.cons e2 es) ρ S1
    | some true => .ok d S1
    | none => .bad
def evIt (c : Ctx) (b : Nat) : It → Env → Store → R Walk
  | .val e, ρ, S => (ev c b e ρ S).bind fun d S1 => R.of S1 (walkD S1 d)
  | .range es, ρ, S => (evs c b es ρ S).bind fun ds S1 => R.of S1 ((ranges ds).map fun l => ⟨l, []⟩)
  | .enum e, ρ, S => (ev c b e ρ S).bind fun d S1 => R.of S1 ((listD S1 d).map fun l => ⟨numbered 0 l.1, l.2⟩)
  | .zip x y, ρ, S => (ev c b x ρ S).bind fun d S1 => (ev c b y ρ S1).bind fun e S2 => R.of S2 ((listD S2 d).bind fun l => (listD S2 e).map fun m => ⟨pairs l.1 m.1, l.2 ++ m.2⟩)
end
inductive Fl where | nx (ρ : Env) | rt (d : D) | bk (ρ : Env) | ct (ρ : Env)
inductive RS where
  | ok (f : Fl) (S : Store) | err (C : String) (ns : List String) (ds : List D) (ρ : Env) (S : Store) | bad
def R.then {α : Type} (r : R α) (ρ : Env) (f : α → Store → RS) : RS := match r with
  | .ok a S => f a S
  | .err C ns ds S => .err C ns ds ρ S
  | .bad => .bad
def RS.then (r : RS) (f : Env → Store → RS) : RS := match r with
  | .ok (.nx ρ) S => f ρ S
  | r => r
def forL (body : Env → Store → RS) (t : Tg) (w : Walk) : List D → Env → Store → RS
  | [], ρ, S => if w.still S then .ok (.nx ρ) S else .bad
  | d :: ds, ρ, S => if w.still S then match asg t d ρ with
    | none => .bad
    | some ρ1 => match body ρ1 S with
      | .ok (.nx ρ2) S2 => forL body t w ds ρ2 S2
      | .ok (.ct ρ2) S2 => forL body t w ds ρ2 S2
      | .ok (.bk ρ2) S2 => .ok (.nx ρ2) S2
      | .ok (.rt d) S2 => .ok (.rt d) S2
      | .err C ns es ρ2 S2 => .err C ns es ρ2 S2
      | .bad => .bad
    else .bad
def whlL (test : Env → Store → R D) (body : Env → Store → RS) : Nat → Env → Store → RS
  | 0, _, _ => .bad
  | n + 1, ρ, S => (test ρ S).then ρ fun d S1 => match truD (vw S1 d) with
    | some true => match body ρ S1 with
      | .ok (.nx ρ2) S2 => whlL test body n ρ2 S2
      | .ok (.ct ρ2) S2 => whlL test body n ρ2 S2
      | .ok (.bk ρ2) S2 => .ok (.nx ρ2) S2
      | .ok (.rt d) S2 => .ok (.rt d) S2
      | .err C ns es ρ2 S2 => .err C ns es ρ2 S2
      | .bad => .bad
    | some false => .ok (.nx ρ) S1
    | none => .bad
def RS.forget (i : Nat) : RS → RS
  | .ok (.nx ρ) S => .ok (.nx (ρ.set i none)) S
  | .ok (.ct ρ) S => .ok (.ct (ρ.set i none)) S
  | .ok (.bk ρ) S => .ok (.bk (ρ.set i none)) S
  | r => r
def RS.tried (r : RS) (isa : String → Option Bool) (as : Option Nat) (h : String → List String → List D → Env → Store → RS) (els : Env → Store → RS) : RS := match r with
  | .err X ns ds ρ1 S1 => match isa X with
    | some true => match as with
      | some i => (h X ns ds (ρ1.set i none) S1).forget i
      | none => h X ns ds ρ1 S1
    | some false => .err X ns ds ρ1 S1
    | none => .bad
  | r => r.then els
def storeK (b i : Nat) (k v : D) (S : Store) : Option Store := match S[i]? with
  | some (.dic t ks vs) => if keyOf t k && (putOk b i v && decide (ks.length < LIM)) then let r := putK k v ks vs; some (S.set i (.dic t r.1 r.2)) else none
  | some (.lst ds) => match k with
    | .int j => if putOk b i v then match atD ds j with
      | some _ => some (S.set i (.lst (ds.set (if 0 ≤ j then j.toNat else (j + ds.length).toNat) v)))
      | none => none
      else none
    | _ => none
  | _ => none
mutual
def exS (b : Nat) : St → Ctx → Env → Store → RS
  | .no, _, _, _ => .bad
  | .set t e, c, ρ, S => (ev c b e ρ S).then ρ fun d S1 => match asg t d ρ with
    | some ρ' => .ok (.nx ρ') S1
    | none => .bad
  | .par i j x y, c, ρ, S => (ev c b x ρ S).then ρ fun d S1 => (ev c b y ρ S1).then ρ fun e S2 => .ok (.nx ((ρ.set i (some d)).set j (some e))) S2
  | .setIdx x i v, c, ρ, S => (ev c b v ρ S).then ρ fun w S1 => (ev c b x ρ S1).then ρ fun d S2 => (ev c b i ρ S2).then ρ fun k S3 => match d with
    | .ref n => match storeK b n k w S3 with
      | some S4 => .ok (.nx ρ) S4
      | none => .bad
    | _ => .bad
  | .setFld x f v, c, ρ, S => (ev c b v ρ S).then ρ fun w S1 => (ev c b x ρ S1).then ρ fun d S2 => match d with
    | .ref n => match S2[n]? with
      | some (.ins C ns ds) => if putOk b n w && decide (ns.length < 900) then let r := putD f w ns ds; .ok (.nx ρ) (S2.set n (.ins C r.1 r.2)) else .bad
      | _ => .bad
    | _ => .bad
  | .aug i e, c, ρ, S => match ρ[i]? with
    | some (some x) => (ev c b e ρ S).then ρ fun d S1 => match x, d with
      | .int p, .int q => .ok (.nx (ρ.set i (some (.int (p + q))))) S1
      | _, _ => .bad
    | _ => .bad
  | .ex e, c, ρ, S => (ev c b e ρ S).then ρ fun _ S1 => .ok (.nx ρ) S1
  | .ite q x y, c, ρ, S => (ev c b q ρ S).then ρ fun d S1 => match truD (vw S1 d) with
    | some true => exs b x c ρ S1
    | some false => exs b y c ρ S1
    | none => .bad
  | .for_ t it body, c, ρ, S => (evIt c b it ρ S).then ρ fun w S1 => forL (fun ρ S => exs b body c ρ S) t w w.items ρ S1
  | .whl q body, c, ρ, S => whlL (fun ρ S => ev c b q ρ S) (fun ρ S => exs b body c ρ S) c.fuel ρ S
  | .ret e, c, ρ, S => (ev c b e ρ S).then ρ fun d S1 => .ok (.rt d) S1
  | .ret0, _, _, S => .ok (.rt .non) S
  | .brk, c, ρ, S => .ok (.bk ρ) S
  | .cont, c, ρ, S => .ok (.ct ρ) S
  | .pass, c, ρ, S => .ok (.nx ρ) S
  | .raise C es, c, ρ, S => (evs c b es ρ S).then ρ fun ds S1 => match c.make C ds b S1 with
    | .ok (.exn C' ns fs) S2 => .err C' ns fs ρ S2
    | _ => .bad
  | .try_ body C as h els, c, ρ, S => RS.tried (exs b body c ρ S) (fun X => c.isa X C) as (fun X ns ds ρ1 S1 => exs b h (match as with | some _ => { c with exc := some (X, ns, ds) } | none => c) ρ1 S1) (fun ρ1 S1 => exs b els c ρ1 S1)
def exs (b : Nat) : Ss → Ctx → Env → Store → RS
  | .nil, _, ρ, S => .ok (.nx ρ) S
  | .cons s ss, c, ρ, S => (exS b s c ρ S).then fun ρ1 S1 => exs b ss c ρ1 S1
end
structure Fn where
  np : Nat
  names : List String
  body : Ss
  keep : Bool := false
def fin (keep give : Bool) (n : Nat) (S : Store) (d : D) : R D :=
  if keep then .ok d S else
  if give then .bad
  else let r := res n S 8 d; if r.lim n then .ok r (S.take n) else .bad
def runFn (c : Ctx) (f : Fn) (give : Bool) (ρ : Env) (b : Nat) (S : Store) : R D :=
    match exs (if f.keep then b else S.length) f.body c ρ S with
    | .ok (.nx _) S' => fin f.keep give S.length S' .non
    | .ok (.rt d) S' => fin f.keep give S.length S' d
    | .err C ns ds _ S' => if f.keep then .err C ns ds S' else if D.limL S.length ds then .err C ns ds (S'.take S.length) else .bad
    | _ => .bad
def Fn.start (f : Fn) (args : List D) : Env := args.map some ++ List.replicate (f.names.length - f.np) none
structure Cl where
  kind : Nat
  init : Option String
structure Text where
  fns : String → Option Fn
  cls : String → Option Cl
  meth : String → String → Option String
  con : String → Option D
  isa : String → String → Option Bool
  flds : String → Option (List String)
  fuel : Nat
def makeD (T : Text) (call : String → Bool → List D → Nat → Store → R D) (C : String) (args : List D) (b : Nat) (S : Store) : R D := match T.cls C with
  | none => .bad
  | some cl => if cl.kind = 2 then match T.flds C with
      | some ns => if args.length = ns.length ∧ D.limL 0 args then .ok (.exn C ns args) S else .bad
      | none => .bad
    else if cl.kind = 3 then (match args with
      | [.str _] => .ok (.exn C [] []) S
      | _ => .bad)
    else match cl.init with
    | none => .bad
    | some f => match call f false (.ref S.length :: args) b (S ++ [.ins C [] []]) with
      | .ok .non S' => if cl.kind = 1 then .ok (.ref S.length) S' else match S'[S.length]? with
        | some (.ins C' ns ds) => if S'.length = S.length + 1 ∧ D.limL 0 ds then .ok (.ins C' ns ds) (S'.take S.length) else .bad
        | _ => .bad
      | .err X ns ds S' => if cl.kind = 1 then .err X ns ds S' else .bad
      | _ => .bad
structure Calls where
  call : String → Bool → List D → Nat → Store → R D
  hcall : String → String × List String × List D → Nat → Store → R D
def ctxOf (T : Text) (F : Calls) : Ctx := { call := F.call, hcall := F.hcall, exc := none, make := makeD T F.call, meth := T.meth, con := T.con, isa := T.isa, fuel := T.fuel }
def callsN (T : Text) : Nat → Calls
  | 0 => ⟨fun _ _ _ _ _ => .bad, fun _ _ _ _ => .bad⟩
  | n + 1 => ⟨fun f g args b S => match T.fns f with
      | none => .bad
      | some d => if args.length = d.np then runFn (ctxOf T (callsN T n)) d g (d.start args) b S else .bad,
    fun f x b S => match T.fns f with
      | none => .bad
      | some d => if d.np = 1 ∧ 0 < d.names.length then runFn { ctxOf T (callsN T n) with exc := some x } d false (List.replicate d.names.length none) b S else .bad⟩
abbrev ctxN (T : Text) (n : Nat) : Ctx := ctxOf T (callsN T n)
abbrev callN (T : Text) (n : Nat) : String → Bool → List D → Nat → Store → R D := (callsN T n).call
end CL
namespace CL
open PySem PySem.Spec PyProof.Rows L2
abbrev nm (s : String) : Str := Str.ofString s
theorem nm_inj {a b : String} (h : nm a = nm b) : a = b := by
  have h' : (nm a).cps.toList = (nm b).cps.toList := by rw [h]
  rw [PyProof.Rows.signs_ofString, PyProof.Rows.signs_ofString] at h'
  have q : ∀ (l m : List Char), l.map Char.toNat = m.map Char.toNat → l = m := by
    intro l
    induction l with
    | nil => intro m e; cases m with
      | nil => rfl
      | cons _ _ => simp at e
    | cons c l ih => intro m e; cases m with
      | nil => simp at e
      | cons d m =>
        simp only [List.map_cons, List.cons.injEq] at e
        obtain ⟨e1, e2⟩ := e
        have e1' : c = d := by
          have := congrArg Char.ofNat e1
          simpa [Char.ofNat_toNat] using this
        rw [e1', ih m e2]
  exact String.toList_inj.mp (q _ _ h')
def kD : Key → D
  | .inl i => .int i
  | .inr x => .str x.cps.toList
def kDT (k : List Key) : D := .tup (k.map kD)
structure CA where
  f : String → Addr
  K : PySem.W.Frag
instance : CoeFun CA (fun _ => String → Addr) := ⟨CA.f⟩
def CA.kl (c : CA) (a : Addr) (ns : List Int) : Prop := ∃ (o : Obj) (its : Array Value) (n : Nat), c.K.lookup a = some o ∧ o.cls = .type "list" ∧ o.dict = none ∧ o.data = .seq its n ∧ its.size ≤ sizeLine ∧ Vals (ns.map V.int) its.toList
structure Sx where
  ca : CA
  hid : Addr → Prop
structure Fr (Y : Sx) (μ : List Addr) (a : Addr) : Prop where
  out : a ∉ μ
  vis : ¬ Y.hid a
section
variable (Y : Sx)
mutual
inductive Rep (μ : List Addr) (H : Hp) : V → D → Prop
  | non : Rep μ H .non .non
  | bl (b : Bool) : Rep μ H (.bl b) (.bl b)
  | int (i : Int) : Rep μ H (.int i) (.int i)
  | str (l : List Nat) : Rep μ H (.str ⟨l.toArray⟩) (.str l)
  | tup {a : Addr} {xs : List V} {ds : List D} (h : H a = some (.tup xs)) (n : Fr Y μ a) (r : RepL μ H xs ds) : Rep μ H (.ref a) (.tup ds)
  | lst {a : Addr} {xs : List V} {ds : List D} (h : H a = some (.lst xs)) (n : Fr Y μ a) (r : RepL μ H xs ds) : Rep μ H (.ref a) (.lst ds)
  | dicK {a : Addr} {kvs : List (Key × V)} {vs : List D} (h : H a = some (.dK kvs)) (n : Fr Y μ a) (r : RepL μ H (kvs.map (·.2)) vs) : Rep μ H (.ref a) (.dic false (kvs.map fun p => kD p.1) vs)
  | dicT {a : Addr} {kvs : List (List Key × V)} {vs : List D} (h : H a = some (.dT kvs)) (n : Fr Y μ a) (r : RepL μ H (kvs.map (·.2)) vs) : Rep μ H (.ref a) (.dic true (kvs.map fun p => kDT p.1) vs)
  | ins {a dx : Addr} {fs : List (Str × V)} {C : String} {ns : List String} {ds : List D} (h : H a = some (.ins (Y.ca C) dx fs)) (n : Fr Y μ a) (hn : fs.map (·.1) = ns.map nm) (r : RepL μ H (fs.map (·.2)) ds) : Rep μ H (.ref a) (.ins C ns ds)
  | ref {a : Addr} {i : Nat} (h : μ[i]? = some a) : Rep μ H (.ref a) (.ref i)
  | scr {a : Addr} {ns : List Int} (h : (∃ o, H a = some (.frz o (.lst (ns.map V.int))) ∧ Fr Y μ a) ∨ Y.ca.kl a ns) : Rep μ H (.ref a) (.scr ns)
  | way {a : Addr} {o : Obj} {xs : List V} {ds : List D} (h : H a = some (.frz o (.tup xs))) (ho : o.dict = none) (n : Fr Y μ a) (r : RepL μ H xs ds) : Rep μ H (.ref a) (.way ds)
inductive RepL (μ : List Addr) (H : Hp) : List V → List D → Prop
  | nil : RepL μ H [] []
  | cons {v : V} {vs : List V} {d : D} {ds : List D} : Rep μ H v d → RepL μ H vs ds → RepL μ H (v :: vs) (d :: ds)
end
inductive CellOk (μ : List Addr) (H : Hp) (a : Addr) : Cell → Prop
  | lst {xs : List V} {ds : List D} (h : H a = some (.lst xs)) (r : RepL Y μ H xs ds) : CellOk μ H a (.lst ds)
  | dicK {kvs : List (Key × V)} {vs : List D} (h : H a = some (.dK kvs)) (r : RepL Y μ H (kvs.map (·.2)) vs) : CellOk μ H a (.dic false (kvs.map fun p => kD p.1) vs)
  | dicT {kvs : List (List Key × V)} {vs : List D} (h : H a = some (.dT kvs)) (r : RepL Y μ H (kvs.map (·.2)) vs) : CellOk μ H a (.dic true (kvs.map fun p => kDT p.1) vs)
  | ins {dx : Addr} {fs : List (Str × V)} {C : String} {ns : List String} {ds : List D} (h : H a = some (.ins (Y.ca C) dx fs)) (hn : fs.map (·.1) = ns.map nm) (r : RepL Y μ H (fs.map (·.2)) ds) : CellOk μ H a (.ins C ns ds)
structure World (Bs : List Nat) (μ : List Addr) (H : Hp) (S : Store) : Prop where
  len : μ.length = S.length
  nd : μ.Nodup
  cells : ∀ (i : Nat) (a : Addr) (c : Cell), μ[i]? = some a → S[i]? = some c → CellOk Y μ H a c
  lims : ∀ (i : Nat) (c : Cell), S[i]? = some c → ∀ b ∈ Bs, i < b → c.lim b = true
  bs : ∀ b ∈ Bs, b ≤ S.length
  hidT : ∀ a, Y.hid a → ∃ o, H a = some o
  hidC : ∀ a ∈ μ, ¬ Y.hid a
structure EnvOk (μ : List Addr) (H : Hp) (σ : L2.St) (ρ : Env) : Prop where
  len : ρ.length = σ.length
  at_ : ∀ (i : Nat) (d : D), ρ[i]? = some (some d) → ∃ v, σ[i]? = some (some v) ∧ Rep Y μ H v d
end
structure Ext (μ : List Addr) (H : Hp) (μ' : List Addr) (H' : Hp) : Prop where
  pre : ∃ r, μ' = μ ++ r
  keep : ∀ a o, a ∉ μ → H a = some o → H' a = some o
  new : ∀ a, a ∈ μ' → a ∉ μ → H a = none
theorem Ext.refl (μ : List Addr) (H : Hp) : Ext μ H μ H := ⟨⟨[], by simp⟩, fun _ _ _ h => h, fun _ h n => absurd h n⟩
theorem Ext.trans {μ μ1 μ2 : List Addr} {H H1 H2 : Hp} (a : Ext μ H μ1 H1) (b : Ext μ1 H1 μ2 H2) : Ext μ H μ2 H2 where
  pre := by
    obtain ⟨r, e⟩ := a.pre
    obtain ⟨r', e'⟩ := b.pre
    exact ⟨r ++ r', by rw [e', e, List.append_assoc]⟩
  keep := fun x o n h => b.keep x o (fun m => by rw [a.new x m n] at h; cases h) (a.keep x o n h)
  new := fun x m n => by
    by_cases h : x ∈ μ1
    · exact a.new x h n
    · cases e : H x with
      | none => rfl
      | some o =>
        have := a.keep x o n e
        rw [b.new x m h] at this; cases this
theorem Ext.mem {μ μ' : List Addr} {H H' : Hp} (e : Ext μ H μ' H') {a : Addr} (h : a ∈ μ) : a ∈ μ' := by
  obtain ⟨r, q⟩ := e.pre
  rw [q]; exact List.mem_append_left _ h
theorem Ext.get {μ μ' : List Addr} {H H' : Hp} (e : Ext μ H μ' H') {i : Nat} {a : Addr} (h : μ[i]? = some a) : μ'[i]? = some a := by
  obtain ⟨r, q⟩ := e.pre
  have hl := (List.getElem?_eq_some_iff.mp h).1
  rw [q, List.getElem?_append_left hl]; exact h
theorem Ext.of_same {μ : List Addr} {H H' : Hp} (s : ∀ a o, H a = some o → H' a = some o) : Ext μ H μ H' := ⟨⟨[], by simp⟩, fun a o _ h => s a o h, fun _ h n => absurd h n⟩
theorem Ext.laid {μ : List Addr} {H : Hp} {p : Addr} {o : HO} (hp : H p = none) : Ext μ H μ (upd H p o) := .of_same fun a u h => by rw [upd_ne (ne_of_none h hp)]; exact h
theorem Ext.wrote {μ : List Addr} {H : Hp} {x : Addr} {o : HO} (hx : x ∈ μ) : Ext μ H μ (upd H x o) := ⟨⟨[], by simp⟩, fun a u n h => by rw [upd_ne (fun e => n (by rw [e]; exact hx))]; exact h, fun _ h n => absurd h n⟩
theorem Ext.cell {μ : List Addr} {H : Hp} {p : Addr} {o : HO} (hp : H p = none) : Ext μ H (μ ++ [p]) (upd H p o) := ⟨⟨[p], rfl⟩, fun a u _ h => by rw [upd_ne (ne_of_none h hp)]; exact h, fun a h n => by
  rcases List.mem_append.mp h with h | h
  · exact absurd h n
  · have : a = p := by simpa using h
    rw [this]; exact hp⟩
section
variable {Y : Sx} {μ μ' : List Addr} {H H' : Hp}
theorem Ext.not_mem (e : Ext μ H μ' H') {a : Addr} {o : HO} (n : a ∉ μ) (h : H a = some o) : a ∉ μ' := fun m => by rw [e.new a m n] at h; cases h
structure Up (Y : Sx) (H : Hp) (Y' : Sx) : Prop where
  ca : Y'.ca = Y.ca
  hid : ∀ a, Y'.hid a → Y.hid a ∨ H a = none
theorem Up.refl (Y : Sx) (H : Hp) : Up Y H Y := ⟨rfl, fun _ h => .inl h⟩
variable {Y' : Sx}
theorem Fr.move (e : Ext μ H μ' H') (u : Up Y H Y') {a : Addr} {o : HO} (n : Fr Y μ a) (h : H a = some o) : Fr Y' μ' a :=
  ⟨e.not_mem n.out h, fun z => (u.hid a z).elim n.vis fun q => by rw [q] at h; cases h⟩
mutual
theorem Rep.move (e : Ext μ H μ' H') (u : Up Y H Y') : ∀ {v : V} {d : D}, Rep Y μ H v d → Rep Y' μ' H' v d
  | _, _, .non => .non
  | _, _, .bl b => .bl b
  | _, _, .int i => .int i
  | _, _, .str l => .str l
  | _, _, .tup h n r => .tup (e.keep _ _ n.out h) (n.move e u h) (r.move e u)
  | _, _, .lst h n r => .lst (e.keep _ _ n.out h) (n.move e u h) (r.move e u)
  | _, _, .scr h => .scr (h.imp (fun ⟨o, h, n⟩ => ⟨o, e.keep _ _ n.out h, n.move e u h⟩) (fun h => by rw [u.ca]; exact h))
  | _, _, .way h ho n r => .way (e.keep _ _ n.out h) ho (n.move e u h) (r.move e u)
  | _, _, .dicK h n r => .dicK (e.keep _ _ n.out h) (n.move e u h) (r.move e u)
  | _, _, .dicT h n r => .dicT (e.keep _ _ n.out h) (n.move e u h) (r.move e u)
  | _, _, .ins h n hn r => .ins (by rw [u.ca]; exact e.keep _ _ n.out h) (n.move e u h) hn (r.move e u)
  | _, _, .ref h => .ref (e.get h)
theorem RepL.move (e : Ext μ H μ' H') (u : Up Y H Y') : ∀ {vs : List V} {ds : List D}, RepL Y μ H vs ds → RepL Y' μ' H' vs ds
  | _, _, .nil => .nil
  | _, _, .cons h t => .cons (h.move e u) (t.move e u)
end
theorem Rep.ext (e : Ext μ H μ' H') {v : V} {d : D} (r : Rep Y μ H v d) : Rep Y μ' H' v d := r.move e (.refl _ _)
theorem RepL.ext (e : Ext μ H μ' H') {vs : List V} {ds : List D} (r : RepL Y μ H vs ds) : RepL Y μ' H' vs ds := r.move e (.refl _ _)
theorem RepL.length : ∀ {vs : List V} {ds : List D}, RepL Y μ H vs ds → vs.length = ds.length
  | _, _, .nil => rfl
  | _, _, .cons _ t => by simp [t.length]
theorem RepL.append : ∀ {vs ws : List V} {ds es : List D}, RepL Y μ H vs ds → RepL Y μ H ws es → RepL Y μ H (vs ++ ws) (ds ++ es)
  | _, _, _, _, .nil, h => h
  | _, _, _, _, .cons h t, q => .cons h (t.append q)
theorem RepL.get : ∀ {vs : List V} {ds : List D} {i : Nat} {d : D}, RepL Y μ H vs ds → ds[i]? = some d → ∃ v, vs[i]? = some v ∧ Rep Y μ H v d
  | _, _, _, _, .nil, e => by simp at e
  | _, _, 0, _, .cons h _, e => by simp at e; subst e; exact ⟨_, rfl, h⟩
  | _, _, i + 1, _, .cons _ t, e => by
    obtain ⟨v, h1, h2⟩ := t.get (i := i) (by simpa using e)
    exact ⟨v, by simpa using h1, h2⟩
theorem RepL.get' : ∀ {vs : List V} {ds : List D} {i : Nat} {v : V}, RepL Y μ H vs ds → vs[i]? = some v → ∃ d, ds[i]? = some d ∧ Rep Y μ H v d
  | _, _, _, _, .nil, e => by simp at e
  | _, _, 0, _, .cons h _, e => by simp at e; subst e; exact ⟨_, rfl, h⟩
  | _, _, i + 1, _, .cons _ t, e => by
    obtain ⟨v, h1, h2⟩ := t.get' (i := i) (by simpa using e)
    exact ⟨v, by simpa using h1, h2⟩
theorem RepL.take : ∀ {vs : List V} {ds : List D} (n : Nat), RepL Y μ H vs ds → RepL Y μ H (vs.take n) (ds.take n)
  | _, _, 0, _ => .nil
  | _, _, _ + 1, .nil => .nil
  | _, _, n + 1, .cons h t => .cons h (t.take n)
theorem RepL.drop : ∀ {vs : List V} {ds : List D} (n : Nat), RepL Y μ H vs ds → RepL Y μ H (vs.drop n) (ds.drop n)
  | _, _, 0, h => h
  | _, _, _ + 1, .nil => .nil
  | _, _, n + 1, .cons _ t => t.drop n
theorem RepL.set : ∀ {vs : List V} {ds : List D} {v : V} {d : D} (i : Nat), RepL Y μ H vs ds → Rep Y μ H v d → RepL Y μ H (vs.set i v) (ds.set i d)
  | _, _, _, _, _, .nil, _ => .nil
  | _, _, _, _, 0, .cons _ t, h => .cons h t
  | _, _, _, _, i + 1, .cons h t, q => .cons h (t.set i q)
theorem RepL.eraseIdx : ∀ {vs : List V} {ds : List D} (i : Nat), RepL Y μ H vs ds → RepL Y μ H (vs.eraseIdx i) (ds.eraseIdx i)
  | _, _, _, .nil => .nil
  | _, _, 0, .cons _ t => t
  | _, _, i + 1, .cons h t => .cons h (t.eraseIdx i)
theorem RepL.reverse : ∀ {vs : List V} {ds : List D}, RepL Y μ H vs ds → RepL Y μ H vs.reverse ds.reverse
  | _, _, .nil => .nil
  | _, _, .cons h t => by rw [List.reverse_cons, List.reverse_cons]; exact t.reverse.append (.cons h .nil)
theorem RepL.nil_iff {vs : List V} {ds : List D} (r : RepL Y μ H vs ds) : vs.isEmpty = ds.isEmpty := by cases r <;> rfl
variable {Bs : List Nat} {S : Store}
theorem CellOk.there {a : Addr} {c : Cell} (h : CellOk Y μ H a c) : ∃ o, H a = some o ∧ Mut (some o) := by
  cases h with
  | lst h _ => exact ⟨_, h, trivial⟩
  | dicK h _ => exact ⟨_, h, trivial⟩
  | dicT h _ => exact ⟨_, h, trivial⟩
  | ins h _ _ => exact ⟨_, h, trivial⟩
theorem World.there (w : World Y Bs μ H S) {a : Addr} (h : a ∈ μ) : ∃ o, H a = some o ∧ Mut (some o) := by
  obtain ⟨i, hi⟩ := List.getElem?_of_mem h
  have hl := (List.getElem?_eq_some_iff.mp hi).1
  rw [w.len] at hl
  exact (w.cells i a _ hi (List.getElem?_eq_getElem hl)).there
theorem World.out (w : World Y Bs μ H S) {p : Addr} (hp : H p = none) : p ∉ μ := fun m => by
  obtain ⟨o, h, _⟩ := w.there m
  rw [hp] at h; cases h
theorem World.fresh (w : World Y Bs μ H S) {p : Addr} (hp : H p = none) : Fr Y μ p := ⟨w.out hp, fun z => by
  obtain ⟨o, h⟩ := w.hidT p z
  rw [hp] at h; cases h⟩
theorem CellOk.move {a : Addr} {c : Cell} (e : Ext μ H μ' H') (u : Up Y H Y') (k : H' a = H a) (h : CellOk Y μ H a c) : CellOk Y' μ' H' a c := by
  cases h with
  | lst h r => exact .lst (k.trans h) (r.move e u)
  | dicK h r => exact .dicK (k.trans h) (r.move e u)
  | dicT h r => exact .dicT (k.trans h) (r.move e u)
  | ins h hn r => exact .ins (by rw [u.ca]; exact k.trans h) hn (r.move e u)
theorem CellOk.ext {a : Addr} {c : Cell} (e : Ext μ H μ' H') (k : H' a = H a) (h : CellOk Y μ H a c) : CellOk Y μ' H' a c := h.move e (.refl _ _) k
theorem World.same (w : World Y Bs μ H S) (s : ∀ a o, H a = some o → H' a = some o) : World Y Bs μ H' S :=
  ⟨w.len, w.nd, fun i a c h1 h2 => (w.cells i a c h1 h2).ext (.of_same s) (by
    obtain ⟨o, h, _⟩ := (w.cells i a c h1 h2).there
    rw [h]; exact s a o h), w.lims, w.bs, fun a z => let ⟨o, h⟩ := w.hidT a z; ⟨o, s a o h⟩, w.hidC⟩
theorem World.laid (w : World Y Bs μ H S) {p : Addr} {o : HO} (hp : H p = none) : World Y Bs μ (upd H p o) S :=
  w.same fun a u h => by rw [upd_ne (ne_of_none h hp)]; exact h
theorem EnvOk.move {σ : L2.St} {ρ : Env} (e : Ext μ H μ' H') (u : Up Y H Y') (h : EnvOk Y μ H σ ρ) : EnvOk Y' μ' H' σ ρ :=
  ⟨h.len, fun i d q => by
    obtain ⟨v, a, r⟩ := h.at_ i d q
    exact ⟨v, a, r.move e u⟩⟩
theorem EnvOk.ext {σ : L2.St} {ρ : Env} (e : Ext μ H μ' H') (h : EnvOk Y μ H σ ρ) : EnvOk Y μ' H' σ ρ := h.move e (.refl _ _)
theorem EnvOk.set {σ : L2.St} {ρ : Env} {v : V} {d : D} (h : EnvOk Y μ H σ ρ) (r : Rep Y μ H v d) (i : Nat) : EnvOk Y μ H (σ.set i (some v)) (ρ.set i (some d)) :=
  ⟨by simp [h.len], fun j e q => by
    by_cases hj : i = j
    · subst hj
      have hl : i < ρ.length := by
        have := (List.getElem?_eq_some_iff.mp q).1
        simpa using this
      rw [List.getElem?_set_self hl] at q
      simp only [Option.some.injEq] at q
      subst q
      exact ⟨v, List.getElem?_set_self (by rw [← h.len]; exact hl), r⟩
    · rw [List.getElem?_set_ne hj] at q
      obtain ⟨u, a, b⟩ := h.at_ j e q
      exact ⟨u, by rw [List.getElem?_set_ne hj]; exact a, b⟩⟩
theorem EnvOk.drop {σ : L2.St} {ρ : Env} {x : Option V} (h : EnvOk Y μ H σ ρ) (i : Nat) : EnvOk Y μ H (σ.set i x) (ρ.set i none) :=
  ⟨by simp [h.len], fun j e q => by
    by_cases hj : i = j
    · subst hj
      have hl : i < ρ.length := by
        have := (List.getElem?_eq_some_iff.mp q).1
        simpa using this
      rw [List.getElem?_set_self hl] at q
      cases q
    · rw [List.getElem?_set_ne hj] at q
      obtain ⟨u, a, b⟩ := h.at_ j e q
      exact ⟨u, by rw [List.getElem?_set_ne hj]; exact a, b⟩⟩
theorem D.limL_all (n : Nat) : ∀ ds : List D, D.limL n ds = ds.all (D.lim n)
  | [] => rfl
  | d :: ds => by rw [D.limL, D.limL_all n ds]; rfl
mutual
theorem D.lim_mono {m n : Nat} (h : m ≤ n) : ∀ d : D, d.lim m = true → d.lim n = true
  | .non, _ => rfl
  | .bl _, _ => rfl
  | .int _, _ => rfl
  | .str _, _ => rfl
  | .scr _, _ => rfl
  | .tup ds, q => by rw [D.lim] at *; exact D.limL_mono h ds q
  | .lst ds, q => by rw [D.lim] at *; exact D.limL_mono h ds q
  | .way ds, q => by rw [D.lim] at *; exact D.limL_mono h ds q
  | .dic _ ks vs, q => by
    rw [D.lim, Bool.and_eq_true] at *
    exact ⟨D.limL_mono h ks q.1, D.limL_mono h vs q.2⟩
  | .ins _ _ ds, q => by rw [D.lim] at *; exact D.limL_mono h ds q
  | .exn _ _ ds, q => by rw [D.lim] at *; exact D.limL_mono h ds q
  | .ref i, q => by
    rw [D.lim, decide_eq_true_eq] at *
    omega
theorem D.limL_mono {m n : Nat} (h : m ≤ n) : ∀ ds : List D, D.limL m ds = true → D.limL n ds = true
  | [], _ => rfl
  | d :: ds, q => by
    rw [D.limL, Bool.and_eq_true] at *
    exact ⟨D.lim_mono h d q.1, D.limL_mono h ds q.2⟩
end
theorem keys_lim (n : Nat) (kvs : List (Key × V)) : D.limL n (kvs.map fun p => kD p.1) = true := by
  rw [D.limL_all, List.all_map, List.all_eq_true]
  intro p _
  show (kD p.1).lim n = true
  cases p.1 <;> rfl
theorem keysT_lim (n : Nat) (kvs : List (List Key × V)) : D.limL n (kvs.map fun p => kDT p.1) = true := by
  rw [D.limL_all, List.all_map, List.all_eq_true]
  intro p _
  show (D.tup (p.1.map kD)).lim n = true
  rw [D.lim, D.limL_all, List.all_map, List.all_eq_true]
  intro k _
  show (kD k).lim n = true
  cases k <;> rfl
mutual
theorem Rep.lim : ∀ {v : V} {d : D}, Rep Y μ H v d → d.lim μ.length = true
  | _, _, .non => rfl
  | _, _, .bl _ => rfl
  | _, _, .int _ => rfl
  | _, _, .str _ => rfl
  | _, _, .tup _ _ r => by rw [D.lim]; exact r.lim
  | _, _, .lst _ _ r => by rw [D.lim]; exact r.lim
  | _, _, .dicK _ _ r => by rw [D.lim, Bool.and_eq_true]; exact ⟨keys_lim _ _, r.lim⟩
  | _, _, .dicT _ _ r => by rw [D.lim, Bool.and_eq_true]; exact ⟨keysT_lim _ _, r.lim⟩
  | _, _, .ins _ _ _ r => by rw [D.lim]; exact r.lim
  | _, _, .scr _ => rfl
  | _, _, .way _ _ _ r => by rw [D.lim]; exact r.lim
  | _, _, .ref h => by rw [D.lim, decide_eq_true_eq]; exact (List.getElem?_eq_some_iff.mp h).1
theorem RepL.lim : ∀ {vs : List V} {ds : List D}, RepL Y μ H vs ds → D.limL μ.length ds = true
  | _, _, .nil => rfl
  | _, _, .cons h t => by rw [D.limL, Bool.and_eq_true]; exact ⟨h.lim, t.lim⟩
end
theorem CellOk.lim {a : Addr} {c : Cell} (h : CellOk Y μ H a c) : c.lim μ.length = true := by
  cases h with
  | lst _ r => exact r.lim
  | dicK _ r => rw [Cell.lim, Bool.and_eq_true]; exact ⟨keys_lim _ _, r.lim⟩
  | dicT _ r => rw [Cell.lim, Bool.and_eq_true]; exact ⟨keysT_lim _ _, r.lim⟩
  | ins _ _ r => exact r.lim
theorem Fr.cut {n : Nat} {a : Addr} (m : Fr Y μ a) : Fr Y (μ.take n) a := ⟨fun z => m.out (List.mem_of_mem_take z), m.vis⟩
mutual
theorem Rep.cut {n : Nat} : ∀ {v : V} {d : D}, Rep Y μ H v d → d.lim n = true → Rep Y (μ.take n) H v d
  | _, _, .non, _ => .non
  | _, _, .bl b, _ => .bl b
  | _, _, .int i, _ => .int i
  | _, _, .str l, _ => .str l
  | _, _, .tup h m r, q => .tup h (m.cut) (r.cut (by rw [D.lim] at q; exact q))
  | _, _, .lst h m r, q => .lst h (m.cut) (r.cut (by rw [D.lim] at q; exact q))
  | _, _, .dicK h m r, q => .dicK h (m.cut) (r.cut (by rw [D.lim, Bool.and_eq_true] at q; exact q.2))
  | _, _, .dicT h m r, q => .dicT h (m.cut) (r.cut (by rw [D.lim, Bool.and_eq_true] at q; exact q.2))
  | _, _, .ins h m hn r, q => .ins h (m.cut) hn (r.cut (by rw [D.lim] at q; exact q))
  | _, _, .scr h, _ => .scr (h.imp (fun ⟨o, h, n⟩ => ⟨o, h, n.cut⟩) id)
  | _, _, .way h ho m r, q => .way h ho (m.cut) (r.cut (by rw [D.lim] at q; exact q))
  | _, _, .ref h, q => .ref (by rw [D.lim, decide_eq_true_eq] at q; rw [List.getElem?_take_of_lt q]; exact h)
theorem RepL.cut {n : Nat} : ∀ {vs : List V} {ds : List D}, RepL Y μ H vs ds → D.limL n ds = true → RepL Y (μ.take n) H vs ds
  | _, _, .nil, _ => .nil
  | _, _, .cons h t, q => by
    rw [D.limL, Bool.and_eq_true] at q
    exact .cons (h.cut q.1) (t.cut q.2)
end
theorem CellOk.cut {n : Nat} {a : Addr} {c : Cell} (h : CellOk Y μ H a c) (q : c.lim n = true) : CellOk Y (μ.take n) H a c := by
  cases h with
  | lst h r => exact .lst h (r.cut q)
  | dicK h r => rw [Cell.lim, Bool.and_eq_true] at q; exact .dicK h (r.cut q.2)
  | dicT h r => rw [Cell.lim, Bool.and_eq_true] at q; exact .dicT h (r.cut q.2)
  | ins h hn r => exact .ins h hn (r.cut q)
theorem World.grow {p : Addr} {o : HO} {c : Cell} (w : World Y Bs μ H S) (hp : H p = none) (new : CellOk Y (μ ++ [p]) (upd H p o) p c) (hb : ∀ b ∈ Bs, b ≤ S.length) : World Y Bs (μ ++ [p]) (upd H p o) (S ++ [c]) where
  len := by simp [w.len]
  nd := by
    rw [List.nodup_append]
    refine ⟨w.nd, by simp, fun a ha b hb' => ?_⟩
    have : b = p := by simpa using hb'
    rintro rfl
    exact w.out hp (this ▸ ha)
  cells := fun i a d h1 h2 => by
    have e : Ext μ H (μ ++ [p]) (upd H p o) := .cell hp
    by_cases hi : i < S.length
    · rw [List.getElem?_append_left hi] at h2
      rw [List.getElem?_append_left (by rw [w.len]; exact hi)] at h1
      refine (w.cells i a d h1 h2).ext e ?_
      have hm : a ∈ μ := List.mem_of_getElem? h1
      exact upd_ne fun q => w.out hp (q ▸ hm)
    · have hl := (List.getElem?_eq_some_iff.mp h2).1
      have e1 : i = S.length := by simp at hl; omega
      subst e1
      rw [List.getElem?_append_right (Nat.le_refl _)] at h2
      rw [List.getElem?_append_right (by rw [w.len]; exact Nat.le_refl _)] at h1
      simp [w.len] at h1 h2
      subst h1; subst h2
      exact new
  lims := fun i d h b hb' hlt => by
    have := hb b hb'
    rw [List.getElem?_append_left (by omega)] at h
    exact w.lims i d h b hb' hlt
  bs := fun b h => by have := w.bs b h; simp; omega
  hidT := fun a z => by
    obtain ⟨o', h⟩ := w.hidT a z
    exact ⟨o', by rw [upd_ne (ne_of_none h hp)]; exact h⟩
  hidC := fun a ha z => by
    rcases List.mem_append.mp ha with q | q
    · exact w.hidC a q z
    · have : a = p := by simpa using q
      subst this
      exact (w.fresh hp).vis z
theorem World.wrote {i : Nat} {x : Addr} {o : HO} {c : Cell} (w : World Y Bs μ H S) (hx : μ[i]? = some x) (new : CellOk Y μ (upd H x o) x c) (hl : ∀ b ∈ Bs, i < b → c.lim b = true) : World Y Bs μ (upd H x o) (S.set i c) where
  len := by simp [w.len]
  nd := w.nd
  cells := fun j a d h1 h2 => by
    by_cases hj : i = j
    · subst hj
      have hlt : i < S.length := by
        have := (List.getElem?_eq_some_iff.mp h2).1
        simpa using this
      rw [List.getElem?_set_self hlt] at h2
      rw [hx] at h1
      simp only [Option.some.injEq] at h1 h2
      subst h1; subst h2
      exact new
    · rw [List.getElem?_set_ne hj] at h2
      refine (w.cells j a d h1 h2).ext (.wrote (List.mem_of_getElem? hx)) (upd_ne ?_)
      rintro rfl
      exact hj (by
        obtain ⟨l1, e1⟩ := List.getElem?_eq_some_iff.mp hx
        obtain ⟨l2, e2⟩ := List.getElem?_eq_some_iff.mp h1
        exact (List.getElem_inj w.nd).mp (e1.trans e2.symm))
  lims := fun j d h b hb hlt => by
    by_cases hj : i = j
    · subst hj
      have hlt' : i < S.length := by
        have := (List.getElem?_eq_some_iff.mp h).1
        simpa using this
      rw [List.getElem?_set_self hlt'] at h
      simp only [Option.some.injEq] at h
      subst h
      exact hl b hb hlt
    · rw [List.getElem?_set_ne hj] at h
      exact w.lims j d h b hb hlt
  bs := fun b h => by rw [List.length_set]; exact w.bs b h
  hidT := fun a z => by
    obtain ⟨o', h⟩ := w.hidT a z
    by_cases e : a = x
    · subst e; exact ⟨o, upd_same⟩
    · exact ⟨o', by rw [upd_ne e]; exact h⟩
  hidC := w.hidC
theorem World.cut {n : Nat} (w : World Y (n :: Bs) μ H S) (hn : ∀ b ∈ Bs, b ≤ n) : World Y Bs (μ.take n) H (S.take n) where
  len := by simp [w.len]
  nd := w.nd.sublist (List.take_sublist _ _)
  cells := fun i a c h1 h2 => by
    have hi : i < n := by
      have := (List.getElem?_eq_some_iff.mp h2).1
      simp at this; omega
    rw [List.getElem?_take_of_lt hi] at h1 h2
    exact (w.cells i a c h1 h2).cut (w.lims i c h2 n List.mem_cons_self hi)
  lims := fun i c h b hb hlt => by
    have hi : i < n := by
      have := (List.getElem?_eq_some_iff.mp h).1
      simp at this; omega
    rw [List.getElem?_take_of_lt hi] at h
    exact w.lims i c h b (List.mem_cons_of_mem _ hb) hlt
  bs := fun b h => by
    have h1 := hn b h
    have h2 := w.bs n List.mem_cons_self
    simp; omega
  hidT := w.hidT
  hidC := fun a ha => w.hidC a (List.mem_of_mem_take ha)
theorem World.mark (w : World Y Bs μ H S) : World Y (S.length :: Bs) μ H S :=
  ⟨w.len, w.nd, w.cells, fun i c h b hb hlt => by
    rcases List.mem_cons.mp hb with e | hb
    · subst e
      have hi : i < μ.length := by rw [w.len]; exact hlt
      have := (w.cells i μ[i] c (List.getElem?_eq_getElem hi) h).lim
      rw [w.len] at this
      exact this
    · exact w.lims i c h b hb hlt, fun b h => by
    rcases List.mem_cons.mp h with e | h
    · rw [e]; exact Nat.le_refl _
    · exact w.bs b h, w.hidT, w.hidC⟩
def Sx.hide (Y : Sx) (p : Addr) : Sx := ⟨Y.ca, fun a => Y.hid a ∨ a = p⟩
theorem Up.hide {p : Addr} (hp : H p = none) : Up Y H (Y.hide p) := ⟨rfl, fun a h => h.imp id fun e => by rw [e]; exact hp⟩
theorem World.hide {p : Addr} {o : HO} (w : World Y Bs μ H S) (hp : H p = none) : World (Y.hide p) Bs μ (upd H p o) S :=
  ⟨w.len, w.nd, fun i a c h1 h2 => (w.cells i a c h1 h2).move (.laid hp) (.hide hp) (by
    obtain ⟨o, h, _⟩ := (w.cells i a c h1 h2).there
    exact upd_ne (ne_of_none h hp)), w.lims, w.bs, fun a z => by
    by_cases e : a = p
    · subst e; exact ⟨o, upd_same⟩
    · obtain ⟨o', h⟩ := w.hidT a (z.resolve_right e)
      exact ⟨o', by rw [upd_ne e]; exact h⟩, fun a ha z => z.elim (w.hidC a ha) fun e => w.out hp (e ▸ ha)⟩
theorem Fr.stay {p a : Addr} {o u : HO} (hp : Y.hid p) (n : Fr Y μ a) (h : H a = some u) : upd H p o a = some u := by
  have ne : a ≠ p := by
    rintro rfl
    exact n.vis hp
  rw [upd_ne ne]; exact h
mutual
theorem Rep.hid {p : Addr} {o : HO} (hp : Y.hid p) : ∀ {v : V} {d : D}, Rep Y μ H v d → Rep Y μ (upd H p o) v d
  | _, _, .non => .non
  | _, _, .bl b => .bl b
  | _, _, .int i => .int i
  | _, _, .str l => .str l
  | _, _, .tup h n r => .tup (n.stay hp h) n (r.hid hp)
  | _, _, .lst h n r => .lst (n.stay hp h) n (r.hid hp)
  | _, _, .scr h => .scr (h.imp (fun ⟨o, h, n⟩ => ⟨o, n.stay hp h, n⟩) id)
  | _, _, .way h ho n r => .way (n.stay hp h) ho n (r.hid hp)
  | _, _, .dicK h n r => .dicK (n.stay hp h) n (r.hid hp)
  | _, _, .dicT h n r => .dicT (n.stay hp h) n (r.hid hp)
  | _, _, .ins h n hn r => .ins (n.stay hp h) n hn (r.hid hp)
  | _, _, .ref h => .ref h
theorem RepL.hid {p : Addr} {o : HO} (hp : Y.hid p) : ∀ {vs : List V} {ds : List D}, RepL Y μ H vs ds → RepL Y μ (upd H p o) vs ds
  | _, _, .nil => .nil
  | _, _, .cons h t => .cons (h.hid hp) (t.hid hp)
end
theorem World.hid {p : Addr} {o : HO} (w : World Y Bs μ H S) (hp : Y.hid p) : World Y Bs μ (upd H p o) S :=
  ⟨w.len, w.nd, fun i a c h1 h2 => by
    have ne : a ≠ p := fun e => w.hidC a (List.mem_of_getElem? h1) (e ▸ hp)
    cases w.cells i a c h1 h2 with
    | lst h r => exact .lst (by rw [upd_ne ne]; exact h) (r.hid hp)
    | dicK h r => exact .dicK (by rw [upd_ne ne]; exact h) (r.hid hp)
    | dicT h r => exact .dicT (by rw [upd_ne ne]; exact h) (r.hid hp)
    | ins h hn r => exact .ins (by rw [upd_ne ne]; exact h) hn (r.hid hp), w.lims, w.bs, fun a z => by
    by_cases e : a = p
    · subst e; exact ⟨o, upd_same⟩
    · obtain ⟨o', h⟩ := w.hidT a z
      exact ⟨o', by rw [upd_ne e]; exact h⟩, w.hidC⟩
theorem EnvOk.hid {p : Addr} {o : HO} {σ : L2.St} {ρ : Env} (hp : Y.hid p) (h : EnvOk Y μ H σ ρ) : EnvOk Y μ (upd H p o) σ ρ :=
  ⟨h.len, fun i d q => by
    obtain ⟨v, a, r⟩ := h.at_ i d q
    exact ⟨v, a, r.hid hp⟩⟩
theorem Fr.show {p : Addr} {q : List Addr} (hq : ∀ a ∈ q, a = p) {a : Addr} (n : Fr (Y.hide p) μ a) : Fr Y (μ ++ q) a :=
  ⟨fun m => (List.mem_append.mp m).elim n.out fun m => n.vis (.inr (hq a m)), fun z => n.vis (.inl z)⟩
mutual
theorem Rep.show {p : Addr} {q : List Addr} (hq : ∀ a ∈ q, a = p) : ∀ {v : V} {d : D}, Rep (Y.hide p) μ H v d → Rep Y (μ ++ q) H v d
  | _, _, .non => .non
  | _, _, .bl b => .bl b
  | _, _, .int i => .int i
  | _, _, .str l => .str l
  | _, _, .tup h n r => .tup h (n.show hq) (r.show hq)
  | _, _, .lst h n r => .lst h (n.show hq) (r.show hq)
  | _, _, .scr h => .scr (h.imp (fun ⟨o, h, n⟩ => ⟨o, h, n.show hq⟩) id)
  | _, _, .way h ho n r => .way h ho (n.show hq) (r.show hq)
  | _, _, .dicK h n r => .dicK h (n.show hq) (r.show hq)
  | _, _, .dicT h n r => .dicT h (n.show hq) (r.show hq)
  | _, _, .ins h n hn r => .ins h (n.show hq) hn (r.show hq)
  | _, _, .ref h => .ref (by
    have hl := (List.getElem?_eq_some_iff.mp h).1
    rw [List.getElem?_append_left hl]; exact h)
theorem RepL.show {p : Addr} {q : List Addr} (hq : ∀ a ∈ q, a = p) : ∀ {vs : List V} {ds : List D}, RepL (Y.hide p) μ H vs ds → RepL Y (μ ++ q) H vs ds
  | _, _, .nil => .nil
  | _, _, .cons h t => .cons (h.show hq) (t.show hq)
end
end
end CL
namespace CL
open PySem PySem.Spec PyProof.Rows L2
structure ExcAt (Y : Sx) (μ : List Addr) (H : Hp) (C : String) (ns : List String) (ds : List D) (cls : Value) (dd : Option Addr) : Prop where
  cls_ : cls = .ref (Y.ca C)
  flds : (ns = [] ∧ ds = []) ∨ ∃ (a : Addr) (fs : List (Str × V)), dd = some a ∧ H a = some (.xd fs) ∧ Fr Y μ a ∧ fs.map (·.1) = ns.map nm ∧ RepL Y μ H (fs.map (·.2)) ds
section
variable {Y : Sx} {Bs : List Nat} {α β : Type}
def KR (Y : Sx) (Bs : List Nat) (rel : List Addr → Hp → β → α → Prop) (μ : List Addr) (H : Hp) (σ : L2.St) (Q : β → Hp → Prop) (W : WX) : R α → Prop
  | .ok a S' => ∀ (μ' : List Addr) (H' : Hp) (b : β), Ext μ H μ' H' → World Y Bs μ' H' S' → rel μ' H' b a → Q b H'
  | .err C ns ds S' => ∀ (μ' : List Addr) (H' : Hp) (cls : Value) (dd : Option Addr), Ext μ H μ' H' → World Y Bs μ' H' S' → ExcAt Y μ' H' C ns ds cls dd → W cls dd σ H'
  | .bad => False
variable {rel : List Addr → Hp → β → α → Prop} {μ μ' : List Addr} {H H' : Hp} {σ : L2.St} {Q : β → Hp → Prop} {W : WX} {r : R α} {S : Store} {ρ : Env}
theorem KR.mono (e : Ext μ H μ' H') (h : KR Y Bs rel μ H σ Q W r) : KR Y Bs rel μ' H' σ Q W r := by
  cases r with
  | ok a S' => exact fun μ2 H2 b e2 w2 r2 => h μ2 H2 b (e.trans e2) w2 r2
  | err C ns ds S' => exact fun μ2 H2 c d e2 w2 r2 => h μ2 H2 c d (e.trans e2) w2 r2
  | bad => exact h
def tX (Y : Sx) (Bs : List Nat) (rel : List Addr → Hp → β → α → Prop) (W : WX) (m : Env → Store → R α) : L2.St → Hp → (β → Hp → Prop) → Prop := fun σ H Q =>
  ∃ (μ : List Addr) (ρ : Env) (S : Store), World Y Bs μ H S ∧ EnvOk Y μ H σ ρ ∧ KR Y Bs rel μ H σ Q W (m ρ S)
end
abbrev tI (Y : Sx) (Bs : List Nat) (W : WX) (m : Env → Store → R D) : TE := tX Y Bs (Rep Y) W m
abbrev tA (Y : Sx) (Bs : List Nat) (W : WX) (m : Env → Store → R (List D)) : TA := tX Y Bs (RepL Y) W m
abbrev tT (Y : Sx) (Bs : List Nat) (W : WX) (m : Env → Store → R Bool) : TT := tX Y Bs (fun _ _ (b : Bool) a => b = a) W m
section
variable {Y : Sx} {Bs : List Nat} {α β γ δ : Type} {rel : List Addr → Hp → β → α → Prop} {rel' : List Addr → Hp → δ → γ → Prop} {W : WX}
variable {μ : List Addr} {H : Hp} {σ : L2.St} {ρ : Env} {S : Store} {Q : β → Hp → Prop} {Q' : δ → Hp → Prop}
theorem tX.bind {m : Env → Store → R α} {f : α → Store → R γ} (w : World Y Bs μ H S) (en : EnvOk Y μ H σ ρ) (h : KR Y Bs rel' μ H σ Q' W ((m ρ S).bind f))
    (go : ∀ a S1 μ1 H1 b, World Y Bs μ1 H1 S1 → EnvOk Y μ1 H1 σ ρ → Ext μ H μ1 H1 → rel μ1 H1 b a → KR Y Bs rel' μ1 H1 σ Q' W (f a S1) → Q b H1) : tX Y Bs rel W m σ H Q := by
  refine ⟨μ, ρ, S, w, en, ?_⟩
  cases e : m ρ S with
  | ok a S1 =>
    rw [e] at h
    exact fun μ1 H1 b x w1 r => go a S1 μ1 H1 b w1 (en.ext x) x r (KR.mono x h)
  | err C ns ds S1 =>
    rw [e] at h
    exact h
  | bad =>
    rw [e] at h
    exact h
theorem KR.of {o : Option α} (h : KR Y Bs rel μ H σ Q W (R.of S o)) : ∃ a, o = some a ∧ KR Y Bs rel μ H σ Q W (.ok a S) := by
  cases o with
  | none => exact h.elim
  | some a => exact ⟨a, rfl, h⟩
end
theorem _root_.L2.PE.imp {X : Cx} {e : Expr} {t t' : TE} (h : PE X e t) (i : ∀ σ H Q, t' σ H Q → t σ H Q) : PE X e t' := ⟨fun pins s σ H Q I q => h.run pins s σ H Q I (i σ H Q q)⟩
theorem _root_.L2.PT.imp {X : Cx} {e : Expr} {t t' : TT} (h : PT X e t) (i : ∀ σ H Q, t' σ H Q → t σ H Q) : PT X e t' := ⟨fun pins s σ H Q I q => h.run pins s σ H Q I (i σ H Q q)⟩
theorem _root_.L2.PW.imp {X : Cx} {e : Expr} {t t' : TT} (h : PW X e t) (i : ∀ σ H Q, t' σ H Q → t σ H Q) : PW X e t' := ⟨fun wh pins s σ H Q I q => h.run wh pins s σ H Q I (i σ H Q q)⟩
theorem _root_.L2.PA.imp {X : Cx} {es : List Expr} {t t' : TA} (h : PA X es t) (i : ∀ σ H Q, t' σ H Q → t σ H Q) : PA X es t' := ⟨fun pos pins s σ H Q I q => h.run pos pins s σ H Q I (i σ H Q q)⟩
theorem _root_.L2.PS.imp {X : Cx} {e : Stmt} {t t' : TS} (h : PS X e t) (i : ∀ D σ H, t' D σ H → t D σ H) : PS X e t' := ⟨fun pins s σ H D I q => h.run pins s σ H D I (i D σ H q)⟩
theorem _root_.L2.PSs.imp {X : Cx} {e : List Stmt} {t t' : TS} (h : PSs X e t) (i : ∀ D σ H, t' D σ H → t D σ H) : PSs X e t' := ⟨fun pins s σ H D I q => h.run pins s σ H D I (i D σ H q)⟩
section
variable (Y : Sx) (μ : List Addr) (H : Hp)
inductive View : V → D → Prop
  | non : View .non .non
  | bl (b : Bool) : View (.bl b) (.bl b)
  | int (i : Int) : View (.int i) (.int i)
  | str (l : List Nat) : View (.str ⟨l.toArray⟩) (.str l)
  | tup {a : Addr} {xs : List V} {ds : List D} (h : H a = some (.tup xs)) (n : Fr Y μ a) (r : RepL Y μ H xs ds) : View (.ref a) (.tup ds)
  | lst {a : Addr} {xs : List V} {ds : List D} (h : H a = some (.lst xs)) (r : RepL Y μ H xs ds) : View (.ref a) (.lst ds)
  | dicK {a : Addr} {kvs : List (Key × V)} {vs : List D} (h : H a = some (.dK kvs)) (r : RepL Y μ H (kvs.map (·.2)) vs) : View (.ref a) (.dic false (kvs.map fun p => kD p.1) vs)
  | dicT {a : Addr} {kvs : List (List Key × V)} {vs : List D} (h : H a = some (.dT kvs)) (r : RepL Y μ H (kvs.map (·.2)) vs) : View (.ref a) (.dic true (kvs.map fun p => kDT p.1) vs)
  | ins {a dx : Addr} {fs : List (Str × V)} {C : String} {ns : List String} {ds : List D} (h : H a = some (.ins (Y.ca C) dx fs)) (hn : fs.map (·.1) = ns.map nm) (r : RepL Y μ H (fs.map (·.2)) ds) : View (.ref a) (.ins C ns ds)
  | scr {a : Addr} {ns : List Int} (h : (∃ o, H a = some (.frz o (.lst (ns.map V.int)))) ∨ Y.ca.kl a ns) : View (.ref a) (.scr ns)
  | way {a : Addr} {o : Obj} {xs : List V} {ds : List D} (h : H a = some (.frz o (.tup xs))) (ho : o.dict = none) (n : Fr Y μ a) (r : RepL Y μ H xs ds) : View (.ref a) (.way ds)
  | ref {v : V} {i : Nat} : View v (.ref i)
end
section
variable {Y : Sx} {Bs : List Nat} {μ : List Addr} {H : Hp} {S : Store} {v : V} {d : D}
theorem view_of (w : World Y Bs μ H S) (r : Rep Y μ H v d) : View Y μ H v (vw S d) := by
  cases r with
  | non => exact .non
  | bl b => exact .bl b
  | int i => exact .int i
  | str l => exact .str l
  | tup h n r => exact .tup h n r
  | lst h _ r => exact .lst h r
  | dicK h _ r => exact .dicK h r
  | dicT h _ r => exact .dicT h r
  | ins h _ hn r => exact .ins h hn r
  | scr h => exact .scr (h.imp (fun ⟨o, h, _⟩ => ⟨o, h⟩) id)
  | way h ho n r => exact .way h ho n r
  | @ref a i h =>
    have hl : i < S.length := by rw [← w.len]; exact (List.getElem?_eq_some_iff.mp h).1
    obtain ⟨c, hc⟩ : ∃ c, S[i]? = some c := ⟨_, List.getElem?_eq_getElem hl⟩
    have q := w.cells i a c h hc
    unfold vw
    simp only [hc]
    cases q with
    | lst h r => exact .lst h r
    | dicK h r => exact .dicK h r
    | dicT h r => exact .dicT h r
    | ins h _ _ => exact .ref
end
section
variable {Y : Sx} {μ : List Addr} {H : Hp} {K : PySem.W.Frag}
mutual
theorem Rep.dp : ∀ {v : V} {d : D} {p : PyData}, Rep Y μ H v d → d.pd = some p → Dp K H v p
  | _, _, _, .non, e => by simp only [D.pd, Option.some.injEq] at e; subst e; exact .non
  | _, _, _, .bl b, e => by simp only [D.pd, Option.some.injEq] at e; subst e; exact .bl b
  | _, _, _, .int i, e => by simp only [D.pd, Option.some.injEq] at e; subst e; exact .int i
  | _, _, _, .str l, e => by simp only [D.pd, Option.some.injEq] at e; subst e; exact .str _
  | _, _, _, .tup h _ r, e => by
    simp only [D.pd, Option.map_eq_some_iff] at e
    obtain ⟨ps, e1, rfl⟩ := e
    exact .tup (.of h) (r.dp e1)
  | _, _, _, .lst h _ r, e => by
    simp only [D.pd, Option.map_eq_some_iff] at e
    obtain ⟨ps, e1, rfl⟩ := e
    exact .lst (.of h) (r.dp e1)
  | _, _, _, .dicK _ _ _, e => by simp [D.pd] at e
  | _, _, _, .dicT _ _ _, e => by simp [D.pd] at e
  | _, _, _, .ins _ _ _ _, e => by simp [D.pd] at e
  | _, _, _, .scr _, e => by simp [D.pd] at e
  | _, _, _, .way h _ _ r, e => by
    simp only [D.pd, Option.map_eq_some_iff] at e
    obtain ⟨ps, e1, rfl⟩ := e
    exact .tup (.inl (.inr ⟨_, h⟩)) (r.dp e1)
  | _, _, _, .ref _, e => by simp [D.pd] at e
theorem RepL.dp : ∀ {vs : List V} {ds : List D} {ps : List PyData}, RepL Y μ H vs ds → D.pdL ds = some ps → DpAll K H vs ps
  | _, _, _, .nil, e => by simp only [D.pdL, Option.some.injEq] at e; subst e; exact .nil
  | _, _, _, .cons (d := d) (ds := ds) h t, e => by
    simp only [D.pdL] at e
    cases e1 : d.pd with
    | none => rw [e1] at e; simp at e
    | some x =>
      cases e2 : D.pdL ds with
      | none => rw [e1, e2] at e; simp at e
      | some xs =>
        rw [e1, e2] at e
        simp only [Option.some.injEq] at e
        subst e
        exact .cons (h.dp e1) (t.dp e2)
end
theorem View.dp {v : V} {d : D} {p : PyData} (h : View Y μ H v d) (e : d.pd = some p) : Dp K H v p := by
  cases h with
  | non => simp only [D.pd, Option.some.injEq] at e; subst e; exact .non
  | bl b => simp only [D.pd, Option.some.injEq] at e; subst e; exact .bl b
  | int i => simp only [D.pd, Option.some.injEq] at e; subst e; exact .int i
  | str l => simp only [D.pd, Option.some.injEq] at e; subst e; exact .str _
  | tup h _ r =>
    simp only [D.pd, Option.map_eq_some_iff] at e
    obtain ⟨ps, e1, rfl⟩ := e
    exact .tup (.of h) (r.dp e1)
  | lst h r =>
    simp only [D.pd, Option.map_eq_some_iff] at e
    obtain ⟨ps, e1, rfl⟩ := e
    exact .lst (.of h) (r.dp e1)
  | dicK _ _ => simp [D.pd] at e
  | dicT _ _ => simp [D.pd] at e
  | ins _ _ _ => simp [D.pd] at e
  | scr _ => simp [D.pd] at e
  | way h _ _ r =>
    simp only [D.pd, Option.map_eq_some_iff] at e
    obtain ⟨ps, e1, rfl⟩ := e
    exact .tup (.inl (.inr ⟨_, h⟩)) (r.dp e1)
  | ref => simp [D.pd] at e
end
mutual
theorem dat_pd : ∀ (n : Nat) (d : D), d.dat n = true → ∃ p, d.pd = some p ∧ p.plain = true ∧ p.depth ≤ n + 1
  | n, .non, _ => ⟨_, rfl, rfl, by simp [PyData.depth]⟩
  | n, .bl b, _ => ⟨_, rfl, rfl, by simp [PyData.depth]⟩
  | n, .int i, _ => ⟨_, rfl, rfl, by simp [PyData.depth]⟩
  | n, .str l, _ => ⟨_, rfl, rfl, by simp [PyData.depth]⟩
  | n, .tup ds, h => by
    simp only [D.dat] at h
    obtain ⟨ps, e, pl, dh⟩ := datL_pd n ds h
    exact ⟨.tuple ps, by simp [D.pd, e], by simp only [PyData.plain]; exact pl, by simp only [PyData.depth]; omega⟩
  | n, .lst ds, h => by
    simp only [D.dat] at h
    obtain ⟨ps, e, pl, dh⟩ := datL_pd n ds h
    exact ⟨.list ps, by simp [D.pd, e], by simp only [PyData.plain]; exact pl, by simp only [PyData.depth]; omega⟩
  | n, .way ds, h => by
    simp only [D.dat] at h
    obtain ⟨ps, e, pl, dh⟩ := datL_pd n ds h
    exact ⟨.tuple ps, by simp [D.pd, e], by simp only [PyData.plain]; exact pl, by simp only [PyData.depth]; omega⟩
  | n, .dic _ _ _, h => by simp [D.dat] at h
  | n, .ins _ _ _, h => by simp [D.dat] at h
  | n, .exn _ _ _, h => by simp [D.dat] at h
  | n, .ref _, h => by simp [D.dat] at h
  | n, .scr _, h => by simp [D.dat] at h
theorem datL_pd : ∀ (n : Nat) (ds : List D), D.datL n ds = true → ∃ ps, D.pdL ds = some ps ∧ PyData.plainAll ps = true ∧ PyData.depthAll ps ≤ n
  | n, [], _ => ⟨[], rfl, rfl, by simp [PyData.depthAll]⟩
  | n, d :: ds, h => by
    simp only [D.datL, Bool.and_eq_true, decide_eq_true_eq] at h
    obtain ⟨hn, h1, h2⟩ := h
    obtain ⟨p, e1, pl1, d1⟩ := dat_pd (n - 1) d h1
    obtain ⟨ps, e2, pl2, d2⟩ := datL_pd n ds h2
    exact ⟨p :: ps, by simp [D.pdL, e1, e2], by simp [PyData.plainAll, pl1, pl2], by simp only [PyData.depthAll]; omega⟩
end
theorem str_beq (x y : List Nat) : ((⟨x.toArray⟩ : Str) == ⟨y.toArray⟩) = (x == y) := by
  rw [Bool.eq_iff_iff]
  simp
mutual
theorem eqv_pd : ∀ (a b : D) (p q : PyData), a.pd = some p → b.pd = some q → PyData.eqv p q = D.eqv a b
  | .non, b, p, q, h1, h2 => by
    simp only [D.pd, Option.some.injEq] at h1; subst h1
    cases b <;> simp [D.pd] at h2 <;> first
      | (subst h2; simp [PyData.eqv, D.eqv])
      | (obtain ⟨_, _, rfl⟩ := h2; simp [PyData.eqv, D.eqv])
  | .bl x, b, p, q, h1, h2 => by
    simp only [D.pd, Option.some.injEq] at h1; subst h1
    cases b <;> simp [D.pd] at h2 <;> first
      | (subst h2; simp [PyData.eqv, D.eqv])
      | (obtain ⟨_, _, rfl⟩ := h2; simp [PyData.eqv, D.eqv])
  | .int x, b, p, q, h1, h2 => by
    simp only [D.pd, Option.some.injEq] at h1; subst h1
    cases b <;> simp [D.pd] at h2 <;> first
      | (subst h2; simp [PyData.eqv, D.eqv])
      | (obtain ⟨_, _, rfl⟩ := h2; simp [PyData.eqv, D.eqv])
  | .str x, b, p, q, h1, h2 => by
    simp only [D.pd, Option.some.injEq] at h1; subst h1
    cases b <;> simp [D.pd] at h2 <;> first
      | (subst h2; simp only [PyData.eqv, D.eqv, str_beq])
      | (subst h2; simp [PyData.eqv, D.eqv])
      | (obtain ⟨_, _, rfl⟩ := h2; simp [PyData.eqv, D.eqv])
  | .tup xs, b, p, q, h1, h2 => by
    simp only [D.pd, Option.map_eq_some_iff] at h1
    obtain ⟨ps, e1, rfl⟩ := h1
    cases b with
    | tup ys =>
      simp only [D.pd, Option.map_eq_some_iff] at h2
      obtain ⟨qs, e2, rfl⟩ := h2
      simp only [PyData.eqv, D.eqv]
      exact eqvL_pd xs ys ps qs e1 e2
    | way ys =>
      simp only [D.pd, Option.map_eq_some_iff] at h2
      obtain ⟨qs, e2, rfl⟩ := h2
      simp only [PyData.eqv, D.eqv]
      exact eqvL_pd xs ys ps qs e1 e2
    | lst ys =>
      simp only [D.pd, Option.map_eq_some_iff] at h2
      obtain ⟨qs, e2, rfl⟩ := h2
      simp [PyData.eqv, D.eqv]
    | _ => simp [D.pd] at h2 <;> (subst h2; simp [PyData.eqv, D.eqv])
  | .way xs, b, p, q, h1, h2 => by
    simp only [D.pd, Option.map_eq_some_iff] at h1
    obtain ⟨ps, e1, rfl⟩ := h1
    cases b with
    | tup ys =>
      simp only [D.pd, Option.map_eq_some_iff] at h2
      obtain ⟨qs, e2, rfl⟩ := h2
      simp only [PyData.eqv, D.eqv]
      exact eqvL_pd xs ys ps qs e1 e2
    | way ys =>
      simp only [D.pd, Option.map_eq_some_iff] at h2
      obtain ⟨qs, e2, rfl⟩ := h2
      simp only [PyData.eqv, D.eqv]
      exact eqvL_pd xs ys ps qs e1 e2
    | lst ys =>
      simp only [D.pd, Option.map_eq_some_iff] at h2
      obtain ⟨qs, e2, rfl⟩ := h2
      simp [PyData.eqv, D.eqv]
    | _ => simp [D.pd] at h2 <;> (subst h2; simp [PyData.eqv, D.eqv])
  | .lst xs, b, p, q, h1, h2 => by
    simp only [D.pd, Option.map_eq_some_iff] at h1
    obtain ⟨ps, e1, rfl⟩ := h1
    cases b with
    | lst ys =>
      simp only [D.pd, Option.map_eq_some_iff] at h2
      obtain ⟨qs, e2, rfl⟩ := h2
      simp only [PyData.eqv, D.eqv]
      exact eqvL_pd xs ys ps qs e1 e2
    | tup ys =>
      simp only [D.pd, Option.map_eq_some_iff] at h2
      obtain ⟨qs, e2, rfl⟩ := h2
      simp [PyData.eqv, D.eqv]
    | way ys =>
      simp only [D.pd, Option.map_eq_some_iff] at h2
      obtain ⟨qs, e2, rfl⟩ := h2
      simp [PyData.eqv, D.eqv]
    | _ => simp [D.pd] at h2 <;> (subst h2; simp [PyData.eqv, D.eqv])
  | .dic _ _ _, b, p, q, h1, h2 => by simp [D.pd] at h1
  | .ins _ _ _, b, p, q, h1, h2 => by simp [D.pd] at h1
  | .exn _ _ _, b, p, q, h1, h2 => by simp [D.pd] at h1
  | .ref _, b, p, q, h1, h2 => by simp [D.pd] at h1
  | .scr _, b, p, q, h1, h2 => by simp [D.pd] at h1
theorem eqvL_pd : ∀ (xs ys : List D) (ps qs : List PyData), D.pdL xs = some ps → D.pdL ys = some qs → PyData.eqvAll ps qs = D.eqvL xs ys
  | [], ys, ps, qs, h1, h2 => by
    simp only [D.pdL, Option.some.injEq] at h1; subst h1
    cases ys with
    | nil => simp only [D.pdL, Option.some.injEq] at h2; subst h2; simp [PyData.eqvAll, D.eqvL]
    | cons y ys =>
      obtain ⟨q, qs', rfl⟩ : ∃ q qs', qs = q :: qs' := by
        simp only [D.pdL] at h2
        split at h2
        · simp only [Option.some.injEq] at h2; exact ⟨_, _, h2.symm⟩
        · cases h2
      simp [PyData.eqvAll, D.eqvL]
  | x :: xs, ys, ps, qs, h1, h2 => by
    obtain ⟨p, ps', rfl, ex, exs⟩ : ∃ p ps', ps = p :: ps' ∧ x.pd = some p ∧ D.pdL xs = some ps' := by
      simp only [D.pdL] at h1
      split at h1
      · rename_i a b e1 e2
        simp only [Option.some.injEq] at h1; exact ⟨_, _, h1.symm, e1, e2⟩
      · cases h1
    cases ys with
    | nil => simp only [D.pdL, Option.some.injEq] at h2; subst h2; simp [PyData.eqvAll, D.eqvL]
    | cons y ys =>
      obtain ⟨q, qs', rfl, ey, eys⟩ : ∃ q qs', qs = q :: qs' ∧ y.pd = some q ∧ D.pdL ys = some qs' := by
        simp only [D.pdL] at h2
        split at h2
        · rename_i a b e1 e2
          simp only [Option.some.injEq] at h2; exact ⟨_, _, h2.symm, e1, e2⟩
        · cases h2
      simp only [PyData.eqvAll, D.eqvL]
      rw [eqv_pd x y p q ex ey, eqvL_pd xs ys ps' qs' exs eys]
end
theorem ltD_data {a b : D} {k : Bool} (h : ltD a b = some k) : ∃ p q, a.pd = some p ∧ b.pd = some q ∧ PySem.W.alike p q = true ∧ p ≠ .none ∧ k = PySem.W.dataLt p q ∧ p.depth ≤ dp + 1 := by
  have gen : (if a.dat dp && b.dat dp then match a.pd, b.pd with
    | some p, some q => if PySem.W.alike p q && !nonP p then some (PySem.W.dataLt p q) else none
    | _, _ => none
    else none) = some k → ∃ p q, a.pd = some p ∧ b.pd = some q ∧ PySem.W.alike p q = true ∧ p ≠ .none ∧ k = PySem.W.dataLt p q ∧ p.depth ≤ dp + 1 := by
    intro h
    split at h
    · rename_i hd
      rw [Bool.and_eq_true] at hd
      obtain ⟨p, e1, _, d1⟩ := dat_pd dp a hd.1
      obtain ⟨q, e2, _, _⟩ := dat_pd dp b hd.2
      rw [e1, e2] at h
      simp only at h
      split at h
      · rename_i hc
        rw [Bool.and_eq_true] at hc
        simp only [Option.some.injEq] at h
        exact ⟨p, q, e1, e2, hc.1, by rintro rfl; simp [nonP] at hc, h.symm, d1⟩
      · cases h
    · cases h
  unfold ltD at h
  split at h
  · rename_i i j
    simp only [Option.some.injEq] at h
    exact ⟨_, _, rfl, rfl, by simp [PySem.W.alike], by simp, by rw [PySem.W.dataLt_int]; exact h.symm, by simp [PyData.depth]⟩
  · rename_i x y
    simp only [Option.some.injEq] at h
    exact ⟨_, _, rfl, rfl, by simp [PySem.W.alike], by simp, by rw [PySem.W.dataLt_str]; exact h.symm, by simp [PyData.depth]⟩
  · exact gen h
theorem eqD_data {a b : D} {k : Bool} (h : eqD a b = some k) : ∃ p q, a.pd = some p ∧ b.pd = some q ∧ p.plain = true ∧ q.plain = true ∧ k = PyData.eqv p q ∧ p.depth ≤ dp + 1 := by
  unfold eqD at h
  split at h
  · rename_i hd
    rw [Bool.and_eq_true] at hd
    obtain ⟨p, e1, l1, d1⟩ := dat_pd dp a hd.1
    obtain ⟨q, e2, l2, _⟩ := dat_pd dp b hd.2
    simp only [Option.some.injEq] at h
    exact ⟨p, q, e1, e2, l1, l2, by rw [eqv_pd a b p q e1 e2]; exact h.symm, d1⟩
  · cases h
theorem scr_sql {Y : Sx} {K : PySem.W.Frag} {H : Hp} {a : Addr} {ns : List Int} (hK : Y.ca.K = K) (h : (∃ o, H a = some (.frz o (.lst (ns.map V.int)))) ∨ Y.ca.kl a ns) : SqL K H a (ns.map V.int) := by
  subst hK
  rcases h with ⟨o, h⟩ | h
  · exact .inl (.inr ⟨o, h⟩)
  · exact .inr h
end CL
namespace CL
open PySem PySem.Spec PyProof.Rows L2
def Fin1 (Y : Sx) (Bs : List Nat) (μ : List Addr) (H : Hp) (S : Store) (r : D) (Q : VK) : Prop := ∀ (μ' : List Addr) (H' : Hp) (v : V), Ext μ H μ' H' → World Y Bs μ' H' S → Rep Y μ' H' v r → Q v H'
section
variable {Y : Sx} {Bs : List Nat} {μ : List Addr} {H : Hp} {S : Store} {Q : VK}
theorem Fin1.flat {r : D} {v : V} (k : Fin1 Y Bs μ H S r Q) (w : World Y Bs μ H S) (h : Rep Y μ H v r) : Q v H := k μ H v (.refl _ _) w h
theorem Fin1.lst {ds : List D} {xs : List V} (k : Fin1 Y Bs μ H S (.lst ds) Q) (w : World Y Bs μ H S) (r : RepL Y μ H xs ds) {p : Addr} (hp : H p = none) : Q (.ref p) (upd H p (.lst xs)) :=
  k μ _ _ (.laid hp) (w.laid hp) (.lst upd_same (w.fresh hp) (r.ext (.laid hp)))
theorem Fin1.tup {ds : List D} {xs : List V} (k : Fin1 Y Bs μ H S (.tup ds) Q) (w : World Y Bs μ H S) (r : RepL Y μ H xs ds) {p : Addr} (hp : H p = none) : Q (.ref p) (upd H p (.tup xs)) :=
  k μ _ _ (.laid hp) (w.laid hp) (.tup upd_same (w.fresh hp) (r.ext (.laid hp)))
end
def opD2 (Y : Sx) (f : D → D → Option D) : R2 := fun x y H Q => ∃ (Bs : List Nat) (μ : List Addr) (S : Store) (d e r : D), World Y Bs μ H S ∧ Rep Y μ H x d ∧ Rep Y μ H y e ∧ f (vw S d) (vw S e) = some r ∧ Fin1 Y Bs μ H S r Q
def opB2 (Y : Sx) (f : D → D → Option Bool) : R2 := fun x y H Q => ∃ (Bs : List Nat) (μ : List Addr) (S : Store) (d e : D) (b : Bool), World Y Bs μ H S ∧ Rep Y μ H x d ∧ Rep Y μ H y e ∧ f (vw S d) (vw S e) = some b ∧ Q (.bl b) H
def BO.op : BO → Operator
  | .add => .Add | .sub => .Sub | .mul => .Mult | .fdiv => .FloorDiv | .mod => .Mod | .pow => .Pow | .shl => .LShift
def CO.op : CO → CmpOp
  | .eq => .Eq | .ne => .NotEq | .lt => .Lt | .le => .LtE | .gt => .Gt | .ge => .GtE | .isIn => .In | .notIn => .NotIn | .is => .Is | .isNot => .IsNot
theorem lim_line {n : Nat} (h : n ≤ LIM) : n ≤ sizeLine := by
  rw [sizeLine_eq]; unfold LIM at h; omega
theorem str_len (l : List Nat) : (⟨l.toArray⟩ : Str).length = l.length := by simp [Str.length]
theorem str_app (l m : List Nat) : (⟨l.toArray⟩ : Str) ++ ⟨m.toArray⟩ = ⟨(l ++ m).toArray⟩ := by
  show Str.append _ _ = _
  simp [Str.append]
theorem catOk_of {a b : Nat} (h : catOk a b = true) : a + b ≤ LIM := of_decide_eq_true h
section
variable {X : Cx} {Y : Sx}
theorem orI {op : Operator} {o : BO} {C : Int → Int → Prop} {g : Int → Int → Int} (h : OpR X (binaryOp op) (rI C fun i j => .int (g i j))) (hc : ∀ i j r, bop o (.int i) (.int j) = some r → C i j ∧ r = .int (g i j))
    {pins : List (Addr × Obj)} {s : Shared} {σ : L2.St} {H : Hp} {i j : Int} {v u : Value} {Q : VK} {Bs : List Nat} {μ : List Addr} {S : Store} {r : D} (I : Inv X pins σ H s) (rx : RelV (.int i) v) (ry : RelV (.int j) u)
    (w : World Y Bs μ H S) (e : bop o (.int i) (.int j) = some r) (k : Fin1 Y Bs μ H S r Q) : wpAny (model X.prog X.w) X.A (binaryOp op v u) (EP X pins σ Q) X.xe s := by
  obtain ⟨c, rfl⟩ := hc i j r e
  exact h pins s σ H _ _ v u Q I rx ry ⟨i, j, rfl, rfl, c, k.flat w (.int _)⟩
theorem op_bop (o : BO) : OpR X (binaryOp o.op) (opD2 Y (bop o)) := by
  intro pins s σ H x y v u Q I rx ry h
  obtain ⟨Bs, μ, S, d, e, r, w, rd, re, hf, k⟩ := h
  have vd := view_of w rd
  have ve := view_of w re
  revert hf
  generalize vw S d = d' at vd
  generalize vw S e = e' at ve
  intro hf
  cases vd with
  | int i =>
    cases ve with
    | int j =>
      cases o with
      | add => exact orI (C := fun _ _ => True) (g := fun i j => i + j) (fun pins s σ H x y v u Q I rx ry ⟨i, j, a, b, _, q⟩ => op_add pins s σ H x y v u Q I rx ry ⟨i, j, a, b, q⟩) (fun i j r h => ⟨trivial, by simp only [bop, Option.some.injEq] at h; exact h.symm⟩) I rx ry w hf k
      | sub => exact orI (C := fun _ _ => True) (g := fun i j => i - j) (fun pins s σ H x y v u Q I rx ry ⟨i, j, a, b, _, q⟩ => op_sub pins s σ H x y v u Q I rx ry ⟨i, j, a, b, q⟩) (fun i j r h => ⟨trivial, by simp only [bop, Option.some.injEq] at h; exact h.symm⟩) I rx ry w hf k
      | mul =>
        refine orI op_mul (fun i j r h => ?_) I rx ry w hf k
        simp only [bop] at h
        split at h
        · rename_i c
          refine ⟨?_, (Option.some.inj h).symm⟩
          rcases c with c | c
          · exact .inl ⟨by omega, by omega⟩
          · exact .inr ⟨by omega, by omega⟩
        · cases h
      | fdiv =>
        refine orI op_fdivW (fun i j r h => ?_) I rx ry w hf k
        simp only [bop] at h
        split at h
        · rename_i c
          refine ⟨⟨c.1, ?_⟩, (Option.some.inj h).symm⟩
          have h1 : j.natAbs < 2 ^ 4000 := by
            have : (j.natAbs : Int) < 2 ^ 4000 := by rw [Int.natAbs_of_nonneg (by omega)]; exact c.2
            exact_mod_cast this
          exact Nat.lt_trans (PySem.Flt.log2_lt_of (by decide) h1) (by decide)
        · cases h
      | mod =>
        refine orI op_mod (fun i j r h => ?_) I rx ry w hf k
        simp only [bop] at h
        split at h
        · rename_i c
          exact ⟨c, (Option.some.inj h).symm⟩
        · cases h
      | pow =>
        refine orI op_pow (fun i j r h => ?_) I rx ry w hf k
        simp only [bop] at h
        split at h
        · rename_i c
          exact ⟨⟨c.1, by omega, c.2.2⟩, (Option.some.inj h).symm⟩
        · cases h
      | shl =>
        refine orI op_shl (fun i j r h => ?_) I rx ry w hf k
        simp only [bop] at h
        split at h
        · rename_i c
          exact ⟨⟨c.1, by omega, c.2.2⟩, (Option.some.inj h).symm⟩
        · cases h
    | _ => cases o <;> simp [bop] at hf
  | str l =>
    cases ve with
    | str m =>
      cases o with
      | add =>
        simp only [bop] at hf
        split at hf
        · rename_i c
          have c' := catOk_of c
          simp only [Option.some.injEq] at hf
          subst hf
          refine op_add_str pins s σ H _ _ v u Q I rx ry ⟨_, _, rfl, rfl, ?_, ?_⟩
          · rw [str_len, str_len]; exact lim_line c'
          · rw [str_app]; exact k.flat w (.str _)
        · cases hf
      | _ => simp [bop] at hf
    | _ => cases o <;> simp [bop] at hf
  | lst h1 r1 =>
    cases ve with
    | lst h2 r2 =>
      cases o with
      | add =>
        simp only [bop] at hf
        split at hf
        · rename_i c
          have c' := catOk_of c
          simp only [Option.some.injEq] at hf
          subst hf
          refine op_cat pins s σ H _ _ v u Q I rx ry ⟨_, _, _, _, rfl, rfl, h1, h2, ?_, fun p hp => k.lst w (r1.append r2) hp⟩
          rw [r1.length, r2.length]; exact lim_line c'
        · cases hf
      | _ => simp [bop] at hf
    | _ => cases o <;> simp [bop] at hf
  | tup h1 n1 r1 =>
    cases ve with
    | tup h2 n2 r2 =>
      cases o with
      | add =>
        simp only [bop] at hf
        split at hf
        · rename_i c
          have c' := catOk_of c
          simp only [Option.some.injEq] at hf
          subst hf
          refine op_catA pins s σ H _ _ v u Q I rx ry ⟨_, _, _, _, rfl, rfl, .of h1, .of h2, ?_, fun e1 => ?_, fun _ e2 => ?_, fun _ _ p hp => k.tup w (r1.append r2) hp⟩
          · rw [r1.length, r2.length]; exact lim_line c'
          · subst e1
            cases r1
            exact k.flat w (.tup h2 n2 r2)
          · subst e2
            cases r2
            rw [List.append_nil] at k
            exact k.flat w (.tup h1 n1 r1)
        · cases hf
      | _ => simp [bop] at hf
    | way h2 ho2 n2 r2 =>
      cases o with
      | add =>
        simp only [bop] at hf
        split at hf
        · rename_i c
          simp only [Bool.and_eq_true] at c
          have c' := catOk_of c.1.1
          simp only [Option.some.injEq] at hf
          subst hf
          refine op_catA pins s σ H _ _ v u Q I rx ry ⟨_, _, _, _, rfl, rfl, .of h1, .inl (.inr ⟨_, h2⟩), ?_, fun e1 => ?_, fun _ e2 => ?_, fun _ _ p hp => k.tup w (r1.append r2) hp⟩
          · rw [r1.length, r2.length]; exact lim_line c'
          · subst e1; cases r1; simp at c
          · subst e2; cases r2; simp at c
        · cases hf
      | _ => simp [bop] at hf
    | _ => cases o <;> simp [bop] at hf
  | way h1 ho1 n1 r1 =>
    cases ve with
    | tup h2 n2 r2 =>
      cases o with
      | add =>
        simp only [bop] at hf
        split at hf
        · rename_i c
          simp only [Bool.and_eq_true] at c
          have c' := catOk_of c.1.1
          simp only [Option.some.injEq] at hf
          subst hf
          refine op_catA pins s σ H _ _ v u Q I rx ry ⟨_, _, _, _, rfl, rfl, .inl (.inr ⟨_, h1⟩), .of h2, ?_, fun e1 => ?_, fun _ e2 => ?_, fun _ _ p hp => k.tup w (r1.append r2) hp⟩
          · rw [r1.length, r2.length]; exact lim_line c'
          · subst e1; cases r1; simp at c
          · subst e2; cases r2; simp at c
        · cases hf
      | _ => simp [bop] at hf
    | _ => cases o <;> simp [bop] at hf
  | _ => cases o <;> simp [bop] at hf
theorem Rep.reads {pins : List (Addr × Obj)} {s : Shared} {σ : L2.St} {H : Hp} {μ : List Addr} {v : V} {d : D} {p : PyData} {u : Value} (I : Inv X pins σ H s) (h : View Y μ H v d) (e : d.pd = some p) (r : RelV v u) : ∃ as, Reads s.heap u p as :=
  Dp.reads I p v u (h.dp e) r
theorem eqv_any (x : D) : ∀ (ds : List D) (ps : List PyData) (p : PyData), D.pdL ds = some ps → x.pd = some p → (ps.any fun z => PyData.eqv z p) = ds.any fun z => D.eqv z x
  | [], ps, p, h, _ => by simp only [D.pdL, Option.some.injEq] at h; subst h; rfl
  | d :: ds, ps, p, h, hx => by
    simp only [D.pdL] at h
    split at h
    · rename_i a b e1 e2
      simp only [Option.some.injEq] at h
      subst h
      rw [List.any_cons, List.any_cons, eqv_pd d x a p e1 hx, eqv_any x ds b p e2 hx]
    · cases h
theorem alike_none {p q : PyData} (h : PySem.W.alike p q = true) (n : p ≠ .none) : q ≠ .none := by
  rintro rfl
  cases p <;> simp [PySem.W.alike] at h
  exact n rfl
theorem fin_b {pins : List (Addr × Obj)} {s : Shared} {σ : L2.St} {H : Hp} {Q : VK} {b : Bool} (I : Inv X pins σ H s) (k : Q (.bl b) H) : EP X pins σ Q (.bool b) s := ⟨.bl b, H, I, rfl, k⟩
theorem keyK {μ : List Addr} {H : Hp} {v : V} {d : D} (h : View Y μ H v d) (e : keyOf false d = true) : ∃ k : Key, v = kV k ∧ d = kD k := by
  cases h with
  | int i => exact ⟨.inl i, rfl, rfl⟩
  | str l => exact ⟨.inr ⟨l.toArray⟩, rfl, by simp [kD]⟩
  | _ => simp [keyOf] at e
theorem flatsK {μ : List Addr} {H : Hp} : ∀ {vs : List V} {ds : List D}, RepL Y μ H vs ds → ds.all flatD = true → ∃ ks : List Key, vs = ks.map kV ∧ ds = ks.map kD
  | _, _, .nil, _ => ⟨[], rfl, rfl⟩
  | _, _, .cons (v := v) (d := d) h t, e => by
    rw [List.all_cons, Bool.and_eq_true] at e
    obtain ⟨ks, e1, e2⟩ := flatsK t e.2
    have : ∃ k : Key, v = kV k ∧ d = kD k := by
      cases h with
      | int i => exact ⟨.inl i, rfl, rfl⟩
      | str l => exact ⟨.inr ⟨l.toArray⟩, rfl, by simp [kD]⟩
      | _ => simp [flatD] at e
    obtain ⟨k, e3, e4⟩ := this
    exact ⟨k :: ks, by rw [e1, e3]; rfl, by rw [e2, e4]; rfl⟩
theorem keyT {μ : List Addr} {H : Hp} {v : V} {d : D} (h : View Y μ H v d) (e : keyOf true d = true) : ∃ (b : Addr) (ks : List Key), v = .ref b ∧ H b = some (.tup (ks.map kV)) ∧ d = kDT ks := by
  cases h with
  | tup h n r =>
    simp only [keyOf, Bool.true_and] at e
    obtain ⟨ks, e1, e2⟩ := flatsK r e
    exact ⟨_, ks, rfl, by rw [h, e1], by rw [e2]; rfl⟩
  | _ => simp [keyOf] at e
theorem eqv_kD (a b : Key) : D.eqv (kD a) (kD b) = decide (a = b) := by
  cases a with
  | inl x =>
    cases b with
    | inl y => rw [Bool.eq_iff_iff]; simp [kD, D.eqv]
    | inr y => simp [kD, D.eqv]
  | inr x =>
    cases b with
    | inl y => simp [kD, D.eqv]
    | inr y =>
      rw [Bool.eq_iff_iff]
      cases x
      cases y
      simp [kD, D.eqv]
theorem eqvL_kD : ∀ a b : List Key, D.eqvL (a.map kD) (b.map kD) = decide (a = b)
  | [], [] => by simp [D.eqvL]
  | [], _ :: _ => by simp [D.eqvL]
  | _ :: _, [] => by simp [D.eqvL]
  | x :: a, y :: b => by
    simp only [List.map_cons, D.eqvL]
    rw [eqv_kD, eqvL_kD a b]
    by_cases h1 : x = y <;> by_cases h2 : a = b <;> simp [h1, h2]
theorem look_val {κ : Type} [DecidableEq κ] (g : κ → D) (hg : ∀ a b, D.eqv (g a) (g b) = decide (a = b)) (k : κ) {μ : List Addr} {H : Hp} : ∀ {kvs : List (κ × V)} {ds : List D}, RepL Y μ H (kvs.map (·.2)) ds →
    (∀ d, lookD (g k) (kvs.map fun p => g p.1) ds = some d → ∃ v, valV kvs k = some v ∧ Rep Y μ H v d) ∧ (lookD (g k) (kvs.map fun p => g p.1) ds = none → valV kvs k = none)
  | [], _, .nil => ⟨fun d h => by simp [lookD] at h, fun _ => rfl⟩
  | (j, v) :: kvs, _, .cons (d := e) (ds := ds) h t => by
    obtain ⟨i1, i2⟩ := look_val g hg k t
    simp only [List.map_cons, lookD, hg]
    by_cases q : j = k
    · subst q
      rw [valV_pos rfl]
      simp only [decide_true, if_true]
      exact ⟨fun d e' => by simp only [Option.some.injEq] at e'; subst e'; exact ⟨_, rfl, h⟩, fun e' => by cases e'⟩
    · rw [valV_neg q]
      simp only [q, decide_false, Bool.false_eq_true, if_false]
      exact ⟨i1, i2⟩
theorem dget_of {μ : List Addr} {H : Hp} {x y : V} {t : Bool} {ks vs : List D} {k : D} (h : View Y μ H x (.dic t ks vs)) (hk : View Y μ H y k) (e : keyOf t k = true) : ∃ a o, x = .ref a ∧ DGet H a y o ∧
    (∀ d, lookD k ks vs = some d → ∃ v, o = some v ∧ Rep Y μ H v d) ∧ (lookD k ks vs = none → o = none) := by
  cases h with
  | dicK h r =>
    obtain ⟨kk, rfl, rfl⟩ := keyK hk e
    exact ⟨_, _, rfl, DGet.k h, look_val kD eqv_kD kk r⟩
  | dicT h r =>
    obtain ⟨b, kk, rfl, hb, rfl⟩ := keyT hk e
    exact ⟨_, _, rfl, DGet.t h hb, look_val kDT (fun a b => by show D.eqv (.tup _) (.tup _) = _; rw [D.eqv]; exact eqvL_kD a b) kk r⟩
theorem op_inD' (hu : X.A.units + 64 < cLine) {neg : Bool} {pins : List (Addr × Obj)} {s : Shared} {σ : L2.St} {H : Hp} {x y : V} {v u : Value} {Q : VK} {μ : List Addr} {d e : D} {b : Bool}
    (I : Inv X pins σ H s) (rx : RelV x v) (ry : RelV y u) (vd : View Y μ H x d) (ve : View Y μ H y e) (hf : inD d e = some b) (k : Q (.bl (if neg then !b else b)) H) :
    wpAny (model X.prog X.w) X.A (compareOp (if neg then .NotIn else .In) v u) (EP X pins σ Q) X.xe s := by
  cases e with
  | str l =>
    cases ve
    cases d with
    | str m =>
      cases vd
      match m, hf with
      | [c], hf =>
        simp only [inD, Option.some.injEq] at hf
        subst hf
        cases neg with
        | false => exact op_in_sign pins s σ H _ _ v u Q I rx ry ⟨c, _, rfl, rfl, by simpa using k⟩
        | true => exact op_notIn_sign pins s σ H _ _ v u Q I rx ry ⟨c, _, rfl, rfl, by simpa using k⟩
      | [], hf => simp [inD] at hf
      | _ :: _ :: _, hf => simp [inD] at hf
    | _ => simp [inD] at hf
  | lst ds =>
    simp only [inD] at hf
    split at hf
    · rename_i c
      rw [Bool.and_eq_true] at c
      obtain ⟨p, e1, l1, d1⟩ := dat_pd dp d c.1
      obtain ⟨ps, e2, l2, d2⟩ := datL_pd dp ds c.2
      simp only [Option.some.injEq] at hf
      obtain ⟨as, r1⟩ := Rep.reads I vd e1 rx
      obtain ⟨bs, r2⟩ := Rep.reads I ve (p := .list ps) (by simp [D.pd, e2]) ry
      have hu' : X.A.units + 1 + min (PyData.depthAll ps) p.depth < cLine := by unfold dp at d2; omega
      have ea := eqv_any d ds ps p e2 e1
      cases neg with
      | false => exact PySem.SeqAt.in_list_data r2 r1 l2 l1 hu' (by rw [ea, hf]; exact fin_b I k)
      | true => exact PySem.SeqAt.notIn_list_data r2 r1 l2 l1 hu' (by rw [ea, hf]; exact fin_b I k)
    · cases hf
  | tup ds =>
    simp only [inD] at hf
    split at hf
    · rename_i c
      rw [Bool.and_eq_true] at c
      obtain ⟨p, e1, l1, d1⟩ := dat_pd dp d c.1
      obtain ⟨ps, e2, l2, d2⟩ := datL_pd dp ds c.2
      simp only [Option.some.injEq] at hf
      obtain ⟨as, r1⟩ := Rep.reads I vd e1 rx
      obtain ⟨bs, r2⟩ := Rep.reads I ve (p := .tuple ps) (by simp [D.pd, e2]) ry
      have hu' : X.A.units + 1 + min (PyData.depthAll ps) p.depth < cLine := by unfold dp at d2; omega
      have ea := eqv_any d ds ps p e2 e1
      cases neg with
      | false => exact PySem.SeqAt.in_tuple_data r2 r1 l2 l1 hu' (by rw [ea, hf]; exact fin_b I k)
      | true => exact PySem.SeqAt.notIn_tuple_data r2 r1 l2 l1 hu' (by rw [ea, hf]; exact fin_b I k)
    · cases hf
  | way ds =>
    simp only [inD] at hf
    split at hf
    · rename_i c
      rw [Bool.and_eq_true] at c
      obtain ⟨p, e1, l1, d1⟩ := dat_pd dp d c.1
      obtain ⟨ps, e2, l2, d2⟩ := datL_pd dp ds c.2
      simp only [Option.some.injEq] at hf
      obtain ⟨as, r1⟩ := Rep.reads I vd e1 rx
      obtain ⟨bs, r2⟩ := Rep.reads I ve (p := .tuple ps) (by simp [D.pd, e2]) ry
      have hu' : X.A.units + 1 + min (PyData.depthAll ps) p.depth < cLine := by unfold dp at d2; omega
      have ea := eqv_any d ds ps p e2 e1
      cases neg with
      | false => exact PySem.SeqAt.in_tuple_data r2 r1 l2 l1 hu' (by rw [ea, hf]; exact fin_b I k)
      | true => exact PySem.SeqAt.notIn_tuple_data r2 r1 l2 l1 hu' (by rw [ea, hf]; exact fin_b I k)
    · cases hf
  | dic t ks vs =>
    simp only [inD] at hf
    split at hf
    · rename_i c
      simp only [Option.some.injEq] at hf
      obtain ⟨a, o, rfl, g, g1, g2⟩ := dget_of ve vd c
      obtain rfl : u = Value.ref a := ry
      have ho : o.isSome = b := by
        rw [← hf]
        cases q : lookD d ks vs with
        | none => rw [g2 q]; rfl
        | some z =>
          obtain ⟨w, e, _⟩ := g1 z q
          rw [e]; rfl
      cases neg with
      | false => exact d_in (by omega) I g rx fun s' I' => by rw [ho]; exact fin_b I' k
      | true => exact d_notIn (by omega) I g rx fun s' I' => by rw [ho]; exact fin_b I' k
    · cases hf
  | _ => simp [inD] at hf
theorem op_isD' {neg : Bool} {pins : List (Addr × Obj)} {s : Shared} {σ : L2.St} {H : Hp} {x y : V} {v u : Value} {Q : VK} {μ : List Addr} {d e : D} {b : Bool} {S : Store} {d0 : D} {Bs : List Nat} (w : World Y Bs μ H S) (hd : d = vw S d0) (rd : Rep Y μ H x d0)
    (I : Inv X pins σ H s) (rx : RelV x v) (ry : RelV y u) (vd : View Y μ H x d) (ve : View Y μ H y e) (hf : isD d e = some b) (k : Q (.bl (if neg then !b else b)) H) :
    wpAny (model X.prog X.w) X.A (compareOp (if neg then .IsNot else .Is) v u) (EP X pins σ Q) X.xe s := by
  cases e with
  | non =>
    cases ve
    have hb : decide (x = .non) = b := by
      simp only [isD, Option.some.injEq] at hf
      rw [← hf]
      cases vd with
      | @ref v i =>
        have : ∃ a, x = .ref a := by
          have : d0 = .ref i := by
            cases d0 <;> simp [vw] at hd
            · split at hd
              · cases hd
              · cases hd
              · exact hd.symm
          subst this
          cases rd
          exact ⟨_, rfl⟩
        obtain ⟨a, rfl⟩ := this
        simp
      | _ => simp
    cases neg with
    | false => exact op_isN pins s σ H _ _ v u Q I rx ry ⟨rfl, by rw [hb]; exact k⟩
    | true => exact op_notN pins s σ H _ _ v u Q I rx ry ⟨rfl, by rw [hb]; exact k⟩
  | bl j =>
    cases ve
    cases d with
    | bl i =>
      cases vd
      cases rx
      cases ry
      simp only [isD, Option.some.injEq] at hf
      cases neg with
      | false => exact PyProof.Rows.is_bool (by rw [hf]; exact fin_b I k)
      | true => exact wpAny_isNot_plain (by rfl) (by
          have : (!(Value.bool i == Value.bool j)) = !b := by rw [← hf]; cases i <;> cases j <;> rfl
          rw [this]; exact fin_b I k)
    | _ => simp [isD] at hf
  | _ => simp [isD] at hf
theorem op_cmp (hu : X.A.units + 64 < cLine) (o : CO) : OpR X (compareOp o.op) (opB2 Y (cmpD o)) := by
  intro pins s σ H x y v u Q I rx ry h
  obtain ⟨Bs, μ, S, d, e, b, w, rd, re, hf, k⟩ := h
  have vd := view_of w rd
  have ve := view_of w re
  cases o with
  | eq =>
    obtain ⟨p, q, e1, e2, l1, l2, rfl, d1⟩ := eqD_data hf
    obtain ⟨as, r1⟩ := Rep.reads I vd e1 rx
    obtain ⟨bs, r2⟩ := Rep.reads I ve e2 ry
    exact PySem.SeqAt.eq_plain r1 r2 l1 l2 (by unfold dp at d1; omega) (fin_b I k)
  | ne =>
    simp only [cmpD, Option.map_eq_some_iff] at hf
    obtain ⟨b', hf, rfl⟩ := hf
    obtain ⟨p, q, e1, e2, l1, l2, rfl, d1⟩ := eqD_data hf
    obtain ⟨as, r1⟩ := Rep.reads I vd e1 rx
    obtain ⟨bs, r2⟩ := Rep.reads I ve e2 ry
    exact PySem.SeqAt.ne_plain r1 r2 l1 l2 (by unfold dp at d1; omega) (fin_b I k)
  | lt =>
    obtain ⟨p, q, e1, e2, al, nn, rfl, d1⟩ := ltD_data hf
    obtain ⟨as, r1⟩ := Rep.reads I vd e1 rx
    obtain ⟨bs, r2⟩ := Rep.reads I ve e2 ry
    exact PySem.W.lt_data r1 r2 al nn (by unfold dp at d1; omega) (fin_b I k)
  | gt =>
    obtain ⟨p, q, e1, e2, al, nn, rfl, d1⟩ := ltD_data hf
    obtain ⟨as, r1⟩ := Rep.reads I vd e2 rx
    obtain ⟨bs, r2⟩ := Rep.reads I ve e1 ry
    exact PySem.W.gt_data r1 r2 (by rw [PySem.W.alike_comm]; exact al) (alike_none al nn) (by unfold dp at d1; omega) (fin_b I k)
  | le =>
    simp only [cmpD, Option.map_eq_some_iff] at hf
    obtain ⟨b', hf, rfl⟩ := hf
    obtain ⟨p, q, e1, e2, al, nn, rfl, d1⟩ := ltD_data hf
    obtain ⟨as, r1⟩ := Rep.reads I vd e2 rx
    obtain ⟨bs, r2⟩ := Rep.reads I ve e1 ry
    exact PySem.W.le_data r1 r2 (by rw [PySem.W.alike_comm]; exact al) (alike_none al nn) (by unfold dp at d1; omega) (fin_b I k)
  | ge =>
    simp only [cmpD, Option.map_eq_some_iff] at hf
    obtain ⟨b', hf, rfl⟩ := hf
    obtain ⟨p, q, e1, e2, al, nn, rfl, d1⟩ := ltD_data hf
    obtain ⟨as, r1⟩ := Rep.reads I vd e1 rx
    obtain ⟨bs, r2⟩ := Rep.reads I ve e2 ry
    exact PySem.W.ge_data r1 r2 al nn (by unfold dp at d1; omega) (fin_b I k)
  | isIn => exact op_inD' (neg := false) hu I rx ry vd ve hf k
  | notIn =>
    simp only [cmpD, Option.map_eq_some_iff] at hf
    obtain ⟨b', hf, rfl⟩ := hf
    exact op_inD' (neg := true) hu I rx ry vd ve hf k
  | is => exact op_isD' (neg := false) w rfl rd I rx ry vd ve hf k
  | isNot =>
    simp only [cmpD, Option.map_eq_some_iff] at hf
    obtain ⟨b', hf, rfl⟩ := hf
    exact op_isD' (neg := true) w rfl rd I rx ry vd ve hf k
end
end CL
namespace CL
open PySem PySem.Spec PyProof.Rows L2
section
variable {X : Cx} {Y : Sx}
theorem view_tru {K : PySem.W.Frag} {μ : List Addr} {H : Hp} {x : V} {d : D} {k : Bool} (h : View Y μ H x d) (e : truD d = some k) : TruV K x H k := by
  cases h with
  | non => simp only [truD, Option.some.injEq] at e; exact e.symm
  | bl b => simp only [truD, Option.some.injEq] at e; exact e.symm
  | int i => simp only [truD, Option.some.injEq] at e; exact e.symm
  | str l =>
    simp only [truD] at e
    split at e
    · rename_i c
      simp only [Option.some.injEq] at e
      refine ⟨by rw [str_len]; exact lim_line c, ?_⟩
      rw [str_len, ← e]
      cases l with
      | nil => rfl
      | cons a l => simp [bne_iff_ne]; omega
    · cases e
  | tup h n r =>
    simp only [truD, Option.some.injEq] at e
    exact .inr (.inl ⟨_, .of h, by rw [r.nil_iff]; exact e.symm⟩)
  | way h _ n r =>
    simp only [truD, Option.some.injEq] at e
    exact .inr (.inl ⟨_, .inl (.inr ⟨_, h⟩), by rw [r.nil_iff]; exact e.symm⟩)
  | lst h r =>
    simp only [truD, Option.some.injEq] at e
    exact .inl ⟨_, .of h, by rw [r.nil_iff]; exact e.symm⟩
  | _ => simp [truD] at e
theorem atD_I {α : Type} {xs : List α} {i : Int} {v : α} (h : atD xs i = some v) : atI xs i = some v := by
  unfold atD at h
  unfold atI ixN
  by_cases h0 : 0 ≤ i
  · rw [if_pos h0] at h
    have hl := (List.getElem?_eq_some_iff.mp h).1
    rw [if_pos h0, if_pos (by omega)]
    exact h
  · rw [if_neg h0] at h
    rw [if_neg h0]
    by_cases h1 : 0 ≤ i + xs.length
    · rw [if_pos h1] at h
      rw [if_pos (by omega)]
      exact h
    · rw [if_neg h1] at h; cases h
theorem atI_rep {μ : List Addr} {H : Hp} {xs : List V} {ds : List D} {i : Int} {d : D} (r : RepL Y μ H xs ds) (h : atD ds i = some d) : ∃ v, atI xs i = some v ∧ Rep Y μ H v d := by
  have hl := r.length
  unfold atD at h
  by_cases h0 : 0 ≤ i
  · rw [if_pos h0] at h
    obtain ⟨v, a, b⟩ := r.get h
    exact ⟨v, atD_I (by unfold atD; rw [if_pos h0]; exact a), b⟩
  · rw [if_neg h0] at h
    by_cases h1 : 0 ≤ i + ds.length
    · rw [if_pos h1] at h
      obtain ⟨v, a, b⟩ := r.get h
      exact ⟨v, atD_I (by unfold atD; rw [if_neg h0, hl, if_pos h1]; exact a), b⟩
    · rw [if_neg h1] at h; cases h
theorem ix_D (hK : Y.ca.K = X.K) (hu : X.A.units + 64 < cLine) : IxR X (opD2 Y idxD) := by
  intro value slice pins s σ H x y v u Q I rx ry h hs
  obtain ⟨Bs, μ, S, d, e, r, w, rd, re, hf, k⟩ := h
  have vd := view_of w rd
  have ve := view_of w re
  revert hf
  generalize vw S d = d' at vd
  generalize vw S e = e' at ve
  intro hf
  cases d' with
  | lst ds =>
    cases e' with
    | int i =>
      cases ve
      cases vd with
      | lst h rl =>
        obtain ⟨z, a, b⟩ := atI_rep rl hf
        exact ix_list value slice pins s σ H _ _ v u Q I rx ry ⟨_, _, i, z, rfl, rfl, .of h, a, k.flat w b⟩ hs
    | _ => simp [idxD] at hf
  | tup ds =>
    cases e' with
    | int i =>
      cases ve
      cases vd with
      | tup h n rl =>
        obtain ⟨z, a, b⟩ := atI_rep rl hf
        exact ix_tup value slice pins s σ H _ _ v u Q I rx ry ⟨_, _, i, z, rfl, rfl, .of h, a, k.flat w b⟩ hs
    | _ => simp [idxD] at hf
  | way ds =>
    cases e' with
    | int i =>
      cases ve
      cases vd with
      | way h ho n rl =>
        obtain ⟨z, a, b⟩ := atI_rep rl hf
        exact ix_tup value slice pins s σ H _ _ v u Q I rx ry ⟨_, _, i, z, rfl, rfl, .inl (.inr ⟨_, h⟩), a, k.flat w b⟩ hs
    | _ => simp [idxD] at hf
  | str l =>
    cases e' with
    | int i =>
      cases ve
      cases vd
      simp only [idxD] at hf
      split at hf
      · rename_i c
        simp only [Option.map_eq_some_iff] at hf
        obtain ⟨ch, a, rfl⟩ := hf
        refine ix_str value slice pins s σ H _ _ v u Q I rx ry ⟨_, i, ch, rfl, rfl, by rw [str_len]; exact lim_line c, atD_I (by simpa using a), k.flat w (.str [ch])⟩ hs
      · cases hf
    | _ => simp [idxD] at hf
  | scr ns =>
    cases e' with
    | int i =>
      cases ve
      cases vd with
      | scr h =>
        simp only [idxD, Option.map_eq_some_iff] at hf
        obtain ⟨n, a, rfl⟩ := hf
        have a' : atI (ns.map V.int) i = some (.int n) := by
          have := atD_I a
          unfold atI at this ⊢
          rw [List.length_map]
          cases q : ixN ns.length i with
          | none => rw [q] at this; cases this
          | some j =>
            rw [q] at this
            simp only [Option.bind_some] at this ⊢
            rw [List.getElem?_map, this]
            rfl
        exact ix_list value slice pins s σ H _ _ v u Q I rx ry ⟨_, _, i, _, rfl, rfl, scr_sql hK h, a', k.flat w (.int n)⟩ hs
    | _ => simp [idxD] at hf
  | dic t ks vs =>
    simp only [idxD] at hf
    split at hf
    · rename_i c
      obtain ⟨a, o, rfl, g, g1, g2⟩ := dget_of vd ve c
      obtain rfl : v = Value.ref a := rx
      obtain ⟨z, e1, rz⟩ := g1 r hf
      rw [e1] at g
      exact tail_any (dict_typeIs I g) PySem.F.slot_dict_getitem.lookup (d_getItem (by omega) I g ry fun w' s3 I3 rw' => ⟨z, H, I3, rw', k.flat w rz⟩) hs
    · cases hf
  | _ => simp [idxD] at hf
theorem clip_sIx (n d : Nat) (v : Int) : HT.sIx n d (some v) = clipI n v := by
  show (if v < 0 then (v + (n : Int)).toNat else min v.toNat n) = clipI n v
  unfold clipI
  by_cases h : v < 0
  · rw [if_pos h, if_pos h]
    omega
  · rw [if_neg h, if_neg h]
theorem cut_sIx {α : Type} (l : List α) (lo hi : Option Int) : cutL l lo hi = (l.drop (HT.sIx l.length 0 lo)).take (HT.sIx l.length l.length hi - HT.sIx l.length 0 lo) := by
  unfold cutL
  cases lo <;> cases hi <;> simp only [clip_sIx, HT.sIx_none]
theorem RepL.cutl {μ : List Addr} {H : Hp} {xs : List V} {ds : List D} (r : RepL Y μ H xs ds) (lo hi : Option Int) : RepL Y μ H (cutV xs lo hi) (cutL ds lo hi) := by
  rw [cut_sIx]
  unfold cutV
  rw [r.length]
  exact (r.drop _).take _
def rSlD (Y : Sx) : V → Option Int → Option Int → Hp → VK → Prop := fun x lo hi H Q => ∃ (Bs : List Nat) (μ : List Addr) (S : Store) (d r : D), World Y Bs μ H S ∧ Rep Y μ H x d ∧ slD lo hi (vw S d) = some r ∧ Fin1 Y Bs μ H S r Q
theorem cutL_whole {α : Type} {l : List α} {lo hi : Option Int} (h : HT.sIx l.length 0 lo = 0 ∧ HT.sIx l.length l.length hi = l.length) : cutL l lo hi = l := by
  rw [cut_sIx, h.1, h.2]
  simp
theorem sl_D : SlR X (rSlD Y) := by
  intro pins s σ H x v vl vu lo hi sl Q I rx hs pl pu h
  obtain ⟨Bs, μ, S, d, r, w, rd, hf, k⟩ := h
  have vd := view_of w rd
  revert hf
  generalize vw S d = d' at vd
  intro hf
  cases vd with
  | lst h rl =>
    simp only [slD, Option.some.injEq] at hf
    subst hf
    exact sl_list pins s σ H _ v vl vu lo hi sl Q I rx hs pl pu ⟨_, _, rfl, .of h, fun p hp => k.lst w (rl.cutl lo hi) hp⟩
  | tup h n rl =>
    simp only [slD, Option.some.injEq] at hf
    subst hf
    refine sl_tupA pins s σ H _ v vl vu lo hi sl Q I rx hs pl pu ⟨_, _, rfl, .of h, fun hw => ?_, fun _ p hp => k.tup w (rl.cutl lo hi) hp⟩
    rw [rl.length] at hw
    rw [cutL_whole hw] at k
    exact k.flat w (.tup h n rl)
  | str l =>
    simp only [slD] at hf
    split at hf
    · rename_i c
      simp only [Option.some.injEq] at hf
      subst hf
      refine sl_str pins s σ H _ v vl vu lo hi sl Q I rx hs pl pu ⟨_, rfl, by rw [str_len]; exact lim_line c, ?_⟩
      have e : cutS ⟨l.toArray⟩ lo hi = ⟨(cutL l lo hi).toArray⟩ := by
        rw [cut_sIx]
        unfold cutS
        simp only [str_len]
      rw [e]
      exact k.flat w (.str _)
    · cases hf
  | _ => simp [slD] at hf
end
def rFb (Y : Sx) (f : FB) : List V → Hp → VK → Prop := fun xs H Q => ∃ (Bs : List Nat) (μ : List Addr) (S : Store) (ds : List D) (r : D), World Y Bs μ H S ∧ RepL Y μ H xs ds ∧ fbD f (ds.map (vw S)) = some r ∧ Fin1 Y Bs μ H S r Q
def FB.py : FB → String
  | .len => "len" | .str => "str" | .int => "int" | .tuple => "tuple" | .wtuple => "tuple" | .list => "list" | .sorted => "sorted" | .min => "min" | .max => "max" | .abs => "abs" | .sum => "sum" | .all => "all" | .lenSet => "len" | .sortedSet => "sorted"
def FB.ty : FB → Bool
  | .str => true | .int => true | .tuple => true | .wtuple => true | .list => true | _ => false
def FB.val (f : FB) : Value := if f.ty then .type f.py else .builtin f.py
theorem rep1 {Y : Sx} {μ : List Addr} {H : Hp} {xs : List V} {d : D} (r : RepL Y μ H xs [d]) : ∃ x, xs = [x] ∧ Rep Y μ H x d := by
  cases r with
  | cons h t => cases t; exact ⟨_, rfl, h⟩
theorem rep2 {Y : Sx} {μ : List Addr} {H : Hp} {xs : List V} {d e : D} (r : RepL Y μ H xs [d, e]) : ∃ x y, xs = [x, y] ∧ Rep Y μ H x d ∧ Rep Y μ H y e := by
  cases r with
  | cons h t =>
    obtain ⟨y, rfl, hy⟩ := rep1 t
    exact ⟨_, _, rfl, h, hy⟩
theorem repInts {Y : Sx} {μ : List Addr} {H : Hp} : ∀ {xs : List V} {ds : List D} {ns : List Int}, RepL Y μ H xs ds → intsD ds = some ns → xs = ns.map V.int
  | _, _, _, .nil, e => by simp only [intsD, Option.some.injEq] at e; subst e; rfl
  | _, _, _, .cons h t, e => by
    cases h with
    | int i =>
      simp only [intsD, Option.map_eq_some_iff] at e
      obtain ⟨l, e1, rfl⟩ := e
      rw [repInts t e1]; rfl
    | _ => simp [intsD] at e
theorem repBls {Y : Sx} {μ : List Addr} {H : Hp} : ∀ {xs : List V} {ds : List D} {ns : List Bool}, RepL Y μ H xs ds → bls ds = some ns → xs = ns.map V.bl
  | _, _, _, .nil, e => by simp only [bls, Option.some.injEq] at e; subst e; rfl
  | _, _, _, .cons h t, e => by
    cases h with
    | bl i =>
      simp only [bls, Option.map_eq_some_iff] at e
      obtain ⟨l, e1, rfl⟩ := e
      rw [repBls t e1]; rfl
    | _ => simp [bls] at e
theorem repTxts {Y : Sx} {μ : List Addr} {H : Hp} : ∀ {xs : List V} {ds : List D} {ns : List (List Nat)}, RepL Y μ H xs ds → txts ds = some ns → xs = (ns.map fun l => (⟨l.toArray⟩ : Str)).map V.str
  | _, _, _, .nil, e => by simp only [txts, Option.some.injEq] at e; subst e; rfl
  | _, _, _, .cons h t, e => by
    cases h with
    | str i =>
      simp only [txts, Option.map_eq_some_iff] at e
      obtain ⟨l, e1, rfl⟩ := e
      rw [repTxts t e1]; rfl
    | _ => simp [txts] at e
theorem strI_eq (i : Int) : (⟨(strI i).toArray⟩ : Str) = Str.ofString (toString i) := by
  rw [Str.ofString_eq_toList]
  rfl
section
variable {X : Cx} {Y : Sx}
theorem call_fb (hK : Y.ca.K = X.K) (hc : X.calm = true) (hu : X.A.units + 64 < cLine) (f : FB) : CallR X f.val (rFb Y f) := by
  intro pins s σ H xs us Q I r h
  obtain ⟨Bs, μ, S, ds, res, w, rl, hf, k⟩ := h
  cases f with
  | len =>
    match ds, rl, hf with
    | [d], rl, hf =>
      obtain ⟨x, rfl, rx⟩ := rep1 rl
      have vd := view_of w rx
      revert hf
      simp only [List.map_cons, List.map_nil]
      generalize vw S d = d' at vd
      intro hf
      simp only [fbD, Option.map_eq_some_iff] at hf
      obtain ⟨n, hn, rfl⟩ := hf
      cases vd with
      | str l =>
        simp only [lenD] at hn
        split at hn
        · rename_i c
          simp only [Option.some.injEq] at hn
          subst hn
          exact call_len pins s σ H _ us Q I r ⟨_, _, rfl, ⟨by rw [str_len]; exact lim_line c, (str_len l).symm⟩, k.flat w (.int _)⟩
        · cases hn
      | lst h rr =>
        simp only [lenD, Option.some.injEq] at hn
        subst hn
        exact call_len pins s σ H _ us Q I r ⟨_, _, rfl, .inl ⟨_, .of h, rr.length.symm⟩, k.flat w (.int _)⟩
      | tup h n rr =>
        simp only [lenD, Option.some.injEq] at hn
        subst hn
        exact call_len pins s σ H _ us Q I r ⟨_, _, rfl, .inr ⟨_, .of h, rr.length.symm⟩, k.flat w (.int _)⟩
      | way h ho n rr =>
        simp only [lenD, Option.some.injEq] at hn
        subst hn
        exact call_len pins s σ H _ us Q I r ⟨_, _, rfl, .inr ⟨_, .inl (.inr ⟨_, h⟩), rr.length.symm⟩, k.flat w (.int _)⟩
      | scr h =>
        simp only [lenD, Option.some.injEq] at hn
        subst hn
        exact call_len pins s σ H _ us Q I r ⟨_, _, rfl, .inl ⟨_, scr_sql hK h, by simp⟩, k.flat w (.int _)⟩
      | dicK h rr =>
        simp only [lenD, Option.some.injEq] at hn
        subst hn
        obtain ⟨u, rfl, ru⟩ := vals1 r
        cases ru
        exact d_len I (.inl h) fun t s' I' => ⟨.int _, H, I', ⟨t, by simp⟩, k.flat w (.int _)⟩
      | _ => simp [lenD] at hn
    | [], _, hf => simp [fbD] at hf
    | _ :: _ :: _, _, hf => simp [fbD] at hf
  | str =>
    match ds, rl, hf with
    | [d], rl, hf =>
      obtain ⟨x, rfl, rx⟩ := rep1 rl
      have vd := view_of w rx
      revert hf
      simp only [List.map_cons, List.map_nil]
      generalize vw S d = d' at vd
      intro hf
      cases vd with
      | int i =>
        simp only [fbD] at hf
        split at hf
        · rename_i c
          simp only [Option.some.injEq] at hf
          subst hf
          refine call_str_int pins s σ H _ us Q I r ⟨i, rfl, ?_, ?_⟩
          · exact Nat.lt_trans (PySem.Flt.log2_lt_of (by decide) c) (by decide)
          · have := k.flat w (.str (strI i))
            rw [strI_eq] at this
            exact this
        · cases hf
      | _ => simp [fbD] at hf
    | [], _, hf => simp [fbD] at hf
    | _ :: _ :: _, _, hf => simp [fbD] at hf
  | int =>
    match ds, rl, hf with
    | [d], rl, hf =>
      obtain ⟨x, rfl, rx⟩ := rep1 rl
      have vd := view_of w rx
      revert hf
      simp only [List.map_cons, List.map_nil]
      generalize vw S d = d' at vd
      intro hf
      cases vd with
      | int i =>
        simp only [fbD, Option.some.injEq] at hf
        subst hf
        exact call_int1 pins s σ H _ us Q I r (.inl ⟨_, rfl, k.flat w (.int _)⟩)
      | bl b =>
        simp only [fbD, Option.some.injEq] at hf
        subst hf
        exact call_int1 pins s σ H _ us Q I r (.inr ⟨_, rfl, k.flat w (.int _)⟩)
      | str l =>
        simp only [fbD] at hf
        split at hf
        · rename_i c
          simp only [Option.map_eq_some_iff] at hf
          obtain ⟨n, hn, rfl⟩ := hf
          exact call_int_str pins s σ H _ us Q I r ⟨_, n, rfl, hn, by rw [str_len]; exact c, k.flat w (.int _)⟩
        · cases hf
      | _ => simp [fbD] at hf
    | [], _, hf => simp [fbD] at hf
    | _ :: _ :: _, _, hf => simp [fbD] at hf
  | tuple =>
    match ds, rl, hf with
    | [d], rl, hf =>
      obtain ⟨x, rfl, rx⟩ := rep1 rl
      have vd := view_of w rx
      revert hf
      simp only [List.map_cons, List.map_nil]
      generalize vw S d = d' at vd
      intro hf
      cases vd with
      | lst h rr =>
        simp only [fbD, Option.some.injEq] at hf
        subst hf
        exact call_tuple_of pins s σ H _ us Q I r ⟨_, _, rfl, .inl ⟨.of h, fun l hl => k.tup w rr hl⟩⟩
      | tup h n rr =>
        simp only [fbD, Option.some.injEq] at hf
        subst hf
        exact call_tuple_of pins s σ H _ us Q I r ⟨_, _, rfl, .inr ⟨.of h, k.flat w (.tup h n rr)⟩⟩
      | _ => simp [fbD] at hf
    | [], _, hf => simp [fbD] at hf
    | _ :: _ :: _, _, hf => simp [fbD] at hf
  | list =>
    match ds, rl, hf with
    | [d], rl, hf =>
      obtain ⟨x, rfl, rx⟩ := rep1 rl
      have vd := view_of w rx
      revert hf
      simp only [List.map_cons, List.map_nil]
      generalize vw S d = d' at vd
      intro hf
      cases vd with
      | lst h rr =>
        simp only [fbD, Option.some.injEq] at hf
        subst hf
        exact call_list_of pins s σ H _ us Q I r ⟨_, _, rfl, .inl (.of h), fun l hl => k.lst w rr hl⟩
      | tup h n rr =>
        simp only [fbD, Option.some.injEq] at hf
        subst hf
        exact call_list_of pins s σ H _ us Q I r ⟨_, _, rfl, .inr (.of h), fun l hl => k.lst w rr hl⟩
      | way h ho n rr =>
        simp only [fbD, Option.some.injEq] at hf
        subst hf
        exact call_list_of pins s σ H _ us Q I r ⟨_, _, rfl, .inr (.inl (.inr ⟨_, h⟩)), fun l hl => k.lst w rr hl⟩
      | _ => simp [fbD] at hf
    | [], _, hf => simp [fbD] at hf
    | _ :: _ :: _, _, hf => simp [fbD] at hf
  | abs =>
    match ds, rl, hf with
    | [d], rl, hf =>
      obtain ⟨x, rfl, rx⟩ := rep1 rl
      have vd := view_of w rx
      revert hf
      simp only [List.map_cons, List.map_nil]
      generalize vw S d = d' at vd
      intro hf
      cases vd with
      | int i =>
        simp only [fbD, Option.some.injEq] at hf
        subst hf
        exact call_abs pins s σ H _ us Q I r ⟨_, rfl, k.flat w (.int _)⟩
      | _ => simp [fbD] at hf
    | [], _, hf => simp [fbD] at hf
    | _ :: _ :: _, _, hf => simp [fbD] at hf
  | sum =>
    match ds, rl, hf with
    | [d], rl, hf =>
      obtain ⟨x, rfl, rx⟩ := rep1 rl
      have vd := view_of w rx
      revert hf
      simp only [List.map_cons, List.map_nil]
      generalize vw S d = d' at vd
      intro hf
      cases vd with
      | lst h rr =>
        simp only [fbD, Option.map_eq_some_iff] at hf
        obtain ⟨ns, hn, rfl⟩ := hf
        have e := repInts rr hn
        subst e
        exact cr_sum hc pins s σ H _ us Q I r ⟨_, ns, rfl, .of h, k.flat w (.int _)⟩
      | _ => simp [fbD] at hf
    | [], _, hf => simp [fbD] at hf
    | _ :: _ :: _, _, hf => simp [fbD] at hf
  | all =>
    match ds, rl, hf with
    | [d], rl, hf =>
      obtain ⟨x, rfl, rx⟩ := rep1 rl
      have vd := view_of w rx
      revert hf
      simp only [List.map_cons, List.map_nil]
      generalize vw S d = d' at vd
      intro hf
      cases vd with
      | lst h rr =>
        simp only [fbD, Option.map_eq_some_iff] at hf
        obtain ⟨ns, hn, rfl⟩ := hf
        have e := repBls rr hn
        subst e
        exact cr_all hc pins s σ H _ us Q I r ⟨_, ns, rfl, .of h, k.flat w (.bl _)⟩
      | _ => simp [fbD] at hf
    | [], _, hf => simp [fbD] at hf
    | _ :: _ :: _, _, hf => simp [fbD] at hf
  | min =>
    match ds, rl, hf with
    | [d, e], rl, hf =>
      obtain ⟨x, y, rfl, rx, ry⟩ := rep2 rl
      have vd := view_of w rx
      have ve := view_of w ry
      revert hf
      simp only [List.map_cons, List.map_nil]
      generalize vw S d = d' at vd
      generalize vw S e = e' at ve
      intro hf
      cases vd with
      | int i =>
        cases ve with
        | int j =>
          simp only [fbD, Option.some.injEq] at hf
          subst hf
          exact call_min2 hc pins s σ H _ us Q I r ⟨i, j, rfl, k.flat w (.int _)⟩
        | _ => simp [fbD] at hf
      | _ => simp [fbD] at hf
    | [_], _, hf => simp [fbD] at hf
    | [], _, hf => simp [fbD] at hf
    | _ :: _ :: _ :: _, _, hf => simp [fbD] at hf
  | max =>
    match ds, rl, hf with
    | [d, e], rl, hf =>
      obtain ⟨x, y, rfl, rx, ry⟩ := rep2 rl
      have vd := view_of w rx
      have ve := view_of w ry
      revert hf
      simp only [List.map_cons, List.map_nil]
      generalize vw S d = d' at vd
      generalize vw S e = e' at ve
      intro hf
      cases vd with
      | int i =>
        cases ve with
        | int j =>
          simp only [fbD, Option.some.injEq] at hf
          subst hf
          exact call_max2 hc pins s σ H _ us Q I r ⟨i, j, rfl, k.flat w (.int _)⟩
        | _ => simp [fbD] at hf
      | _ => simp [fbD] at hf
    | [_], _, hf => simp [fbD] at hf
    | [], _, hf => simp [fbD] at hf
    | _ :: _ :: _ :: _, _, hf => simp [fbD] at hf
  | wtuple =>
    match ds, rl, hf with
    | [d], rl, hf =>
      obtain ⟨x, rfl, rx⟩ := rep1 rl
      have vd := view_of w rx
      revert hf
      simp only [List.map_cons, List.map_nil]
      generalize vw S d = d' at vd
      intro hf
      cases vd with
      | lst h rr =>
        simp only [fbD, Option.some.injEq] at hf
        subst hf
        obtain ⟨u, rfl, rx⟩ := vals1 r
        cases rx
        obtain ⟨its, r', pl, hz⟩ := I.list (.of h)
        have hlen := r'.length
        refine call_tuple_list pl.isList (fun h' kp => ?_) (by simp only [List.size_toArray] <;> omega)
        have I1 : Inv X pins σ H { s with heap := h' } := I.kept (t' := s.toks) kp
        have I2 : Inv X pins σ (upd H h'.objs.size (.frz { cls := .type "tuple", data := .seq its.toArray } (.tup _))) { s with heap := h'.push { cls := .type "tuple", data := .seq its.toArray } } :=
          I1.laid (t' := s.toks) (fun b o e => Heap.get?_push_of_some _ e) (Nat.le_refl _) (show ObjOk X.prog X.w _ _ _ (.frz _ (.tup _)) from ⟨Heap.get?_push_size _ rfl, hz, its, r', IsTup.new _ _⟩)
        have hp := I1.hok.fresh (Nat.le_refl _)
        exact ⟨.ref h'.objs.size, _, I2, rfl, k μ _ _ (.laid hp) (w.laid hp) (.way upd_same rfl (w.fresh hp) (rr.ext (.laid hp)))⟩
      | _ => simp [fbD] at hf
    | [], _, hf => simp [fbD] at hf
    | _ :: _ :: _, _, hf => simp [fbD] at hf
  | _ => simp [fbD] at hf
end
end CL
namespace CL
open PySem PySem.Spec PyProof.Rows L2
def tyOf : Nat → String
  | 1 => "str" | 2 => "list" | 3 => "tuple" | _ => ""
def MB.py : MB → String
  | .join => "join" | .split => "split" | .partition => "partition" | .startswith => "startswith" | .index => "index" | .count => "count" | .append => "append" | .pop => "pop" | .popAt => "pop" | .insert => "insert" | .reverse => "reverse" | .extend => "extend" | .remove => "remove" | .clear => "clear" | .get => "get"
theorem mb_facts {m : MB} {k : Nat} {id : String} (h : mbId m k = some id) : PlainAttrs (tyOf k) ∧ Slot (tyOf k) (nm m.py) id ∧ typeOf (.builtin id) = pure (.type "method_descriptor") := by
  unfold mbId at h
  split at h <;> first
    | (obtain rfl := Option.some.inj h; first
        | exact ⟨PySem.F.plainAttrs_str, PySem.F.slot_str_join, PySem.F.type_str_join⟩
        | exact ⟨PySem.F.plainAttrs_str, PySem.F.slot_str_split, PySem.F.type_str_split⟩
        | exact ⟨PySem.F.plainAttrs_str, PySem.F.slot_str_partition, PySem.F.type_str_partition⟩
        | exact ⟨PySem.F.plainAttrs_str, PySem.F.slot_str_startswith, PySem.F.type_str_startswith⟩
        | exact ⟨PySem.F.plainAttrs_list, PySem.F.slot_list_index, PySem.F.type_list_index⟩
        | exact ⟨PySem.F.plainAttrs_tuple, PySem.F.slot_tuple_index, PySem.F.type_tuple_index⟩
        | exact ⟨PySem.F.plainAttrs_list, PySem.F.slot_list_count, PySem.F.type_list_count⟩
        | exact ⟨PySem.F.plainAttrs_list, PySem.F.slot_list_append, PySem.F.type_list_append⟩
        | exact ⟨PySem.F.plainAttrs_list, PySem.F.slot_list_extend, PySem.F.type_list_extend⟩
        | exact ⟨PySem.F.plainAttrs_list, PySem.F.slot_list_pop, PySem.F.type_list_pop⟩
        | exact ⟨PySem.F.plainAttrs_list, PySem.F.slot_list_insert, PySem.F.type_list_insert⟩
        | exact ⟨PySem.F.plainAttrs_list, PySem.F.slot_list_reverse, PySem.F.type_list_reverse⟩
        | exact ⟨PySem.F.plainAttrs_list, PySem.F.slot_list_clear, PySem.F.type_list_clear⟩
        | exact ⟨PySem.F.plainAttrs_list, PySem.F.slot_list_remove, PySem.F.type_list_remove⟩)
    | cases h
theorem place_pd (x : D) (p : PyData) (ex : x.pd = some p) : ∀ (ds : List D) (ps : List PyData) (n : Nat), D.pdL ds = some ps → placeD x ds = some n → PySem.SeqAt.dataPlace ps p = some n
  | [], ps, n, h, e => by simp [placeD] at e
  | d :: ds, ps, n, h, e => by
    obtain ⟨q, qs, rfl, e1, e2⟩ : ∃ q qs, ps = q :: qs ∧ d.pd = some q ∧ D.pdL ds = some qs := by
      simp only [D.pdL] at h
      split at h
      · rename_i a b e1 e2
        simp only [Option.some.injEq] at h; exact ⟨_, _, h.symm, e1, e2⟩
      · cases h
    unfold PySem.SeqAt.dataPlace
    rw [List.findIdx?_cons, eqv_pd d x q p e1 ex]
    simp only [placeD] at e
    cases hq : D.eqv d x with
    | true =>
      rw [hq] at e
      simp only [if_true, Option.some.injEq] at e
      subst e
      simp
    | false =>
      rw [hq] at e
      simp only [Bool.false_eq_true, if_false, Option.map_eq_some_iff] at e
      obtain ⟨m, em, rfl⟩ := e
      have ih := place_pd x p ex ds qs m e2 em
      unfold PySem.SeqAt.dataPlace at ih
      simp [ih]
theorem count_pd (x : D) (p : PyData) (ex : x.pd = some p) : ∀ (ds : List D) (ps : List PyData), D.pdL ds = some ps → (ps.countP fun y => PyData.eqv y p) = ds.countP fun y => D.eqv y x
  | [], ps, h => by simp only [D.pdL, Option.some.injEq] at h; subst h; rfl
  | d :: ds, ps, h => by
    simp only [D.pdL] at h
    split at h
    · rename_i a b e1 e2
      simp only [Option.some.injEq] at h
      subst h
      rw [List.countP_cons, List.countP_cons, eqv_pd d x a p e1 ex, count_pd x p ex ds b e2]
    · cases h
theorem place_lt (x : D) : ∀ (ds : List D) (n : Nat), placeD x ds = some n → n < ds.length
  | [], n, e => by simp [placeD] at e
  | d :: ds, n, e => by
    simp only [placeD] at e
    split at e
    · simp only [Option.some.injEq] at e; subst e; simp
    · simp only [Option.map_eq_some_iff] at e
      obtain ⟨m, em, rfl⟩ := e
      have := place_lt x ds m em
      simp; omega
theorem tD_rep {Y : Sx} {μ : List Addr} {H : Hp} (x : Str) : Rep Y μ H (.str x) (tD x) := by
  have := Rep.str (Y := Y) (μ := μ) (H := H) x.cps.toList
  exact this
theorem tDs_rep {Y : Sx} {μ : List Addr} {H : Hp} : ∀ xs : List Str, RepL Y μ H (xs.map V.str) (xs.map tD)
  | [] => .nil
  | x :: xs => .cons (tD_rep x) (tDs_rep xs)
theorem limL_of {n : Nat} {ds es xs : List D} (h : ∀ d ∈ es, d ∈ ds ∨ d ∈ xs) (h1 : D.limL n ds = true) (h2 : D.limL n xs = true) : D.limL n es = true := by
  rw [D.limL_all, List.all_eq_true] at *
  intro d hd
  rcases h d hd with q | q
  · exact h1 d q
  · exact h2 d q
theorem mem_eraseIdx {α : Type} {l : List α} {i : Nat} {x : α} (h : x ∈ l.eraseIdx i) : x ∈ l := List.mem_of_mem_eraseIdx h
section
variable {X : Cx} {Y : Sx}
variable {pins : List (Addr × Obj)} {s : Shared} {σ : L2.St} {H : Hp} {v : Value} {us : List Value} {Q : VK} {W : WX} {x : V} {xs : List V} {μ : List Addr} {Bs : List Nat} {S : Store} {a : D} {ds : List D} {m : MB} {b : Nat} {id : String}
theorem mb_D (hu : X.A.units + 64 < cLine) (hid : mbId m (kindD (vw S a)) = some id) (I : Inv X pins σ H s) (rx : RelV x v) (rv : Vals xs us) (w : World Y Bs μ H S) (ra : Rep Y μ H x a) (rl : RepL Y μ H xs ds)
    {r : D} (hf : mbD m (vw S a) (ds.map (vw S)) = some r) (k : Fin1 Y Bs μ H S r Q) : wpAny (model X.prog X.w) X.A (call (.builtin id) (v :: us)) (EP X pins σ Q) X.xe s := by
  have va := view_of w ra
  revert hf hid
  generalize vw S a = a' at va
  intro hid hf
  cases m with
  | join =>
    cases a' with
    | str sep =>
      cases va
      match ds, rl, hf with
      | [d], rl, hf =>
        obtain ⟨y, rfl, ry⟩ := rep1 rl
        have vd := view_of w ry
        revert hf
        simp only [List.map_cons, List.map_nil]
        generalize vw S d = d' at vd
        intro hf
        cases vd with
        | lst h rr =>
          simp only [mbD] at hf
          split at hf
          · rename_i ls hl
            split at hf
            · rename_i c
              simp only [Option.some.injEq] at hf
              subst hf
              have e := repTxts rr hl
              subst e
              obtain rfl := (Option.some.inj hid).symm
              refine mt_join pins s σ H _ _ v us Q I rx rv ⟨_, _, ls.map sT, rfl, rfl, .inl (.of h), ?_, k.flat w (tD_rep _)⟩
              rw [List.map_map, List.length_map, str_len]
              have : (Str.length ∘ sT) = (List.length : List Nat → Nat) := by
                funext l; exact str_len l
              have e2 : (ls.map (fun x => Str.length (sT x))) = ls.map List.length := by
                refine List.map_congr_left fun l _ => str_len l
              show ((ls.map (fun x => Str.length (sT x))).sum + _ ≤ _)
              rw [e2]
              unfold LIM at c; omega
            · cases hf
          · cases hf
        | _ => simp [mbD] at hf
      | [], _, hf => simp [mbD] at hf
      | _ :: _ :: _, _, hf => simp [mbD] at hf
    | _ => simp [mbD] at hf
  | split =>
    cases a' with
    | str l =>
      cases va
      match ds, rl, hf with
      | [d], rl, hf =>
        obtain ⟨y, rfl, ry⟩ := rep1 rl
        have vd := view_of w ry
        revert hf
        simp only [List.map_cons, List.map_nil]
        generalize vw S d = d' at vd
        intro hf
        cases vd with
        | str z =>
          match z, hf with
          | [c], hf =>
            simp only [mbD] at hf
            split at hf
            · rename_i q
              simp only [Option.some.injEq] at hf
              subst hf
              obtain rfl := (Option.some.inj hid).symm
              refine mt_split pins s σ H _ _ v us Q I rx rv ⟨_, _, rfl, rfl, rfl, ?_, fun p hp => k.lst w (tDs_rep _) hp⟩
              rw [str_len, sizeLine_eq]; unfold LIM at q; omega
            · cases hf
          | [], hf => simp [mbD] at hf
          | _ :: _ :: _, hf => simp [mbD] at hf
        | _ => simp [mbD] at hf
      | [], _, hf => simp [mbD] at hf
      | _ :: _ :: _, _, hf => simp [mbD] at hf
    | _ => simp [mbD] at hf
  | partition =>
    cases a' with
    | str l =>
      cases va
      match ds, rl, hf with
      | [d], rl, hf =>
        obtain ⟨y, rfl, ry⟩ := rep1 rl
        have vd := view_of w ry
        revert hf
        simp only [List.map_cons, List.map_nil]
        generalize vw S d = d' at vd
        intro hf
        cases vd with
        | str z =>
          match z, hf with
          | [c], hf =>
            simp only [mbD] at hf
            split at hf
            · rename_i q
              simp only [Option.some.injEq] at hf
              subst hf
              obtain rfl := (Option.some.inj hid).symm
              exact mt_partition pins s σ H _ _ v us Q I rx rv ⟨_, _, rfl, rfl, rfl, by rw [str_len]; exact lim_line q, fun p hp => k.tup w (.cons (tD_rep _) (.cons (tD_rep _) (.cons (tD_rep _) .nil))) hp⟩
            · cases hf
          | [], hf => simp [mbD] at hf
          | _ :: _ :: _, hf => simp [mbD] at hf
        | _ => simp [mbD] at hf
      | [], _, hf => simp [mbD] at hf
      | _ :: _ :: _, _, hf => simp [mbD] at hf
    | _ => simp [mbD] at hf
  | startswith =>
    cases a' with
    | str l =>
      cases va
      match ds, rl, hf with
      | [d], rl, hf =>
        obtain ⟨y, rfl, ry⟩ := rep1 rl
        have vd := view_of w ry
        revert hf
        simp only [List.map_cons, List.map_nil]
        generalize vw S d = d' at vd
        intro hf
        cases vd with
        | str z =>
          simp only [mbD, Option.some.injEq] at hf
          subst hf
          obtain rfl := (Option.some.inj hid).symm
          exact mt_startswith pins s σ H _ _ v us Q I rx rv ⟨_, _, rfl, rfl, k.flat w (.bl _)⟩
        | _ => simp [mbD] at hf
      | [], _, hf => simp [mbD] at hf
      | _ :: _ :: _, _, hf => simp [mbD] at hf
    | _ => simp [mbD] at hf
  | index =>
    match ds, rl, hf with
    | [d], rl, hf =>
      obtain ⟨y, rfl, ry⟩ := rep1 rl
      have vd := view_of w ry
      revert hf
      simp only [List.map_cons, List.map_nil]
      generalize vw S d = d' at vd
      intro hf
      obtain ⟨u, rfl, ru⟩ := rv.one
      cases a' with
      | lst zs =>
        simp only [mbD] at hf
        split at hf
        · rename_i c
          rw [Bool.and_eq_true] at c
          obtain ⟨p, e1, l1, d1⟩ := dat_pd dp d' c.1
          obtain ⟨ps, e2, l2, d2⟩ := datL_pd dp zs c.2
          simp only [Option.map_eq_some_iff] at hf
          obtain ⟨n, hn, rfl⟩ := hf
          obtain rfl := (Option.some.inj hid).symm
          obtain ⟨bs, r1⟩ := Rep.reads I vd e1 ru
          cases va with
          | lst h rr =>
            cases rx
            obtain ⟨its, rv', ⟨⟨cls, dd, data, sls⟩, n0, ho, hc, hdn, hdt⟩, hlen⟩ := I.list (.of h)
            simp only at hc hdt
            subst hc hdt
            obtain ⟨as, h4⟩ := Dp.readsAll I ps _ its (rr.dp (K := X.K) e2) rv'
            obtain ⟨hj, hit, hno⟩ := PySem.SeqAt.hit_at (vs := its.toArray) (d := p) (show ReadsAll s.heap its.toArray.toList ps as from h4) l2 (place_pd d' p e1 zs ps n e2 hn)
            have hlt := place_lt d' zs n hn
            have hsl := sizeLine_eq
            have := rr.length
            have := rv'.length
            refine call_meets PySem.F.slot_list_index ⟨_, ho, rfl⟩ PySem.F.entry_list_index (PySem.F.args_list_index_2 _ _)
              (PySem.SeqAt.list_indexAt _ its.toArray n0 dd sls u (fun z => PyData.eqv (PySem.SeqAt.readOf s.heap z) p) n hj (by omega) hit hno)
              ⟨ho, PySem.SeqAt.items_plain (vs := its.toArray) (show ReadsAll s.heap its.toArray.toList ps as from h4) r1 l2 l1 (by unfold dp at d2; omega), ?_⟩
            exact ⟨.int n, H, I.tok _, ⟨_, rfl⟩, k.flat w (.int _)⟩
        · cases hf
      | way zs =>
        simp only [mbD] at hf
        split at hf
        · rename_i c
          rw [Bool.and_eq_true] at c
          obtain ⟨p, e1, l1, d1⟩ := dat_pd dp d' c.1
          obtain ⟨ps, e2, l2, d2⟩ := datL_pd dp zs c.2
          simp only [Option.map_eq_some_iff] at hf
          obtain ⟨n, hn, rfl⟩ := hf
          obtain rfl := (Option.some.inj hid).symm
          obtain ⟨bs, r1⟩ := Rep.reads I vd e1 ru
          cases va with
          | way h ho' nm' rr =>
            cases rx
            obtain ⟨its, rv', ⟨⟨cls, dd, data, sls⟩, ho, hc, n0, hdt⟩, hlen⟩ := I.tuple (.inl (.inr ⟨_, h⟩))
            simp only at hc hdt
            subst hc hdt
            obtain ⟨as, h4⟩ := Dp.readsAll I ps _ its (rr.dp (K := X.K) e2) rv'
            obtain ⟨hj, hit, hno⟩ := PySem.SeqAt.hit_at (vs := its.toArray) (d := p) (show ReadsAll s.heap its.toArray.toList ps as from h4) l2 (place_pd d' p e1 zs ps n e2 hn)
            refine call_meets PySem.F.slot_tuple_index ⟨_, ho, rfl⟩ PySem.F.entry_tuple_index (PySem.F.args_tuple_index_2 _ _)
              (TI.tuple_indexAt _ its.toArray n0 dd sls u (fun z => PyData.eqv (PySem.SeqAt.readOf s.heap z) p) n hj hit hno)
              ⟨ho, PySem.SeqAt.items_plain (vs := its.toArray) (show ReadsAll s.heap its.toArray.toList ps as from h4) r1 l2 l1 (by unfold dp at d2; omega), ?_⟩
            exact ⟨.int n, H, I.tok _, ⟨_, rfl⟩, k.flat w (.int _)⟩
        · cases hf
      | _ => simp [mbD] at hf
    | [], _, hf => cases a' <;> simp [mbD] at hf
    | _ :: _ :: _, _, hf => cases a' <;> simp [mbD] at hf
  | count =>
    match ds, rl, hf with
    | [d], rl, hf =>
      obtain ⟨y, rfl, ry⟩ := rep1 rl
      have vd := view_of w ry
      revert hf
      simp only [List.map_cons, List.map_nil]
      generalize vw S d = d' at vd
      intro hf
      obtain ⟨u, rfl, ru⟩ := rv.one
      cases a' with
      | lst zs =>
        simp only [mbD] at hf
        split at hf
        · rename_i c
          rw [Bool.and_eq_true] at c
          obtain ⟨p, e1, l1, d1⟩ := dat_pd dp d' c.1
          obtain ⟨ps, e2, l2, d2⟩ := datL_pd dp zs c.2
          simp only [Option.some.injEq] at hf
          subst hf
          obtain rfl := (Option.some.inj hid).symm
          obtain ⟨bs, r1⟩ := Rep.reads I vd e1 ru
          cases va with
          | lst h rr =>
            cases rx
            obtain ⟨its, rv', pl, hlen⟩ := I.list (.of h)
            obtain ⟨as, h4⟩ := Dp.readsAll I ps _ its (rr.dp (K := X.K) e2) rv'
            refine PySem.SeqAt.count_list_data (vs := its.toArray) pl.isList (show ReadsAll s.heap its.toArray.toList ps as from h4) r1 l2 l1 (by unfold dp at d2; omega) ?_
            rw [count_pd d' p e1 zs ps e2]
            exact ⟨.int _, H, I.tok _, ⟨_, rfl⟩, k.flat w (.int _)⟩
        · cases hf
      | _ => simp [mbD] at hf
    | [], _, hf => cases a' <;> simp [mbD] at hf
    | _ :: _ :: _, _, hf => cases a' <;> simp [mbD] at hf
  | _ => simp [mbD] at hf
theorem ok_of_KR {α β : Type} {rel : List Addr → Hp → β → α → Prop} {Q : β → Hp → Prop} {r : α} {S' : Store} (k : KR Y Bs rel μ H σ Q W (.ok r S')) : ∀ (μ' : List Addr) (H' : Hp) (b : β), Ext μ H μ' H' → World Y Bs μ' H' S' → rel μ' H' b r → Q b H' := k
theorem wr_cell {i : Nat} {p : Addr} {r : D} {r' : V} {es : List D} {ys : List V} (k : KR Y Bs (Rep Y) μ H σ Q W (.ok r (S.set i (.lst es)))) (w : World Y Bs μ H S) (hx : μ[i]? = some p) (rl : RepL Y μ H ys es) (rr : Rep Y μ H r' r)
    (hl : ∀ b ∈ Bs, i < b → D.limL b es = true) : Q r' (upd H p (.lst ys)) := by
  have e : Ext μ H μ (upd H p (.lst ys)) := .wrote (List.mem_of_getElem? hx)
  exact k μ _ r' e (w.wrote hx (.lst upd_same (rl.ext e)) hl) (rr.ext e)
theorem atD_place {α : Type} {l : List α} {i : Int} {d : α} (h : atD l i = some d) : seqIndex? i l.length = some (if 0 ≤ i then i.toNat else (i + l.length).toNat) ∧ l[(if 0 ≤ i then i.toNat else (i + l.length).toNat)]? = some d ∧ -(l.length : Int) ≤ i ∧ i < l.length := by
  unfold atD at h
  unfold seqIndex?
  by_cases h0 : 0 ≤ i
  · rw [if_pos h0] at h
    have hl := (List.getElem?_eq_some_iff.mp h).1
    have h1 : ¬ i < 0 := by omega
    simp only [h0, h1, if_true, if_false]
    refine ⟨?_, h, by omega, by omega⟩
    rw [if_pos]
    simp; omega
  · rw [if_neg h0] at h
    split at h
    · rename_i c
      have hl := (List.getElem?_eq_some_iff.mp h).1
      have h1 : i < 0 := by omega
      simp only [h0, h1, if_true, if_false]
      refine ⟨?_, h, by omega, by omega⟩
      rw [if_pos]
      simp; omega
    · cases h
theorem mc_D (hu : X.A.units + 64 < cLine) {i : Nat} {zs : List D} {r : D} {es : List D} (hid : mbId m 2 = some id) (hb : ∀ c ∈ Bs, c ≤ b) (I : Inv X pins σ H s) (rx : RelV x v) (rv : Vals xs us) (w : World Y Bs μ H S) (ra : Rep Y μ H x (.ref i)) (rl : RepL Y μ H xs ds)
    (hc : S[i]? = some (.lst zs)) (hf : mcD m zs ds (ds.map (vw S)) = some (r, es)) (hl : D.limL 0 ds = true ∨ b ≤ i) (k : KR Y Bs (Rep Y) μ H σ Q W (.ok r (S.set i (.lst es)))) : wpAny (model X.prog X.w) X.A (call (.builtin id) (v :: us)) (EP X pins σ Q) X.xe s := by
  obtain ⟨p, rfl, hx⟩ : ∃ p, x = .ref p ∧ μ[i]? = some p := by
    cases ra with
    | ref h => exact ⟨_, rfl, h⟩
  have co := w.cells i p _ hx hc
  obtain ⟨ys, hy, ry⟩ : ∃ ys, H p = some (.lst ys) ∧ RepL Y μ H ys zs := by
    cases co with
    | lst h r => exact ⟨_, h, r⟩
  have hlim : ∀ c ∈ Bs, i < c → D.limL c zs = true := fun c hc' hlt => w.lims i _ hc c hc' hlt
  have hlim2 : ∀ c ∈ Bs, i < c → D.limL c ds = true := fun c hc' hlt => by
    rcases hl with q | q
    · exact D.limL_mono (Nat.zero_le _) _ q
    · have := hb c hc'; omega
  have hlen := ry.length
  cases m with
  | append =>
    match ds, rl, hf with
    | [d], rl, hf =>
      obtain ⟨y, rfl, ryy⟩ := rep1 rl
      simp only [mcD] at hf
      split at hf
      · rename_i c
        simp only [Option.some.injEq, Prod.mk.injEq] at hf
        obtain ⟨rfl, rfl⟩ := hf
        obtain rfl := (Option.some.inj hid).symm
        refine mt_append pins s σ H _ _ v us Q I rx rv ⟨p, ys, y, rfl, rfl, hy, by rw [hlen, sizeLine_eq]; unfold LIM at c; omega, ?_⟩
        exact wr_cell k w hx (ry.append (.cons ryy .nil)) .non fun c hc' hlt => limL_of (fun d hd => List.mem_append.mp hd) (hlim c hc' hlt) (hlim2 c hc' hlt)
      · cases hf
    | [], _, hf => simp [mcD] at hf
    | _ :: _ :: _, _, hf => simp [mcD] at hf
  | extend =>
    match ds, rl, hf, hlim2, hl with
    | [d], rl, hf, hlim2, hl =>
      obtain ⟨y, rfl, ryy⟩ := rep1 rl
      have vd := view_of w ryy
      cases hv : vw S d with
      | lst qs =>
        rw [hv] at vd
        simp only [List.map_cons, List.map_nil, hv, mcD] at hf
        split at hf
        · rename_i c
          simp only [Option.some.injEq, Prod.mk.injEq] at hf
          obtain ⟨rfl, rfl⟩ := hf
          obtain rfl := (Option.some.inj hid).symm
          cases vd with
          | lst h rq =>
            refine mt_extend pins s σ H _ _ v us Q I rx rv ⟨p, _, ys, _, rfl, rfl, hy, h, by rw [hlen, rq.length, sizeLine_eq]; unfold LIM at c; omega, ?_⟩
            refine wr_cell k w hx (ry.append rq) .non fun c hc' hlt => limL_of (fun d hd => List.mem_append.mp hd) (hlim c hc' hlt) ?_
            rcases hl with q | q
            · have : d = .lst qs := by
                cases d with
                | ref j => simp [D.limL, D.lim] at q
                | _ => exact hv
              subst this
              have : D.limL 0 qs = true := by simpa [D.limL, D.lim] using q
              exact D.limL_mono (Nat.zero_le _) _ this
            · have := hb c hc'; omega
        · cases hf
      | _ => simp [hv, mcD] at hf
    | [], _, hf, _, _ => simp [mcD] at hf
    | _ :: _ :: _, _, hf, _, _ => simp [mcD] at hf
  | pop =>
    match ds, rl, hf with
    | [], rl, hf =>
      cases rl
      simp only [mcD, Option.map_eq_some_iff] at hf
      obtain ⟨d, hd, e⟩ := hf
      simp only [Prod.mk.injEq] at e
      obtain ⟨rfl, rfl⟩ := e
      obtain rfl := (Option.some.inj hid).symm
      obtain ⟨y, h1, h2⟩ := ry.get hd
      refine mt_pop pins s σ H _ _ v us Q I rx rv ⟨p, ys, y, rfl, rfl, hy, by rw [hlen]; exact h1, ?_⟩
      have rdl : RepL Y μ H ys.dropLast zs.dropLast := by
        rw [List.dropLast_eq_take, List.dropLast_eq_take, hlen]; exact ry.take _
      exact wr_cell k w hx rdl h2 fun c hc' hlt => limL_of (xs := []) (fun d hd => .inl (List.dropLast_subset _ hd)) (hlim c hc' hlt) rfl
    | [_], _, hf => simp [mcD] at hf
    | _ :: _ :: _, _, hf => simp [mcD] at hf
  | popAt =>
    match ds, rl, hf with
    | [.int j], rl, hf =>
      obtain ⟨y, rfl, ryy⟩ := rep1 rl
      cases ryy
      simp only [mcD] at hf
      split at hf
      · rename_i c
        simp only [remAt] at hf
        split at hf
        · rename_i d hd
          simp only [Option.some.injEq, Prod.mk.injEq] at hf
          obtain ⟨rfl, rfl⟩ := hf
          obtain rfl := (Option.some.inj hid).symm
          obtain ⟨a1, a2, a3, a4⟩ := atD_place hd
          obtain ⟨y, h1, h2⟩ := ry.get a2
          unfold LIM at c
          refine mt_popAt pins s σ H _ _ v us Q I rx rv ⟨p, ys, j, _, y, rfl, rfl, hy, by omega, by omega, by rw [hlen]; exact a1, h1, ?_⟩
          exact wr_cell k w hx (ry.eraseIdx _) h2 fun c hc' hlt => limL_of (xs := []) (fun d hd => .inl (mem_eraseIdx hd)) (hlim c hc' hlt) rfl
        · cases hf
      · cases hf
    | [], _, hf => simp [mcD] at hf
    | _ :: _ :: _, _, hf => simp [mcD] at hf
  | insert =>
    match ds, rl, hf, hlim2 with
    | [.int j, d], rl, hf, hlim2 =>
      obtain ⟨z, y, rfl, rz, ryy⟩ := rep2 rl
      cases rz
      simp only [mcD] at hf
      split at hf
      · rename_i c
        simp only [Option.some.injEq, Prod.mk.injEq] at hf
        obtain ⟨rfl, rfl⟩ := hf
        obtain rfl := (Option.some.inj hid).symm
        refine L2.mt_insert pins s σ H _ _ v us Q I rx rv ⟨p, ys, j, y, rfl, rfl, hy, by rw [hlen, sizeLine_eq]; unfold LIM at c; omega, c.2.1, c.2.2, ?_⟩
        refine wr_cell k w hx (((ry.take _).append (.cons ryy .nil)).append (ry.drop _)) .non fun c hc' hlt => limL_of (xs := [d]) (fun d' hd => ?_) (hlim c hc' hlt) ?_
        · rcases List.mem_append.mp hd with q | q
          · rcases List.mem_append.mp q with q | q
            · exact .inl (List.mem_of_mem_take q)
            · exact .inr q
          · exact .inl (List.mem_of_mem_drop q)
        · have := hlim2 c hc' hlt
          simpa [D.limL, D.lim] using this
      · cases hf
    | [], _, hf, _ => simp [mcD] at hf
    | [_], _, hf, _ => simp [mcD] at hf
    | _ :: _ :: _ :: _, _, hf, _ => simp [mcD] at hf
  | reverse =>
    match ds, rl, hf with
    | [], rl, hf =>
      cases rl
      simp only [mcD, Option.some.injEq, Prod.mk.injEq] at hf
      obtain ⟨rfl, rfl⟩ := hf
      obtain rfl := (Option.some.inj hid).symm
      refine mt_reverse pins s σ H _ _ v us Q I rx rv ⟨p, ys, rfl, rfl, hy, ?_⟩
      exact wr_cell k w hx ry.reverse .non fun c hc' hlt => limL_of (xs := []) (fun d hd => .inl (List.mem_reverse.mp hd)) (hlim c hc' hlt) rfl
    | [_], _, hf => simp [mcD] at hf
    | _ :: _ :: _, _, hf => simp [mcD] at hf
  | clear =>
    match ds, rl, hf with
    | [], rl, hf =>
      cases rl
      simp only [mcD, Option.some.injEq, Prod.mk.injEq] at hf
      obtain ⟨rfl, rfl⟩ := hf
      obtain rfl := (Option.some.inj hid).symm
      refine mt_clear pins s σ H _ _ v us Q I rx rv ⟨p, ys, rfl, rfl, hy, ?_⟩
      exact wr_cell k w hx .nil .non fun c hc' hlt => rfl
    | [_], _, hf => simp [mcD] at hf
    | _ :: _ :: _, _, hf => simp [mcD] at hf
  | remove =>
    match ds, rl, hf with
    | [d], rl, hf =>
      obtain ⟨y, rfl, ryy⟩ := rep1 rl
      have vd := view_of w ryy
      revert hf
      simp only [List.map_cons, List.map_nil]
      generalize vw S d = d' at vd
      intro hf
      simp only [mcD] at hf
      split at hf
      · rename_i c
        rw [Bool.and_eq_true] at c
        obtain ⟨q, e1, l1, d1⟩ := dat_pd dp d' c.1
        obtain ⟨ps, e2, l2, d2⟩ := datL_pd dp zs c.2
        simp only [Option.map_eq_some_iff, Prod.mk.injEq] at hf
        obtain ⟨n, hn, rfl, rfl⟩ := hf
        obtain rfl := (Option.some.inj hid).symm
        obtain ⟨u, rfl, ru⟩ := rv.one
        obtain ⟨bs, r1⟩ := Rep.reads I vd e1 ru
        cases rx
        obtain ⟨z, its, n0, rv', hl', e⟩ := I.lstM hy
        obtain ⟨as, h4⟩ := Dp.readsAll I ps _ its (ry.dp (K := X.K) e2) rv'
        refine PySem.SeqAt.remove_list_data (vs := its.toArray) (PySem.IsL.isList e) (show ReadsAll s.heap its.toArray.toList ps as from h4) r1 l2 l1 (by unfold dp at d2; omega) (place_pd d' q e1 zs ps n e2 hn) (by rw [List.size_toArray, ← hl']; exact z) ?_
        refine ⟨.non, _, I.lset (its' := its.eraseIdx n) (t' := s.toks) hy e ?_ (rv'.eraseIdx n) ?_, rfl, ?_⟩
        · show its.toArray.eraseIdxIfInBounds n = (its.eraseIdx n).toArray
          rw [List.eraseIdxIfInBounds_toArray]
        · have := len_erase ys n
          omega
        · exact wr_cell k w hx (ry.eraseIdx _) .non fun c hc' hlt => limL_of (xs := []) (fun d hd => .inl (mem_eraseIdx hd)) (hlim c hc' hlt) rfl
      · cases hf
    | [], _, hf => simp [mcD] at hf
    | _ :: _ :: _, _, hf => simp [mcD] at hf
  | _ => simp [mcD] at hf
theorem bm_D (hu : X.A.units + 64 < cLine) (hid : mbId m (kindD (vw S a)) = some id) (hb : ∀ c ∈ Bs, c ≤ b) (I : Inv X pins σ H s) (rx : RelV x v) (rv : Vals xs us) (w : World Y Bs μ H S) (ra : Rep Y μ H x a) (rl : RepL Y μ H xs ds)
    (k : KR Y Bs (Rep Y) μ H σ Q W (bmD m a ds b S)) : wpAny (model X.prog X.w) X.A (call (.builtin id) (v :: us)) (EP X pins σ Q) X.xe s := by
  unfold bmD at k
  split at k
  · cases a with
    | ref i =>
      simp only at k
      cases hc : S[i]? with
      | none => rw [hc] at k; exact k.elim
      | some c =>
        rw [hc] at k
        cases c with
        | lst zs =>
          simp only at k
          have e2 : kindD (vw S (.ref i)) = 2 := by simp [vw, hc, kindD]
          rw [e2] at hid
          cases hm : mcD m zs ds (ds.map (vw S)) with
          | none => rw [hm] at k; exact k.elim
          | some q =>
            obtain ⟨r, es⟩ := q
            rw [hm] at k
            simp only at k
            split at k
            · rename_i hl
              rw [Bool.or_eq_true, decide_eq_true_eq] at hl
              exact mc_D hu hid hb I rx rv w ra rl hc hm hl k
            · exact k.elim
        | _ => exact k.elim
    | _ => exact k.elim
  · obtain ⟨r, hf, k⟩ := k.of
    exact mb_D hu hid I rx rv w ra rl hf k
end
end CL
namespace CL
open PySem PySem.Spec PyProof.Rows L2
structure MC where
  N : List Str
  sc : Scope
  fn : String → Bool
  cl : String → Bool
  con : String → Bool
abbrev MC.at (M : MC) (sc : Scope) : MC := { M with sc := sc }
def visB (sc : Scope) (x : Str) : Bool := match sc.names.lookup x with
  | some .local => true
  | some .cell => true
  | some .free => true
  | _ => false
def locB (sc : Scope) (x : Str) : Bool := match sc.names.lookup x with
  | some .local => true
  | some .cell => true
  | _ => false
def glB (sc : Scope) (x : Str) : Bool := decide (sc.names.lookup x = some .globalImplicit)
theorem visB_ok {sc : Scope} {x : Str} (h : visB sc x = true) : Vis sc x := by
  unfold visB at h
  unfold Vis
  split at h
  · exact .inl ‹_›
  · exact .inr (.inl ‹_›)
  · exact .inr (.inr ‹_›)
  · cases h
theorem locB_ok {sc : Scope} {x : Str} (h : locB sc x = true) : L2.Loc sc x := by
  unfold locB at h
  unfold L2.Loc
  split at h
  · exact .inl ‹_›
  · exact .inr ‹_›
  · cases h
def bTy : List String := ["bool", "int", "str", "tuple", "list", "dict"]
def isB (C : String) : Bool := bTy.contains C
def bis : List String := ["len", "str", "int", "tuple", "list", "sorted", "min", "max", "abs", "sum", "all", "range", "enumerate", "zip", "isinstance", "set", "bool", "dict"]
def okN (x : Str) : Bool := !(x == ("__debug__" : Str)) && !(x == ("__classdict__" : Str))
def gnB (sc : Scope) (g : String) (x : Str) : Bool := decide (x = nm g) && (glB sc x && okN x)
def clsMt (M : MC) : List String → List Expr → Bool
  | [], [] => true
  | C :: cs, .Name x _ :: xs => (isB C || M.cl C) && (gnB M.sc C x && clsMt M cs xs)
  | _, _ => false
def namesMt (M : MC) : List Nat → List Expr → Bool
  | [], [] => true
  | i :: is, .Name x _ :: xs => decide (M.N[i]? = some x) && (locB M.sc x && namesMt M is xs)
  | _, _ => false
def Tg.mt (M : MC) (t : Tg) (x : Expr) : Bool := match t with
  | .one i => (match x with
    | .Name n _ => decide (M.N[i]? = some n) && locB M.sc n
    | _ => false)
  | .many is => (match x with
    | .Tuple xs _ _ => namesMt M is xs
    | _ => false)
def ownOf (M : MC) (t : Tg) : List (Str × Nat) := t.slots.map fun i => ((M.N[i]?).getD ⟨#[]⟩, i)
def notStar : Expr → Bool
  | .Starred _ _ => false
  | _ => true
def notSlice : Expr → Bool
  | .Slice _ _ _ _ => false
  | _ => true
def notSet : Expr → Bool
  | .Set _ _ _ => false
  | _ => true
def notCall0 : Expr → Bool
  | .Call _ [] _ _ => false
  | _ => true
def plainT : Expr → Bool
  | .UnaryOp .Not _ _ => false
  | .BoolOp _ _ _ => false
  | .IfExp _ _ _ _ => false
  | .Compare _ _ _ _ => false
  | _ => true
def isTuple : Expr → Bool
  | .Tuple _ _ _ => true
  | _ => false
def compB (M : MC) (tg : Tg) (scope : Scope) : Bool := blkC M.N M.sc scope (ownOf M tg)
mutual
def E.mt : E → MC → Expr → Bool
  | .no, _, x => notStar x
  | .var i, M, x => match x with
    | .Name n _ => decide (M.N[i]? = some n) && (visB M.sc n && okN n)
    | _ => false
  | .non, _, x => match x with
    | .Constant .none _ _ => true
    | _ => false
  | .bl b, _, x => match x with
    | .Constant (.bool c) _ _ => b == c
    | _ => false
  | .int i, _, x => match x with
    | .Constant (.int j) _ _ => i == j
    | _ => false
  | .str l, _, x => match x with
    | .Constant (.str z) _ _ => decide (z = ⟨l.toArray⟩)
    | _ => false
  | .gcon g, M, x => match x with
    | .Name n _ => M.con g && gnB M.sc g n
    | _ => false
  | .tup es, M, x => match x with
    | .Tuple xs _ _ => decide (es.len ≤ 1000) && es.mt M xs
    | _ => false
  | .lst es, M, x => match x with
    | .List xs _ => decide (es.len ≤ 1000) && es.mt M xs
    | _ => false
  | .newl es, M, x => match x with
    | .List xs _ => decide (es.len ≤ 1000) && es.mt M xs
    | _ => false
  | .newdK, _, x => match x with
    | .Dict [] [] _ => true
    | _ => false
  | .newdT, _, x => match x with
    | .Dict [] [] _ => true
    | _ => false
  | .bop o a b, M, x => match x with
    | .BinOp l op r _ => decide (op = o.op) && (a.mt M l && b.mt M r)
    | _ => false
  | .neg a, M, x => match x with
    | .UnaryOp .USub y _ => a.mt M y
    | _ => false
  | .cmp o a b, M, x => match x with
    | .Compare l [op] [r] _ => decide (op = o.op) && (notSet r && (a.mt M l && b.mt M r))
    | _ => false
  | .chain o p a b c, M, x => match x with
    | .Compare l [op, op'] [r, r'] _ => decide (op = o.op) && (decide (op' = p.op) && (notSet r' && (a.mt M l && (b.mt M r && c.mt M r'))))
    | _ => false
  | .and es, M, x => match x with
    | .BoolOp .And xs _ => es.mt M xs
    | _ => false
  | .or es, M, x => match x with
    | .BoolOp .Or xs _ => es.mt M xs
    | _ => false
  | .not a, M, x => match x with
    | .UnaryOp .Not y _ => a.mt M y
    | _ => false
  | .ife q a b, M, x => match x with
    | .IfExp t y z _ => q.mt M t && (a.mt M y && b.mt M z)
    | _ => false
  | .idx a i, M, x => match x with
    | .Subscript y z _ => notSlice z && (a.mt M y && i.mt M z)
    | _ => false
  | .slAll a, M, x => match x with
    | .Subscript y (.Slice none none none _) _ => a.mt M y
    | _ => false
  | .slLo a lo, M, x => match x with
    | .Subscript y (.Slice (some l) none none _) _ => a.mt M y && lo.mt M l
    | _ => false
  | .slHi a hi, M, x => match x with
    | .Subscript y (.Slice none (some h) none _) _ => a.mt M y && hi.mt M h
    | _ => false
  | .sl a lo hi, M, x => match x with
    | .Subscript y (.Slice (some l) (some h) none _) _ => a.mt M y && (lo.mt M l && hi.mt M h)
    | _ => false
  | .bi f es, M, x => match x with
    | .Call (.Name n _) (y :: ys) [] _ => gnB M.sc f.py n && es.mt M (y :: ys)
    | _ => false
  | .bm m a es, M, x => match x with
    | .Call (.Attribute o n p) ys [] q => decide (n = nm m.py) && (p.endLine == q.line && (decide (ys.length < 20) && (notCall0 o && (a.mt M o && es.mt M ys))))
    | _ => false
  | .isi a cs tp, M, x => match x with
    | .Call (.Name n _) [y, z] [] _ => gnB M.sc "isinstance" n && (decide (0 < cs.length ∧ cs.length ≤ 1000) && (notStar y && (a.mt M y && (match tp, z with
      | false, z => clsMt M cs [z]
      | true, .Tuple zs _ _ => clsMt M cs zs
      | true, _ => false))))
    | _ => false
  | .call f _ es, M, x => match x with
    | .Call (.Name n _) ys [] _ => M.fn f && (gnB M.sc f n && es.mt M ys)
    | _ => false
  | .lc elt tg it, M, x => match x with
    | .ListComp y [⟨t, i, [], 0⟩] scope _ => compB M tg scope && (tg.mt (M.at scope) t && (it.mt M t i && (notSet i && elt.mt (M.at (relS scope M.sc)) y)))
    | _ => false
  | .lcIf elt tg it q, M, x => match x with
    | .ListComp y [⟨t, i, [z], 0⟩] scope _ => compB M tg scope && (tg.mt (M.at scope) t && (it.mt M t i && (notSet i && (q.mt (M.at (relS scope M.sc)) z && elt.mt (M.at (relS scope M.sc)) y))))
    | _ => false
  | .newlc elt tg it, M, x => match x with
    | .ListComp y [⟨t, i, [], 0⟩] scope _ => compB M tg scope && (tg.mt (M.at scope) t && (it.mt M t i && (notSet i && elt.mt (M.at (relS scope M.sc)) y)))
    | _ => false
  | .newlcIf elt tg it q, M, x => match x with
    | .ListComp y [⟨t, i, [z], 0⟩] scope _ => compB M tg scope && (tg.mt (M.at scope) t && (it.mt M t i && (notSet i && (q.mt (M.at (relS scope M.sc)) z && elt.mt (M.at (relS scope M.sc)) y))))
    | _ => false
  | .make _ _, _, _ => false
  | .meth _ _ _ _, _, _ => false
  | .fld _ _, _, _ => false
  | .xis _ _, _, _ => false
  | .xfld _, _, _ => false
  | .hcall _, _, _ => false
def Es.mt : Es → MC → List Expr → Bool
  | .nil, _, xs => xs.isEmpty
  | .cons e es, M, xs => match xs with
    | x :: xs => notStar x && (e.mt M x && es.mt M xs)
    | [] => false
def It.mt : It → MC → Expr → Expr → Bool
  | .val e, M, _, x => e.mt M x
  | .range es, M, _, x => match x with
    | .Call (.Name n _) ys [] _ => gnB M.sc "range" n && (decide (ys.length = 1 ∨ ys.length = 2 ∨ ys.length = 3) && es.mt M ys)
    | _ => false
  | .enum e, M, t, x => isTuple t && (match x with
    | .Call (.Name n _) [y] [] _ => gnB M.sc "enumerate" n && (notStar y && e.mt M y)
    | _ => false)
  | .zip a b, M, t, x => isTuple t && (match x with
    | .Call (.Name n _) [y, z] [] _ => gnB M.sc "zip" n && (notStar y && (notStar z && (a.mt M y && b.mt M z)))
    | _ => false)
end
theorem starEach_of {x : Expr} {xs : List Expr} {env : PySem.Env} (h : notStar x = true) : starEach (x :: xs) env = (false, eval x env) :: starEach xs env := by
  cases x <;> first
    | rfl
    | cases h
theorem plainIx_of {x : Expr} (h : notSlice x = true) : PlainIx x := by
  intro o i
  cases x <;> first
    | rfl
    | cases h
theorem noMarks_of {x : Expr} (op : CmpOp) (h : notSet x = true) : behindInMarks op x = false := by
  cases x <;> first
    | rfl
    | cases h
theorem folded_of {x : Expr} {env : PySem.Env} (h : notSet x = true) : ∀ v, foldedSetIterable x env v = pure v := by
  intro v
  cases x <;> first
    | rfl
    | cases h
theorem base_of {x : Expr} {n : Str} {env : PySem.Env} (h : notCall0 x = true) : attributeBase x n env (eval x env) = eval x env := by
  cases x with
  | Call f as ks p =>
    cases as with
    | nil => cases h
    | cons a as => cases f <;> rfl
  | _ => rfl
theorem isTrue_of {x : Expr} {env : PySem.Env} (h : plainT x = true) : ∀ whole, isTrue x env whole = (do let v ← whole; standAt x.pos; holding [v] (truthy v)) := by
  intro w
  cases x with
  | UnaryOp op y p => cases op <;> first
    | rfl
    | cases h
  | BoolOp _ _ _ => cases h
  | IfExp _ _ _ _ => cases h
  | Compare _ _ _ _ => cases h
  | _ => rfl
end CL
namespace CL
open PySem PySem.Spec PyProof.Rows L2
def spI (ca : CA) (m : Bool → List D → Nat → Store → R D) : Sp := fun vs H Q E => ∃ (Y : Sx) (_ : Y.ca = ca) (g : Bool) (b : Nat) (Bs : List Nat) (μ : List Addr) (S : Store) (ds : List D), (∀ q ∈ Bs, q ≤ b) ∧ World Y Bs μ H S ∧ RepL Y μ H vs ds ∧
  KR Y Bs (Rep Y) μ H [] Q (fun cls d _ H' => E cls d H') (m g ds b S)
structure Callable (ca : CA) (X : Cx) (f : String) (m : Bool → List D → Nat → Store → R D) : Prop where
  get : ∃ (k : Nat) (a : Addr) (fd : FuncData) (ps : List Str), FnOk X.prog X.w X.K X.mg X.base (L2.CX X.prog X.w) k a fd ps (spI ca m) ∧ Room k X.A ∧ X.mg (nm f) = some (.ref a) ∧ PySem.W.keepIn X.K (.ref a) = true ∧ Binds X.K fd ps []
def clsVal (Y : Sx) (C : String) : Value := if isB C then .type C else .ref (Y.ca C)
def clsV (Y : Sx) (C : String) : V := if isB C then .ty C else .ref (Y.ca C)
def basT : List String := ["NoneType", "bool", "int", "str", "tuple", "list", "dict"]
structure Good (Y : Sx) (c : Ctx) (b : Nat) (Bs : List Nat) (W : WX) (M : MC) (X : Cx) : Prop where
  hN : X.N = M.N
  hK : Y.ca.K = X.K
  nd : X.N.Nodup
  hsc : X.env.scope = M.sc
  calm : X.calm = true
  hu : X.A.units + 64 < cLine
  hb : ∀ q ∈ Bs, q ≤ b
  tk : Takes X W
  bi : ∀ g ∈ bis, X.mg (nm g) = none
  con : ∀ g, M.con g = true → ∃ d u v, c.con g = some d ∧ X.mg (nm g) = some u ∧ RelV v u ∧ ∀ Z μ H, Rep Z μ H v d
  cls : ∀ C, M.cl C = true → isB C = false → X.mg (nm C) = some (.ref (Y.ca C))
  bcl : ∀ C, isB C = true → X.mg (nm C) = none
  isaN : ∀ C, M.cl C = true → isB C = false → ∀ T ∈ basT, PySem.W.kitOne X.K (.type T) (.ref (Y.ca C)) = some false
  isaI : ∀ Z, (∃ C k, c.isa Z C = some k) → ∀ (H : Hp) (a dx : Addr) (fs : List (Str × V)), H a = some (.ins (Y.ca Z) dx fs) → ∃ t, TyX X.K H (.ref a) t ∧ ∀ C k, c.isa Z C = some k → (isB C = true ∨ M.cl C = true) → PySem.W.kitOne X.K t (clsVal Y C) = some k
  call : ∀ f, M.fn f = true → Callable Y.ca X f (c.call f)
section
variable {X : Cx} {Y : Sx} {Bs : List Nat} {W : WX} {b : Nat} {M : MC} {c : Ctx}
theorem Good.gl (G : Good Y c b Bs W M X) {x : Str} (h : glB M.sc x = true) : Gl X x := by
  show X.env.scope.names.lookup x = _
  rw [G.hsc]
  exact of_decide_eq_true h
theorem okN_db {x : Str} (h : okN x = true) : (x == ("__debug__" : Str)) = false := by
  unfold okN at h
  rw [Bool.and_eq_true] at h
  simpa using h.1
theorem okN_cd {x : Str} (h : okN x = true) : (x == ("__classdict__" : Str)) = false := by
  unfold okN at h
  rw [Bool.and_eq_true] at h
  simpa using h.2
theorem gnB_of {sc : Scope} {g : String} {x : Str} (h : gnB sc g x = true) : x = nm g ∧ glB sc x = true ∧ okN x = true := by
  unfold gnB at h
  simp only [Bool.and_eq_true, decide_eq_true_eq] at h
  exact h
theorem s_no {α : Type} {rel : List Addr → Hp → V → α → Prop} {x : Expr} {m : Env → Store → R α} (h : ∀ ρ S, m ρ S = .bad) : PE X x (tX Y Bs rel W m) :=
  ⟨fun pins s σ H Q I ⟨μ, ρ, S, w, en, k⟩ => by rw [h] at k; exact k.elim⟩
theorem s_var (G : Good Y c b Bs W M X) {i : Nat} {n : Str} {p : Pos} (h1 : M.N[i]? = some n) (h2 : visB M.sc n = true) (h3 : okN n = true) : PE X (.Name n p) (tI Y Bs W fun ρ S => match ρ[i]? with
    | some (some d) => .ok d S
    | _ => .bad) := by
  refine (pe_var (i := i) (by rw [G.hN]; exact h1) (by rw [G.hsc]; exact visB_ok h2) (okN_db h3) (okN_cd h3)).imp ?_
  rintro σ H Q ⟨μ, ρ, S, w, en, k⟩
  dsimp only at k
  match e : ρ[i]?, k with
  | some (some d), k =>
    obtain ⟨v, e2, r⟩ := en.at_ i d e
    exact ⟨v, e2, k μ H v (.refl _ _) w r⟩
  | some none, k => exact k.elim
  | none, k => exact k.elim
theorem s_con {v : V} {d : D} {x : Expr} (h : PE X x (tC v)) (r : ∀ μ H, Rep Y μ H v d) : PE X x (tI Y Bs W fun _ S => .ok d S) := by
  refine h.imp ?_
  rintro σ H Q ⟨μ, ρ, S, w, en, k⟩
  exact k μ H v (.refl _ _) w (r μ H)
theorem s_gcon (G : Good Y c b Bs W M X) {g : String} {n : Str} {p : Pos} (h1 : M.con g = true) (h2 : gnB M.sc g n = true) : PE X (.Name n p) (tI Y Bs W fun _ S => R.of S (c.con g)) := by
  obtain ⟨rfl, h4, h5⟩ := gnB_of h2
  obtain ⟨d, u, v, e1, e2, r, rr⟩ := G.con g h1
  rw [e1]
  exact s_con (pe_glob (G.gl h4) e2 r (okN_db h5)) (rr Y)
theorem evs_len {c : Ctx} {b : Nat} : ∀ (es : Es) (ρ : Env) (S : Store) (ds : List D) (S' : Store), evs c b es ρ S = .ok ds S' → ds.length = es.len
  | .nil, ρ, S, ds, S', h => by
    simp only [evs, R.ok.injEq] at h
    obtain ⟨rfl, _⟩ := h; rfl
  | .cons e es, ρ, S, ds, S', h => by
    simp only [evs] at h
    cases h1 : ev c b e ρ S with
    | ok d S1 =>
      rw [h1] at h
      simp only [R.bind] at h
      cases h2 : evs c b es ρ S1 with
      | ok ds2 S2 =>
        rw [h2] at h
        simp only [R.ok.injEq] at h
        obtain ⟨rfl, _⟩ := h
        simp [Es.len, evs_len es ρ S1 ds2 S2 h2]
      | err _ _ _ _ => rw [h2] at h; simp at h
      | bad => rw [h2] at h; simp at h
    | err _ _ _ _ => rw [h1] at h; simp [R.bind] at h
    | bad => rw [h1] at h; simp [R.bind] at h
theorem small_line {n : Nat} (h : n ≤ 1000) : n ≤ sizeLine := by rw [sizeLine_eq]; omega
theorem bind_at {α β : Type} {r : R α} {f : α → Store → R β} {P : α → Store → Prop} (h : ∀ a S, r = .ok a S → P a S) : r.bind f = r.bind f := rfl
theorem tX.bind' {α β γ δ : Type} {rel : List Addr → Hp → β → α → Prop} {rel' : List Addr → Hp → δ → γ → Prop} {μ : List Addr} {H : Hp} {σ : L2.St} {ρ : Env} {S : Store} {Q : β → Hp → Prop} {Q' : δ → Hp → Prop}
    {m : Env → Store → R α} {f : α → Store → R γ} (w : World Y Bs μ H S) (en : EnvOk Y μ H σ ρ) (h : KR Y Bs rel' μ H σ Q' W ((m ρ S).bind f))
    (go : ∀ a S1 μ1 H1 b, m ρ S = .ok a S1 → World Y Bs μ1 H1 S1 → EnvOk Y μ1 H1 σ ρ → Ext μ H μ1 H1 → rel μ1 H1 b a → KR Y Bs rel' μ1 H1 σ Q' W (f a S1) → Q b H1) : tX Y Bs rel W m σ H Q := by
  refine ⟨μ, ρ, S, w, en, ?_⟩
  cases e : m ρ S with
  | ok a S1 =>
    rw [e] at h
    exact fun μ1 H1 b x w1 r => go a S1 μ1 H1 b e w1 (en.ext x) x r (KR.mono x h)
  | err C ns ds S1 =>
    rw [e] at h
    exact h
  | bad =>
    rw [e] at h
    exact h
theorem s_tup {xs : List Expr} {n : Nat} {p : Pos} {ma : Env → Store → R (List D)} (ha : PA X xs (tA Y Bs W ma)) (hl : ∀ ρ S ds S', ma ρ S = .ok ds S' → ds.length ≤ 1000) :
    PE X (.Tuple xs n p) (tI Y Bs W fun ρ S => (ma ρ S).bind fun ds S1 => .ok (.tup ds) S1) := by
  refine (pe_tup ha).imp ?_
  rintro σ H Q ⟨μ, ρ, S, w, en, k⟩
  refine tX.bind' w en k fun ds S1 μ1 H1 vs e w1 en1 x1 r1 k1 => ⟨by rw [r1.length]; exact small_line (hl _ _ _ _ e), fun q hq => ?_⟩
  exact Fin1.tup (Y := Y) (Bs := Bs) k1 w1 r1 hq
theorem s_lst {xs : List Expr} {p : Pos} {ma : Env → Store → R (List D)} (ha : PA X xs (tA Y Bs W ma)) (hl : ∀ ρ S ds S', ma ρ S = .ok ds S' → ds.length ≤ 1000) :
    PE X (.List xs p) (tI Y Bs W fun ρ S => (ma ρ S).bind fun ds S1 => .ok (.lst ds) S1) := by
  refine (pe_lst ha).imp ?_
  rintro σ H Q ⟨μ, ρ, S, w, en, k⟩
  refine tX.bind' w en k fun ds S1 μ1 H1 vs e w1 en1 x1 r1 k1 => ⟨by rw [r1.length]; exact small_line (hl _ _ _ _ e), fun q hq => ?_⟩
  exact Fin1.lst (Y := Y) (Bs := Bs) k1 w1 r1 hq
theorem KR.cell {μ : List Addr} {H : Hp} {σ : L2.St} {Q : VK} {S : Store} {p : Addr} {o : HO} {ce : Cell} (k : KR Y Bs (Rep Y) μ H σ Q W (.ok (.ref S.length) (S ++ [ce]))) (w : World Y Bs μ H S) (hp : H p = none) (new : CellOk Y (μ ++ [p]) (upd H p o) p ce) : Q (.ref p) (upd H p o) := by
  refine k (μ ++ [p]) _ _ (.cell hp) (w.grow hp new w.bs) (.ref ?_)
  rw [← w.len, List.getElem?_append_right (Nat.le_refl _)]
  simp
theorem s_newl {xs : List Expr} {p : Pos} {ma : Env → Store → R (List D)} (ha : PA X xs (tA Y Bs W ma)) (hl : ∀ ρ S ds S', ma ρ S = .ok ds S' → ds.length ≤ 1000) :
    PE X (.List xs p) (tI Y Bs W fun ρ S => (ma ρ S).bind fun ds S1 => .ok (.ref S1.length) (S1 ++ [.lst ds])) := by
  refine (pe_lst ha).imp ?_
  rintro σ H Q ⟨μ, ρ, S, w, en, k⟩
  refine tX.bind' w en k fun ds S1 μ1 H1 vs e w1 en1 x1 r1 k1 => ⟨by rw [r1.length]; exact small_line (hl _ _ _ _ e), fun q hq => ?_⟩
  exact KR.cell k1 w1 hq (.lst upd_same (r1.ext (.cell hq)))
theorem s_newdK {p : Pos} : PE X (.Dict [] [] p) (tI Y Bs W fun _ S => .ok (.ref S.length) (S ++ [.dic false [] []])) := by
  refine pe_dnewK.imp ?_
  rintro σ H Q ⟨μ, ρ, S, w, en, k⟩ q hq
  exact KR.cell k w hq (.dicK (kvs := []) upd_same .nil)
theorem s_newdT {p : Pos} : PE X (.Dict [] [] p) (tI Y Bs W fun _ S => .ok (.ref S.length) (S ++ [.dic true [] []])) := by
  refine pe_dnewT.imp ?_
  rintro σ H Q ⟨μ, ρ, S, w, en, k⟩ q hq
  exact KR.cell k w hq (.dicT (kvs := []) upd_same .nil)
section
variable {x y z : Expr} {p : Pos} {ma mb mc : Env → Store → R D}
theorem s_bop (o : BO) (ha : PE X x (tI Y Bs W ma)) (hb : PE X y (tI Y Bs W mb)) : PE X (.BinOp x o.op y p) (tI Y Bs W fun ρ S => (ma ρ S).bind fun d S1 => (mb ρ S1).bind fun e S2 => R.of S2 (bop o (vw S2 d) (vw S2 e))) := by
  refine (pe_op (op_bop (Y := Y) o) ha hb).imp ?_
  rintro σ H Q ⟨μ, ρ, S, w, en, k⟩
  refine tX.bind w en k fun d S1 μ1 H1 u w1 en1 x1 r1 k1 => tX.bind w1 en1 k1 fun e S2 μ2 H2 v w2 en2 x2 r2 k2 => ?_
  obtain ⟨r, hr, k3⟩ := k2.of
  exact ⟨Bs, μ2, S2, d, e, r, w2, r1.ext x2, r2, hr, k3⟩
theorem s_neg (ha : PE X x (tI Y Bs W ma)) : PE X (.UnaryOp .USub x p) (tI Y Bs W fun ρ S => (ma ρ S).bind fun d S1 => match d with
    | .int i => .ok (.int (-i)) S1
    | _ => .bad) := by
  refine (pe_un un_neg ha).imp ?_
  rintro σ H Q ⟨μ, ρ, S, w, en, k⟩
  refine tX.bind w en k fun d S1 μ1 H1 u w1 en1 x1 r1 k1 => ?_
  cases r1 with
  | int i => exact ⟨i, rfl, k1 μ1 H1 _ (.refl _ _) w1 (.int _)⟩
  | _ => exact k1.elim
theorem cmp_read {o : CO} {σ : L2.St} {H : Hp} {Q : VK} {μ : List Addr} {ρ : Env} {S : Store} (w : World Y Bs μ H S) (en : EnvOk Y μ H σ ρ)
    (k : KR Y Bs (Rep Y) μ H σ Q W ((ma ρ S).bind fun d S1 => (mb ρ S1).bind fun e S2 => R.of S2 ((cmpD o (vw S2 d) (vw S2 e)).map .bl))) : tOp (opB2 Y (cmpD o)) (tI Y Bs W ma) (tI Y Bs W mb) σ H Q := by
  refine tX.bind w en k fun d S1 μ1 H1 u w1 en1 x1 r1 k1 => tX.bind w1 en1 k1 fun e S2 μ2 H2 v w2 en2 x2 r2 k2 => ?_
  obtain ⟨r, hr, k3⟩ := k2.of
  simp only [Option.map_eq_some_iff] at hr
  obtain ⟨t, ht, rfl⟩ := hr
  exact ⟨Bs, μ2, S2, d, e, t, w2, r1.ext x2, r2, ht, k3 μ2 H2 _ (.refl _ _) w2 (.bl t)⟩
theorem s_cmp (G : Good Y c b Bs W M X) (o : CO) (hs : notSet y = true) (ha : PE X x (tI Y Bs W ma)) (hb : PE X y (tI Y Bs W mb)) : PE X (.Compare x [o.op] [y] p) (tI Y Bs W fun ρ S => (ma ρ S).bind fun d S1 => (mb ρ S1).bind fun e S2 => R.of S2 ((cmpD o (vw S2 d) (vw S2 e)).map .bl)) := by
  refine (pe_cmpR (op_cmp (Y := Y) G.hu o) ha hb (noMarks_of _ hs)).imp ?_
  rintro σ H Q ⟨μ, ρ, S, w, en, k⟩
  exact cmp_read w en k
def truM (m : Env → Store → R D) : Env → Store → R Bool := fun ρ S => (m ρ S).bind fun d S1 => R.of S1 (truD (vw S1 d))
theorem KR.tru {σ : L2.St} {H : Hp} {μ : List Addr} {r : R D} {Q : Bool → Hp → Prop} (k : KR Y Bs (fun _ _ (t : Bool) a => t = a) μ H σ Q W (r.bind fun d S1 => R.of S1 (truD (vw S1 d)))) (hr : ∀ d S, r = .ok d S → ∃ t, d = .bl t) :
    KR Y Bs (Rep Y) μ H σ (fun v H' => ∃ t, v = .bl t ∧ Q t H') W r := by
  cases r with
  | ok d S1 =>
    obtain ⟨t, rfl⟩ := hr d S1 rfl
    intro μ' H' v x w rv
    cases rv
    exact ⟨t, rfl, k μ' H' t x w rfl⟩
  | err C ns ds S1 => exact k
  | bad => exact k
theorem bl_bind {α : Type} {r : R α} {f : α → Store → R D} (h : ∀ a S d S', f a S = .ok d S' → ∃ t, d = .bl t) : ∀ d S, r.bind f = .ok d S → ∃ t, d = .bl t := by
  intro d S e
  cases r with
  | ok a S1 => exact h a S1 d S e
  | err _ _ _ _ => cases e
  | bad => cases e
theorem bl_of {o : Option Bool} {S S' : Store} {d : D} (h : R.of S (o.map D.bl) = .ok d S') : ∃ t, d = .bl t := by
  cases o with
  | none => cases h
  | some t => simp only [Option.map_some, R.of, R.ok.injEq] at h; exact ⟨t, h.1.symm⟩
theorem t_cmp (G : Good Y c b Bs W M X) (o : CO) (hs : notSet y = true) (ha : PE X x (tI Y Bs W ma)) (hb : PE X y (tI Y Bs W mb)) : PT X (.Compare x [o.op] [y] p) (tT Y Bs W (truM fun ρ S => (ma ρ S).bind fun d S1 => (mb ρ S1).bind fun e S2 => R.of S2 ((cmpD o (vw S2 d) (vw S2 e)).map .bl))) := by
  refine (pt_cmpR (op_cmp (Y := Y) G.hu o) ha hb (noMarks_of _ hs)).imp ?_
  rintro σ H Q ⟨μ, ρ, S, w, en, k⟩
  exact cmp_read w en (k.tru (bl_bind fun d S1 => bl_bind fun e S2 d' S' h => bl_of h))
def chainM (o o' : CO) (ma mb mc : Env → Store → R D) : Env → Store → R D := fun ρ S => (ma ρ S).bind fun d S1 => (mb ρ S1).bind fun e S2 => match cmpD o (vw S2 d) (vw S2 e) with
    | some true => (mc ρ S2).bind fun f S3 => R.of S3 ((cmpD o' (vw S3 e) (vw S3 f)).map .bl)
    | some false => .ok (.bl false) S2
    | none => .bad
theorem chain_read {o o' : CO} {σ : L2.St} {H : Hp} {Q : VK} {μ : List Addr} {ρ : Env} {S : Store} (w : World Y Bs μ H S) (en : EnvOk Y μ H σ ρ) (k : KR Y Bs (Rep Y) μ H σ Q W (chainM o o' ma mb mc ρ S)) :
    tChain (opB2 Y (cmpD o)) (opB2 Y (cmpD o')) (tI Y Bs W ma) (tI Y Bs W mb) (tI Y Bs W mc) σ H Q := by
  refine tX.bind w en k fun d S1 μ1 H1 u w1 en1 x1 r1 k1 => tX.bind w1 en1 k1 fun e S2 μ2 H2 v w2 en2 x2 r2 k2 => ?_
  cases hc : cmpD o (vw S2 d) (vw S2 e) with
  | none => rw [hc] at k2; exact k2.elim
  | some t =>
    rw [hc] at k2
    refine ⟨Bs, μ2, S2, d, e, t, w2, r1.ext x2, r2, hc, t, rfl, ?_⟩
    cases t with
    | false => exact k2 μ2 H2 _ (.refl _ _) w2 (.bl _)
    | true =>
      rw [if_pos rfl]
      refine tX.bind w2 en2 k2 fun f S3 μ3 H3 z w3 en3 x3 r3 k3 => ?_
      obtain ⟨r, hr, k4⟩ := k3.of
      simp only [Option.map_eq_some_iff] at hr
      obtain ⟨t, ht, rfl⟩ := hr
      exact ⟨Bs, μ3, S3, e, f, t, w3, r2.ext x3, r3, ht, k4 μ3 H3 _ (.refl _ _) w3 (.bl t)⟩
theorem lastMarks_of {op op' : CmpOp} {y z : Expr} (h : notSet z = true) : lastMarks [op, op'] [y, z] = false := noMarks_of _ h
theorem s_chain (G : Good Y c b Bs W M X) (o o' : CO) (hs : notSet z = true) (ha : PE X x (tI Y Bs W ma)) (hb : PE X y (tI Y Bs W mb)) (hc : PE X z (tI Y Bs W mc)) : PE X (.Compare x [o.op, o'.op] [y, z] p) (tI Y Bs W (chainM o o' ma mb mc)) := by
  refine (pe_chain (op_cmp (Y := Y) G.hu o) (op_cmp (Y := Y) G.hu o') ha hb hc (lastMarks_of hs)).imp ?_
  rintro σ H Q ⟨μ, ρ, S, w, en, k⟩
  exact chain_read w en k
theorem t_chain (G : Good Y c b Bs W M X) (o o' : CO) (hs : notSet z = true) (ha : PE X x (tI Y Bs W ma)) (hb : PE X y (tI Y Bs W mb)) (hc : PE X z (tI Y Bs W mc)) : PT X (.Compare x [o.op, o'.op] [y, z] p) (tT Y Bs W (truM (chainM o o' ma mb mc))) := by
  refine (pt_chain (op_cmp (Y := Y) G.hu o) (op_cmp (Y := Y) G.hu o') ha hb hc (lastMarks_of hs)).imp ?_
  rintro σ H Q ⟨μ, ρ, S, w, en, k⟩
  refine chain_read w en (k.tru ?_)
  refine bl_bind fun d S1 => bl_bind fun e S2 d' S' h => ?_
  cases hc : cmpD o (vw S2 d) (vw S2 e) with
  | none => rw [hc] at h; cases h
  | some t =>
    rw [hc] at h
    cases t with
    | false => simp only [R.ok.injEq] at h; exact ⟨_, h.1.symm⟩
    | true => exact bl_bind (fun f S3 d' S' h => bl_of h) _ _ h
theorem t_plain (ht : plainT x = true) (ha : PE X x (tI Y Bs W ma)) : PT X x (tT Y Bs W (truM ma)) := by
  refine (pt_truth ha (isTrue_of ht)).imp ?_
  rintro σ H Q ⟨μ, ρ, S, w, en, k⟩
  refine tX.bind w en k fun d S1 μ1 H1 u w1 en1 x1 r1 k1 => ?_
  obtain ⟨t, ht, k2⟩ := k1.of
  exact ⟨t, view_tru (view_of w1 r1) ht, k2 μ1 H1 t (.refl _ _) w1 rfl⟩
theorem t_not (ha : PT X x (tT Y Bs W (truM ma))) : PT X (.UnaryOp .Not x p) (tT Y Bs W (truM fun ρ S => (ma ρ S).bind fun d S1 => R.of S1 ((truD (vw S1 d)).map fun k => .bl (!k)))) := by
  refine (pt_not ha).imp ?_
  rintro σ H Q ⟨μ, ρ, S, w, en, k⟩
  refine ⟨μ, ρ, S, w, en, ?_⟩
  revert k
  unfold truM
  dsimp only
  cases ma ρ S with
  | ok d S1 =>
    intro k
    simp only [R.bind] at k ⊢
    cases ht : truD (vw S1 d) with
    | none => rw [ht] at k; exact k.elim
    | some t =>
      rw [ht] at k
      intro μ' H' t' x w' e
      subst e
      exact k μ' H' _ x w' rfl
  | err C ns ds S1 => intro k; exact k
  | bad => intro k; exact k
theorem s_not (ha : PE X x (tI Y Bs W ma)) : PE X (.UnaryOp .Not x p) (tI Y Bs W fun ρ S => (ma ρ S).bind fun d S1 => R.of S1 ((truD (vw S1 d)).map fun k => .bl (!k))) := by
  refine ⟨fun pins s σ H Q I ⟨μ, ρ, S, w, en, k⟩ => ?_⟩
  refine UnaryOp_ (thn (ha.run pins s σ H _ I (tX.bind (Q := fun u H1 => ∃ t, TruV X.K u H1 t ∧ Q (.bl (!t)) H1) w en k fun d S1 μ1 H1 u w1 en1 x1 r1 k1 => ?_)) fun v s1 ⟨u, H1, I1, r1, q1⟩ => ?_)
  · obtain ⟨t, ht, k2⟩ := k1.of
    simp only [Option.map_eq_some_iff] at ht
    obtain ⟨t', ht, rfl⟩ := ht
    exact ⟨t', view_tru (view_of w1 r1) ht, k2 μ1 H1 _ (.refl _ _) w1 (.bl _)⟩
  · exact not_of (thn (tru_ok pins s1 σ H1 u v (fun t H' => Q (.bl (!t)) H') I1 r1 q1) fun t s2 ⟨H2, I2, q2⟩ => ⟨.bl (!t), H2, I2, rfl, q2⟩)
theorem s_and {ys : List Expr} {ma mr : Env → Store → R D} (ha : PE X x (tI Y Bs W ma)) (hr : PE X (.BoolOp .And (y :: ys) p) (tI Y Bs W mr)) :
    PE X (.BoolOp .And (x :: y :: ys) p) (tI Y Bs W fun ρ S => (ma ρ S).bind fun d S1 => match truD (vw S1 d) with
    | some true => mr ρ S1
    | some false => .ok d S1
    | none => .bad) := by
  refine ⟨fun pins s σ H Q I ⟨μ, ρ, S, w, en, k⟩ => ?_⟩
  refine BoolOp_and (thn (ha.run pins s σ H _ I (tX.bind (Q := fun u H1 => ∃ t, TruV X.K u H1 t ∧ if t = true then tI Y Bs W mr σ H1 Q else Q u H1) w en k fun d S1 μ1 H1 u w1 en1 x1 r1 k1 => ?_)) fun v s1 ⟨u, H1, I1, r1, q1⟩ => ?_)
  · cases ht : truD (vw S1 d) with
    | none => rw [ht] at k1; exact k1.elim
    | some t =>
      rw [ht] at k1
      refine ⟨t, view_tru (view_of w1 r1) ht, ?_⟩
      cases t with
      | true => exact ⟨μ1, ρ, S1, w1, en1, k1⟩
      | false => exact k1 μ1 H1 u (.refl _ _) w1 r1
  · refine thn (tru_ok pins s1 σ H1 u v (fun t H' => if t = true then tI Y Bs W mr σ H' Q else Q u H') I1 r1 q1) fun t s2 ⟨H2, I2, q2⟩ => ?_
    cases t with
    | true => exact hr.run pins s2 σ H2 Q I2 q2
    | false => exact ⟨u, H2, I2, r1, q2⟩
theorem s_or {ys : List Expr} {ma mr : Env → Store → R D} (ha : PE X x (tI Y Bs W ma)) (hr : PE X (.BoolOp .Or (y :: ys) p) (tI Y Bs W mr)) :
    PE X (.BoolOp .Or (x :: y :: ys) p) (tI Y Bs W fun ρ S => (ma ρ S).bind fun d S1 => match truD (vw S1 d) with
    | some false => mr ρ S1
    | some true => .ok d S1
    | none => .bad) := by
  refine ⟨fun pins s σ H Q I ⟨μ, ρ, S, w, en, k⟩ => ?_⟩
  refine BoolOp_or (thn (ha.run pins s σ H _ I (tX.bind (Q := fun u H1 => ∃ t, TruV X.K u H1 t ∧ if t = true then Q u H1 else tI Y Bs W mr σ H1 Q) w en k fun d S1 μ1 H1 u w1 en1 x1 r1 k1 => ?_)) fun v s1 ⟨u, H1, I1, r1, q1⟩ => ?_)
  · cases ht : truD (vw S1 d) with
    | none => rw [ht] at k1; exact k1.elim
    | some t =>
      rw [ht] at k1
      refine ⟨t, view_tru (view_of w1 r1) ht, ?_⟩
      cases t with
      | false => exact ⟨μ1, ρ, S1, w1, en1, k1⟩
      | true => exact k1 μ1 H1 u (.refl _ _) w1 r1
  · refine thn (tru_ok pins s1 σ H1 u v (fun t H' => if t = true then Q u H' else tI Y Bs W mr σ H' Q) I1 r1 q1) fun t s2 ⟨H2, I2, q2⟩ => ?_
    cases t with
    | false => exact hr.run pins s2 σ H2 Q I2 q2
    | true => exact ⟨u, H2, I2, r1, q2⟩
theorem t_and {ys : List Expr} {ma mr : Env → Store → R D} (ha : PT X x (tT Y Bs W (truM ma))) (hr : PW X (.BoolOp .And (y :: ys) p) (tT Y Bs W (truM mr))) :
    PW X (.BoolOp .And (x :: y :: ys) p) (tT Y Bs W (truM fun ρ S => (ma ρ S).bind fun d S1 => match truD (vw S1 d) with
    | some true => mr ρ S1
    | some false => .ok d S1
    | none => .bad)) := by
  refine (pw_and ha hr).imp ?_
  rintro σ H Q ⟨μ, ρ, S, w, en, k⟩
  refine ⟨μ, ρ, S, w, en, ?_⟩
  revert k
  unfold truM
  dsimp only
  cases ma ρ S with
  | ok d S1 =>
    intro k
    simp only [R.bind] at k ⊢
    cases ht : truD (vw S1 d) with
    | none => rw [ht] at k; exact k.elim
    | some t =>
      rw [ht] at k
      intro μ' H' t' x w' e
      subst e
      cases t' with
      | true => exact ⟨μ', ρ, S1, w', en.ext x, k.mono x⟩
      | false =>
        simp only [R.bind, ht] at k
        exact k μ' H' _ x w' rfl
  | err C ns ds S1 => intro k; exact k
  | bad => intro k; exact k
theorem t_or {ys : List Expr} {ma mr : Env → Store → R D} (ha : PT X x (tT Y Bs W (truM ma))) (hr : PW X (.BoolOp .Or (y :: ys) p) (tT Y Bs W (truM mr))) :
    PW X (.BoolOp .Or (x :: y :: ys) p) (tT Y Bs W (truM fun ρ S => (ma ρ S).bind fun d S1 => match truD (vw S1 d) with
    | some false => mr ρ S1
    | some true => .ok d S1
    | none => .bad)) := by
  refine (pw_or ha hr).imp ?_
  rintro σ H Q ⟨μ, ρ, S, w, en, k⟩
  refine ⟨μ, ρ, S, w, en, ?_⟩
  revert k
  unfold truM
  dsimp only
  cases ma ρ S with
  | ok d S1 =>
    intro k
    simp only [R.bind] at k ⊢
    cases ht : truD (vw S1 d) with
    | none => rw [ht] at k; exact k.elim
    | some t =>
      rw [ht] at k
      intro μ' H' t' x w' e
      subst e
      cases t' with
      | false => exact ⟨μ', ρ, S1, w', en.ext x, k.mono x⟩
      | true =>
        simp only [R.bind, ht] at k
        exact k μ' H' _ x w' rfl
  | err C ns ds S1 => intro k; exact k
  | bad => intro k; exact k
def ifeM (mq ma mb : Env → Store → R D) : Env → Store → R D := fun ρ S => (mq ρ S).bind fun d S1 => match truD (vw S1 d) with
    | some true => ma ρ S1
    | some false => mb ρ S1
    | none => .bad
theorem ife_read {α β : Type} {rel : List Addr → Hp → β → α → Prop} {mq : Env → Store → R D} {na nb : Env → Store → R α} {σ : L2.St} {H : Hp} {Q : β → Hp → Prop} {μ : List Addr} {ρ : Env} {S : Store} (w : World Y Bs μ H S) (en : EnvOk Y μ H σ ρ)
    (k : KR Y Bs rel μ H σ Q W ((mq ρ S).bind fun d S1 => match truD (vw S1 d) with
    | some true => na ρ S1
    | some false => nb ρ S1
    | none => .bad)) : tT Y Bs W (truM mq) σ H fun t H1 => if t = true then tX Y Bs rel W na σ H1 Q else tX Y Bs rel W nb σ H1 Q := by
  refine ⟨μ, ρ, S, w, en, ?_⟩
  revert k
  unfold truM
  cases mq ρ S with
  | ok d S1 =>
    intro k
    simp only [R.bind] at k ⊢
    cases ht : truD (vw S1 d) with
    | none => rw [ht] at k; exact k.elim
    | some t =>
      rw [ht] at k
      intro μ' H' t' x w' e
      subst e
      cases t' with
      | false => exact ⟨μ', ρ, S1, w', en.ext x, k.mono x⟩
      | true => exact ⟨μ', ρ, S1, w', en.ext x, k.mono x⟩
  | err C ns ds S1 => intro k; exact k
  | bad => intro k; exact k
theorem s_ife {mq : Env → Store → R D} (hq : PT X x (tT Y Bs W (truM mq))) (ha : PE X y (tI Y Bs W ma)) (hb : PE X z (tI Y Bs W mb)) : PE X (.IfExp x y z p) (tI Y Bs W (ifeM mq ma mb)) := by
  refine (pe_ifExp hq ha hb).imp ?_
  rintro σ H Q ⟨μ, ρ, S, w, en, k⟩
  exact ife_read w en k
theorem t_ife {mq : Env → Store → R D} (hq : PT X x (tT Y Bs W (truM mq))) (ha : PT X y (tT Y Bs W (truM ma))) (hb : PT X z (tT Y Bs W (truM mb))) : PT X (.IfExp x y z p) (tT Y Bs W (truM (ifeM mq ma mb))) := by
  refine ⟨fun pins s σ H Q I ⟨μ, ρ, S, w, en, k⟩ => ?_⟩
  show wpAny _ _ (do if ← isTrue x X.env (eval x X.env) then isTrue y X.env (eval y X.env) else isTrue z X.env (eval z X.env)) _ _ _
  refine wpAny_bind (thn (hq.run pins s σ H _ I (ife_read (rel := fun _ _ (t : Bool) a => t = a) (na := truM ma) (nb := truM mb) (Q := Q) w en ?_)) fun t s1 ⟨H1, I1, q1⟩ => ?_)
  · revert k
    unfold truM ifeM
    cases mq ρ S with
    | ok d S1 =>
      intro k
      simp only [R.bind] at k ⊢
      cases ht : truD (vw S1 d) with
      | none => rw [ht] at k; exact k
      | some t => rw [ht] at k; cases t <;> exact k
    | err C ns ds S1 => intro k; exact k
    | bad => intro k; exact k
  · cases t with
    | true => exact ha.run pins s1 σ H1 Q I1 q1
    | false => exact hb.run pins s1 σ H1 Q I1 q1
theorem s_idx (G : Good Y c b Bs W M X) (hs : notSlice y = true) (ha : PE X x (tI Y Bs W ma)) (hb : PE X y (tI Y Bs W mb)) : PE X (.Subscript x y p) (tI Y Bs W fun ρ S => (ma ρ S).bind fun d S1 => (mb ρ S1).bind fun e S2 => R.of S2 (idxD (vw S2 d) (vw S2 e))) := by
  refine (pe_ix (ix_D (Y := Y) G.hK G.hu) ha hb (plainIx_of hs)).imp ?_
  rintro σ H Q ⟨μ, ρ, S, w, en, k⟩
  refine tX.bind w en k fun d S1 μ1 H1 u w1 en1 x1 r1 k1 => tX.bind w1 en1 k1 fun e S2 μ2 H2 v w2 en2 x2 r2 k2 => ?_
  obtain ⟨r, hr, k3⟩ := k2.of
  exact ⟨Bs, μ2, S2, d, e, r, w2, r1.ext x2, r2, hr, k3⟩
variable {p2 : Pos}
theorem s_slAll (ha : PE X x (tI Y Bs W ma)) : PE X (.Subscript x (.Slice none none none p2) p) (tI Y Bs W fun ρ S => (ma ρ S).bind fun d S1 => R.of S1 (slD none none (vw S1 d))) := by
  refine (pe_slice (sl_D (Y := Y)) ha po_none po_none).imp ?_
  rintro σ H Q ⟨μ, ρ, S, w, en, k⟩
  refine tX.bind w en k fun d S1 μ1 H1 u w1 en1 x1 r1 k1 => ?_
  obtain ⟨r, hr, k3⟩ := k1.of
  exact ⟨Bs, μ1, S1, d, r, w1, r1, hr, k3⟩
theorem s_slLo (ha : PE X x (tI Y Bs W ma)) (hb : PE X y (tI Y Bs W mb)) : PE X (.Subscript x (.Slice (some y) none none p2) p) (tI Y Bs W fun ρ S => (ma ρ S).bind fun d S1 => (mb ρ S1).bind fun e S2 => match e with
    | .int i => R.of S2 (slD (some i) none (vw S2 d))
    | _ => .bad) := by
  refine (pe_slice (sl_D (Y := Y)) ha (po_some hb) po_none).imp ?_
  rintro σ H Q ⟨μ, ρ, S, w, en, k⟩
  refine tX.bind w en k fun d S1 μ1 H1 u w1 en1 x1 r1 k1 => tX.bind w1 en1 k1 fun e S2 μ2 H2 v w2 en2 x2 r2 k2 => ?_
  cases r2 with
  | int i =>
    obtain ⟨r, hr, k3⟩ := k2.of
    exact ⟨i, rfl, Bs, μ2, S2, d, r, w2, r1.ext x2, hr, k3⟩
  | _ => exact k2.elim
theorem s_slHi (ha : PE X x (tI Y Bs W ma)) (hb : PE X y (tI Y Bs W mb)) : PE X (.Subscript x (.Slice none (some y) none p2) p) (tI Y Bs W fun ρ S => (ma ρ S).bind fun d S1 => (mb ρ S1).bind fun e S2 => match e with
    | .int i => R.of S2 (slD none (some i) (vw S2 d))
    | _ => .bad) := by
  refine (pe_slice (sl_D (Y := Y)) ha po_none (po_some hb)).imp ?_
  rintro σ H Q ⟨μ, ρ, S, w, en, k⟩
  refine tX.bind w en k fun d S1 μ1 H1 u w1 en1 x1 r1 k1 => tX.bind w1 en1 k1 fun e S2 μ2 H2 v w2 en2 x2 r2 k2 => ?_
  cases r2 with
  | int i =>
    obtain ⟨r, hr, k3⟩ := k2.of
    exact ⟨i, rfl, Bs, μ2, S2, d, r, w2, r1.ext x2, hr, k3⟩
  | _ => exact k2.elim
theorem s_sl (ha : PE X x (tI Y Bs W ma)) (hb : PE X y (tI Y Bs W mb)) (hc : PE X z (tI Y Bs W mc)) : PE X (.Subscript x (.Slice (some y) (some z) none p2) p) (tI Y Bs W fun ρ S => (ma ρ S).bind fun d S1 => (mb ρ S1).bind fun e S2 => match e with
    | .int i => (mc ρ S2).bind fun f S3 => match f with
      | .int j => R.of S3 (slD (some i) (some j) (vw S3 d))
      | _ => .bad
    | _ => .bad) := by
  refine (pe_slice (sl_D (Y := Y)) ha (po_some hb) (po_some hc)).imp ?_
  rintro σ H Q ⟨μ, ρ, S, w, en, k⟩
  refine tX.bind w en k fun d S1 μ1 H1 u w1 en1 x1 r1 k1 => tX.bind w1 en1 k1 fun e S2 μ2 H2 v w2 en2 x2 r2 k2 => ?_
  cases r2 with
  | int i =>
    refine ⟨i, rfl, tX.bind w2 en2 k2 fun f S3 μ3 H3 z w3 en3 x3 r3 k3 => ?_⟩
    cases r3 with
    | int j =>
      obtain ⟨r, hr, k4⟩ := k3.of
      exact ⟨j, rfl, Bs, μ3, S3, d, r, w3, (r1.ext x2).ext x3, hr, k4⟩
    | _ => exact k3.elim
  | _ => exact k2.elim
end
end
end CL
namespace CL
open PySem PySem.Spec PyProof.Rows L2
section
variable {X : Cx} {Y : Sx} {Bs : List Nat} {W : WX} {b : Nat} {M : MC} {c : Ctx}
theorem a_nil : PA X [] (tA Y Bs W fun _ S => .ok [] S) := by
  refine pa_nil.imp ?_
  rintro σ H Q ⟨μ, ρ, S, w, en, k⟩
  exact k μ H [] (.refl _ _) w .nil
theorem a_cons {x : Expr} {xs : List Expr} {ma : Env → Store → R D} {mas : Env → Store → R (List D)} (hs : notStar x = true) (ha : PE X x (tI Y Bs W ma)) (hr : PA X xs (tA Y Bs W mas)) :
    PA X (x :: xs) (tA Y Bs W fun ρ S => (ma ρ S).bind fun d S1 => (mas ρ S1).bind fun ds S2 => .ok (d :: ds) S2) := by
  refine (pa_cons ha hr (starEach_of hs)).imp ?_
  rintro σ H Q ⟨μ, ρ, S, w, en, k⟩
  refine tX.bind w en k fun d S1 μ1 H1 u w1 en1 x1 r1 k1 => tX.bind w1 en1 k1 fun ds S2 μ2 H2 vs w2 en2 x2 r2 k2 => ?_
  exact k2 μ2 H2 _ (.refl _ _) w2 (.cons (r1.ext x2) r2)
def allNS (xs : List Expr) : Bool := xs.all notStar
theorem starEach_ns {env : PySem.Env} {pos : Pos} : ∀ {xs : List Expr}, allNS xs = true → (backTo pos (starEach xs env)).any (·.1) = false ∧ (backTo pos (starEach xs env)).all (fun x => !x.1) = true
  | [], _ => ⟨rfl, rfl⟩
  | x :: xs, h => by
    unfold allNS at h
    rw [List.all_cons, Bool.and_eq_true] at h
    have ih := starEach_ns (env := env) (pos := pos) (xs := xs) h.2
    rw [starEach_of h.1]
    unfold backTo at *
    rw [List.map_cons, List.any_cons, List.all_cons]
    exact ⟨by rw [ih.1]; rfl, by rw [ih.2]; rfl⟩
theorem boot_fb (f : FB) : bootBuiltins (nm f.py) = some f.val := by cases f <;> decide +kernel
theorem fb_name (f : FB) : nm f.py ≠ "__name__" := by cases f <;> decide +kernel
theorem fb_bis (f : FB) : f.py ∈ bis := by cases f <;> decide +kernel
theorem s_bi (G : Good Y c b Bs W M X) (f : FB) {n : Str} {q p : Pos} {y : Expr} {ys : List Expr} {mas : Env → Store → R (List D)} (hn : gnB M.sc f.py n = true) (hs : allNS (y :: ys) = true) (ha : PA X (y :: ys) (tA Y Bs W mas)) :
    PE X (.Call (.Name n q) (y :: ys) [] p) (tI Y Bs W fun ρ S => (mas ρ S).bind fun ds S1 => R.of S1 (fbD f (ds.map (vw S1)))) := by
  obtain ⟨rfl, h4, h5⟩ := gnB_of hn
  have hs' := hs
  unfold allNS at hs'
  rw [List.all_cons, Bool.and_eq_true] at hs'
  have main : PE X (.Call (.Name (nm f.py) q) (y :: ys) [] p) (tCB (rFb Y f) (tA Y Bs W mas)) := by
    have hc := call_fb (Y := Y) G.hK G.calm G.hu f
    have hv := boot_fb f
    unfold FB.val at hc hv
    by_cases ht : f.ty = true
    · rw [if_pos ht] at hc hv
      exact pe_callTy hc (G.gl h4) (G.bi _ (fb_bis f)) hv ha (fb_name f) (okN_db h5) (starEach_of hs'.1) (starEach_ns hs'.2).1
    · rw [if_neg ht] at hc hv
      exact pe_callB hc (G.gl h4) (G.bi _ (fb_bis f)) hv ha (fb_name f) (okN_db h5) (starEach_of hs'.1) (starEach_ns hs'.2).1
  refine main.imp ?_
  rintro σ H Q ⟨μ, ρ, S, w, en, k⟩
  refine tX.bind w en k fun ds S1 μ1 H1 vs w1 en1 x1 r1 k1 => ?_
  obtain ⟨r, hr, k2⟩ := k1.of
  exact ⟨Bs, μ1, S1, ds, r, w1, r1, hr, k2⟩
theorem kind_is {pins : List (Addr × Obj)} {s : Shared} {σ : L2.St} {H : Hp} {x : V} {v : Value} {μ : List Addr} {d : D} {m : MB} {id : String} (I : Inv X pins σ H s) (rx : RelV x v) (h : View Y μ H x d) (hk : mbId m (kindD d) = some id) :
    s.TypeIs v (tyOf (kindD d)) ∧ ∀ a, v = .ref a → ∃ ob, s.heap.get? a = some ob ∧ ob.dict = none := by
  cases h with
  | str l =>
    obtain ⟨t, rfl⟩ := rx
    exact ⟨typeIs_str s _ t, fun _ e => nomatch e⟩
  | lst h r =>
    cases rx
    obtain ⟨its, _, pl, _⟩ := I.list (.of h)
    refine ⟨pl.isList.typeIs, fun a e => ?_⟩
    cases e
    obtain ⟨o, n, e, c, hd, _⟩ := pl
    exact ⟨o, e, hd⟩
  | way h ho n r =>
    cases rx
    obtain ⟨e, _, its, rv, o, h1, h2, n0, h3⟩ := (show ObjOk X.prog X.w H s.heap _ (.frz _ (.tup _)) from I.hok _ _ h)
    refine ⟨⟨o, h1, h2⟩, fun a e' => ?_⟩
    cases e'
    exact ⟨_, e, ho⟩
  | _ => cases m <;> simp [kindD, mbId] at hk
def bmM (m : MB) (b : Nat) (ma : Env → Store → R D) (mas : Env → Store → R (List D)) : Env → Store → R D := fun ρ S => (ma ρ S).bind fun d S1 => if (mbId m (kindD (vw S1 d))).isSome then (mas ρ S1).bind fun ds S2 => if kindD (vw S1 d) = kindD (vw S2 d) then bmD m d ds b S2 else .bad else .bad
theorem bm_read {m : MB} {ma : Env → Store → R D} {mas : Env → Store → R (List D)} {σ : L2.St} {H : Hp} {Q : VK} (h : tI Y Bs W (bmM m b ma mas) σ H Q) :
    tI Y Bs W ma σ H fun x H1 => ∃ (μ1 : List Addr) (S1 : Store) (d : D) (id : String), View Y μ1 H1 x (vw S1 d) ∧ mbId m (kindD (vw S1 d)) = some id ∧
      tA Y Bs W mas σ H1 fun xs H2 => ∃ (μ2 : List Addr) (S2 : Store) (ds : List D), World Y Bs μ2 H2 S2 ∧ Rep Y μ2 H2 x d ∧ RepL Y μ2 H2 xs ds ∧ mbId m (kindD (vw S2 d)) = some id ∧ KR Y Bs (Rep Y) μ2 H2 σ Q W (bmD m d ds b S2) := by
  obtain ⟨μ, ρ, S, w, en, k⟩ := h
  refine tX.bind w en k fun d S1 μ1 H1 x w1 en1 x1 r1 k1 => ?_
  cases hid : mbId m (kindD (vw S1 d)) with
  | none => rw [hid] at k1; exact k1.elim
  | some id =>
    rw [hid] at k1
    simp only [Option.isSome_some, if_true] at k1
    refine ⟨μ1, S1, d, id, view_of w1 r1, hid, tX.bind w1 en1 k1 fun ds S2 μ2 H2 xs w2 en2 x2 r2 k2 => ?_⟩
    split at k2
    · rename_i e
      exact ⟨μ2, S2, ds, w2, r1.ext x2, r2, by rw [← e]; exact hid, k2⟩
    · exact k2.elim
theorem s_bm (G : Good Y c b Bs W M X) {m : MB} {o y : Expr} {ys : List Expr} {ap p : Pos} {ma : Env → Store → R D} {mas : Env → Store → R (List D)} (hl : (ap.endLine == p.line) = true) (hf : (y :: ys).length < 20) (h0 : notCall0 o = true) (hs : allNS (y :: ys) = true)
    (ho : PE X o (tI Y Bs W ma)) (ha : PA X (y :: ys) (tA Y Bs W mas)) : PE X (.Call (.Attribute o (nm m.py) ap) (y :: ys) [] p) (tI Y Bs W (bmM m b ma mas)) := by
  have hs' := hs
  unfold allNS at hs'
  rw [List.all_cons, Bool.and_eq_true] at hs'
  refine ⟨fun pins s σ H Q I h => ?_⟩
  refine wpAny_Call_method_late (base_of h0) ?_ hl rfl (thn (ho.run pins s σ H _ I (bm_read h)) fun v s1 ⟨x, H1, I1, r1, μ1, S1, d, id, vd, hid, q1⟩ => ?_)
  · rw [(starEach_ns hs).2]
    simp only [Bool.true_and, Bool.and_eq_true, decide_eq_true_eq]
    exact ⟨rfl, by simp at hf ⊢; omega⟩
  obtain ⟨f1, f2, f3⟩ := mb_facts hid
  obtain ⟨h1, h2⟩ := kind_is I1 r1 vd hid
  refine ⟨_, id, f1, f2, f3, h1, h2, ?_⟩
  have hA := ha.run p pins s1 σ H1 _ I1 q1
  rw [starEach_of hs'.1] at hA ⊢
  refine Calls.callWith_builtin (by show (false || (backTo p (starEach ys X.env)).any (·.1)) = false; rw [(starEach_ns hs'.2).1] <;> rfl) (Calls.evalArgs_plain ?_)
  refine thn hA fun us s2 ⟨vs, H2, I2, r2, μ2, S2, ds, w2, rd, rds, hid2, k2⟩ => ?_
  exact bm_D G.hu hid2 G.hb I2 r1 r2 w2 rd rds k2
theorem s_bm0 (G : Good Y c b Bs W M X) {m : MB} {o : Expr} {ap p : Pos} {ma : Env → Store → R D} (hl : (ap.endLine == p.line) = true) (h0 : notCall0 o = true)
    (ho : PE X o (tI Y Bs W ma)) : PE X (.Call (.Attribute o (nm m.py) ap) [] [] p) (tI Y Bs W (bmM m b ma fun _ S => .ok [] S)) := by
  refine ⟨fun pins s σ H Q I h => ?_⟩
  refine wpAny_Call_method_late (base_of h0) rfl hl rfl (thn (ho.run pins s σ H _ I (bm_read h)) fun v s1 ⟨x, H1, I1, r1, μ1, S1, d, id, vd, hid, q1⟩ => ?_)
  obtain ⟨f1, f2, f3⟩ := mb_facts hid
  obtain ⟨h1, h2⟩ := kind_is I1 r1 vd hid
  refine ⟨_, id, f1, f2, f3, h1, h2, ?_⟩
  obtain ⟨μ2, ρ, S2, w2, en2, k2⟩ := q1
  obtain ⟨μ3, S3, ds, w3, rd, rds, hid2, k3⟩ := k2 μ2 H1 [] (.refl _ _) w2 .nil
  exact Calls.callWith_builtin rfl (PySem.evalArgs_none (bm_D (us := []) G.hu hid2 G.hb I1 r1 .nil w3 rd rds k3))
theorem KR.noσ {μ : List Addr} {H : Hp} {σ : L2.St} {Q : VK} {r : R D} (k : KR Y Bs (Rep Y) μ H σ Q W r) : KR Y Bs (Rep Y) μ H [] Q (fun cls d _ H' => WE W σ cls d H') r := by
  cases r with
  | ok d S => exact k
  | err C ns ds S => exact k
  | bad => exact k
theorem s_call (G : Good Y c b Bs W M X) {f : String} {g : Bool} {n : Str} {q p : Pos} {y : Expr} {ys : List Expr} {mas : Env → Store → R (List D)} (hf : M.fn f = true) (hn : gnB M.sc f n = true) (hs : allNS (y :: ys) = true) (ha : PA X (y :: ys) (tA Y Bs W mas)) :
    PE X (.Call (.Name n q) (y :: ys) [] p) (tI Y Bs W fun ρ S => (mas ρ S).bind fun ds S1 => c.call f g ds b S1) := by
  obtain ⟨rfl, h4, h5⟩ := gnB_of hn
  have hs' := hs
  unfold allNS at hs'
  rw [List.all_cons, Bool.and_eq_true] at hs'
  obtain ⟨k, a, fd, ps, F, hr, hm, hk, hb⟩ := (G.call f hf).get
  refine (pe_callSD (E := WE W) (dvs := []) (ds := []) F hr (G.gl h4) hm hk hb .nil (fun σ => passAt G.tk σ) ha (okN_db h5) (starEach_of hs'.1) (starEach_ns hs'.2).1).imp ?_
  rintro σ H Q ⟨μ, ρ, S, w, en, k⟩
  refine tX.bind w en k fun ds S1 μ1 H1 vs w1 en1 x1 r1 k1 => ?_
  rw [List.append_nil]
  exact ⟨Y, rfl, g, b, Bs, μ1, S1, ds, G.hb, w1, r1, k1.noσ⟩
theorem s_call0 (G : Good Y c b Bs W M X) {f : String} {g : Bool} {n : Str} {q p : Pos} (hf : M.fn f = true) (hn : gnB M.sc f n = true) :
    PE X (.Call (.Name n q) [] [] p) (tI Y Bs W fun _ S => c.call f g [] b S) := by
  obtain ⟨rfl, h4, h5⟩ := gnB_of hn
  obtain ⟨k, a, fd, ps, F, hr, hm, hk, hb⟩ := (G.call f hf).get
  refine ⟨fun pins s σ H Q I ⟨μ, ρ, S, w, en, k1⟩ => ?_⟩
  refine wpAny_Call_Name_kw (ld_glob I (G.gl h4) hm ?_ (okN_db h5))
  exact PySem.W.callWith_K0 I.kIn hk (run_fnSD (E := WE W) (dvs := []) (ds := []) (us := []) (vs := []) F hr hb .nil (passAt G.tk σ) I .nil ⟨Y, rfl, g, b, Bs, μ, S, [], G.hb, w, .nil, k1.noσ⟩)
theorem kit_bas : ∀ T ∈ basT, ∀ C ∈ bTy, kitB T C = some (C == T || (T == "bool" && C == "int")) := by decide +kernel
theorem basK {K : PySem.W.Frag} {T C : String} (hT : T ∈ basT) (hC : isB C = true) : PySem.W.kitOne K (.type T) (.type C) = some (C == T || (T == "bool" && C == "int")) :=
  kit_ty (kit_bas T hT C (by unfold isB at hC; simpa using hC))
theorem isB_mem {C : String} (h : isB C = true) : C ∈ bTy := by unfold isB at h; simpa using h
def basA (T C : String) : Bool := isB C && (C == T || (T == "bool" && C == "int"))
theorem basA_of {T C : String} (hT : isB T = true) (hT2 : (T == "bool") = false) : basA T C = (C == T) := by
  unfold basA
  rw [hT2, Bool.false_and, Bool.or_false]
  by_cases h : C = T
  · subst h; rw [hT]; simp
  · simp [h]
theorem basA_bool {C : String} : basA "bool" C = (C == "bool" || C == "int") := by
  unfold basA
  by_cases h : C = "bool"
  · subst h; rfl
  · by_cases h2 : C = "int"
    · subst h2; rfl
    · simp [h, h2]
theorem basA_non {C : String} : basA "NoneType" C = false := by
  unfold basA
  by_cases h : C = "NoneType"
  · subst h; decide +kernel
  · have : ("NoneType" == "bool") = false := by decide +kernel
    rw [this]
    simp [h]
theorem isa_ok (G : Good Y c b Bs W M X) {μ : List Addr} {H : Hp} {x : V} {d0 : D} {S : Store} (w : World Y Bs μ H S) (r0 : Rep Y μ H x d0) : (∃ t, TyX X.K H x t ∧ ∀ C k, (isB C = true ∨ M.cl C = true) → isaD c (vw S d0) C = some k → PySem.W.kitOne X.K t (clsVal Y C) = some k) ∨ ∀ C, isaD c (vw S d0) C = none := by
  have bas : ∀ {T : String} {d : D}, T ∈ basT → (∀ C, isaD c d C = some (basA T C)) → ∀ C k, (isB C = true ∨ M.cl C = true) → isaD c d C = some k → PySem.W.kitOne X.K (.type T) (clsVal Y C) = some k := by
    intro T d hT hd C k hC hk
    rw [hd] at hk
    simp only [Option.some.injEq] at hk
    subst hk
    unfold clsVal basA
    by_cases hB : isB C = true
    · rw [if_pos hB, hB, Bool.true_and]; exact basK hT hB
    · rw [if_neg hB]
      have hB' : isB C = false := by simpa using hB
      rw [G.isaN C (hC.resolve_left hB) hB' T hT, hB', Bool.false_and]
  have v := view_of w r0
  revert v
  cases hvw : vw S d0 with
  | non => intro v; cases v; exact .inl ⟨_, .base .non, bas (T := "NoneType") (by decide) (fun C => by rw [basA_non]; rfl)⟩
  | bl t => intro v; cases v; exact .inl ⟨_, .base (.bl t), bas (T := "bool") (by decide) (fun C => by rw [basA_bool]; rfl)⟩
  | int i => intro v; cases v; exact .inl ⟨_, .base (.int i), bas (T := "int") (by decide) (fun C => by rw [basA_of (by decide +kernel) (by decide +kernel)]; rfl)⟩
  | str l => intro v; cases v; exact .inl ⟨_, .base (.str _), bas (T := "str") (by decide) (fun C => by rw [basA_of (by decide +kernel) (by decide +kernel)]; rfl)⟩
  | tup ds =>
    intro v
    cases v with
    | tup h _ _ => exact .inl ⟨_, .base (.tup h), bas (T := "tuple") (by decide) (fun C => by rw [basA_of (by decide +kernel) (by decide +kernel)]; rfl)⟩
  | lst ds =>
    intro v
    cases v with
    | lst h _ => exact .inl ⟨_, .base (.lst h), bas (T := "list") (by decide) (fun C => by rw [basA_of (by decide +kernel) (by decide +kernel)]; rfl)⟩
  | way ds =>
    intro v
    cases v with
    | way h _ _ _ => exact .inl ⟨_, .fTuple h, bas (T := "tuple") (by decide) (fun C => by rw [basA_of (by decide +kernel) (by decide +kernel)]; rfl)⟩
  | dic t ks vs =>
    intro v
    cases v with
    | dicK h _ => exact .inl ⟨_, .base (.dK h), bas (T := "dict") (by decide) (fun C => by rw [basA_of (by decide +kernel) (by decide +kernel)]; rfl)⟩
    | dicT h _ => exact .inl ⟨_, .base (.dT h), bas (T := "dict") (by decide) (fun C => by rw [basA_of (by decide +kernel) (by decide +kernel)]; rfl)⟩
  | ins Z ns ds =>
    intro v
    cases v with
    | ins h hn r =>
      by_cases hx : ∃ C k, c.isa Z C = some k
      · obtain ⟨t, ht, hk⟩ := G.isaI Z hx H _ _ _ h
        exact .inl ⟨t, ht, fun C k hC e => hk C k e hC⟩
      · refine .inr fun C => ?_
        cases e : isaD c (.ins Z ns ds) C with
        | none => rfl
        | some k => exact absurd ⟨C, k, e⟩ hx
  | exn Z ns ds => intro v; cases v
  | ref i => intro v; exact .inr fun C => rfl
  | scr ns => intro v; exact .inr fun C => rfl
theorem isaAny_one {c : Ctx} {d : D} {C : String} : isaAny c d [C] = isaD c d C := by
  unfold isaAny
  cases isaD c d C with
  | none => rfl
  | some k => cases k <;> rfl
theorem isaAny_kit {K : PySem.W.Frag} {t : Value} {d : D} : ∀ {cs : List String} {k : Bool}, (∀ C ∈ cs, isB C = true ∨ M.cl C = true) → (∀ C k, (isB C = true ∨ M.cl C = true) → isaD c d C = some k → PySem.W.kitOne K t (clsVal Y C) = some k) → isaAny c d cs = some k →
    PySem.W.kitAny K t (cs.map (clsVal Y)) = some k
  | [], k, _, _, e => by simp only [isaAny, Option.some.injEq] at e; subst e; exact kitAny_nil
  | C :: cs, k, hc, h, e => by
    unfold isaAny at e
    cases q : isaD c d C with
    | none => rw [q] at e; cases e
    | some j =>
      rw [q] at e
      refine kitAny_cons (h C j (hc C (List.mem_cons_self ..)) q) (fun hj => ?_) (fun hj => ?_)
      · subst hj
        exact isaAny_kit (fun C' h' => hc C' (List.mem_cons_of_mem _ h')) h e
      · subst hj
        simp only [Option.some.injEq] at e
        exact e.symm
theorem clsV_is (C : String) : ClsV (clsV Y C) (clsVal Y C) := by
  unfold clsV clsVal
  by_cases h : isB C = true
  · rw [if_pos h, if_pos h]; exact .ty C
  · rw [if_neg h, if_neg h]; exact .own _
theorem boot_ty : ∀ C ∈ bTy, bootBuiltins (nm C) = some (.type C) ∧ nm C ≠ "__name__" := by decide +kernel
theorem e_cls (G : Good Y c b Bs W M X) {C : String} {n : Str} {p : Pos} (h1 : (isB C || M.cl C) = true) (h2 : gnB M.sc C n = true) : PE X (.Name n p) (tC (clsV Y C)) := by
  obtain ⟨rfl, h4, h5⟩ := gnB_of h2
  unfold clsV
  by_cases hB : isB C = true
  · rw [if_pos hB]
    obtain ⟨a1, a2⟩ := boot_ty C (isB_mem hB)
    exact pe_bltn (G.gl h4) (G.bcl C hB) a1 rfl a2 (okN_db h5)
  · rw [if_neg hB]
    have hB' : isB C = false := by simpa using hB
    rw [hB', Bool.false_or] at h1
    exact pe_glob (G.gl h4) (G.cls C h1 hB') rfl (okN_db h5)
theorem clsMt_mem : ∀ {cs : List String} {xs : List Expr}, clsMt M cs xs = true → ∀ C ∈ cs, isB C = true ∨ M.cl C = true
  | [], _, _, C, h => by simp at h
  | C' :: cs, [], h, C, hC => by simp [clsMt] at h
  | C' :: cs, x :: xs, h, C, hC => by
    cases x <;> simp only [clsMt, Bool.and_eq_true, Bool.or_eq_true] at h <;> first
      | (exact absurd h Bool.false_ne_true)
      | (rcases List.mem_cons.mp hC with e | e
         · rw [e]; exact h.1
         · exact clsMt_mem h.2.2 C e)
theorem a_cls (G : Good Y c b Bs W M X) : ∀ {cs : List String} {xs : List Expr}, clsMt M cs xs = true → PA X xs (fun σ H Q => Q (cs.map (clsV Y)) H)
  | [], [], _ => pa_nil
  | [], x :: xs, h => by simp [clsMt] at h
  | C :: cs, [], h => by simp [clsMt] at h
  | C :: cs, x :: xs, h => by
    cases x with
    | Name n p =>
      simp only [clsMt, Bool.and_eq_true] at h
      exact (pa_cons (e_cls G h.1 h.2.1) (a_cls G h.2.2) (starEach_of rfl)).imp fun σ H Q q => q
    | _ => simp [clsMt] at h
theorem clsV_all : ∀ cs : List String, Paired ClsV (cs.map (clsV Y)) (cs.map (clsVal Y))
  | [] => .nil
  | C :: cs => .cons (clsV_is C) (clsV_all cs)
def isiM (c : Ctx) (cs : List String) (ma : Env → Store → R D) : Env → Store → R D := fun ρ S => (ma ρ S).bind fun d S1 => R.of S1 ((isaAny c (vw S1 d) cs).map .bl)
theorem isi_bis : "isinstance" ∈ bis := by decide +kernel
theorem isaAny_none {c : Ctx} {d : D} (h : ∀ C, isaD c d C = none) : ∀ cs : List String, cs ≠ [] → isaAny c d cs = none
  | [], h' => absurd rfl h'
  | C :: cs, _ => by unfold isaAny; rw [h]
theorem s_isi1 (G : Good Y c b Bs W M X) {cs : List String} {n : Str} {q p : Pos} {y z : Expr} {ma : Env → Store → R D} (hn : gnB M.sc "isinstance" n = true) (hs : notStar y = true) (ha : PE X y (tI Y Bs W ma)) (hc : clsMt M cs [z] = true) :
    PE X (.Call (.Name n q) [y, z] [] p) (tI Y Bs W (isiM c cs ma)) := by
  obtain ⟨rfl, h4, h5⟩ := gnB_of hn
  match cs, hc with
  | [], hc => simp [clsMt] at hc
  | C :: D' :: _, hc => cases z <;> simp [clsMt] at hc
  | [C], hc =>
    cases z with
    | Name n2 p2 =>
      have hc' := hc
      simp only [clsMt, Bool.and_eq_true] at hc'
      have hC : isB C = true ∨ M.cl C = true := by simpa using hc'.1
      refine (pe_callB call_isi (G.gl h4) (G.bi _ isi_bis) PyProof.Rows.boot_isinstance (pa_cons ha (pa_cons (e_cls G hc'.1 hc'.2.1) pa_nil (starEach_of rfl)) (starEach_of hs)) (by decide +kernel) (okN_db h5) (starEach_of hs) rfl).imp ?_
      rintro σ H Q ⟨μ, ρ, S, w, en, k⟩
      refine tX.bind w en k fun d S1 μ1 H1 u w1 en1 x1 r1 k1 => ?_
      obtain ⟨r, hr, k2⟩ := k1.of
      simp only [Option.map_eq_some_iff] at hr
      obtain ⟨t, ht, rfl⟩ := hr
      rw [isaAny_one] at ht
      rcases isa_ok G w1 r1 with ⟨ty, h1, h2⟩ | h1
      · exact ⟨u, _, ty, _, t, rfl, clsV_is C, h1, h2 C t hC ht, k2 μ1 H1 _ (.refl _ _) w1 (.bl t)⟩
      · rw [h1] at ht; cases ht
    | _ => simp [clsMt] at hc
theorem s_isiT (G : Good Y c b Bs W M X) {cs : List String} {n : Str} {q p p2 : Pos} {y : Expr} {zs : List Expr} {kk : Nat} {ma : Env → Store → R D} (hn : gnB M.sc "isinstance" n = true) (hs : notStar y = true) (hl : cs.length ≤ 1000) (h0 : cs ≠ []) (ha : PE X y (tI Y Bs W ma)) (hc : clsMt M cs zs = true) :
    PE X (.Call (.Name n q) [y, .Tuple zs kk p2] [] p) (tI Y Bs W (isiM c cs ma)) := by
  obtain ⟨rfl, h4, h5⟩ := gnB_of hn
  refine (pe_callB call_isiT (G.gl h4) (G.bi _ isi_bis) PyProof.Rows.boot_isinstance (pa_cons ha (pa_cons (pe_tup (a_cls G hc)) pa_nil (starEach_of rfl)) (starEach_of hs)) (by decide +kernel) (okN_db h5) (starEach_of hs) rfl).imp ?_
  rintro σ H Q ⟨μ, ρ, S, w, en, k⟩
  refine tX.bind w en k fun d S1 μ1 H1 u w1 en1 x1 r1 k1 => ⟨by rw [List.length_map]; exact small_line hl, fun a na => ?_⟩
  obtain ⟨r, hr, k2⟩ := k1.of
  simp only [Option.map_eq_some_iff] at hr
  obtain ⟨t, ht, rfl⟩ := hr
  have w2 : World Y Bs μ1 (upd H1 a (.tup (cs.map (clsV Y)))) S1 := w1.laid na
  have r2 : Rep Y μ1 (upd H1 a (.tup (cs.map (clsV Y)))) u d := r1.ext (.laid na)
  have fin := k2 μ1 _ _ (.laid na) w2 (.bl t)
  rcases isa_ok G w2 r2 with ⟨ty, h1, h2⟩ | h1
  · exact ⟨u, a, _, ty, _, t, rfl, upd_same, clsV_all cs, h1, isaAny_kit (clsMt_mem hc) h2 ht, fin⟩
  · rw [isaAny_none h1 _ h0] at ht; cases ht
end
end CL
namespace CL
open PySem PySem.Spec PyProof.Rows L2
mutual
theorem D.same_eq : ∀ a b : D, D.same a b = true → a = b
  | .non, b, h => by cases b <;> simp [D.same] at h <;> rfl
  | .bl x, b, h => by cases b <;> simp [D.same] at h; subst h; rfl
  | .int x, b, h => by cases b <;> simp [D.same] at h; subst h; rfl
  | .str x, b, h => by cases b <;> simp [D.same] at h; subst h; rfl
  | .tup xs, b, h => by
    cases b with
    | tup ys => rw [D.same] at h; rw [D.sameL_eq xs ys h]
    | _ => simp [D.same] at h
  | .lst xs, b, h => by
    cases b with
    | lst ys => rw [D.same] at h; rw [D.sameL_eq xs ys h]
    | _ => simp [D.same] at h
  | .way xs, b, h => by
    cases b with
    | way ys => rw [D.same] at h; rw [D.sameL_eq xs ys h]
    | _ => simp [D.same] at h
  | .dic t ks vs, b, h => by
    cases b with
    | dic u js ws =>
      simp only [D.same, Bool.and_eq_true, beq_iff_eq] at h
      rw [h.1, D.sameL_eq ks js h.2.1, D.sameL_eq vs ws h.2.2]
    | _ => simp [D.same] at h
  | .ins C ns ds, b, h => by
    cases b with
    | ins C' ms es =>
      simp only [D.same, Bool.and_eq_true, beq_iff_eq] at h
      rw [h.1, h.2.1, D.sameL_eq ds es h.2.2]
    | _ => simp [D.same] at h
  | .exn C ns ds, b, h => by
    cases b with
    | exn C' ms es =>
      simp only [D.same, Bool.and_eq_true, beq_iff_eq] at h
      rw [h.1, h.2.1, D.sameL_eq ds es h.2.2]
    | _ => simp [D.same] at h
  | .ref i, b, h => by cases b <;> simp [D.same] at h; subst h; rfl
  | .scr x, b, h => by cases b <;> simp [D.same] at h; subst h; rfl
theorem D.sameL_eq : ∀ a b : List D, D.sameL a b = true → a = b
  | [], b, h => by cases b <;> simp [D.sameL] at h; rfl
  | x :: xs, b, h => by
    cases b with
    | nil => simp [D.sameL] at h
    | cons y ys =>
      simp only [D.sameL, Bool.and_eq_true] at h
      rw [D.same_eq x y h.1, D.sameL_eq xs ys h.2]
end
mutual
theorem D.same_self : ∀ a : D, D.same a a = true
  | .non => rfl
  | .bl x => by simp [D.same]
  | .int x => by simp [D.same]
  | .str x => by simp [D.same]
  | .tup xs => by rw [D.same]; exact D.sameL_self xs
  | .lst xs => by rw [D.same]; exact D.sameL_self xs
  | .way xs => by rw [D.same]; exact D.sameL_self xs
  | .dic t ks vs => by rw [D.same, D.sameL_self ks, D.sameL_self vs]; simp
  | .ins C ns ds => by rw [D.same, D.sameL_self ds]; simp
  | .exn C ns ds => by rw [D.same, D.sameL_self ds]; simp
  | .ref i => by simp [D.same]
  | .scr x => by simp [D.same]
theorem D.sameL_self : ∀ a : List D, D.sameL a a = true
  | [] => rfl
  | x :: xs => by rw [D.sameL, D.same_self x, D.sameL_self xs]; rfl
end
theorem repIntsL {Y : Sx} {μ : List Addr} {H : Hp} : ∀ ns : List Int, RepL Y μ H (ns.map V.int) (ns.map D.int)
  | [] => .nil
  | n :: ns => .cons (.int n) (repIntsL ns)
def WalkOk (Y : Sx) (μ1 : List Addr) (H1 : Hp) (J : L2.It) (w : Walk) : Prop := ∀ (Y' : Sx) (μ' : List Addr) (H' : Hp), Up Y H1 Y' → Ext μ1 H1 μ' H' → ∀ (Bs : List Nat) (S' : Store), World Y' Bs μ' H' S' → w.still S' = true →
  (∀ (i : Nat) (d : D), w.items[i]? = some d → J.go i H' ∧ ∀ (x : V) (H'' : Hp), J.yld i H' x H'' → ∃ μ'', Ext μ' H' μ'' H'' ∧ World Y' Bs μ'' H'' S' ∧ Rep Y' μ'' H'' x d) ∧ J.stop w.items.length H'
abbrev tW (Y : Sx) (Bs : List Nat) (W : WX) (m : Env → Store → R Walk) : TI := tX Y Bs (fun μ H (J : L2.It) w => WalkOk Y μ H J w) W m
section
variable {Y : Sx} {K : PySem.W.Frag} {μ1 : List Addr} {H1 : Hp} {a : Addr} {w : Walk}
theorem walk_lst (h : ∀ (Y' : Sx) (μ' : List Addr) (H' : Hp), Up Y H1 Y' → Ext μ1 H1 μ' H' → ∀ (Bs : List Nat) (S' : Store), World Y' Bs μ' H' S' → w.still S' = true → ∃ xs, SqL K H' a xs ∧ RepL Y' μ' H' xs w.items) : WalkOk Y μ1 H1 (Itl K a) w := by
  intro Y' μ' H' u e Bs S' wo st
  obtain ⟨xs, hs, r⟩ := h Y' μ' H' u e Bs S' wo st
  refine ⟨fun i d hd => ?_, xs, hs, by rw [r.length]; exact Nat.le_refl _⟩
  obtain ⟨x, hx, rx⟩ := r.get hd
  refine ⟨⟨xs, x, hs, hx⟩, fun y H'' q => ?_⟩
  obtain ⟨rfl, hy⟩ := q
  have e2 := hy xs hs
  rw [hx] at e2
  cases e2
  exact ⟨μ', .refl _ _, wo, rx⟩
theorem walk_tup (h : ∀ (Y' : Sx) (μ' : List Addr) (H' : Hp), Up Y H1 Y' → Ext μ1 H1 μ' H' → ∀ (Bs : List Nat) (S' : Store), World Y' Bs μ' H' S' → w.still S' = true → ∃ xs, SqT K H' a xs ∧ RepL Y' μ' H' xs w.items) : WalkOk Y μ1 H1 (Itt K a) w := by
  intro Y' μ' H' u e Bs S' wo st
  obtain ⟨xs, hs, r⟩ := h Y' μ' H' u e Bs S' wo st
  refine ⟨fun i d hd => ?_, xs, hs, by rw [r.length]; exact Nat.le_refl _⟩
  obtain ⟨x, hx, rx⟩ := r.get hd
  refine ⟨⟨xs, x, hs, hx⟩, fun y H'' q => ?_⟩
  obtain ⟨rfl, hy⟩ := q
  have e2 := hy xs hs
  rw [hx] at e2
  cases e2
  exact ⟨μ', .refl _ _, wo, rx⟩
theorem walk_str {l : List Nat} : WalkOk Y μ1 H1 (Its ⟨l.toArray⟩) ⟨l.map fun c => .str [c], []⟩ := by
  intro Y' μ' H' u e Bs S' wo st
  refine ⟨fun i d hd => ?_, by simp [Its]⟩
  rw [List.getElem?_map, Option.map_eq_some_iff] at hd
  obtain ⟨ch, hc, rfl⟩ := hd
  have hl := (List.getElem?_eq_some_iff.mp hc).1
  refine ⟨by simpa [Its] using hl, fun y H'' q => ?_⟩
  obtain ⟨rfl, k, hk, rfl⟩ := q
  have : k = ch := by
    have h2 : l[i]? = some k := by simpa using hk
    rw [hc] at h2
    exact (Option.some.inj h2).symm
  subst this
  exact ⟨μ', .refl _ _, wo, .str [k]⟩
theorem list_at {Y : Sx} {Bs : List Nat} {W : WX} {μ : List Addr} {H : Hp} {S : Store} {x : V} {d : D} {l : List D} {hd : List (Nat × List D)} (w : World Y Bs μ H S) (r : Rep Y μ H x d) (h : listD S d = some (l, hd)) :
    ∃ a, x = .ref a ∧ ∀ (Y' : Sx) (μ' : List Addr) (H' : Hp), Up Y H Y' → Ext μ H μ' H' → ∀ (Bs : List Nat) (S' : Store), World Y' Bs μ' H' S' → (Walk.mk [] hd).still S' = true → ∃ xs, H' a = some (.lst xs) ∧ RepL Y' μ' H' xs l := by
  cases r with
  | lst hx n rr =>
    simp only [listD, Option.some.injEq, Prod.mk.injEq] at h
    obtain ⟨rfl, rfl⟩ := h
    exact ⟨_, rfl, fun Y' μ' H' u e Bs S' _ _ => ⟨_, e.keep _ _ n.out hx, rr.move e u⟩⟩
  | @ref a i hi =>
    simp only [listD] at h
    cases hc : S[i]? with
    | none => rw [hc] at h; cases h
    | some ce =>
      rw [hc] at h
      cases ce with
      | lst ds =>
        simp only [Option.some.injEq, Prod.mk.injEq] at h
        obtain ⟨rfl, rfl⟩ := h
        refine ⟨_, rfl, fun Y' μ' H' u e Bs S' w' st => ?_⟩
        unfold Walk.still at st
        simp only [List.all_cons, List.all_nil, Bool.and_true] at st
        have hi' := e.get hi
        cases hc' : S'[i]? with
        | none => rw [hc'] at st; cases st
        | some ce' =>
          rw [hc'] at st
          cases ce' with
          | lst ds' =>
            have := D.sameL_eq _ _ st
            subst this
            have co := w'.cells i _ _ hi' hc'
            cases co with
            | lst h2 r2 => exact ⟨_, h2, r2⟩
          | _ => cases st
      | _ => cases h
  | _ => simp [listD] at h
theorem still_app {S : Store} {p q : List (Nat × List D)} {l l' l'' : List D} (h : (Walk.mk l (p ++ q)).still S = true) : (Walk.mk l' p).still S = true ∧ (Walk.mk l'' q).still S = true := by
  unfold Walk.still at *
  simp only [List.all_append, Bool.and_eq_true] at h
  exact h
theorem numbered_get : ∀ (l : List D) (k i : Nat) (d : D), (numbered k l)[i]? = some d → ∃ x, l[i]? = some x ∧ d = .tup [.int ((k + i : Nat) : Int), x]
  | [], k, i, d, h => by simp [numbered] at h
  | y :: l, k, 0, d, h => by
    simp only [numbered, List.getElem?_cons_zero, Option.some.injEq] at h
    exact ⟨y, rfl, h.symm⟩
  | y :: l, k, i + 1, d, h => by
    simp only [numbered, List.getElem?_cons_succ] at h
    obtain ⟨x, h1, h2⟩ := numbered_get l (k + 1) i d h
    exact ⟨x, by simpa using h1, by rw [h2]; congr 3; congr 1; omega⟩
theorem numbered_len : ∀ (l : List D) (k : Nat), (numbered k l).length = l.length
  | [], _ => rfl
  | _ :: l, k => by simp [numbered, numbered_len l]
theorem pairs_get : ∀ (l m : List D) (i : Nat) (d : D), (pairs l m)[i]? = some d → ∃ x y, l[i]? = some x ∧ m[i]? = some y ∧ d = .tup [x, y]
  | [], m, i, d, h => by simp [pairs] at h
  | x :: l, [], i, d, h => by simp [pairs] at h
  | x :: l, y :: m, 0, d, h => by
    simp only [pairs, List.getElem?_cons_zero, Option.some.injEq] at h
    exact ⟨x, y, rfl, rfl, h.symm⟩
  | x :: l, y :: m, i + 1, d, h => by
    simp only [pairs, List.getElem?_cons_succ] at h
    obtain ⟨a, b, h1, h2, h3⟩ := pairs_get l m i d h
    exact ⟨a, b, by simpa using h1, by simpa using h2, h3⟩
theorem pairs_len : ∀ (l m : List D), (pairs l m).length = min l.length m.length
  | [], m => by simp [pairs]
  | x :: l, [] => by simp [pairs]
  | x :: l, y :: m => by
    simp only [pairs, List.length_cons, pairs_len l m]
    omega
end
theorem still_self {S1 : Store} {d : D} {l : List D} {hd : List (Nat × List D)} (hl : listD S1 d = some (l, hd)) : (Walk.mk [] hd).still S1 = true := by
  unfold Walk.still
  cases d with
  | lst ds =>
    simp only [listD, Option.some.injEq, Prod.mk.injEq] at hl
    rw [← hl.2]; rfl
  | ref i =>
    simp only [listD] at hl
    cases hc : S1[i]? with
    | none => rw [hc] at hl; cases hl
    | some ce =>
      rw [hc] at hl
      cases ce with
      | lst ds =>
        simp only [Option.some.injEq, Prod.mk.injEq] at hl
        rw [← hl.2]
        simp only [List.all_cons, List.all_nil, Bool.and_true, hc]
        exact D.sameL_self ds
      | _ => cases hl
  | _ => simp [listD] at hl
section
variable {X : Cx} {Y : Sx} {Bs : List Nat} {W : WX} {b : Nat} {M : MC} {c : Ctx} {tg x y : Expr} {p q : Pos} {ma mb : Env → Store → R D} {mas : Env → Store → R (List D)}
theorem i_val (hK : Y.ca.K = X.K) (ha : PE X x (tI Y Bs W ma)) : PI X tg x (tW Y Bs W fun ρ S => (ma ρ S).bind fun d S1 => R.of S1 (walkD S1 d)) := by
  refine ⟨fun pins s σ H R I ⟨μ, ρ, S, w, en, k⟩ => ?_⟩
  refine thn (ha.run pins s σ H _ I (tX.bind (Q := fun u H1 => ∃ (μ1 : List Addr) (S1 : Store) (d : D) (wk : Walk), World Y Bs μ1 H1 S1 ∧ Rep Y μ1 H1 u d ∧ walkD S1 d = some wk ∧ ∀ J : L2.It, WalkOk Y μ1 H1 J wk → R J H1) w en k fun d S1 μ1 H1 u w1 en1 x1 r1 k1 => ?_)) fun v s1 ⟨u, H1, I1, r1, μ1, S1, d, wk, w1, rd, hw, fin⟩ => ?_
  · obtain ⟨wk, hw, k2⟩ := k1.of
    exact ⟨μ1, S1, d, wk, w1, r1, hw, fun J hJ => k2 μ1 H1 J (.refl _ _) w1 hJ⟩
  · have lists : ∀ {a : Addr} {xs : List V}, u = .ref a → SqL X.K H1 a xs → WalkOk Y μ1 H1 (Itl X.K a) wk → wpAny (model X.prog X.w) X.A (pyIter v) (PIE X pins σ tg R) X.xe s1 := by
      intro a xs e hq hJ
      subst e
      cases r1
      obtain ⟨its, rv, pl, hz⟩ := I1.list hq
      refine wpAny_pyIter_list pl.isList ?_
      refine ⟨s1.heap.objs.size, [s1.heap.objs.size], _, _, H1, rfl, I1.kept (t' := s1.toks) fun b o e => Heap.get?_push_of_some _ e, turn_list a _, ⟨_, Heap.get?_push_size _ rfl, rfl, rfl⟩, fun b hb => ?_, fin _ hJ⟩
      have e : b = s1.heap.objs.size := by simpa using hb
      subst e
      exact I1.fpOk (Nat.le_refl _) (I1.hok.fresh (Nat.le_refl _))
    have tups : ∀ {a : Addr} {xs : List V}, u = .ref a → SqT X.K H1 a xs → WalkOk Y μ1 H1 (Itt X.K a) wk → wpAny (model X.prog X.w) X.A (pyIter v) (PIE X pins σ tg R) X.xe s1 := by
      intro a xs e hq hJ
      subst e
      cases r1
      obtain ⟨its, rv, pl, hz⟩ := I1.tuple hq
      refine wpAny_pyIter_tuple (show s1.heap.IsTuple a its.toArray from pl) ?_
      refine ⟨s1.heap.objs.size, [s1.heap.objs.size], _, _, H1, rfl, I1.kept (t' := s1.toks) fun b o e => Heap.get?_push_of_some _ e, turn_tuple a _, ⟨_, Heap.get?_push_size _ rfl, rfl, rfl⟩, fun b hb => ?_, fin _ hJ⟩
      have e : b = s1.heap.objs.size := by simpa using hb
      subst e
      exact I1.fpOk (Nat.le_refl _) (I1.hok.fresh (Nat.le_refl _))
    have viaList : ∀ {l : List D} {hd : List (Nat × List D)}, listD S1 d = some (l, hd) → wk = ⟨l, hd⟩ → wpAny (model X.prog X.w) X.A (pyIter v) (PIE X pins σ tg R) X.xe s1 := by
      intro l hd hl e
      subst e
      obtain ⟨a, e1, g⟩ := list_at (W := W) w1 rd hl
      obtain ⟨xs, h1, _⟩ := g Y μ1 H1 (.refl _ _) (.refl _ _) Bs S1 w1 (still_self hl)
      refine lists e1 (.of h1) (walk_lst fun Y' μ' H' u e Bs S' w' st => ?_)
      obtain ⟨xs, h2, r2⟩ := g Y' μ' H' u e Bs S' w' st
      exact ⟨xs, .of h2, r2⟩
    cases d with
    | tup ds =>
      simp only [walkD, Option.some.injEq] at hw
      subst hw
      cases rd with
      | tup h n rr => exact tups rfl (.of h) (walk_tup fun Y' μ' H' u e Bs S' w' st => ⟨_, .of (e.keep _ _ n.out h), rr.move e u⟩)
    | way ds =>
      simp only [walkD, Option.some.injEq] at hw
      subst hw
      cases rd with
      | way h ho n rr => exact tups rfl (.inl (.inr ⟨_, h⟩)) (walk_tup fun Y' μ' H' u e Bs S' w' st => ⟨_, .inl (.inr ⟨_, e.keep _ _ n.out h⟩), rr.move e u⟩)
    | scr ns =>
      simp only [walkD, Option.some.injEq] at hw
      subst hw
      cases rd with
      | scr h =>
        refine lists rfl (scr_sql hK (h.imp (fun ⟨o, h, _⟩ => ⟨o, h⟩) id)) (walk_lst fun Y' μ' H' u e Bs S' w' st => ⟨_, scr_sql (Y := Y') (by rw [u.ca]; exact hK) (h.imp (fun ⟨o, h, n⟩ => ⟨o, e.keep _ _ n.out h⟩) fun h => ?_), repIntsL ns⟩)
        rw [u.ca]; exact h
    | str l =>
      simp only [walkD, Option.some.injEq] at hw
      subst hw
      cases rd
      obtain ⟨t, rfl⟩ := r1
      have q := fin _ (walk_str (l := l))
      cases ha : (Str.mk l.toArray).cps.all (· < 128)
      · exact wpAny_pyIter_wide ha (pi_one (tk := s1.toks) I1 _ (turn_str _ _ t "str_iterator" (.inr rfl)) ⟨_, Heap.get?_push_size _ rfl, rfl, rfl⟩ q)
      · exact wpAny_pyIter_ascii ha (pi_one (tk := s1.toks) I1 _ (turn_str _ _ t "str_ascii_iterator" (.inl rfl)) ⟨_, Heap.get?_push_size _ rfl, rfl, rfl⟩ q)
    | lst ds =>
      simp only [walkD, listD, Option.map_some, Option.some.injEq] at hw
      exact viaList (l := ds) (hd := []) rfl hw.symm
    | ref i =>
      simp only [walkD, Option.map_eq_some_iff] at hw
      obtain ⟨⟨l, hd⟩, hl, rfl⟩ := hw
      exact viaList hl rfl
    | _ => simp [walkD, listD] at hw
theorem walk_rng {μ1 : List Addr} {H1 : Hp} {n : Nat} {f : Nat → Int} {J : L2.It} (h1 : ∀ i H', J.go i H' ↔ i < n) (h2 : ∀ i H' x H'', J.yld i H' x H'' → H'' = H' ∧ x = .int (f i)) (h3 : ∀ H', J.stop n H') : WalkOk Y μ1 H1 J ⟨(List.range n).map fun (k : Nat) => .int (f k), []⟩ := by
  intro Y' μ' H' u e Bs S' wo st
  refine ⟨fun j d hd => ?_, by simpa using h3 H'⟩
  rw [List.getElem?_map, Option.map_eq_some_iff] at hd
  obtain ⟨m, hm, rfl⟩ := hd
  obtain ⟨hlt, he⟩ := List.getElem?_eq_some_iff.mp hm
  simp at hlt he
  refine ⟨(h1 j H').mpr hlt, fun z H'' qz => ?_⟩
  obtain ⟨rfl, rfl⟩ := h2 _ _ _ _ qz
  subst he
  exact ⟨μ', .refl _ _, wo, .int _⟩
theorem i_range1 (G : Good Y c b Bs W M X) {n : Str} (hn : gnB M.sc "range" n = true) (hs : notStar x = true) (hl : ∀ ρ S ds S', mas ρ S = .ok ds S' → ds.length = 1) (ha : PA X [x] (tA Y Bs W mas)) :
    PI X tg (.Call (.Name n q) [x] [] p) (tW Y Bs W fun ρ S => (mas ρ S).bind fun ds S1 => R.of S1 ((ranges ds).map fun l => ⟨l, []⟩)) := by
  obtain ⟨rfl, h4, h5⟩ := gnB_of hn
  have base := pi_range1 (X := X) (tg := tg) (p := q) (pos := p) (G.gl h4) (G.bi "range" (by decide +kernel)) ha (starEach_of hs)
  refine ⟨fun pins s σ H R I ⟨μ, ρ, S, w, en, k⟩ => base.run pins s σ H R I ?_⟩
  refine tX.bind' w en k fun ds S1 μ1 H1 vs e w1 en1 x1 r1 k1 => ?_
  obtain ⟨wk, hw, k2⟩ := k1.of
  match ds, hl _ _ _ _ e, r1, hw with
  | [d], _, r1, hw =>
    obtain ⟨v, rfl, rv⟩ := rep1 r1
    cases rv with
    | int i =>
      simp only [ranges] at hw
      split at hw
      · rename_i hc
        simp only [Option.map_some, Option.some.injEq] at hw
        subst hw
        refine ⟨i, rfl, by omega, by omega, k2 μ1 H1 _ (.refl _ _) w1 ?_⟩
        exact walk_rng (f := fun k => (k : Int)) (fun _ _ => Iff.rfl) (fun j H' z H'' qz => ⟨qz.1, by rw [qz.2, Int.zero_add]⟩) (fun _ => Nat.le_refl _)
      · cases hw
    | _ => simp [ranges] at hw
theorem i_range2 (G : Good Y c b Bs W M X) {n : Str} (hn : gnB M.sc "range" n = true) (hs : notStar x = true) (hs2 : notStar y = true) (hl : ∀ ρ S ds S', mas ρ S = .ok ds S' → ds.length = 2) (ha : PA X [x, y] (tA Y Bs W mas)) :
    PI X tg (.Call (.Name n q) [x, y] [] p) (tW Y Bs W fun ρ S => (mas ρ S).bind fun ds S1 => R.of S1 ((ranges ds).map fun l => ⟨l, []⟩)) := by
  obtain ⟨rfl, h4, h5⟩ := gnB_of hn
  have base := pi_range2 (X := X) (tg := tg) (p := q) (pos := p) (G.gl h4) (G.bi "range" (by decide +kernel)) ha (by rw [starEach_of hs, starEach_of hs2]; rfl) (starEach_of hs2)
  refine ⟨fun pins s σ H R I ⟨μ, ρ, S, w, en, k⟩ => base.run pins s σ H R I ?_⟩
  refine tX.bind' w en k fun ds S1 μ1 H1 vs e w1 en1 x1 r1 k1 => ?_
  obtain ⟨wk, hw, k2⟩ := k1.of
  match ds, hl _ _ _ _ e, r1, hw with
  | [d, d'], _, r1, hw =>
    obtain ⟨v, v', rfl, rv, rv'⟩ := rep2 r1
    cases rv with
    | int i =>
      cases rv' with
      | int j =>
        simp only [ranges] at hw
        split at hw
        · rename_i hc
          simp only [Option.map_some, Option.some.injEq] at hw
          subst hw
          · refine ⟨i, j, rfl, ⟨by omega, by omega, by omega, by omega⟩, k2 μ1 H1 _ (.refl _ _) w1 ?_⟩
            exact walk_rng (f := fun k => i + (k : Int)) (fun _ _ => Iff.rfl) (fun m H' z H'' qz => qz) (fun _ => Nat.le_refl _)
        · cases hw
      | _ => simp [ranges] at hw
    | _ => cases rv' <;> simp [ranges] at hw
theorem i_range3 (G : Good Y c b Bs W M X) {n : Str} {z : Expr} (hn : gnB M.sc "range" n = true) (hs : notStar x = true) (hs2 : notStar y = true) (hs3 : notStar z = true) (hl : ∀ ρ S ds S', mas ρ S = .ok ds S' → ds.length = 3) (ha : PA X [x, y, z] (tA Y Bs W mas)) :
    PI X tg (.Call (.Name n q) [x, y, z] [] p) (tW Y Bs W fun ρ S => (mas ρ S).bind fun ds S1 => R.of S1 ((ranges ds).map fun l => ⟨l, []⟩)) := by
  obtain ⟨rfl, h4, h5⟩ := gnB_of hn
  have base := pi_range3 (X := X) (tg := tg) (p := q) (pos := p) (G.gl h4) (G.bi "range" (by decide +kernel)) ha (starEach_of hs) (starEach_ns (xs := [y, z]) (by simp [allNS, hs2, hs3])).1
  refine ⟨fun pins s σ H R I ⟨μ, ρ, S, w, en, k⟩ => base.run pins s σ H R I ?_⟩
  refine tX.bind' w en k fun ds S1 μ1 H1 vs e w1 en1 x1 r1 k1 => ?_
  obtain ⟨wk, hw, k2⟩ := k1.of
  match ds, hl _ _ _ _ e, r1, hw with
  | [d1, d2, d3], _, r1, hw =>
    cases r1 with
    | cons ri r2 =>
      cases r2 with
      | cons rj r3 =>
        cases r3 with
        | cons rl r4 =>
          cases r4
          have key : ∃ i j l, d1 = .int i ∧ d2 = .int j ∧ d3 = .int l := by
            clear k2 ri rj rl
            unfold ranges at hw
            split at hw
            · rename_i h; simp at h
            · rename_i h; simp at h
            · rename_i a' b' c' h
              simp only [List.cons.injEq, and_true] at h
              exact ⟨_, _, _, h.1, h.2.1, h.2.2⟩
            · cases hw
          obtain ⟨i, j, l, rfl, rfl, rfl⟩ := key
          cases ri
          cases rj
          cases rl
          simp only [ranges] at hw
          split at hw
          · rename_i hc
            obtain ⟨rfl, h1, h2, h3, h4⟩ := hc
            simp only [Option.map_some, Option.some.injEq] at hw
            subst hw
            refine ⟨i, j, -1, (i - j).toNat, rfl, RgC.neg (by omega) (by omega) (by omega) (by omega), k2 μ1 H1 _ (.refl _ _) w1 ?_⟩
            exact walk_rng (f := fun k => i - (k : Int)) (fun _ _ => Iff.rfl) (fun m H' z H'' qz => ⟨qz.1, by rw [qz.2]; congr 1; omega⟩) (fun _ => Nat.le_refl _)
          · cases hw
theorem enum_ok {μ1 : List Addr} {H1 : Hp} {a : Addr} {l : List D} {hd : List (Nat × List D)} {K : PySem.W.Frag} (g : ∀ (Y' : Sx) (μ' : List Addr) (H' : Hp), Up Y H1 Y' → Ext μ1 H1 μ' H' → ∀ (Bs : List Nat) (S' : Store), World Y' Bs μ' H' S' → (Walk.mk [] hd).still S' = true → ∃ xs, H' a = some (.lst xs) ∧ RepL Y' μ' H' xs l) :
    WalkOk Y μ1 H1 (Ite K a) ⟨numbered 0 l, hd⟩ := by
  intro Y' μ' H' u e Bs S' wo st
  obtain ⟨xs, h1, r⟩ := g Y' μ' H' u e Bs S' wo st
  refine ⟨fun i d hd => ?_, xs, .of h1, by rw [numbered_len, r.length]; exact Nat.le_refl _⟩
  obtain ⟨z, hz, rfl⟩ := numbered_get l 0 i d hd
  obtain ⟨v, hv, rv⟩ := r.get hz
  refine ⟨⟨xs, v, .of h1, hv⟩, fun y H'' qy => ?_⟩
  obtain ⟨T, v', rfl, nT, rfl, hall⟩ := qy
  have e2 := hall xs (.of h1)
  rw [hv] at e2
  cases e2
  refine ⟨μ', .laid nT, wo.laid nT, .tup upd_same (wo.fresh nT) (.cons ?_ (.cons (rv.ext (.laid nT)) .nil))⟩
  rw [Nat.zero_add]
  exact .int _
theorem zip_ok {μ1 : List Addr} {H1 : Hp} {a a' : Addr} {l l' : List D} {hd hd' : List (Nat × List D)} {K : PySem.W.Frag} (g : ∀ (Y' : Sx) (μ' : List Addr) (H' : Hp), Up Y H1 Y' → Ext μ1 H1 μ' H' → ∀ (Bs : List Nat) (S' : Store), World Y' Bs μ' H' S' → (Walk.mk [] hd).still S' = true → ∃ xs, H' a = some (.lst xs) ∧ RepL Y' μ' H' xs l)
    (g' : ∀ (Y' : Sx) (μ' : List Addr) (H' : Hp), Up Y H1 Y' → Ext μ1 H1 μ' H' → ∀ (Bs : List Nat) (S' : Store), World Y' Bs μ' H' S' → (Walk.mk [] hd').still S' = true → ∃ xs, H' a' = some (.lst xs) ∧ RepL Y' μ' H' xs l') :
    WalkOk Y μ1 H1 (Itz K a a') ⟨pairs l l', hd ++ hd'⟩ := by
  intro Y' μ' H' u e Bs S' wo st
  obtain ⟨st1, st2⟩ := still_app (l' := []) (l'' := []) st
  obtain ⟨xs, h1, r⟩ := g Y' μ' H' u e Bs S' wo st1
  obtain ⟨ys, h2, r'⟩ := g' Y' μ' H' u e Bs S' wo st2
  refine ⟨fun i d hd => ?_, xs, ys, .of h1, .of h2, ?_⟩
  · obtain ⟨z, z', hz, hz', rfl⟩ := pairs_get l l' i d hd
    obtain ⟨v, hv, rv⟩ := r.get hz
    obtain ⟨v', hv', rv'⟩ := r'.get hz'
    refine ⟨⟨xs, ys, v, v', .of h1, .of h2, hv, hv'⟩, fun y H'' qy => ?_⟩
    obtain ⟨T, u1, u2, rfl, nT, rfl, hall, hall'⟩ := qy
    have e2 := hall xs (.of h1)
    rw [hv] at e2
    cases e2
    have e3 := hall' ys (.of h2)
    rw [hv'] at e3
    cases e3
    exact ⟨μ', .laid nT, wo.laid nT, .tup upd_same (wo.fresh nT) (.cons (rv.ext (.laid nT)) (.cons (rv'.ext (.laid nT)) .nil))⟩
  · have h3 := r.length
    have h4 := r'.length
    simp only [pairs_len]
    omega
theorem i_enum (G : Good Y c b Bs W M X) {n : Str} (hn : gnB M.sc "enumerate" n = true) (ht : isTuple tg = true) (hs : notStar x = true) (ha : PE X x (tI Y Bs W ma)) :
    PI X tg (.Call (.Name n q) [x] [] p) (tW Y Bs W fun ρ S => (ma ρ S).bind fun d S1 => R.of S1 ((listD S1 d).map fun l => ⟨numbered 0 l.1, l.2⟩)) := by
  obtain ⟨rfl, h4, h5⟩ := gnB_of hn
  cases tg with
  | Tuple ts kk tp =>
    have base := pi_enum (X := X) (p := q) (pos := p) (elts := ts) (kk := kk) (tpos := tp) (G.gl h4) (G.bi "enumerate" (by decide +kernel)) (pa_cons ha pa_nil (starEach_of hs)) (starEach_of hs)
    refine ⟨fun pins s σ H R I ⟨μ, ρ, S, w, en, k⟩ => base.run pins s σ H R I ?_⟩
    refine tX.bind w en k fun d S1 μ1 H1 u w1 en1 x1 r1 k1 => ?_
    obtain ⟨wk, hw, k2⟩ := k1.of
    simp only [Option.map_eq_some_iff] at hw
    obtain ⟨⟨l, hd⟩, hl, rfl⟩ := hw
    obtain ⟨a, rfl, g⟩ := list_at (W := W) w1 r1 hl
    obtain ⟨xs, h1, _⟩ := g Y μ1 H1 (.refl _ _) (.refl _ _) Bs S1 w1 (still_self hl)
    exact ⟨a, xs, rfl, .of h1, k2 μ1 H1 _ (.refl _ _) w1 (enum_ok g)⟩
  | _ => cases ht
theorem i_zip (G : Good Y c b Bs W M X) {n : Str} (hn : gnB M.sc "zip" n = true) (ht : isTuple tg = true) (hs : notStar x = true) (hs2 : notStar y = true) (ha : PE X x (tI Y Bs W ma)) (hb : PE X y (tI Y Bs W mb)) :
    PI X tg (.Call (.Name n q) [x, y] [] p) (tW Y Bs W fun ρ S => (ma ρ S).bind fun d S1 => (mb ρ S1).bind fun e S2 => R.of S2 ((listD S2 d).bind fun l => (listD S2 e).map fun m => ⟨pairs l.1 m.1, l.2 ++ m.2⟩)) := by
  obtain ⟨rfl, h4, h5⟩ := gnB_of hn
  cases tg with
  | Tuple ts kk tp =>
    have base := pi_zip (X := X) (p := q) (pos := p) (elts := ts) (kk := kk) (tpos := tp) (G.gl h4) (G.bi "zip" (by decide +kernel)) (pa_cons ha (pa_cons hb pa_nil (starEach_of hs2)) (starEach_of hs)) (starEach_of hs) (starEach_ns (xs := [y]) (by simp [allNS, hs2])).1
    refine ⟨fun pins s σ H R I ⟨μ, ρ, S, w, en, k⟩ => base.run pins s σ H R I ?_⟩
    refine tX.bind w en k fun d S1 μ1 H1 u w1 en1 x1 r1 k1 => tX.bind w1 en1 k1 fun e S2 μ2 H2 v w2 en2 x2 r2 k2 => ?_
    obtain ⟨wk, hw, k3⟩ := k2.of
    simp only [Option.bind_eq_some_iff, Option.map_eq_some_iff] at hw
    obtain ⟨⟨l, hd⟩, hl, ⟨l', hd'⟩, hl', rfl⟩ := hw
    obtain ⟨a, rfl, g⟩ := list_at (W := W) w2 (r1.ext x2) hl
    obtain ⟨a', rfl, g'⟩ := list_at (W := W) w2 r2 hl'
    obtain ⟨xs, h1, _⟩ := g Y μ2 H2 (.refl _ _) (.refl _ _) Bs S2 w2 (still_self hl)
    obtain ⟨ys, h2, _⟩ := g' Y μ2 H2 (.refl _ _) (.refl _ _) Bs S2 w2 (still_self hl')
    exact ⟨a, a', xs, ys, rfl, .of h1, .of h2, k3 μ2 H2 _ (.refl _ _) w2 (zip_ok g g')⟩
  | _ => cases ht
end
end CL
namespace CL
open PySem PySem.Spec PyProof.Rows L2
theorem wipe_get {σ : L2.St} {j : Nat} : ∀ {vs : List Nat}, (wipe σ vs)[j]? = if j ∈ vs then (σ[j]?).map (fun _ => none) else σ[j]?
  | [] => by simp [wipe]
  | v :: vs => by
    unfold wipe
    rw [List.getElem?_set, wipe_length, wipe_get (vs := vs)]
    by_cases h : v = j
    · subst h
      simp only [if_true, List.mem_cons_self, ite_self]
      by_cases hl : v < σ.length
      · rw [if_pos hl, List.getElem?_eq_getElem hl]; rfl
      · rw [if_neg hl, List.getElem?_eq_none (by omega)]; rfl
    · rw [if_neg h]
      have : j ∈ v :: vs ↔ j ∈ vs := by
        rw [List.mem_cons]
        exact ⟨fun q => q.resolve_left (Ne.symm h), .inr⟩
      simp only [this]
theorem wipe_set {σ : L2.St} {i : Nat} {x : Option V} {vs : List Nat} (h : i ∈ vs) : wipe (σ.set i x) vs = wipe σ vs := by
  refine List.ext_getElem? fun j => ?_
  rw [wipe_get, wipe_get]
  by_cases hj : j ∈ vs
  · rw [if_pos hj, if_pos hj, List.getElem?_set]
    by_cases e : i = j
    · subst e
      by_cases hl : i < σ.length
      · rw [if_pos rfl, if_pos hl, List.getElem?_eq_getElem hl]; rfl
      · rw [if_pos rfl, if_neg hl, List.getElem?_eq_none (by omega)]
    · rw [if_neg e]
  · rw [if_neg hj, if_neg hj, List.getElem?_set_ne (fun e => hj (by rw [← e]; exact h))]
theorem EnvOk.wipe {Y : Sx} {μ : List Addr} {H : Hp} {σ : L2.St} {ρ : Env} (h : EnvOk Y μ H σ ρ) : ∀ vs : List Nat, EnvOk Y μ H (L2.wipe σ vs) (wipeE ρ vs)
  | [] => h
  | v :: vs => (EnvOk.wipe h vs).drop v
structure Locs (M : MC) (X : Cx) : Prop where
  hN : X.N = M.N
  nd : X.N.Nodup
  calm : X.calm = true
  loc : ∀ n, locB M.sc n = true → L2.Loc X.env.scope n ∧ (X.fn n = true ∨ X.env.scope.names.lookup n = some .local)
def gA (tg : Tg) : TG := fun v σ H Q => ∃ (Y : Sx) (μ : List Addr) (Bs : List Nat) (S : Store) (ρ : Env) (d : D) (ρ' : Env), World Y Bs μ H S ∧ EnvOk Y μ H σ ρ ∧ Rep Y μ H v d ∧ asg tg d ρ = some ρ' ∧
  ∀ σ', EnvOk Y μ H σ' ρ' → wipe σ' tg.slots = wipe σ tg.slots → Q σ' H
def gNames : List Nat → TGs
  | [] => gNil
  | i :: is => gCons (gName i) (gNames is)
section
variable {X : Cx} {M : MC}
theorem pgs_names (L : Locs M X) : ∀ {is : List Nat} {xs : List Expr}, namesMt M is xs = true → PGs X xs (gNames is) ∧ (assignEach xs X.env).length = is.length ∧ (assignEach xs X.env).findIdx? (·.1) = none
  | [], [], _ => ⟨pgs_nil, rfl, rfl⟩
  | [], _ :: _, h => by simp [namesMt] at h
  | _ :: _, [], h => by simp [namesMt] at h
  | i :: is, x :: xs, h => by
    cases x with
    | Name n p =>
      simp only [namesMt, Bool.and_eq_true, decide_eq_true_eq] at h
      obtain ⟨a1, a2, a3⟩ := pgs_names L h.2.2
      obtain ⟨l1, l2⟩ := L.loc n h.2.1
      refine ⟨pgs_cons (pg_name L.nd (by rw [L.hN]; exact h.1) l1 l2) a1 rfl, by show _ + 1 = _ + 1; rw [a2], ?_⟩
      show List.findIdx? _ ((false, _) :: assignEach xs X.env) = none
      rw [List.findIdx?_cons]
      simp [a3]
    | _ => simp [namesMt] at h
theorem names_read {Y : Sx} {μ : List Addr} {H : Hp} {V' : List Nat} : ∀ {is : List Nat} {xs : List V} {ds : List D} {σ : L2.St} {ρ : Env} {Q : L2.St → Hp → Prop}, (∀ i ∈ is, i ∈ V') → RepL Y μ H xs ds → xs.length = is.length → EnvOk Y μ H σ ρ →
    (∀ σ', EnvOk Y μ H σ' ((is.zip ds).foldl (fun ρ p => ρ.set p.1 (some p.2)) ρ) → wipe σ' V' = wipe σ V' → Q σ' H) → gNames is xs σ H Q
  | [], [], _, σ, ρ, Q, _, r, _, en, k => by
    cases r
    exact ⟨rfl, k σ en rfl⟩
  | [], _ :: _, _, _, _, _, _, _, h, _, _ => by simp at h
  | _ :: _, [], _, _, _, _, _, _, h, _, _ => by simp at h
  | i :: is, x :: xs, _, σ, ρ, Q, hv, r, h, en, k => by
    cases r with
    | cons r1 r2 =>
      refine ⟨x, xs, rfl, ?_⟩
      refine names_read (fun j hj => hv j (List.mem_cons_of_mem _ hj)) r2 (by simpa using h) (en.set r1 i) fun σ' e q => ?_
      exact k σ' e (q.trans (wipe_set (hv i List.mem_cons_self)))
theorem g_tg (L : Locs M X) {tg : Tg} {t : Expr} (h : tg.mt M t = true) : PG X t (gA tg) := by
  cases tg with
  | one i =>
    unfold Tg.mt at h
    cases t with
    | Name n p =>
      simp only [Bool.and_eq_true, decide_eq_true_eq] at h
      obtain ⟨l1, l2⟩ := L.loc n h.2
      refine ⟨fun pins s σ H v u Q I r ⟨Y, μ, Bs, S, ρ, d, ρ', w, en, rd, ha, k⟩ => ?_⟩
      refine (pg_name (pos := p) L.nd (by rw [L.hN]; exact h.1) l1 l2).run pins s σ H v u Q I r ?_
      simp only [asg, Option.some.injEq] at ha
      subst ha
      exact k _ (en.set rd i) (wipe_set (by simp [Tg.slots]))
    | _ => simp at h
  | many is =>
    unfold Tg.mt at h
    cases t with
    | Tuple xs kk p =>
      simp only at h
      obtain ⟨a1, a2, a3⟩ := pgs_names L h
      refine ⟨fun pins s σ H v u Q I r ⟨Y, μ, Bs, S, ρ, d, ρ', w, en, rd, ha, k⟩ => ?_⟩
      refine (pg_tup (pos := p) (k := kk) L.calm a1 a2 a3).run pins s σ H v u Q I r ?_
      simp only [asg] at ha
      cases rd with
      | tup hx n rr =>
        simp only at ha
        split at ha
        · rename_i hl
          simp only [Option.some.injEq] at ha
          subst ha
          exact ⟨_, _, rfl, .of hx, by rw [rr.length, hl], names_read (V' := is) (fun i hi => hi) rr (by rw [rr.length, hl]) en k⟩
        · cases ha
      | _ => cases ha
    | _ => simp at h
end
def KT (Y : Sx) (Bs : List Nat) (μ : List Addr) (H : Hp) (K : Option V → Hp → Prop) : R (Option D) → Prop
  | .ok none S' => ∀ μ' H', Ext μ H μ' H' → World Y Bs μ' H' S' → K none H'
  | .ok (some e) S' => ∀ μ' H' v, Ext μ H μ' H' → World Y Bs μ' H' S' → Rep Y μ' H' v e → K (some v) H'
  | _ => False
def Step (ca : CA) (Bs : List Nat) (f : D → Env → Store → R (Option D)) (g : TG) (tt : TT) (te : TE) (vs : List Nat) (σ : L2.St) (ρ : Env) : Prop :=
  ∀ (Y : Sx) (μ : List Addr) (H : Hp) (S : Store) (x : V) (d : D) (K : Option V → Hp → Prop), Y.ca = ca → World Y Bs μ H S → EnvOk Y μ H (wipe σ vs) ρ → Rep Y μ H x d → KT Y Bs μ H K (f d ρ S) →
    g x (wipe σ vs) H fun σ2 H2 => wipe σ2 vs = wipe σ vs ∧ tt σ2 H2 fun b H3 => if b = true then te σ2 H3 fun y H4 => K (some y) H4 else K none H3
theorem lc_read {Y : Sx} {Bs : List Nat} {μ1 : List Addr} {H1 : Hp} {S1 S2 : Store} {σ : L2.St} {ρ : Env} {vs : List Nat} {J : L2.It} {wk : Walk} {f : D → Env → Store → R (Option D)} {g : TG} {tt : TT} {te : TE} {ds : List D} {Q : VK} {Dd : Addr}
    (w1 : World Y Bs μ1 H1 S1) (en : EnvOk Y μ1 H1 (wipe σ vs) ρ) (hJ : WalkOk Y μ1 H1 J wk) (hlim : wk.items.length ≤ LIM) (hf : lcL f wk ρ wk.items S1 = .ok ds S2) (st : Step Y.ca Bs f g tt te vs σ ρ) (hD : H1 Dd = none)
    (fin : ∀ μ' H' acc, World (Y.hide Dd) Bs μ' H' S2 → H' Dd = some (.lst acc) → RepL (Y.hide Dd) μ' H' acc ds → Ext μ1 H1 μ' H' → Q (.ref Dd) H') :
    ∃ W : Nat → Nat → Hp → Prop, (∃ m, W 0 m (upd H1 Dd (.lst []))) ∧ ∀ i m H, W i m H →
      (J.stop i H ∧ Q (.ref Dd) H) ∨ (J.go i H ∧ ∃ Nx : Hp → Prop, (∀ H', Nx H' → ∃ m', m' < m ∧ W (i + 1) m' H') ∧ ∀ x H', J.yld i H x H' → g x (wipe σ vs) H' fun σ2 H2 => wipe σ2 vs = wipe σ vs ∧ tt σ2 H2 fun b H3 =>
        if b = true then te σ2 H3 fun y H4 => ∃ acc, H4 Dd = some (.lst acc) ∧ acc.length < sizeLine ∧ Nx (upd H4 Dd (.lst (acc ++ [y]))) else Nx H3) := by
  have up : Up Y H1 (Y.hide Dd) := .hide hD
  refine ⟨fun i m H => ∃ (μ : List Addr) (S : Store) (acc : List V) (done rest : List D), m = wk.items.length - i ∧ World (Y.hide Dd) Bs μ H S ∧ EnvOk (Y.hide Dd) μ H (wipe σ vs) ρ ∧ Ext μ1 H1 μ H ∧ H Dd = some (.lst acc) ∧ RepL (Y.hide Dd) μ H acc done ∧
    done.length ≤ i ∧ i ≤ wk.items.length ∧ lcL f wk ρ (wk.items.drop i) S = .ok rest S2 ∧ ds = done ++ rest, ?_, ?_⟩
  · exact ⟨_, μ1, S1, [], [], ds, rfl, w1.hide hD, en.move (.laid hD) up, .laid hD, upd_same, .nil, Nat.zero_le _, Nat.zero_le _, by rw [List.drop_zero]; exact hf, rfl⟩
  · rintro i m H ⟨μ, S, acc, done, rest, rfl, w, en', x, hH, r, hdl, hi, hl, hds⟩
    cases hd : wk.items.drop i with
    | nil =>
      rw [hd] at hl
      simp only [lcL] at hl
      split at hl
      · rename_i hst
        simp only [R.ok.injEq] at hl
        obtain ⟨rfl, rfl⟩ := hl
        have hii : i = wk.items.length := by
          have := List.drop_eq_nil_iff.mp hd
          omega
        refine .inl ⟨?_, fin μ H acc w hH (by rw [hds, List.append_nil]; exact r) x⟩
        rw [hii]
        exact (hJ _ μ H up x Bs S w hst).2
      · cases hl
    | cons d l =>
      rw [hd] at hl
      simp only [lcL] at hl
      split at hl
      · rename_i hst
        have hlt : i < wk.items.length := by
          have : (wk.items.drop i).length = l.length + 1 := by rw [hd]; rfl
          rw [List.length_drop] at this
          omega
        have hget : wk.items[i]? = some d := by
          have : (wk.items.drop i)[0]? = some d := by rw [hd]; rfl
          rw [List.getElem?_drop] at this
          simpa using this
        have hdrop : wk.items.drop (i + 1) = l := by
          have : (wk.items.drop i).drop 1 = l := by rw [hd]; rfl
          rw [List.drop_drop] at this
          exact this
        obtain ⟨hgo, hy⟩ := (hJ _ μ H up x Bs S w hst).1 i d hget
        refine .inr ⟨hgo, fun H' => ∃ (μ : List Addr) (S : Store) (acc : List V) (done rest : List D), World (Y.hide Dd) Bs μ H' S ∧ EnvOk (Y.hide Dd) μ H' (wipe σ vs) ρ ∧ Ext μ1 H1 μ H' ∧ H' Dd = some (.lst acc) ∧ RepL (Y.hide Dd) μ H' acc done ∧
          done.length ≤ i + 1 ∧ lcL f wk ρ l S = .ok rest S2 ∧ ds = done ++ rest, ?_, ?_⟩
        · rintro H' ⟨μ, S, acc, done, rest, a1, a2, a3, a4, a5, a6, a7, a8⟩
          exact ⟨_, by omega, μ, S, acc, done, rest, rfl, a1, a2, a3, a4, a5, a6, hlt, by rw [hdrop]; exact a7, a8⟩
        · intro y H'' yl
          obtain ⟨μ2, x2, w2, ry⟩ := hy y H'' yl
          have hid : (Y.hide Dd).hid Dd := .inr rfl
          have nD : ∀ {μ' : List Addr} {H' : Hp} {S' : Store}, World (Y.hide Dd) Bs μ' H' S' → Dd ∉ μ' := fun w' m => w'.hidC _ m hid
          have hH2 := x2.keep _ _ (nD w) hH
          refine st (Y.hide Dd) μ2 H'' S y d (fun o H4 => match o with
            | some y => ∃ acc, H4 Dd = some (.lst acc) ∧ acc.length < sizeLine ∧ ∃ (μ : List Addr) (S : Store) (acc' : List V) (done rest : List D), World (Y.hide Dd) Bs μ (upd H4 Dd (.lst (acc ++ [y]))) S ∧ EnvOk (Y.hide Dd) μ (upd H4 Dd (.lst (acc ++ [y]))) (wipe σ vs) ρ ∧ Ext μ1 H1 μ (upd H4 Dd (.lst (acc ++ [y]))) ∧ (upd H4 Dd (.lst (acc ++ [y]))) Dd = some (.lst acc') ∧ RepL (Y.hide Dd) μ (upd H4 Dd (.lst (acc ++ [y]))) acc' done ∧
                done.length ≤ i + 1 ∧ lcL f wk ρ l S = .ok rest S2 ∧ ds = done ++ rest
            | none => ∃ (μ : List Addr) (S : Store) (acc : List V) (done rest : List D), World (Y.hide Dd) Bs μ H4 S ∧ EnvOk (Y.hide Dd) μ H4 (wipe σ vs) ρ ∧ Ext μ1 H1 μ H4 ∧ H4 Dd = some (.lst acc) ∧ RepL (Y.hide Dd) μ H4 acc done ∧
                done.length ≤ i + 1 ∧ lcL f wk ρ l S = .ok rest S2 ∧ ds = done ++ rest) rfl w2 (en'.ext x2) ry ?_
          revert hl
          cases hfd : f d ρ S with
          | ok o S' =>
            cases o with
            | none =>
              intro hl μ3 H3 x3 w3
              exact ⟨μ3, S', acc, done, rest, w3, (en'.ext x2).ext x3, (x.trans x2).trans x3, x3.keep _ _ (nD w2) hH2, (r.ext x2).ext x3, by omega, hl, hds⟩
            | some e =>
              intro hl μ3 H3 v x3 w3 rv
              simp only at hl
              cases hr : lcL f wk ρ l S' with
              | ok rest' S'' =>
                rw [hr] at hl
                simp only [R.ok.injEq] at hl
                obtain ⟨rfl, rfl⟩ := hl
                have hH3 := x3.keep _ _ (nD w2) hH2
                have r3 := (r.ext x2).ext x3
                refine ⟨acc, hH3, ?_, μ3, S', acc ++ [v], done ++ [e], rest', w3.hid hid, ((en'.ext x2).ext x3).hid hid, ?_, upd_same, (r3.append (.cons rv .nil)).hid hid, by simp; omega, hr, by rw [hds]; simp⟩
                · rw [r3.length, sizeLine_eq]; unfold LIM at hlim; omega
                · have xx := (x.trans x2).trans x3
                  exact ⟨xx.pre, fun a o n h => by rw [upd_ne (ne_of_none h hD)]; exact xx.keep a o n h, xx.new⟩
              | err _ _ _ _ => rw [hr] at hl; cases hl
              | bad => rw [hr] at hl; cases hl
          | err _ _ _ _ => intro hl; cases hl
          | bad => intro hl; cases hl
      · cases hl
theorem Good.hidden {Y Y' : Sx} {c : Ctx} {b : Nat} {Bs : List Nat} {W : WX} {M : MC} {X : Cx} (G : Good Y c b Bs W M X) (h : Y'.ca = Y.ca) : Good Y' c b Bs W M X where
  hN := G.hN
  hK := by rw [h]; exact G.hK
  nd := G.nd
  hsc := G.hsc
  calm := G.calm
  hu := G.hu
  hb := G.hb
  tk := G.tk
  bi := G.bi
  con := G.con
  cls := by rw [h]; exact G.cls
  bcl := G.bcl
  isaN := by rw [h]; exact G.isaN
  isaI := by unfold clsVal; rw [h]; exact G.isaI
  call := by rw [h]; exact G.call
abbrev noW : WX := fun _ _ _ _ => False
theorem Good.blk {Y : Sx} {c : Ctx} {b : Nat} {Bs : List Nat} {W : WX} {M : MC} {X : Cx} (G : Good Y c b Bs W M X) (s : Shared) (H : Hp) (scope : Scope) (C : Addr) (cl : List (Str × Addr)) (fp : List Addr) :
    Good Y c b Bs noW (M.at (relS scope M.sc)) (X.blk s H scope (compEnvC scope cl C X.env) fp) where
  hN := G.hN
  hK := G.hK
  nd := G.nd
  hsc := by
    show relS scope X.env.scope = relS scope M.sc
    rw [G.hsc]
  calm := G.calm
  hu := G.hu
  hb := G.hb
  tk := by
    rintro u s' ⟨_, _, _, _, _, _, _, _, _, _, _, _, _, _, _, _, h⟩
    exact h
  bi := G.bi
  con := G.con
  cls := G.cls
  bcl := G.bcl
  isaN := G.isaN
  isaI := G.isaI
  call := fun f hf => by
    obtain ⟨k, a, fd, ps, h⟩ := (G.call f hf).get
    exact ⟨k, a, fd, ps, h⟩
section
variable {Y : Sx} {μ : List Addr} {H : Hp} {Bs : List Nat} {S : Store} {p : Addr}
theorem CellOk.show {q : List Addr} (hq : ∀ a ∈ q, a = p) {a : Addr} {ce : Cell} (h : CellOk (Y.hide p) μ H a ce) : CellOk Y (μ ++ q) H a ce := by
  cases h with
  | lst h r => exact .lst h (r.show hq)
  | dicK h r => exact .dicK h (r.show hq)
  | dicT h r => exact .dicT h (r.show hq)
  | ins h hn r => exact .ins h hn (r.show hq)
theorem World.bare (w : World (Y.hide p) Bs μ H S) : World Y Bs μ H S where
  len := w.len
  nd := w.nd
  cells := fun i a ce h1 h2 => by
    have := (w.cells i a ce h1 h2).show (q := []) (by simp)
    rwa [List.append_nil] at this
  lims := w.lims
  bs := w.bs
  hidT := fun a z => w.hidT a (.inl z)
  hidC := fun a ha z => w.hidC a ha (.inl z)
theorem World.adopt {ce : Cell} (w : World (Y.hide p) Bs μ H S) (hv : ¬ Y.hid p) (new : CellOk Y (μ ++ [p]) H p ce) : World Y Bs (μ ++ [p]) H (S ++ [ce]) where
  len := by simp [w.len]
  nd := by
    rw [List.nodup_append]
    refine ⟨w.nd, by simp, fun a ha b hb' => ?_⟩
    have : b = p := by simpa using hb'
    rintro rfl
    exact w.hidC _ ha (.inr this)
  cells := fun i a d h1 h2 => by
    by_cases hi : i < S.length
    · rw [List.getElem?_append_left hi] at h2
      rw [List.getElem?_append_left (by rw [w.len]; exact hi)] at h1
      exact (w.cells i a d h1 h2).show (by simp)
    · have hl := (List.getElem?_eq_some_iff.mp h2).1
      have e1 : i = S.length := by simp at hl; omega
      subst e1
      rw [List.getElem?_append_right (Nat.le_refl _)] at h2
      rw [List.getElem?_append_right (by rw [w.len]; exact Nat.le_refl _)] at h1
      simp [w.len] at h1 h2
      subst h1; subst h2
      exact new
  lims := fun i d h b hb' hlt => by
    have := w.bs b hb'
    rw [List.getElem?_append_left (by omega)] at h
    exact w.lims i d h b hb' hlt
  bs := fun b h => by have := w.bs b h; simp; omega
  hidT := fun a z => w.hidT a (.inl z)
  hidC := fun a ha z => by
    rcases List.mem_append.mp ha with q | q
    · exact w.hidC a q (.inl z)
    · have : a = p := by simpa using q
      subst this
      exact hv z
end
def lcF (tg : Tg) (me : Env → Store → R D) : D → Env → Store → R (Option D) := fun d ρ S => match asg tg d ρ with | some ρ' => (me ρ' S).bind fun x S' => .ok (some x) S' | none => .bad
def lcFI (tg : Tg) (mq me : Env → Store → R D) : D → Env → Store → R (Option D) := fun d ρ S => match asg tg d ρ with
        | some ρ' => (mq ρ' S).bind fun k S' => match truD (vw S' k) with
          | some true => (me ρ' S').bind fun x S' => .ok (some x) S'
          | some false => .ok none S'
          | none => .bad
        | none => .bad
theorem wipe_wipe {σ : L2.St} {vs : List Nat} : wipe (wipe σ vs) vs = wipe σ vs := by
  refine List.ext_getElem? fun j => ?_
  rw [wipe_get, wipe_get]
  by_cases hj : j ∈ vs
  · rw [if_pos hj, if_pos hj]; cases σ[j]? <;> rfl
  · rw [if_neg hj, if_neg hj]
def teX (ca : CA) (Bs : List Nat) (me : Env → Store → R D) : TE := fun σ H Q => ∃ Y : Sx, Y.ca = ca ∧ tI Y Bs noW me σ H Q
def ttX (ca : CA) (Bs : List Nat) (mq : Env → Store → R D) : TT := fun σ H Q => ∃ Y : Sx, Y.ca = ca ∧ tT Y Bs noW (truM mq) σ H Q
theorem step_F {ca : CA} {Bs : List Nat} {tg : Tg} {me : Env → Store → R D} {σ : L2.St} {ρ : Env} : Step ca Bs (lcF tg me) (gA tg) tYes (teX ca Bs me) tg.slots σ ρ := by
  intro Y μ H S x d K hca w en rd k
  unfold lcF at k
  cases ha : asg tg d ρ with
  | none => rw [ha] at k; exact k.elim
  | some ρ' =>
    rw [ha] at k
    refine ⟨Y, μ, Bs, S, _, d, ρ', w, en, rd, ha, fun σ' en' hw => ⟨hw.trans wipe_wipe, ?_⟩⟩
    show teX ca Bs me σ' H fun y H4 => K (some y) H4
    refine ⟨Y, hca, μ, ρ', S, w, en', ?_⟩
    revert k
    dsimp only
    cases me ρ' S with
    | ok y S' => intro k; exact fun μ' H' v x w r => k μ' H' v x w r
    | err _ _ _ _ => intro k; exact k.elim
    | bad => intro k; exact k.elim
theorem step_FI {ca : CA} {Bs : List Nat} {tg : Tg} {mq me : Env → Store → R D} {σ : L2.St} {ρ : Env} : Step ca Bs (lcFI tg mq me) (gA tg) (ttX ca Bs mq) (teX ca Bs me) tg.slots σ ρ := by
  intro Y μ H S x d K hca w en rd k
  unfold lcFI at k
  cases ha : asg tg d ρ with
  | none => rw [ha] at k; exact k.elim
  | some ρ' =>
    rw [ha] at k
    refine ⟨Y, μ, Bs, S, _, d, ρ', w, en, rd, ha, fun σ' en' hw => ⟨hw.trans wipe_wipe, Y, hca, μ, ρ', S, w, en', ?_⟩⟩
    revert k
    dsimp only
    unfold truM
    cases mq ρ' S with
    | ok y S' =>
      simp only [R.bind]
      cases ht : truD (vw S' y) with
      | none => intro k; exact k.elim
      | some t =>
        cases t with
        | false =>
          intro k μ' H' b x' w' e
          subst e
          rw [if_neg (by simp)]
          exact k μ' H' x' w'
        | true =>
          intro k μ' H' b x' w' e
          subst e
          rw [if_pos rfl]
          refine ⟨Y, hca, μ', ρ', S', w', en'.ext x', ?_⟩
          revert k
          cases me ρ' S' with
          | ok z S'' => intro k; exact fun μ2 H2 v x2 w2 r => k μ2 H2 v (x'.trans x2) w2 r
          | err _ _ _ _ => intro k; exact k.elim
          | bad => intro k; exact k.elim
    | err _ _ _ _ => intro k; exact k.elim
    | bad => intro k; exact k.elim
def lcM (f : D → Env → Store → R (Option D)) (vs : List Nat) (mi : Env → Store → R Walk) : Env → Store → R D := fun ρ S => (mi ρ S).bind fun w S1 => (lcR f w (wipeE ρ vs) S1).bind fun ds S2 => .ok (.lst ds) S2
def lcMN (f : D → Env → Store → R (Option D)) (vs : List Nat) (mi : Env → Store → R Walk) : Env → Store → R D := fun ρ S => (mi ρ S).bind fun w S1 => (lcR f w (wipeE ρ vs) S1).bind fun ds S2 => .ok (.ref S2.length) (S2 ++ [.lst ds])
section
variable {X : Cx} {Y : Sx} {Bs : List Nat} {W : WX} {b : Nat} {M : MC} {c : Ctx} {f : D → Env → Store → R (Option D)} {g : TG} {tt : TT} {te : TE} {vs : List Nat} {mi : Env → Store → R Walk} {σ : L2.St} {H : Hp} {Q : VK}
theorem lcR_ok {w : Walk} {ρ : Env} {S S' : Store} {ds : List D} (h : lcR f w ρ S = .ok ds S') : w.items.length ≤ LIM ∧ lcL f w ρ w.items S = .ok ds S' := by
  unfold lcR at h
  split at h
  · exact ⟨‹_›, h⟩
  · cases h
theorem lcL_noErr {w : Walk} {ρ : Env} : ∀ {l : List D} {S : Store} {C ns ds S'}, lcL f w ρ l S ≠ .err C ns ds S'
  | [], S, C, ns, ds, S', h => by
    simp only [lcL] at h
    split at h <;> cases h
  | d :: l, S, C, ns, ds, S', h => by
    simp only [lcL] at h
    split at h
    · split at h
      · exact lcL_noErr h
      · split at h <;> cases h
      · cases h
    · cases h
theorem lcR_noErr {w : Walk} {ρ : Env} {S : Store} {C ns ds S'} : lcR f w ρ S ≠ .err C ns ds S' := by
  unfold lcR
  split
  · exact lcL_noErr
  · intro h; cases h
theorem lc_tLc (st : ∀ σ ρ, Step Y.ca Bs f g tt te vs σ ρ) (h : tI Y Bs W (lcM f vs mi) σ H Q) : tLc (tW Y Bs W mi) g tt te vs σ H Q := by
  obtain ⟨μ, ρ, S, w, en, k⟩ := h
  refine tX.bind w en k fun wk S1 μ1 H1 J w1 en1 x1 hJ k1 => ?_
  intro Dd hD
  cases hr : lcR f wk (wipeE ρ vs) S1 with
  | ok ds S2 =>
    rw [hr] at k1
    obtain ⟨hlim, hf⟩ := lcR_ok hr
    refine lc_read w1 (en1.wipe vs) hJ hlim hf (st _ _) hD fun μ' H' acc w' hH r x => ?_
    refine k1 μ' H' _ x w'.bare (.lst hH ⟨fun m => w'.hidC _ m (.inr rfl), (w1.fresh hD).vis⟩ ?_)
    have := r.show (q := []) (by simp)
    rwa [List.append_nil] at this
  | err _ _ _ _ => exact absurd hr lcR_noErr
  | bad => rw [hr] at k1; exact k1.elim
theorem lc_tLcN (st : ∀ σ ρ, Step Y.ca Bs f g tt te vs σ ρ) (h : tI Y Bs W (lcMN f vs mi) σ H Q) : tLc (tW Y Bs W mi) g tt te vs σ H Q := by
  obtain ⟨μ, ρ, S, w, en, k⟩ := h
  refine tX.bind w en k fun wk S1 μ1 H1 J w1 en1 x1 hJ k1 => ?_
  intro Dd hD
  cases hr : lcR f wk (wipeE ρ vs) S1 with
  | ok ds S2 =>
    rw [hr] at k1
    obtain ⟨hlim, hf⟩ := lcR_ok hr
    refine lc_read w1 (en1.wipe vs) hJ hlim hf (st _ _) hD fun μ' H' acc w' hH r x => ?_
    have w2 := w'.adopt (ce := .lst ds) (w1.fresh hD).vis (.lst hH (r.show (by simp)))
    refine k1 (μ' ++ [Dd]) H' _ ⟨?_, x.keep, fun a ha n => ?_⟩ w2 (.ref ?_)
    · obtain ⟨r', e⟩ := x.pre
      exact ⟨r' ++ [Dd], by rw [e, List.append_assoc]⟩
    · rcases List.mem_append.mp ha with q | q
      · exact x.new a q n
      · have : a = Dd := by simpa using q
        rw [this]; exact hD
    · rw [← w'.len, List.getElem?_append_right (Nat.le_refl _)]
      simp
  | err _ _ _ _ => exact absurd hr lcR_noErr
  | bad => rw [hr] at k1; exact k1.elim
theorem ownOf_snd (M : MC) (tg : Tg) : (ownOf M tg).map (·.2) = tg.slots := by
  unfold ownOf
  rw [List.map_map]
  exact List.map_id _
theorem locs_blk (G : Good Y c b Bs W M X) {scope : Scope} (s : Shared) (H : Hp) (C : Addr) (cl : List (Str × Addr)) (fp : List Addr) : Locs (M.at scope) (X.blk s H scope (compEnvC scope cl C X.env) fp) where
  hN := G.hN
  nd := G.nd
  calm := G.calm
  loc := fun n h => by
    have h' := locB_ok h
    show ((relS scope X.env.scope).names.lookup n = _ ∨ (relS scope X.env.scope).names.lookup n = _) ∧ ((scope.names.lookup n == some .cell) = true ∨ (relS scope X.env.scope).names.lookup n = _)
    rcases h' with e | e
    · have := lookup_relS_keep (sc := X.env.scope) (k := .local) (by decide) e
      exact ⟨.inl this, .inr this⟩
    · have := lookup_relS_keep (sc := X.env.scope) (k := .cell) (by decide) e
      exact ⟨.inr this, .inl (by rw [e]; rfl)⟩
theorem blk_ok (G : Good Y c b Bs W M X) {tg : Tg} {scope : Scope} (h : compB M tg scope = true) : BlkOk X.N X.env.scope scope (ownOf M tg) := by
  unfold compB at h
  rw [G.hN, G.hsc]
  exact blkOk_by h
end
end CL
namespace CL
open PySem PySem.Spec PyProof.Rows L2
section
variable {X : Cx} {Y : Sx} {Bs : List Nat} {W : WX} {b : Nat} {M : MC} {c : Ctx} {y t i z : Expr} {scope : Scope} {p : Pos} {tg : Tg} {me mq : Env → Store → R D} {mi : Env → Store → R Walk}
theorem te_ok {X' : Cx} (h : ∀ Y' : Sx, Y'.ca = Y.ca → PE X' y (tI Y' Bs noW me)) : PE X' y (teX Y.ca Bs me) :=
  ⟨fun pins s σ H Q I ⟨Y', hca, k⟩ => (h Y' hca).run pins s σ H Q I k⟩
theorem tt_ok {X' : Cx} (h : ∀ Y' : Sx, Y'.ca = Y.ca → PT X' y (tT Y' Bs noW (truM me))) : PT X' y (ttX Y.ca Bs me) :=
  ⟨fun pins s σ H Q I ⟨Y', hca, k⟩ => (h Y' hca).run pins s σ H Q I k⟩
variable (G : Good Y c b Bs W M X) (hc : compB M tg scope = true) (ht : tg.mt (M.at scope) t = true) (hs : notSet i = true) (hi : PI X t i (tW Y Bs W mi))
include G hc ht hs hi
theorem s_lcT (he : ∀ (X' : Cx) (Y' : Sx), Good Y' c b Bs noW (M.at (relS scope M.sc)) X' → PE X' y (tI Y' Bs noW me)) :
    PE X (.ListComp y [⟨t, i, [], 0⟩] scope p) (tLc (tW Y Bs W mi) (gA tg) tYes (teX Y.ca Bs me) tg.slots) := by
  have := pe_lc (pos := p) G.calm G.nd hi (blk_ok G hc) (fun s H C cl fp => g_tg (locs_blk G s H C cl fp) ht) (fun s H C cl fp => pts_nil) (fun s H C cl fp => te_ok (Y := Y) (me := me) fun Y' hca => he _ Y' ((G.hidden hca).blk s H scope C cl fp)) (folded_of hs)
  rwa [ownOf_snd] at this
theorem s_lcTI (hq : ∀ (X' : Cx) (Y' : Sx), Good Y' c b Bs noW (M.at (relS scope M.sc)) X' → PT X' z (tT Y' Bs noW (truM mq))) (he : ∀ (X' : Cx) (Y' : Sx), Good Y' c b Bs noW (M.at (relS scope M.sc)) X' → PE X' y (tI Y' Bs noW me)) :
    PE X (.ListComp y [⟨t, i, [z], 0⟩] scope p) (tLc (tW Y Bs W mi) (gA tg) (ttX Y.ca Bs mq) (teX Y.ca Bs me) tg.slots) := by
  have := pe_lc (pos := p) G.calm G.nd hi (blk_ok G hc) (fun s H C cl fp => g_tg (locs_blk G s H C cl fp) ht) (fun s H C cl fp => pts_one (tt_ok (Y := Y) (me := mq) fun Y' hca => hq _ Y' ((G.hidden hca).blk s H scope C cl fp))) (fun s H C cl fp => te_ok (Y := Y) (me := me) fun Y' hca => he _ Y' ((G.hidden hca).blk s H scope C cl fp)) (folded_of hs)
  rwa [ownOf_snd] at this
end
theorem mt_len {M : MC} : ∀ (es : Es) (xs : List Expr), es.mt M xs = true → es.len = xs.length
  | .nil, xs, h => by
    unfold Es.mt at h
    rw [List.isEmpty_iff] at h
    subst h; rfl
  | .cons e es, [], h => by simp [Es.mt] at h
  | .cons e es, x :: xs, h => by
    simp only [Es.mt, Bool.and_eq_true] at h
    simp [Es.len, mt_len es xs h.2.2]
structure EsOk (Y : Sx) (c : Ctx) (b : Nat) (Bs : List Nat) (W : WX) (X : Cx) (es : Es) (xs : List Expr) : Prop where
  args : PA X xs (tA Y Bs W fun ρ S => evs c b es ρ S)
  ns : allNS xs = true
  and : ∀ p, PE X (.BoolOp .And xs p) (tI Y Bs W fun ρ S => evAnd c b es ρ S)
  or : ∀ p, PE X (.BoolOp .Or xs p) (tI Y Bs W fun ρ S => evOr c b es ρ S)
  andT : ∀ p, PW X (.BoolOp .And xs p) (tT Y Bs W (truM fun ρ S => evAnd c b es ρ S))
  orT : ∀ p, PW X (.BoolOp .Or xs p) (tT Y Bs W (truM fun ρ S => evOr c b es ρ S))
theorem w_no {Y : Sx} {Bs : List Nat} {W : WX} {X : Cx} {x : Expr} {m : Env → Store → R D} (h : ∀ ρ S, m ρ S = .bad) : PW X x (tT Y Bs W (truM m)) :=
  ⟨fun wh pins s σ H Q I ⟨μ, ρ, S, w, en, k⟩ => by unfold truM at k; rw [h] at k; exact k.elim⟩
theorem pt_no {Y : Sx} {Bs : List Nat} {W : WX} {X : Cx} {x : Expr} {m : Env → Store → R D} (h : ∀ ρ S, m ρ S = .bad) : PT X x (tT Y Bs W (truM m)) := (w_no h).pt
theorem es_nil {Y : Sx} {c : Ctx} {b : Nat} {Bs : List Nat} {W : WX} {X : Cx} : EsOk Y c b Bs W X .nil [] :=
  ⟨a_nil, rfl, fun _ => s_no fun _ _ => rfl, fun _ => s_no fun _ _ => rfl, fun _ => w_no fun _ _ => rfl, fun _ => w_no fun _ _ => rfl⟩
theorem es_cons {Y : Sx} {c : Ctx} {b : Nat} {Bs : List Nat} {W : WX} {X : Cx} {e : E} {es : Es} {x : Expr} {xs : List Expr} (hs : notStar x = true) (he : PE X x (tI Y Bs W fun ρ S => ev c b e ρ S)) (ht : PT X x (tT Y Bs W (truM fun ρ S => ev c b e ρ S))) (ih : EsOk Y c b Bs W X es xs) (hl : es.len = xs.length) :
    EsOk Y c b Bs W X (.cons e es) (x :: xs) := by
  refine ⟨a_cons hs he ih.args, by unfold allNS; rw [List.all_cons, hs]; exact ih.ns, ?_, ?_, ?_, ?_⟩
  all_goals
    intro p
    match es, xs, ih, hl with
    | .nil, [], ih, _ => first
      | exact pe_one he
      | exact pw_and1 ht
      | exact pw_or1 ht
    | .cons e2 es2, y :: ys, ih, _ => first
      | exact s_and he (ih.and p)
      | exact s_or he (ih.or p)
      | exact t_and ht (ih.andT p)
      | exact t_or ht (ih.orT p)
    | .nil, _ :: _, _, hl => cases hl
    | .cons _ _, [], _, hl => cases hl
theorem pl_ok {Y : Sx} {Bs : List Nat} {W : WX} {X : Cx} {x : Expr} {m : Env → Store → R D} (pe : PE X x (tI Y Bs W m)) (ht : plainT x = true) : PE X x (tI Y Bs W m) ∧ PT X x (tT Y Bs W (truM m)) := ⟨pe, t_plain ht pe⟩
mutual
theorem E.ok : ∀ (e : E) {Y : Sx} {c : Ctx} {b : Nat} {Bs : List Nat} {W : WX} {M : MC} {X : Cx} {x : Expr}, Good Y c b Bs W M X → e.mt M x = true → PE X x (tI Y Bs W fun ρ S => ev c b e ρ S) ∧ PT X x (tT Y Bs W (truM fun ρ S => ev c b e ρ S))
  | .no, Y, c, b, Bs, W, M, X, x, G, h => ⟨s_no fun _ _ => rfl, pt_no fun _ _ => rfl⟩
  | .var i, Y, c, b, Bs, W, M, X, x, G, h => by
    unfold E.mt at h
    split at h
    · simp only [Bool.and_eq_true, decide_eq_true_eq] at h
      exact pl_ok (s_var (p := _) (W := W) (Bs := Bs) G h.1 h.2.1 h.2.2) rfl
    · cases h
  | .non, Y, c, b, Bs, W, M, X, x, G, h => by
    unfold E.mt at h
    split at h
    · exact pl_ok (s_con pe_non fun _ _ => .non) rfl
    · cases h
  | .bl k, Y, c, b, Bs, W, M, X, x, G, h => by
    unfold E.mt at h
    split at h
    · rw [beq_iff_eq] at h
      subst h
      exact pl_ok (s_con pe_bl fun _ _ => .bl k) rfl
    · cases h
  | .int k, Y, c, b, Bs, W, M, X, x, G, h => by
    unfold E.mt at h
    split at h
    · rw [beq_iff_eq] at h
      subst h
      exact pl_ok (s_con pe_int fun _ _ => .int k) rfl
    · cases h
  | .str k, Y, c, b, Bs, W, M, X, x, G, h => by
    unfold E.mt at h
    split at h
    · rw [decide_eq_true_eq] at h
      subst h
      exact pl_ok (s_con pe_str fun _ _ => .str k) rfl
    · cases h
  | .gcon g, Y, c, b, Bs, W, M, X, x, G, h => by
    unfold E.mt at h
    split at h
    · simp only [Bool.and_eq_true] at h
      exact pl_ok (s_gcon (p := _) (W := W) (Bs := Bs) G h.1 h.2) rfl
    · cases h
  | .tup es, Y, c, b, Bs, W, M, X, x, G, h => by
    unfold E.mt at h
    split at h
    · simp only [Bool.and_eq_true, decide_eq_true_eq] at h
      exact pl_ok (s_tup (p := _) (n := _) (Es.ok es G h.2).args fun ρ S ds S' e => by rw [evs_len es ρ S ds S' e]; exact h.1) rfl
    · cases h
  | .lst es, Y, c, b, Bs, W, M, X, x, G, h => by
    unfold E.mt at h
    split at h
    · simp only [Bool.and_eq_true, decide_eq_true_eq] at h
      exact pl_ok (s_lst (p := _) (Es.ok es G h.2).args fun ρ S ds S' e => by rw [evs_len es ρ S ds S' e]; exact h.1) rfl
    · cases h
  | .newl es, Y, c, b, Bs, W, M, X, x, G, h => by
    unfold E.mt at h
    split at h
    · simp only [Bool.and_eq_true, decide_eq_true_eq] at h
      exact pl_ok (s_newl (p := _) (Es.ok es G h.2).args fun ρ S ds S' e => by rw [evs_len es ρ S ds S' e]; exact h.1) rfl
    · cases h
  | .newdK, Y, c, b, Bs, W, M, X, x, G, h => by
    unfold E.mt at h
    split at h
    · exact pl_ok (s_newdK) rfl
    · cases h
  | .newdT, Y, c, b, Bs, W, M, X, x, G, h => by
    unfold E.mt at h
    split at h
    · exact pl_ok (s_newdT) rfl
    · cases h
  | .bop o a d, Y, c, b, Bs, W, M, X, x, G, h => by
    unfold E.mt at h
    split at h
    · simp only [Bool.and_eq_true, decide_eq_true_eq] at h
      obtain ⟨rfl, h1, h2⟩ := h
      exact pl_ok (s_bop (p := _) o (E.ok a G h1).1 (E.ok d G h2).1) rfl
    · cases h
  | .neg a, Y, c, b, Bs, W, M, X, x, G, h => by
    unfold E.mt at h
    split at h
    · exact pl_ok (s_neg (p := _) (E.ok a G h).1) rfl
    · cases h
  | .cmp o a d, Y, c, b, Bs, W, M, X, x, G, h => by
    unfold E.mt at h
    split at h
    · simp only [Bool.and_eq_true, decide_eq_true_eq] at h
      obtain ⟨rfl, h1, h2, h3⟩ := h
      exact ⟨s_cmp (p := _) G o h1 (E.ok a G h2).1 (E.ok d G h3).1, t_cmp (p := _) G o h1 (E.ok a G h2).1 (E.ok d G h3).1⟩
    · cases h
  | .chain o o' a d f, Y, c, b, Bs, W, M, X, x, G, h => by
    unfold E.mt at h
    split at h
    · simp only [Bool.and_eq_true, decide_eq_true_eq] at h
      obtain ⟨rfl, rfl, h1, h2, h3, h4⟩ := h
      exact ⟨s_chain (p := _) G o o' h1 (E.ok a G h2).1 (E.ok d G h3).1 (E.ok f G h4).1, t_chain (p := _) G o o' h1 (E.ok a G h2).1 (E.ok d G h3).1 (E.ok f G h4).1⟩
    · cases h
  | .and es, Y, c, b, Bs, W, M, X, x, G, h => by
    unfold E.mt at h
    split at h
    · exact ⟨(Es.ok es G h).and _, ((Es.ok es G h).andT _).pt⟩
    · cases h
  | .or es, Y, c, b, Bs, W, M, X, x, G, h => by
    unfold E.mt at h
    split at h
    · exact ⟨(Es.ok es G h).or _, ((Es.ok es G h).orT _).pt⟩
    · cases h
  | .not a, Y, c, b, Bs, W, M, X, x, G, h => by
    unfold E.mt at h
    split at h
    · exact ⟨s_not (p := _) (E.ok a G h).1, t_not (p := _) (E.ok a G h).2⟩
    · cases h
  | .ife q a d, Y, c, b, Bs, W, M, X, x, G, h => by
    unfold E.mt at h
    split at h
    · simp only [Bool.and_eq_true] at h
      exact ⟨s_ife (p := _) (E.ok q G h.1).2 (E.ok a G h.2.1).1 (E.ok d G h.2.2).1, t_ife (p := _) (E.ok q G h.1).2 (E.ok a G h.2.1).2 (E.ok d G h.2.2).2⟩
    · cases h
  | .idx a d, Y, c, b, Bs, W, M, X, x, G, h => by
    unfold E.mt at h
    split at h
    · simp only [Bool.and_eq_true] at h
      exact pl_ok (s_idx (p := _) G h.1 (E.ok a G h.2.1).1 (E.ok d G h.2.2).1) rfl
    · cases h
  | .slAll a, Y, c, b, Bs, W, M, X, x, G, h => by
    unfold E.mt at h
    split at h
    · exact pl_ok (s_slAll (p := _) (p2 := _) (E.ok a G h).1) rfl
    · cases h
  | .slLo a d, Y, c, b, Bs, W, M, X, x, G, h => by
    unfold E.mt at h
    split at h
    · simp only [Bool.and_eq_true] at h
      exact pl_ok (s_slLo (p := _) (p2 := _) (E.ok a G h.1).1 (E.ok d G h.2).1) rfl
    · cases h
  | .slHi a d, Y, c, b, Bs, W, M, X, x, G, h => by
    unfold E.mt at h
    split at h
    · simp only [Bool.and_eq_true] at h
      exact pl_ok (s_slHi (p := _) (p2 := _) (E.ok a G h.1).1 (E.ok d G h.2).1) rfl
    · cases h
  | .sl a d f, Y, c, b, Bs, W, M, X, x, G, h => by
    unfold E.mt at h
    split at h
    · simp only [Bool.and_eq_true] at h
      exact pl_ok (s_sl (p := _) (p2 := _) (E.ok a G h.1).1 (E.ok d G h.2.1).1 (E.ok f G h.2.2).1) rfl
    · cases h
  | .bi f es, Y, c, b, Bs, W, M, X, x, G, h => by
    unfold E.mt at h
    split at h
    · simp only [Bool.and_eq_true] at h
      have ih := Es.ok es G h.2
      exact pl_ok (s_bi (p := _) (q := _) G f h.1 ih.ns ih.args) rfl
    · cases h
  | .bm m a es, Y, c, b, Bs, W, M, X, x, G, h => by
    unfold E.mt at h
    split at h
    · rename_i o n ap ys p
      simp only [Bool.and_eq_true, decide_eq_true_eq] at h
      obtain ⟨rfl, h1, h2, h3, h4, h5⟩ := h
      have ih := Es.ok es G h5
      have hl := mt_len es ys h5
      have ia := (E.ok a G h4).1
      cases ys with
      | nil =>
        cases es with
        | nil =>
          exact pl_ok (s_bm0 (p := _) (ap := _) (m := m) G h1 h3 ia) rfl
        | cons _ _ => cases hl
      | cons y ys =>
        exact pl_ok (s_bm (p := _) (ap := _) (m := m) G h1 h2 h3 ih.ns ia ih.args) rfl
    · cases h
  | .isi a cs tp, Y, c, b, Bs, W, M, X, x, G, h => by
    unfold E.mt at h
    split at h
    · rename_i n q y z p
      simp only [Bool.and_eq_true, decide_eq_true_eq] at h
      obtain ⟨h1, h2, h3, h4, h5⟩ := h
      have ia := (E.ok a G h4).1
      cases tp with
      | false =>
        exact pl_ok (s_isi1 (p := p) (q := q) G h1 h3 ia h5) rfl
      | true =>
        cases z with
        | Tuple zs kk p2 =>
          exact pl_ok (s_isiT (p := p) (q := q) (p2 := p2) (kk := kk) G h1 h3 h2.2 (by rintro rfl; simp at h2) ia h5) rfl
        | _ => cases h5
    · cases h
  | .call f g es, Y, c, b, Bs, W, M, X, x, G, h => by
    unfold E.mt at h
    split at h
    · rename_i n q ys p
      simp only [Bool.and_eq_true] at h
      obtain ⟨h1, h2, h3⟩ := h
      have ih := Es.ok es G h3
      have hl := mt_len es ys h3
      cases ys with
      | nil =>
        cases es with
        | nil =>
          exact pl_ok (s_call0 (p := p) (q := q) (g := g) G h1 h2) rfl
        | cons _ _ => cases hl
      | cons y ys =>
        exact pl_ok (s_call (p := p) (q := q) (g := g) G h1 h2 ih.ns ih.args) rfl
    · cases h
  | .lc elt tg it, Y, c, b, Bs, W, M, X, x, G, h => by
    unfold E.mt at h
    split at h
    · simp only [Bool.and_eq_true] at h
      obtain ⟨h1, h2, h3, h4, h5⟩ := h
      exact pl_ok ((s_lcT (p := _) G h1 h2 h4 (It.ok it G h3) (me := fun ρ S => ev c b elt ρ S) fun X' Y' G' => (E.ok elt G' h5).1).imp fun σ H Q k => lc_tLc (f := lcF tg fun ρ S => ev c b elt ρ S) (fun σ ρ => step_F) k) rfl
    · cases h
  | .lcIf elt tg it q, Y, c, b, Bs, W, M, X, x, G, h => by
    unfold E.mt at h
    split at h
    · simp only [Bool.and_eq_true] at h
      obtain ⟨h1, h2, h3, h4, h5, h6⟩ := h
      exact pl_ok ((s_lcTI (p := _) G h1 h2 h4 (It.ok it G h3) (me := fun ρ S => ev c b elt ρ S) (mq := fun ρ S => ev c b q ρ S) (fun X' Y' G' => (E.ok q G' h5).2) fun X' Y' G' => (E.ok elt G' h6).1).imp fun σ H Q k => lc_tLc (f := lcFI tg (fun ρ S => ev c b q ρ S) fun ρ S => ev c b elt ρ S) (fun σ ρ => step_FI) k) rfl
    · cases h
  | .newlc elt tg it, Y, c, b, Bs, W, M, X, x, G, h => by
    unfold E.mt at h
    split at h
    · simp only [Bool.and_eq_true] at h
      obtain ⟨h1, h2, h3, h4, h5⟩ := h
      exact pl_ok ((s_lcT (p := _) G h1 h2 h4 (It.ok it G h3) (me := fun ρ S => ev c b elt ρ S) fun X' Y' G' => (E.ok elt G' h5).1).imp fun σ H Q k => lc_tLcN (f := lcF tg fun ρ S => ev c b elt ρ S) (fun σ ρ => step_F) k) rfl
    · cases h
  | .newlcIf elt tg it q, Y, c, b, Bs, W, M, X, x, G, h => by
    unfold E.mt at h
    split at h
    · simp only [Bool.and_eq_true] at h
      obtain ⟨h1, h2, h3, h4, h5, h6⟩ := h
      exact pl_ok ((s_lcTI (p := _) G h1 h2 h4 (It.ok it G h3) (me := fun ρ S => ev c b elt ρ S) (mq := fun ρ S => ev c b q ρ S) (fun X' Y' G' => (E.ok q G' h5).2) fun X' Y' G' => (E.ok elt G' h6).1).imp fun σ H Q k => lc_tLcN (f := lcFI tg (fun ρ S => ev c b q ρ S) fun ρ S => ev c b elt ρ S) (fun σ ρ => step_FI) k) rfl
    · cases h
  | .make _ _, _, _, _, _, _, _, _, _, _, h => by simp [E.mt] at h
  | .meth _ _ _ _, _, _, _, _, _, _, _, _, _, h => by simp [E.mt] at h
  | .fld _ _, _, _, _, _, _, _, _, _, _, h => by simp [E.mt] at h
  | .xis _ _, _, _, _, _, _, _, _, _, _, h => by simp [E.mt] at h
  | .xfld _, _, _, _, _, _, _, _, _, _, h => by simp [E.mt] at h
  | .hcall _, _, _, _, _, _, _, _, _, _, h => by simp [E.mt] at h
theorem Es.ok : ∀ (es : Es) {Y : Sx} {c : Ctx} {b : Nat} {Bs : List Nat} {W : WX} {M : MC} {X : Cx} {xs : List Expr}, Good Y c b Bs W M X → es.mt M xs = true → EsOk Y c b Bs W X es xs
  | .nil, Y, c, b, Bs, W, M, X, xs, G, h => by
    unfold Es.mt at h
    rw [List.isEmpty_iff] at h
    subst h
    exact es_nil
  | .cons e es, Y, c, b, Bs, W, M, X, xs, G, h => by
    cases xs with
    | nil => simp [Es.mt] at h
    | cons x xs =>
      simp only [Es.mt, Bool.and_eq_true] at h
      exact es_cons h.1 (E.ok e G h.2.1).1 (E.ok e G h.2.1).2 (Es.ok es G h.2.2) (mt_len es xs h.2.2)
theorem It.ok : ∀ (it : It) {Y : Sx} {c : Ctx} {b : Nat} {Bs : List Nat} {W : WX} {M : MC} {X : Cx} {t x : Expr}, Good Y c b Bs W M X → it.mt M t x = true → PI X t x (tW Y Bs W fun ρ S => evIt c b it ρ S)
  | .val e, Y, c, b, Bs, W, M, X, t, x, G, h => i_val G.hK (E.ok e G h).1
  | .range es, Y, c, b, Bs, W, M, X, t, x, G, h => by
    unfold It.mt at h
    split at h
    · rename_i n q ys p
      simp only [Bool.and_eq_true, decide_eq_true_eq] at h
      obtain ⟨h1, h2, h3⟩ := h
      have ih := Es.ok es G h3
      have hl := mt_len es ys h3
      have hns := ih.ns
      match ys, h2, hl, hns, ih with
      | [x1], _, hl, hns, ih =>
        simp only [allNS, List.all_cons, List.all_nil, Bool.and_true] at hns
        exact i_range1 (q := q) (p := p) G h1 hns (fun ρ S ds S' e => (evs_len es ρ S ds S' e).trans hl) ih.args
      | [x1, x2], _, hl, hns, ih =>
        simp only [allNS, List.all_cons, List.all_nil, Bool.and_true, Bool.and_eq_true] at hns
        exact i_range2 (q := q) (p := p) G h1 hns.1 hns.2 (fun ρ S ds S' e => (evs_len es ρ S ds S' e).trans hl) ih.args
      | [x1, x2, x3], _, hl, hns, ih =>
        simp only [allNS, List.all_cons, List.all_nil, Bool.and_true, Bool.and_eq_true] at hns
        exact i_range3 (q := q) (p := p) G h1 hns.1 hns.2.1 hns.2.2 (fun ρ S ds S' e => (evs_len es ρ S ds S' e).trans hl) ih.args
      | [], h2, _, _, _ => simp at h2
      | _ :: _ :: _ :: _ :: _, h2, _, _, _ => simp at h2
    · cases h
  | .enum e, Y, c, b, Bs, W, M, X, t, x, G, h => by
    unfold It.mt at h
    rw [Bool.and_eq_true] at h
    obtain ⟨h0, h⟩ := h
    split at h
    · simp only [Bool.and_eq_true] at h
      exact i_enum G h.1 h0 h.2.1 (E.ok e G h.2.2).1
    · cases h
  | .zip e f, Y, c, b, Bs, W, M, X, t, x, G, h => by
    unfold It.mt at h
    rw [Bool.and_eq_true] at h
    obtain ⟨h0, h⟩ := h
    split at h
    · simp only [Bool.and_eq_true] at h
      exact i_zip G h.1 h0 h.2.1 h.2.2.1 (E.ok e G h.2.2.2.1).1 (E.ok f G h.2.2.2.2).1
    · cases h
end
end CL
namespace CL
open PySem PySem.Spec PyProof.Rows L2
def notComp : Expr → Bool
  | .ListComp _ _ _ _ => false
  | .SetComp _ _ _ _ => false
  | .DictComp _ _ _ _ _ => false
  | _ => true
def swC (M : MC) (scope : Scope) (y : Str) (py p : Pos) : Bool := decide (M.sc.names.lookup y = some .local) && ((py.line == p.line) && !(scope.names.any fun (n, k) => n == y && (k == .local || k == .cell)))
def E.isLc : E → Bool
  | .lc _ _ _ => true
  | .lcIf _ _ _ _ => true
  | .newlc _ _ _ => true
  | .newlcIf _ _ _ _ => true
  | _ => false
def retMt (e : Option Expr) : Bool := e.isNone
mutual
def St.mt : St → MC → Stmt → Bool
  | .no, _, _ => true
  | .set tg e, M, s => match s with
    | .Assign [t] x _ => tg.mt M t && (e.mt M x && (match tg with
      | .one _ => notComp x || e.isLc
      | .many _ => notComp x && !isTuple x))
    | _ => false
  | .par _ _ _ _, _, _ => false
  | .setIdx a i v, M, s => match s with
    | .Assign [.Subscript x z _] w _ => notSlice z && (notComp w && (a.mt M x && (i.mt M z && v.mt M w)))
    | _ => false
  | .setFld _ _ _, _, _ => false
  | .aug i e, M, s => match s with
    | .AugAssign (.Name n _) .Add x _ => decide (M.N[i]? = some n) && (locB M.sc n && e.mt M x)
    | _ => false
  | .ex e, M, s => match s with
    | .Expr x _ => notComp x && e.mt M x
    | _ => false
  | .ite q a b, M, s => match s with
    | .If t xs ys _ => q.mt M t && (a.mt M xs && b.mt M ys)
    | _ => false
  | .for_ tg it body, M, s => match s with
    | .For t i xs [] _ => tg.mt M t && (notSet i && (it.mt M t i && body.mt M xs))
    | _ => false
  | .whl q body, M, s => match s with
    | .While t xs [] _ => q.mt M t && body.mt M xs
    | _ => false
  | .ret e, M, s => match s with
    | .Return (some x) _ => e.mt M x
    | _ => false
  | .ret0, _, s => match s with
    | .Return none _ => true
    | _ => false
  | .brk, _, s => match s with
    | .Break _ => true
    | _ => false
  | .cont, _, s => match s with
    | .Continue _ => true
    | _ => false
  | .pass, _, s => match s with
    | .Pass _ => true
    | _ => false
  | .raise _ _, _, _ => false
  | .try_ _ _ _ _ _, _, _ => false
def Ss.mt : Ss → MC → List Stmt → Bool
  | .nil, _, ss => ss.isEmpty
  | .cons s ss, M, xs => match xs with
    | x :: xs => s.mt M x && ss.mt M xs
    | [] => false
end
def KS (Y : Sx) (Bs : List Nat) (W : WX) (μ : List Addr) (H : Hp) (D : Ends) : RS → Prop
  | .ok (.nx ρ) S => ∀ μ' H' σ', Ext μ H μ' H' → World Y Bs μ' H' S → EnvOk Y μ' H' σ' ρ → D.nx σ' H'
  | .ok (.rt d) S => ∀ μ' H' v, Ext μ H μ' H' → World Y Bs μ' H' S → Rep Y μ' H' v d → D.rt v H'
  | .ok (.bk ρ) S => ∀ μ' H' σ', Ext μ H μ' H' → World Y Bs μ' H' S → EnvOk Y μ' H' σ' ρ → D.bk σ' H'
  | .ok (.ct ρ) S => ∀ μ' H' σ', Ext μ H μ' H' → World Y Bs μ' H' S → EnvOk Y μ' H' σ' ρ → D.ct σ' H'
  | .err C ns ds ρ S => ∀ μ' H' σ' cls dd, Ext μ H μ' H' → World Y Bs μ' H' S → EnvOk Y μ' H' σ' ρ → ExcAt Y μ' H' C ns ds cls dd → W cls dd σ' H'
  | .bad => False
def tS (Y : Sx) (Bs : List Nat) (W : WX) (m : Env → Store → RS) : TS := fun D σ H => ∃ μ ρ S, World Y Bs μ H S ∧ EnvOk Y μ H σ ρ ∧ KS Y Bs W μ H D (m ρ S)
section
variable {Y : Sx} {Bs : List Nat} {W : WX} {μ μ' : List Addr} {H H' : Hp} {D : Ends} {σ : L2.St} {ρ : Env} {S : Store}
theorem KS.mono (e : Ext μ H μ' H') {r : RS} (h : KS Y Bs W μ H D r) : KS Y Bs W μ' H' D r := by
  cases r with
  | ok f S =>
    cases f with
    | nx ρ => exact fun μ2 H2 σ2 x => h μ2 H2 σ2 (e.trans x)
    | rt d => exact fun μ2 H2 v x => h μ2 H2 v (e.trans x)
    | bk ρ => exact fun μ2 H2 σ2 x => h μ2 H2 σ2 (e.trans x)
    | ct ρ => exact fun μ2 H2 σ2 x => h μ2 H2 σ2 (e.trans x)
  | err C ns ds ρ S => exact fun μ2 H2 σ2 c d x => h μ2 H2 σ2 c d (e.trans x)
  | bad => exact h
theorem tS.bind {α β : Type} {rel : List Addr → Hp → β → α → Prop} {m : Env → Store → R α} {f : α → Store → RS} {Q : β → Hp → Prop} (w : World Y Bs μ H S) (en : EnvOk Y μ H σ ρ) (h : KS Y Bs W μ H D ((m ρ S).then ρ f))
    (go : ∀ a S1 μ1 H1 b, World Y Bs μ1 H1 S1 → EnvOk Y μ1 H1 σ ρ → Ext μ H μ1 H1 → rel μ1 H1 b a → KS Y Bs W μ1 H1 D (f a S1) → Q b H1) : tX Y Bs rel W m σ H Q := by
  refine ⟨μ, ρ, S, w, en, ?_⟩
  cases e : m ρ S with
  | ok a S1 =>
    rw [e] at h
    exact fun μ1 H1 b x w1 r => go a S1 μ1 H1 b w1 (en.ext x) x r (KS.mono x h)
  | err C ns ds S1 =>
    rw [e] at h
    exact fun μ1 H1 c d x w1 ex => h μ1 H1 σ c d x w1 (en.ext x) ex
  | bad =>
    rw [e] at h
    exact h
theorem KS.nx {ρ' : Env} {σ' : L2.St} (h : KS Y Bs W μ H D (.ok (.nx ρ') S)) (w : World Y Bs μ H S) (en : EnvOk Y μ H σ' ρ') : D.nx σ' H := h μ H σ' (.refl _ _) w en
end
structure GoodS (Y : Sx) (c : Ctx) (b : Nat) (Bs : List Nat) (W : WX) (M : MC) (X : Cx) : Prop extends Good Y c b Bs W M X where
  loc : ∀ n, locB M.sc n = true → L2.Loc X.env.scope n ∧ (X.fn n = true ∨ X.env.scope.names.lookup n = some .local)
  kind : X.env.scope.kind = .function
  pass : PassesOwn (model X.prog X.w) X.A X.env X.xe
theorem GoodS.locs {Y : Sx} {c : Ctx} {b : Nat} {Bs : List Nat} {W : WX} {M : MC} {X : Cx} (G : GoodS Y c b Bs W M X) : Locs M X := ⟨G.hN, G.nd, G.calm, G.loc⟩
theorem swaps_of {x : Expr} {t : Option Expr} {l : Nat} {env : PySem.Env} (h : notComp x = true) : swapsWith x t l env = pure false := by
  cases x <;> first
    | rfl
    | cases h
theorem stores_of {t x : Expr} {env : PySem.Env} (h : isTuple x = false) : swappedStores [t] x env = pure none := by
  cases x <;> first
    | (cases t <;> rfl)
    | cases h
section
variable {X : Cx} {Y : Sx} {Bs : List Nat} {W : WX} {b : Nat} {M : MC} {c : Ctx} {x y t i z : Expr} {p : Pos} {tg : Tg} {ma mb mc : Env → Store → R D} {xs ys : List Stmt} {m1 m2 : Env → Store → RS}
theorem ss_nil : PSs X [] (tS Y Bs W fun ρ S => .ok (.nx ρ) S) := by
  refine pss_nil.imp ?_
  rintro D σ H ⟨μ, ρ, S, w, en, k⟩
  exact KS.nx k w en
theorem then_read {D : Ends} {σ : L2.St} {H : Hp} {μ : List Addr} {ρ : Env} {S : Store} (w : World Y Bs μ H S) (en : EnvOk Y μ H σ ρ) (k : KS Y Bs W μ H D ((m1 ρ S).then fun ρ1 S1 => m2 ρ1 S1)) : tS Y Bs W m1 { D with nx := tS Y Bs W m2 D } σ H := by
  refine ⟨μ, ρ, S, w, en, ?_⟩
  revert k
  cases m1 ρ S with
  | ok f S1 =>
    cases f with
    | nx ρ1 => exact fun k μ' H' σ' x w' en' => ⟨μ', ρ1, S1, w', en', KS.mono x k⟩
    | rt d => exact fun k => k
    | bk ρ1 => exact fun k => k
    | ct ρ1 => exact fun k => k
  | err C ns ds ρ1 S1 => exact fun k => k
  | bad => exact fun k => k
theorem ss_cons {st : Stmt} (h1 : PS X st (tS Y Bs W m1)) (h2 : PSs X xs (tS Y Bs W m2)) : PSs X (st :: xs) (tS Y Bs W fun ρ S => (m1 ρ S).then fun ρ1 S1 => m2 ρ1 S1) := by
  refine (pss_cons h1 h2).imp ?_
  rintro D σ H ⟨μ, ρ, S, w, en, k⟩
  exact then_read w en k
theorem st_no {s : Stmt} (h : ∀ ρ S, m1 ρ S = .bad) : PS X s (tS Y Bs W m1) := ⟨fun pins s σ H D I ⟨μ, ρ, S, w, en, k⟩ => by rw [h] at k; exact k.elim⟩
def setM (tg : Tg) (ma : Env → Store → R D) : Env → Store → RS := fun ρ S => (ma ρ S).then ρ fun d S1 => match asg tg d ρ with
    | some ρ' => .ok (.nx ρ') S1
    | none => .bad
theorem set_read {D : Ends} {σ : L2.St} {H : Hp} (h : tS Y Bs W (setM tg ma) D σ H) : tI Y Bs W ma σ H fun v H1 => gA tg v σ H1 D.nx := by
  obtain ⟨μ, ρ, S, w, en, k⟩ := h
  refine tS.bind w en k fun d S1 μ1 H1 v w1 en1 x1 r1 k1 => ?_
  cases ha : asg tg d ρ with
  | none => rw [ha] at k1; exact k1.elim
  | some ρ' =>
    rw [ha] at k1
    exact ⟨Y, μ1, Bs, S1, ρ, d, ρ', w1, en1, r1, ha, fun σ' en' _ => KS.nx k1 w1 en'⟩
theorem tg_one {t : Expr} (h : tg.mt M t = true) (env : PySem.Env) : (assignEach [t] env).map (·.2) = [assign t env] := by
  cases tg <;> unfold Tg.mt at h <;> cases t <;> first
    | rfl
    | cases h
theorem st_set (G : GoodS Y c b Bs W M X) (ht : tg.mt M t = true) (hs : swapsWith x (some t) p.line X.env = pure false) (hw : swappedStores [t] x X.env = pure none) (ha : PE X x (tI Y Bs W ma)) : PS X (.Assign [t] x p) (tS Y Bs W (setM tg ma)) := by
  refine (ps_asg ha (g_tg G.locs ht) hs hw (tg_one ht X.env)).imp ?_
  intro D σ H h
  exact set_read h
theorem st_lc (G : GoodS Y c b Bs W M X) {i0 : Nat} {n : Str} {py : Pos} {elt : Expr} {it : Expr} {ifs : List Expr} {scope : Scope} {tg2 : Tg} {t2 : Expr} {mi : Env → Store → R Walk} {tt : TT} {te : TE}
    (hi : M.N[i0]? = some n) (hl : locB M.sc n = true) (hc : compB M tg2 scope = true) (ht : tg2.mt (M.at scope) t2 = true) (hs : notSet it = true) (hit : PI X t2 it (tW Y Bs W mi))
    (hts : ∀ (s : Shared) (H : Hp) (C : Addr) (cl : List (Str × Addr)) (fp : List Addr), PTs (X.blk s H scope (compEnvC scope cl C X.env) fp) ifs tt) (he : ∀ (s : Shared) (H : Hp) (C : Addr) (cl : List (Str × Addr)) (fp : List Addr), PE (X.blk s H scope (compEnvC scope cl C X.env) fp) elt te)
    (rd : ∀ σ H Q, tI Y Bs W ma σ H Q → tLc (tW Y Bs W mi) (gA tg2) tt te tg2.slots σ H Q) {p2 : Pos} : PS X (.Assign [.Name n py] (.ListComp elt [⟨t2, it, ifs, 0⟩] scope p2) p) (tS Y Bs W (setM (.one i0) ma)) := by
  have ok := blk_ok G.toGood hc
  have hg := fun (s : Shared) (H : Hp) (C : Addr) (cl : List (Str × Addr)) (fp : List Addr) => g_tg (locs_blk G.toGood (scope := scope) s H C cl fp) ht
  have own : (ownOf M tg2).map (·.2) = tg2.slots := ownOf_snd M tg2
  have hb : X.env.blockKind = .function := by unfold Env.blockKind; rw [G.kind]; rfl
  obtain ⟨l1, l2⟩ := G.loc n hl
  by_cases q : swC M scope n py p2 = true
  · unfold swC at q
    simp only [Bool.and_eq_true, decide_eq_true_eq, Bool.not_eq_true'] at q
    have hyl : X.env.scope.names.lookup n = some .local := by rw [G.hsc]; exact q.1
    have base := ps_setLc (pos := p2) (spos := p) (py := py) G.calm G.nd (by rw [G.hN]; exact hi) hyl (sw_true G.kind hyl q.2.1 q.2.2) hit ok hg hts he (folded_of hs)
    rw [own] at base
    refine base.imp ?_
    rintro D σ H ⟨μ, ρ, S, w, en, k⟩
    refine rd σ H _ (tS.bind w en k fun d S1 μ1 H1 v w1 en1 x1 r1 k1 => ?_)
    exact KS.nx k1 w1 (en1.set r1 i0)
  · have hsw : swapsWith (.ListComp elt [⟨t2, it, ifs, 0⟩] scope p2) (some (.Name n py)) p.line X.env = pure false := by
      unfold swapsWith
      simp only [hb, Expr.pos]
      have : (X.env.kindOf n == some .local && py.line == p2.line && !(scope.names.any fun (m, k) => m == n && (k == .local || k == .cell))) = false := by
        unfold swC at q
        rw [Bool.not_eq_true] at q
        rw [← q]
        unfold Env.kindOf
        rw [G.hsc]
        rw [Bool.and_assoc]
        congr 1
        cases M.sc.names.lookup n with
        | none => rfl
        | some k => cases k <;> rfl
      show (pure (_ && _ && _ && _) : Sem Bool) = _
      rw [Bool.and_assoc, Bool.and_assoc]
      rw [Bool.and_assoc] at this
      rw [this]
      simp
    have pe := pe_lc (pos := p2) G.calm G.nd hit ok hg hts he (folded_of hs)
    rw [own] at pe
    refine (ps_set (i := i0) (pos' := py) (pos := p) G.nd (by rw [G.hN]; exact hi) l1 pe hsw l2).imp ?_
    rintro D σ H ⟨μ, ρ, S, w, en, k⟩
    refine rd σ H _ (tS.bind w en k fun d S1 μ1 H1 v w1 en1 x1 r1 k1 => ?_)
    exact KS.nx k1 w1 (en1.set r1 i0)
end
end CL
namespace CL
open PySem PySem.Spec PyProof.Rows L2
theorem putK_keys {κ : Type} [DecidableEq κ] (g : κ → D) (hg : ∀ a b, D.eqv (g a) (g b) = decide (a = b)) (k : κ) {Y : Sx} {μ : List Addr} {H : Hp} {v : V} {d : D} (rv : Rep Y μ H v d) : ∀ {kvs : List (κ × V)} {ds : List D}, RepL Y μ H (kvs.map (·.2)) ds →
    (putK (g k) d (kvs.map fun p => g p.1) ds).1 = (L2.putK kvs k v).map (fun p => g p.1) ∧ RepL Y μ H ((L2.putK kvs k v).map (·.2)) (putK (g k) d (kvs.map fun p => g p.1) ds).2 := by
  intro kvs ds r
  have ha : ((kvs.map fun p => g p.1).any fun x => D.eqv x (g k)) = kvs.any fun kv => decide (kv.1 = k) := by
    rw [List.any_map]
    congr 1
    funext p
    exact hg p.1 k
  unfold putK L2.putK
  rw [ha]
  by_cases q : (kvs.any fun kv => decide (kv.1 = k)) = true
  · rw [if_pos q, if_pos q]
    refine ⟨?_, ?_⟩
    · rw [List.map_map]
      refine List.map_congr_left fun p _ => ?_
      simp only [Function.comp]
      split <;> rfl
    · clear q ha
      induction kvs generalizing ds with
      | nil => cases r; exact .nil
      | cons p kvs ih =>
        cases r with
        | cons h t =>
          simp only [List.map_cons, List.zipWith_cons_cons]
          refine .cons ?_ (ih t)
          rw [hg]
          by_cases e : p.1 = k
          · rw [if_pos e]; simp only [e, decide_true, if_true]; exact rv
          · rw [if_neg e]; simp only [e, decide_false, Bool.false_eq_true, if_false]; exact h
  · rw [if_neg q, if_neg q]
    refine ⟨by simp, ?_⟩
    rw [List.map_append]
    exact r.append (.cons rv .nil)
def rSetD (Bs : List Nat) (b : Nat) : TSet := fun o i v H Q => ∃ (Y : Sx) (μ : List Addr) (S S4 : Store) (n : Nat) (k d : D), (∀ q ∈ Bs, q ≤ b) ∧ World Y Bs μ H S ∧ Rep Y μ H o (.ref n) ∧ Rep Y μ H i k ∧ Rep Y μ H v d ∧ storeK b n k d S = some S4 ∧
  ∀ μ' H', Ext μ H μ' H' → World Y Bs μ' H' S4 → Q H'
theorem vw_key {S : Store} {t : Bool} {k : D} (h : keyOf t k = true) : vw S k = k := by
  cases k <;> first
    | rfl
    | simp [keyOf] at h
theorem keyOf_lim {t : Bool} {k : D} (n : Nat) (h : keyOf t k = true) : k.lim n = true := by
  cases k with
  | int i => rfl
  | str l => rfl
  | tup ds =>
    simp only [keyOf, Bool.and_eq_true] at h
    rw [D.lim, D.limL_all, List.all_eq_true]
    intro d hd
    have := List.all_eq_true.mp h.2 d hd
    cases d <;> first
      | rfl
      | simp [flatD] at this
  | _ => simp [keyOf] at h
theorem putK_lim {n : Nat} {k v : D} {ks vs : List D} (h1 : D.limL n ks = true) (h2 : D.limL n vs = true) (h3 : k.lim n = true) (h4 : v.lim n = true) : D.limL n (putK k v ks vs).1 = true ∧ D.limL n (putK k v ks vs).2 = true := by
  unfold putK
  split
  · refine ⟨h1, ?_⟩
    rw [D.limL_all, List.all_eq_true] at *
    intro d hd
    obtain ⟨i, hi⟩ := List.getElem?_of_mem hd
    rw [List.getElem?_zipWith] at hi
    split at hi
    · rename_i a b ha hb
      simp only [Option.some.injEq] at hi
      subst hi
      split
      · exact h4
      · exact h2 _ (List.mem_of_getElem? hb)
    · cases hi
  · simp only [D.limL_all, List.all_append, List.all_cons, List.all_nil, Bool.and_true, Bool.and_eq_true] at *
    exact ⟨⟨h1, h3⟩, ⟨h2, h4⟩⟩
theorem set_D {X : Cx} (hu : X.A.units + 64 < cLine) (Bs : List Nat) (b : Nat) : PSet X (rSetD Bs b) := by
  intro pins s σ H o i v ov iv u Q I ro ri rv h
  obtain ⟨Y, μ, S, S4, n, k, d, hb, w, rn, rk, rd, hs, fin⟩ := h
  obtain ⟨p, rfl, hx⟩ : ∃ p, o = .ref p ∧ μ[n]? = some p := by
    cases rn with
    | ref h => exact ⟨_, rfl, h⟩
  have e : ∀ o, Ext μ H μ (upd H p o) := fun o => .wrote (List.mem_of_getElem? hx)
  have vk := view_of w rk
  unfold storeK at hs
  cases hc : S[n]? with
  | none => rw [hc] at hs; cases hs
  | some ce =>
    rw [hc] at hs
    have co := w.cells n p ce hx hc
    cases ce with
    | dic t ks vs =>
      simp only at hs
      split at hs
      · rename_i q
        simp only [Bool.and_eq_true, decide_eq_true_eq] at q
        obtain ⟨q1, q2, q3⟩ := q
        simp only [Option.some.injEq] at hs
        subst hs
        rw [vw_key q1] at vk
        obtain rfl : ov = Value.ref p := ro
        have lims : ∀ c ∈ Bs, n < c → (Cell.dic t (putK k d ks vs).1 (putK k d ks vs).2).lim c = true := by
          intro c hc' hlt
          have hl := w.lims n _ hc c hc' hlt
          rw [Cell.lim, Bool.and_eq_true] at hl ⊢
          refine putK_lim hl.1 hl.2 (keyOf_lim c q1) ?_
          unfold putOk at q2
          rw [Bool.or_eq_true, decide_eq_true_eq] at q2
          rcases q2 with z | z
          · exact D.lim_mono (Nat.zero_le _) _ z
          · have := hb c hc'; omega
        cases co with
        | @dicK kvs vs2 h r =>
          obtain ⟨kk, rfl, rfl⟩ := keyK vk q1
          obtain ⟨k1, k2⟩ := putK_keys kD eqv_kD kk rd r
          have hz : kvs.length < sizeLine := by
            rw [List.length_map] at q3
            rw [sizeLine_eq]; unfold LIM at q3; exact Nat.lt_trans q3 (by decide)
          refine d_setItem (A := X.A) (by omega) I (DPut.k h hz) ri rv (fun s' I' => (⟨_, I', fin μ _ (e _) ?_⟩ : ∃ H', Inv X pins σ H' s' ∧ Q H'))
          refine w.wrote hx ?_ lims
          rw [k1]
          exact .dicK upd_same (k2.ext (e _))
        | @dicT kvs vs2 h r =>
          obtain ⟨bb, kk, rfl, hbb, rfl⟩ := keyT vk q1
          obtain ⟨k1, k2⟩ := putK_keys kDT (fun a b => by show D.eqv (.tup _) (.tup _) = _; rw [D.eqv]; exact eqvL_kD a b) kk rd r
          have hz : kvs.length < sizeLine := by
            rw [List.length_map] at q3
            rw [sizeLine_eq]; unfold LIM at q3; exact Nat.lt_trans q3 (by decide)
          refine d_setItem (A := X.A) (by omega) I (DPut.t h hbb hz) ri rv (fun s' I' => (⟨_, I', fin μ _ (e _) ?_⟩ : ∃ H', Inv X pins σ H' s' ∧ Q H'))
          refine w.wrote hx ?_ lims
          rw [k1]
          exact .dicT upd_same (k2.ext (e _))
      · cases hs
    | lst ds =>
      simp only at hs
      cases k with
      | int j =>
        simp only at hs
        split at hs
        · rename_i q
          split at hs
          · rename_i z hz
            simp only [Option.some.injEq] at hs
            subst hs
            cases rk
            cases co with
            | lst h r =>
              obtain ⟨a1, a2, a3, a4⟩ := atD_place hz
              have hl := r.length
              have hlt := (List.getElem?_eq_some_iff.mp a2).1
              refine set_list pins s σ H _ _ v ov iv u Q I ro ri rv ⟨p, _, j, _, rfl, rfl, h, (?_ : ixN _ j = some (if 0 ≤ j then j.toNat else (j + ds.length).toNat)), fin μ _ (e _) ?_⟩
              · unfold ixN
                rw [hl]
                by_cases h0 : 0 ≤ j
                · rw [if_pos h0, if_pos h0, if_pos (by omega)]
                · rw [if_neg h0, if_neg h0, if_pos (by omega)]
              · refine w.wrote hx (.lst upd_same ((r.set _ rd).ext (e _))) fun c hc' hlt' => ?_
                have hl2 := w.lims n _ hc c hc' hlt'
                unfold Cell.lim at hl2 ⊢
                refine limL_of (xs := [d]) (fun x hx' => ?_) hl2 ?_
                · rcases List.mem_or_eq_of_mem_set hx' with z | z
                  · exact .inl z
                  · exact .inr (by rw [z]; simp)
                · rw [D.limL, D.limL, Bool.and_true]
                  unfold putOk at q
                  rw [Bool.or_eq_true, decide_eq_true_eq] at q
                  rcases q with z | z
                  · exact D.lim_mono (Nat.zero_le _) _ z
                  · have := hb c hc'; omega
          · cases hs
        · cases hs
      | _ => cases hs
    | ins _ _ _ => cases hs
section
variable {X : Cx} {Y : Sx} {Bs : List Nat} {W : WX} {b : Nat} {M : MC} {c : Ctx} {x y t i z : Expr} {p : Pos} {tg : Tg} {ma mb mc : Env → Store → R D} {xs ys : List Stmt} {m1 m2 : Env → Store → RS}
theorem st_setIdx (G : GoodS Y c b Bs W M X) {p2 : Pos} (h1 : notSlice y = true) (h2 : notComp z = true) (hx : PE X x (tI Y Bs W ma)) (hy : PE X y (tI Y Bs W mb)) (hz : PE X z (tI Y Bs W mc)) :
    PS X (.Assign [.Subscript x y p2] z p) (tS Y Bs W fun ρ S => (mc ρ S).then ρ fun w S1 => (ma ρ S1).then ρ fun d S2 => (mb ρ S2).then ρ fun k S3 => match d with
    | .ref n => match storeK b n k w S3 with
      | some S4 => .ok (.nx ρ) S4
      | none => .bad
    | _ => .bad) := by
  refine (ps_asg (g := gSub (tI Y Bs W ma) (tI Y Bs W mb) (rSetD Bs b)) hz (pg_sub hx hy (set_D G.hu Bs b) (fun v => by cases y <;> first | rfl | cases h1)) (show swapsWith z (some (.Subscript x y p2)) p.line X.env = pure false from swaps_of h2) (by cases z <;> rfl) rfl).imp ?_
  rintro D σ H ⟨μ, ρ, S, w, en, k⟩
  refine tS.bind w en k fun v S1 μ1 H1 vv w1 en1 x1 r1 k1 => tS.bind w1 en1 k1 fun d S2 μ2 H2 dv w2 en2 x2 r2 k2 => tS.bind w2 en2 k2 fun kk S3 μ3 H3 kv w3 en3 x3 r3 k3 => ?_
  cases d with
  | ref n =>
    simp only at k3
    cases hs : storeK b n kk v S3 with
    | none => rw [hs] at k3; exact k3.elim
    | some S4 =>
      rw [hs] at k3
      exact ⟨Y, μ3, S3, S4, n, kk, v, G.hb, w3, r2.ext x3, r3, (r1.ext x2).ext x3, hs, fun μ' H' e w' => k3 μ' H' σ e w' (en3.ext e)⟩
  | _ => exact k3.elim
theorem st_aug (G : GoodS Y c b Bs W M X) {j : Nat} {n : Str} {p2 : Pos} (h1 : M.N[j]? = some n) (h2 : locB M.sc n = true) (hx : PE X x (tI Y Bs W ma)) :
    PS X (.AugAssign (.Name n p2) .Add x p) (tS Y Bs W fun ρ S => match ρ[j]? with
    | some (some x) => (ma ρ S).then ρ fun d S1 => match x, d with
      | .int p, .int q => .ok (.nx (ρ.set j (some (.int (p + q))))) S1
      | _, _ => .bad
    | _ => .bad) := by
  obtain ⟨l1, l2⟩ := G.loc n h2
  refine (ps_aug (pos := p) (pos' := p2) G.nd (by rw [G.hN]; exact h1) l1 hx ip_add l2).imp ?_
  rintro D σ H ⟨μ, ρ, S, w, en, k⟩
  dsimp only at k
  match e : ρ[j]?, k with
  | some (some d0), k =>
    obtain ⟨v, e2, r⟩ := en.at_ j d0 e
    refine ⟨v, e2, tS.bind w en k fun d S1 μ1 H1 u w1 en1 x1 r1 k1 => ?_⟩
    cases r with
    | int a =>
      cases r1 with
      | int q => exact ⟨a, q, rfl, rfl, KS.nx k1 w1 (en1.set (.int _) j)⟩
      | _ => exact k1.elim
    | _ => exact k1.elim
  | some none, k => exact k.elim
  | none, k => exact k.elim
theorem st_ex (h : notComp x = true) (hx : PE X x (tI Y Bs W ma)) : PS X (.Expr x p) (tS Y Bs W fun ρ S => (ma ρ S).then ρ fun _ S1 => .ok (.nx ρ) S1) := by
  refine (ps_expr hx (swaps_of h)).imp ?_
  rintro D σ H ⟨μ, ρ, S, w, en, k⟩
  exact tS.bind w en k fun d S1 μ1 H1 u w1 en1 x1 r1 k1 => KS.nx k1 w1 en1
theorem st_ret (hx : PE X x (tI Y Bs W ma)) : PS X (.Return (some x) p) (tS Y Bs W fun ρ S => (ma ρ S).then ρ fun d S1 => .ok (.rt d) S1) := by
  refine (ps_ret hx).imp ?_
  rintro D σ H ⟨μ, ρ, S, w, en, k⟩
  exact tS.bind w en k fun d S1 μ1 H1 u w1 en1 x1 r1 k1 => k1 μ1 H1 u (.refl _ _) w1 r1
theorem st_ret0 : PS X (.Return none p) (tS Y Bs W fun ρ S => .ok (.rt .non) S) := by
  refine ps_retN.imp ?_
  rintro D σ H ⟨μ, ρ, S, w, en, k⟩
  exact k μ H _ (.refl _ _) w .non
theorem st_pass : PS X (.Pass p) (tS Y Bs W fun ρ S => .ok (.nx ρ) S) := by
  refine ps_pass.imp ?_
  rintro D σ H ⟨μ, ρ, S, w, en, k⟩
  exact KS.nx k w en
theorem st_brk : PS X (.Break p) (tS Y Bs W fun ρ S => .ok (.bk ρ) S) := by
  refine ps_break.imp ?_
  rintro D σ H ⟨μ, ρ, S, w, en, k⟩
  exact k μ H σ (.refl _ _) w en
theorem st_cont : PS X (.Continue p) (tS Y Bs W fun ρ S => .ok (.ct ρ) S) := by
  refine ps_continue.imp ?_
  rintro D σ H ⟨μ, ρ, S, w, en, k⟩
  exact k μ H σ (.refl _ _) w en
theorem tst_read {D : Ends} {σ : L2.St} {H : Hp} {μ : List Addr} {ρ : Env} {S : Store} {t u : TS} (w : World Y Bs μ H S) (en : EnvOk Y μ H σ ρ) (k : KS Y Bs W μ H D ((ma ρ S).then ρ fun d S1 => match truD (vw S1 d) with
    | some true => m1 ρ S1
    | some false => m2 ρ S1
    | none => .bad)) (h1 : ∀ μ' H' S', World Y Bs μ' H' S' → EnvOk Y μ' H' σ ρ → Ext μ H μ' H' → KS Y Bs W μ' H' D (m1 ρ S') → t D σ H') (h2 : ∀ μ' H' S', World Y Bs μ' H' S' → EnvOk Y μ' H' σ ρ → Ext μ H μ' H' → KS Y Bs W μ' H' D (m2 ρ S') → u D σ H') :
    tT Y Bs W (truM ma) σ H fun b H1 => if b = true then t D σ H1 else u D σ H1 := by
  refine ⟨μ, ρ, S, w, en, ?_⟩
  revert k
  unfold truM
  cases ma ρ S with
  | ok d S1 =>
    intro k
    simp only [R.then, R.bind] at k ⊢
    cases ht : truD (vw S1 d) with
    | none => rw [ht] at k; exact k.elim
    | some q =>
      rw [ht] at k
      intro μ' H' q' x w' e
      subst e
      cases q' with
      | true => exact h1 μ' H' S1 w' (en.ext x) x (KS.mono x k)
      | false => exact h2 μ' H' S1 w' (en.ext x) x (KS.mono x k)
  | err C ns ds S1 => exact fun k μ1 H1 cc dd x w1 ex => k μ1 H1 σ cc dd x w1 (en.ext x) ex
  | bad => exact fun k => k
theorem st_ite (ht : PT X x (tT Y Bs W (truM ma))) (h1 : PSs X xs (tS Y Bs W m1)) (h2 : PSs X ys (tS Y Bs W m2)) : PS X (.If x xs ys p) (tS Y Bs W fun ρ S => (ma ρ S).then ρ fun d S1 => match truD (vw S1 d) with
    | some true => m1 ρ S1
    | some false => m2 ρ S1
    | none => .bad) := by
  refine (ps_if ht h1 h2).imp ?_
  rintro D σ H ⟨μ, ρ, S, w, en, k⟩
  exact tst_read w en k (fun μ' H' S' w' en' _ k' => ⟨μ', ρ, S', w', en', k'⟩) fun μ' H' S' w' en' _ k' => ⟨μ', ρ, S', w', en', k'⟩
theorem st_for (G : GoodS Y c b Bs W M X) {mi : Env → Store → R Walk} (ht : tg.mt M t = true) (hs : notSet i = true) (hi : PI X t i (tW Y Bs W mi)) (hb : PSs X xs (tS Y Bs W m1)) :
    PS X (.For t i xs [] p) (tS Y Bs W fun ρ S => (mi ρ S).then ρ fun w S1 => forL m1 tg w w.items ρ S1) := by
  refine (ps_for G.pass G.calm hi (g_tg G.locs ht) hb (folded_of hs)).imp ?_
  rintro D σ H ⟨μ, ρ, S, w, en, k⟩
  refine tS.bind w en k fun wk S1 μ1 H1 J w1 en1 x1 hJ k1 => ?_
  refine ⟨fun i m σ H => ∃ (μ : List Addr) (ρ : Env) (S : Store), m = wk.items.length - i ∧ i ≤ wk.items.length ∧ World Y Bs μ H S ∧ EnvOk Y μ H σ ρ ∧ Ext μ1 H1 μ H ∧ KS Y Bs W μ H D (forL m1 tg wk (wk.items.drop i) ρ S), ?_, ?_⟩
  · exact ⟨_, μ1, ρ, S1, rfl, Nat.zero_le _, w1, en1, .refl _ _, by rw [List.drop_zero]; exact k1⟩
  · rintro i m σ2 H2 ⟨μ2, ρ2, S2, rfl, hi2, w2, en2, x2, k2⟩
    cases hd : wk.items.drop i with
    | nil =>
      rw [hd] at k2
      simp only [forL] at k2
      split at k2
      · rename_i hst
        have hii : i = wk.items.length := by
          have := List.drop_eq_nil_iff.mp hd
          omega
        refine .inl ⟨?_, KS.nx k2 w2 en2⟩
        rw [hii]
        exact (hJ Y μ2 H2 (.refl _ _) x2 Bs S2 w2 hst).2
      · exact k2.elim
    | cons d l =>
      rw [hd] at k2
      simp only [forL] at k2
      split at k2
      · rename_i hst
        have hlt : i < wk.items.length := by
          have : (wk.items.drop i).length = l.length + 1 := by rw [hd]; rfl
          rw [List.length_drop] at this
          omega
        have hget : wk.items[i]? = some d := by
          have : (wk.items.drop i)[0]? = some d := by rw [hd]; rfl
          rw [List.getElem?_drop] at this
          simpa using this
        have hdrop : wk.items.drop (i + 1) = l := by
          have : (wk.items.drop i).drop 1 = l := by rw [hd]; rfl
          rw [List.drop_drop] at this
          exact this
        obtain ⟨hgo, hy⟩ := (hJ Y μ2 H2 (.refl _ _) x2 Bs S2 w2 hst).1 i d hget
        refine .inr ⟨hgo, fun σ' H' => ∃ (μ : List Addr) (ρ : Env) (S : Store), World Y Bs μ H' S ∧ EnvOk Y μ H' σ' ρ ∧ Ext μ1 H1 μ H' ∧ KS Y Bs W μ H' D (forL m1 tg wk l ρ S), ?_, ?_⟩
        · rintro σ' H' ⟨μ, ρ, S, a1, a2, a3, a4⟩
          exact ⟨_, by omega, μ, ρ, S, rfl, hlt, a1, a2, a3, by rw [hdrop]; exact a4⟩
        · intro y H3 yl
          obtain ⟨μ3, x3, w3, ry⟩ := hy y H3 yl
          cases ha : asg tg d ρ2 with
          | none => rw [ha] at k2; exact k2.elim
          | some ρ3 =>
            rw [ha] at k2
            refine ⟨Y, μ3, Bs, S2, ρ2, d, ρ3, w3, en2.ext x3, ry, ha, fun σ' en' _ => ⟨μ3, ρ3, S2, w3, en', ?_⟩⟩
            have k3 := KS.mono x3 k2
            have xx := x2.trans x3
            revert k3
            dsimp only
            cases m1 ρ3 S2 with
            | ok f S4 =>
              cases f with
              | nx ρ4 => exact fun k3 μ' H' σ' x w' en' => ⟨μ', ρ4, S4, w', en', xx.trans x, KS.mono x k3⟩
              | ct ρ4 => exact fun k3 μ' H' σ' x w' en' => ⟨μ', ρ4, S4, w', en', xx.trans x, KS.mono x k3⟩
              | bk ρ4 => exact fun k3 => k3
              | rt d => exact fun k3 => k3
            | err C ns ds ρ4 S4 => exact fun k3 => k3
            | bad => exact fun k3 => k3
      · exact k2.elim
theorem st_whl (G : GoodS Y c b Bs W M X) (n : Nat) (ht : PT X x (tT Y Bs W (truM ma))) (hb : PSs X xs (tS Y Bs W m1)) : PS X (.While x xs [] p) (tS Y Bs W fun ρ S => whlL ma m1 n ρ S) := by
  refine (ps_while G.pass ht hb).imp ?_
  rintro D σ H ⟨μ, ρ, S, w, en, k⟩
  refine ⟨fun m σ H => ∃ (μ : List Addr) (ρ : Env) (S : Store), World Y Bs μ H S ∧ EnvOk Y μ H σ ρ ∧ KS Y Bs W μ H D (whlL ma m1 m ρ S), ⟨n, μ, ρ, S, w, en, k⟩, ?_⟩
  rintro m σ2 H2 ⟨μ2, ρ2, S2, w2, en2, k2⟩
  cases m with
  | zero => exact k2.elim
  | succ m =>
    unfold whlL at k2
    refine tst_read (m1 := fun ρ S1 => match m1 ρ S1 with
      | .ok (.nx ρ2) S2 => whlL ma m1 m ρ2 S2
      | .ok (.ct ρ2) S2 => whlL ma m1 m ρ2 S2
      | .ok (.bk ρ2) S2 => .ok (.nx ρ2) S2
      | .ok (.rt d) S2 => .ok (.rt d) S2
      | .err C ns es ρ2 S2 => .err C ns es ρ2 S2
      | .bad => .bad) (m2 := fun ρ S1 => .ok (.nx ρ) S1) (t := fun D σ H1 => ∃ N : L2.St → Hp → Prop, (∀ σ' H', N σ' H' → ∃ m', m' < m + 1 ∧ ∃ (μ : List Addr) (ρ : Env) (S : Store), World Y Bs μ H' S ∧ EnvOk Y μ H' σ' ρ ∧ KS Y Bs W μ H' D (whlL ma m1 m' ρ S)) ∧ tS Y Bs W m1 { D with nx := N, ct := N, bk := D.nx } σ H1)
      (u := fun D σ H1 => D.nx σ H1) w2 en2 k2 (fun μ' H' S' w' en' _ k' => ?_) fun μ' H' S' w' en' _ k' => KS.nx k' w' en'
    refine ⟨fun σ' H' => ∃ (μ : List Addr) (ρ : Env) (S : Store), World Y Bs μ H' S ∧ EnvOk Y μ H' σ' ρ ∧ KS Y Bs W μ H' D (whlL ma m1 m ρ S), fun σ' H' h => ⟨m, Nat.lt_succ_self m, h⟩, μ', ρ2, S', w', en', ?_⟩
    revert k'
    cases m1 ρ2 S' with
    | ok f S4 =>
      cases f with
      | nx ρ4 => exact fun k3 μ' H' σ' x w' en' => ⟨μ', ρ4, S4, w', en', KS.mono x k3⟩
      | ct ρ4 => exact fun k3 μ' H' σ' x w' en' => ⟨μ', ρ4, S4, w', en', KS.mono x k3⟩
      | bk ρ4 => exact fun k3 => k3
      | rt d => exact fun k3 => k3
    | err C ns ds ρ4 S4 => exact fun k3 => k3
    | bad => exact fun k3 => k3
end
end CL
namespace CL
open PySem PySem.Spec PyProof.Rows L2
theorem name_of {M : MC} {i : Nat} {t : Expr} (h : (Tg.one i).mt M t = true) : ∃ n p, t = .Name n p ∧ M.N[i]? = some n ∧ locB M.sc n = true := by
  unfold Tg.mt at h
  cases t with
  | Name n p =>
    simp only [Bool.and_eq_true, decide_eq_true_eq] at h
    exact ⟨n, p, rfl, h⟩
  | _ => cases h
theorem many_of {M : MC} {is : List Nat} {t : Expr} (h : (Tg.many is).mt M t = true) : ∃ xs k p, t = .Tuple xs k p := by
  unfold Tg.mt at h
  cases t with
  | Tuple xs k p => exact ⟨xs, k, p, rfl⟩
  | _ => cases h
theorem one_lc {Y : Sx} {c : Ctx} {b : Nat} {Bs : List Nat} {W : WX} {M : MC} {X : Cx} (G : GoodS Y c b Bs W M X) {i : Nat} {e : E} {n : Str} {py p : Pos} {x : Expr} (h1 : M.N[i]? = some n) (h2 : locB M.sc n = true) (h : e.mt M x = true) (hl : e.isLc = true) :
    PS X (.Assign [.Name n py] x p) (tS Y Bs W (setM (.one i) fun ρ S => ev c b e ρ S)) := by
  cases e with
  | lc elt tg it =>
    unfold E.mt at h
    split at h
    · simp only [Bool.and_eq_true] at h
      obtain ⟨g1, g2, g3, g4, g5⟩ := h
      exact st_lc G h1 h2 g1 g2 g4 (It.ok it G.toGood g3) (fun s H C cl fp => pts_nil) (fun s H C cl fp => te_ok (Y := Y) (me := fun ρ S => ev c b elt ρ S) fun Y' hca => (E.ok elt ((G.toGood.hidden hca).blk s H _ C cl fp) g5).1) fun σ H Q k => lc_tLc (f := lcF tg fun ρ S => ev c b elt ρ S) (fun σ ρ => step_F) k
    · cases h
  | newlc elt tg it =>
    unfold E.mt at h
    split at h
    · simp only [Bool.and_eq_true] at h
      obtain ⟨g1, g2, g3, g4, g5⟩ := h
      exact st_lc G h1 h2 g1 g2 g4 (It.ok it G.toGood g3) (fun s H C cl fp => pts_nil) (fun s H C cl fp => te_ok (Y := Y) (me := fun ρ S => ev c b elt ρ S) fun Y' hca => (E.ok elt ((G.toGood.hidden hca).blk s H _ C cl fp) g5).1) fun σ H Q k => lc_tLcN (f := lcF tg fun ρ S => ev c b elt ρ S) (fun σ ρ => step_F) k
    · cases h
  | lcIf elt tg it q =>
    unfold E.mt at h
    split at h
    · simp only [Bool.and_eq_true] at h
      obtain ⟨g1, g2, g3, g4, g5, g6⟩ := h
      exact st_lc G h1 h2 g1 g2 g4 (It.ok it G.toGood g3) (fun s H C cl fp => pts_one (tt_ok (Y := Y) (me := fun ρ S => ev c b q ρ S) fun Y' hca => (E.ok q ((G.toGood.hidden hca).blk s H _ C cl fp) g5).2)) (fun s H C cl fp => te_ok (Y := Y) (me := fun ρ S => ev c b elt ρ S) fun Y' hca => (E.ok elt ((G.toGood.hidden hca).blk s H _ C cl fp) g6).1)
        fun σ H Q k => lc_tLc (f := lcFI tg (fun ρ S => ev c b q ρ S) fun ρ S => ev c b elt ρ S) (fun σ ρ => step_FI) k
    · cases h
  | newlcIf elt tg it q =>
    unfold E.mt at h
    split at h
    · simp only [Bool.and_eq_true] at h
      obtain ⟨g1, g2, g3, g4, g5, g6⟩ := h
      exact st_lc G h1 h2 g1 g2 g4 (It.ok it G.toGood g3) (fun s H C cl fp => pts_one (tt_ok (Y := Y) (me := fun ρ S => ev c b q ρ S) fun Y' hca => (E.ok q ((G.toGood.hidden hca).blk s H _ C cl fp) g5).2)) (fun s H C cl fp => te_ok (Y := Y) (me := fun ρ S => ev c b elt ρ S) fun Y' hca => (E.ok elt ((G.toGood.hidden hca).blk s H _ C cl fp) g6).1)
        fun σ H Q k => lc_tLcN (f := lcFI tg (fun ρ S => ev c b q ρ S) fun ρ S => ev c b elt ρ S) (fun σ ρ => step_FI) k
    · cases h
  | _ => cases hl
mutual
theorem St.ok : ∀ (s : St) {Y : Sx} {c : Ctx} {b : Nat} {Bs : List Nat} {W : WX} {M : MC} {X : Cx} {x : Stmt}, GoodS Y c b Bs W M X → s.mt M x = true → PS X x (tS Y Bs W fun ρ S => exS b s c ρ S)
  | .no, Y, c, b, Bs, W, M, X, x, G, h => st_no fun _ _ => rfl
  | .set tg e, Y, c, b, Bs, W, M, X, x, G, h => by
    unfold St.mt at h
    split at h
    · rename_i t x p
      simp only [Bool.and_eq_true] at h
      obtain ⟨h1, h2, h3⟩ := h
      cases tg with
      | many is =>
        simp only [Bool.and_eq_true, Bool.not_eq_true'] at h3
        exact st_set G h1 (swaps_of h3.1) (stores_of h3.2) (E.ok e G.toGood h2).1
      | one i =>
        simp only [Bool.or_eq_true] at h3
        obtain ⟨n, py, rfl, a1, a2⟩ := name_of h1
        by_cases hn : notComp x = true
        · exact st_set G h1 (swaps_of hn) (by cases x <;> rfl) (E.ok e G.toGood h2).1
        · exact one_lc G a1 a2 h2 (h3.resolve_left hn)
    · cases h
  | .par _ _ _ _, Y, c, b, Bs, W, M, X, x, G, h => by simp [St.mt] at h
  | .setIdx a i v, Y, c, b, Bs, W, M, X, x, G, h => by
    unfold St.mt at h
    split at h
    · simp only [Bool.and_eq_true] at h
      exact st_setIdx G h.1 h.2.1 (E.ok a G.toGood h.2.2.1).1 (E.ok i G.toGood h.2.2.2.1).1 (E.ok v G.toGood h.2.2.2.2).1
    · cases h
  | .setFld _ _ _, Y, c, b, Bs, W, M, X, x, G, h => by simp [St.mt] at h
  | .aug i e, Y, c, b, Bs, W, M, X, x, G, h => by
    unfold St.mt at h
    split at h
    · simp only [Bool.and_eq_true, decide_eq_true_eq] at h
      exact st_aug G h.1 h.2.1 (E.ok e G.toGood h.2.2).1
    · cases h
  | .ex e, Y, c, b, Bs, W, M, X, x, G, h => by
    unfold St.mt at h
    split at h
    · simp only [Bool.and_eq_true] at h
      exact st_ex h.1 (E.ok e G.toGood h.2).1
    · cases h
  | .ite q a d, Y, c, b, Bs, W, M, X, x, G, h => by
    unfold St.mt at h
    split at h
    · simp only [Bool.and_eq_true] at h
      exact st_ite (E.ok q G.toGood h.1).2 (Ss.ok a G h.2.1) (Ss.ok d G h.2.2)
    · cases h
  | .for_ tg it body, Y, c, b, Bs, W, M, X, x, G, h => by
    unfold St.mt at h
    split at h
    · simp only [Bool.and_eq_true] at h
      exact st_for G h.1 h.2.1 (It.ok it G.toGood h.2.2.1) (Ss.ok body G h.2.2.2)
    · cases h
  | .whl q body, Y, c, b, Bs, W, M, X, x, G, h => by
    unfold St.mt at h
    split at h
    · simp only [Bool.and_eq_true] at h
      exact st_whl G c.fuel (E.ok q G.toGood h.1).2 (Ss.ok body G h.2)
    · cases h
  | .ret e, Y, c, b, Bs, W, M, X, x, G, h => by
    unfold St.mt at h
    split at h
    · exact st_ret (E.ok e G.toGood h).1
    · cases h
  | .ret0, Y, c, b, Bs, W, M, X, x, G, h => by
    unfold St.mt at h
    split at h
    · exact st_ret0
    · cases h
  | .brk, Y, c, b, Bs, W, M, X, x, G, h => by
    unfold St.mt at h
    split at h
    · exact st_brk
    · cases h
  | .cont, Y, c, b, Bs, W, M, X, x, G, h => by
    unfold St.mt at h
    split at h
    · exact st_cont
    · cases h
  | .pass, Y, c, b, Bs, W, M, X, x, G, h => by
    unfold St.mt at h
    split at h
    · exact st_pass
    · cases h
  | .raise _ _, Y, c, b, Bs, W, M, X, x, G, h => by simp [St.mt] at h
  | .try_ _ _ _ _ _, Y, c, b, Bs, W, M, X, x, G, h => by simp [St.mt] at h
theorem Ss.ok : ∀ (ss : Ss) {Y : Sx} {c : Ctx} {b : Nat} {Bs : List Nat} {W : WX} {M : MC} {X : Cx} {xs : List Stmt}, GoodS Y c b Bs W M X → ss.mt M xs = true → PSs X xs (tS Y Bs W fun ρ S => exs b ss c ρ S)
  | .nil, Y, c, b, Bs, W, M, X, xs, G, h => by
    unfold Ss.mt at h
    rw [List.isEmpty_iff] at h
    subst h
    exact ss_nil
  | .cons s ss, Y, c, b, Bs, W, M, X, xs, G, h => by
    cases xs with
    | nil => simp [Ss.mt] at h
    | cons x xs =>
      simp only [Ss.mt, Bool.and_eq_true] at h
      exact ss_cons (St.ok s G h.1) (Ss.ok ss G h.2)
end
end CL
namespace CL
open PySem PySem.Spec PyProof.Rows L2
section
variable {Y : Sx} {μ : List Addr} {H : Hp} {Bs : List Nat} {S : Store}
theorem out_cut {n i : Nat} {a : Addr} (w : World Y Bs μ H S) (h : μ[i]? = some a) (hi : ¬ i < n) : Fr Y (μ.take n) a := by
  refine ⟨fun m => ?_, w.hidC a (List.mem_of_getElem? h)⟩
  obtain ⟨j, hj⟩ := List.getElem?_of_mem m
  have hjn : j < n := by
    have := (List.getElem?_eq_some_iff.mp hj).1
    simp at this; omega
  rw [List.getElem?_take_of_lt hjn] at hj
  obtain ⟨l1, e1⟩ := List.getElem?_eq_some_iff.mp h
  obtain ⟨l2, e2⟩ := List.getElem?_eq_some_iff.mp hj
  have := (List.getElem_inj w.nd).mp (e1.trans e2.symm)
  omega
theorem res_list {n k : Nat} (ih : ∀ (v : V) (d : D), Rep Y μ H v d → (res n S k d).lim n = true → Rep Y (μ.take n) H v (res n S k d)) : ∀ {vs : List V} {ds : List D}, RepL Y μ H vs ds → D.limL n (ds.map (res n S k)) = true → RepL Y (μ.take n) H vs (ds.map (res n S k))
  | _, _, .nil, _ => .nil
  | _, _, .cons h t, q => by
    rw [List.map_cons, D.limL, Bool.and_eq_true] at q
    exact .cons (ih _ _ h q.1) (res_list ih t q.2)
theorem res_rep {n : Nat} (w : World Y Bs μ H S) : ∀ (k : Nat) (v : V) (d : D), Rep Y μ H v d → (res n S k d).lim n = true → Rep Y (μ.take n) H v (res n S k d)
  | 0, v, d, r, q => r.cut (by simpa [res] using q)
  | k + 1, v, d, r, q => by
    have ih := res_rep (n := n) w k
    cases r with
    | tup h m r =>
      simp only [res, D.lim] at q ⊢
      exact .tup h m.cut (res_list ih r q)
    | lst h m r =>
      simp only [res, D.lim] at q ⊢
      exact .lst h m.cut (res_list ih r q)
    | way h ho m r =>
      simp only [res, D.lim] at q ⊢
      exact .way h ho m.cut (res_list ih r q)
    | ins h m hn r =>
      simp only [res, D.lim] at q ⊢
      exact .ins h m.cut hn (res_list ih r q)
    | @ref a i hi =>
      unfold res at q ⊢
      by_cases hlt : i < n
      · rw [if_pos hlt] at q ⊢
        exact (Rep.ref hi).cut q
      · rw [if_neg hlt] at q ⊢
        cases hc : S[i]? with
        | none =>
          rw [hc] at q
          simp only [D.lim, decide_eq_true_eq] at q
          exact absurd q hlt
        | some ce =>
          rw [hc] at q
          have co := w.cells i a ce hi hc
          have fr := out_cut w hi hlt
          cases co with
          | lst h r =>
            simp only [D.lim] at q ⊢
            exact .lst h fr (res_list ih r q)
          | dicK h r =>
            simp only [D.lim, Bool.and_eq_true] at q ⊢
            exact .dicK h fr (res_list ih r q.2)
          | dicT h r =>
            simp only [D.lim, Bool.and_eq_true] at q ⊢
            exact .dicT h fr (res_list ih r q.2)
          | ins h hn r =>
            simp only [D.lim] at q ⊢
            exact .ins h fr hn (res_list ih r q)
    | non => exact .non
    | bl b => exact .bl b
    | int i => exact .int i
    | str l => exact .str l
    | dicK h m r => exact (Rep.dicK h m r).cut q
    | dicT h m r => exact (Rep.dicT h m r).cut q
    | scr h => exact (Rep.scr h).cut q
theorem Ext.cut {μ' : List Addr} {H' : Hp} (e : Ext μ H μ' H') : Ext μ H (μ'.take μ.length) H' := by
  obtain ⟨r, hr⟩ := e.pre
  refine ⟨⟨[], by rw [hr]; simp⟩, e.keep, fun a m n => ?_⟩
  rw [hr, List.take_left] at m
  exact absurd m n
theorem CellOk.lst_at {a : Addr} {ds : List D} (h : CellOk Y μ H a (.lst ds)) : ∃ xs, H a = some (.lst xs) ∧ RepL Y μ H xs ds := by
  cases h with
  | lst h r => exact ⟨_, h, r⟩
theorem fin_read {W : WX} {μ0 : List Addr} {H0 : Hp} {keep give : Bool} {n : Nat} {v : V} {d : D} {Q : VK} {Bs' : List Nat} (hk : keep = true ∧ Bs' = Bs ∨ keep = false ∧ Bs' = n :: Bs) (hn : n = μ0.length) (hb : ∀ q ∈ Bs, q ≤ n) (e : Ext μ0 H0 μ H) (w : World Y Bs' μ H S) (r : Rep Y μ H v d)
    (k : KR Y Bs (Rep Y) μ0 H0 [] Q W (fin keep give n S d)) : Q v H := by
  rcases hk with ⟨rfl, rfl⟩ | ⟨rfl, rfl⟩
  · simp only [fin, if_true] at k
    exact k μ H v e w r
  · simp only [fin, Bool.false_eq_true, if_false] at k
    have w1 := w.cut hb
    have e1 : Ext μ0 H0 (μ.take n) H := by rw [hn]; exact e.cut
    split at k
    · exact k.elim
    · split at k
      · rename_i hl
        exact k (μ.take n) H v e1 w1 (res_rep w 8 v d r hl)
      · exact k.elim
end
theorem ExcAt.cut {Y : Sx} {μ : List Addr} {H : Hp} {C : String} {ns : List String} {ds : List D} {cls : Value} {dd : Option Addr} {n : Nat} (x : ExcAt Y μ H C ns ds cls dd) (h : D.limL n ds = true) : ExcAt Y (μ.take n) H C ns ds cls dd :=
  ⟨x.cls_, x.flds.imp id fun ⟨a, fs, e1, e2, f, e3, r⟩ => ⟨a, fs, e1, e2, f.cut, e3, r.cut h⟩⟩
theorem start_ok {Y : Sx} {μ : List Addr} {H : Hp} {vs : List V} {ds : List D} {N : List Str} {d : Fn} (r : RepL Y μ H vs ds) (hN : N.length = d.names.length) (hl : ds.length = d.np) (hnp : d.np ≤ d.names.length) : EnvOk Y μ H (L2.start N vs) (d.start ds) := by
  have hv := r.length
  refine ⟨?_, fun i x h => ?_⟩
  · unfold L2.start Fn.start
    simp only [List.length_append, List.length_map, List.length_replicate]
    omega
  · unfold Fn.start at h
    have hi : i < ds.length := by
      refine Decidable.byContradiction fun q => ?_
      rw [List.getElem?_append_right (by simp; omega), List.getElem?_replicate] at h
      split at h <;> cases h
    rw [List.getElem?_append_left (by simpa using hi), List.getElem?_map, Option.map_eq_some_iff] at h
    obtain ⟨y, hy, e⟩ := h
    cases e
    obtain ⟨v, hv', rv⟩ := r.get hy
    refine ⟨v, ?_, rv⟩
    unfold L2.start
    rw [List.getElem?_append_left (by rw [List.length_map]; omega), List.getElem?_map, hv']
    rfl
structure DefAt (T : Text) (K : PySem.W.Frag) (mg : Str → Option Value) (M0 : MC) (f : String) (d : Fn) (st : Stmt) (a : Addr) (fd : FuncData) : Prop where
  fn : Fun K (nm f) (nm f) st a fd
  mg : mg (nm f) = some (.ref a)
  sc : FnScope (d.names.map nm) ((d.names.map nm).take d.np) (defScope st)
  np : d.np ≤ d.names.length
  bd : Binds K fd ((d.names.map nm).take d.np) []
  mt : d.body.mt { M0 with N := d.names.map nm, sc := defScope st } (defBody st) = true
structure TextOk (T : Text) (P : Program) (w : PySem.World) (K : PySem.W.Frag) (mg : Str → Option Value) (base : Heap) (ca : CA) (M0 : MC) : Prop where
  hK : ca.K = K
  fns : ∀ f, M0.fn f = true → ∃ d st a fd, T.fns f = some d ∧ DefAt T K mg M0 f d st a fd
  bi : ∀ g ∈ bis, mg (nm g) = none
  con : ∀ g, M0.con g = true → ∃ d u v, T.con g = some d ∧ mg (nm g) = some u ∧ RelV v u ∧ ∀ Z μ H, Rep Z μ H v d
  cls : ∀ C, M0.cl C = true → isB C = false → mg (nm C) = some (.ref (ca C))
  bcl : ∀ C, isB C = true → mg (nm C) = none
  isaN : ∀ C, M0.cl C = true → isB C = false → ∀ T ∈ basT, PySem.W.kitOne K (.type T) (.ref (ca C)) = some false
  isaI : ∀ Y : Sx, Y.ca = ca → ∀ Z, (∃ C k, T.isa Z C = some k) → ∀ (H : Hp) (a dx : Addr) (fs : List (Str × V)), H a = some (.ins (ca Z) dx fs) → ∃ t, TyX K H (.ref a) t ∧ ∀ C k, T.isa Z C = some k → (isB C = true ∨ M0.cl C = true) → PySem.W.kitOne K t (clsVal Y C) = some k
section
variable {T : Text} {P : Program} {w : PySem.World} {K : PySem.W.Frag} {mg : Str → Option Value} {base : Heap} {ca : CA} {M0 : MC}
theorem fn_level (X0 : TextOk T P w K mg base ca M0) : ∀ (n : Nat) (f : String), M0.fn f = true → ∀ d st a fd, T.fns f = some d → DefAt T K mg M0 f d st a fd → FnOk P w K mg base (L2.CX P w) n a fd ((d.names.map nm).take d.np) (spI ca (callN T n f))
  | 0, f, hf, d, st, a, fd, hT, dA => by
    have no : ∀ vs H Q E, ¬ spI ca (callN T 0 f) vs H Q E := by
      rintro vs H Q E ⟨Y, _, g, b, Bs, μ, S, ds, _, _, _, k⟩
      exact k
    exact ⟨fun vs H Q E h => absurd h (no vs H Q E), fun A outer s H args us vs Q E _ _ _ _ h => absurd h (no vs H Q E)⟩
  | n + 1, f, hf, d, st, a, fd, hT, dA => by
    have len : ∀ vs H Q E, spI ca (callN T (n + 1) f) vs H Q E → vs.length = ((d.names.map nm).take d.np).length := by
      rintro vs H Q E ⟨Y, _, g, b, Bs, μ, S, ds, _, _, r, k⟩
      simp only [callN, callsN, hT] at k
      split at k
      · rename_i hl
        rw [r.length, hl, List.length_take, List.length_map]
        have := dA.np
        omega
      · exact k.elim
    refine dA.fn.okX dA.sc len fun cdv A outer s H vs Q E hr h => ?_
    obtain ⟨Y, hca, g, b, Bs, μ, S, ds, hb, wo, r, k⟩ := h
    simp only [callN, callsN, hT] at k
    split at k
    · rename_i hl
      have hNl : (d.names.map nm).length = d.names.length := List.length_map _
      have en := start_ok (N := d.names.map nm) r hNl hl dA.np
      have X1 : ∀ (b' : Nat) (Bs' : List Nat), (∀ q ∈ Bs', q ≤ b') → GoodS Y (ctxOf T (callsN T n)) b' Bs' (fun cls d _ H => E cls d H) { M0 with N := d.names.map nm, sc := defScope st } (cxOf (L2.CX P w) P w K mg base (d.names.map nm) (nm f) (defScope st) a cdv A outer s H E) := by
        intro b' Bs' hb'
        have hu : (A.deeper (envOfC (nm f) (defScope st) s.heap.objs.size a cdv)).units + 64 < cLine := hr.units
        exact { hN := rfl, hK := by rw [hca]; exact X0.hK, nd := dA.sc.nd, hsc := rfl, calm := rfl, hu := hu, hb := hb', tk := takes_of rfl rfl rfl rfl, bi := X0.bi, con := X0.con, cls := by rw [hca]; exact X0.cls, bcl := X0.bcl, isaN := by rw [hca]; exact X0.isaN,
                isaI := by rw [hca]; exact X0.isaI Y hca,
                call := fun f' hf' => by
                  obtain ⟨d', st', a', fd', hT', dA'⟩ := X0.fns f' hf'
                  rw [hca]
                  exact ⟨n, a', fd', _, fn_level X0 n f' hf' d' st' a' fd' hT' dA', hr, dA'.mg, dA'.fn.kp, dA'.bd⟩
                loc := fun x hx => ⟨locB_ok hx, .inl rfl⟩, kind := dA.sc.kind, pass := passes_of rfl }
      unfold runFn at k
      have main : ∀ (b' : Nat) (Bs' : List Nat), (d.keep = true ∧ Bs' = Bs ∧ b' = b ∨ d.keep = false ∧ Bs' = S.length :: Bs ∧ b' = S.length) → ∃ t, PSs (cxOf (L2.CX P w) P w K mg base (d.names.map nm) (nm f) (defScope st) a cdv A outer s H E) (defBody st) t ∧ t { nx := fun _ H' => Q .non H', rt := Q } (L2.start (d.names.map nm) vs) H := by
        intro b' Bs' hk
        have hb' : ∀ q ∈ Bs', q ≤ b' := by
          rcases hk with ⟨_, rfl, rfl⟩ | ⟨_, rfl, rfl⟩
          · exact hb
          · intro q hq
            rcases List.mem_cons.mp hq with e | e
            · omega
            · exact wo.bs q e
        have wo' : World Y Bs' μ H S := by
          rcases hk with ⟨_, rfl, rfl⟩ | ⟨_, rfl, rfl⟩
          · exact wo
          · exact wo.mark
        have hif : (if d.keep then b else S.length) = b' := by
          rcases hk with ⟨h1, _, rfl⟩ | ⟨h1, _, rfl⟩
          · rw [h1]; rfl
          · rw [h1]; rfl
        have hk2 : d.keep = true ∧ Bs' = Bs ∨ d.keep = false ∧ Bs' = S.length :: Bs := by
          rcases hk with ⟨h1, h2, _⟩ | ⟨h1, h2, _⟩
          · exact .inl ⟨h1, h2⟩
          · exact .inr ⟨h1, h2⟩
        refine ⟨_, Ss.ok d.body (X1 b' Bs' hb') dA.mt, μ, d.start ds, S, wo', en, ?_⟩
        rw [hif] at k
        show KS Y Bs' _ μ H _ (exs b' d.body (ctxOf T (callsN T n)) (d.start ds) S)
        revert k
        cases exs b' d.body (ctxOf T (callsN T n)) (d.start ds) S with
        | ok fl S' =>
          cases fl with
          | nx ρ' => exact fun k μ' H' σ' x w' _ => fin_read hk2 wo.len.symm wo.bs x w' .non k
          | rt dd => exact fun k μ' H' v x w' rv => fin_read hk2 wo.len.symm wo.bs x w' rv k
          | bk ρ' => exact fun k => k.elim
          | ct ρ' => exact fun k => k.elim
        | err C ns fs ρ' S' =>
          intro k μ' H' σ' cls dd x w' _ ex
          simp only at k
          rcases hk2 with ⟨h1, rfl⟩ | ⟨h1, rfl⟩
          · rw [h1] at k
            exact k μ' H' cls dd x w' ex
          · rw [h1] at k
            simp only [Bool.false_eq_true, if_false] at k
            split at k
            · rename_i hlim
              have e1 : Ext μ H (μ'.take S.length) H' := by rw [← wo.len]; exact x.cut
              exact k (μ'.take S.length) H' cls dd e1 (w'.cut wo.bs) (ex.cut hlim)
            · exact k.elim
        | bad => exact fun k => k
      cases hk : d.keep with
      | true => exact main b Bs (.inl ⟨hk, rfl, rfl⟩)
      | false => exact main S.length (S.length :: Bs) (.inr ⟨hk, rfl, rfl⟩)
    · exact k.elim
end
end CL
namespace CL
open PySem PySem.Spec PyProof.Rows L2
theorem law_sp {T : Text} {ca : CA} {n N : Nat} (ht : ∀ ns : List Int, ns.length ≤ n → callN T N "law" false [.scr ns] 0 [] = .ok (.bl true) []) {K : PySem.W.Frag} (hK : ca.K = K) (H : Hp) (a : Addr) (ns : List Int) (hn : ns.length ≤ n) (hO : Only H) (hS : SqL K H a (ns.map V.int)) :
    spI ca (callN T N "law") [.ref a] H (fun v _ => v = .bl true) fun _ _ _ => False := by
  refine ⟨⟨ca, fun _ => False⟩, rfl, false, 0, [], [], [], [.scr ns], by simp, ⟨rfl, List.nodup_nil, by simp, by simp, by simp, fun a z => z.elim, by simp⟩, .cons (.scr ?_) .nil, ?_⟩
  · rcases hS with hS | hS
    · rcases hS with hS | ⟨o, hS⟩
      · rcases hO a with z | ⟨o, xs, z⟩
        · rw [z] at hS; cases hS
        · rw [z] at hS; cases hS
      · exact .inl ⟨o, hS, by simp, fun z => z⟩
    · refine .inr ?_
      subst hK
      exact hS
  · rw [ht ns hn]
    intro μ' H' v _ _ r
    cases r
    rfl
theorem no_cx {P : Program} {w : PySem.World} (H : Hp) (s : Shared) (e : Value) (s' : Shared) (h : L2.CX P w [] H s (fun _ _ _ => False) e s') : False := by
  obtain ⟨_, _, _, _, _, _, _, _, _, _, _, _, h⟩ := h
  exact h
theorem law_walk {l : PySem.W.OpenLaw} {q : Program} {loose : List Str} {XP : (Str → Option Value) → Heap → Prop} {YP : PySem.World → Heap → Prop} {d : DefRec} {K : Params → PySem.W.Frag} {T : Text} {N n : Nat} {M0 : MC} {ca : PySem.W.Frag → CA} {x : Str} {dl : Fn} {stl : Stmt}
    (hca : ∀ K, (ca K).K = K) (hn : l.most = some n) (hn2 : n ≤ sizeLine) (hdf : d.params.defaults = []) (hr : Room N callerA) (hY : ∀ (w : PySem.World) (h : Heap), YP w h → (K w.params).In h)
    (hf : M0.fn "law" = true) (hT : T.fns "law" = some dl) (hps : (dl.names.map nm).take dl.np = [x])
    (F : ∀ (w : PySem.World) (mg : Str → Option Value) (fa : Addr) (h : Heap), (K w.params).In h → h.Ns mainGlobals mg → mg d.name = some (.ref fa) →
      (∀ base, TextOk T l.prog w (K w.params) mg base (ca (K w.params)) M0) ∧ ∃ fd, DefAt T (K w.params) mg M0 "law" dl stl fa fd ∧ ∀ (s : Shared) (u : Value), BindsTo s fd ⟨[u], []⟩ [(x, u)])
    (ht : ∀ ns : List Int, ns.length ≤ n → callN T N "law" false [.scr ns] 0 [] = .ok (.bl true) []) :
    PySem.W.WalkO q loose XP YP l.row.toRowW d [] (fun f vs => PySem.call f vs) := by
  refine L2.walk_of (k := N) (x := x) (CX := fun w => L2.CX l.prog w) (sp := fun w => spI (ca (K w.params)) (callN T N "law")) hn hn2 hdf hr hY (fun w mg fa h KX G hmg => ?_) (fun w H a ns h1 h2 h3 => law_sp ht (hca _) H a ns h1 h2 h3) fun w H s e s' => no_cx H s e s'
  obtain ⟨tx, fd, dA, hb⟩ := F w mg fa h KX G hmg
  refine ⟨fd, hb, fun base _ _ => ?_⟩
  have := fn_level (tx base) N "law" hf dl stl fa fd hT dA
  rw [hps] at this
  exact this
end CL
namespace CL
theorem call_eq {T : Text} {n : Nat} {f : String} {d : Fn} {g : Bool} {args : List D} {b : Nat} {S : Store} (hT : T.fns f = some d) (hl : args.length = d.np) : callN T (n + 1) f g args b S = runFn (ctxN T n) d g (d.start args) b S := by
  simp only [callN, callsN, hT, hl, if_true]
theorem forL_run {body : Env → Store → RS} {tg : Tg} {w : Walk} {S : Store} (P : Env → Prop) (hw : w.held = []) : ∀ {items : List D} {ρ : Env} {F : RS}, forL body tg w items ρ S = F → P ρ →
    (∀ d ∈ items, ∀ ρ, P ρ → ∃ ρ1 ρ2, asg tg d ρ = some ρ1 ∧ body ρ1 S = .ok (.nx ρ2) S ∧ P ρ2) → ∃ ρ', F = .ok (.nx ρ') S ∧ P ρ'
  | [], ρ, F, hF, hP, _ => by
    rw [← hF]
    refine ⟨ρ, ?_, hP⟩
    simp [forL, Walk.still, hw]
  | d :: ds, ρ, F, hF, hP, h => by
    obtain ⟨ρ1, ρ2, h1, h2, h3⟩ := h d List.mem_cons_self ρ hP
    have st : w.still S = true := by simp [Walk.still, hw]
    simp only [forL, st, if_true, h1, h2] at hF
    exact forL_run P hw hF h3 fun e he => h e (List.mem_cons_of_mem _ he)
theorem lcL_pure {f : D → Env → Store → R (Option D)} {w : Walk} {ρ : Env} {S : Store} (g : D → Option D) (hw : w.held = []) : ∀ {items : List D}, (∀ d ∈ items, f d ρ S = .ok (g d) S) → lcL f w ρ items S = .ok (items.filterMap g) S
  | [], _ => by simp [lcL, Walk.still, hw]
  | d :: ds, h => by
    have st : w.still S = true := by simp [Walk.still, hw]
    have ih := lcL_pure (f := f) (ρ := ρ) (S := S) g hw (items := ds) fun e he => h e (List.mem_cons_of_mem _ he)
    have h1 := h d List.mem_cons_self
    simp only [lcL, st, if_true, h1]
    cases hg : g d with
    | none => simp [ih, List.filterMap_cons, hg]
    | some x => simp [ih, List.filterMap_cons, hg]
theorem lcL_run {f : D → Env → Store → R (Option D)} {w : Walk} {ρ : Env} (P : Store → Prop) (Rx : D → Prop) (hw : w.held = []) : ∀ {items : List D} {S : Store}, P S →
    (∀ d ∈ items, ∀ S, P S → ∃ x S', f d ρ S = .ok (some x) S' ∧ P S' ∧ Rx x) → ∃ xs S', lcL f w ρ items S = .ok xs S' ∧ P S' ∧ (∀ x ∈ xs, Rx x) ∧ xs.length = items.length
  | [], S, hP, _ => ⟨[], S, by simp [lcL, Walk.still, hw], hP, by simp, rfl⟩
  | d :: ds, S, hP, h => by
    have st : w.still S = true := by simp [Walk.still, hw]
    obtain ⟨x, S', h1, h2, h3⟩ := h d List.mem_cons_self S hP
    obtain ⟨xs, S'', h4, h5, h6, h7⟩ := lcL_run (f := f) (ρ := ρ) P Rx hw (items := ds) h2 fun e he => h e (List.mem_cons_of_mem _ he)
    refine ⟨x :: xs, S'', by simp only [lcL, st, if_true, h1, h4], h5, ?_, by simp [h7]⟩
    intro y hy
    rcases List.mem_cons.mp hy with e | e
    · rw [e]; exact h3
    · exact h6 y e
theorem datL_strs {n : Nat} (hn : 0 < n) : ∀ ls : List (List Nat), D.datL n (ls.map .str) = true
  | [] => rfl
  | l :: ls => by simp [D.datL, D.dat, hn, datL_strs hn ls]
section
variable {c : Ctx} {b : Nat} {ρ : Env} {S : Store} {ss : Ss} {Q : RS → Prop}
theorem X_set {i : Nat} {e : E} (d : D) (S1 : Store) (h : ev c b e ρ S = .ok d S1) (k : Q (exs b ss c (ρ.set i (some d)) S1)) : Q (exs b (.cons (.set (.one i) e) ss) c ρ S) := by
  simp only [exs, exS, h, R.then, asg, RS.then]
  exact k
theorem X_ret {e : E} (d : D) (S1 : Store) (h : ev c b e ρ S = .ok d S1) (k : Q (.ok (.rt d) S1)) : Q (exs b (.cons (.ret e) ss) c ρ S) := by
  simp only [exs, exS, h, R.then, RS.then]
  exact k
theorem X_ex {e : E} (d : D) (S1 : Store) (h : ev c b e ρ S = .ok d S1) (k : Q (exs b ss c ρ S1)) : Q (exs b (.cons (.ex e) ss) c ρ S) := by
  simp only [exs, exS, h, R.then, RS.then]
  exact k
theorem X_ite {q : E} {xs ys : Ss} (d : D) (S1 : Store) (t : Bool) (h : ev c b q ρ S = .ok d S1) (ht : truD (vw S1 d) = some t) (k : Q ((exs b (if t then xs else ys) c ρ S1).then fun ρ1 S2 => exs b ss c ρ1 S2)) : Q (exs b (.cons (.ite q xs ys) ss) c ρ S) := by
  simp only [exs, exS, h, R.then, ht]
  cases t <;> exact k
theorem X_skip {q : E} {xs : Ss} (d : D) (S1 : Store) (h : ev c b q ρ S = .ok d S1) (ht : truD (vw S1 d) = some false) (k : Q (exs b ss c ρ S1)) : Q (exs b (.cons (.ite q xs .nil) ss) c ρ S) := by
  simp only [exs, exS, h, R.then, ht, RS.then]
  exact k
theorem X_stop {q e : E} {xs ys : Ss} (d : D) (S1 : Store) (r : D) (S2 : Store) (h : ev c b q ρ S = .ok d S1) (ht : truD (vw S1 d) = some true) (h2 : ev c b e ρ S1 = .ok r S2) (k : Q (.ok (.rt r) S2)) : Q (exs b (.cons (.ite q (.cons (.ret e) xs) ys) ss) c ρ S) := by
  simp only [exs, exS, h, R.then, ht, RS.then, h2]
  exact k
theorem X_yes {q : E} {xs ys : Ss} (d : D) (S1 : Store) (h : ev c b q ρ S = .ok d S1) (ht : truD (vw S1 d) = some true) {r : RS} (h2 : exs b xs c ρ S1 = r) (k : Q (r.then fun ρ1 S2 => exs b ss c ρ1 S2)) : Q (exs b (.cons (.ite q xs ys) ss) c ρ S) := by
  simp only [exs, exS, h, R.then, ht, h2]
  exact k
theorem X_for {tg : Tg} {it : It} {body : Ss} (w : Walk) (S1 : Store) (h : evIt c b it ρ S = .ok w S1) (k : Q ((forL (fun ρ S => exs b body c ρ S) tg w w.items ρ S1).then fun ρ1 S2 => exs b ss c ρ1 S2)) : Q (exs b (.cons (.for_ tg it body) ss) c ρ S) := by
  simp only [exs, exS, h, R.then]
  exact k
end
theorem forL_on {body : Env → Store → RS} {tg : Tg} {w : Walk} {S : Store} {Q : RS → Prop} (P : Env → Prop) (hw : w.held = []) {items : List D} {ρ : Env} (hP : P ρ)
    (h : ∀ d ∈ items, ∀ ρ, P ρ → ∃ ρ1 ρ2, asg tg d ρ = some ρ1 ∧ body ρ1 S = .ok (.nx ρ2) S ∧ P ρ2) (k : ∀ ρ', P ρ' → Q (.ok (.nx ρ') S)) : Q (forL body tg w items ρ S) := by
  obtain ⟨ρ', e, hp⟩ := forL_run P hw rfl hP h
  rw [e]
  exact k ρ' hp
def fnRes (keep give : Bool) (n : Nat) : RS → R D
  | .ok (.nx _) S' => fin keep give n S' .non
  | .ok (.rt d) S' => fin keep give n S' d
  | .err C ns ds _ S' => if keep then .err C ns ds S' else if D.limL n ds then .err C ns ds (S'.take n) else .bad
  | _ => .bad
theorem run_res {c : Ctx} {f : Fn} {give : Bool} {ρ : Env} {b : Nat} {S : Store} : runFn c f give ρ b S = fnRes f.keep give S.length (exs (if f.keep then b else S.length) f.body c ρ S) := by
  unfold runFn fnRes
  rfl
theorem call_by {T : Text} {n : Nat} {f : String} {d : Fn} {args : List D} {b : Nat} {S : Store} {r : R D} (hT : T.fns f = some d) (hl : args.length = d.np)
    (h : ∀ Q : RS → Prop, (∀ x, fnRes d.keep false S.length x = r → Q x) → Q (exs (if d.keep then b else S.length) d.body (ctxN T n) (d.start args) S)) : callN T (n + 1) f false args b S = r := by
  rw [call_eq hT hl, run_res]
  exact h (fun x => fnRes d.keep false S.length x = r) fun x e => e
theorem e_cmp {c : Ctx} {b : Nat} {o : CO} {x y : E} {ρ : Env} {S S1 S2 : Store} {d e : D} {t : Bool} (h1 : ev c b x ρ S = .ok d S1) (h2 : ev c b y ρ S1 = .ok e S2) (h3 : cmpD o (vw S2 d) (vw S2 e) = some t) : ev c b (.cmp o x y) ρ S = .ok (.bl t) S2 := by
  simp only [ev, h1, R.bind, h2, h3, R.of, Option.map_some]
theorem datL_signs {n : Nat} (hn : 0 < n) : ∀ l : List Nat, D.datL n (l.map fun ch => D.str [ch]) = true
  | [] => rfl
  | l :: ls => by simp [D.datL, D.dat, hn, datL_signs hn ls]
theorem eqv_nil (ds : List D) : D.eqv (.lst ds) (.lst []) = ds.isEmpty := by
  cases ds <;> simp [D.eqv, D.eqvL]
theorem ctx_call (T : Text) (n : Nat) (f : String) (g : Bool) (ds : List D) (b : Nat) (S : Store) : (ctxN T n).call f g ds b S = callN T n f g ds b S := rfl
theorem ctx_con (T : Text) (n : Nat) (g : String) : (ctxN T n).con g = T.con g := rfl
theorem cut_len {α : Type} (l : List α) (lo hi : Option Int) : (cutL l lo hi).length ≤ l.length := by
  unfold cutL
  dsimp only
  rw [List.length_take, List.length_drop]
  omega
theorem lim_of {n : Nat} (h : n ≤ 1000) : n ≤ LIM := by unfold LIM; omega
theorem eq_signs (S : Store) (l : List Nat) : cmpD .eq (vw S (.lst (l.map fun ch => D.str [ch]))) (vw S (.lst [])) = some l.isEmpty := by
  show eqD (.lst (l.map fun ch => D.str [ch])) (.lst []) = _
  have hd : D.dat dp (.lst (l.map fun ch => D.str [ch])) = true := by rw [D.dat]; exact datL_signs (by decide) _
  have h2 : D.dat dp (.lst []) = true := rfl
  unfold eqD
  rw [if_pos (by rw [hd, h2]; rfl), eqv_nil]
  cases l <;> rfl
theorem vw_bl (S : Store) (t : Bool) : vw S (.bl t) = .bl t := rfl
theorem bls_map {α : Type} (f : α → Bool) : ∀ l : List α, bls (l.map fun a => D.bl (f a)) = some (l.map f)
  | [] => rfl
  | a :: l => by simp [bls, bls_map f l]
theorem filterMap_map_some {α : Type} (f : α → D) (g : D → Option D) (h : α → D) (e : ∀ a, g (f a) = some (h a)) : ∀ l : List α, (l.map f).filterMap g = l.map h
  | [] => rfl
  | a :: l => by simp only [List.map_cons, List.filterMap_cons, e, filterMap_map_some f g h e l]
section
variable {c : Ctx} {b : Nat} {ρ : Env} {S S1 S2 S3 : Store}
theorem e_lc {elt : E} {tg : Tg} {it : It} {w : Walk} {ds : List D} (h1 : evIt c b it ρ S = .ok w S1) (h2 : w.items.length ≤ LIM) (h3 : lcL (lcF tg fun ρ S => ev c b elt ρ S) w (wipeE ρ tg.slots) w.items S1 = .ok ds S2) : ev c b (.lc elt tg it) ρ S = .ok (.lst ds) S2 := by
  have e : ev c b (.lc elt tg it) ρ S = (evIt c b it ρ S).bind fun w S1 => (lcR (lcF tg fun ρ S => ev c b elt ρ S) w (wipeE ρ tg.slots) S1).bind fun ds S2 => .ok (.lst ds) S2 := by
    simp only [ev]
    rfl
  rw [e, h1]
  simp only [R.bind, lcR, h2, if_true, h3]
theorem e_bm {m : MB} {x : E} {es : Es} {d r : D} {ds : List D} (h1 : ev c b x ρ S = .ok d S1) (hm : (mbId m (kindD (vw S1 d))).isSome = true) (h2 : evs c b es ρ S1 = .ok ds S2) (hk : kindD (vw S1 d) = kindD (vw S2 d)) (h3 : bmD m d ds b S2 = .ok r S3) : ev c b (.bm m x es) ρ S = .ok r S3 := by
  simp only [ev, h1, R.bind, hm, if_true, h2]
  rw [if_pos hk, h3]
theorem e_call {T : Text} {n : Nat} {f : String} {g : Bool} {es : Es} {ds : List D} {r : R D} (h1 : evs (ctxN T n) b es ρ S = .ok ds S1) (h2 : callN T n f g ds b S1 = r) : ev (ctxN T n) b (.call f g es) ρ S = r := by
  simp only [ev, h1, R.bind, ctx_call, h2]
theorem es_one {e : E} {d : D} (h : ev c b e ρ S = .ok d S1) : evs c b (.cons e .nil) ρ S = .ok [d] S1 := by
  simp only [evs, h, R.bind]
theorem e_idx {x y : E} {d e r : D} (h1 : ev c b x ρ S = .ok d S1) (h2 : ev c b y ρ S1 = .ok e S2) (h3 : idxD (vw S2 d) (vw S2 e) = some r) : ev c b (.idx x y) ρ S = .ok r S2 := by
  simp only [ev, h1, R.bind, h2, h3, R.of]
theorem e_bop {o : BO} {x y : E} {d e r : D} (h1 : ev c b x ρ S = .ok d S1) (h2 : ev c b y ρ S1 = .ok e S2) (h3 : bop o (vw S2 d) (vw S2 e) = some r) : ev c b (.bop o x y) ρ S = .ok r S2 := by
  simp only [ev, h1, R.bind, h2, h3, R.of]
theorem e_slHi {x y : E} {l : List Nat} {i : Int} (h1 : ev c b x ρ S = .ok (.str l) S1) (h2 : ev c b y ρ S1 = .ok (.int i) S2) (hl : l.length ≤ LIM) : ev c b (.slHi x y) ρ S = .ok (.str (cutL l none (some i))) S2 := by
  simp only [ev, h1, R.bind, h2, vw, slD, hl, if_true, R.of]
theorem e_slLo {x y : E} {l : List Nat} {i : Int} (h1 : ev c b x ρ S = .ok (.str l) S1) (h2 : ev c b y ρ S1 = .ok (.int i) S2) (hl : l.length ≤ LIM) : ev c b (.slLo x y) ρ S = .ok (.str (cutL l (some i) none)) S2 := by
  simp only [ev, h1, R.bind, h2, vw, slD, hl, if_true, R.of]
theorem e_cat {x y : E} {l m : List Nat} (h1 : ev c b x ρ S = .ok (.str l) S1) (h2 : ev c b y ρ S1 = .ok (.str m) S2) (hl : l.length + m.length ≤ LIM) : ev c b (.bop .add x y) ρ S = .ok (.str (l ++ m)) S2 :=
  e_bop h1 h2 (by
    have : catOk l.length m.length = true := decide_eq_true hl
    simp only [vw, bop, this, if_true])
theorem e_len {x : E} {l : List Nat} (h1 : ev c b x ρ S = .ok (.str l) S1) (hl : l.length ≤ LIM) : ev c b (.bi .len (.cons x .nil)) ρ S = .ok (.int (l.length : Int)) S1 := by
  simp only [ev, evs, h1, R.bind, List.map_cons, List.map_nil, vw, fbD, lenD, hl, if_true, Option.map_some, R.of]
end
theorem txts_ones : ∀ xs : List D, (∀ x ∈ xs, ∃ ch, x = .str [ch]) → ∃ ls, txts xs = some ls ∧ (∀ l ∈ ls, l.length = 1) ∧ ls.length = xs.length
  | [], _ => ⟨[], rfl, by simp, rfl⟩
  | x :: xs, h => by
    obtain ⟨ch, rfl⟩ := h x List.mem_cons_self
    obtain ⟨ls, h1, h2, h3⟩ := txts_ones xs fun y hy => h y (List.mem_cons_of_mem _ hy)
    exact ⟨[ch] :: ls, by simp [txts, h1], by simpa using h2, by simp [h3]⟩
theorem sum_ones : ∀ ls : List (List Nat), (∀ l ∈ ls, l.length = 1) → (ls.map List.length).sum = ls.length
  | [], _ => rfl
  | l :: ls, h => by
    have := sum_ones ls fun y hy => h y (List.mem_cons_of_mem _ hy)
    simp [h l List.mem_cons_self, this]; omega
theorem join_ones_len (ls : List (List Nat)) (h : ∀ l ∈ ls, l.length = 1) : ∃ l, tD (PySem.Txt.join (sT []) (ls.map sT)) = .str l ∧ l.length = ls.length := by
  refine ⟨_, rfl, ?_⟩
  have e : sT [] = PySem.Str.ofString "" := by decide +kernel
  rw [e]
  have := PySem.W.KT.join_ones (ls.map sT) fun a ha => by
    obtain ⟨l, hl, rfl⟩ := List.mem_map.mp ha
    rw [show (sT l).length = l.length from str_len l]
    exact h l hl
  rw [List.length_map] at this
  rw [← this]
  simp [PySem.Str.length]
theorem forL_st {body : Env → Store → RS} {tg : Tg} {w : Walk} {Q : RS → Prop} (P : Env → Store → Prop) (hw : w.held = []) : ∀ {items : List D} {ρ : Env} {S : Store}, P ρ S →
    (∀ d ∈ items, ∀ ρ S, P ρ S → ∃ ρ1, asg tg d ρ = some ρ1 ∧ ∃ ρ2 S2, body ρ1 S = .ok (.nx ρ2) S2 ∧ P ρ2 S2) → (∀ ρ' S', P ρ' S' → Q (.ok (.nx ρ') S')) → Q (forL body tg w items ρ S)
  | [], ρ, S, hP, _, k => by
    have st : w.still S = true := by simp [Walk.still, hw]
    simp only [forL, st, if_true]
    exact k ρ S hP
  | d :: ds, ρ, S, hP, h, k => by
    have st : w.still S = true := by simp [Walk.still, hw]
    obtain ⟨ρ1, h1, ρ2, S2, h2, h3⟩ := h d List.mem_cons_self ρ S hP
    simp only [forL, st, if_true, h1, h2]
    exact forL_st P hw h3 (fun e he => h e (List.mem_cons_of_mem _ he)) k
theorem ranges_one {n : Int} (h1 : -10000000 ≤ n) (h2 : n ≤ 10000000) : ranges [.int n] = some ((List.range n.toNat).map fun (k : Nat) => .int k) := by
  unfold ranges
  exact if_pos ⟨h1, h2⟩
theorem it_range1 {c : Ctx} {b : Nat} {ρ : Env} {S S1 : Store} {es : Es} {n : Int} (h : evs c b es ρ S = .ok [.int n] S1) (h1 : -10000000 ≤ n) (h2 : n ≤ 10000000) : evIt c b (.range es) ρ S = .ok ⟨(List.range n.toNat).map fun (k : Nat) => .int k, []⟩ S1 := by
  simp only [evIt, h, R.bind, ranges_one h1 h2, Option.map_some, R.of]
end CL
namespace CL
open PySem PySem.Spec PyProof.Rows L2
namespace L01
def top (i : Nat) : Stmt := PySem.Challenge.pw_cardlanes_k01_names.main.body.getD i (.Pass ⟨0, 0, 0, 0⟩)
def f_is_name : Fn where
  np := 1
  names := ["thing", "sign"]
  body := (.cons (.ite (.or (.cons (.not (.isi (.var 0) ["str"] false)) (.cons (.not (.chain .le .le (.int 1) (.bi .len (.cons (.var 0) .nil)) (.gcon "MOST_SIGNS"))) .nil))) (.cons (.ret (.bl false)) .nil) .nil) (.cons (.ite (.or (.cons (.cmp .eq (.var 0) (.str [111, 117, 116])) (.cons (.cmp .eq (.var 0) (.str [121, 97, 114, 100])) .nil))) (.cons (.ret (.bl false)) .nil) .nil) (.cons (.ret (.cmp .eq (.lcIf (.var 1) (.one 1) (.val (.var 0)) (.cmp .notIn (.var 1) (.gcon "LETTERS"))) (.lst .nil))) .nil)))
  keep := false
def f__law_digits : Fn where
  np := 2
  names := ["_law_script", "_law_k", "_law_cell", "_law_total", "_law_number", "_law_turn"]
  body := (.cons (.set (.one 2) (.ife (.cmp .lt (.var 1) (.bi .len (.cons (.var 0) .nil))) (.idx (.var 0) (.var 1)) (.int 0))) (.cons (.ite (.cmp .ge (.var 2) (.bop .pow (.int 10) (.int 18))) (.cons (.ret (.newl (.cons (.bop .sub (.var 2) (.bop .pow (.int 10) (.int 18))) .nil))) .nil) .nil) (.cons (.set (.one 3) (.int 0)) (.cons (.set (.one 4) (.bop .mod (.bop .add (.bop .add (.bop .mul (.var 2) (.int 48271)) (.bop .mul (.int 7919) (.var 1))) (.int 11)) (.int 2147483647))) (.cons (.for_ (.one 5) (.range (.cons (.int 12) .nil)) (.cons (.set (.one 4) (.bop .mod (.bop .add (.bop .add (.bop .mul (.var 4) (.var 4)) (.bop .mul (.int 48271) (.var 4))) (.var 5)) (.int 2147483629))) (.cons (.set (.one 3) (.bop .add (.bop .mul (.var 3) (.int 2147483587)) (.bop .mod (.bop .mul (.var 4) (.int 69621)) (.int 2147483587)))) .nil))) (.cons (.ret (.newl (.cons (.var 3) .nil))) .nil))))))
  keep := true
def f__law_take : Fn where
  np := 2
  names := ["_law_held", "_law_many", "_law_found"]
  body := (.cons (.set (.one 2) (.bop .mod (.idx (.var 0) (.int 0)) (.var 1))) (.cons (.setIdx (.var 0) (.int 0) (.bop .fdiv (.idx (.var 0) (.int 0)) (.var 1))) (.cons (.ret (.var 2)) .nil)))
  keep := false
def f__law_text : Fn where
  np := 1
  names := ["_law_held", "_law_letters", "_law_word", "_law_at", "_law_some", "_law_k"]
  body := (.cons (.ite (.cmp .eq (.call "_law_take" false (.cons (.var 0) (.cons (.int 5) .nil))) (.int 0)) (.cons (.set (.one 2) (.idx (.lst (.cons (.str [111, 117, 116]) (.cons (.str [121, 97, 114, 100]) .nil))) (.call "_law_take" false (.cons (.var 0) (.cons (.int 2) .nil))))) (.cons (.set (.one 3) (.call "_law_take" false (.cons (.var 0) (.cons (.bop .add (.bi .len (.cons (.var 2) .nil)) (.int 1)) .nil)))) (.cons (.set (.one 4) (.lst (.cons (.var 2) (.cons (.bop .add (.slHi (.var 2) (.var 3)) (.slLo (.var 2) (.bop .add (.var 3) (.int 1)))) (.cons (.bop .add (.bop .add (.slHi (.var 2) (.var 3)) (.str [97])) (.slLo (.var 2) (.var 3))) .nil))))) (.cons (.ret (.idx (.var 4) (.call "_law_take" false (.cons (.var 0) (.cons (.int 3) .nil))))) .nil)))) .nil) (.cons (.set (.one 1) (.str [97, 98, 99, 100, 101, 102, 103, 104, 105, 106, 107, 108, 109, 110, 111, 112, 113, 114, 115, 116, 117, 118, 119, 120, 121, 122])) (.cons (.set (.one 2) (.bm .join (.str []) (.cons (.lc (.idx (.var 1) (.call "_law_take" false (.cons (.var 0) (.cons (.int 26) .nil)))) (.one 5) (.range (.cons (.call "_law_take" false (.cons (.var 0) (.cons (.int 11) .nil))) .nil))) .nil))) (.cons (.ite (.and (.cons (.cmp .ne (.var 2) (.str [])) (.cons (.cmp .eq (.call "_law_take" false (.cons (.var 0) (.cons (.int 2) .nil))) (.int 0)) .nil))) (.cons (.set (.one 3) (.call "_law_take" false (.cons (.var 0) (.cons (.bi .len (.cons (.var 2) .nil)) .nil)))) (.cons (.set (.one 2) (.bop .add (.bop .add (.slHi (.var 2) (.var 3)) (.idx (.str [65, 32, 90, 48, 95, 58, 10, 123]) (.call "_law_take" false (.cons (.var 0) (.cons (.int 8) .nil))))) (.slLo (.var 2) (.bop .add (.var 3) (.int 1))))) .nil)) .nil) (.cons (.ret (.var 2)) .nil)))))
  keep := false
def f__law_due : Fn where
  np := 1
  names := ["_law_text_here", "_law_sign"]
  body := (.cons (.ite (.or (.cons (.cmp .lt (.bi .len (.cons (.var 0) .nil)) (.int 1)) (.cons (.cmp .gt (.bi .len (.cons (.var 0) .nil)) (.int 8)) (.cons (.cmp .isIn (.var 0) (.tup (.cons (.str [111, 117, 116]) (.cons (.str [121, 97, 114, 100]) .nil)))) .nil)))) (.cons (.ret (.bl false)) .nil) .nil) (.cons (.ret (.bi .all (.cons (.lc (.cmp .isIn (.var 1) (.str [97, 98, 99, 100, 101, 102, 103, 104, 105, 106, 107, 108, 109, 110, 111, 112, 113, 114, 115, 116, 117, 118, 119, 120, 121, 122])) (.one 1) (.val (.var 0))) .nil))) .nil))
  keep := false
def f_law : Fn where
  np := 1
  names := ["_law_script", "_law_k", "_law_thing", "_law_text_here", "_law_found"]
  body := (.cons (.for_ (.one 1) (.range (.cons (.bop .add (.bi .min (.cons (.int 63) (.cons (.bi .len (.cons (.var 0) .nil)) .nil))) (.int 1)) .nil)) (.cons (.set (.one 3) (.call "_law_text" false (.cons (.call "_law_digits" false (.cons (.var 0) (.cons (.var 1) .nil))) .nil))) (.cons (.set (.one 4) (.call "is_name" false (.cons (.var 3) .nil))) (.cons (.ite (.or (.cons (.not (.isi (.var 4) ["bool"] false)) (.cons (.cmp .ne (.var 4) (.call "_law_due" false (.cons (.var 3) .nil))) .nil))) (.cons (.ret (.bl false)) .nil) .nil) .nil)))) (.cons (.for_ (.one 2) (.val (.lst (.cons .non (.cons (.int 0) (.cons (.bl true) (.cons (.int 7) (.cons (.tup .nil) (.cons (.tup (.cons (.str [97]) .nil)) (.cons (.lst .nil) (.cons (.lst (.cons (.str [97]) .nil)) (.cons (.str []) (.cons (.str [111, 117, 116]) (.cons (.str [121, 97, 114, 100]) (.cons (.str [111, 117, 116, 115]) (.cons (.str [97, 98, 99, 100, 101, 102, 103, 104, 105]) .nil))))))))))))))) (.cons (.set (.one 4) (.call "is_name" false (.cons (.var 2) .nil))) (.cons (.ite (.or (.cons (.not (.isi (.var 4) ["bool"] false)) (.cons (.cmp .ne (.var 4) (.cmp .eq (.var 2) (.str [111, 117, 116, 115]))) .nil))) (.cons (.ret (.bl false)) .nil) .nil) .nil))) (.cons (.ret (.cmp .is (.call "is_name" false (.cons (.str [97, 98, 99, 100, 101, 102, 103, 104]) .nil)) (.bl true))) .nil)))
  keep := false
def T : Text where
  fns := fun f => if f = "is_name" then some f_is_name else if f = "_law_digits" then some f__law_digits else if f = "_law_take" then some f__law_take else if f = "_law_text" then some f__law_text else if f = "_law_due" then some f__law_due else if f = "law" then some f_law else none
  cls := fun _ => none
  meth := fun _ _ => none
  con := fun g => if g = "LETTERS" then some (.str [97, 98, 99, 100, 101, 102, 103, 104, 105, 106, 107, 108, 109, 110, 111, 112, 113, 114, 115, 116, 117, 118, 119, 120, 121, 122]) else if g = "MOST_SIGNS" then some (.int 8) else none
  isa := fun _ _ => none
  flds := fun _ => none
  fuel := 0
def M0 : MC where
  N := []
  sc := { kind := .function, names := [], isGenerator := false, isCoroutine := false }
  fn := fun f => decide (f ∈ ["is_name", "_law_digits", "_law_take", "_law_text", "_law_due", "law"])
  cl := fun _ => false
  con := fun g => decide (g ∈ ["LETTERS", "MOST_SIGNS"])
theorem mt_is_name : f_is_name.body.mt { M0 with N := f_is_name.names.map nm, sc := defScope (top 3) } (defBody (top 3)) = true := by decide +kernel
theorem mt__law_digits : f__law_digits.body.mt { M0 with N := f__law_digits.names.map nm, sc := defScope (top 5) } (defBody (top 5)) = true := by decide +kernel
theorem mt__law_take : f__law_take.body.mt { M0 with N := f__law_take.names.map nm, sc := defScope (top 6) } (defBody (top 6)) = true := by decide +kernel
theorem mt__law_text : f__law_text.body.mt { M0 with N := f__law_text.names.map nm, sc := defScope (top 7) } (defBody (top 7)) = true := by decide +kernel
theorem mt__law_due : f__law_due.body.mt { M0 with N := f__law_due.names.map nm, sc := defScope (top 8) } (defBody (top 8)) = true := by decide +kernel
theorem mt_law : f_law.body.mt { M0 with N := f_law.names.map nm, sc := defScope (top 9) } (defBody (top 9)) = true := by decide +kernel
theorem text_ok {l : PySem.W.OpenLaw} {w : PySem.World} {K : PySem.W.Frag} {h : Heap} {mg : Str → Option Value} (X : K.In h) (G : h.Ns mainGlobals mg) {f1 : Addr} {od1 an1 : Option Addr} {sl1 : Array (Option Value)} {oc1 kV1 dc1 pm1 cd1 ct1 : Value} {f2 : Addr} {od2 an2 : Option Addr} {sl2 : Array (Option Value)} {oc2 kV2 dc2 pm2 cd2 ct2 : Value} {f3 : Addr} {od3 an3 : Option Addr} {sl3 : Array (Option Value)} {oc3 kV3 dc3 pm3 cd3 ct3 : Value} {f4 : Addr} {od4 an4 : Option Addr} {sl4 : Array (Option Value)} {oc4 kV4 dc4 pm4 cd4 ct4 : Value} {f5 : Addr} {od5 an5 : Option Addr} {sl5 : Array (Option Value)} {oc5 kV5 dc5 pm5 cd5 ct5 : Value} {f6 : Addr} {od6 an6 : Option Addr} {sl6 : Array (Option Value)} {oc6 kV6 dc6 pm6 cd6 ct6 : Value} {tL tM : Tok}
    (a1 : PySem.W.nsIn K mainGlobals "is_name" = some (some (.ref f1))) (l1 : K.lookup f1 = some ⟨oc1, od1, .func (PySem.W.fnOf "is_name" "is_name" (defArgs (top 3)) (defBody (top 3)) (defScope (top 3)) .none kV1 dc1 pm1 an1 cd1 ct1), sl1⟩) (c1 : PySem.W.codeIn K cd1 "is_name" = true) (k1 : PySem.W.keepIn K (.ref f1) = true)
    (a2 : PySem.W.nsIn K mainGlobals "_law_digits" = some (some (.ref f2))) (l2 : K.lookup f2 = some ⟨oc2, od2, .func (PySem.W.fnOf "_law_digits" "_law_digits" (defArgs (top 5)) (defBody (top 5)) (defScope (top 5)) .none kV2 dc2 pm2 an2 cd2 ct2), sl2⟩) (c2 : PySem.W.codeIn K cd2 "_law_digits" = true) (k2 : PySem.W.keepIn K (.ref f2) = true)
    (a3 : PySem.W.nsIn K mainGlobals "_law_take" = some (some (.ref f3))) (l3 : K.lookup f3 = some ⟨oc3, od3, .func (PySem.W.fnOf "_law_take" "_law_take" (defArgs (top 6)) (defBody (top 6)) (defScope (top 6)) .none kV3 dc3 pm3 an3 cd3 ct3), sl3⟩) (c3 : PySem.W.codeIn K cd3 "_law_take" = true) (k3 : PySem.W.keepIn K (.ref f3) = true)
    (a4 : PySem.W.nsIn K mainGlobals "_law_text" = some (some (.ref f4))) (l4 : K.lookup f4 = some ⟨oc4, od4, .func (PySem.W.fnOf "_law_text" "_law_text" (defArgs (top 7)) (defBody (top 7)) (defScope (top 7)) .none kV4 dc4 pm4 an4 cd4 ct4), sl4⟩) (c4 : PySem.W.codeIn K cd4 "_law_text" = true) (k4 : PySem.W.keepIn K (.ref f4) = true)
    (a5 : PySem.W.nsIn K mainGlobals "_law_due" = some (some (.ref f5))) (l5 : K.lookup f5 = some ⟨oc5, od5, .func (PySem.W.fnOf "_law_due" "_law_due" (defArgs (top 8)) (defBody (top 8)) (defScope (top 8)) .none kV5 dc5 pm5 an5 cd5 ct5), sl5⟩) (c5 : PySem.W.codeIn K cd5 "_law_due" = true) (k5 : PySem.W.keepIn K (.ref f5) = true)
    (a6 : PySem.W.nsIn K mainGlobals "law" = some (some (.ref f6))) (l6 : K.lookup f6 = some ⟨oc6, od6, .func (PySem.W.fnOf "law" "law" (defArgs (top 9)) (defBody (top 9)) (defScope (top 9)) .none kV6 dc6 pm6 an6 cd6 ct6), sl6⟩) (c6 : PySem.W.codeIn K cd6 "law" = true) (k6 : PySem.W.keepIn K (.ref f6) = true)
    (z0 : PySem.W.nsIn K mainGlobals "len" = some none)
    (z1 : PySem.W.nsIn K mainGlobals "str" = some none)
    (z2 : PySem.W.nsIn K mainGlobals "int" = some none)
    (z3 : PySem.W.nsIn K mainGlobals "tuple" = some none)
    (z4 : PySem.W.nsIn K mainGlobals "list" = some none)
    (z5 : PySem.W.nsIn K mainGlobals "sorted" = some none)
    (z6 : PySem.W.nsIn K mainGlobals "min" = some none)
    (z7 : PySem.W.nsIn K mainGlobals "max" = some none)
    (z8 : PySem.W.nsIn K mainGlobals "abs" = some none)
    (z9 : PySem.W.nsIn K mainGlobals "sum" = some none)
    (z10 : PySem.W.nsIn K mainGlobals "all" = some none)
    (z11 : PySem.W.nsIn K mainGlobals "range" = some none)
    (z12 : PySem.W.nsIn K mainGlobals "enumerate" = some none)
    (z13 : PySem.W.nsIn K mainGlobals "zip" = some none)
    (z14 : PySem.W.nsIn K mainGlobals "isinstance" = some none)
    (z15 : PySem.W.nsIn K mainGlobals "set" = some none)
    (z16 : PySem.W.nsIn K mainGlobals "bool" = some none)
    (z17 : PySem.W.nsIn K mainGlobals "dict" = some none)
    (cL : PySem.W.nsIn K mainGlobals "LETTERS" = some (some (.str "abcdefghijklmnopqrstuvwxyz" tL))) (cM : PySem.W.nsIn K mainGlobals "MOST_SIGNS" = some (some (.int 8 tM))) {fa : Addr} (hfa : mg "law" = some (.ref fa)) : (∀ base : Heap, TextOk T l.prog w K mg base ⟨fun _ => 0, K⟩ M0) ∧ ∃ fd, DefAt T K mg M0 "law" f_law (top 9) fa fd ∧ ∀ (s : Shared) (u : Value), BindsTo s fd ⟨[u], []⟩ [(nm "_law_script", u)] := by
  have F1 := fun_mk (st := top 3) l1 c1 k1
  have F2 := fun_mk (st := top 5) l2 c2 k2
  have F3 := fun_mk (st := top 6) l3 c3 k3
  have F4 := fun_mk (st := top 7) l4 c4 k4
  have F5 := fun_mk (st := top 8) l5 c5 k5
  have F6 := fun_mk (st := top 9) l6 c6 k6
  have D6 : DefAt T K mg M0 "law" f_law (top 9) f6 _ := ⟨F6, PySem.W.mg_of X G a6, ⟨rfl, rfl, rfl, by decide +kernel, rfl, by decide +kernel, by decide +kernel⟩, by decide +kernel, F6.binds (fun _ _ _ _ _ _ us hl => match us, hl with | [_], _ => rfl), mt_law⟩
  have e6 := hfa.symm.trans (PySem.W.mg_of X G a6)
  cases e6
  refine ⟨fun base => ?_, _, D6, fun s u => .of_eq rfl⟩
  refine { hK := rfl, fns := ?_, bi := ?_, con := ?_, cls := ?_, bcl := ?_, isaN := ?_, isaI := ?_ }
  · intro f hf
    have hf' : f ∈ ["is_name", "_law_digits", "_law_take", "_law_text", "_law_due", "law"] := of_decide_eq_true hf
    simp only [List.mem_cons, List.not_mem_nil, or_false] at hf'
    rcases hf' with rfl | rfl | rfl | rfl | rfl | rfl
    · exact ⟨f_is_name, top 3, f1, _, by simp [T], F1, PySem.W.mg_of X G a1, ⟨rfl, rfl, rfl, by decide +kernel, rfl, by decide +kernel, by decide +kernel⟩, by decide +kernel, F1.binds (fun _ _ _ _ _ _ us hl => match us, hl with | [_], _ => rfl), mt_is_name⟩
    · exact ⟨f__law_digits, top 5, f2, _, by simp [T], F2, PySem.W.mg_of X G a2, ⟨rfl, rfl, rfl, by decide +kernel, rfl, by decide +kernel, by decide +kernel⟩, by decide +kernel, F2.binds (fun _ _ _ _ _ _ us hl => match us, hl with | [_, _], _ => rfl), mt__law_digits⟩
    · exact ⟨f__law_take, top 6, f3, _, by simp [T], F3, PySem.W.mg_of X G a3, ⟨rfl, rfl, rfl, by decide +kernel, rfl, by decide +kernel, by decide +kernel⟩, by decide +kernel, F3.binds (fun _ _ _ _ _ _ us hl => match us, hl with | [_, _], _ => rfl), mt__law_take⟩
    · exact ⟨f__law_text, top 7, f4, _, by simp [T], F4, PySem.W.mg_of X G a4, ⟨rfl, rfl, rfl, by decide +kernel, rfl, by decide +kernel, by decide +kernel⟩, by decide +kernel, F4.binds (fun _ _ _ _ _ _ us hl => match us, hl with | [_], _ => rfl), mt__law_text⟩
    · exact ⟨f__law_due, top 8, f5, _, by simp [T], F5, PySem.W.mg_of X G a5, ⟨rfl, rfl, rfl, by decide +kernel, rfl, by decide +kernel, by decide +kernel⟩, by decide +kernel, F5.binds (fun _ _ _ _ _ _ us hl => match us, hl with | [_], _ => rfl), mt__law_due⟩
    · exact ⟨f_law, top 9, f6, _, by simp [T], F6, PySem.W.mg_of X G a6, ⟨rfl, rfl, rfl, by decide +kernel, rfl, by decide +kernel, by decide +kernel⟩, by decide +kernel, F6.binds (fun _ _ _ _ _ _ us hl => match us, hl with | [_], _ => rfl), mt_law⟩
  · intro g hg
    simp only [bis, List.mem_cons, List.not_mem_nil, or_false] at hg
    rcases hg with rfl | rfl | rfl | rfl | rfl | rfl | rfl | rfl | rfl | rfl | rfl | rfl | rfl | rfl | rfl | rfl | rfl | rfl
    · exact PySem.W.mg_none_of X G z0
    · exact PySem.W.mg_none_of X G z1
    · exact PySem.W.mg_none_of X G z2
    · exact PySem.W.mg_none_of X G z3
    · exact PySem.W.mg_none_of X G z4
    · exact PySem.W.mg_none_of X G z5
    · exact PySem.W.mg_none_of X G z6
    · exact PySem.W.mg_none_of X G z7
    · exact PySem.W.mg_none_of X G z8
    · exact PySem.W.mg_none_of X G z9
    · exact PySem.W.mg_none_of X G z10
    · exact PySem.W.mg_none_of X G z11
    · exact PySem.W.mg_none_of X G z12
    · exact PySem.W.mg_none_of X G z13
    · exact PySem.W.mg_none_of X G z14
    · exact PySem.W.mg_none_of X G z15
    · exact PySem.W.mg_none_of X G z16
    · exact PySem.W.mg_none_of X G z17
  · intro g hg
    have hg' : g ∈ ["LETTERS", "MOST_SIGNS"] := of_decide_eq_true hg
    simp only [List.mem_cons, List.not_mem_nil, or_false] at hg'
    rcases hg' with rfl | rfl
    · exact ⟨.str [97, 98, 99, 100, 101, 102, 103, 104, 105, 106, 107, 108, 109, 110, 111, 112, 113, 114, 115, 116, 117, 118, 119, 120, 121, 122], _, .str "abcdefghijklmnopqrstuvwxyz", by simp [T], PySem.W.mg_of X G cL, ⟨tL, rfl⟩, fun Z μ H => tD_rep _⟩
    · exact ⟨.int 8, _, .int 8, by simp [T], PySem.W.mg_of X G cM, ⟨tM, rfl⟩, fun Z μ H => .int 8⟩
  · intro C hC
    cases hC
  · intro C hC
    have hC' := isB_mem hC
    simp only [bTy, List.mem_cons, List.not_mem_nil, or_false] at hC'
    rcases hC' with rfl | rfl | rfl | rfl | rfl | rfl
    · exact PySem.W.mg_none_of X G z16
    · exact PySem.W.mg_none_of X G z2
    · exact PySem.W.mg_none_of X G z1
    · exact PySem.W.mg_none_of X G z3
    · exact PySem.W.mg_none_of X G z4
    · exact PySem.W.mg_none_of X G z17
  · intro C hC
    cases hC
  · rintro Y _ Z ⟨C, k, h⟩
    cases h
end L01
end CL
namespace CL
namespace L01
theorem take_eq (n : Nat) (i : Nat) (v m : Int) (b : Nat) (S : Store) (hS : S[i]? = some (.lst [.int v])) (hm : 0 < m) (hm2 : m < 2 ^ 4000) : callN T (n + 1) "_law_take" false [.ref i, .int m] b S = .ok (.int (v % m)) (S.set i (.lst [.int (v / m)])) := by
  have hi := (List.getElem?_eq_some_iff.mp hS).1
  rw [call_eq (d := f__law_take) (by simp [T]) rfl]
  simp [runFn, f__law_take, Fn.start, exs, exS, ev, R.bind, R.then, RS.then, R.of, vw, hS, idxD, atD, bop, hm, hm2, asg, storeK, putOk, D.lim, fin, res]
  rw [List.take_of_length_le (by simp)]
theorem num_plain {a : Int} {S : Store} : vw S (.int a) = .int a := rfl
theorem digits_eq (n : Nat) (ns : List Int) (k : Nat) (b : Nat) (S : Store) : ∃ v, callN T (n + 1) "_law_digits" false [.scr ns, .int k] b S = .ok (.ref S.length) (S ++ [.lst [.int v]]) := by
  rw [call_eq (d := f__law_digits) (by simp [T]) rfl, run_res]
  obtain ⟨cell, hc⟩ : ∃ cell : Int, ev (ctxN T n) b (.ife (.cmp .lt (.var 1) (.bi .len (.cons (.var 0) .nil))) (.idx (.var 0) (.var 1)) (.int 0)) [some (.scr ns), some (.int k), none, none, none, none] S = .ok (.int cell) S := by
    by_cases h : k < ns.length
    · exact ⟨ns[k], by simp [ev, evs, R.bind, R.of, vw, fbD, lenD, cmpD, ltD, truD, idxD, atD, h]⟩
    · exact ⟨0, by simp [ev, evs, R.bind, R.of, vw, fbD, lenD, cmpD, ltD, truD, idxD, atD, h]⟩
  change ∃ v : Int, fnRes true false S.length (exs b f__law_digits.body (ctxN T n) [some (.scr ns), some (.int k), none, none, none, none] S) = R.ok (D.ref S.length) (S ++ [Cell.lst [D.int v]])
  suffices H : ∀ Q : RS → Prop, (∀ v : Int, Q (.ok (.rt (.ref S.length)) (S ++ [Cell.lst [D.int v]]))) → Q (exs b f__law_digits.body (ctxN T n) [some (.scr ns), some (.int k), none, none, none, none] S) from
    H (fun r => ∃ v : Int, fnRes true false S.length r = R.ok (D.ref S.length) (S ++ [Cell.lst [D.int v]])) fun v => ⟨v, rfl⟩
  intro Q hQ
  unfold f__law_digits
  dsimp only
  refine X_set _ _ hc ?_
  by_cases h : cell < 10 ^ 18
  · refine X_skip (.bl false) S (by simp [ev, R.bind, R.of, vw, cmpD, ltD, bop]; omega) rfl ?_
    refine X_set (.int 0) S rfl ?_
    refine X_set _ S (by simp [ev, R.bind, R.of, vw, bop]; rfl) ?_
    refine X_for _ S (by simp [evIt, evs, ev, R.bind, R.of, ranges]; rfl) ?_
    refine forL_on (Q := fun r => Q (r.then _)) (fun ρ => ∃ (t m : Int) (x : Option D), 0 ≤ m ∧ m < 2147483647 ∧ ρ = [some (.scr ns), some (.int k), some (.int cell), some (.int t), some (.int m), x]) rfl ⟨_, _, _, Int.emod_nonneg _ (by decide), Int.emod_lt_of_pos _ (by decide), rfl⟩ ?_ ?_
    · rintro d hd ρ ⟨t, m, x, h1, h2, rfl⟩
      simp only [List.mem_map] at hd
      obtain ⟨j, _, rfl⟩ := hd
      have hm : m.natAbs < 18446744073709551616 := by omega
      refine ⟨_, [some (.scr ns), some (.int k), some (.int cell), some (.int (t * 2147483587 + (m * m + 48271 * m + (j : Int)) % 2147483629 * 69621 % 2147483587)), some (.int ((m * m + 48271 * m + (j : Int)) % 2147483629)), some (.int j)], rfl,
        by simp [exs, exS, ev, R.bind, R.then, RS.then, R.of, vw, bop, asg, hm], _, _, _, Int.emod_nonneg _ (by decide), Int.lt_trans (Int.emod_lt_of_pos _ (by decide)) (by decide), rfl⟩
    · rintro ρ' ⟨t, m, x, _, _, rfl⟩
      simp only [RS.then]
      exact X_ret (.ref S.length) (S ++ [Cell.lst [D.int t]]) rfl (hQ t)
  · exact X_stop (.bl true) S (.ref S.length) (S ++ [Cell.lst [D.int (cell - 10 ^ 18)]]) (by simp [ev, R.bind, R.of, vw, cmpD, ltD, bop]; omega) rfl (by simp [ev, evs, R.bind, R.of, vw, bop]) (hQ _)
end L01
end CL
namespace CL
namespace L01
def letters : List Nat := [97, 98, 99, 100, 101, 102, 103, 104, 105, 106, 107, 108, 109, 110, 111, 112, 113, 114, 115, 116, 117, 118, 119, 120, 121, 122]
def isNm (l : List Nat) : Bool := decide (1 ≤ l.length) && (decide (l.length ≤ 8) && (!(l == [111, 117, 116]) && (!(l == [121, 97, 114, 100]) && l.all fun ch => decide (ch ∈ letters))))
theorem strs_filter (l : List Nat) : (l.map fun ch => D.str [ch]).filterMap (fun d => match d with | .str [ch] => if ch ∈ letters then none else some d | _ => none) = (l.filter fun ch => decide (ch ∉ letters)).map fun ch => D.str [ch] := by
  induction l with
  | nil => rfl
  | cons ch l ih =>
    by_cases h : ch ∈ letters
    · simp [h, ih]
    · simp [h, ih]
theorem is_name_str (n : Nat) (l : List Nat) (b : Nat) (S : Store) (hl : l.length ≤ 1000) : callN T (n + 1) "is_name" false [.str l] b S = .ok (.bl (isNm l)) S := by
  have hL := lim_of hl
  refine call_by (d := f_is_name) (by simp [T]) rfl fun Q hQ => ?_
  have fin : ∀ t, t = isNm l → Q (.ok (.rt (.bl t)) S) := fun t e => hQ _ (by subst e; simp [fnRes, f_is_name, CL.fin, res, D.lim])
  show Q (exs S.length f_is_name.body (ctxN T n) [some (.str l), none] S)
  unfold f_is_name
  dsimp only
  by_cases h1 : 1 ≤ l.length
  · by_cases h2 : l.length ≤ 8
    · have a1 : ¬ l.length < 1 := by omega
      have a2 : ¬ (8 : Int) < l.length := by omega
      have a3 : ¬ (l.length : Int) < 1 := by omega
      refine X_skip (.bl false) S (by
        simp [ev, evs, evOr, R.bind, R.of, vw, isaAny, isaD, truD, cmpD, ltD, fbD, lenD, hL, ctx_con, T, a2, a3]) rfl ?_
      by_cases h3 : l = [111, 117, 116]
      · exact X_stop (.bl true) S (.bl false) S (by
          simp [ev, evs, evOr, R.bind, R.of, vw, truD, cmpD, eqD, D.dat, D.eqv, h3]) rfl rfl (fin _ (by simp [isNm, h3]))
      by_cases h4 : l = [121, 97, 114, 100]
      · exact X_stop (.bl true) S (.bl false) S (by
          simp [ev, evs, evOr, R.bind, R.of, vw, truD, cmpD, eqD, D.dat, D.eqv, h4]) rfl rfl (fin _ (by simp [isNm, h4]))
      have b3 : (l == [111, 117, 116]) = false := by simp [h3]
      have b4 : (l == [121, 97, 114, 100]) = false := by simp [h4]
      refine X_skip (.bl false) S (by
        simp [ev, evs, evOr, R.bind, R.of, vw, truD, cmpD, eqD, D.dat, D.eqv, b3, b4]) rfl ?_
      have key : ev (ctxN T n) S.length (.lcIf (.var 1) (.one 1) (.val (.var 0)) (.cmp .notIn (.var 1) (.gcon "LETTERS"))) [some (.str l), none] S = .ok (.lst ((l.filter fun ch => decide (ch ∉ letters)).map fun ch => D.str [ch])) S := by
        simp only [ev, evIt, R.bind, R.of, walkD, List.getElem?_cons_zero]
        rw [lcR, if_pos (by simpa using hL), lcL_pure (fun d => match d with | .str [ch] => if ch ∈ letters then none else some d | _ => none) rfl, strs_filter]
        intro d hd
        simp only [List.mem_map] at hd
        obtain ⟨ch, _, rfl⟩ := hd
        by_cases hc : ch ∈ letters
        · have hc' := hc
          unfold letters at hc'
          simp [asg, Tg.slots, wipeE, vw, cmpD, inD, ctx_con, T, truD, hc, hc']
        · have hc' := hc
          unfold letters at hc'
          simp [asg, Tg.slots, wipeE, vw, cmpD, inD, ctx_con, T, truD, hc, hc']
      refine X_ret (.bl (l.all fun ch => decide (ch ∈ letters))) S (e_cmp key rfl ?_) (fin _ (by simp [isNm, h1, h2, b3, b4]))
      rw [eq_signs]
      congr 1
      rw [Bool.eq_iff_iff]
      simp [List.isEmpty_iff]
    · have a1 : ¬ (l.length : Int) < 1 := by omega
      have a2 : (8 : Int) < l.length := by omega
      exact X_stop (.bl true) S (.bl false) S (by
        simp [ev, evs, evOr, R.bind, R.of, vw, isaAny, isaD, truD, cmpD, ltD, fbD, lenD, hL, ctx_con, T, a1, a2]) rfl rfl (fin _ (by simp [isNm, h2]))
  · have a1 : (l.length : Int) < 1 := by omega
    exact X_stop (.bl true) S (.bl false) S (by
        simp [ev, evs, evOr, R.bind, R.of, vw, isaAny, isaD, truD, cmpD, ltD, fbD, lenD, hL, ctx_con, T, a1]) rfl rfl (fin _ (by simp [isNm, h1]))
theorem is_name_other (n : Nat) (d : D) (b : Nat) (S : Store) (hd : ∀ c : Ctx, isaAny c (vw S d) ["str"] = some false) : callN T (n + 1) "is_name" false [d] b S = .ok (.bl false) S := by
  refine call_by (d := f_is_name) (by simp [T]) rfl fun Q hQ => ?_
  have fin : Q (.ok (.rt (.bl false)) S) := hQ _ (by simp [fnRes, f_is_name, CL.fin, res, D.lim])
  show Q (exs S.length f_is_name.body (ctxN T n) [some d, none] S)
  unfold f_is_name
  dsimp only
  exact X_stop (.bl true) S (.bl false) S (by
    simp [ev, evs, evOr, R.bind, R.of, hd, truD, vw_bl]) rfl rfl fin
theorem due_str (n : Nat) (l : List Nat) (b : Nat) (S : Store) (hl : l.length ≤ 1000) : callN T (n + 1) "_law_due" false [.str l] b S = .ok (.bl (isNm l)) S := by
  have hL := lim_of hl
  refine call_by (d := f__law_due) (by simp [T]) rfl fun Q hQ => ?_
  have fin : ∀ t, t = isNm l → Q (.ok (.rt (.bl t)) S) := fun t e => hQ _ (by subst e; simp [fnRes, f__law_due, CL.fin, res, D.lim])
  show Q (exs S.length f__law_due.body (ctxN T n) [some (.str l), none] S)
  unfold f__law_due
  dsimp only
  by_cases h1 : 1 ≤ l.length ∧ l.length ≤ 8 ∧ ¬ l = [111, 117, 116] ∧ ¬ l = [121, 97, 114, 100]
  · obtain ⟨h1, h2, h3, h4⟩ := h1
    have a2 : ¬ (8 : Int) < l.length := by omega
    have a3 : ¬ (l.length : Int) < 1 := by omega
    have b3 : (l == [111, 117, 116]) = false := by simp [h3]
    have b4 : (l == [121, 97, 114, 100]) = false := by simp [h4]
    have c3 : ([111, 117, 116] == l) = false := by rw [Bool.eq_false_iff]; intro h; exact h3 (by simpa using h : [111, 117, 116] = l).symm
    have c4 : ([121, 97, 114, 100] == l) = false := by rw [Bool.eq_false_iff]; intro h; exact h4 (by simpa using h : [121, 97, 114, 100] = l).symm
    refine X_skip (.bl false) S (by
      simp [ev, evs, evOr, R.bind, R.of, vw, truD, cmpD, ltD, inD, D.dat, D.datL, D.eqv, fbD, lenD, hL, a2, a3, c3, c4, dp]) rfl ?_
    have key : ev (ctxN T n) S.length (.lc (.cmp .isIn (.var 1) (.str letters)) (.one 1) (.val (.var 0))) [some (.str l), none] S = .ok (.lst (l.map fun ch => .bl (decide (ch ∈ letters)))) S := by
      simp only [ev, evIt, R.bind, R.of, walkD, List.getElem?_cons_zero]
      rw [lcR, if_pos (by simpa using hL), lcL_pure (fun d => match d with | .str [ch] => some (.bl (decide (ch ∈ letters))) | _ => none) rfl]
      · dsimp only
        rw [filterMap_map_some (fun c => D.str [c]) _ (fun ch => D.bl (decide (ch ∈ letters))) (fun _ => rfl)]
      · intro d hd
        simp only [List.mem_map] at hd
        obtain ⟨ch, _, rfl⟩ := hd
        simp [asg, Tg.slots, wipeE, vw, cmpD, inD, truD]
    have key2 : bls (l.map fun ch => D.bl (decide (ch ∈ letters))) = some (l.map fun ch => decide (ch ∈ letters)) := bls_map _ l
    refine X_ret (.bl (l.all fun ch => decide (ch ∈ letters))) S ?_ (fin _ (by simp [isNm, h1, h2, b3, b4]))
    show ((((ev (ctxN T n) S.length (.lc (.cmp .isIn (.var 1) (.str letters)) (.one 1) (.val (.var 0))) [some (.str l), none] S).bind fun d S1 => (evs (ctxN T n) S.length .nil [some (.str l), none] S1).bind fun ds S2 => .ok (d :: ds) S2)).bind fun ds S1 => R.of S1 (fbD .all (ds.map (vw S1)))) = _
    rw [key]
    simp [R.bind, evs, vw, fbD, key2, R.of, List.all_map]
    try rfl
  · have hf : isNm l = false := by
      unfold isNm
      by_cases q1 : 1 ≤ l.length
      · by_cases q2 : l.length ≤ 8
        · by_cases q3 : l = [111, 117, 116]
          · simp [q3]
          · by_cases q4 : l = [121, 97, 114, 100]
            · simp [q4]
            · exact absurd ⟨q1, q2, q3, q4⟩ h1
        · simp [q2]
      · simp [q1]
    refine X_stop (.bl true) S (.bl false) S ?_ rfl rfl (fin _ hf.symm)
    by_cases q1 : (l.length : Int) < 1
    · simp [ev, evs, evOr, R.bind, R.of, vw, truD, cmpD, ltD, fbD, lenD, hL, q1]
    · by_cases q2 : (8 : Int) < l.length
      · simp [ev, evs, evOr, R.bind, R.of, vw, truD, cmpD, ltD, fbD, lenD, hL, q1, q2]
      · have q3 : l = [111, 117, 116] ∨ l = [121, 97, 114, 100] := by
          refine Decidable.byContradiction fun q => h1 ⟨by omega, by omega, fun e => q (.inl e), fun e => q (.inr e)⟩
        rcases q3 with q3 | q3 <;> subst q3 <;> rfl
end L01
end CL
namespace CL
namespace L01
theorem strI {r m : Int} (h0 : 0 ≤ r) (h1 : r < m) {l : List Nat} (hl : m ≤ l.length) : ∃ ch, atD l r = some ch := by
  unfold atD
  rw [if_pos h0]
  exact ⟨l[r.toNat]'(by omega), List.getElem?_eq_getElem (by omega)⟩
theorem text_body (n : Nat) (i : Nat) (v : Int) (b : Nat) (U : Int → Store) (hU : ∀ x m b, 0 < m → m < 2 ^ 4000 → callN T (n + 1) "_law_take" false [.ref i, .int m] b (U x) = .ok (.int (x % m)) (U (x / m))) (Q : RS → Prop)
    (hQ : ∀ l v', l.length ≤ 100 → Q (.ok (.rt (.str l)) (U v'))) : Q (exs b f__law_text.body (ctxN T (n + 1)) [some (.ref i), none, none, none, none, none] (U v)) := by
  have take : ∀ (ρ : Env) (x m : Int) (e : E) , ρ[0]? = some (some (.ref i)) → ev (ctxN T (n + 1)) b e ρ (U x) = .ok (.int m) (U x) → 0 < m → m ≤ 1000 → ev (ctxN T (n + 1)) b (.call "_law_take" false (.cons (.var 0) (.cons e .nil))) ρ (U x) = .ok (.int (x % m)) (U (x / m)) := by
    intro ρ x m e h0 he hm hm2
    refine e_call (ds := [.ref i, .int m]) (S1 := U x) ?_ (hU x m b hm (Int.lt_of_le_of_lt hm2 (by decide +kernel)))
    simp only [evs, ev, h0, R.bind, he]
  unfold f__law_text
  dsimp only
  have e1 : ev (ctxN T (n + 1)) b (.cmp .eq (.call "_law_take" false (.cons (.var 0) (.cons (.int 5) .nil))) (.int 0)) [some (.ref i), none, none, none, none, none] (U v) = .ok (.bl (v % 5 == 0)) (U (v / 5)) :=
    e_cmp (take _ v 5 (.int 5) rfl rfl (by decide) (by decide)) rfl rfl
  by_cases h5 : (v % 5 == 0) = true
  · rw [h5] at e1
    refine X_ite _ _ true e1 rfl ?_
    rw [if_pos rfl]
    obtain ⟨w, hw, e2⟩ : ∃ w : List Nat, (3 ≤ w.length ∧ w.length ≤ 4) ∧ ev (ctxN T (n + 1)) b (.idx (.lst (.cons (.str [111, 117, 116]) (.cons (.str [121, 97, 114, 100]) .nil))) (.call "_law_take" false (.cons (.var 0) (.cons (.int 2) .nil)))) [some (.ref i), none, none, none, none, none] (U (v / 5)) = .ok (.str w) (U (v / 5 / 2)) := by
      have hr : v / 5 % 2 = 0 ∨ v / 5 % 2 = 1 := by omega
      rcases hr with hr | hr
      · exact ⟨[111, 117, 116], by decide, e_idx (d := .lst [.str [111, 117, 116], .str [121, 97, 114, 100]]) rfl (take _ _ 2 (.int 2) rfl rfl (by decide) (by decide)) (by rw [hr]; rfl)⟩
      · exact ⟨[121, 97, 114, 100], by decide, e_idx (d := .lst [.str [111, 117, 116], .str [121, 97, 114, 100]]) rfl (take _ _ 2 (.int 2) rfl rfl (by decide) (by decide)) (by rw [hr]; rfl)⟩
    have hL : w.length ≤ LIM := lim_of (by omega)
    refine X_set (Q := fun r => Q (r.then _)) _ _ e2 ?_
    refine X_set (Q := fun r => Q (r.then _)) _ _ (take _ (v / 5 / 2) (w.length + 1) (.bop .add (.bi .len (.cons (.var 2) .nil)) (.int 1)) rfl (e_bop (e_len rfl hL) rfl rfl) (by omega) (by omega)) ?_
    generalize v / 5 / 2 % (w.length + 1) = at_
    generalize v / 5 / 2 / (w.length + 1) = v3
    have c1 := cut_len w none (some at_)
    have c2 := cut_len w (some (at_ + 1)) none
    have c3 := cut_len w (some at_) none
    have ρw : ∀ S, ev (ctxN T (n + 1)) b (.var 2) [some (.ref i), none, some (.str w), some (.int at_), none, none] S = .ok (.str w) S := fun _ => rfl
    have ρa : ∀ S, ev (ctxN T (n + 1)) b (.var 3) [some (.ref i), none, some (.str w), some (.int at_), none, none] S = .ok (.int at_) S := fun _ => rfl
    have ρb : ∀ S, ev (ctxN T (n + 1)) b (.bop .add (.var 3) (.int 1)) [some (.ref i), none, some (.str w), some (.int at_), none, none] S = .ok (.int (at_ + 1)) S := fun _ => rfl
    have e4 : ev (ctxN T (n + 1)) b (.lst (.cons (.var 2) (.cons (.bop .add (.slHi (.var 2) (.var 3)) (.slLo (.var 2) (.bop .add (.var 3) (.int 1)))) (.cons (.bop .add (.bop .add (.slHi (.var 2) (.var 3)) (.str [97])) (.slLo (.var 2) (.var 3))) .nil)))) [some (.ref i), none, some (.str w), some (.int at_), none, none] (U v3) =
        .ok (.lst [.str w, .str (cutL w none (some at_) ++ cutL w (some (at_ + 1)) none), .str ((cutL w none (some at_) ++ [97]) ++ cutL w (some at_) none)]) (U v3) := by
      have t1 := e_cat (e_slHi (ρw (U v3)) (ρa (U v3)) hL) (e_slLo (ρw (U v3)) (ρb (U v3)) hL) (lim_of (by omega))
      have t2 := e_cat (y := .str [97]) (m := [97]) (S2 := U v3) (e_slHi (ρw (U v3)) (ρa (U v3)) hL) rfl (lim_of (by simp only [List.length_singleton]; omega))
      have t3 := e_cat t2 (e_slLo (ρw (U v3)) (ρa (U v3)) hL) (lim_of (by simp only [List.length_append, List.length_singleton]; omega))
      have q : ∀ (es : Es) (c : Ctx) (ρ : Env) (S : Store), ev c b (.lst es) ρ S = (evs c b es ρ S).bind fun ds S1 => .ok (.lst ds) S1 := fun es c ρ S => by simp only [ev]
      have q2 : ∀ (e : E) (es : Es) (c : Ctx) (ρ : Env) (S : Store), evs c b (.cons e es) ρ S = (ev c b e ρ S).bind fun d S1 => (evs c b es ρ S1).bind fun ds S2 => .ok (d :: ds) S2 := fun e es c ρ S => by simp only [evs]
      rw [q, q2, ρw]
      simp only [R.bind]
      rw [q2, t1]
      simp only [R.bind]
      rw [q2, t3]
      rfl
    refine X_set (Q := fun r => Q (r.then _)) _ _ e4 ?_
    have hr : v3 % 3 = 0 ∨ v3 % 3 = 1 ∨ v3 % 3 = 2 := by omega
    rcases hr with hr | hr | hr
    · exact X_ret (Q := fun r => Q (r.then _)) _ _ (e_idx rfl (take _ v3 3 (.int 3) rfl rfl (by decide) (by decide)) (by rw [hr]; rfl)) (hQ _ _ (by omega))
    · exact X_ret (Q := fun r => Q (r.then _)) _ _ (e_idx rfl (take _ v3 3 (.int 3) rfl rfl (by decide) (by decide)) (by rw [hr]; rfl)) (hQ _ _ (by rw [List.length_append]; omega))
    · exact X_ret (Q := fun r => Q (r.then _)) _ _ (e_idx rfl (take _ v3 3 (.int 3) rfl rfl (by decide) (by decide)) (by rw [hr]; rfl)) (hQ _ _ (by simp only [List.length_append, List.length_singleton]; omega))
  · have h5' : (v % 5 == 0) = false := by simpa using h5
    rw [h5'] at e1
    refine X_skip _ _ e1 rfl ?_
    refine X_set (.str letters) _ rfl ?_
    generalize v / 5 = v1
    obtain ⟨l, v2, hl, e2⟩ : ∃ (l : List Nat) (v2 : Int), l.length ≤ 10 ∧ ev (ctxN T (n + 1)) b (.bm .join (.str []) (.cons (.lc (.idx (.var 1) (.call "_law_take" false (.cons (.var 0) (.cons (.int 26) .nil)))) (.one 5) (.range (.cons (.call "_law_take" false (.cons (.var 0) (.cons (.int 11) .nil))) .nil))) .nil)) [some (.ref i), some (.str letters), none, none, none, none] (U v1) = .ok (.str l) (U v2) := by
      have h11 : 0 ≤ v1 % 11 ∧ v1 % 11 < 11 := ⟨Int.emod_nonneg _ (by decide), Int.emod_lt_of_pos _ (by decide)⟩
      have hit : evIt (ctxN T (n + 1)) b (.range (.cons (.call "_law_take" false (.cons (.var 0) (.cons (.int 11) .nil))) .nil)) [some (.ref i), some (.str letters), none, none, none, none] (U v1) = .ok ⟨(List.range (v1 % 11).toNat).map fun (k : Nat) => .int k, []⟩ (U (v1 / 11)) := by
        have := es_one (take [some (.ref i), some (.str letters), none, none, none, none] v1 11 (.int 11) rfl rfl (by decide) (by decide))
        simp only [evIt, this, R.bind, ranges]
        rw [if_pos (by omega)]
        rfl
      obtain ⟨xs, S', g1, ⟨v2, rfl⟩, g3, g4⟩ := lcL_run (f := lcF (.one 5) fun ρ S => ev (ctxN T (n + 1)) b (.idx (.var 1) (.call "_law_take" false (.cons (.var 0) (.cons (.int 26) .nil)))) ρ S) (w := ⟨(List.range (v1 % 11).toNat).map fun (k : Nat) => .int k, []⟩)
        (ρ := [some (.ref i), some (.str letters), none, none, none, none]) (fun S => ∃ x, S = U x) (fun d => ∃ ch, d = .str [ch]) rfl (items := (List.range (v1 % 11).toNat).map fun (k : Nat) => .int k) (S := U (v1 / 11)) ⟨_, rfl⟩ (by
          rintro d _ S ⟨x, rfl⟩
          have h26 : 0 ≤ x % 26 ∧ x % 26 < 26 := ⟨Int.emod_nonneg _ (by decide), Int.emod_lt_of_pos _ (by decide)⟩
          obtain ⟨ch, hch⟩ := strI h26.1 h26.2 (l := letters) (by decide)
          refine ⟨.str [ch], U (x / 26), ?_, ⟨_, rfl⟩, ch, rfl⟩
          have := e_idx (c := ctxN T (n + 1)) (b := b) (x := .var 1) (d := .str letters) (r := .str [ch]) rfl (take [some (.ref i), some (.str letters), none, none, none, some d] x 26 (.int 26) rfl rfl (by decide) (by decide)) (by
            show (if letters.length ≤ LIM then (atD letters (x % 26)).map fun c => D.str [c] else none) = _
            rw [if_pos (lim_of (by decide)), hch]
            rfl)
          show (match asg (.one 5) d [some (.ref i), some (.str letters), none, none, none, none] with | some ρ' => (ev (ctxN T (n + 1)) b (.idx (.var 1) (.call "_law_take" false (.cons (.var 0) (.cons (.int 26) .nil)))) ρ' (U x)).bind fun x S' => .ok (some x) S' | none => .bad) = _
          simp only [asg, List.set]
          rw [this]
          rfl)
      have hlen : xs.length ≤ 10 := by
        rw [g4, List.length_map, List.length_range]
        omega
      obtain ⟨ls, t1, t2, t3⟩ := txts_ones xs g3
      obtain ⟨l, j1, j2⟩ := join_ones_len ls t2
      refine ⟨l, v2, by omega, e_bm (d := .str []) (S1 := U v1) rfl rfl (es_one (e_lc hit (lim_of (by rw [List.length_map, List.length_range]; omega)) g1)) rfl ?_⟩
      simp only [bmD, MB.writes, Bool.false_eq_true, if_false, List.map_cons, List.map_nil, vw, mbD, t1]
      rw [if_pos (by rw [sum_ones ls t2, List.length_nil, Nat.mul_zero]; exact lim_of (by omega)), j1]
      rfl
    have hL : l.length ≤ LIM := lim_of (by omega)
    refine X_set _ _ e2 ?_
    have eR : ∀ ρ S, (ρ : Env)[2]? = some (some (.str l)) → ev (ctxN T (n + 1)) b (.var 2) ρ S = .ok (.str l) S := fun ρ S h => by simp only [ev, h]
    by_cases hn : l = []
    · subst hn
      refine X_skip (.bl false) (U v2) rfl rfl ?_
      exact X_ret (.str []) (U v2) rfl (hQ _ _ (by decide))
    · have e3 : ev (ctxN T (n + 1)) b (.and (.cons (.cmp .ne (.var 2) (.str [])) (.cons (.cmp .eq (.call "_law_take" false (.cons (.var 0) (.cons (.int 2) .nil))) (.int 0)) .nil))) [some (.ref i), some (.str letters), some (.str l), none, none, none] (U v2) = .ok (.bl (v2 % 2 == 0)) (U (v2 / 2)) := by
        have a1 : ev (ctxN T (n + 1)) b (.cmp .ne (.var 2) (.str [])) [some (.ref i), some (.str letters), some (.str l), none, none, none] (U v2) = .ok (.bl true) (U v2) := e_cmp (d := .str l) rfl rfl (by
          show Option.map (!·) (some (l == [])) = _
          have : (l == []) = false := by simpa using hn
          rw [this]; rfl)
        have a2 : ev (ctxN T (n + 1)) b (.cmp .eq (.call "_law_take" false (.cons (.var 0) (.cons (.int 2) .nil))) (.int 0)) [some (.ref i), some (.str letters), some (.str l), none, none, none] (U v2) = .ok (.bl (v2 % 2 == 0)) (U (v2 / 2)) := e_cmp (take _ v2 2 (.int 2) rfl rfl (by decide) (by decide)) rfl rfl
        have q : ∀ (e1 e2 : E) (c : Ctx) (ρ : Env) (S : Store), ev c b (.and (.cons e1 (.cons e2 .nil))) ρ S = (ev c b e1 ρ S).bind fun d S1 => match truD (vw S1 d) with
            | some true => ev c b e2 ρ S1
            | some false => .ok d S1
            | none => .bad := fun e1 e2 c ρ S => by
              simp only [ev, evAnd]
              try rfl
        rw [q, a1]
        simp only [R.bind, vw_bl, truD]
        exact a2
      by_cases h2 : (v2 % 2 == 0) = true
      · rw [h2] at e3
        refine X_ite _ _ true e3 rfl ?_
        rw [if_pos rfl]
        have hlp : 0 < l.length := List.length_pos_iff.mpr hn
        refine X_set (Q := fun r => Q (r.then _)) _ _ (take _ (v2 / 2) l.length (.bi .len (.cons (.var 2) .nil)) rfl (e_len rfl hL) (by omega) (by omega)) ?_
        generalize v2 / 2 % (l.length : Int) = at_
        generalize v2 / 2 / (l.length : Int) = v3
        have h8 : 0 ≤ v3 % 8 ∧ v3 % 8 < 8 := ⟨Int.emod_nonneg _ (by decide), Int.emod_lt_of_pos _ (by decide)⟩
        obtain ⟨ch, hch⟩ := strI h8.1 h8.2 (l := [65, 32, 90, 48, 95, 58, 10, 123]) (by decide)
        have c1 := cut_len l none (some at_)
        have c2 := cut_len l (some (at_ + 1)) none
        have s1 := e_slHi (c := ctxN T (n + 1)) (b := b) (ρ := [some (.ref i), some (.str letters), some (.str l), some (.int at_), none, none]) (S := U v3) (x := .var 2) (y := .var 3) (l := l) (i := at_) rfl rfl hL
        have s2 := e_idx (c := ctxN T (n + 1)) (b := b) (x := .str [65, 32, 90, 48, 95, 58, 10, 123]) (d := .str [65, 32, 90, 48, 95, 58, 10, 123]) (r := .str [ch]) rfl (take [some (.ref i), some (.str letters), some (.str l), some (.int at_), none, none] v3 8 (.int 8) rfl rfl (by decide) (by decide)) (by
            show (if 8 ≤ LIM then (atD [65, 32, 90, 48, 95, 58, 10, 123] (v3 % 8)).map fun c => D.str [c] else none) = _
            rw [if_pos (lim_of (by decide)), hch]
            rfl)
        have s3 := e_slLo (c := ctxN T (n + 1)) (b := b) (ρ := [some (.ref i), some (.str letters), some (.str l), some (.int at_), none, none]) (S := U (v3 / 8)) (x := .var 2) (y := .bop .add (.var 3) (.int 1)) (l := l) (i := at_ + 1) rfl rfl hL
        have s4 := e_cat (e_cat s1 s2 (lim_of (by simp only [List.length_singleton]; omega))) s3 (lim_of (by simp only [List.length_append, List.length_singleton]; omega))
        refine X_set (Q := fun r => Q (r.then _)) _ _ s4 ?_
        have hnl : ((cutL l none (some at_) ++ [ch]) ++ cutL l (some (at_ + 1)) none).length ≤ 100 := by simp only [List.length_append, List.length_singleton]; omega
        generalize (cutL l none (some at_) ++ [ch]) ++ cutL l (some (at_ + 1)) none = nl at hnl
        show Q (exs b (.cons (.ret (.var 2)) .nil) (ctxN T (n + 1)) [some (.ref i), some (.str letters), some (.str nl), some (.int at_), none, none] (U (v3 / 8)))
        exact X_ret (.str nl) (U (v3 / 8)) rfl (hQ _ _ hnl)
      · have h2' : (v2 % 2 == 0) = false := by simpa using h2
        rw [h2'] at e3
        refine X_skip _ _ e3 rfl ?_
        exact X_ret (.str l) _ rfl (hQ _ _ (by omega))
theorem text_eq (n : Nat) (i : Nat) (v : Int) (b : Nat) (S : Store) (hS : S[i]? = some (.lst [.int v])) : ∃ (l : List Nat) (v' : Int), l.length ≤ 100 ∧ callN T (n + 2) "_law_text" false [.ref i] b S = .ok (.str l) (S.set i (.lst [.int v'])) := by
  obtain ⟨hi, hv⟩ := List.getElem?_eq_some_iff.mp hS
  have e0 : S = S.set i (.lst [.int v]) := by rw [← hv, List.set_getElem_self]
  rw [call_eq (d := f__law_text) (by simp [T]) rfl, run_res]
  have := text_body n i v S.length (fun x => S.set i (.lst [.int x])) (fun x m b hm hm2 => by
    have := take_eq n i x m b (S.set i (.lst [.int x])) (by rw [List.getElem?_set_self hi]) hm hm2
    rw [List.set_set] at this
    exact this) (fun r => ∃ (l : List Nat) (v' : Int), l.length ≤ 100 ∧ fnRes false false S.length r = .ok (.str l) (S.set i (.lst [.int v']))) (fun l v' hl => ⟨l, v', hl, by
      simp only [fnRes, fin, Bool.false_eq_true, if_false, res, D.lim, if_true]
      rw [List.take_of_length_le (by simp)]⟩)
  rw [← e0] at this
  exact this
end L01
end CL
namespace CL
namespace L01
theorem others (d : D) (h : d ∈ [D.non, .int 0, .bl true, .int 7, .tup [], .tup [.str [97]], .lst [], .lst [.str [97]]]) (S : Store) : (∀ c : Ctx, isaAny c (vw S d) ["str"] = some false) ∧ D.eqv d (.str [111, 117, 116, 115]) = false ∧ d.dat dp = true ∧ vw S d = d := by
  simp only [List.mem_cons, List.not_mem_nil, or_false] at h
  rcases h with rfl | rfl | rfl | rfl | rfl | rfl | rfl | rfl <;> exact ⟨fun c => rfl, rfl, rfl, rfl⟩
theorem is_name_any (n : Nat) (d : D) (h : d ∈ [D.non, .int 0, .bl true, .int 7, .tup [], .tup [.str [97]], .lst [], .lst [.str [97]], .str [], .str [111, 117, 116], .str [121, 97, 114, 100], .str [111, 117, 116, 115], .str [97, 98, 99, 100, 101, 102, 103, 104, 105]]) (b : Nat) (S : Store) :
    callN T (n + 1) "is_name" false [d] b S = .ok (.bl (D.eqv d (.str [111, 117, 116, 115]))) S ∧ d.dat dp = true ∧ vw S d = d := by
  by_cases h1 : d ∈ [D.non, .int 0, .bl true, .int 7, .tup [], .tup [.str [97]], .lst [], .lst [.str [97]]]
  · obtain ⟨a, e, f, g⟩ := others d h1 S
    rw [is_name_other n d b S a, e]
    exact ⟨rfl, f, g⟩
  · have h2 : d ∈ [D.str [], .str [111, 117, 116], .str [121, 97, 114, 100], .str [111, 117, 116, 115], .str [97, 98, 99, 100, 101, 102, 103, 104, 105]] := by
      rcases List.mem_append.mp (show d ∈ [D.non, .int 0, .bl true, .int 7, .tup [], .tup [.str [97]], .lst [], .lst [.str [97]]] ++ [D.str [], .str [111, 117, 116], .str [121, 97, 114, 100], .str [111, 117, 116, 115], .str [97, 98, 99, 100, 101, 102, 103, 104, 105]] from h) with q | q
      · exact absurd q h1
      · exact q
    simp only [List.mem_cons, List.not_mem_nil, or_false] at h2
    rcases h2 with rfl | rfl | rfl | rfl | rfl
    all_goals
      rw [is_name_str n _ b S (by decide)]
      exact ⟨by congr 2, rfl, rfl⟩
theorem law_true (ns : List Int) (h : ns.length ≤ 63) : callN T 9 "law" false [.scr ns] 0 [] = .ok (.bl true) [] := by
  refine call_by (n := 8) (d := f_law) (by simp [T]) rfl fun Q hQ => ?_
  have fin : ∀ S, Q (.ok (.rt (.bl true)) S) := fun S => hQ _ (by simp [fnRes, f_law, CL.fin, res, D.lim])
  show Q (exs 0 f_law.body (ctxN T 8) [some (.scr ns), none, none, none, none] [])
  unfold f_law
  dsimp only
  have hm : (if ((ns.length : Nat) : Int) < 63 then ((ns.length : Nat) : Int) else 63) = ((ns.length : Nat) : Int) := by
    by_cases q : ((ns.length : Nat) : Int) < 63
    · rw [if_pos q]
    · rw [if_neg q]; omega
  have hit : evIt (ctxN T 8) 0 (.range (.cons (.bop .add (.bi .min (.cons (.int 63) (.cons (.bi .len (.cons (.var 0) .nil)) .nil))) (.int 1)) .nil)) [some (.scr ns), none, none, none, none] [] = .ok ⟨(List.range (((ns.length : Nat) : Int) + 1).toNat).map fun (k : Nat) => .int k, []⟩ [] := by
    have e0 : ev (ctxN T 8) 0 (.bi .min (.cons (.int 63) (.cons (.bi .len (.cons (.var 0) .nil)) .nil))) [some (.scr ns), none, none, none, none] [] = .ok (.int ((ns.length : Nat) : Int)) [] := by
      simp only [evs, ev, R.bind, R.of, vw, fbD, lenD, Option.map_some, List.map_cons, List.map_nil, List.getElem?_cons_zero, hm]
    have e1 : evs (ctxN T 8) 0 (.cons (.bop .add (.bi .min (.cons (.int 63) (.cons (.bi .len (.cons (.var 0) .nil)) .nil))) (.int 1)) .nil) [some (.scr ns), none, none, none, none] [] = .ok [.int (((ns.length : Nat) : Int) + 1)] [] :=
      es_one (e_bop (d := .int ((ns.length : Nat) : Int)) (e := .int 1) e0 rfl rfl)
    have h1 : -10000000 ≤ ((ns.length : Nat) : Int) + 1 := by omega
    have h2 : ((ns.length : Nat) : Int) + 1 ≤ 10000000 := by omega
    exact it_range1 e1 h1 h2
  refine X_for _ _ hit ?_
  refine forL_st (Q := fun r => Q (r.then _)) (fun ρ S => ∃ x y z, ρ = [some (.scr ns), x, none, y, z]) rfl ⟨_, _, _, rfl⟩ ?_ ?_
  · rintro d hd ρ S ⟨x, y, z, rfl⟩
    simp only [List.mem_map] at hd
    obtain ⟨k, _, rfl⟩ := hd
    obtain ⟨v, hv⟩ := digits_eq 7 ns k 0 S
    obtain ⟨l, v', hl, ht⟩ := text_eq 6 S.length v 0 (S ++ [.lst [.int v]]) (by simp)
    refine ⟨_, rfl, ?_⟩
    have hq : ∀ (R' : RS → Prop) , R' (.ok (.nx [some (.scr ns), some (.int k), none, some (.str l), some (.bl (isNm l))]) ((S ++ [Cell.lst [.int v]]).set S.length (.lst [.int v']))) → R' (exs 0 (.cons (.set (.one 3) (.call "_law_text" false (.cons (.call "_law_digits" false (.cons (.var 0) (.cons (.var 1) .nil))) .nil))) (.cons (.set (.one 4) (.call "is_name" false (.cons (.var 3) .nil))) (.cons (.ite (.or (.cons (.not (.isi (.var 4) ["bool"] false)) (.cons (.cmp .ne (.var 4) (.call "_law_due" false (.cons (.var 3) .nil))) .nil))) (.cons (.ret (.bl false)) .nil) .nil) .nil))) (ctxN T 8) [some (.scr ns), some (.int k), none, y, z] S) := by
      intro R' hR
      refine X_set _ _ (e_call (es_one (e_call (n := 8) (ds := [.scr ns, .int k]) (S1 := S) rfl hv)) ht) ?_
      generalize (S ++ [Cell.lst [.int v]]).set S.length (.lst [.int v']) = S2 at hR
      refine X_set _ _ (e_call (ds := [.str l]) (S1 := S2) rfl (is_name_str 7 l 0 S2 (by omega))) ?_
      have e1 : ev (ctxN T 8) 0 (.cmp .ne (.var 4) (.call "_law_due" false (.cons (.var 3) .nil))) [some (.scr ns), some (.int k), none, some (.str l), some (.bl (isNm l))] S2 = .ok (.bl false) S2 :=
        e_cmp (d := .bl (isNm l)) rfl (e_call (ds := [.str l]) (S1 := S2) rfl (due_str 7 l 0 S2 (by omega))) (by
          show Option.map (!·) (some (isNm l == isNm l)) = _
          simp)
      refine X_skip (.bl false) S2 ?_ rfl hR
      have q : ∀ (e1 e2 : E) (c : Ctx) (ρ : Env) (S : Store), ev c 0 (.or (.cons e1 (.cons e2 .nil))) ρ S = (ev c 0 e1 ρ S).bind fun d S1 => match truD (vw S1 d) with
            | some false => ev c 0 e2 ρ S1
            | some true => .ok d S1
            | none => .bad := fun e1 e2 c ρ S => by
              simp only [ev, evOr]
              try rfl
      rw [q]
      exact e1
    exact hq (fun r => ∃ ρ2 S2, r = .ok (.nx ρ2) S2 ∧ ∃ x y z, ρ2 = [some (.scr ns), x, none, y, z]) ⟨_, _, rfl, _, _, _, rfl⟩
  · rintro ρ S ⟨x, y, z, rfl⟩
    simp only [RS.then]
    refine X_for ⟨[D.non, .int 0, .bl true, .int 7, .tup [], .tup [.str [97]], .lst [], .lst [.str [97]], .str [], .str [111, 117, 116], .str [121, 97, 114, 100], .str [111, 117, 116, 115], .str [97, 98, 99, 100, 101, 102, 103, 104, 105]], []⟩ S rfl ?_
    refine forL_st (Q := fun r => Q (r.then _)) (fun ρ S => ∃ t u, ρ = [some (.scr ns), x, t, y, u]) rfl ⟨_, _, rfl⟩ ?_ ?_
    · rintro d hd ρ S ⟨t, u, rfl⟩
      obtain ⟨h1, h2, h3⟩ := is_name_any 7 d hd 0 S
      refine ⟨_, rfl, ?_⟩
      have hq : ∀ (R' : RS → Prop) , R' (.ok (.nx [some (.scr ns), x, some d, y, some (.bl (D.eqv d (.str [111, 117, 116, 115])))]) S) → R' (exs 0 (.cons (.set (.one 4) (.call "is_name" false (.cons (.var 2) .nil))) (.cons (.ite (.or (.cons (.not (.isi (.var 4) ["bool"] false)) (.cons (.cmp .ne (.var 4) (.cmp .eq (.var 2) (.str [111, 117, 116, 115]))) .nil))) (.cons (.ret (.bl false)) .nil) .nil) .nil)) (ctxN T 8) [some (.scr ns), x, some d, y, u] S) := by
        intro R' hR
        refine X_set _ _ (e_call (ds := [d]) (S1 := S) rfl h1) ?_
        have e1 : ev (ctxN T 8) 0 (.cmp .ne (.var 4) (.cmp .eq (.var 2) (.str [111, 117, 116, 115]))) [some (.scr ns), x, some d, y, some (.bl (D.eqv d (.str [111, 117, 116, 115])))] S = .ok (.bl false) S :=
          e_cmp (d := .bl (D.eqv d (.str [111, 117, 116, 115]))) (e := .bl (D.eqv d (.str [111, 117, 116, 115]))) rfl (e_cmp (d := d) rfl rfl (by
            rw [h3]
            show eqD d (.str [111, 117, 116, 115]) = _
            unfold eqD
            rw [h2]
            rfl)) (by
            show Option.map (!·) (some (D.eqv d (.str [111, 117, 116, 115]) == D.eqv d (.str [111, 117, 116, 115]))) = _
            simp)
        refine X_skip (.bl false) S ?_ rfl hR
        have q : ∀ (e1 e2 : E) (c : Ctx) (ρ : Env) (S : Store), ev c 0 (.or (.cons e1 (.cons e2 .nil))) ρ S = (ev c 0 e1 ρ S).bind fun d S1 => match truD (vw S1 d) with
            | some false => ev c 0 e2 ρ S1
            | some true => .ok d S1
            | none => .bad := fun e1 e2 c ρ S => by
              simp only [ev, evOr]
              try rfl
        rw [q]
        exact e1
      exact hq (fun r => ∃ ρ2 S2, r = .ok (.nx ρ2) S2 ∧ ∃ t u, ρ2 = [some (.scr ns), x, t, y, u]) ⟨_, _, rfl, _, _, rfl⟩
    · rintro ρ S ⟨t, u, rfl⟩
      simp only [RS.then]
      refine X_ret (.bl true) S (e_cmp (d := .bl true) (e := .bl true) (e_call (ds := [.str [97, 98, 99, 100, 101, 102, 103, 104]]) (S1 := S) rfl ?_) rfl rfl) (fin S)
      rw [is_name_str 7 _ 0 S (by decide)]
      rfl
end L01
end CL
open PySem PySem.W PyProof.Rows in
set_option maxRecDepth 100000 in
set_option maxHeartbeats 0 in
theorem PySem.Challenge.cw_cardlanes_k01_names_holds : PySem.Challenge.rw_cardlanes_k01_names.Holds := by
  w_on; o_law; k_head; (case hw => w_witness2)
  k_fill
  refine CL.law_walk (l := PySem.Challenge.rw_cardlanes_k01_names) (T := CL.L01.T) (N := 9) (M0 := CL.L01.M0) (ca := fun K => ⟨fun _ => 0, K⟩) (dl := CL.L01.f_law) (stl := CL.L01.top 9) (fun _ => rfl) rfl (by decide) rfl ⟨rfl, by decide, by decide⟩ (fun w h Y => PySem.W.kIn_of Y) (by decide +kernel) (by simp [CL.L01.T]) rfl ?F CL.L01.law_true
  case F =>
    intro w mg fa h KX G hmg
    refine' CL.L01.text_ok (l := PySem.Challenge.rw_cardlanes_k01_names) (w := w) KX G ?a1 ?l1 ?c1 ?k1 ?a2 ?l2 ?c2 ?k2 ?a3 ?l3 ?c3 ?k3 ?a4 ?l4 ?c4 ?k4 ?a5 ?l5 ?c5 ?k5 ?a6 ?l6 ?c6 ?k6 ?z0 ?z1 ?z2 ?z3 ?z4 ?z5 ?z6 ?z7 ?z8 ?z9 ?z10 ?z11 ?z12 ?z13 ?z14 ?z15 ?z16 ?z17 ?cL ?cM hmg
    (case a1 => k_is)
    (case l1 => k_is)
    (case c1 => k_is)
    (case k1 => k_is)
    (case a2 => k_is)
    (case l2 => k_is)
    (case c2 => k_is)
    (case k2 => k_is)
    (case a3 => k_is)
    (case l3 => k_is)
    (case c3 => k_is)
    (case k3 => k_is)
    (case a4 => k_is)
    (case l4 => k_is)
    (case c4 => k_is)
    (case k4 => k_is)
    (case a5 => k_is)
    (case l5 => k_is)
    (case c5 => k_is)
    (case k5 => k_is)
    (case a6 => k_is)
    (case l6 => k_is)
    (case c6 => k_is)
    (case k6 => k_is)
    (case z0 => k_is)
    (case z1 => k_is)
    (case z2 => k_is)
    (case z3 => k_is)
    (case z4 => k_is)
    (case z5 => k_is)
    (case z6 => k_is)
    (case z7 => k_is)
    (case z8 => k_is)
    (case z9 => k_is)
    (case z10 => k_is)
    (case z11 => k_is)
    (case z12 => k_is)
    (case z13 => k_is)
    (case z14 => k_is)
    (case z15 => k_is)
    (case z16 => k_is)
    (case z17 => k_is)
    (case cL => k_is)
    (case cM => k_is)
#print axioms PySem.Challenge.cw_cardlanes_k01_names_holds
