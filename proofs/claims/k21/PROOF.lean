import PyProof.Rows.All
import Wide.All
import OpenK.AllK
import Wide.FinOn
import HandS.ForMost
import KE.SortData
import KE.DataEq
import KE.DataCmp
import KE.DataFind
import KE.DataMinMax
import KE.DataAny
import HandS.Exc
import HandS.ExcOwn
import HandS.CallSlots
import HandS.IsInst
import HandS.Comp
import HandS.Iter
import HandS.Zip
import HandS.Wide
import HandS.TupAny
import HandS.Deep
import HandS.Words
import HandS.WordsExc
import HandS.Dict
import HandS.List
import HandS.ExcInit
import HandS.TryElse
import HandS.Head0
import HandS.Head1
import HandS.Head2
import HandS.HeadEnd
import HandS.HeadHook1
import HandS.HeadHook2
import PyProof.StrOps2
import PyProof.WalkInts
import PyProof.FString5
import HandS.TupMul
import PyProof.SeqIndex
import KE.KIndexOf
import HandS.RaiseMore
import HandS.Text
import HandS.More
import HandS.Strs
import HandS.Replace
import HandS.HotCalls
import HandS.ExcField
import KE.KExcIs
import HandS.Style
import HandS.Conv
import KE.KRevSl
import KE.GoesEnum
import PyProof.Rows.SetFrom
import HandS.SetFor
import PyProof.WalksMore
import KE.GoesMore
import HandS.TupSets
import HandS.Set
import HandS.SortInts
import HandS.NoneIn
import KE.KxText
import KE.KxAffix
import PySem.Challenge.RW_cardlanes_k21_no_deed_texts
set_option Elab.async false
set_option maxRecDepth 100000
set_option maxHeartbeats 4000000
set_option autoImplicit false
set_option linter.all false
namespace CL
open PySem
inductive D where
  | non | bl (b : Bool) | int (i : Int) | str (s : List Nat)
  | tup (ds : List D) | lst (ds : List D) | dic (t : Bool) (ks vs : List D)
  | ins (C : String) (ns : List String) (ds : List D)
  | exn (C : String) (ns : List String) (ds : List D)
  | ref (i : Nat)
  | scr (ns : List Int)
  | way (ds : List D)
  deriving Inhabited
inductive Cell where
  | lst (ds : List D) | dic (t : Bool) (ks vs : List D) | ins (C : String) (ns : List String) (ds : List D)
abbrev Store := List Cell
abbrev Env := List (Option D)
mutual
def D.lim (n : Nat) : D → Bool
  | .ref i => decide (i < n)
  | .tup ds => D.limL n ds
  | .lst ds => D.limL n ds
  | .dic t ks vs => D.limL n ks && D.limL n vs
  | .ins _ _ ds => D.limL n ds
  | .exn _ _ ds => D.limL n ds
  | .non => true
  | .bl _ => true
  | .int _ => true
  | .str _ => true
  | .scr _ => true
  | .way ds => D.limL n ds
def D.limL (n : Nat) : List D → Bool
  | [] => true
  | d :: ds => d.lim n && D.limL n ds
end
def Cell.lim (n : Nat) : Cell → Bool
  | .lst ds => D.limL n ds
  | .dic t ks vs => D.limL n ks && D.limL n vs
  | .ins _ _ ds => D.limL n ds
mutual
def D.pd : D → Option PyData
  | .non => some .none
  | .bl b => some (.bool b)
  | .int i => some (.int i)
  | .str l => some (.str ⟨l.toArray⟩)
  | .tup ds => (D.pdL ds).map .tuple
  | .lst ds => (D.pdL ds).map .list
  | .way ds => (D.pdL ds).map .tuple
  | _ => none
def D.pdL : List D → Option (List PyData)
  | [] => some []
  | d :: ds => match d.pd, D.pdL ds with
    | some x, some xs => some (x :: xs)
    | _, _ => none
end
mutual
def D.eqv : D → D → Bool
  | .non, .non => true
  | .bl a, .bl b => a == b
  | .bl a, .int j => (if a then 1 else 0) == j
  | .int i, .bl b => i == (if b then 1 else 0)
  | .int i, .int j => i == j
  | .str x, .str y => x == y
  | .lst xs, .lst ys => D.eqvL xs ys
  | .tup xs, .tup ys => D.eqvL xs ys
  | .way xs, .tup ys => D.eqvL xs ys
  | .tup xs, .way ys => D.eqvL xs ys
  | .way xs, .way ys => D.eqvL xs ys
  | _, _ => false
def D.eqvL : List D → List D → Bool
  | [], [] => true
  | x :: xs, y :: ys => D.eqv x y && D.eqvL xs ys
  | _, _ => false
end
mutual
def D.same : D → D → Bool
  | .non, .non => true
  | .bl a, .bl b => a == b
  | .int i, .int j => i == j
  | .str x, .str y => x == y
  | .tup xs, .tup ys => D.sameL xs ys
  | .lst xs, .lst ys => D.sameL xs ys
  | .way xs, .way ys => D.sameL xs ys
  | .dic t ks vs, .dic u js ws => t == u && (D.sameL ks js && D.sameL vs ws)
  | .ins C ns ds, .ins C' ms es => C == C' && (ns == ms && D.sameL ds es)
  | .exn C ns ds, .exn C' ms es => C == C' && (ns == ms && D.sameL ds es)
  | .ref i, .ref j => i == j
  | .scr x, .scr y => x == y
  | _, _ => false
def D.sameL : List D → List D → Bool
  | [], [] => true
  | x :: xs, y :: ys => D.same x y && D.sameL xs ys
  | _, _ => false
end
mutual
def D.dat : Nat → D → Bool
  | _, .non => true
  | _, .bl _ => true
  | _, .int _ => true
  | _, .str _ => true
  | n, .tup ds => D.datL n ds
  | n, .lst ds => D.datL n ds
  | n, .way ds => D.datL n ds
  | _, _ => false
def D.datL : Nat → List D → Bool
  | _, [] => true
  | n, d :: ds => decide (0 < n) && (d.dat (n - 1) && D.datL n ds)
end
def vw (S : Store) : D → D
  | .ref i => match S[i]? with
    | some (.lst ds) => .lst ds
    | some (.dic t ks vs) => .dic t ks vs
    | _ => .ref i
  | d => d
def res (n : Nat) (S : Store) : Nat → D → D
  | 0, d => d
  | k + 1, .ref i => if i < n then .ref i else match S[i]? with
    | some (.lst ds) => .lst (ds.map (res n S k))
    | some (.dic t ks vs) => .dic t ks (vs.map (res n S k))
    | some (.ins C ns ds) => .ins C ns (ds.map (res n S k))
    | none => .ref i
  | k + 1, .tup ds => .tup (ds.map (res n S k))
  | k + 1, .lst ds => .lst (ds.map (res n S k))
  | k + 1, .way ds => .way (ds.map (res n S k))
  | k + 1, .ins C ns ds => .ins C ns (ds.map (res n S k))
  | _ + 1, d => d
inductive R (α : Type) where
  | ok (a : α) (S : Store) | err (C : String) (ns : List String) (ds : List D) (S : Store) | bad
def R.bind {α β : Type} (r : R α) (f : α → Store → R β) : R β := match r with
  | .ok a S => f a S
  | .err C ns ds S => .err C ns ds S
  | .bad => .bad
def R.of {α : Type} (S : Store) : Option α → R α
  | some a => .ok a S
  | none => .bad
def R.calm {α : Type} : R α → R α
  | .err _ _ _ _ => .bad
  | r => r
inductive BO where | add | sub | mul | fdiv | mod | pow | shl
inductive CO where | eq | ne | lt | le | gt | ge | isIn | notIn | is | isNot
inductive FB where | len | str | int | tuple | wtuple | list | sorted | min | max | abs | sum | all | lenSet | sortedSet
inductive MB where | join | split | partition | startswith | index | count | append | pop | popAt | insert | reverse | extend | remove | clear | get
inductive Tg where | one (i : Nat) | many (is : List Nat)
def Tg.slots : Tg → List Nat
  | .one i => [i]
  | .many is => is
def wipeE (ρ : Env) : List Nat → Env
  | [] => ρ
  | v :: vs => (wipeE ρ vs).set v none
mutual
inductive E where
  | no | var (i : Nat) | non | bl (b : Bool) | int (i : Int) | str (l : List Nat)
  | gcon (x : String)
  | tup (es : Es) | lst (es : Es) | newl (es : Es) | newdK | newdT
  | bop (o : BO) (a b : E) | neg (a : E)
  | cmp (o : CO) (a b : E) | chain (o p : CO) (a b c : E)
  | and (es : Es) | or (es : Es) | not (a : E) | ife (c a b : E)
  | idx (a i : E) | slAll (a : E) | slLo (a lo : E) | slHi (a hi : E) | sl (a lo hi : E)
  | bi (f : FB) (es : Es) | bm (m : MB) (a : E) (es : Es)
  | isi (a : E) (cs : List String) (tp : Bool)
  | call (f : String) (give : Bool) (es : Es)
  | make (C : String) (es : Es)
  | meth (a : E) (m : String) (give : Bool) (es : Es)
  | fld (a : E) (f : String)
  | xis (cs : List String) (tp : Bool) | xfld (f : String) | hcall (f : String)
  | lc (elt : E) (tg : Tg) (it : It) | lcIf (elt : E) (tg : Tg) (it : It) (c : E)
  | ncat (a b : E) | nlist (a : E) | lset (a : E) | sset (a : E) | isset (a : E) | step (a s : E)
  | dic1 (k v : E) | dictP (a : E) | sdic (a : E)
  | dicS (l : List (List Nat × List Nat)) | dicU (a : E) (l : List (List Nat × List Nat)) | nsplit (a : E) (c : Nat)
  | wtup (es : Es) | rev (a : E) | rev1 (a : E) | lrange (es : Es)
  | cmpR (o : CO) (a b : E) | nlrange (es : Es) | lenum (a : E)
  | newlc (elt : E) (tg : Tg) (it : It) | newlcIf (elt : E) (tg : Tg) (it : It) (c : E)
inductive Es where
  | nil | cons (e : E) (es : Es)
inductive It where
  | val (e : E) | range (es : Es) | enum (e : E) | zip (a b : E)
end
def Es.len : Es → Nat
  | .nil => 0
  | .cons _ es => es.len + 1
mutual
inductive St where
  | set (t : Tg) (e : E) | par (i j : Nat) (a b : E)
  | setIdx (a i v : E) | setFld (a : E) (f : String) (v : E) | aug (i : Nat) (e : E)
  | ex (e : E) | ite (c : E) (a b : Ss)
  | for_ (t : Tg) (it : It) (b : Ss) | whl (c : E) (b : Ss)
  | no | ret (e : E) | ret0 | brk | cont | pass
  | raise (C : String) (es : Es)
  | try_ (b : Ss) (C : String) (as : Option Nat) (h : Ss) (els : Ss)
  | tryN (b els : Ss)
inductive Ss where
  | nil | cons (s : St) (ss : Ss)
end
structure Ctx where
  call : String → Bool → List D → Nat → Store → R D
  hcall : String → String × List String × List D → Nat → Store → R D
  exc : Option (String × List String × List D)
  make : String → List D → Nat → Store → R D
  meth : String → String → Option String
  fldOk : String → String → Bool
  con : String → Option D
  isa : String → String → Option Bool
  isx : String → String → Option Bool
  ex : String → Option (Option (List String))
  deep : Bool
  fuel : Nat
def LIM : Nat := 10000000
def catOk (a b : Nat) : Bool := decide (a + b ≤ LIM)
def bop : BO → D → D → Option D
  | .add, .int a, .int b => some (.int (a + b))
  | .add, .str a, .str b => if catOk a.length b.length then some (.str (a ++ b)) else none
  | .add, .lst a, .lst b => if catOk a.length b.length then some (.lst (a ++ b)) else none
  | .add, .tup a, .tup b => if catOk a.length b.length then some (.tup (a ++ b)) else none
  | .add, .tup a, .way b => if catOk a.length b.length && !a.isEmpty && !b.isEmpty then some (.tup (a ++ b)) else none
  | .add, .way a, .tup b => if catOk a.length b.length && !a.isEmpty && !b.isEmpty then some (.tup (a ++ b)) else none
  | .sub, .int a, .int b => some (.int (a - b))
  | .mul, .int a, .int b => if a.natAbs < 2 ^ 64 ∨ b.natAbs < 2 ^ 64 then some (.int (a * b)) else none
  | .mul, .lst a, .int b => if 0 ≤ b ∧ b ≤ 1000 ∧ a.length ≤ 1000 then some (.lst (List.replicate b.toNat a).flatten) else none
  | .mul, .str a, .int b => if b = 0 then some (.str []) else if b = 1 then some (.str a) else none
  | .mul, .tup a, .int b => if -1000 ≤ b ∧ b ≤ 1000 ∧ (b = 1 ∨ a.length = 0) then some (.tup a) else if b = 0 then some (.tup []) else none
  | .fdiv, .int a, .int b => if 0 < b ∧ b < 2 ^ 4000 then some (.int (a / b)) else none
  | .mod, .int a, .int b => if 0 < b then some (.int (a % b)) else none
  | .pow, .int a, .int b => if 0 ≤ b ∧ b ≤ 1000 ∧ a.natAbs < 2 ^ 64 then some (.int (a ^ b.toNat)) else none
  | .shl, .int a, .int b => if 0 ≤ b ∧ b ≤ 1000 ∧ a.natAbs < 2 ^ 64 then some (.int (a * 2 ^ b.toNat)) else none
  | _, _, _ => none
def dp : Nat := 20
def eqD (a b : D) : Option Bool := if a.dat dp && b.dat dp then some (D.eqv a b) else none
def nonP : PyData → Bool
  | .none => true
  | _ => false
def ltD (a b : D) : Option Bool := match a, b with
  | .int i, .int j => some (decide (i < j))
  | .str x, .str y => some (decide (x < y))
  | _, _ => if a.dat dp && b.dat dp then match a.pd, b.pd with
    | some p, some q => if PySem.W.alike p q && !nonP p then some (PySem.W.dataLt p q) else none
    | _, _ => none
    else none
def flatD : D → Bool
  | .int _ => true
  | .str _ => true
  | _ => false
def keyOf (t : Bool) (d : D) : Bool := match d with
  | .int _ => !t
  | .str _ => !t
  | .tup ds => t && ds.all flatD
  | _ => false
def lookD (k : D) : List D → List D → Option D
  | x :: ks, v :: vs => if D.eqv x k then some v else lookD k ks vs
  | _, _ => none
def inD (a b : D) : Option Bool := match b with
  | .str l => match a with
    | .str [c] => some (decide (c ∈ l))
    | _ => none
  | .lst ds => if a.dat dp && D.datL dp ds then some (ds.any fun z => D.eqv z a) else none
  | .tup ds => if a.dat dp && D.datL dp ds then some (ds.any fun z => D.eqv z a) else none
  | .way ds => if a.dat dp && D.datL dp ds then some (ds.any fun z => D.eqv z a) else none
  | .dic t ks vs => if keyOf t a then some (lookD a ks vs).isSome else none
  | _ => none
def isD (a b : D) : Option Bool := match b with
  | .non => some (match a with | .non => true | _ => false)
  | .bl k => match a with
    | .bl j => some (j == k)
    | _ => none
  | _ => none
def cmpD : CO → D → D → Option Bool
  | .eq, a, b => eqD a b
  | .ne, a, b => (eqD a b).map (!·)
  | .lt, a, b => ltD a b
  | .gt, a, b => ltD b a
  | .le, a, b => (ltD b a).map (!·)
  | .ge, a, b => (ltD a b).map (!·)
  | .isIn, a, b => inD a b
  | .notIn, a, b => (inD a b).map (!·)
  | .is, a, b => isD a b
  | .isNot, a, b => (isD a b).map (!·)
def truD : D → Option Bool
  | .non => some false
  | .bl b => some b
  | .int i => some (i != 0)
  | .str l => if l.length ≤ LIM then some (!l.isEmpty) else none
  | .tup ds => some (!ds.isEmpty)
  | .way ds => some (!ds.isEmpty)
  | .lst ds => some (!ds.isEmpty)
  | _ => none
def atD {α : Type} (l : List α) (i : Int) : Option α := if 0 ≤ i then l[i.toNat]? else if 0 ≤ i + l.length then l[(i + l.length).toNat]? else none
def idxD : D → D → Option D
  | .lst ds, .int i => atD ds i
  | .tup ds, .int i => atD ds i
  | .way ds, .int i => atD ds i
  | .str l, .int i => if l.length ≤ LIM then (atD l i).map fun c => .str [c] else none
  | .dic t ks vs, k => if keyOf t k then lookD k ks vs else none
  | .scr ns, .int i => (atD ns i).map .int
  | _, _ => none
def clipI (n : Nat) (v : Int) : Nat := if v < 0 then (max (v + n) 0).toNat else min v.toNat n
def cutL {α : Type} (l : List α) (lo hi : Option Int) : List α :=
  let i := match lo with | some v => clipI l.length v | none => 0
  let j := match hi with | some v => clipI l.length v | none => l.length
  (l.drop i).take (j - i)
def slD (lo hi : Option Int) : D → Option D
  | .lst ds => some (.lst (cutL ds lo hi))
  | .tup ds => some (.tup (cutL ds lo hi))
  | .way ds => some (if (cutL ds lo hi).length = ds.length then .way ds else .tup (cutL ds lo hi))
  | .str l => if l.length ≤ LIM then some (.str (cutL l lo hi)) else none
  | _ => none
def lenD : D → Option Nat
  | .lst ds => some ds.length
  | .tup ds => some ds.length
  | .way ds => some ds.length
  | .str l => if l.length ≤ LIM then some l.length else none
  | .dic false ks _ => some ks.length
  | .scr ns => some ns.length
  | _ => none
def strI (i : Int) : List Nat := (toString i).toList.map Char.toNat
def txts : List D → Option (List (List Nat))
  | [] => some []
  | .str l :: ds => (txts ds).map (l :: ·)
  | _ :: _ => none
def intsD : List D → Option (List Int)
  | [] => some []
  | .int i :: ds => (intsD ds).map (i :: ·)
  | _ :: _ => none
def bls : List D → Option (List Bool)
  | [] => some []
  | .bl b :: ds => (bls ds).map (b :: ·)
  | _ :: _ => none
def alikeAllD (ps : List PyData) : Bool := ps.all fun p => ps.all fun q => PySem.W.alike p q
def sortOk (ps : List PyData) : Bool := (ps.all fun p => match p with | .tuple (_ :: _) => true | _ => false) || (ps.all fun p => match p with | .none => false | .tuple _ => false | _ => true)
def leD (a b : D) : Bool := !(ltD b a).getD false
def sortD (ds : List D) : Option (List D) :=
  if D.datL dp ds && decide (ds.length ≤ LIM) then match D.pdL ds with
    | some ps => if alikeAllD ps && sortOk ps then some (ds.mergeSort leD) else none
    | none => none
  else none
def firsts : List D → List D → List D
  | _, [] => []
  | seen, d :: ds => if seen.any fun z => D.eqv z d then firsts seen ds else d :: firsts (seen ++ [d]) ds
def minL : D → List D → D
  | m, [] => m
  | m, d :: ds => if (ltD d m).getD false then minL d ds else minL m ds
def maxL : D → List D → D
  | m, [] => m
  | m, d :: ds => if (ltD m d).getD false then maxL d ds else maxL m ds
def seqD : D → Option (List D)
  | .lst ds => some ds
  | .tup ds => some ds
  | .way ds => some ds
  | _ => none
def bestD (f : D → List D → D) : List D → Option D
  | [] => none
  | d :: ds => if D.datL dp (d :: ds) then match D.pdL (d :: ds) with
    | some ps => if alikeAllD ps && ps.all (fun p => !nonP p) then some (f d ds) else none
    | none => none
    else none
def fbD : FB → List D → Option D
  | .len, [d] => (lenD d).map fun (n : Nat) => D.int n
  | .str, [.int i] => if i.natAbs < 2 ^ 1000 then some (.str (strI i)) else none
  | .str, [.str l] => some (.str l)
  | .int, [.int i] => some (.int i)
  | .int, [.bl b] => some (.int (if b then 1 else 0))
  | .int, [.str l] => if l.length ≤ 640 then (intText? ⟨l.toArray⟩).map .int else none
  | .tuple, [.lst ds] => some (.tup ds)
  | .wtuple, [.lst ds] => some (.way ds)
  | .list, [.way ds] => some (.lst ds)
  | .tuple, [.tup ds] => some (.tup ds)
  | .list, [.lst ds] => some (.lst ds)
  | .list, [.tup ds] => some (.lst ds)
  | .sorted, [.lst ds] => (sortD ds).map .lst
  | .sorted, [.tup ds] => (sortD ds).map .lst
  | .min, [.lst ds] => bestD minL ds
  | .max, [.lst ds] => bestD maxL ds
  | .min, [.int a, .int b] => some (.int (if b < a then b else a))
  | .max, [.int a, .int b] => some (.int (if b > a then b else a))
  | .max, [.str a, .str b] => some (.str (if a < b then b else a))
  | .abs, [.int a] => some (.int (if a < 0 then -a else a))
  | .sum, [.lst ds] => (intsD ds).map fun l => .int l.sum
  | .all, [.lst ds] => (bls ds).map fun l => .bl (l.all id)
  | _, _ => none
def remAt {α : Type} (l : List α) (i : Int) : Option (α × List α) :=
  match atD l i with
  | some x => some (x, l.eraseIdx (if 0 ≤ i then i.toNat else (i + l.length).toNat))
  | none => none
def placeD (x : D) : List D → Option Nat
  | [] => none
  | d :: ds => if D.eqv d x then some 0 else (placeD x ds).map (· + 1)
def tD (x : Str) : D := .str x.cps.toList
def sT (l : List Nat) : Str := ⟨l.toArray⟩
def kindD : D → Nat
  | .str _ => 1
  | .lst _ => 2
  | .way _ => 3
  | _ => 0
def mbId : MB → Nat → Option String
  | .join, 1 => some "str.join"
  | .split, 1 => some "str.split"
  | .partition, 1 => some "str.partition"
  | .startswith, 1 => some "str.startswith"
  | .index, 1 => some "str.index"
  | .index, 2 => some "list.index"
  | .index, 3 => some "tuple.index"
  | .count, 2 => some "list.count"
  | .append, 2 => some "list.append"
  | .extend, 2 => some "list.extend"
  | .pop, 2 => some "list.pop"
  | .popAt, 2 => some "list.pop"
  | .insert, 2 => some "list.insert"
  | .reverse, 2 => some "list.reverse"
  | .clear, 2 => some "list.clear"
  | .remove, 2 => some "list.remove"
  | _, _ => none
def mbD : MB → D → List D → Option D
  | .join, .str sep, [.lst ds] => match txts ds with
    | some ls => if ((ls.map List.length).sum + ls.length * sep.length) ≤ LIM then some (tD (Txt.join (sT sep) (ls.map sT))) else none
    | none => none
  | .split, .str l, [.str [c]] => if l.length ≤ LIM then some (.lst ((Txt.split (sT l) (sT [c])).map tD)) else none
  | .partition, .str l, [.str [c]] => if l.length ≤ LIM then some (.tup [tD (Txt.partition (sT l) (sT [c])).1, tD (Txt.partition (sT l) (sT [c])).2.1, tD (Txt.partition (sT l) (sT [c])).2.2]) else none
  | .startswith, .str l, [.str p] => some (.bl (Txt.startswith (sT l) (sT p)))
  | .index, .str l, [.str z] => match Builtin.Str.occurrences (sT l) (sT z) 0 (sT l).length 1 with
    | i :: _ => some (.int i)
    | [] => none
  | .index, .lst ds, [x] => if x.dat dp && D.datL dp ds then (placeD x ds).map fun (n : Nat) => D.int n else none
  | .index, .way ds, [x] => if x.dat dp && D.datL dp ds then (placeD x ds).map fun (n : Nat) => D.int n else none
  | .count, .lst ds, [x] => if x.dat dp && D.datL dp ds then some (.int (ds.countP fun y => D.eqv y x : Nat)) else none
  | _, _, _ => none
def mcD : MB → List D → List D → List D → Option (D × List D)
  | .append, ds, [x], _ => if ds.length < LIM then some (.non, ds ++ [x]) else none
  | .extend, ds, [_], [.lst xs] => if ds.length + xs.length ≤ LIM then some (.non, ds ++ xs) else none
  | .pop, ds, [], _ => (ds[ds.length - 1]?).map fun x => (x, ds.dropLast)
  | .popAt, ds, [.int i], _ => if ds.length ≤ LIM then remAt ds i else none
  | .insert, ds, [.int i, x], _ => if ds.length < LIM ∧ 0 ≤ i ∧ i < 2 ^ 63 then some (.non, ds.take i.toNat ++ [x] ++ ds.drop i.toNat) else none
  | .reverse, ds, [], _ => some (.non, ds.reverse)
  | .clear, _, [], _ => some (.non, [])
  | .remove, ds, [_], [x] => if x.dat dp && D.datL dp ds then (placeD x ds).map fun n => (.non, ds.eraseIdx n) else none
  | _, _, _, _ => none
def MB.writes : MB → Bool
  | .append => true | .extend => true | .pop => true | .popAt => true | .insert => true | .reverse => true | .clear => true | .remove => true
  | _ => false
def putOk (b i : Nat) (v : D) : Bool := v.lim 0 || decide (b ≤ i)
def bmD (m : MB) (a : D) (xs : List D) (b : Nat) (S : Store) : R D :=
  if m.writes then match a with
    | .ref i => match S[i]? with
      | some (.lst ds) => match mcD m ds xs (xs.map (vw S)) with
        | some (r, ds') => if D.limL 0 xs || decide (b ≤ i) then .ok r (S.set i (.lst ds')) else .bad
        | none => .bad
      | _ => .bad
    | _ => .bad
  else R.of S (mbD m (vw S a) (xs.map (vw S)))
def asg (t : Tg) (d : D) (ρ : Env) : Option Env := match t with
  | .one i => some (ρ.set i (some d))
  | .many is => match d with
    | .tup ds => if ds.length = is.length then some ((is.zip ds).foldl (fun ρ p => ρ.set p.1 (some p.2)) ρ) else none
    | .lst ds => if ds.length = is.length then some ((is.zip ds).foldl (fun ρ p => ρ.set p.1 (some p.2)) ρ) else none
    | _ => none
def isaD (c : Ctx) (d : D) (C : String) : Option Bool := match d with
  | .non => some false
  | .bl _ => some (C == "bool" || C == "int")
  | .int _ => some (C == "int")
  | .str _ => some (C == "str")
  | .tup _ => some (C == "tuple")
  | .way _ => some (C == "tuple")
  | .lst _ => some (C == "list")
  | .dic _ _ _ => some (C == "dict")
  | .ins X _ _ => c.isa X C
  | .exn X _ _ => c.isa X C
  | _ => none
def isaAny (c : Ctx) (d : D) : List String → Option Bool
  | [] => some false
  | C :: r => match isaD c d C with
    | some true => some true
    | some false => isaAny c d r
    | none => none
def fldD (f : String) : List String → List D → Option D
  | n :: ns, d :: ds => if n = f then some d else fldD f ns ds
  | _, _ => none
def putD (f : String) (v : D) : List String → List D → List String × List D
  | n :: ns, d :: ds => if n = f then (n :: ns, v :: ds) else let r := putD f v ns ds; (n :: r.1, d :: r.2)
  | _, _ => ([f], [v])
def putK (k v : D) (ks vs : List D) : List D × List D :=
  if ks.any fun x => D.eqv x k then (ks, List.zipWith (fun x w => if D.eqv x k then v else w) ks vs) else (ks ++ [k], vs ++ [v])
structure Walk where
  items : List D
  held : List (Nat × List D)
def Walk.still (w : Walk) (S : Store) : Bool := w.held.all fun p => match S[p.1]? with
  | some (.lst ds) => D.sameL ds p.2
  | _ => false
def lcL (f : D → Env → Store → R (Option D)) (w : Walk) (ρ : Env) : List D → Store → R (List D)
  | [], S => if w.still S then .ok [] S else .bad
  | d :: ds, S => if w.still S then match f d ρ S with
    | .ok none S1 => lcL f w ρ ds S1
    | .ok (some x) S1 => match lcL f w ρ ds S1 with
      | .ok xs S2 => .ok (x :: xs) S2
      | _ => .bad
    | _ => .bad
    else .bad
def lcR (f : D → Env → Store → R (Option D)) (w : Walk) (ρ : Env) (S : Store) : R (List D) := if w.items.length ≤ LIM then lcL f w ρ w.items S else .bad
def ranges : List D → Option (List D)
  | [.int n] => if -10000000 ≤ n ∧ n ≤ 10000000 then some ((List.range n.toNat).map fun (k : Nat) => .int k) else none
  | [.int a, .int b] => if -4000000000000 ≤ a ∧ a ≤ 4000000000000 ∧ -4000000000000 ≤ b ∧ b ≤ 4000000000000 then some ((List.range (b - a).toNat).map fun (k : Nat) => .int (a + k)) else none
  | [.int a, .int b, .int c] => if c = -1 ∧ -10000000 ≤ a ∧ a ≤ 10000000 ∧ -10000000 ≤ b ∧ b ≤ 10000000 then some ((List.range (a - b).toNat).map fun (k : Nat) => .int (a - k)) else none
  | _ => none
def listD (S : Store) (d : D) : Option (List D × List (Nat × List D)) := match d with
  | .lst ds => some (ds, [])
  | .ref i => match S[i]? with
    | some (.lst ds) => some (ds, [(i, ds)])
    | _ => none
  | _ => none
def walkD (S : Store) (d : D) : Option Walk := match d with
  | .tup ds => some ⟨ds, []⟩
  | .way ds => some ⟨ds, []⟩
  | .str l => some ⟨l.map fun c => .str [c], []⟩
  | .scr ns => some ⟨ns.map .int, []⟩
  | d => (listD S d).map fun p => ⟨p.1, p.2⟩
def numbered (k : Nat) : List D → List D
  | [] => []
  | d :: ds => .tup [.int k, d] :: numbered (k + 1) ds
def pairs : List D → List D → List D
  | x :: xs, y :: ys => .tup [x, y] :: pairs xs ys
  | _, _ => []
def tupD : D → Option (List D)
  | .tup ds => some ds
  | .way ds => some ds
  | _ => none
def enumD (S : Store) (d : D) : Option Walk := match tupD d with
  | some ds => some ⟨numbered 0 ds, []⟩
  | none => (listD S d).map fun l => ⟨numbered 0 l.1, l.2⟩
def zipD (S : Store) (d e : D) : Option Walk := match tupD d, tupD e with
  | some ds, some es => some ⟨pairs ds es, []⟩
  | none, none => (listD S d).bind fun l => (listD S e).map fun m => ⟨pairs l.1 m.1, l.2 ++ m.2⟩
  | _, _ => none
def zipE (S : Store) (d e : D) : Option Walk := match d with
  | .str l => (listD S e).map fun m => ⟨pairs (l.map fun c => .str [c]) m.1, m.2⟩
  | d => zipD S d e
def lsetD : D → Option D
  | .lst ds => match txts ds with
    | some ls => if ls.length ≤ 4000 then some (.int (firsts [] ds).length) else none
    | none => none
  | _ => none
def ssetL (ds : List D) : Option D := if ds.length ≤ 120 ∧ ds.all (keyOf true) = true then (sortD (firsts [] ds)).map .lst else none
def ssetD : D → Option D
  | .lst ds => ssetL ds
  | .tup ds => ssetL ds
  | _ => none
def numsD : List D → Option (List Int)
  | [] => some []
  | .int i :: ds => (numsD ds).map (i :: ·)
  | _ => none
def insI (k : Int) : List Int → List Int
  | [] => [k]
  | x :: r => if k < x then k :: x :: r else if k = x then x :: r else x :: insI k r
def srtI (ns : List Int) : List Int := ns.foldr insI []
def isetL (ds : List D) : Option D := match numsD ds with
  | some ns => if ns.length ≤ 4000 then some (.lst ((srtI ns).map .int)) else none
  | none => none
def isetD : D → Option D
  | .lst ds => isetL ds
  | .tup ds => isetL ds
  | _ => none
def isxAny (c : Ctx) (X : String) : List String → Option Bool
  | [] => some false
  | C :: r => match c.isx X C with
    | some true => some true
    | some false => isxAny c X r
    | none => none
def exFields : Option (Option (List String)) → List D → Option (List String × List D)
  | some none, [.str _] => some ([], [])
  | some (some ns), ds => if ds.length = ns.length ∧ ns.length < 20 then some (ns.reverse, ds.reverse) else none
  | _, _ => none
def clsD (S : Store) : D → Option (String × List String × List D)
  | .ins C ns ds => some (C, ns, ds)
  | .ref i => match S[i]? with
    | some (.ins C ns ds) => some (C, ns, ds)
    | _ => none
  | _ => none
def methOf (c : Ctx) (S : Store) (m : String) (d : D) : Option String := match clsD S d with
  | some o => if o.2.1.contains m then none else c.meth o.1 m
  | none => none
def fldOf (c : Ctx) (S : Store) (f : String) (d : D) : Option D := match clsD S d with
  | some o => if c.fldOk o.1 f then fldD f o.2.1 o.2.2 else none
  | none => none
def revD : D → Option D
  | .lst ds => some (.lst ds.reverse)
  | _ => none
def stepD : D → D → Option D
  | .lst ds, .int i => if i = 1 then some (.lst ds) else if i = -1 then some (.lst ds.reverse) else none
  | _, _ => none
def rev1D : D → Option D
  | .lst ds => some (.lst (ds.drop 1).reverse)
  | _ => none
def cmpRD (o : CO) (S : Store) (d e : D) : Option D := if (res 0 S 8 d).lim 0 && (res 0 S 8 e).lim 0 then (cmpD o (vw [] (res 0 S 8 d)) (vw [] (res 0 S 8 e))).map .bl else none
def lenumD (S : Store) (d : D) : Option D := (enumD S d).map fun w => .lst w.items
def lrangeD : List D → Option D
  | [.int n] => if -1000000 ≤ n ∧ n ≤ 1000000 then some (.lst ((List.range n.toNat).map fun (k : Nat) => .int k)) else none
  | [.int a, .int b] => if -1000000 ≤ a ∧ a ≤ 1000000 ∧ -1000000 ≤ b ∧ b ≤ 1000000 then some (.lst ((List.range (b - a).toNat).map fun (k : Nat) => .int (a + k))) else none
  | _ => none
def dic1R (k v : D) (S : Store) : R D := if keyOf false k then .ok (.ref S.length) (S ++ [.dic false [k] [v]]) else .bad
def dictPD : List D → List D × List D → Option (List D × List D)
  | [], r => some r
  | .tup [k, v] :: ds, r => if keyOf false k then dictPD ds (putK k v r.1 r.2) else none
  | _ :: _, _ => none
def dictPR (d : D) (S : Store) : R D := match d with
  | .lst ds => if ds.length ≤ 1000 then match dictPD ds ([], []) with
    | some r => .ok (.ref S.length) (S ++ [.dic false r.1 r.2])
    | none => .bad
    else .bad
  | _ => .bad
def putsD (ps : List (D × D)) (r : List D × List D) : List D × List D := ps.foldl (fun r p => putK p.1 p.2 r.1 r.2) r
def conPairs (l : List (List Nat × List Nat)) : List D × List D := putsD (l.map fun p => (.str p.1, .str p.2)) ([], [])
def dicUR (l : List (List Nat × List Nat)) (d : D) (S : Store) : R D := match d with
  | .ref i => match S[i]? with
    | some (.dic false ks vs) => if ks.length + l.length ≤ 1000 then let r := putsD ((conPairs l).1.zip (conPairs l).2) (ks, vs); .ok .non (S.set i (.dic false r.1 r.2)) else .bad
    | _ => .bad
  | _ => .bad
def nsplitR (z : Nat) (d : D) (S : Store) : R D := match mbD .split (vw S d) [.str [z]] with
  | some (.lst ds) => .ok (.ref S.length) (S ++ [.lst ds])
  | _ => .bad
def leT (a b : List Nat) : Bool := !decide (b < a)
def sdicD : D → Option D
  | .dic false ks _ => match txts ks with
    | some ls => if ls.length < 64 then some (.lst ((ls.mergeSort leT).map .str)) else none
    | none => none
  | _ => none
mutual
def ev (c : Ctx) (b : Nat) : E → Env → Store → R D
  | .no, _, _ => .bad
  | .var i, ρ, S => match ρ[i]? with
    | some (some d) => .ok d S
    | _ => .bad
  | .non, _, S => .ok .non S
  | .bl k, _, S => .ok (.bl k) S
  | .int i, _, S => .ok (.int i) S
  | .str l, _, S => .ok (.str l) S
  | .gcon x, _, S => R.of S (c.con x)
  | .tup es, ρ, S => (evs c b es ρ S).bind fun ds S1 => .ok (.tup ds) S1
  | .lst es, ρ, S => (evs c b es ρ S).bind fun ds S1 => .ok (.lst ds) S1
  | .newl es, ρ, S => (evs c b es ρ S).bind fun ds S1 => .ok (.ref S1.length) (S1 ++ [.lst ds])
  | .newdK, _, S => .ok (.ref S.length) (S ++ [.dic false [] []])
  | .newdT, _, S => .ok (.ref S.length) (S ++ [.dic true [] []])
  | .bop o x y, ρ, S => (ev c b x ρ S).bind fun d S1 => (ev c b y ρ S1).bind fun e S2 => R.of S2 (bop o (vw S2 d) (vw S2 e))
  | .neg x, ρ, S => (ev c b x ρ S).bind fun d S1 => match d with
    | .int i => .ok (.int (-i)) S1
    | _ => .bad
  | .cmp o x y, ρ, S => (ev c b x ρ S).bind fun d S1 => (ev c b y ρ S1).bind fun e S2 => R.of S2 ((cmpD o (vw S2 d) (vw S2 e)).map .bl)
  | .chain o p x y z, ρ, S => (ev c b x ρ S).bind fun d S1 => (ev c b y ρ S1).bind fun e S2 => match cmpD o (vw S2 d) (vw S2 e) with
    | some true => (ev c b z ρ S2).bind fun f S3 => R.of S3 ((cmpD p (vw S3 e) (vw S3 f)).map .bl)
    | some false => .ok (.bl false) S2
    | none => .bad
  | .and es, ρ, S => evAnd c b es ρ S
  | .or es, ρ, S => evOr c b es ρ S
  | .not x, ρ, S => (ev c b x ρ S).bind fun d S1 => R.of S1 ((truD (vw S1 d)).map fun k => .bl (!k))
  | .ife q x y, ρ, S => (ev c b q ρ S).bind fun d S1 => match truD (vw S1 d) with
    | some true => ev c b x ρ S1
    | some false => ev c b y ρ S1
    | none => .bad
  | .idx x i, ρ, S => (ev c b x ρ S).bind fun d S1 => (ev c b i ρ S1).bind fun e S2 => R.of S2 (idxD (vw S2 d) (vw S2 e))
  | .slAll x, ρ, S => (ev c b x ρ S).bind fun d S1 => R.of S1 (slD none none (vw S1 d))
  | .slLo x lo, ρ, S => (ev c b x ρ S).bind fun d S1 => (ev c b lo ρ S1).bind fun e S2 => match e with
    | .int i => R.of S2 (slD (some i) none (vw S2 d))
    | _ => .bad
  | .slHi x hi, ρ, S => (ev c b x ρ S).bind fun d S1 => (ev c b hi ρ S1).bind fun e S2 => match e with
    | .int i => R.of S2 (slD none (some i) (vw S2 d))
    | _ => .bad
  | .sl x lo hi, ρ, S => (ev c b x ρ S).bind fun d S1 => (ev c b lo ρ S1).bind fun e S2 => match e with
    | .int i => (ev c b hi ρ S2).bind fun f S3 => match f with
      | .int j => R.of S3 (slD (some i) (some j) (vw S3 d))
      | _ => .bad
    | _ => .bad
  | .bi f es, ρ, S => (evs c b es ρ S).bind fun ds S1 => R.of S1 (fbD f (ds.map (vw S1)))
  | .bm m x es, ρ, S => (ev c b x ρ S).bind fun d S1 => if (mbId m (kindD (vw S1 d))).isSome then (evs c b es ρ S1).bind fun ds S2 => if kindD (vw S1 d) = kindD (vw S2 d) then bmD m d ds b S2 else .bad else .bad
  | .isi x cs _, ρ, S => (ev c b x ρ S).bind fun d S1 => R.of S1 ((isaAny c (vw S1 d) cs).map .bl)
  | .call f g es, ρ, S => (evs c b es ρ S).bind fun ds S1 => c.call f g ds b S1
  | .make C es, ρ, S => (evs c b es ρ S).bind fun ds S1 => c.make C ds b S1
  | .meth x m g es, ρ, S => (ev c b x ρ S).bind fun d S1 => match methOf c S1 m d with
    | some f => (evs c b es ρ S1).bind fun ds S2 => c.call f g (d :: ds) b S2
    | none => .bad
  | .fld x f, ρ, S => (ev c b x ρ S).bind fun d S1 => R.of S1 (fldOf c S1 f d)
  | .wtup es, ρ, S => (evs c b es ρ S).bind fun ds S1 => .ok (.way ds) S1
  | .rev x, ρ, S => (ev c b x ρ S).bind fun d S1 => R.of S1 (revD (vw S1 d))
  | .rev1 x, ρ, S => (ev c b x ρ S).bind fun d S1 => R.of S1 (rev1D (vw S1 d))
  | .lrange es, ρ, S => (evs c b es ρ S).bind fun ds S1 => R.of S1 (lrangeD ds)
  | .nlrange es, ρ, S => (evs c b es ρ S).bind fun ds S1 => match lrangeD ds with
    | some (.lst l) => .ok (.ref S1.length) (S1 ++ [.lst l])
    | _ => .bad
  | .lenum x, ρ, S => (ev c b x ρ S).bind fun d S1 => R.of S1 (lenumD S1 d)
  | .cmpR o x y, ρ, S => (ev c b x ρ S).bind fun d S1 => (ev c b y ρ S1).bind fun e S2 => R.of S2 (cmpRD o S2 d e)
  | .dic1 x y, ρ, S => (ev c b x ρ S).calm.bind fun k S1 => (ev c b y ρ S1).calm.bind fun v S2 => dic1R k v S2
  | .nsplit x z, ρ, S => (ev c b x ρ S).bind fun d S1 => nsplitR z d S1
  | .dicS l, _, S => .ok (.ref S.length) (S ++ [.dic false (conPairs l).1 (conPairs l).2])
  | .dicU x l, ρ, S => (ev c b x ρ S).bind fun d S1 => dicUR l d S1
  | .dictP x, ρ, S => (ev c b x ρ S).bind fun d S1 => dictPR (vw S1 d) S1
  | .sdic x, ρ, S => (ev c b x ρ S).bind fun d S1 => R.of S1 (sdicD (vw S1 d))
  | .xis cs _, _, S => match c.exc with
    | some x => R.of S ((isxAny c x.1 cs).map .bl)
    | none => .bad
  | .xfld f, _, S => match c.exc with
    | some x => R.of S (fldD f x.2.1 x.2.2)
    | none => .bad
  | .hcall f, _, S => match c.exc with
    | some x => c.hcall f x b S
    | none => .bad
  | .lc elt tg it, ρ, S => (evIt c b it ρ S).bind fun w S1 =>
      (lcR (fun d ρ S => match asg tg d ρ with | some ρ' => (ev c b elt ρ' S).bind fun x S' => .ok (some x) S' | none => .bad) w (wipeE ρ tg.slots) S1).bind fun ds S2 => .ok (.lst ds) S2
  | .lcIf elt tg it q, ρ, S => (evIt c b it ρ S).bind fun w S1 =>
      (lcR (fun d ρ S => match asg tg d ρ with
        | some ρ' => (ev c b q ρ' S).bind fun k S' => match truD (vw S' k) with
          | some true => (ev c b elt ρ' S').bind fun x S' => .ok (some x) S'
          | some false => .ok none S'
          | none => .bad
        | none => .bad) w (wipeE ρ tg.slots) S1).bind fun ds S2 => .ok (.lst ds) S2
  | .ncat x y, ρ, S => (ev c b x ρ S).bind fun d S1 => (ev c b y ρ S1).bind fun e S2 => match bop .add (vw S2 d) (vw S2 e) with
    | some (.lst ds) => .ok (.ref S2.length) (S2 ++ [.lst ds])
    | _ => .bad
  | .nlist x, ρ, S => (ev c b x ρ S).bind fun d S1 => match seqD (vw S1 d) with
    | some ds => .ok (.ref S1.length) (S1 ++ [.lst ds])
    | none => .bad
  | .lset x, ρ, S => (ev c b x ρ S).bind fun d S1 => R.of S1 (lsetD (vw S1 d))
  | .sset x, ρ, S => (ev c b x ρ S).bind fun d S1 => R.of S1 (ssetD (vw S1 d))
  | .step x y, ρ, S => (ev c b x ρ S).bind fun d S1 => (ev c b y ρ S1).bind fun e S2 => R.of S2 (stepD (vw S2 d) e)
  | .isset x, ρ, S => (ev c b x ρ S).bind fun d S1 => R.of S1 (isetD (vw S1 d))
  | .newlc elt tg it, ρ, S => (evIt c b it ρ S).bind fun w S1 =>
      (lcR (fun d ρ S => match asg tg d ρ with | some ρ' => (ev c b elt ρ' S).bind fun x S' => .ok (some x) S' | none => .bad) w (wipeE ρ tg.slots) S1).bind fun ds S2 => .ok (.ref S2.length) (S2 ++ [.lst ds])
  | .newlcIf elt tg it q, ρ, S => (evIt c b it ρ S).bind fun w S1 =>
      (lcR (fun d ρ S => match asg tg d ρ with
        | some ρ' => (ev c b q ρ' S).bind fun k S' => match truD (vw S' k) with
          | some true => (ev c b elt ρ' S').bind fun x S' => .ok (some x) S'
          | some false => .ok none S'
          | none => .bad
        | none => .bad) w (wipeE ρ tg.slots) S1).bind fun ds S2 => .ok (.ref S2.length) (S2 ++ [.lst ds])
def evs (c : Ctx) (b : Nat) : Es → Env → Store → R (List D)
  | .nil, _, S => .ok [] S
  | .cons e es, ρ, S => (ev c b e ρ S).bind fun d S1 => (evs c b es ρ S1).bind fun ds S2 => .ok (d :: ds) S2
def evAnd (c : Ctx) (b : Nat) : Es → Env → Store → R D
  | .nil, _, _ => .bad
  | .cons e .nil, ρ, S => ev c b e ρ S
  | .cons e (.cons e2 es), ρ, S => (ev c b e ρ S).bind fun d S1 => match truD (vw S1 d) with
    | some true => evAnd c b (.cons e2 es) ρ S1
    | some false => .ok d S1
    | none => .bad
def evOr (c : Ctx) (b : Nat) : Es → Env → Store → R D
  | .nil, _, _ => .bad
  | .cons e .nil, ρ, S => ev c b e ρ S
  | .cons e (.cons e2 es), ρ, S => (ev c b e ρ S).bind fun d S1 => match truD (vw S1 d) with
    | some false => evOr c b (.cons e2 es) ρ S1
    | some true => .ok d S1
    | none => .bad
def evIt (c : Ctx) (b : Nat) : It → Env → Store → R Walk
  | .val e, ρ, S => (ev c b e ρ S).bind fun d S1 => R.of S1 (walkD S1 d)
  | .range es, ρ, S => (evs c b es ρ S).bind fun ds S1 => R.of S1 ((ranges ds).map fun l => ⟨l, []⟩)
  | .enum e, ρ, S => (ev c b e ρ S).bind fun d S1 => R.of S1 (enumD S1 d)
  | .zip x y, ρ, S => (ev c b x ρ S).bind fun d S1 => (ev c b y ρ S1).bind fun e S2 => R.of S2 (zipE S2 d e)
end
inductive Fl where | nx (ρ : Env) | rt (d : D) | bk (ρ : Env) | ct (ρ : Env)
inductive RS where
  | ok (f : Fl) (S : Store) | err (C : String) (ns : List String) (ds : List D) (ρ : Env) (S : Store) | bad
def R.then {α : Type} (r : R α) (ρ : Env) (f : α → Store → RS) : RS := match r with
  | .ok a S => f a S
  | .err C ns ds S => .err C ns ds ρ S
  | .bad => .bad
def RS.then (r : RS) (f : Env → Store → RS) : RS := match r with
  | .ok (.nx ρ) S => f ρ S
  | r => r
def forL (body : Env → Store → RS) (t : Tg) (w : Walk) : List D → Env → Store → RS
  | [], ρ, S => if w.still S then .ok (.nx ρ) S else .bad
  | d :: ds, ρ, S => if w.still S then match asg t d ρ with
    | none => .bad
    | some ρ1 => match body ρ1 S with
      | .ok (.nx ρ2) S2 => forL body t w ds ρ2 S2
      | .ok (.ct ρ2) S2 => forL body t w ds ρ2 S2
      | .ok (.bk ρ2) S2 => .ok (.nx ρ2) S2
      | .ok (.rt d) S2 => .ok (.rt d) S2
      | .err C ns es ρ2 S2 => .err C ns es ρ2 S2
      | .bad => .bad
    else .bad
def whlL (test : Env → Store → R D) (body : Env → Store → RS) : Nat → Env → Store → RS
  | 0, _, _ => .bad
  | n + 1, ρ, S => (test ρ S).then ρ fun d S1 => match truD (vw S1 d) with
    | some true => match body ρ S1 with
      | .ok (.nx ρ2) S2 => whlL test body n ρ2 S2
      | .ok (.ct ρ2) S2 => whlL test body n ρ2 S2
      | .ok (.bk ρ2) S2 => .ok (.nx ρ2) S2
      | .ok (.rt d) S2 => .ok (.rt d) S2
      | .err C ns es ρ2 S2 => .err C ns es ρ2 S2
      | .bad => .bad
    | some false => .ok (.nx ρ) S1
    | none => .bad
def RS.forget (i : Nat) : RS → RS
  | .ok (.nx ρ) S => .ok (.nx (ρ.set i none)) S
  | .ok (.ct ρ) S => .ok (.ct (ρ.set i none)) S
  | .ok (.bk ρ) S => .ok (.bk (ρ.set i none)) S
  | r => r
def RS.calm : RS → RS
  | .err _ _ _ _ _ => .bad
  | r => r
def RS.tried (r : RS) (isa : String → Option Bool) (as : Option Nat) (h : String → List String → List D → Env → Store → RS) (els : Env → Store → RS) : RS := match r with
  | .err X ns ds ρ1 S1 => match isa X with
    | some true => match as with
      | some i => if i < ρ1.length then (h X ns ds (ρ1.set i none) S1).calm.forget i else .bad
      | none => (h X ns ds ρ1 S1).calm
    | some false => .err X ns ds ρ1 S1
    | none => .bad
  | r => r.then els
def storeK (b i : Nat) (k v : D) (S : Store) : Option Store := match S[i]? with
  | some (.dic t ks vs) => if keyOf t k && (putOk b i v && decide (ks.length < LIM)) then let r := putK k v ks vs; some (S.set i (.dic t r.1 r.2)) else none
  | some (.lst ds) => match k with
    | .int j => if putOk b i v then match atD ds j with
      | some _ => some (S.set i (.lst (ds.set (if 0 ≤ j then j.toNat else (j + ds.length).toNat) v)))
      | none => none
      else none
    | _ => none
  | _ => none
mutual
def exS (b : Nat) : St → Ctx → Env → Store → RS
  | .no, _, _, _ => .bad
  | .set t e, c, ρ, S => (ev c b e ρ S).then ρ fun d S1 => match asg t d ρ with
    | some ρ' => .ok (.nx ρ') S1
    | none => .bad
  | .par i j x y, c, ρ, S => (ev c b x ρ S).then ρ fun d S1 => (ev c b y ρ S1).then ρ fun e S2 => .ok (.nx ((ρ.set i (some d)).set j (some e))) S2
  | .setIdx x i v, c, ρ, S => (ev c b v ρ S).then ρ fun w S1 => (ev c b x ρ S1).then ρ fun d S2 => (ev c b i ρ S2).then ρ fun k S3 => match d with
    | .ref n => match storeK b n k w S3 with
      | some S4 => .ok (.nx ρ) S4
      | none => .bad
    | _ => .bad
  | .setFld x f v, c, ρ, S => (ev c b v ρ S).then ρ fun w S1 => (ev c b x ρ S1).then ρ fun d S2 => match d with
    | .ref n => match S2[n]? with
      | some (.ins C ns ds) => if c.fldOk C f && (putOk b n w && decide (ns.length < 900)) then let r := putD f w ns ds; .ok (.nx ρ) (S2.set n (.ins C r.1 r.2)) else .bad
      | _ => .bad
    | _ => .bad
  | .aug i e, c, ρ, S => match ρ[i]? with
    | some (some x) => (ev c b e ρ S).then ρ fun d S1 => match x, d with
      | .int p, .int q => .ok (.nx (ρ.set i (some (.int (p + q))))) S1
      | _, _ => .bad
    | _ => .bad
  | .ex e, c, ρ, S => (ev c b e ρ S).then ρ fun _ S1 => .ok (.nx ρ) S1
  | .ite q x y, c, ρ, S => (ev c b q ρ S).then ρ fun d S1 => match truD (vw S1 d) with
    | some true => exs b x c ρ S1
    | some false => exs b y c ρ S1
    | none => .bad
  | .for_ t it body, c, ρ, S => (evIt c b it ρ S).then ρ fun w S1 => forL (fun ρ S => exs b body c ρ S) t w w.items ρ S1
  | .whl q body, c, ρ, S => whlL (fun ρ S => ev c b q ρ S) (fun ρ S => exs b body c ρ S) c.fuel ρ S
  | .ret e, c, ρ, S => (ev c b e ρ S).then ρ fun d S1 => .ok (.rt d) S1
  | .ret0, _, _, S => .ok (.rt .non) S
  | .brk, c, ρ, S => .ok (.bk ρ) S
  | .cont, c, ρ, S => .ok (.ct ρ) S
  | .pass, c, ρ, S => .ok (.nx ρ) S
  | .raise C es, c, ρ, S => if c.deep then (evs c b es ρ S).then ρ fun ds S1 => match exFields (c.ex C) ds with
    | some (ns, fs) => .err C ns fs ρ S1
    | none => .bad
    else .bad
  | .try_ body C as h els, c, ρ, S => RS.tried (exs b body c ρ S) (fun X => c.isx X C) as (fun X ns ds ρ1 S1 => exs b h (match as with | some _ => { c with exc := some (X, ns, ds) } | none => c) ρ1 S1) (fun ρ1 S1 => exs b els c ρ1 S1)
  | .tryN body els, c, ρ, S => RS.tried (exs b body c ρ S) (fun _ => none) none (fun _ _ _ _ _ => .bad) (fun ρ1 S1 => exs b els c ρ1 S1)
def exs (b : Nat) : Ss → Ctx → Env → Store → RS
  | .nil, _, ρ, S => .ok (.nx ρ) S
  | .cons s ss, c, ρ, S => (exS b s c ρ S).then fun ρ1 S1 => exs b ss c ρ1 S1
end
structure Fn where
  np : Nat
  names : List String
  body : Ss
  keep : Bool := false
def fin (keep give : Bool) (n : Nat) (S : Store) (d : D) : R D :=
  if keep then .ok d S else
  if give then .bad
  else let r := res n S 8 d; if r.lim n then .ok r (S.take n) else .bad
def runFn (c : Ctx) (f : Fn) (give : Bool) (ρ : Env) (b : Nat) (S : Store) : R D :=
    match exs (if f.keep then b else S.length) f.body c ρ S with
    | .ok (.nx _) S' => fin f.keep give S.length S' .non
    | .ok (.rt d) S' => fin f.keep give S.length S' d
    | .err C ns ds _ S' => if f.keep then .err C ns ds S' else if D.limL S.length ds then .err C ns ds (S'.take S.length) else .bad
    | _ => .bad
def Fn.start (f : Fn) (args : List D) : Env := args.map some ++ List.replicate (f.names.length - f.np) none
structure Cl where
  kind : Nat
  init : Option String
structure Text where
  fns : String → Option Fn
  cls : String → Option Cl
  meth : String → String → Option String
  flds : String → String → Bool
  con : String → Option D
  isa : String → String → Option Bool
  isx : String → String → Option Bool
  ex : String → Option (Option (List String))
  fuel : Nat
def makeK (C : String) (kind : Nat) (call : Bool → List D → Nat → Store → R D) (args : List D) (b : Nat) (S : Store) : R D :=
  match call false (.ref S.length :: args) (if kind = 1 then b else S.length) (S ++ [.ins C [] []]) with
  | .ok .non S' => if kind = 1 then .ok (.ref S.length) S' else match S'[S.length]? with
    | some (.ins C' ns ds) => if C' = C ∧ S'.length = S.length + 1 ∧ D.limL S.length ds then .ok (.ins C ns ds) (S'.take S.length) else .bad
    | _ => .bad
  | .err X ns ds S' => if kind = 1 then .err X ns ds S' else .bad
  | _ => .bad
def makeD (T : Text) (call : String → Bool → List D → Nat → Store → R D) (C : String) (args : List D) (b : Nat) (S : Store) : R D := match T.cls C with
  | none => .bad
  | some cl => match cl.init with
    | none => .bad
    | some f => makeK C cl.kind (call f) args b S
structure Calls where
  call : String → Bool → List D → Nat → Store → R D
  hcall : String → String × List String × List D → Nat → Store → R D
  made : String → List D → Nat → Store → R D
def ctxOf (T : Text) (F : Calls) (deep : Bool) : Ctx := { call := F.call, hcall := F.hcall, exc := none, make := F.made, meth := T.meth, fldOk := T.flds, con := T.con, isa := T.isa, isx := T.isx, ex := T.ex, deep := deep, fuel := T.fuel }
def callsN (T : Text) : Nat → Calls
  | 0 => ⟨fun _ _ _ _ _ => .bad, fun _ _ _ _ => .bad, fun _ _ _ _ => .bad⟩
  | n + 1 => ⟨fun f g args b S => match T.fns f with
      | none => .bad
      | some d => if args.length = d.np then runFn (ctxOf T (callsN T n) (decide (2 ≤ n))) d g (d.start args) b S else .bad,
    fun f x b S => match T.fns f with
      | none => .bad
      | some d => if d.np = 1 ∧ 0 < d.names.length then (runFn { ctxOf T (callsN T n) (decide (2 ≤ n)) with exc := some x } d false (List.replicate d.names.length none) b S).calm else .bad, makeD T (callsN T n).call⟩
abbrev ctxN (T : Text) (n : Nat) : Ctx := ctxOf T (callsN T n) (decide (2 ≤ n))
abbrev callN (T : Text) (n : Nat) : String → Bool → List D → Nat → Store → R D := (callsN T n).call
end CL
namespace CL
open PySem PySem.Spec PyProof.Rows L2
abbrev nm (s : String) : Str := Str.ofString s
def bTy : List String := ["bool", "int", "str", "tuple", "list", "dict", "ValueError"]
def isB (C : String) : Bool := bTy.contains C
def bis : List String := ["len", "str", "int", "tuple", "list", "sorted", "min", "max", "abs", "sum", "all", "range", "enumerate", "zip", "isinstance", "set", "bool", "dict", "ValueError"]
def basT : List String := ["NoneType", "bool", "int", "str", "tuple", "list", "dict"]
structure LT where
  body : List Stmt
  fns : List (String × Fn × Nat)
  hfns : List (String × Fn × Nat) := []
  cons : List (String × D)
  exs : List (String × Option (List String) × Nat × List String)
  base : String
  fuel : Nat
  mfns : List (String × Fn × Nat × String) := []
  ocs : List (String × Nat × Option String × List String × List (String × String)) := []
namespace LT
def at_ (L : LT) (i : Nat) : Stmt := L.body.getD i (.Pass ⟨0, 0, 0, 0⟩)
def initOf : Stmt → Stmt
  | .ClassDef _ _ _ b _ _ _ _ _ _ _ => (b.find? fun s => match s with | .FunctionDef n _ _ _ _ _ _ _ _ _ => decide (n = nm "__init__") | _ => false).getD (.Pass ⟨0, 0, 0, 0⟩)
  | s => s
def methIn (m : String) : Stmt → Stmt
  | .ClassDef _ _ _ b _ _ _ _ _ _ _ => (b.find? fun s => match s with | .FunctionDef n _ _ _ _ _ _ _ _ _ => decide (n = nm m) | _ => false).getD (.Pass ⟨0, 0, 0, 0⟩)
  | s => s
def mst (L : LT) (f : String) : Stmt := match L.mfns.lookup f with
  | some e => methIn e.2.2 (L.at_ e.2.1)
  | none => .Pass ⟨0, 0, 0, 0⟩
def pairsOf (e : String × Nat × Option String × List String × List (String × String)) : List (String × String × String) := (match e.2.2.1 with
  | some f => [(e.1, "__init__", f)]
  | none => []) ++ e.2.2.2.2.map fun m => (e.1, m.1, m.2)
def pairs (L : LT) : List (String × String × String) := L.ocs.flatMap pairsOf
def mfs (L : LT) : List (String × Fn × Nat) := L.mfns.map fun e => (e.1, e.2.1, 0)
def text (L : LT) : Text where
  fns := fun f => ((L.fns ++ (L.hfns ++ L.mfs)).lookup f).map (·.1)
  cls := fun C => (L.ocs.lookup C).map fun e => ⟨e.1, e.2.1⟩
  meth := fun C m => match L.ocs.lookup C with
    | some e => e.2.2.2.lookup m
    | none => none
  flds := fun C f => match L.ocs.lookup C with
    | some e => e.2.2.1.contains f
    | none => false
  con := fun g => L.cons.lookup g
  isa := fun _ _ => none
  isx := fun Z C => match L.exs.lookup Z with
    | some e => if isB C || (L.exs.lookup C).isSome then some (e.2.2.contains C) else none
    | none => none
  ex := fun C => (L.exs.lookup C).map (·.1)
  fuel := L.fuel
def C_ (K : PySem.W.Frag) (C : String) : Addr := He.ga K (nm C)
def isO (a b : Option (Option Value)) : Bool := decide (a = b)
def oexB (K : PySem.W.Frag) (C : Addr) : Bool := match K.lookup C with
  | some ⟨.type t, _, .cls cd, sl⟩ => (match cd.mro, sl.toList with
    | .ref C' :: bm, [_, _, _, _, some (.builtin n), _] => decide (t = "type") && (decide (C' = C) && (decide (n = "ValueError.__new__") && (!cd.hasDel && (cd.hasDict && PySem.HandSPX.refsVE bm))))
    | _, _ => false)
  | _ => false
def exfB (K : PySem.W.Frag) (C : Addr) : Bool :=
  isO (PySem.W.findIn K (.ref C) "__getattribute__") (some (some (.builtin "BaseException.__getattribute__"))) && (isO (PySem.W.findIn K (.ref C) "__getattr__") (some none) && (decide (PySem.W.subIn K (.ref C) (.type "BaseException") = some true) &&
  (PySem.W.hasDictIn K C && (PySem.W.isClsIn K C && (isO (PySem.W.findIn K (.ref C) "__class__") (some (some (.builtin "object.__class__"))) && (isO (PySem.W.specialIn K (.builtin "object.__class__") "__get__") (some (some (.builtin "getset_descriptor.__get__"))) &&
  (decide (PySem.W.takesIn K (.builtin "object.__class__") = some true) && (decide (PySem.W.mroIn K C (.type "object") = some true) && (decide (PySem.W.typeIn K (.ref C) = some (.type "type")) && PySem.W.keepIn K (.ref C))))))))))
def laB (K : PySem.W.Frag) (L : Addr) : Bool := PySem.W.readsIn K L (.type "type") && (isO (PySem.W.specialIn K (.ref L) "__getattribute__") (some (some (.builtin "type.__getattribute__"))) && (match PySem.W.findCls K (.ref L) (.type "type") "__init__" with
  | some (.val (.builtin n)) => decide (n = "ValueError.__init__")
  | _ => false))
def conB (K : PySem.W.Frag) (x : String) : D → Bool
  | .int i => (match PySem.W.nsIn K mainGlobals (nm x) with
    | some (some (.int j _)) => decide (j = i)
    | _ => false)
  | .str l => (match PySem.W.nsIn K mainGlobals (nm x) with
    | some (some (.str y _)) => decide (y = ⟨l.toArray⟩)
    | _ => false)
  | _ => false
def gloB (K : PySem.W.Frag) (x : String) : Bool := isO (PySem.W.nsIn K mainGlobals (nm x)) (some (some (.ref (C_ K x))))
def exB (L : LT) (K : PySem.W.Frag) (e : String × Option (List String) × Nat × List String) : Bool :=
  gloB K e.1 && (exfB K (C_ K e.1) && ((match e.2.1 with
    | none => PySem.W.excIn K (C_ K e.1) [.type "ValueError", .type "Exception", .type "BaseException", .type "object"] "ValueError.__new__"
    | some ns => oexB K (C_ K e.1) && (isO (PySem.W.findIn K (.ref (C_ K e.1)) "__setattr__") (some (some (.builtin "object.__setattr__"))) && (isO (PySem.W.findIn K (.ref (C_ K e.1)) "__init__") (some (some (.ref (He.ma K (C_ K e.1) "__init__")))) &&
      (decide (PySem.W.typeIn K (.ref (He.ma K (C_ K e.1) "__init__")) = some (.type "function")) && ns.all fun f => isO (PySem.W.findIn K (.ref (C_ K e.1)) (nm f)) (some none)))))
  && (bTy.all (fun C => decide (PySem.W.kitOne K (.ref (C_ K e.1)) (.type C) = some (e.2.2.2.contains C))) &&
    L.exs.all fun d => decide (PySem.W.kitOne K (.ref (C_ K e.1)) (.ref (C_ K d.1)) = some (e.2.2.2.contains d.1)) && decide (PySem.W.exmOne K (.ref (C_ K e.1)) (.ref (C_ K d.1)) = some (e.2.2.2.contains d.1)))))
def ocB (K : PySem.W.Frag) (e : String × Nat × Option String × List String × List (String × String)) : Bool :=
  (He.Fa.cls (nm e.1)).ok K && (gloB K e.1 && (PySem.W.keepIn K (.ref (C_ K e.1)) && ((match e.2.2.1 with
    | some _ => (He.Fa.mkr (nm e.1)).ok K
    | none => true) && ((e.2.2.2.1.all fun f => (He.Fa.noat (nm e.1) (nm f)).ok K) && e.2.2.2.2.all fun m => (He.Fa.meth (nm e.1) (nm m.1)).ok K))))
def okK (L : LT) (K : PySem.W.Frag) : Bool :=
  ((L.fns ++ L.hfns).all fun f => gloB K f.1) && (((bis ++ bTy).all fun x => isO (PySem.W.nsIn K mainGlobals (nm x)) (some none)) && ((L.cons.all fun g => conB K g.1 g.2) && ((L.exs.all fun e => exB L K e) &&
  ((L.exs.isEmpty || laB K (C_ K L.base) && gloB K L.base) && (((L.exs.all fun e => basT.all fun T => decide (PySem.W.kitOne K (.type T) (.ref (C_ K e.1)) = some false)) && L.ocs.all fun e => ocB K e))))))
def defs (L : LT) : List He.DefD :=
  ((L.fns ++ L.hfns).map (fun f => ⟨(nm f.1, none), nm f.1, nm f.1, defArgs (L.at_ f.2.2), defBody (L.at_ f.2.2), defScope (L.at_ f.2.2), [], []⟩) ++
  ((L.exs.filter fun e => e.2.1.isSome).map fun e => ⟨(nm e.1, some (nm "__init__")), nm "__init__", nm (e.1 ++ ".__init__"), defArgs (initOf (L.at_ e.2.2.1)), defBody (initOf (L.at_ e.2.2.1)), defScope (initOf (L.at_ e.2.2.1)), [], []⟩)) ++
  L.pairs.map fun p => ⟨(nm p.1, some (nm p.2.1)), nm p.2.1, nm p.2.2, defArgs (L.mst p.2.2), defBody (L.mst p.2.2), defScope (L.mst p.2.2), [], []⟩
abbrev Seen : Type := Bool × List He.FnW
def seen (L : LT) (K : PySem.W.Frag) : Seen := (okK L K && L.defs.all (fun d => d.ok K), L.defs.map fun d => He.fnW K d.at_)
def due (L : LT) : Seen := (true, L.defs.map He.DefD.val)
def useful (g : Addr → Option Obj) (a : Addr) : Bool := match g a with
  | some ⟨c, _, d, _⟩ => (match d with | .seq _ _ => false | _ => true) && (match c with | .none => Nat.blt a 100 | _ => true)
  | none => false
def adr (n : Nat) (g : Addr → Option Obj) : List Addr := (List.range n).filter (useful g)
def look (L : LT) (n : Nat) (g : Addr → Option Obj) : Seen := L.seen (He.frG g (adr n g))
def hook (L : LT) (n : Nat) : PySem.W.Hook where
  α := Seen
  obs := fun st => L.look n st.heap.get?
  val := fun _ => L.due
  says := fun _ hp => ∃ K : PySem.W.Frag, K.In hp ∧ L.seen K = L.due
  of := fun _ _ eq => ⟨_, He.frG_in, eq⟩
  keeps := fun _ _ _ ⟨K, hin, c⟩ kp => ⟨K, hin.keeps kp, c⟩
def ob (L : LT) (n : Nat) (s : PySem.W.SharedT) : Seen := L.look n (HandSHeadRun.getT s)
theorem ob_eq (L : LT) (n : Nat) (s : PySem.W.SharedT) : L.ob n s = (L.hook n).obs s.abs := by
  have e : HandSHeadRun.getT s = s.abs.heap.get? := funext (HandSHeadRun.getT_eq s)
  show L.look n _ = L.look n _
  rw [e]
end LT
end CL
namespace CL
def P_is_name : Fn := { np := 1, names := ["thing", "sign"], body := (.cons (.ite (.or (.cons (.not (.isi (.var 0) ["str"] false)) (.cons (.not (.chain .le .le (.int 1) (.bi .len (.cons (.var 0) .nil)) (.gcon "MOST_SIGNS"))) .nil))) (.cons (.ret (.bl false)) .nil) .nil) (.cons (.ite (.or (.cons (.cmp .eq (.var 0) (.str [111, 117, 116])) (.cons (.cmp .eq (.var 0) (.str [121, 97, 114, 100])) .nil))) (.cons (.ret (.bl false)) .nil) .nil) (.cons (.ret (.cmp .eq (.lcIf (.var 1) (.one 1) (.val (.var 0)) (.cmp .notIn (.var 1) (.gcon "LETTERS"))) (.lst .nil))) .nil))), keep := false }
def P_lane_number : Fn := { np := 2, names := ["plan", "name", "number", "lane"], body := (.cons (.for_ (.many [2, 3]) (.enum (.idx (.var 0) (.int 0))) (.cons (.ite (.cmp .eq (.idx (.var 3) (.int 0)) (.var 1)) (.cons (.ret (.var 2)) .nil) .nil) .nil)) (.cons (.raise "NoLane" (.cons (.var 1) .nil)) .nil)), keep := false }
def P_kind_of : Fn := { np := 2, names := ["plan", "name", "kind"], body := (.cons (.for_ (.one 2) (.val (.idx (.var 0) (.int 1))) (.cons (.ite (.cmp .eq (.idx (.var 2) (.int 0)) (.var 1)) (.cons (.ret (.var 2)) .nil) .nil) .nil)) (.cons (.raise "NoKind" (.cons (.var 1) .nil)) .nil)), keep := false }
def P_way_of : Fn := { np := 2, names := ["plan", "kind"], body := (.cons (.ret (.idx (.call "kind_of" false (.cons (.var 0) (.cons (.var 1) .nil))) (.int 1))) .nil), keep := false }
end CL
namespace CL
def Ulaw_digits : Fn := { np := 2, names := ["_law_script", "_law_k", "_law_cell", "_law_total", "_law_number", "_law_turn"], body := (.cons (.set (.one 2) (.ife (.cmp .lt (.var 1) (.bi .len (.cons (.var 0) .nil))) (.idx (.var 0) (.var 1)) (.int 0))) (.cons (.ite (.cmp .ge (.var 2) (.bop .pow (.int 10) (.int 18))) (.cons (.ret (.newl (.cons (.bop .sub (.var 2) (.bop .pow (.int 10) (.int 18))) .nil))) .nil) .nil) (.cons (.set (.one 3) (.int 0)) (.cons (.set (.one 4) (.bop .mod (.bop .add (.bop .add (.bop .mul (.var 2) (.int 48271)) (.bop .mul (.int 7919) (.var 1))) (.int 11)) (.int 2147483647))) (.cons (.for_ (.one 5) (.range (.cons (.int 12) .nil)) (.cons (.set (.one 4) (.bop .mod (.bop .add (.bop .add (.bop .mul (.var 4) (.var 4)) (.bop .mul (.int 48271) (.var 4))) (.var 5)) (.int 2147483629))) (.cons (.set (.one 3) (.bop .add (.bop .mul (.var 3) (.int 2147483587)) (.bop .mod (.bop .mul (.var 4) (.int 69621)) (.int 2147483587)))) .nil))) (.cons (.ret (.newl (.cons (.var 3) .nil))) .nil)))))), keep := true }
def Ulaw_take : Fn := { np := 2, names := ["_law_held", "_law_many", "_law_found"], body := (.cons (.set (.one 2) (.bop .mod (.idx (.var 0) (.int 0)) (.var 1))) (.cons (.setIdx (.var 0) (.int 0) (.bop .fdiv (.idx (.var 0) (.int 0)) (.var 1))) (.cons (.ret (.var 2)) .nil))), keep := false }
def Ulaw_words : Fn := { np := 2, names := ["_law_held", "_law_many", "_law_letters", "_law_word", "_law_at", "_law_start", "_law_signs", "_law_ahead", "_law_behind", "_law_turned", "_law_found", "_law_sign", "_law_k", "_law_one"], body := (.cons (.set (.one 2) (.str [97, 98, 99, 100, 101, 102, 103, 104, 105, 106, 107, 108, 109])) (.cons (.set (.one 3) (.bm .join (.str []) (.cons (.lc (.idx (.var 2) (.call "_law_take" false (.cons (.var 0) (.cons (.int 13) .nil)))) (.one 12) (.range (.cons (.bop .add (.int 1) (.call "_law_take" false (.cons (.var 0) (.cons (.int 7) .nil)))) .nil))) .nil))) (.cons (.set (.one 4) (.call "_law_take" false (.cons (.var 0) (.cons (.bi .len (.cons (.var 3) .nil)) .nil)))) (.cons (.set (.one 5) (.call "_law_take" false (.cons (.var 0) (.cons (.int 26) .nil)))) (.cons (.set (.one 6) (.str [97, 98, 99, 100, 101, 102, 103, 104, 105, 106, 107, 108, 109, 110, 111, 112, 113, 114, 115, 116, 117, 118, 119, 120, 121, 122])) (.cons (.set (.one 7) (.slHi (.var 3) (.var 4))) (.cons (.set (.one 8) (.slLo (.var 3) (.bop .add (.var 4) (.int 1)))) (.cons (.set (.one 9) (.bop .add (.slLo (.var 6) (.var 5)) (.slHi (.var 6) (.var 5)))) (.cons (.set (.one 10) (.lc (.bop .add (.bop .add (.var 7) (.var 11)) (.var 8)) (.one 11) (.val (.var 9)))) (.cons (.ret (.slHi (.bop .add (.var 10) (.lc (.bop .add (.var 13) (.str [122])) (.one 13) (.val (.var 10)))) (.var 1))) .nil)))))))))), keep := false }
end CL
namespace CL
def P_lane_at : Fn := { np := 3, names := ["plan", "kind", "place", "way"], body := (.cons (.set (.one 3) (.call "way_of" false (.cons (.var 0) (.cons (.var 1) .nil)))) (.cons (.ite (.cmp .eq (.var 2) (.int 0)) (.cons (.ret (.neg (.int 1))) .nil) .nil) (.cons (.ite (.cmp .gt (.var 2) (.bi .len (.cons (.var 3) .nil))) (.cons (.ret (.bi .len (.cons (.idx (.var 0) (.int 0)) .nil))) .nil) .nil) (.cons (.ret (.idx (.var 3) (.bop .sub (.var 2) (.int 1)))) .nil)))), keep := false }
def P_card_of : Fn := { np := 2, names := ["stand", "card", "one"], body := (.cons (.for_ (.one 2) (.val (.idx (.var 0) (.int 1))) (.cons (.ite (.cmp .eq (.idx (.var 2) (.int 0)) (.var 1)) (.cons (.ret (.var 2)) .nil) .nil) .nil)) (.cons (.raise "NoCard" (.cons (.var 1) .nil)) .nil)), keep := false }
def P_lane_of : Fn := { np := 3, names := ["plan", "stand", "card", "one"], body := (.cons (.set (.one 3) (.call "card_of" false (.cons (.var 1) (.cons (.var 2) .nil)))) (.cons (.ret (.call "lane_at" false (.cons (.var 0) (.cons (.idx (.var 3) (.int 1)) (.cons (.idx (.var 3) (.int 2)) .nil))))) .nil)), keep := false }
def P_cards_in : Fn := { np := 3, names := ["plan", "stand", "lane", "one"], body := (.cons (.ret (.lcIf (.idx (.var 3) (.int 0)) (.one 3) (.val (.idx (.var 1) (.int 1))) (.cmp .eq (.call "lane_at" false (.cons (.var 0) (.cons (.idx (.var 3) (.int 1)) (.cons (.idx (.var 3) (.int 2)) .nil)))) (.var 2)))) .nil), keep := false }
def P_many_of : Fn := { np := 4, names := ["plan", "stand", "lane", "kind", "one"], body := (.cons (.ret (.bi .len (.cons (.lcIf (.var 4) (.one 4) (.val (.idx (.var 1) (.int 1))) (.and (.cons (.cmp .eq (.idx (.var 4) (.int 1)) (.var 3)) (.cons (.cmp .eq (.call "lane_at" false (.cons (.var 0) (.cons (.var 3) (.cons (.idx (.var 4) (.int 2)) .nil)))) (.var 2)) .nil)))) .nil))) .nil), keep := false }
def P_is_out : Fn := { np := 2, names := ["plan", "one"], body := (.cons (.ret (.cmp .gt (.idx (.var 1) (.int 2)) (.bi .len (.cons (.call "way_of" false (.cons (.var 0) (.cons (.idx (.var 1) (.int 1)) .nil))) .nil)))) .nil), keep := false }
def P_out_names : Fn := { np := 2, names := ["plan", "stand", "one"], body := (.cons (.ret (.lcIf (.idx (.var 2) (.int 0)) (.one 2) (.val (.idx (.var 1) (.int 1))) (.call "is_out" false (.cons (.var 0) (.cons (.var 2) .nil))))) .nil), keep := false }
def P_with_card : Fn := { np := 2, names := ["stand", "one", "cards", "other"], body := (.cons (.set (.one 2) (.lcIf (.var 3) (.one 3) (.val (.idx (.var 0) (.int 1))) (.cmp .ne (.idx (.var 3) (.int 0)) (.idx (.var 1) (.int 0))))) (.cons (.ret (.tup (.cons (.idx (.var 0) (.int 0)) (.cons (.bi .tuple (.cons (.bi .sorted (.cons (.bop .add (.var 2) (.lst (.cons (.var 1) .nil))) .nil)) .nil)) (.cons (.idx (.var 0) (.int 2)) .nil))))) .nil)), keep := false }
def P_bound_of : Fn := { np := 3, names := ["plan", "kind", "lane", "name", "way", "bounds"], body := (.cons (.set (.many [3, 4, 5]) (.call "kind_of" false (.cons (.var 0) (.cons (.var 1) .nil)))) (.cons (.ret (.idx (.var 5) (.bm .index (.var 4) (.cons (.var 2) .nil)))) .nil)), keep := false }
def P_hold_room : Fn := { np := 4, names := ["plan", "stand", "kind", "lane", "name", "bound"], body := (.cons (.ite (.not (.chain .le .lt (.int 0) (.var 3) (.bi .len (.cons (.idx (.var 0) (.int 0)) .nil)))) (.cons .ret0 .nil) .nil) (.cons (.set (.one 4) (.idx (.idx (.idx (.var 0) (.int 0)) (.var 3)) (.int 0))) (.cons (.ite (.cmp .ge (.bi .len (.cons (.call "cards_in" false (.cons (.var 0) (.cons (.var 1) (.cons (.var 3) .nil)))) .nil)) (.idx (.idx (.var 1) (.int 0)) (.var 3))) (.cons (.raise "Full" (.cons (.var 4) (.cons (.idx (.idx (.var 1) (.int 0)) (.var 3)) .nil))) .nil) .nil) (.cons (.set (.one 5) (.call "bound_of" false (.cons (.var 0) (.cons (.var 2) (.cons (.var 3) .nil))))) (.cons (.ite (.cmp .ge (.call "many_of" false (.cons (.var 0) (.cons (.var 1) (.cons (.var 3) (.cons (.var 2) .nil))))) (.var 5)) (.cons (.raise "KindFull" (.cons (.var 4) (.cons (.var 2) (.cons (.var 5) .nil)))) .nil) .nil) .nil))))), keep := false }
def P_hold_waits : Fn := { np := 4, names := ["plan", "stand", "card", "lane", "out", "name", "least", "other"], body := (.cons (.set (.one 4) (.call "out_names" false (.cons (.var 0) (.cons (.var 1) .nil)))) (.cons (.for_ (.many [5, 6, 7]) (.val (.idx (.var 1) (.int 2))) (.cons (.ite (.and (.cons (.cmp .eq (.var 5) (.var 2)) (.cons (.cmp .le (.var 6) (.var 3)) (.cons (.cmp .notIn (.var 7) (.var 4)) .nil)))) (.cons (.raise "Waits" (.cons (.var 2) (.cons (.var 7) .nil))) .nil) .nil) .nil)) .nil)), keep := false }
def P_hold_free : Fn := { np := 2, names := ["plan", "one"], body := (.cons (.ite (.call "is_out" false (.cons (.var 0) (.cons (.var 1) .nil))) (.cons (.raise "Out" (.cons (.idx (.var 1) (.int 0)) .nil)) .nil) .nil) (.cons (.ite (.idx (.var 1) (.int 3)) (.cons (.raise "Blocked" (.cons (.idx (.var 1) (.int 0)) .nil)) .nil) .nil) .nil)), keep := false }
def P_pulled : Fn := { np := 3, names := ["plan", "stand", "card", "one", "lane"], body := (.cons (.set (.one 3) (.call "card_of" false (.cons (.var 1) (.cons (.var 2) .nil)))) (.cons (.ex (.call "hold_free" false (.cons (.var 0) (.cons (.var 3) .nil)))) (.cons (.set (.one 4) (.call "lane_at" false (.cons (.var 0) (.cons (.idx (.var 3) (.int 1)) (.cons (.bop .add (.idx (.var 3) (.int 2)) (.int 1)) .nil))))) (.cons (.ex (.call "hold_waits" false (.cons (.var 0) (.cons (.var 1) (.cons (.var 2) (.cons (.var 4) .nil)))))) (.cons (.ex (.call "hold_room" false (.cons (.var 0) (.cons (.var 1) (.cons (.idx (.var 3) (.int 1)) (.cons (.var 4) .nil)))))) (.cons (.ret (.call "with_card" false (.cons (.var 1) (.cons (.tup (.cons (.var 2) (.cons (.idx (.var 3) (.int 1)) (.cons (.bop .add (.idx (.var 3) (.int 2)) (.int 1)) (.cons (.bl false) .nil))))) .nil)))) .nil)))))), keep := false }
def P_put_back : Fn := { np := 3, names := ["plan", "stand", "card", "one"], body := (.cons (.set (.one 3) (.call "card_of" false (.cons (.var 1) (.cons (.var 2) .nil)))) (.cons (.ex (.call "hold_free" false (.cons (.var 0) (.cons (.var 3) .nil)))) (.cons (.ite (.cmp .eq (.idx (.var 3) (.int 2)) (.int 0)) (.cons (.raise "InYard" (.cons (.var 2) .nil)) .nil) .nil) (.cons (.ex (.call "hold_room" false (.cons (.var 0) (.cons (.var 1) (.cons (.idx (.var 3) (.int 1)) (.cons (.call "lane_at" false (.cons (.var 0) (.cons (.idx (.var 3) (.int 1)) (.cons (.bop .sub (.idx (.var 3) (.int 2)) (.int 1)) .nil)))) .nil)))))) (.cons (.ret (.call "with_card" false (.cons (.var 1) (.cons (.tup (.cons (.var 2) (.cons (.idx (.var 3) (.int 1)) (.cons (.bop .sub (.idx (.var 3) (.int 2)) (.int 1)) (.cons (.bl false) .nil))))) .nil)))) .nil))))), keep := false }
end CL
namespace CL
def Ulaw_refusal : Fn := { np := 1, names := ["_law_e", "_law_some", "_law_word"], body := (.cons (.set (.one 1) (.lst (.cons (.xis ["NoCard"] false) (.cons (.xis ["Out"] false) (.cons (.xis ["Blocked"] false) .nil))))) (.cons (.set (.one 1) (.bop .add (.var 1) (.lst (.cons (.xis ["Waits"] false) (.cons (.xis ["Full"] false) .nil))))) (.cons (.set (.one 1) (.bop .add (.var 1) (.lst (.cons (.xis ["KindFull"] false) (.cons (.xis ["InYard"] false) .nil))))) (.cons (.ite (.or (.cons (.cmp .ne (.bm .count (.var 1) (.cons (.bl true) .nil)) (.int 1)) (.cons (.not (.xis ["ValueError"] false)) .nil))) (.cons (.ret (.tup (.cons (.str [111, 116, 104, 101, 114]) .nil))) .nil) .nil) (.cons (.set (.one 2) (.idx (.lst (.cons (.str [78, 111, 67, 97, 114, 100]) (.cons (.str [79, 117, 116]) (.cons (.str [66, 108, 111, 99, 107, 101, 100]) (.cons (.str [87, 97, 105, 116, 115]) (.cons (.str [70, 117, 108, 108]) (.cons (.str [75, 105, 110, 100, 70, 117, 108, 108]) (.cons (.str [73, 110, 89, 97, 114, 100]) .nil)))))))) (.bm .index (.var 1) (.cons (.bl true) .nil)))) (.cons (.ite (.cmp .eq (.var 2) (.str [70, 117, 108, 108])) (.cons (.ret (.tup (.cons (.var 2) (.cons (.xfld "lane") (.cons (.xfld "bound") .nil))))) .nil) .nil) (.cons (.ite (.cmp .eq (.var 2) (.str [75, 105, 110, 100, 70, 117, 108, 108])) (.cons (.ret (.tup (.cons (.var 2) (.cons (.xfld "lane") (.cons (.xfld "kind") (.cons (.xfld "bound") .nil)))))) .nil) .nil) (.cons (.ite (.cmp .eq (.var 2) (.str [87, 97, 105, 116, 115])) (.cons (.ret (.tup (.cons (.var 2) (.cons (.xfld "card") (.cons (.xfld "other") .nil))))) .nil) .nil) (.cons (.ret (.tup (.cons (.var 2) (.cons (.xfld "card") .nil)))) .nil))))))))), keep := false }
def P_with_wait : Fn := { np := 5, names := ["plan", "stand", "card", "lane", "other", "here", "there", "wait", "others", "one"], body := (.cons (.set (.one 5) (.call "lane_of" false (.cons (.var 0) (.cons (.var 1) (.cons (.var 2) .nil))))) (.cons (.set (.one 6) (.call "lane_of" false (.cons (.var 0) (.cons (.var 1) (.cons (.var 4) .nil))))) (.cons (.ite (.not (.chain .le .le (.int 0) (.var 3) (.bi .len (.cons (.idx (.var 0) (.int 0)) .nil)))) (.cons (.raise "NoLane" (.cons (.var 3) .nil)) .nil) .nil) (.cons (.ite (.and (.cons (.cmp .ge (.var 5) (.var 3)) (.cons (.cmp .lt (.var 6) (.bi .len (.cons (.idx (.var 0) (.int 0)) .nil))) .nil))) (.cons (.raise "Past" (.cons (.var 2) .nil)) .nil) .nil) (.cons (.set (.one 7) (.tup (.cons (.var 2) (.cons (.var 3) (.cons (.var 4) .nil))))) (.cons (.set (.one 8) (.lcIf (.var 9) (.one 9) (.val (.idx (.var 1) (.int 2))) (.cmp .ne (.var 9) (.var 7)))) (.cons (.ite (.cmp .eq (.bi .len (.cons (.var 8) .nil)) (.gcon "MOST_WAITS")) (.cons (.raise "TooMany" (.cons (.str [116, 111, 111, 32, 109, 97, 110, 121, 32, 119, 97, 105, 116, 115]) .nil)) .nil) .nil) (.cons (.ret (.tup (.cons (.idx (.var 1) (.int 0)) (.cons (.idx (.var 1) (.int 1)) (.cons (.bi .tuple (.cons (.bi .sorted (.cons (.bop .add (.var 8) (.lst (.cons (.var 7) .nil))) .nil)) .nil)) .nil))))) .nil)))))))), keep := false }
def P_without_waits : Fn := { np := 3, names := ["stand", "card", "other", "left", "wait"], body := (.cons (.ex (.call "card_of" false (.cons (.var 0) (.cons (.var 1) .nil)))) (.cons (.ex (.call "card_of" false (.cons (.var 0) (.cons (.var 2) .nil)))) (.cons (.set (.one 3) (.lcIf (.var 4) (.one 4) (.val (.idx (.var 0) (.int 2))) (.or (.cons (.cmp .ne (.idx (.var 4) (.int 0)) (.var 1)) (.cons (.cmp .ne (.idx (.var 4) (.int 2)) (.var 2)) .nil))))) (.cons (.ite (.cmp .eq (.bi .len (.cons (.var 3) .nil)) (.bi .len (.cons (.idx (.var 0) (.int 2)) .nil))) (.cons (.raise "NoWait" (.cons (.var 1) .nil)) .nil) .nil) (.cons (.ret (.tup (.cons (.idx (.var 0) (.int 0)) (.cons (.idx (.var 0) (.int 1)) (.cons (.bi .tuple (.cons (.var 3) .nil)) .nil))))) .nil))))), keep := false }
def Ulaw_wait_refusal : Fn := { np := 1, names := ["_law_e", "_law_some", "_law_word"], body := (.cons (.set (.one 1) (.lst (.cons (.xis ["NoCard"] false) (.cons (.xis ["NoLane"] false) (.cons (.xis ["Past"] false) .nil))))) (.cons (.set (.one 1) (.bop .add (.var 1) (.lst (.cons (.xis ["TooMany"] false) (.cons (.xis ["NoWait"] false) .nil))))) (.cons (.ite (.or (.cons (.cmp .ne (.bm .count (.var 1) (.cons (.bl true) .nil)) (.int 1)) (.cons (.not (.xis ["ValueError"] false)) .nil))) (.cons (.ret (.tup (.cons (.str [111, 116, 104, 101, 114]) .nil))) .nil) .nil) (.cons (.set (.one 2) (.idx (.lst (.cons (.str [78, 111, 67, 97, 114, 100]) (.cons (.str [78, 111, 76, 97, 110, 101]) (.cons (.str [80, 97, 115, 116]) (.cons (.str [84, 111, 111, 77, 97, 110, 121]) (.cons (.str [78, 111, 87, 97, 105, 116]) .nil)))))) (.bm .index (.var 1) (.cons (.bl true) .nil)))) (.cons (.ite (.cmp .eq (.var 2) (.str [84, 111, 111, 77, 97, 110, 121])) (.cons (.ret (.tup (.cons (.var 2) .nil))) .nil) .nil) (.cons (.ite (.cmp .eq (.var 2) (.str [78, 111, 76, 97, 110, 101])) (.cons (.ret (.tup (.cons (.var 2) (.cons (.xfld "lane") .nil)))) .nil) .nil) (.cons (.ret (.tup (.cons (.var 2) (.cons (.xfld "card") .nil)))) .nil))))))), keep := false }
end CL
namespace CL
def M_Add___init__ : Fn := { np := 3, names := ["self", "card", "kind"], body := (.cons (.setFld (.var 0) "card" (.var 1)) (.cons (.setFld (.var 0) "kind" (.var 2)) .nil)), keep := false }
def M_Add_done : Fn := { np := 3, names := ["self", "plan", "stand", "one"], body := (.cons (.ex (.call "kind_of" false (.cons (.var 1) (.cons (.fld (.var 0) "kind") .nil)))) (.cons (.ite (.cmp .isIn (.fld (.var 0) "card") (.lc (.idx (.var 3) (.int 0)) (.one 3) (.val (.idx (.var 2) (.int 1))))) (.cons (.raise "Twice" (.cons (.fld (.var 0) "card") .nil)) .nil) .nil) (.cons (.ite (.cmp .eq (.bi .len (.cons (.idx (.var 2) (.int 1)) .nil)) (.gcon "MOST_CARDS")) (.cons (.raise "TooMany" (.cons (.str [116, 111, 111, 32, 109, 97, 110, 121, 32, 99, 97, 114, 100, 115]) .nil)) .nil) .nil) (.cons (.ret (.call "with_card" false (.cons (.var 2) (.cons (.tup (.cons (.fld (.var 0) "card") (.cons (.fld (.var 0) "kind") (.cons (.int 0) (.cons (.bl false) .nil))))) .nil)))) .nil)))), keep := false }
def M_OfCard___init__ : Fn := { np := 2, names := ["self", "card"], body := (.cons (.setFld (.var 0) "card" (.var 1)) .nil), keep := false }
def M_Pull_done : Fn := { np := 3, names := ["self", "plan", "stand"], body := (.cons (.ret (.call "pulled" false (.cons (.var 1) (.cons (.var 2) (.cons (.fld (.var 0) "card") .nil))))) .nil), keep := false }
def M_Back_done : Fn := { np := 3, names := ["self", "plan", "stand"], body := (.cons (.ret (.call "put_back" false (.cons (.var 1) (.cons (.var 2) (.cons (.fld (.var 0) "card") .nil))))) .nil), keep := false }
def M_Block_done : Fn := { np := 3, names := ["self", "plan", "stand", "name", "kind", "place", "blocked"], body := (.cons (.set (.many [3, 4, 5, 6]) (.call "card_of" false (.cons (.var 2) (.cons (.fld (.var 0) "card") .nil)))) (.cons (.ite (.call "is_out" false (.cons (.var 1) (.cons (.tup (.cons (.var 3) (.cons (.var 4) (.cons (.var 5) (.cons (.var 6) .nil))))) .nil))) (.cons (.raise "Out" (.cons (.var 3) .nil)) .nil) .nil) (.cons (.ite (.var 6) (.cons (.raise "Blocked" (.cons (.var 3) .nil)) .nil) .nil) (.cons (.ret (.call "with_card" false (.cons (.var 2) (.cons (.tup (.cons (.var 3) (.cons (.var 4) (.cons (.var 5) (.cons (.bl true) .nil))))) .nil)))) .nil)))), keep := false }
def M_Clear_done : Fn := { np := 3, names := ["self", "plan", "stand", "name", "kind", "place", "blocked"], body := (.cons (.set (.many [3, 4, 5, 6]) (.call "card_of" false (.cons (.var 2) (.cons (.fld (.var 0) "card") .nil)))) (.cons (.ite (.not (.var 6)) (.cons (.raise "Free" (.cons (.var 3) .nil)) .nil) .nil) (.cons (.ret (.call "with_card" false (.cons (.var 2) (.cons (.tup (.cons (.var 3) (.cons (.var 4) (.cons (.var 5) (.cons (.bl false) .nil))))) .nil)))) .nil))), keep := false }
def M_Wait___init__ : Fn := { np := 4, names := ["self", "card", "lane", "other"], body := (.cons (.setFld (.var 0) "card" (.var 1)) (.cons (.setFld (.var 0) "lane" (.var 2)) (.cons (.setFld (.var 0) "other" (.var 3)) .nil))), keep := false }
def M_Wait_done : Fn := { np := 3, names := ["self", "plan", "stand", "lane"], body := (.cons (.ex (.call "card_of" false (.cons (.var 2) (.cons (.fld (.var 0) "card") .nil)))) (.cons (.ex (.call "card_of" false (.cons (.var 2) (.cons (.fld (.var 0) "other") .nil)))) (.cons (.set (.one 3) (.bi .len (.cons (.idx (.var 1) (.int 0)) .nil))) (.cons (.ite (.cmp .ne (.fld (.var 0) "lane") (.str [111, 117, 116])) (.cons (.set (.one 3) (.call "lane_number" false (.cons (.var 1) (.cons (.fld (.var 0) "lane") .nil)))) .nil) .nil) (.cons (.ret (.call "with_wait" false (.cons (.var 1) (.cons (.var 2) (.cons (.fld (.var 0) "card") (.cons (.var 3) (.cons (.fld (.var 0) "other") .nil))))))) .nil))))), keep := false }
def M_Let___init__ : Fn := { np := 3, names := ["self", "card", "other"], body := (.cons (.setFld (.var 0) "card" (.var 1)) (.cons (.setFld (.var 0) "other" (.var 2)) .nil)), keep := false }
def M_Let_done : Fn := { np := 3, names := ["self", "plan", "stand"], body := (.cons (.ret (.call "without_waits" false (.cons (.var 2) (.cons (.fld (.var 0) "card") (.cons (.fld (.var 0) "other") .nil))))) .nil), keep := false }
def M_Bound___init__ : Fn := { np := 3, names := ["self", "lane", "bound"], body := (.cons (.setFld (.var 0) "lane" (.var 1)) (.cons (.setFld (.var 0) "bound" (.var 2)) .nil)), keep := false }
def M_Bound_done : Fn := { np := 3, names := ["self", "plan", "stand", "lane", "many"], body := (.cons (.set (.one 3) (.call "lane_number" false (.cons (.var 1) (.cons (.fld (.var 0) "lane") .nil)))) (.cons (.set (.one 4) (.bi .len (.cons (.call "cards_in" false (.cons (.var 1) (.cons (.var 2) (.cons (.var 3) .nil)))) .nil))) (.cons (.ite (.cmp .lt (.fld (.var 0) "bound") (.var 4)) (.cons (.raise "Low" (.cons (.fld (.var 0) "lane") (.cons (.var 4) .nil))) .nil) .nil) (.cons (.ret (.tup (.cons (.bop .add (.bop .add (.slHi (.idx (.var 2) (.int 0)) (.var 3)) (.tup (.cons (.fld (.var 0) "bound") .nil))) (.slLo (.idx (.var 2) (.int 0)) (.bop .add (.var 3) (.int 1)))) (.cons (.idx (.var 2) (.int 1)) (.cons (.idx (.var 2) (.int 2)) .nil))))) .nil)))), keep := false }
def Ulaw_any_refusal : Fn := { np := 1, names := ["_law_e", "_law_some", "_law_at"], body := (.cons (.set (.one 1) (.lst (.cons (.xis ["NoCard"] false) (.cons (.xis ["Out"] false) (.cons (.xis ["Blocked"] false) .nil))))) (.cons (.set (.one 1) (.bop .add (.var 1) (.lst (.cons (.xis ["InYard"] false) (.cons (.xis ["Past"] false) (.cons (.xis ["NoWait"] false) .nil)))))) (.cons (.set (.one 1) (.bop .add (.var 1) (.lst (.cons (.xis ["Twice"] false) (.cons (.xis ["Free"] false) (.cons (.xis ["TooMany"] false) .nil)))))) (.cons (.set (.one 1) (.bop .add (.var 1) (.lst (.cons (.xis ["NoKind"] false) (.cons (.xis ["NoLane"] false) (.cons (.xis ["Waits"] false) .nil)))))) (.cons (.set (.one 1) (.bop .add (.var 1) (.lst (.cons (.xis ["Full"] false) (.cons (.xis ["KindFull"] false) (.cons (.xis ["Low"] false) .nil)))))) (.cons (.ite (.or (.cons (.cmp .ne (.bm .count (.var 1) (.cons (.bl true) .nil)) (.int 1)) (.cons (.not (.xis ["ValueError"] false)) .nil))) (.cons (.ret (.tup (.cons (.str [111, 116, 104, 101, 114]) .nil))) .nil) .nil) (.cons (.set (.one 2) (.bm .index (.var 1) (.cons (.bl true) .nil))) (.cons (.ite (.cmp .lt (.var 2) (.int 8)) (.cons (.ret (.tup (.cons (.idx (.lst (.cons (.str [78, 111, 67, 97, 114, 100]) (.cons (.str [79, 117, 116]) (.cons (.str [66, 108, 111, 99, 107, 101, 100]) (.cons (.str [73, 110, 89, 97, 114, 100]) (.cons (.str [80, 97, 115, 116]) (.cons (.str [78, 111, 87, 97, 105, 116]) (.cons (.str [84, 119, 105, 99, 101]) (.cons (.str [70, 114, 101, 101]) .nil))))))))) (.var 2)) (.cons (.xfld "card") .nil)))) .nil) .nil) (.cons (.ite (.cmp .eq (.var 2) (.int 8)) (.cons (.ret (.tup (.cons (.str [84, 111, 111, 77, 97, 110, 121]) .nil))) .nil) .nil) (.cons (.ite (.cmp .eq (.var 2) (.int 9)) (.cons (.ret (.tup (.cons (.str [78, 111, 75, 105, 110, 100]) (.cons (.xfld "kind") .nil)))) .nil) .nil) (.cons (.ite (.cmp .eq (.var 2) (.int 10)) (.cons (.ret (.tup (.cons (.str [78, 111, 76, 97, 110, 101]) (.cons (.xfld "lane") .nil)))) .nil) .nil) (.cons (.ite (.cmp .eq (.var 2) (.int 11)) (.cons (.ret (.tup (.cons (.str [87, 97, 105, 116, 115]) (.cons (.xfld "card") (.cons (.xfld "other") .nil))))) .nil) .nil) (.cons (.ite (.cmp .eq (.var 2) (.int 12)) (.cons (.ret (.tup (.cons (.str [70, 117, 108, 108]) (.cons (.xfld "lane") (.cons (.xfld "bound") .nil))))) .nil) .nil) (.cons (.ite (.cmp .eq (.var 2) (.int 13)) (.cons (.ret (.tup (.cons (.str [75, 105, 110, 100, 70, 117, 108, 108]) (.cons (.xfld "lane") (.cons (.xfld "kind") (.cons (.xfld "bound") .nil)))))) .nil) .nil) (.cons (.ret (.tup (.cons (.str [76, 111, 119]) (.cons (.xfld "lane") (.cons (.xfld "many") .nil))))) .nil))))))))))))))), keep := false }
def M_Deed_written : Fn := { np := 1, names := ["self"], body := (.cons (.ret (.str [])) .nil), keep := false }
def M_Add_written : Fn := { np := 1, names := ["self"], body := (.cons (.ret (.bop .add (.bop .add (.bop .add (.str [97, 100, 100, 32]) (.fld (.var 0) "card")) (.str [32])) (.fld (.var 0) "kind"))) .nil), keep := false }
def M_OfCard_written : Fn := { np := 1, names := ["self"], body := (.cons (.ret (.bop .add (.bop .add (.meth (.var 0) "word" false .nil) (.str [32])) (.fld (.var 0) "card"))) .nil), keep := false }
def M_Pull_word : Fn := { np := 1, names := ["self"], body := (.cons (.ret (.str [112, 117, 108, 108])) .nil), keep := false }
def M_Back_word : Fn := { np := 1, names := ["self"], body := (.cons (.ret (.str [98, 97, 99, 107])) .nil), keep := false }
def M_Block_word : Fn := { np := 1, names := ["self"], body := (.cons (.ret (.str [98, 108, 111, 99, 107])) .nil), keep := false }
def M_Clear_word : Fn := { np := 1, names := ["self"], body := (.cons (.ret (.str [99, 108, 101, 97, 114])) .nil), keep := false }
def M_Wait_written : Fn := { np := 1, names := ["self"], body := (.cons (.ret (.bm .join (.str [32]) (.cons (.lst (.cons (.str [119, 97, 105, 116]) (.cons (.fld (.var 0) "card") (.cons (.fld (.var 0) "lane") (.cons (.fld (.var 0) "other") .nil))))) .nil))) .nil), keep := false }
def M_Let_written : Fn := { np := 1, names := ["self"], body := (.cons (.ret (.bop .add (.bop .add (.bop .add (.str [108, 101, 116, 32]) (.fld (.var 0) "card")) (.str [32])) (.fld (.var 0) "other"))) .nil), keep := false }
def M_Bound_written : Fn := { np := 1, names := ["self"], body := (.cons (.ret (.bop .add (.bop .add (.bop .add (.str [98, 111, 117, 110, 100, 32]) (.fld (.var 0) "lane")) (.str [32])) (.bi .str (.cons (.fld (.var 0) "bound") .nil)))) .nil), keep := false }
def P_number_in : Fn := { np := 2, names := ["word", "most", "sign"], body := (.cons (.ite (.or (.cons (.cmp .eq (.var 0) (.str [])) (.cons (.cmp .ne (.lcIf (.var 2) (.one 2) (.val (.var 0)) (.cmp .notIn (.var 2) (.gcon "FIGURES"))) (.lst .nil)) .nil))) (.cons (.ret .non) .nil) .nil) (.cons (.ite (.or (.cons (.and (.cons (.cmp .eq (.idx (.var 0) (.int 0)) (.str [48])) (.cons (.cmp .ne (.var 0) (.str [48])) .nil))) (.cons (.cmp .gt (.bi .len (.cons (.var 0) .nil)) (.bi .len (.cons (.bi .str (.cons (.var 1) .nil)) .nil))) .nil))) (.cons (.ret .non) .nil) .nil) (.cons (.ite (.cmp .gt (.bi .int (.cons (.var 0) .nil)) (.var 1)) (.cons (.ret .non) .nil) .nil) (.cons (.ret (.bi .int (.cons (.var 0) .nil))) .nil)))), keep := false }
def P_bound_in : Fn := { np := 1, names := ["word", "number"], body := (.cons (.set (.one 1) (.call "number_in" false (.cons (.var 0) (.cons (.gcon "MOST_BOUND") .nil)))) (.cons (.ite (.cmp .eq (.var 1) (.int 0)) (.cons (.ret .non) .nil) .nil) (.cons (.ret (.var 1)) .nil))), keep := false }
def P_of_one : Fn := { np := 2, names := ["word", "card"], body := (.cons (.ite (.cmp .eq (.var 0) (.str [112, 117, 108, 108])) (.cons (.ret (.make "Pull" (.cons (.var 1) .nil))) .nil) .nil) (.cons (.ite (.cmp .eq (.var 0) (.str [98, 97, 99, 107])) (.cons (.ret (.make "Back" (.cons (.var 1) .nil))) .nil) .nil) (.cons (.ite (.cmp .eq (.var 0) (.str [98, 108, 111, 99, 107])) (.cons (.ret (.make "Block" (.cons (.var 1) .nil))) .nil) .nil) (.cons (.ite (.cmp .eq (.var 0) (.str [99, 108, 101, 97, 114])) (.cons (.ret (.make "Clear" (.cons (.var 1) .nil))) .nil) .nil) (.cons (.ret .non) .nil))))), keep := false }
def P_of_two : Fn := { np := 3, names := ["word", "one", "other"], body := (.cons (.ite (.and (.cons (.cmp .eq (.var 0) (.str [97, 100, 100])) (.cons (.call "is_name" false (.cons (.var 2) .nil)) .nil))) (.cons (.ret (.make "Add" (.cons (.var 1) (.cons (.var 2) .nil)))) .nil) .nil) (.cons (.ite (.and (.cons (.cmp .eq (.var 0) (.str [108, 101, 116])) (.cons (.call "is_name" false (.cons (.var 2) .nil)) .nil))) (.cons (.ret (.make "Let" (.cons (.var 1) (.cons (.var 2) .nil)))) .nil) .nil) (.cons (.ite (.and (.cons (.cmp .eq (.var 0) (.str [98, 111, 117, 110, 100])) (.cons (.cmp .isNot (.call "bound_in" false (.cons (.var 2) .nil)) .non) .nil))) (.cons (.ret (.make "Bound" (.cons (.var 1) (.cons (.call "bound_in" false (.cons (.var 2) .nil)) .nil)))) .nil) .nil) (.cons (.ret .non) .nil)))), keep := false }
def P_deed_of : Fn := { np := 1, names := ["words"], body := (.cons (.ite (.cmp .eq (.bi .len (.cons (.var 0) .nil)) (.int 2)) (.cons (.ret (.call "of_one" false (.cons (.idx (.var 0) (.int 0)) (.cons (.idx (.var 0) (.int 1)) .nil)))) .nil) .nil) (.cons (.ite (.cmp .eq (.bi .len (.cons (.var 0) .nil)) (.int 3)) (.cons (.ret (.call "of_two" false (.cons (.idx (.var 0) (.int 0)) (.cons (.idx (.var 0) (.int 1)) (.cons (.idx (.var 0) (.int 2)) .nil))))) .nil) .nil) (.cons (.ite (.and (.cons (.cmp .eq (.bi .len (.cons (.var 0) .nil)) (.int 4)) (.cons (.cmp .eq (.idx (.var 0) (.int 0)) (.str [119, 97, 105, 116])) (.cons (.call "is_name" false (.cons (.idx (.var 0) (.int 3)) .nil)) .nil)))) (.cons (.ite (.or (.cons (.cmp .eq (.idx (.var 0) (.int 2)) (.str [111, 117, 116])) (.cons (.call "is_name" false (.cons (.idx (.var 0) (.int 2)) .nil)) .nil))) (.cons (.ret (.make "Wait" (.cons (.idx (.var 0) (.int 1)) (.cons (.idx (.var 0) (.int 2)) (.cons (.idx (.var 0) (.int 3)) .nil))))) .nil) .nil) .nil) .nil) (.cons (.ret .non) .nil)))), keep := false }
def P_read_deed : Fn := { np := 1, names := ["text", "words", "deed"], body := (.cons (.ite (.not (.isi (.var 0) ["str"] false)) (.cons (.raise "NoText" (.cons (.int 0) .nil)) .nil) .nil) (.cons (.set (.one 1) (.bm .split (.var 0) (.cons (.str [32]) .nil))) (.cons (.ite (.or (.cons (.cmp .lt (.bi .len (.cons (.var 1) .nil)) (.int 2)) (.cons (.not (.call "is_name" false (.cons (.idx (.var 1) (.int 1)) .nil))) .nil))) (.cons (.raise "NoText" (.cons (.int 0) .nil)) .nil) .nil) (.cons (.set (.one 2) (.call "deed_of" false (.cons (.var 1) .nil))) (.cons (.ite (.cmp .is (.var 2) .non) (.cons (.raise "NoText" (.cons (.int 0) .nil)) .nil) .nil) (.cons (.ret (.var 2)) .nil)))))), keep := false }
end CL
namespace CL
open PySem PySem.Spec PyProof.Rows L2
namespace K21
abbrev prog : Program := PySem.Challenge.pw_cardlanes_k21_no_deed_texts
def f__law_words : Fn := { np := 2, names := ["_law_held", "_law_many", "_law_letters", "_law_word_here", "_law_at", "_law_start", "_law_signs", "_law_ahead", "_law_behind", "_law_turned", "_law_found", "_law_sign", "_law_k", "_law_one"], body := (.cons (.set (.one 2) (.str [97, 98, 99, 100, 101, 102, 103, 104, 105, 106, 107, 108, 109])) (.cons (.set (.one 3) (.bm .join (.str []) (.cons (.lc (.idx (.var 2) (.call "_law_take" false (.cons (.var 0) (.cons (.int 13) .nil)))) (.one 12) (.range (.cons (.bop .add (.int 1) (.call "_law_take" false (.cons (.var 0) (.cons (.int 7) .nil)))) .nil))) .nil))) (.cons (.set (.one 4) (.call "_law_take" false (.cons (.var 0) (.cons (.bi .len (.cons (.var 3) .nil)) .nil)))) (.cons (.set (.one 5) (.call "_law_take" false (.cons (.var 0) (.cons (.int 26) .nil)))) (.cons (.set (.one 6) (.str [97, 98, 99, 100, 101, 102, 103, 104, 105, 106, 107, 108, 109, 110, 111, 112, 113, 114, 115, 116, 117, 118, 119, 120, 121, 122])) (.cons (.set (.one 7) (.slHi (.var 3) (.var 4))) (.cons (.set (.one 8) (.slLo (.var 3) (.bop .add (.var 4) (.int 1)))) (.cons (.set (.one 9) (.bop .add (.slLo (.var 6) (.var 5)) (.slHi (.var 6) (.var 5)))) (.cons (.set (.one 10) (.lc (.bop .add (.bop .add (.var 7) (.var 11)) (.var 8)) (.one 11) (.val (.var 9)))) (.cons (.ret (.slHi (.bop .add (.var 10) (.lc (.bop .add (.var 13) (.str [122])) (.one 13) (.val (.var 10)))) (.var 1))) .nil)))))))))), keep := false }
def f__law_is_name : Fn := { np := 1, names := ["_law_word_here", "_law_sign"], body := (.cons (.ite (.or (.cons (.cmp .lt (.bi .len (.cons (.var 0) .nil)) (.int 1)) (.cons (.cmp .gt (.bi .len (.cons (.var 0) .nil)) (.int 8)) (.cons (.cmp .isIn (.var 0) (.tup (.cons (.str [111, 117, 116]) (.cons (.str [121, 97, 114, 100]) .nil)))) .nil)))) (.cons (.ret (.bl false)) .nil) .nil) (.cons (.ret (.bi .all (.cons (.lc (.cmp .isIn (.var 1) (.str [97, 98, 99, 100, 101, 102, 103, 104, 105, 106, 107, 108, 109, 110, 111, 112, 113, 114, 115, 116, 117, 118, 119, 120, 121, 122])) (.one 1) (.val (.var 0))) .nil))) .nil)), keep := false }
def f__law_is_bound : Fn := { np := 1, names := ["_law_word_here", "_law_sign"], body := (.cons (.ite (.or (.cons (.not (.chain .lt .lt (.int 0) (.bi .len (.cons (.var 0) .nil)) (.int 3))) (.cons (.cmp .eq (.idx (.var 0) (.int 0)) (.str [48])) .nil))) (.cons (.ret (.bl false)) .nil) .nil) (.cons (.ret (.bi .all (.cons (.lc (.cmp .isIn (.var 1) (.str [48, 49, 50, 51, 52, 53, 54, 55, 56, 57])) (.one 1) (.val (.var 0))) .nil))) .nil)), keep := false }
def f__law_is_deed : Fn := { np := 1, names := ["_law_text_here", "_law_words_here", "_law_form", "_law_part", "_law_word_here", "_law_fits"], body := (.cons (.set (.one 1) (.bm .split (.var 0) (.cons (.str [32]) .nil))) (.cons (.set (.one 2) (.dicS [([97, 100, 100], [110, 110]), ([112, 117, 108, 108], [110]), ([98, 97, 99, 107], [110]), ([98, 108, 111, 99, 107], [110]), ([99, 108, 101, 97, 114], [110])])) (.cons (.ex (.dicU (.var 2) [([119, 97, 105, 116], [110, 108, 110]), ([108, 101, 116], [110, 110]), ([98, 111, 117, 110, 100], [110, 98])])) (.cons (.ite (.or (.cons (.cmp .notIn (.idx (.var 1) (.int 0)) (.var 2)) (.cons (.cmp .ne (.bi .len (.cons (.var 1) .nil)) (.bop .add (.int 1) (.bi .len (.cons (.idx (.var 2) (.idx (.var 1) (.int 0))) .nil)))) .nil))) (.cons (.ret (.bl false)) .nil) .nil) (.cons (.for_ (.many [3, 4]) (.zip (.idx (.var 2) (.idx (.var 1) (.int 0))) (.slLo (.var 1) (.int 1))) (.cons (.set (.one 5) (.or (.cons (.call "_law_is_name" false (.cons (.var 4) .nil)) (.cons (.cmp .eq (.tup (.cons (.var 3) (.cons (.var 4) .nil))) (.tup (.cons (.str [108]) (.cons (.str [111, 117, 116]) .nil)))) .nil)))) (.cons (.ite (.cmp .eq (.var 3) (.str [98])) (.cons (.set (.one 5) (.call "_law_is_bound" false (.cons (.var 4) .nil))) .nil) .nil) (.cons (.ite (.not (.var 5)) (.cons (.ret (.bl false)) .nil) .nil) .nil)))) (.cons (.ret (.bl true)) .nil)))))), keep := false }
def f__law_text : Fn := { np := 1, names := ["_law_held", "_law_names", "_law_number", "_law_lane", "_law_rows"], body := (.cons (.set (.one 1) (.call "_law_words" false (.cons (.var 0) (.cons (.int 3) .nil)))) (.cons (.set (.one 2) (.bi .str (.cons (.bop .add (.int 1) (.call "_law_take" false (.cons (.var 0) (.cons (.int 99) .nil)))) .nil))) (.cons (.set (.one 3) (.idx (.lst (.cons (.idx (.var 1) (.int 1)) (.cons (.str [111, 117, 116]) .nil))) (.call "_law_take" false (.cons (.var 0) (.cons (.int 2) .nil))))) (.cons (.set (.one 4) (.lst (.cons (.bop .add (.lst (.cons (.str [97, 100, 100]) .nil)) (.slHi (.var 1) (.int 2))) (.cons (.bop .add (.lst (.cons (.str [108, 101, 116]) .nil)) (.slHi (.var 1) (.int 2))) (.cons (.lst (.cons (.str [98, 111, 117, 110, 100]) (.cons (.idx (.var 1) (.int 0)) (.cons (.var 2) .nil)))) .nil))))) (.cons (.set (.one 4) (.bop .add (.var 4) (.lst (.cons (.lst (.cons (.str [119, 97, 105, 116]) (.cons (.idx (.var 1) (.int 0)) (.cons (.var 3) (.cons (.idx (.var 1) (.int 2)) .nil))))) (.cons (.lst (.cons (.str [112, 117, 108, 108]) (.cons (.idx (.var 1) (.int 0)) .nil))) .nil))))) (.cons (.set (.one 4) (.bop .add (.var 4) (.lst (.cons (.lst (.cons (.str [98, 97, 99, 107]) (.cons (.idx (.var 1) (.int 0)) .nil))) (.cons (.lst (.cons (.str [98, 108, 111, 99, 107]) (.cons (.idx (.var 1) (.int 0)) .nil))) (.cons (.lst (.cons (.str [99, 108, 101, 97, 114]) (.cons (.idx (.var 1) (.int 0)) .nil))) .nil)))))) (.cons (.ret (.bm .join (.str [32]) (.cons (.idx (.var 4) (.call "_law_take" false (.cons (.var 0) (.cons (.int 8) .nil)))) .nil))) .nil))))))), keep := false }
def f__law_word : Fn := { np := 1, names := ["_law_held", "_law_some"], body := (.cons (.set (.one 1) (.lst (.cons (.str [97, 100, 100]) (.cons (.str [112, 117, 108, 108]) (.cons (.str [98, 97, 99, 107]) (.cons (.str [98, 108, 111, 99, 107]) (.cons (.str [99, 108, 101, 97, 114]) (.cons (.str [119, 97, 105, 116]) (.cons (.str [108, 101, 116]) (.cons (.str [98, 111, 117, 110, 100]) (.cons (.str [111, 117, 116]) .nil))))))))))) (.cons (.set (.one 1) (.bop .add (.var 1) (.lst (.cons (.str [121, 97, 114, 100]) (.cons (.str [97]) (.cons (.str [97, 98, 99, 100, 101, 102, 103, 104, 105]) (.cons (.str [65]) (.cons (.str []) (.cons (.str [48]) (.cons (.str [49]) (.cons (.str [57, 57]) (.cons (.str [49, 48, 48]) (.cons (.str [48, 49]) .nil))))))))))))) (.cons (.set (.one 1) (.bop .add (.var 1) (.lst (.cons (.str [45, 49]) (.cons (.str [43, 49]) (.cons (.str [49, 46, 48]) (.cons (.str [49, 95, 48]) (.cons (.str [80, 117, 108, 108]) (.cons (.str [112, 117, 108, 108, 115]) (.cons (.str [116, 101, 108, 108]) (.cons (.str [53]) (.cons (.str [120]) (.cons (.str [97, 49]) .nil))))))))))))) (.cons (.ret (.idx (.var 1) (.call "_law_take" false (.cons (.var 0) (.cons (.bi .len (.cons (.var 1) .nil)) .nil))))) .nil)))), keep := false }
def f__law_bent : Fn := { np := 2, names := ["_law_held", "_law_text_here", "_law_words_here", "_law_at", "_law_spot", "_law_way", "_law_sign"], body := (.cons (.set (.one 2) (.nsplit (.var 1) 32)) (.cons (.set (.one 3) (.call "_law_take" false (.cons (.var 0) (.cons (.bi .len (.cons (.var 2) .nil)) .nil)))) (.cons (.set (.one 4) (.call "_law_take" false (.cons (.var 0) (.cons (.bop .add (.bi .len (.cons (.var 1) .nil)) (.int 1)) .nil)))) (.cons (.set (.one 5) (.call "_law_take" false (.cons (.var 0) (.cons (.int 10) .nil)))) (.cons (.ite (.cmp .eq (.var 5) (.int 0)) (.cons (.ex (.bm .popAt (.var 2) (.cons (.var 3) .nil))) .nil) .nil) (.cons (.ite (.cmp .eq (.var 5) (.int 1)) (.cons (.ex (.bm .insert (.var 2) (.cons (.var 3) (.cons (.idx (.var 2) (.var 3)) .nil)))) .nil) .nil) (.cons (.ite (.cmp .eq (.var 5) (.int 2)) (.cons (.ex (.bm .insert (.var 2) (.cons (.bop .add (.var 3) (.int 1)) (.cons (.bm .popAt (.var 2) (.cons (.var 3) .nil)) .nil)))) .nil) .nil) (.cons (.ite (.cmp .eq (.var 5) (.int 3)) (.cons (.setIdx (.var 2) (.var 3) (.call "_law_word" false (.cons (.var 0) .nil))) .nil) .nil) (.cons (.ite (.cmp .eq (.var 5) (.int 4)) (.cons (.ex (.bm .insert (.var 2) (.cons (.var 3) (.cons (.call "_law_word" false (.cons (.var 0) .nil)) .nil)))) .nil) .nil) (.cons (.set (.one 6) (.idx (.str [32, 97, 48, 58, 10, 65]) (.call "_law_take" false (.cons (.var 0) (.cons (.int 6) .nil))))) (.cons (.ite (.or (.cons (.cmp .eq (.var 5) (.int 5)) (.cons (.cmp .eq (.var 5) (.int 6)) .nil))) (.cons (.ret (.bop .add (.bop .add (.slHi (.var 1) (.var 4)) (.var 6)) (.slLo (.var 1) (.bop .sub (.bop .add (.var 4) (.var 5)) (.int 5))))) .nil) .nil) (.cons (.ite (.cmp .eq (.var 5) (.int 7)) (.cons (.ret (.idx (.lst (.cons (.bop .add (.str [32]) (.var 1)) (.cons (.bop .add (.var 1) (.str [32])) .nil))) (.call "_law_take" false (.cons (.var 0) (.cons (.int 2) .nil))))) .nil) .nil) (.cons (.ret (.bm .join (.str [32]) (.cons (.var 2) .nil))) .nil))))))))))))), keep := false }
def f__law_told : Fn := { np := 1, names := ["_law_text_here", "_law_told_here", "e"], body := (.cons (.set (.one 1) .non) (.cons (.try_ (.cons (.set (.one 1) (.meth (.call "read_deed" false (.cons (.var 0) .nil)) "written" false .nil)) .nil) "LaneError" (some 2) (.cons (.set (.one 1) (.and (.cons (.xis ["NoText"] false) (.cons (.xis ["ValueError"] false) (.cons (.cmp .eq (.xfld "row") (.int 0)) .nil))))) (.cons (.ite (.xis ["NoCard", "NoKind", "NoLane", "NoRow"] true) (.cons (.set (.one 1) (.bl false)) .nil) .nil) .nil)) .nil) (.cons (.ret (.var 1)) .nil))), keep := false }
def f_law : Fn := { np := 1, names := ["_law_script", "_law_k", "_law_thing", "_law_held", "_law_text_here"], body := (.cons (.for_ (.one 1) (.range (.cons (.bop .add (.bi .min (.cons (.int 40) (.cons (.bi .len (.cons (.var 0) .nil)) .nil))) (.int 1)) .nil)) (.cons (.set (.one 3) (.call "_law_digits" false (.cons (.var 0) (.cons (.var 1) .nil)))) (.cons (.set (.one 4) (.call "_law_bent" false (.cons (.var 3) (.cons (.call "_law_text" false (.cons (.var 3) .nil)) .nil)))) (.cons (.ite (.call "_law_is_deed" false (.cons (.var 4) .nil)) (.cons (.ite (.cmp .ne (.call "_law_told" false (.cons (.var 4) .nil)) (.var 4)) (.cons (.ret (.bl false)) .nil) .nil) .nil) (.cons (.ite (.cmp .isNot (.call "_law_told" false (.cons (.var 4) .nil)) (.bl true)) (.cons (.ret (.bl false)) .nil) .nil) .nil)) .nil)))) (.cons (.for_ (.one 2) (.val (.lst (.cons .non (.cons (.int 0) (.cons (.bl true) (.cons (.tup .nil) (.cons (.lst (.cons (.str [112, 117, 108, 108, 32, 97]) .nil)) (.cons (.str []) (.cons (.str [112, 117, 108, 108]) (.cons (.str [111, 117, 116]) (.cons (.str [112, 117, 108, 108, 32, 111, 117, 116]) (.cons (.str [119, 97, 105, 116, 32, 97, 32, 121, 97, 114, 100, 32, 98]) (.cons (.str [97, 100, 100, 32, 97, 32, 111, 117, 116]) .nil))))))))))))) (.cons (.ite (.cmp .isNot (.call "_law_told" false (.cons (.var 2) .nil)) (.bl true)) (.cons (.ret (.bl false)) .nil) .nil) .nil)) (.cons (.ret (.bl true)) .nil))), keep := false }
def m_Deed_done : Fn := { np := 3, names := ["self", "plan", "stand"], body := (.cons (.ret (.var 2)) .nil), keep := false }
def L : LT where
  body := prog.main.body
  fns := [("is_name", P_is_name, 23), ("lane_number", P_lane_number, 24), ("kind_of", P_kind_of, 25), ("way_of", P_way_of, 26), ("lane_at", P_lane_at, 30), ("card_of", P_card_of, 31), ("lane_of", P_lane_of, 32), ("cards_in", P_cards_in, 33), ("many_of", P_many_of, 34), ("is_out", P_is_out, 35), ("out_names", P_out_names, 36), ("with_card", P_with_card, 37), ("bound_of", P_bound_of, 38), ("hold_room", P_hold_room, 40), ("hold_waits", P_hold_waits, 41), ("hold_free", P_hold_free, 42), ("pulled", P_pulled, 43), ("put_back", P_put_back, 44), ("with_wait", P_with_wait, 46), ("without_waits", P_without_waits, 47), ("number_in", P_number_in, 61), ("bound_in", P_bound_in, 62), ("of_one", P_of_one, 64), ("of_two", P_of_two, 65), ("deed_of", P_deed_of, 66), ("read_deed", P_read_deed, 67), ("_law_digits", Ulaw_digits, 69), ("_law_take", Ulaw_take, 70), ("_law_words", f__law_words, 71), ("_law_is_name", f__law_is_name, 72), ("_law_is_bound", f__law_is_bound, 73), ("_law_is_deed", f__law_is_deed, 74), ("_law_text", f__law_text, 75), ("_law_word", f__law_word, 76), ("_law_bent", f__law_bent, 77), ("_law_told", f__law_told, 78), ("law", f_law, 79)]
  hfns := []
  cons := [("LETTERS", .str [97, 98, 99, 100, 101, 102, 103, 104, 105, 106, 107, 108, 109, 110, 111, 112, 113, 114, 115, 116, 117, 118, 119, 120, 121, 122]), ("MOST_SIGNS", .int 8), ("MOST_BOUND", .int 99), ("MOST_CARDS", .int 30), ("MOST_WAITS", .int 60), ("FIGURES", .str [48, 49, 50, 51, 52, 53, 54, 55, 56, 57])]
  exs := [("LaneError", none, 1, ["LaneError", "ValueError"]), ("TooMany", none, 2, ["TooMany", "LaneError", "ValueError"]), ("NoRow", none, 3, ["NoRow", "LaneError", "ValueError"]), ("NoText", some ["row"], 4, ["NoText", "LaneError", "ValueError"]), ("NoCard", some ["card"], 5, ["NoCard", "LaneError", "ValueError"]), ("NoKind", some ["kind"], 6, ["NoKind", "LaneError", "ValueError"]), ("NoLane", some ["lane"], 7, ["NoLane", "LaneError", "ValueError"]), ("NoWait", some ["card"], 8, ["NoWait", "LaneError", "ValueError"]), ("Twice", some ["card"], 9, ["Twice", "LaneError", "ValueError"]), ("Out", some ["card"], 10, ["Out", "LaneError", "ValueError"]), ("Blocked", some ["card"], 11, ["Blocked", "LaneError", "ValueError"]), ("Free", some ["card"], 12, ["Free", "LaneError", "ValueError"]), ("InYard", some ["card"], 13, ["InYard", "LaneError", "ValueError"]), ("Past", some ["card"], 14, ["Past", "LaneError", "ValueError"]), ("Waits", some ["card", "other"], 15, ["Waits", "LaneError", "ValueError"]), ("Full", some ["lane", "bound"], 16, ["Full", "LaneError", "ValueError"]), ("KindFull", some ["lane", "kind", "bound"], 17, ["KindFull", "LaneError", "ValueError"]), ("Low", some ["lane", "many"], 18, ["Low", "LaneError", "ValueError"])]
  base := "LaneError"
  fuel := 100000
  mfns := [("Deed.done", m_Deed_done, 49, "done"), ("Deed.written", M_Deed_written, 49, "written"), ("Add.__init__", M_Add___init__, 50, "__init__"), ("Add.done", M_Add_done, 50, "done"), ("Add.written", M_Add_written, 50, "written"), ("OfCard.__init__", M_OfCard___init__, 51, "__init__"), ("OfCard.word", M_Deed_written, 51, "word"), ("OfCard.written", M_OfCard_written, 51, "written"), ("Pull.done", M_Pull_done, 52, "done"), ("Pull.word", M_Pull_word, 52, "word"), ("Back.done", M_Back_done, 53, "done"), ("Back.word", M_Back_word, 53, "word"), ("Block.done", M_Block_done, 54, "done"), ("Block.word", M_Block_word, 54, "word"), ("Clear.done", M_Clear_done, 55, "done"), ("Clear.word", M_Clear_word, 55, "word"), ("Wait.__init__", M_Wait___init__, 56, "__init__"), ("Wait.done", M_Wait_done, 56, "done"), ("Wait.written", M_Wait_written, 56, "written"), ("Let.__init__", M_Let___init__, 57, "__init__"), ("Let.done", M_Let_done, 57, "done"), ("Let.written", M_Let_written, 57, "written"), ("Bound.__init__", M_Bound___init__, 58, "__init__"), ("Bound.done", M_Bound_done, 58, "done"), ("Bound.written", M_Bound_written, 58, "written")]
  ocs := [("Deed", 0, none, [], [("done", "Deed.done"), ("written", "Deed.written")]), ("Add", 0, some "Add.__init__", ["card", "kind"], [("done", "Add.done"), ("written", "Add.written")]), ("OfCard", 0, some "OfCard.__init__", ["card"], [("done", "Deed.done"), ("written", "OfCard.written"), ("word", "OfCard.word")]), ("Pull", 0, some "OfCard.__init__", ["card"], [("done", "Pull.done"), ("written", "OfCard.written"), ("word", "Pull.word")]), ("Back", 0, some "OfCard.__init__", ["card"], [("done", "Back.done"), ("written", "OfCard.written"), ("word", "Back.word")]), ("Block", 0, some "OfCard.__init__", ["card"], [("done", "Block.done"), ("written", "OfCard.written"), ("word", "Block.word")]), ("Clear", 0, some "OfCard.__init__", ["card"], [("done", "Clear.done"), ("written", "OfCard.written"), ("word", "Clear.word")]), ("Wait", 0, some "Wait.__init__", ["card", "lane", "other"], [("done", "Wait.done"), ("written", "Wait.written")]), ("Let", 0, some "Let.__init__", ["card", "other"], [("done", "Let.done"), ("written", "Let.written")]), ("Bound", 0, some "Bound.__init__", ["lane", "bound"], [("done", "Bound.done"), ("written", "Bound.written")])]
end K21
end CL
namespace CL
theorem map_two {α A B : Type} {o : Option α} {f : α → A} {g : α → B} {a : A} {b : B} (h1 : o.map f = some a) (h2 : o.map g = some b) : o.map (fun s => (f s, g s)) = some (a, b) := by
  cases o with
  | none => cases h1
  | some s =>
    simp only [Option.map_some, Option.some.injEq] at h1 h2 ⊢
    rw [h1, h2]
theorem map_three2 {α A B C : Type} {o : Option α} {f : α → A} {g : α → B} {h : α → C} {a : A} {b : B} {c : C} (h1 : o.map (fun s => (f s, g s)) = some (a, b)) (h2 : o.map h = some c) : o.map (fun s => (f s, g s, h s)) = some (a, b, c) := by
  cases o with
  | none => cases h1
  | some s =>
    simp only [Option.map_some, Option.some.injEq, Prod.mk.injEq] at h1 h2 ⊢
    exact ⟨h1.1, h1.2, h2⟩
theorem map_conj {α : Type} {o : Option α} {f g : α → Bool} (h1 : o.map f = some true) (h2 : o.map g = some true) : o.map (fun s => f s && g s) = some true := by
  cases o with
  | none => cases h1
  | some s =>
    simp only [Option.map_some, Option.some.injEq] at h1 h2 ⊢
    rw [h1, h2]
    rfl
theorem map_map {α β γ : Type} {o : Option α} {l : List β} {f : α → β → γ} {v : β → γ} (k : Nat) (h1 : o.map (fun s => (l.take k).map (f s)) = some ((l.take k).map v)) (h2 : o.map (fun s => (l.drop k).map (f s)) = some ((l.drop k).map v)) : o.map (fun s => l.map (f s)) = some (l.map v) := by
  cases o with
  | none => cases h1
  | some s =>
    simp only [Option.map_some, Option.some.injEq] at h1 h2 ⊢
    rw [← List.take_append_drop k l, List.map_append, List.map_append, h1, h2]
namespace K21
open PySem PySem.Spec PyProof.Rows L2
def others : List Str := ([("LaneError" : Str), ("TooMany" : Str), ("NoRow" : Str), ("NoText" : Str), ("NoCard" : Str), ("NoKind" : Str), ("NoLane" : Str), ("NoWait" : Str), ("Twice" : Str), ("Out" : Str), ("Blocked" : Str), ("Free" : Str), ("InYard" : Str), ("Past" : Str), ("Waits" : Str), ("Full" : Str), ("KindFull" : Str), ("Low" : Str), ("LETTERS" : Str), ("MOST_SIGNS" : Str), ("MOST_BOUND" : Str), ("is_name" : Str), ("lane_number" : Str), ("kind_of" : Str), ("way_of" : Str), ("MOST_CARDS" : Str), ("MOST_WAITS" : Str), ("lane_at" : Str), ("card_of" : Str), ("lane_of" : Str), ("cards_in" : Str), ("many_of" : Str), ("is_out" : Str), ("out_names" : Str), ("with_card" : Str)] : List Str) ++ ([("bound_of" : Str), ("hold_room" : Str), ("hold_waits" : Str), ("hold_free" : Str), ("pulled" : Str), ("put_back" : Str), ("with_wait" : Str), ("without_waits" : Str), ("Deed" : Str), ("Add" : Str), ("OfCard" : Str), ("Pull" : Str), ("Back" : Str), ("Block" : Str), ("Clear" : Str), ("Wait" : Str), ("Let" : Str), ("Bound" : Str), ("FIGURES" : Str), ("number_in" : Str), ("bound_in" : Str), ("of_one" : Str), ("of_two" : Str), ("deed_of" : Str), ("read_deed" : Str), ("_law_digits" : Str), ("_law_take" : Str), ("_law_words" : Str), ("_law_is_name" : Str), ("_law_is_bound" : Str), ("_law_is_deed" : Str), ("_law_text" : Str), ("_law_word" : Str), ("_law_bent" : Str), ("_law_told" : Str)] : List Str)
abbrev row : PySem.W.OpenRow := PySem.W.OpenLaw.row PySem.Challenge.rw_cardlanes_k21_no_deed_texts
open PySem.W PySem.Calls
set_option maxHeartbeats 0 in
theorem run1 (w : PySem.World) : ∀ os, (HandSHeadRun.endF (HandSHeadRun.stepQ (HandSHeadRun.denQ HandSHeadRun.tabQ) row.prog w) 12000 row.prog w os).map (fun s => (HandSHeadRun.looksF row.prog (boot_heap w.params) s.abs, HandSHeadRun.seenQ (PySem.W.view row.prog [79]) others (importedModules row.prog.main.body) (fun s => xlAt (PySem.W.view row.prog [79]) [] s && recOk row.toRowW.records s) s.abs)) = some ((true, openGood (PySem.W.view row.prog [79]) others)) := by
  intro os
  kernel_rfl
set_option maxHeartbeats 0 in
theorem run2 (w : PySem.World) : ∀ os, (HandSHeadRun.endF (HandSHeadRun.stepQ (HandSHeadRun.denQ HandSHeadRun.tabQ) row.prog w) 12000 row.prog w os).map (fun s => LT.okK L (He.frG (HandSHeadRun.getT s) (LT.adr 1600 (HandSHeadRun.getT s)))) = some (true) := by
  intro os
  kernel_rfl
set_option maxHeartbeats 0 in
theorem run3 (w : PySem.World) : ∀ os, (HandSHeadRun.endF (HandSHeadRun.stepQ (HandSHeadRun.denQ HandSHeadRun.tabQ) row.prog w) 12000 row.prog w os).map (fun s => L.defs.all (fun d => d.ok (He.frG (HandSHeadRun.getT s) (LT.adr 1600 (HandSHeadRun.getT s))))) = some (true) := by
  intro os
  kernel_rfl
set_option maxHeartbeats 0 in
theorem run4 (w : PySem.World) : ∀ os, (HandSHeadRun.endF (HandSHeadRun.stepQ (HandSHeadRun.denQ HandSHeadRun.tabQ) row.prog w) 12000 row.prog w os).map (fun s => L.defs.map fun d => He.fnW (He.frG (HandSHeadRun.getT s) (LT.adr 1600 (HandSHeadRun.getT s))) d.at_) = some (L.defs.map He.DefD.val) := by
  intro os
  kernel_rfl
set_option maxHeartbeats 0 in
theorem runOk (w : PySem.World) : ∀ os, (HandSHeadRun.endF (HandSHeadRun.stepQ (HandSHeadRun.denQ HandSHeadRun.tabQ) row.prog w) 12000 row.prog w os).map (fun s => LT.okK L (He.frG (HandSHeadRun.getT s) (LT.adr 1600 (HandSHeadRun.getT s)))) = some true := by
  intro os
  exact (run2 w os)
set_option maxHeartbeats 0 in
theorem run (w : PySem.World) : HandSHeadRun.RunEq row (PySem.W.view row.prog [79]) (L.hook 1600) (L.ob 1600) 12000 others w := by
  intro os
  have h := map_three2 (run1 w os) (map_two (map_conj (runOk w os) (run3 w os)) (run4 w os))
  exact h
end K21
end CL
namespace CL
open PySem PySem.Spec PyProof.Rows L2
theorem nm_inj {a b : String} (h : nm a = nm b) : a = b := by
  have h' : (nm a).cps.toList = (nm b).cps.toList := by rw [h]
  rw [PyProof.Rows.signs_ofString, PyProof.Rows.signs_ofString] at h'
  have q : ∀ (l m : List Char), l.map Char.toNat = m.map Char.toNat → l = m := by
    intro l
    induction l with
    | nil => intro m e; cases m with
      | nil => rfl
      | cons _ _ => simp at e
    | cons c l ih => intro m e; cases m with
      | nil => simp at e
      | cons d m =>
        simp only [List.map_cons, List.cons.injEq] at e
        obtain ⟨e1, e2⟩ := e
        have e1' : c = d := by
          have := congrArg Char.ofNat e1
          simpa [Char.ofNat_toNat] using this
        rw [e1', ih m e2]
  exact String.toList_inj.mp (q _ _ h')
def kD : Key → D
  | .inl i => .int i
  | .inr x => .str x.cps.toList
def kDT (k : List Key) : D := .tup (k.map kD)
structure CA where
  f : String → Addr
  K : PySem.W.Frag
instance : CoeFun CA (fun _ => String → Addr) := ⟨CA.f⟩
def CA.kl (c : CA) (a : Addr) (ns : List Int) : Prop := ∃ (o : Obj) (its : Array Value) (n : Nat), c.K.lookup a = some o ∧ o.cls = .type "list" ∧ o.dict = none ∧ o.data = .seq its n ∧ its.size ≤ sizeLine ∧ Vals (ns.map V.int) its.toList
structure ExS where
  slot : Nat
  at_ : Addr
  C : String
  ns : List String
  ds : List D
  cls : Value
  dd : Option Addr
structure Sx where
  ca : CA
  hid : Addr → Prop
  exs : Option ExS := none
structure Fr (Y : Sx) (μ : List Addr) (a : Addr) : Prop where
  out : a ∉ μ
  vis : ¬ Y.hid a
section
variable (Y : Sx)
mutual
inductive Rep (μ : List Addr) (H : Hp) : V → D → Prop
  | non : Rep μ H .non .non
  | bl (b : Bool) : Rep μ H (.bl b) (.bl b)
  | int (i : Int) : Rep μ H (.int i) (.int i)
  | str (l : List Nat) : Rep μ H (.str ⟨l.toArray⟩) (.str l)
  | tup {a : Addr} {xs : List V} {ds : List D} (h : H a = some (.tup xs)) (n : Fr Y μ a) (r : RepL μ H xs ds) : Rep μ H (.ref a) (.tup ds)
  | lst {a : Addr} {xs : List V} {ds : List D} (h : H a = some (.lst xs)) (n : Fr Y μ a) (r : RepL μ H xs ds) : Rep μ H (.ref a) (.lst ds)
  | dicK {a : Addr} {kvs : List (Key × V)} {vs : List D} (h : H a = some (.dK kvs)) (n : Fr Y μ a) (r : RepL μ H (kvs.map (·.2)) vs) : Rep μ H (.ref a) (.dic false (kvs.map fun p => kD p.1) vs)
  | dicT {a : Addr} {kvs : List (List Key × V)} {vs : List D} (h : H a = some (.dT kvs)) (n : Fr Y μ a) (r : RepL μ H (kvs.map (·.2)) vs) : Rep μ H (.ref a) (.dic true (kvs.map fun p => kDT p.1) vs)
  | ins {a dx : Addr} {fs : List (Str × V)} {C : String} {ns : List String} {ds : List D} (h : H a = some (.ins (Y.ca C) dx fs)) (n : Fr Y μ a) (hn : fs.map (·.1) = ns.map nm) (r : RepL μ H (fs.map (·.2)) ds) : Rep μ H (.ref a) (.ins C ns ds)
  | ref {a : Addr} {i : Nat} (h : μ[i]? = some a) : Rep μ H (.ref a) (.ref i)
  | scr {a : Addr} {ns : List Int} (h : (∃ o, H a = some (.frz o (.lst (ns.map V.int))) ∧ Fr Y μ a) ∨ Y.ca.kl a ns) : Rep μ H (.ref a) (.scr ns)
  | way {a : Addr} {o : Obj} {xs : List V} {ds : List D} (h : H a = some (.frz o (.tup xs))) (ho : o.dict = none) (n : Fr Y μ a) (r : RepL μ H xs ds) : Rep μ H (.ref a) (.way ds)
inductive RepL (μ : List Addr) (H : Hp) : List V → List D → Prop
  | nil : RepL μ H [] []
  | cons {v : V} {vs : List V} {d : D} {ds : List D} : Rep μ H v d → RepL μ H vs ds → RepL μ H (v :: vs) (d :: ds)
end
inductive CellOk (μ : List Addr) (H : Hp) (a : Addr) : Cell → Prop
  | lst {xs : List V} {ds : List D} (h : H a = some (.lst xs)) (r : RepL Y μ H xs ds) : CellOk μ H a (.lst ds)
  | dicK {kvs : List (Key × V)} {vs : List D} (h : H a = some (.dK kvs)) (r : RepL Y μ H (kvs.map (·.2)) vs) : CellOk μ H a (.dic false (kvs.map fun p => kD p.1) vs)
  | dicT {kvs : List (List Key × V)} {vs : List D} (h : H a = some (.dT kvs)) (r : RepL Y μ H (kvs.map (·.2)) vs) : CellOk μ H a (.dic true (kvs.map fun p => kDT p.1) vs)
  | ins {dx : Addr} {fs : List (Str × V)} {C : String} {ns : List String} {ds : List D} (h : H a = some (.ins (Y.ca C) dx fs)) (hn : fs.map (·.1) = ns.map nm) (r : RepL Y μ H (fs.map (·.2)) ds) : CellOk μ H a (.ins C ns ds)
structure World (Bs : List Nat) (μ : List Addr) (H : Hp) (S : Store) : Prop where
  len : μ.length = S.length
  nd : μ.Nodup
  cells : ∀ (i : Nat) (a : Addr) (c : Cell), μ[i]? = some a → S[i]? = some c → CellOk Y μ H a c
  lims : ∀ (i : Nat) (c : Cell), S[i]? = some c → ∀ b ∈ Bs, i < b → c.lim b = true
  bs : ∀ b ∈ Bs, b ≤ S.length
  hidT : ∀ a, Y.hid a → ∃ o, H a = some o
  hidC : ∀ a ∈ μ, ¬ Y.hid a
structure ExF (ca : CA) (C : String) : Prop where
  ga : PySem.W.findIn ca.K (.ref (ca C)) "__getattribute__" = some (some (.builtin "BaseException.__getattribute__"))
  gg : PySem.W.findIn ca.K (.ref (ca C)) "__getattr__" = some none
  exC : PySem.W.subIn ca.K (.ref (ca C)) (.type "BaseException") = some true
  hdC : PySem.W.hasDictIn ca.K (ca C) = true
  isC : PySem.W.isClsIn ca.K (ca C) = true
  ha : PySem.W.findIn ca.K (.ref (ca C)) "__class__" = some (some (.builtin "object.__class__"))
  hn : PySem.W.specialIn ca.K (.builtin "object.__class__") "__get__" = some (some (.builtin "getset_descriptor.__get__"))
  ht : PySem.W.takesIn ca.K (.builtin "object.__class__") = some true
  hm : PySem.W.mroIn ca.K (ca C) (.type "object") = some true
  tyC : PySem.W.typeIn ca.K (.ref (ca C)) = some (.type "type")
  kC : PySem.W.keepIn ca.K (.ref (ca C)) = true
structure ExcAt (μ : List Addr) (H : Hp) (C : String) (ns : List String) (ds : List D) (cls : Value) (dd : Option Addr) : Prop where
  cls_ : cls = .ref (Y.ca C)
  cl : ExF Y.ca C
  no : ∀ f ∈ ns, PySem.W.findIn Y.ca.K (.ref (Y.ca C)) (nm f) = some none
  flds : (dd = none ∧ ns = [] ∧ ds = []) ∨ ∃ (a : Addr) (fs : List (Str × V)), dd = some a ∧ H a = some (.xd fs) ∧ Fr Y μ a ∧ fs.map (·.1) = ns.map nm ∧ RepL Y μ H (fs.map (·.2)) ds
structure EnvOk (μ : List Addr) (H : Hp) (σ : L2.St) (ρ : Env) : Prop where
  len : ρ.length = σ.length
  at_ : ∀ (i : Nat) (d : D), ρ[i]? = some (some d) → ∃ v, σ[i]? = some (some v) ∧ Rep Y μ H v d
  ex : ∀ z, Y.exs = some z → σ[z.slot]? = some (some (.ref z.at_)) ∧ ExcAt Y μ H z.C z.ns z.ds z.cls z.dd
end
structure Ext (μ : List Addr) (H : Hp) (μ' : List Addr) (H' : Hp) : Prop where
  pre : ∃ r, μ' = μ ++ r
  keep : ∀ a o, a ∉ μ → H a = some o → H' a = some o
  new : ∀ a, a ∈ μ' → a ∉ μ → H a = none
theorem Ext.refl (μ : List Addr) (H : Hp) : Ext μ H μ H := ⟨⟨[], by simp⟩, fun _ _ _ h => h, fun _ h n => absurd h n⟩
theorem Ext.trans {μ μ1 μ2 : List Addr} {H H1 H2 : Hp} (a : Ext μ H μ1 H1) (b : Ext μ1 H1 μ2 H2) : Ext μ H μ2 H2 where
  pre := by
    obtain ⟨r, e⟩ := a.pre
    obtain ⟨r', e'⟩ := b.pre
    exact ⟨r ++ r', by rw [e', e, List.append_assoc]⟩
  keep := fun x o n h => b.keep x o (fun m => by rw [a.new x m n] at h; cases h) (a.keep x o n h)
  new := fun x m n => by
    by_cases h : x ∈ μ1
    · exact a.new x h n
    · cases e : H x with
      | none => rfl
      | some o =>
        have := a.keep x o n e
        rw [b.new x m h] at this; cases this
theorem Ext.get {μ μ' : List Addr} {H H' : Hp} (e : Ext μ H μ' H') {i : Nat} {a : Addr} (h : μ[i]? = some a) : μ'[i]? = some a := by
  obtain ⟨r, q⟩ := e.pre
  have hl := (List.getElem?_eq_some_iff.mp h).1
  rw [q, List.getElem?_append_left hl]; exact h
theorem Ext.of_same {μ : List Addr} {H H' : Hp} (s : ∀ a o, H a = some o → H' a = some o) : Ext μ H μ H' := ⟨⟨[], by simp⟩, fun a o _ h => s a o h, fun _ h n => absurd h n⟩
theorem Ext.laid {μ : List Addr} {H : Hp} {p : Addr} {o : HO} (hp : H p = none) : Ext μ H μ (upd H p o) := .of_same fun a u h => by rw [upd_ne (ne_of_none h hp)]; exact h
theorem Ext.wrote {μ : List Addr} {H : Hp} {x : Addr} {o : HO} (hx : x ∈ μ) : Ext μ H μ (upd H x o) := ⟨⟨[], by simp⟩, fun a u n h => by rw [upd_ne (fun e => n (by rw [e]; exact hx))]; exact h, fun _ h n => absurd h n⟩
theorem Ext.cell {μ : List Addr} {H : Hp} {p : Addr} {o : HO} (hp : H p = none) : Ext μ H (μ ++ [p]) (upd H p o) := ⟨⟨[p], rfl⟩, fun a u _ h => by rw [upd_ne (ne_of_none h hp)]; exact h, fun a h n => by
  rcases List.mem_append.mp h with h | h
  · exact absurd h n
  · have : a = p := by simpa using h
    rw [this]; exact hp⟩
section
variable {Y : Sx} {μ μ' : List Addr} {H H' : Hp}
theorem Ext.not_mem (e : Ext μ H μ' H') {a : Addr} {o : HO} (n : a ∉ μ) (h : H a = some o) : a ∉ μ' := fun m => by rw [e.new a m n] at h; cases h
structure Up (Y : Sx) (H : Hp) (Y' : Sx) : Prop where
  ca : Y'.ca = Y.ca
  hid : ∀ a, Y'.hid a → Y.hid a ∨ H a = none
theorem Up.refl (Y : Sx) (H : Hp) : Up Y H Y := ⟨rfl, fun _ h => .inl h⟩
variable {Y' : Sx}
theorem Fr.move (e : Ext μ H μ' H') (u : Up Y H Y') {a : Addr} {o : HO} (n : Fr Y μ a) (h : H a = some o) : Fr Y' μ' a :=
  ⟨e.not_mem n.out h, fun z => (u.hid a z).elim n.vis fun q => by rw [q] at h; cases h⟩
mutual
theorem Rep.move (e : Ext μ H μ' H') (u : Up Y H Y') : ∀ {v : V} {d : D}, Rep Y μ H v d → Rep Y' μ' H' v d
  | _, _, .non => .non
  | _, _, .bl b => .bl b
  | _, _, .int i => .int i
  | _, _, .str l => .str l
  | _, _, .tup h n r => .tup (e.keep _ _ n.out h) (n.move e u h) (r.move e u)
  | _, _, .lst h n r => .lst (e.keep _ _ n.out h) (n.move e u h) (r.move e u)
  | _, _, .scr h => .scr (h.imp (fun ⟨o, h, n⟩ => ⟨o, e.keep _ _ n.out h, n.move e u h⟩) (fun h => by rw [u.ca]; exact h))
  | _, _, .way h ho n r => .way (e.keep _ _ n.out h) ho (n.move e u h) (r.move e u)
  | _, _, .dicK h n r => .dicK (e.keep _ _ n.out h) (n.move e u h) (r.move e u)
  | _, _, .dicT h n r => .dicT (e.keep _ _ n.out h) (n.move e u h) (r.move e u)
  | _, _, .ins h n hn r => .ins (by rw [u.ca]; exact e.keep _ _ n.out h) (n.move e u h) hn (r.move e u)
  | _, _, .ref h => .ref (e.get h)
theorem RepL.move (e : Ext μ H μ' H') (u : Up Y H Y') : ∀ {vs : List V} {ds : List D}, RepL Y μ H vs ds → RepL Y' μ' H' vs ds
  | _, _, .nil => .nil
  | _, _, .cons h t => .cons (h.move e u) (t.move e u)
end
theorem Rep.ext (e : Ext μ H μ' H') {v : V} {d : D} (r : Rep Y μ H v d) : Rep Y μ' H' v d := r.move e (.refl _ _)
theorem RepL.ext (e : Ext μ H μ' H') {vs : List V} {ds : List D} (r : RepL Y μ H vs ds) : RepL Y μ' H' vs ds := r.move e (.refl _ _)
theorem RepL.length : ∀ {vs : List V} {ds : List D}, RepL Y μ H vs ds → vs.length = ds.length
  | _, _, .nil => rfl
  | _, _, .cons _ t => by simp [t.length]
theorem RepL.append : ∀ {vs ws : List V} {ds es : List D}, RepL Y μ H vs ds → RepL Y μ H ws es → RepL Y μ H (vs ++ ws) (ds ++ es)
  | _, _, _, _, .nil, h => h
  | _, _, _, _, .cons h t, q => .cons h (t.append q)
theorem RepL.rep {vs : List V} {ds : List D} (h : RepL Y μ H vs ds) : ∀ n : Nat, RepL Y μ H (List.replicate n vs).flatten (List.replicate n ds).flatten
  | 0 => .nil
  | n + 1 => by
    rw [List.replicate_succ, List.replicate_succ, List.flatten_cons, List.flatten_cons]
    exact h.append (RepL.rep h n)
theorem RepL.get : ∀ {vs : List V} {ds : List D} {i : Nat} {d : D}, RepL Y μ H vs ds → ds[i]? = some d → ∃ v, vs[i]? = some v ∧ Rep Y μ H v d
  | _, _, _, _, .nil, e => by simp at e
  | _, _, 0, _, .cons h _, e => by simp at e; subst e; exact ⟨_, rfl, h⟩
  | _, _, i + 1, _, .cons _ t, e => by
    obtain ⟨v, h1, h2⟩ := t.get (i := i) (by simpa using e)
    exact ⟨v, by simpa using h1, h2⟩
theorem RepL.get' : ∀ {vs : List V} {ds : List D} {i : Nat} {v : V}, RepL Y μ H vs ds → vs[i]? = some v → ∃ d, ds[i]? = some d ∧ Rep Y μ H v d
  | _, _, _, _, .nil, e => by simp at e
  | _, _, 0, _, .cons h _, e => by simp at e; subst e; exact ⟨_, rfl, h⟩
  | _, _, i + 1, _, .cons _ t, e => by
    obtain ⟨v, h1, h2⟩ := t.get' (i := i) (by simpa using e)
    exact ⟨v, by simpa using h1, h2⟩
theorem RepL.take : ∀ {vs : List V} {ds : List D} (n : Nat), RepL Y μ H vs ds → RepL Y μ H (vs.take n) (ds.take n)
  | _, _, 0, _ => .nil
  | _, _, _ + 1, .nil => .nil
  | _, _, n + 1, .cons h t => .cons h (t.take n)
theorem RepL.drop : ∀ {vs : List V} {ds : List D} (n : Nat), RepL Y μ H vs ds → RepL Y μ H (vs.drop n) (ds.drop n)
  | _, _, 0, h => h
  | _, _, _ + 1, .nil => .nil
  | _, _, n + 1, .cons _ t => t.drop n
theorem RepL.set : ∀ {vs : List V} {ds : List D} {v : V} {d : D} (i : Nat), RepL Y μ H vs ds → Rep Y μ H v d → RepL Y μ H (vs.set i v) (ds.set i d)
  | _, _, _, _, _, .nil, _ => .nil
  | _, _, _, _, 0, .cons _ t, h => .cons h t
  | _, _, _, _, i + 1, .cons h t, q => .cons h (t.set i q)
theorem RepL.eraseIdx : ∀ {vs : List V} {ds : List D} (i : Nat), RepL Y μ H vs ds → RepL Y μ H (vs.eraseIdx i) (ds.eraseIdx i)
  | _, _, _, .nil => .nil
  | _, _, 0, .cons _ t => t
  | _, _, i + 1, .cons h t => .cons h (t.eraseIdx i)
theorem RepL.reverse : ∀ {vs : List V} {ds : List D}, RepL Y μ H vs ds → RepL Y μ H vs.reverse ds.reverse
  | _, _, .nil => .nil
  | _, _, .cons h t => by rw [List.reverse_cons, List.reverse_cons]; exact t.reverse.append (.cons h .nil)
theorem RepL.nil_iff {vs : List V} {ds : List D} (r : RepL Y μ H vs ds) : vs.isEmpty = ds.isEmpty := by cases r <;> rfl
variable {Bs : List Nat} {S : Store}
theorem CellOk.there {a : Addr} {c : Cell} (h : CellOk Y μ H a c) : ∃ o, H a = some o ∧ Mut (some o) := by
  cases h with
  | lst h _ => exact ⟨_, h, trivial⟩
  | dicK h _ => exact ⟨_, h, trivial⟩
  | dicT h _ => exact ⟨_, h, trivial⟩
  | ins h _ _ => exact ⟨_, h, trivial⟩
theorem World.there (w : World Y Bs μ H S) {a : Addr} (h : a ∈ μ) : ∃ o, H a = some o ∧ Mut (some o) := by
  obtain ⟨i, hi⟩ := List.getElem?_of_mem h
  have hl := (List.getElem?_eq_some_iff.mp hi).1
  rw [w.len] at hl
  exact (w.cells i a _ hi (List.getElem?_eq_getElem hl)).there
theorem World.out (w : World Y Bs μ H S) {p : Addr} (hp : H p = none) : p ∉ μ := fun m => by
  obtain ⟨o, h, _⟩ := w.there m
  rw [hp] at h; cases h
theorem World.fresh (w : World Y Bs μ H S) {p : Addr} (hp : H p = none) : Fr Y μ p := ⟨w.out hp, fun z => by
  obtain ⟨o, h⟩ := w.hidT p z
  rw [hp] at h; cases h⟩
theorem CellOk.move {a : Addr} {c : Cell} (e : Ext μ H μ' H') (u : Up Y H Y') (k : H' a = H a) (h : CellOk Y μ H a c) : CellOk Y' μ' H' a c := by
  cases h with
  | lst h r => exact .lst (k.trans h) (r.move e u)
  | dicK h r => exact .dicK (k.trans h) (r.move e u)
  | dicT h r => exact .dicT (k.trans h) (r.move e u)
  | ins h hn r => exact .ins (by rw [u.ca]; exact k.trans h) hn (r.move e u)
theorem CellOk.ext {a : Addr} {c : Cell} (e : Ext μ H μ' H') (k : H' a = H a) (h : CellOk Y μ H a c) : CellOk Y μ' H' a c := h.move e (.refl _ _) k
theorem World.same (w : World Y Bs μ H S) (s : ∀ a o, H a = some o → H' a = some o) : World Y Bs μ H' S :=
  ⟨w.len, w.nd, fun i a c h1 h2 => (w.cells i a c h1 h2).ext (.of_same s) (by
    obtain ⟨o, h, _⟩ := (w.cells i a c h1 h2).there
    rw [h]; exact s a o h), w.lims, w.bs, fun a z => let ⟨o, h⟩ := w.hidT a z; ⟨o, s a o h⟩, w.hidC⟩
theorem World.laid (w : World Y Bs μ H S) {p : Addr} {o : HO} (hp : H p = none) : World Y Bs μ (upd H p o) S :=
  w.same fun a u h => by rw [upd_ne (ne_of_none h hp)]; exact h
theorem ExcAt.move {C : String} {ns : List String} {ds : List D} {cls : Value} {dd : Option Addr} (e : Ext μ H μ' H') (u : Up Y H Y') (x : ExcAt Y μ H C ns ds cls dd) : ExcAt Y' μ' H' C ns ds cls dd :=
  ⟨by rw [u.ca]; exact x.cls_, by rw [u.ca]; exact x.cl, by rw [u.ca]; exact x.no, x.flds.imp id fun ⟨a, fs, e1, e2, f, e3, r⟩ => ⟨a, fs, e1, e.keep _ _ f.out e2, f.move e u e2, e3, r.move e u⟩⟩
theorem EnvOk.move {σ : L2.St} {ρ : Env} (e : Ext μ H μ' H') (u : Up Y H Y') (hx : Y'.exs = Y.exs) (h : EnvOk Y μ H σ ρ) : EnvOk Y' μ' H' σ ρ :=
  ⟨h.len, fun i d q => by
    obtain ⟨v, a, r⟩ := h.at_ i d q
    exact ⟨v, a, r.move e u⟩, fun z hz => by
    obtain ⟨a, x⟩ := h.ex z (hx ▸ hz)
    exact ⟨a, x.move e u⟩⟩
theorem EnvOk.ext {σ : L2.St} {ρ : Env} (e : Ext μ H μ' H') (h : EnvOk Y μ H σ ρ) : EnvOk Y μ' H' σ ρ := h.move e (.refl _ _) rfl
def Sx.free (Y : Sx) (i : Nat) : Prop := ∀ z, Y.exs = some z → z.slot ≠ i
theorem EnvOk.set {σ : L2.St} {ρ : Env} {v : V} {d : D} (h : EnvOk Y μ H σ ρ) (r : Rep Y μ H v d) (i : Nat) (hf : Y.free i) : EnvOk Y μ H (σ.set i (some v)) (ρ.set i (some d)) :=
  ⟨by simp [h.len], fun j e q => by
    by_cases hj : i = j
    · subst hj
      have hl : i < ρ.length := by
        have := (List.getElem?_eq_some_iff.mp q).1
        simpa using this
      rw [List.getElem?_set_self hl] at q
      simp only [Option.some.injEq] at q
      subst q
      exact ⟨v, List.getElem?_set_self (by rw [← h.len]; exact hl), r⟩
    · rw [List.getElem?_set_ne hj] at q
      obtain ⟨u, a, b⟩ := h.at_ j e q
      exact ⟨u, by rw [List.getElem?_set_ne hj]; exact a, b⟩, fun z hz => by
    obtain ⟨a, x⟩ := h.ex z hz
    exact ⟨by rw [List.getElem?_set_ne (Ne.symm (hf z hz))]; exact a, x⟩⟩
theorem EnvOk.drop {σ : L2.St} {ρ : Env} {x : Option V} (h : EnvOk Y μ H σ ρ) (i : Nat) (hf : Y.free i) : EnvOk Y μ H (σ.set i x) (ρ.set i none) :=
  ⟨by simp [h.len], fun j e q => by
    by_cases hj : i = j
    · subst hj
      have hl : i < ρ.length := by
        have := (List.getElem?_eq_some_iff.mp q).1
        simpa using this
      rw [List.getElem?_set_self hl] at q
      cases q
    · rw [List.getElem?_set_ne hj] at q
      obtain ⟨u, a, b⟩ := h.at_ j e q
      exact ⟨u, by rw [List.getElem?_set_ne hj]; exact a, b⟩, fun z hz => by
    obtain ⟨a, x⟩ := h.ex z hz
    exact ⟨by rw [List.getElem?_set_ne (Ne.symm (hf z hz))]; exact a, x⟩⟩
theorem D.limL_all (n : Nat) : ∀ ds : List D, D.limL n ds = ds.all (D.lim n)
  | [] => rfl
  | d :: ds => by rw [D.limL, D.limL_all n ds]; rfl
mutual
theorem D.lim_mono {m n : Nat} (h : m ≤ n) : ∀ d : D, d.lim m = true → d.lim n = true
  | .non, _ => rfl
  | .bl _, _ => rfl
  | .int _, _ => rfl
  | .str _, _ => rfl
  | .scr _, _ => rfl
  | .tup ds, q => by rw [D.lim] at *; exact D.limL_mono h ds q
  | .lst ds, q => by rw [D.lim] at *; exact D.limL_mono h ds q
  | .way ds, q => by rw [D.lim] at *; exact D.limL_mono h ds q
  | .dic _ ks vs, q => by
    rw [D.lim, Bool.and_eq_true] at *
    exact ⟨D.limL_mono h ks q.1, D.limL_mono h vs q.2⟩
  | .ins _ _ ds, q => by rw [D.lim] at *; exact D.limL_mono h ds q
  | .exn _ _ ds, q => by rw [D.lim] at *; exact D.limL_mono h ds q
  | .ref i, q => by
    rw [D.lim, decide_eq_true_eq] at *
    omega
theorem D.limL_mono {m n : Nat} (h : m ≤ n) : ∀ ds : List D, D.limL m ds = true → D.limL n ds = true
  | [], _ => rfl
  | d :: ds, q => by
    rw [D.limL, Bool.and_eq_true] at *
    exact ⟨D.lim_mono h d q.1, D.limL_mono h ds q.2⟩
end
theorem keys_lim (n : Nat) (kvs : List (Key × V)) : D.limL n (kvs.map fun p => kD p.1) = true := by
  rw [D.limL_all, List.all_map, List.all_eq_true]
  intro p _
  show (kD p.1).lim n = true
  cases p.1 <;> rfl
theorem keysT_lim (n : Nat) (kvs : List (List Key × V)) : D.limL n (kvs.map fun p => kDT p.1) = true := by
  rw [D.limL_all, List.all_map, List.all_eq_true]
  intro p _
  show (D.tup (p.1.map kD)).lim n = true
  rw [D.lim, D.limL_all, List.all_map, List.all_eq_true]
  intro k _
  show (kD k).lim n = true
  cases k <;> rfl
mutual
theorem Rep.lim : ∀ {v : V} {d : D}, Rep Y μ H v d → d.lim μ.length = true
  | _, _, .non => rfl
  | _, _, .bl _ => rfl
  | _, _, .int _ => rfl
  | _, _, .str _ => rfl
  | _, _, .tup _ _ r => by rw [D.lim]; exact r.lim
  | _, _, .lst _ _ r => by rw [D.lim]; exact r.lim
  | _, _, .dicK _ _ r => by rw [D.lim, Bool.and_eq_true]; exact ⟨keys_lim _ _, r.lim⟩
  | _, _, .dicT _ _ r => by rw [D.lim, Bool.and_eq_true]; exact ⟨keysT_lim _ _, r.lim⟩
  | _, _, .ins _ _ _ r => by rw [D.lim]; exact r.lim
  | _, _, .scr _ => rfl
  | _, _, .way _ _ _ r => by rw [D.lim]; exact r.lim
  | _, _, .ref h => by rw [D.lim, decide_eq_true_eq]; exact (List.getElem?_eq_some_iff.mp h).1
theorem RepL.lim : ∀ {vs : List V} {ds : List D}, RepL Y μ H vs ds → D.limL μ.length ds = true
  | _, _, .nil => rfl
  | _, _, .cons h t => by rw [D.limL, Bool.and_eq_true]; exact ⟨h.lim, t.lim⟩
end
theorem CellOk.lim {a : Addr} {c : Cell} (h : CellOk Y μ H a c) : c.lim μ.length = true := by
  cases h with
  | lst _ r => exact r.lim
  | dicK _ r => rw [Cell.lim, Bool.and_eq_true]; exact ⟨keys_lim _ _, r.lim⟩
  | dicT _ r => rw [Cell.lim, Bool.and_eq_true]; exact ⟨keysT_lim _ _, r.lim⟩
  | ins _ _ r => exact r.lim
theorem Fr.cut {n : Nat} {a : Addr} (m : Fr Y μ a) : Fr Y (μ.take n) a := ⟨fun z => m.out (List.mem_of_mem_take z), m.vis⟩
mutual
theorem Rep.cut {n : Nat} : ∀ {v : V} {d : D}, Rep Y μ H v d → d.lim n = true → Rep Y (μ.take n) H v d
  | _, _, .non, _ => .non
  | _, _, .bl b, _ => .bl b
  | _, _, .int i, _ => .int i
  | _, _, .str l, _ => .str l
  | _, _, .tup h m r, q => .tup h (m.cut) (r.cut (by rw [D.lim] at q; exact q))
  | _, _, .lst h m r, q => .lst h (m.cut) (r.cut (by rw [D.lim] at q; exact q))
  | _, _, .dicK h m r, q => .dicK h (m.cut) (r.cut (by rw [D.lim, Bool.and_eq_true] at q; exact q.2))
  | _, _, .dicT h m r, q => .dicT h (m.cut) (r.cut (by rw [D.lim, Bool.and_eq_true] at q; exact q.2))
  | _, _, .ins h m hn r, q => .ins h (m.cut) hn (r.cut (by rw [D.lim] at q; exact q))
  | _, _, .scr h, _ => .scr (h.imp (fun ⟨o, h, n⟩ => ⟨o, h, n.cut⟩) id)
  | _, _, .way h ho m r, q => .way h ho (m.cut) (r.cut (by rw [D.lim] at q; exact q))
  | _, _, .ref h, q => .ref (by rw [D.lim, decide_eq_true_eq] at q; rw [List.getElem?_take_of_lt q]; exact h)
theorem RepL.cut {n : Nat} : ∀ {vs : List V} {ds : List D}, RepL Y μ H vs ds → D.limL n ds = true → RepL Y (μ.take n) H vs ds
  | _, _, .nil, _ => .nil
  | _, _, .cons h t, q => by
    rw [D.limL, Bool.and_eq_true] at q
    exact .cons (h.cut q.1) (t.cut q.2)
end
theorem CellOk.cut {n : Nat} {a : Addr} {c : Cell} (h : CellOk Y μ H a c) (q : c.lim n = true) : CellOk Y (μ.take n) H a c := by
  cases h with
  | lst h r => exact .lst h (r.cut q)
  | dicK h r => rw [Cell.lim, Bool.and_eq_true] at q; exact .dicK h (r.cut q.2)
  | dicT h r => rw [Cell.lim, Bool.and_eq_true] at q; exact .dicT h (r.cut q.2)
  | ins h hn r => exact .ins h hn (r.cut q)
theorem World.grow {p : Addr} {o : HO} {c : Cell} (w : World Y Bs μ H S) (hp : H p = none) (new : CellOk Y (μ ++ [p]) (upd H p o) p c) (hb : ∀ b ∈ Bs, b ≤ S.length) : World Y Bs (μ ++ [p]) (upd H p o) (S ++ [c]) where
  len := by simp [w.len]
  nd := by
    rw [List.nodup_append]
    refine ⟨w.nd, by simp, fun a ha b hb' => ?_⟩
    have : b = p := by simpa using hb'
    rintro rfl
    exact w.out hp (this ▸ ha)
  cells := fun i a d h1 h2 => by
    have e : Ext μ H (μ ++ [p]) (upd H p o) := .cell hp
    by_cases hi : i < S.length
    · rw [List.getElem?_append_left hi] at h2
      rw [List.getElem?_append_left (by rw [w.len]; exact hi)] at h1
      refine (w.cells i a d h1 h2).ext e ?_
      have hm : a ∈ μ := List.mem_of_getElem? h1
      exact upd_ne fun q => w.out hp (q ▸ hm)
    · have hl := (List.getElem?_eq_some_iff.mp h2).1
      have e1 : i = S.length := by simp at hl; omega
      subst e1
      rw [List.getElem?_append_right (Nat.le_refl _)] at h2
      rw [List.getElem?_append_right (by rw [w.len]; exact Nat.le_refl _)] at h1
      simp [w.len] at h1 h2
      subst h1; subst h2
      exact new
  lims := fun i d h b hb' hlt => by
    have := hb b hb'
    rw [List.getElem?_append_left (by omega)] at h
    exact w.lims i d h b hb' hlt
  bs := fun b h => by have := w.bs b h; simp; omega
  hidT := fun a z => by
    obtain ⟨o', h⟩ := w.hidT a z
    exact ⟨o', by rw [upd_ne (ne_of_none h hp)]; exact h⟩
  hidC := fun a ha z => by
    rcases List.mem_append.mp ha with q | q
    · exact w.hidC a q z
    · have : a = p := by simpa using q
      subst this
      exact (w.fresh hp).vis z
theorem World.wrote {i : Nat} {x : Addr} {o : HO} {c : Cell} (w : World Y Bs μ H S) (hx : μ[i]? = some x) (new : CellOk Y μ (upd H x o) x c) (hl : ∀ b ∈ Bs, i < b → c.lim b = true) : World Y Bs μ (upd H x o) (S.set i c) where
  len := by simp [w.len]
  nd := w.nd
  cells := fun j a d h1 h2 => by
    by_cases hj : i = j
    · subst hj
      have hlt : i < S.length := by
        have := (List.getElem?_eq_some_iff.mp h2).1
        simpa using this
      rw [List.getElem?_set_self hlt] at h2
      rw [hx] at h1
      simp only [Option.some.injEq] at h1 h2
      subst h1; subst h2
      exact new
    · rw [List.getElem?_set_ne hj] at h2
      refine (w.cells j a d h1 h2).ext (.wrote (List.mem_of_getElem? hx)) (upd_ne ?_)
      rintro rfl
      exact hj (by
        obtain ⟨l1, e1⟩ := List.getElem?_eq_some_iff.mp hx
        obtain ⟨l2, e2⟩ := List.getElem?_eq_some_iff.mp h1
        exact (List.getElem_inj w.nd).mp (e1.trans e2.symm))
  lims := fun j d h b hb hlt => by
    by_cases hj : i = j
    · subst hj
      have hlt' : i < S.length := by
        have := (List.getElem?_eq_some_iff.mp h).1
        simpa using this
      rw [List.getElem?_set_self hlt'] at h
      simp only [Option.some.injEq] at h
      subst h
      exact hl b hb hlt
    · rw [List.getElem?_set_ne hj] at h
      exact w.lims j d h b hb hlt
  bs := fun b h => by rw [List.length_set]; exact w.bs b h
  hidT := fun a z => by
    obtain ⟨o', h⟩ := w.hidT a z
    by_cases e : a = x
    · subst e; exact ⟨o, upd_same⟩
    · exact ⟨o', by rw [upd_ne e]; exact h⟩
  hidC := w.hidC
theorem World.cut {n : Nat} (w : World Y (n :: Bs) μ H S) (hn : ∀ b ∈ Bs, b ≤ n) : World Y Bs (μ.take n) H (S.take n) where
  len := by simp [w.len]
  nd := w.nd.sublist (List.take_sublist _ _)
  cells := fun i a c h1 h2 => by
    have hi : i < n := by
      have := (List.getElem?_eq_some_iff.mp h2).1
      simp at this; omega
    rw [List.getElem?_take_of_lt hi] at h1 h2
    exact (w.cells i a c h1 h2).cut (w.lims i c h2 n List.mem_cons_self hi)
  lims := fun i c h b hb hlt => by
    have hi : i < n := by
      have := (List.getElem?_eq_some_iff.mp h).1
      simp at this; omega
    rw [List.getElem?_take_of_lt hi] at h
    exact w.lims i c h b (List.mem_cons_of_mem _ hb) hlt
  bs := fun b h => by
    have h1 := hn b h
    have h2 := w.bs n List.mem_cons_self
    simp; omega
  hidT := w.hidT
  hidC := fun a ha => w.hidC a (List.mem_of_mem_take ha)
theorem World.mark (w : World Y Bs μ H S) : World Y (S.length :: Bs) μ H S :=
  ⟨w.len, w.nd, w.cells, fun i c h b hb hlt => by
    rcases List.mem_cons.mp hb with e | hb
    · subst e
      have hi : i < μ.length := by rw [w.len]; exact hlt
      have := (w.cells i μ[i] c (List.getElem?_eq_getElem hi) h).lim
      rw [w.len] at this
      exact this
    · exact w.lims i c h b hb hlt, fun b h => by
    rcases List.mem_cons.mp h with e | h
    · rw [e]; exact Nat.le_refl _
    · exact w.bs b h, w.hidT, w.hidC⟩
def Sx.hide (Y : Sx) (p : Addr) : Sx := ⟨Y.ca, fun a => Y.hid a ∨ a = p, Y.exs⟩
theorem Up.hide {p : Addr} (hp : H p = none) : Up Y H (Y.hide p) := ⟨rfl, fun a h => h.imp id fun e => by rw [e]; exact hp⟩
theorem World.hide {p : Addr} {o : HO} (w : World Y Bs μ H S) (hp : H p = none) : World (Y.hide p) Bs μ (upd H p o) S :=
  ⟨w.len, w.nd, fun i a c h1 h2 => (w.cells i a c h1 h2).move (.laid hp) (.hide hp) (by
    obtain ⟨o, h, _⟩ := (w.cells i a c h1 h2).there
    exact upd_ne (ne_of_none h hp)), w.lims, w.bs, fun a z => by
    by_cases e : a = p
    · subst e; exact ⟨o, upd_same⟩
    · obtain ⟨o', h⟩ := w.hidT a (z.resolve_right e)
      exact ⟨o', by rw [upd_ne e]; exact h⟩, fun a ha z => z.elim (w.hidC a ha) fun e => w.out hp (e ▸ ha)⟩
theorem Fr.stay {p a : Addr} {o u : HO} (hp : Y.hid p) (n : Fr Y μ a) (h : H a = some u) : upd H p o a = some u := by
  have ne : a ≠ p := by
    rintro rfl
    exact n.vis hp
  rw [upd_ne ne]; exact h
mutual
theorem Rep.hid {p : Addr} {o : HO} (hp : Y.hid p) : ∀ {v : V} {d : D}, Rep Y μ H v d → Rep Y μ (upd H p o) v d
  | _, _, .non => .non
  | _, _, .bl b => .bl b
  | _, _, .int i => .int i
  | _, _, .str l => .str l
  | _, _, .tup h n r => .tup (n.stay hp h) n (r.hid hp)
  | _, _, .lst h n r => .lst (n.stay hp h) n (r.hid hp)
  | _, _, .scr h => .scr (h.imp (fun ⟨o, h, n⟩ => ⟨o, n.stay hp h, n⟩) id)
  | _, _, .way h ho n r => .way (n.stay hp h) ho n (r.hid hp)
  | _, _, .dicK h n r => .dicK (n.stay hp h) n (r.hid hp)
  | _, _, .dicT h n r => .dicT (n.stay hp h) n (r.hid hp)
  | _, _, .ins h n hn r => .ins (n.stay hp h) n hn (r.hid hp)
  | _, _, .ref h => .ref h
theorem RepL.hid {p : Addr} {o : HO} (hp : Y.hid p) : ∀ {vs : List V} {ds : List D}, RepL Y μ H vs ds → RepL Y μ (upd H p o) vs ds
  | _, _, .nil => .nil
  | _, _, .cons h t => .cons (h.hid hp) (t.hid hp)
end
theorem World.hid {p : Addr} {o : HO} (w : World Y Bs μ H S) (hp : Y.hid p) : World Y Bs μ (upd H p o) S :=
  ⟨w.len, w.nd, fun i a c h1 h2 => by
    have ne : a ≠ p := fun e => w.hidC a (List.mem_of_getElem? h1) (e ▸ hp)
    cases w.cells i a c h1 h2 with
    | lst h r => exact .lst (by rw [upd_ne ne]; exact h) (r.hid hp)
    | dicK h r => exact .dicK (by rw [upd_ne ne]; exact h) (r.hid hp)
    | dicT h r => exact .dicT (by rw [upd_ne ne]; exact h) (r.hid hp)
    | ins h hn r => exact .ins (by rw [upd_ne ne]; exact h) hn (r.hid hp), w.lims, w.bs, fun a z => by
    by_cases e : a = p
    · subst e; exact ⟨o, upd_same⟩
    · obtain ⟨o', h⟩ := w.hidT a z
      exact ⟨o', by rw [upd_ne e]; exact h⟩, w.hidC⟩
theorem EnvOk.hid {p : Addr} {o : HO} {σ : L2.St} {ρ : Env} (hp : Y.hid p) (h : EnvOk Y μ H σ ρ) : EnvOk Y μ (upd H p o) σ ρ :=
  ⟨h.len, fun i d q => by
    obtain ⟨v, a, r⟩ := h.at_ i d q
    exact ⟨v, a, r.hid hp⟩, fun z hz => by
    obtain ⟨a, x⟩ := h.ex z hz
    exact ⟨a, x.cls_, x.cl, x.no, x.flds.imp id fun ⟨a, fs, e1, e2, f, e3, r⟩ => ⟨a, fs, e1, f.stay hp e2, f, e3, r.hid hp⟩⟩⟩
theorem Up.other {Y Y' : Sx} {H : Hp} (h1 : Y'.ca = Y.ca) (h2 : Y'.hid = Y.hid) : Up Y H Y' := ⟨h1, fun a z => .inl (h2 ▸ z)⟩
theorem World.other {Y' : Sx} (h1 : Y'.ca = Y.ca) (h2 : Y'.hid = Y.hid) (w : World Y Bs μ H S) : World Y' Bs μ H S :=
  ⟨w.len, w.nd, fun i a c e1 e2 => (w.cells i a c e1 e2).move (.refl _ _) (.other h1 h2) rfl, w.lims, w.bs, fun a z => w.hidT a (h2 ▸ z), fun a ha z => w.hidC a ha (h2 ▸ z)⟩
theorem Fr.show {p : Addr} {q : List Addr} (hq : ∀ a ∈ q, a = p) {a : Addr} (n : Fr (Y.hide p) μ a) : Fr Y (μ ++ q) a :=
  ⟨fun m => (List.mem_append.mp m).elim n.out fun m => n.vis (.inr (hq a m)), fun z => n.vis (.inl z)⟩
mutual
theorem Rep.show {p : Addr} {q : List Addr} (hq : ∀ a ∈ q, a = p) : ∀ {v : V} {d : D}, Rep (Y.hide p) μ H v d → Rep Y (μ ++ q) H v d
  | _, _, .non => .non
  | _, _, .bl b => .bl b
  | _, _, .int i => .int i
  | _, _, .str l => .str l
  | _, _, .tup h n r => .tup h (n.show hq) (r.show hq)
  | _, _, .lst h n r => .lst h (n.show hq) (r.show hq)
  | _, _, .scr h => .scr (h.imp (fun ⟨o, h, n⟩ => ⟨o, h, n.show hq⟩) id)
  | _, _, .way h ho n r => .way h ho (n.show hq) (r.show hq)
  | _, _, .dicK h n r => .dicK h (n.show hq) (r.show hq)
  | _, _, .dicT h n r => .dicT h (n.show hq) (r.show hq)
  | _, _, .ins h n hn r => .ins h (n.show hq) hn (r.show hq)
  | _, _, .ref h => .ref (by
    have hl := (List.getElem?_eq_some_iff.mp h).1
    rw [List.getElem?_append_left hl]; exact h)
theorem RepL.show {p : Addr} {q : List Addr} (hq : ∀ a ∈ q, a = p) : ∀ {vs : List V} {ds : List D}, RepL (Y.hide p) μ H vs ds → RepL Y (μ ++ q) H vs ds
  | _, _, .nil => .nil
  | _, _, .cons h t => .cons (h.show hq) (t.show hq)
end
end
end CL
namespace CL
open PySem PySem.Spec PyProof.Rows L2
section
variable {Y : Sx} {Bs : List Nat} {α β : Type}
def KR (Y : Sx) (Bs : List Nat) (rel : List Addr → Hp → β → α → Prop) (μ : List Addr) (H : Hp) (σ : L2.St) (Q : β → Hp → Prop) (W : WX) : R α → Prop
  | .ok a S' => ∀ (μ' : List Addr) (H' : Hp) (b : β), Ext μ H μ' H' → World Y Bs μ' H' S' → rel μ' H' b a → Q b H'
  | .err C ns ds S' => ∀ (μ' : List Addr) (H' : Hp) (cls : Value) (dd : Option Addr), Ext μ H μ' H' → World Y Bs μ' H' S' → ExcAt Y μ' H' C ns ds cls dd → W cls dd σ H'
  | .bad => False
variable {rel : List Addr → Hp → β → α → Prop} {μ μ' : List Addr} {H H' : Hp} {σ : L2.St} {Q : β → Hp → Prop} {W : WX} {r : R α} {S : Store} {ρ : Env}
theorem KR.mono (e : Ext μ H μ' H') (h : KR Y Bs rel μ H σ Q W r) : KR Y Bs rel μ' H' σ Q W r := by
  cases r with
  | ok a S' => exact fun μ2 H2 b e2 w2 r2 => h μ2 H2 b (e.trans e2) w2 r2
  | err C ns ds S' => exact fun μ2 H2 c d e2 w2 r2 => h μ2 H2 c d (e.trans e2) w2 r2
  | bad => exact h
def tX (Y : Sx) (Bs : List Nat) (rel : List Addr → Hp → β → α → Prop) (W : WX) (m : Env → Store → R α) : L2.St → Hp → (β → Hp → Prop) → Prop := fun σ H Q =>
  ∃ (μ : List Addr) (ρ : Env) (S : Store), World Y Bs μ H S ∧ EnvOk Y μ H σ ρ ∧ KR Y Bs rel μ H σ Q W (m ρ S)
end
abbrev tI (Y : Sx) (Bs : List Nat) (W : WX) (m : Env → Store → R D) : TE := tX Y Bs (Rep Y) W m
abbrev tA (Y : Sx) (Bs : List Nat) (W : WX) (m : Env → Store → R (List D)) : TA := tX Y Bs (RepL Y) W m
abbrev tT (Y : Sx) (Bs : List Nat) (W : WX) (m : Env → Store → R Bool) : TT := tX Y Bs (fun _ _ (b : Bool) a => b = a) W m
section
variable {Y : Sx} {Bs : List Nat} {α β γ δ : Type} {rel : List Addr → Hp → β → α → Prop} {rel' : List Addr → Hp → δ → γ → Prop} {W : WX}
variable {μ : List Addr} {H : Hp} {σ : L2.St} {ρ : Env} {S : Store} {Q : β → Hp → Prop} {Q' : δ → Hp → Prop}
theorem tX.bind {m : Env → Store → R α} {f : α → Store → R γ} (w : World Y Bs μ H S) (en : EnvOk Y μ H σ ρ) (h : KR Y Bs rel' μ H σ Q' W ((m ρ S).bind f))
    (go : ∀ a S1 μ1 H1 b, World Y Bs μ1 H1 S1 → EnvOk Y μ1 H1 σ ρ → Ext μ H μ1 H1 → rel μ1 H1 b a → KR Y Bs rel' μ1 H1 σ Q' W (f a S1) → Q b H1) : tX Y Bs rel W m σ H Q := by
  refine ⟨μ, ρ, S, w, en, ?_⟩
  cases e : m ρ S with
  | ok a S1 =>
    rw [e] at h
    exact fun μ1 H1 b x w1 r => go a S1 μ1 H1 b w1 (en.ext x) x r (KR.mono x h)
  | err C ns ds S1 =>
    rw [e] at h
    exact h
  | bad =>
    rw [e] at h
    exact h
theorem KR.of {o : Option α} (h : KR Y Bs rel μ H σ Q W (R.of S o)) : ∃ a, o = some a ∧ KR Y Bs rel μ H σ Q W (.ok a S) := by
  cases o with
  | none => exact h.elim
  | some a => exact ⟨a, rfl, h⟩
end
theorem _root_.L2.PE.imp {X : Cx} {e : Expr} {t t' : TE} (h : PE X e t) (i : ∀ σ H Q, t' σ H Q → t σ H Q) : PE X e t' := ⟨fun pins s σ H Q I q => h.run pins s σ H Q I (i σ H Q q)⟩
theorem _root_.L2.PT.imp {X : Cx} {e : Expr} {t t' : TT} (h : PT X e t) (i : ∀ σ H Q, t' σ H Q → t σ H Q) : PT X e t' := ⟨fun pins s σ H Q I q => h.run pins s σ H Q I (i σ H Q q)⟩
theorem _root_.L2.PW.imp {X : Cx} {e : Expr} {t t' : TT} (h : PW X e t) (i : ∀ σ H Q, t' σ H Q → t σ H Q) : PW X e t' := ⟨fun wh pins s σ H Q I q => h.run wh pins s σ H Q I (i σ H Q q)⟩
theorem _root_.L2.PA.imp {X : Cx} {es : List Expr} {t t' : TA} (h : PA X es t) (i : ∀ σ H Q, t' σ H Q → t σ H Q) : PA X es t' := ⟨fun pos pins s σ H Q I q => h.run pos pins s σ H Q I (i σ H Q q)⟩
theorem _root_.L2.PS.imp {X : Cx} {e : Stmt} {t t' : TS} (h : PS X e t) (i : ∀ D σ H, t' D σ H → t D σ H) : PS X e t' := ⟨fun pins s σ H D I q => h.run pins s σ H D I (i D σ H q)⟩
theorem _root_.L2.PSs.imp {X : Cx} {e : List Stmt} {t t' : TS} (h : PSs X e t) (i : ∀ D σ H, t' D σ H → t D σ H) : PSs X e t' := ⟨fun pins s σ H D I q => h.run pins s σ H D I (i D σ H q)⟩
section
variable (Y : Sx) (μ : List Addr) (H : Hp)
inductive View : V → D → Prop
  | non : View .non .non
  | bl (b : Bool) : View (.bl b) (.bl b)
  | int (i : Int) : View (.int i) (.int i)
  | str (l : List Nat) : View (.str ⟨l.toArray⟩) (.str l)
  | tup {a : Addr} {xs : List V} {ds : List D} (h : H a = some (.tup xs)) (n : Fr Y μ a) (r : RepL Y μ H xs ds) : View (.ref a) (.tup ds)
  | lst {a : Addr} {xs : List V} {ds : List D} (h : H a = some (.lst xs)) (r : RepL Y μ H xs ds) : View (.ref a) (.lst ds)
  | dicK {a : Addr} {kvs : List (Key × V)} {vs : List D} (h : H a = some (.dK kvs)) (r : RepL Y μ H (kvs.map (·.2)) vs) : View (.ref a) (.dic false (kvs.map fun p => kD p.1) vs)
  | dicT {a : Addr} {kvs : List (List Key × V)} {vs : List D} (h : H a = some (.dT kvs)) (r : RepL Y μ H (kvs.map (·.2)) vs) : View (.ref a) (.dic true (kvs.map fun p => kDT p.1) vs)
  | ins {a dx : Addr} {fs : List (Str × V)} {C : String} {ns : List String} {ds : List D} (h : H a = some (.ins (Y.ca C) dx fs)) (hn : fs.map (·.1) = ns.map nm) (r : RepL Y μ H (fs.map (·.2)) ds) : View (.ref a) (.ins C ns ds)
  | scr {a : Addr} {ns : List Int} (h : (∃ o, H a = some (.frz o (.lst (ns.map V.int)))) ∨ Y.ca.kl a ns) : View (.ref a) (.scr ns)
  | way {a : Addr} {o : Obj} {xs : List V} {ds : List D} (h : H a = some (.frz o (.tup xs))) (ho : o.dict = none) (n : Fr Y μ a) (r : RepL Y μ H xs ds) : View (.ref a) (.way ds)
  | ref {v : V} {i : Nat} : View v (.ref i)
end
section
variable {Y : Sx} {Bs : List Nat} {μ : List Addr} {H : Hp} {S : Store} {v : V} {d : D}
theorem view_of (w : World Y Bs μ H S) (r : Rep Y μ H v d) : View Y μ H v (vw S d) := by
  cases r with
  | non => exact .non
  | bl b => exact .bl b
  | int i => exact .int i
  | str l => exact .str l
  | tup h n r => exact .tup h n r
  | lst h _ r => exact .lst h r
  | dicK h _ r => exact .dicK h r
  | dicT h _ r => exact .dicT h r
  | ins h _ hn r => exact .ins h hn r
  | scr h => exact .scr (h.imp (fun ⟨o, h, _⟩ => ⟨o, h⟩) id)
  | way h ho n r => exact .way h ho n r
  | @ref a i h =>
    have hl : i < S.length := by rw [← w.len]; exact (List.getElem?_eq_some_iff.mp h).1
    obtain ⟨c, hc⟩ : ∃ c, S[i]? = some c := ⟨_, List.getElem?_eq_getElem hl⟩
    have q := w.cells i a c h hc
    unfold vw
    simp only [hc]
    cases q with
    | lst h r => exact .lst h r
    | dicK h r => exact .dicK h r
    | dicT h r => exact .dicT h r
    | ins h _ _ => exact .ref
end
section
variable {Y : Sx} {μ : List Addr} {H : Hp} {K : PySem.W.Frag}
mutual
theorem Rep.dp : ∀ {v : V} {d : D} {p : PyData}, Rep Y μ H v d → d.pd = some p → Dp K H v p
  | _, _, _, .non, e => by simp only [D.pd, Option.some.injEq] at e; subst e; exact .non
  | _, _, _, .bl b, e => by simp only [D.pd, Option.some.injEq] at e; subst e; exact .bl b
  | _, _, _, .int i, e => by simp only [D.pd, Option.some.injEq] at e; subst e; exact .int i
  | _, _, _, .str l, e => by simp only [D.pd, Option.some.injEq] at e; subst e; exact .str _
  | _, _, _, .tup h _ r, e => by
    simp only [D.pd, Option.map_eq_some_iff] at e
    obtain ⟨ps, e1, rfl⟩ := e
    exact .tup (.of h) (r.dp e1)
  | _, _, _, .lst h _ r, e => by
    simp only [D.pd, Option.map_eq_some_iff] at e
    obtain ⟨ps, e1, rfl⟩ := e
    exact .lst (.of h) (r.dp e1)
  | _, _, _, .dicK _ _ _, e => by simp [D.pd] at e
  | _, _, _, .dicT _ _ _, e => by simp [D.pd] at e
  | _, _, _, .ins _ _ _ _, e => by simp [D.pd] at e
  | _, _, _, .scr _, e => by simp [D.pd] at e
  | _, _, _, .way h _ _ r, e => by
    simp only [D.pd, Option.map_eq_some_iff] at e
    obtain ⟨ps, e1, rfl⟩ := e
    exact .tup (.inl (.inr ⟨_, h⟩)) (r.dp e1)
  | _, _, _, .ref _, e => by simp [D.pd] at e
theorem RepL.dp : ∀ {vs : List V} {ds : List D} {ps : List PyData}, RepL Y μ H vs ds → D.pdL ds = some ps → DpAll K H vs ps
  | _, _, _, .nil, e => by simp only [D.pdL, Option.some.injEq] at e; subst e; exact .nil
  | _, _, _, .cons (d := d) (ds := ds) h t, e => by
    simp only [D.pdL] at e
    cases e1 : d.pd with
    | none => rw [e1] at e; simp at e
    | some x =>
      cases e2 : D.pdL ds with
      | none => rw [e1, e2] at e; simp at e
      | some xs =>
        rw [e1, e2] at e
        simp only [Option.some.injEq] at e
        subst e
        exact .cons (h.dp e1) (t.dp e2)
end
theorem View.dp {v : V} {d : D} {p : PyData} (h : View Y μ H v d) (e : d.pd = some p) : Dp K H v p := by
  cases h with
  | non => simp only [D.pd, Option.some.injEq] at e; subst e; exact .non
  | bl b => simp only [D.pd, Option.some.injEq] at e; subst e; exact .bl b
  | int i => simp only [D.pd, Option.some.injEq] at e; subst e; exact .int i
  | str l => simp only [D.pd, Option.some.injEq] at e; subst e; exact .str _
  | tup h _ r =>
    simp only [D.pd, Option.map_eq_some_iff] at e
    obtain ⟨ps, e1, rfl⟩ := e
    exact .tup (.of h) (r.dp e1)
  | lst h r =>
    simp only [D.pd, Option.map_eq_some_iff] at e
    obtain ⟨ps, e1, rfl⟩ := e
    exact .lst (.of h) (r.dp e1)
  | dicK _ _ => simp [D.pd] at e
  | dicT _ _ => simp [D.pd] at e
  | ins _ _ _ => simp [D.pd] at e
  | scr _ => simp [D.pd] at e
  | way h _ _ r =>
    simp only [D.pd, Option.map_eq_some_iff] at e
    obtain ⟨ps, e1, rfl⟩ := e
    exact .tup (.inl (.inr ⟨_, h⟩)) (r.dp e1)
  | ref => simp [D.pd] at e
end
mutual
theorem dat_pd : ∀ (n : Nat) (d : D), d.dat n = true → ∃ p, d.pd = some p ∧ p.plain = true ∧ p.depth ≤ n + 1
  | n, .non, _ => ⟨_, rfl, rfl, by simp [PyData.depth]⟩
  | n, .bl b, _ => ⟨_, rfl, rfl, by simp [PyData.depth]⟩
  | n, .int i, _ => ⟨_, rfl, rfl, by simp [PyData.depth]⟩
  | n, .str l, _ => ⟨_, rfl, rfl, by simp [PyData.depth]⟩
  | n, .tup ds, h => by
    simp only [D.dat] at h
    obtain ⟨ps, e, pl, dh⟩ := datL_pd n ds h
    exact ⟨.tuple ps, by simp [D.pd, e], by simp only [PyData.plain]; exact pl, by simp only [PyData.depth]; omega⟩
  | n, .lst ds, h => by
    simp only [D.dat] at h
    obtain ⟨ps, e, pl, dh⟩ := datL_pd n ds h
    exact ⟨.list ps, by simp [D.pd, e], by simp only [PyData.plain]; exact pl, by simp only [PyData.depth]; omega⟩
  | n, .way ds, h => by
    simp only [D.dat] at h
    obtain ⟨ps, e, pl, dh⟩ := datL_pd n ds h
    exact ⟨.tuple ps, by simp [D.pd, e], by simp only [PyData.plain]; exact pl, by simp only [PyData.depth]; omega⟩
  | n, .dic _ _ _, h => by simp [D.dat] at h
  | n, .ins _ _ _, h => by simp [D.dat] at h
  | n, .exn _ _ _, h => by simp [D.dat] at h
  | n, .ref _, h => by simp [D.dat] at h
  | n, .scr _, h => by simp [D.dat] at h
theorem datL_pd : ∀ (n : Nat) (ds : List D), D.datL n ds = true → ∃ ps, D.pdL ds = some ps ∧ PyData.plainAll ps = true ∧ PyData.depthAll ps ≤ n
  | n, [], _ => ⟨[], rfl, rfl, by simp [PyData.depthAll]⟩
  | n, d :: ds, h => by
    simp only [D.datL, Bool.and_eq_true, decide_eq_true_eq] at h
    obtain ⟨hn, h1, h2⟩ := h
    obtain ⟨p, e1, pl1, d1⟩ := dat_pd (n - 1) d h1
    obtain ⟨ps, e2, pl2, d2⟩ := datL_pd n ds h2
    exact ⟨p :: ps, by simp [D.pdL, e1, e2], by simp [PyData.plainAll, pl1, pl2], by simp only [PyData.depthAll]; omega⟩
end
theorem str_beq (x y : List Nat) : ((⟨x.toArray⟩ : Str) == ⟨y.toArray⟩) = (x == y) := by
  rw [Bool.eq_iff_iff]
  simp
mutual
theorem eqv_pd : ∀ (a b : D) (p q : PyData), a.pd = some p → b.pd = some q → PyData.eqv p q = D.eqv a b
  | .non, b, p, q, h1, h2 => by
    simp only [D.pd, Option.some.injEq] at h1; subst h1
    cases b <;> simp [D.pd] at h2 <;> first
      | (subst h2; simp [PyData.eqv, D.eqv])
      | (obtain ⟨_, _, rfl⟩ := h2; simp [PyData.eqv, D.eqv])
  | .bl x, b, p, q, h1, h2 => by
    simp only [D.pd, Option.some.injEq] at h1; subst h1
    cases b <;> simp [D.pd] at h2 <;> first
      | (subst h2; simp [PyData.eqv, D.eqv])
      | (obtain ⟨_, _, rfl⟩ := h2; simp [PyData.eqv, D.eqv])
  | .int x, b, p, q, h1, h2 => by
    simp only [D.pd, Option.some.injEq] at h1; subst h1
    cases b <;> simp [D.pd] at h2 <;> first
      | (subst h2; simp [PyData.eqv, D.eqv])
      | (obtain ⟨_, _, rfl⟩ := h2; simp [PyData.eqv, D.eqv])
  | .str x, b, p, q, h1, h2 => by
    simp only [D.pd, Option.some.injEq] at h1; subst h1
    cases b <;> simp [D.pd] at h2 <;> first
      | (subst h2; simp only [PyData.eqv, D.eqv, str_beq])
      | (subst h2; simp [PyData.eqv, D.eqv])
      | (obtain ⟨_, _, rfl⟩ := h2; simp [PyData.eqv, D.eqv])
  | .tup xs, b, p, q, h1, h2 => by
    simp only [D.pd, Option.map_eq_some_iff] at h1
    obtain ⟨ps, e1, rfl⟩ := h1
    cases b with
    | tup ys =>
      simp only [D.pd, Option.map_eq_some_iff] at h2
      obtain ⟨qs, e2, rfl⟩ := h2
      simp only [PyData.eqv, D.eqv]
      exact eqvL_pd xs ys ps qs e1 e2
    | way ys =>
      simp only [D.pd, Option.map_eq_some_iff] at h2
      obtain ⟨qs, e2, rfl⟩ := h2
      simp only [PyData.eqv, D.eqv]
      exact eqvL_pd xs ys ps qs e1 e2
    | lst ys =>
      simp only [D.pd, Option.map_eq_some_iff] at h2
      obtain ⟨qs, e2, rfl⟩ := h2
      simp [PyData.eqv, D.eqv]
    | _ => simp [D.pd] at h2 <;> (subst h2; simp [PyData.eqv, D.eqv])
  | .way xs, b, p, q, h1, h2 => by
    simp only [D.pd, Option.map_eq_some_iff] at h1
    obtain ⟨ps, e1, rfl⟩ := h1
    cases b with
    | tup ys =>
      simp only [D.pd, Option.map_eq_some_iff] at h2
      obtain ⟨qs, e2, rfl⟩ := h2
      simp only [PyData.eqv, D.eqv]
      exact eqvL_pd xs ys ps qs e1 e2
    | way ys =>
      simp only [D.pd, Option.map_eq_some_iff] at h2
      obtain ⟨qs, e2, rfl⟩ := h2
      simp only [PyData.eqv, D.eqv]
      exact eqvL_pd xs ys ps qs e1 e2
    | lst ys =>
      simp only [D.pd, Option.map_eq_some_iff] at h2
      obtain ⟨qs, e2, rfl⟩ := h2
      simp [PyData.eqv, D.eqv]
    | _ => simp [D.pd] at h2 <;> (subst h2; simp [PyData.eqv, D.eqv])
  | .lst xs, b, p, q, h1, h2 => by
    simp only [D.pd, Option.map_eq_some_iff] at h1
    obtain ⟨ps, e1, rfl⟩ := h1
    cases b with
    | lst ys =>
      simp only [D.pd, Option.map_eq_some_iff] at h2
      obtain ⟨qs, e2, rfl⟩ := h2
      simp only [PyData.eqv, D.eqv]
      exact eqvL_pd xs ys ps qs e1 e2
    | tup ys =>
      simp only [D.pd, Option.map_eq_some_iff] at h2
      obtain ⟨qs, e2, rfl⟩ := h2
      simp [PyData.eqv, D.eqv]
    | way ys =>
      simp only [D.pd, Option.map_eq_some_iff] at h2
      obtain ⟨qs, e2, rfl⟩ := h2
      simp [PyData.eqv, D.eqv]
    | _ => simp [D.pd] at h2 <;> (subst h2; simp [PyData.eqv, D.eqv])
  | .dic _ _ _, b, p, q, h1, h2 => by simp [D.pd] at h1
  | .ins _ _ _, b, p, q, h1, h2 => by simp [D.pd] at h1
  | .exn _ _ _, b, p, q, h1, h2 => by simp [D.pd] at h1
  | .ref _, b, p, q, h1, h2 => by simp [D.pd] at h1
  | .scr _, b, p, q, h1, h2 => by simp [D.pd] at h1
theorem eqvL_pd : ∀ (xs ys : List D) (ps qs : List PyData), D.pdL xs = some ps → D.pdL ys = some qs → PyData.eqvAll ps qs = D.eqvL xs ys
  | [], ys, ps, qs, h1, h2 => by
    simp only [D.pdL, Option.some.injEq] at h1; subst h1
    cases ys with
    | nil => simp only [D.pdL, Option.some.injEq] at h2; subst h2; simp [PyData.eqvAll, D.eqvL]
    | cons y ys =>
      obtain ⟨q, qs', rfl⟩ : ∃ q qs', qs = q :: qs' := by
        simp only [D.pdL] at h2
        split at h2
        · simp only [Option.some.injEq] at h2; exact ⟨_, _, h2.symm⟩
        · cases h2
      simp [PyData.eqvAll, D.eqvL]
  | x :: xs, ys, ps, qs, h1, h2 => by
    obtain ⟨p, ps', rfl, ex, exs⟩ : ∃ p ps', ps = p :: ps' ∧ x.pd = some p ∧ D.pdL xs = some ps' := by
      simp only [D.pdL] at h1
      split at h1
      · rename_i a b e1 e2
        simp only [Option.some.injEq] at h1; exact ⟨_, _, h1.symm, e1, e2⟩
      · cases h1
    cases ys with
    | nil => simp only [D.pdL, Option.some.injEq] at h2; subst h2; simp [PyData.eqvAll, D.eqvL]
    | cons y ys =>
      obtain ⟨q, qs', rfl, ey, eys⟩ : ∃ q qs', qs = q :: qs' ∧ y.pd = some q ∧ D.pdL ys = some qs' := by
        simp only [D.pdL] at h2
        split at h2
        · rename_i a b e1 e2
          simp only [Option.some.injEq] at h2; exact ⟨_, _, h2.symm, e1, e2⟩
        · cases h2
      simp only [PyData.eqvAll, D.eqvL]
      rw [eqv_pd x y p q ex ey, eqvL_pd xs ys ps' qs' exs eys]
end
theorem ltD_data {a b : D} {k : Bool} (h : ltD a b = some k) : ∃ p q, a.pd = some p ∧ b.pd = some q ∧ PySem.W.alike p q = true ∧ p ≠ .none ∧ k = PySem.W.dataLt p q ∧ p.depth ≤ dp + 1 := by
  have gen : (if a.dat dp && b.dat dp then match a.pd, b.pd with
    | some p, some q => if PySem.W.alike p q && !nonP p then some (PySem.W.dataLt p q) else none
    | _, _ => none
    else none) = some k → ∃ p q, a.pd = some p ∧ b.pd = some q ∧ PySem.W.alike p q = true ∧ p ≠ .none ∧ k = PySem.W.dataLt p q ∧ p.depth ≤ dp + 1 := by
    intro h
    split at h
    · rename_i hd
      rw [Bool.and_eq_true] at hd
      obtain ⟨p, e1, _, d1⟩ := dat_pd dp a hd.1
      obtain ⟨q, e2, _, _⟩ := dat_pd dp b hd.2
      rw [e1, e2] at h
      simp only at h
      split at h
      · rename_i hc
        rw [Bool.and_eq_true] at hc
        simp only [Option.some.injEq] at h
        exact ⟨p, q, e1, e2, hc.1, by rintro rfl; simp [nonP] at hc, h.symm, d1⟩
      · cases h
    · cases h
  unfold ltD at h
  split at h
  · rename_i i j
    simp only [Option.some.injEq] at h
    exact ⟨_, _, rfl, rfl, by simp [PySem.W.alike], by simp, by rw [PySem.W.dataLt_int]; exact h.symm, by simp [PyData.depth]⟩
  · rename_i x y
    simp only [Option.some.injEq] at h
    exact ⟨_, _, rfl, rfl, by simp [PySem.W.alike], by simp, by rw [PySem.W.dataLt_str]; exact h.symm, by simp [PyData.depth]⟩
  · exact gen h
theorem eqD_data {a b : D} {k : Bool} (h : eqD a b = some k) : ∃ p q, a.pd = some p ∧ b.pd = some q ∧ p.plain = true ∧ q.plain = true ∧ k = PyData.eqv p q ∧ p.depth ≤ dp + 1 := by
  unfold eqD at h
  split at h
  · rename_i hd
    rw [Bool.and_eq_true] at hd
    obtain ⟨p, e1, l1, d1⟩ := dat_pd dp a hd.1
    obtain ⟨q, e2, l2, _⟩ := dat_pd dp b hd.2
    simp only [Option.some.injEq] at h
    exact ⟨p, q, e1, e2, l1, l2, by rw [eqv_pd a b p q e1 e2]; exact h.symm, d1⟩
  · cases h
theorem scr_sql {Y : Sx} {K : PySem.W.Frag} {H : Hp} {a : Addr} {ns : List Int} (hK : Y.ca.K = K) (h : (∃ o, H a = some (.frz o (.lst (ns.map V.int)))) ∨ Y.ca.kl a ns) : SqL K H a (ns.map V.int) := by
  subst hK
  rcases h with ⟨o, h⟩ | h
  · exact .inl (.inr ⟨o, h⟩)
  · exact .inr h
end CL
namespace CL
open PySem PySem.Spec PyProof.Rows L2
section
variable {X : Cx}
theorem op_strMul : OpR X (binaryOp .Mult) (fun x y H Q => ∃ (z : Str) (k : Int), x = .str z ∧ y = .int k ∧ (k = 0 ∨ k = 1) ∧ Q (.str (if k = 0 then Str.empty else z)) H) := by
  intro pins s σ H x y v u Q I rx ry h
  obtain ⟨z, k, rfl, rfl, hk, q⟩ := h
  obtain ⟨t, rfl⟩ := rx
  obtain ⟨t', rfl⟩ := ry
  rcases hk with rfl | rfl
  · exact P.mul_str_none (by decide) (by decide) ⟨.str Str.empty, H, I.tok _, ⟨_, rfl⟩, q⟩
  · exact P.mul_str (by decide) (fun _ h => by simp at h) (fun _ h => by simp at h) (by
      rw [if_neg (by decide), if_pos (by simp)]
      exact ⟨.str z, H, I, ⟨_, rfl⟩, q⟩)
end
section
variable {prog : Program} {w : PySem.World} {A : Around} {E : Value → Shared → Prop} {s : Shared}
theorem max_two_strs {x y : Str} {t u : Tok} {Q : Value → Shared → Prop} (hh : A.handled = none)
    (h : ∀ h' tk, (∀ c o, s.heap.get? c = some o → h'.get? c = some o) → Q (if x.cps.toList < y.cps.toList then .str y u else .str x t) { s with heap := h', toks := tk }) :
    wpAny (model prog w) A (call (.builtin "max") [.str x t, .str y u]) Q E s := by
  have hT : (s.heap.push { cls := .type "tuple", data := .seq #[.str x t, .str y u] }).IsTuple s.heap.objs.size #[.str x t, .str y u] := ⟨_, Heap.get?_push_size _ rfl, rfl, 0, rfl⟩
  have cmp : ∀ B : Around, CmpOf prog w B .Gt (fun i v => (#[Value.str x t, .str y u])[i]? = some v) (fun i j => decide (((if j = 0 then x else y).cps.toList) < ((if i = 0 then x else y).cps.toList))) := by
    intro B i j vi vj s Q E hi hj h
    have at_ : ∀ (i : Nat) (v : Value), (#[Value.str x t, .str y u])[i]? = some v → ∃ tk, v = .str (if i = 0 then x else y) tk := by
      intro i v hv
      match i, hv with
      | 0, hv => cases hv; exact ⟨t, rfl⟩
      | 1, hv => cases hv; exact ⟨u, rfl⟩
      | i + 2, hv => simp at hv
    obtain ⟨t1, rfl⟩ := at_ i vi hi
    obtain ⟨t2, rfl⟩ := at_ j vj hj
    exact richCompare_gives (op := .Gt) (typeIs_str s _ t1) (typeIs_str s _ t2) F.slot_str_gt F.entry_str_gt (F.args_str_gt_2 _ _) (gives_str_gt _ _ t1 t2) (fun x => nomatch x) h
  refine call_max_two (wpAny_pyIter_tuple hT ?_)
  have hsz : (s.heap.push { cls := .type "tuple", data := .seq #[.str x t, .str y u] }).objs.size = s.heap.objs.size + 1 := Heap.size_push ..
  refine ⟨_, [_, s.heap.objs.size], [_], _, _, _, _, rfl, Walks.tuple (A := A.in1) hh _ s.heap.objs.size (by rw [hsz]; exact Nat.ne_of_lt (Nat.lt_succ_self _)) #[.str x t, .str y u],
    ⟨⟨_, Heap.get?_push_size _ rfl, rfl, rfl⟩, hT.push _⟩, fun c hc => ?_, Nat.zero_lt_succ _, cmp _, fun v h' tk hP hk => ?_⟩
  · show c < ((s.heap.push _).push _).objs.size
    rw [Heap.size_push, hsz]
    rcases List.mem_cons.mp hc with rfl | hc
    · rw [hsz]; exact Nat.lt_succ_self _
    · rcases List.mem_cons.mp hc with rfl | hc
      · exact Nat.lt_succ_of_lt (Nat.lt_succ_self _)
      · cases hc
  · have hold : ∀ c o, s.heap.get? c = some o → h'.get? c = some o := fun c o e => by
      refine hk c o (fun hm => ?_) (Heap.get?_push_of_some _ (Heap.get?_push_of_some _ e))
      rcases List.mem_cons.mp hm with e1 | hm
      · have := Heap.lt_size e; rw [e1, hsz] at this; exact Nat.lt_irrefl _ (Nat.lt_of_succ_lt this)
      · cases hm
    have hv : v = if x.cps.toList < y.cps.toList then Value.str y u else Value.str x t := by
      have hP' : (#[Value.str x t, .str y u])[argBest (fun i j => decide (((if j = 0 then x else y).cps.toList) < ((if i = 0 then x else y).cps.toList))) 1]? = some v := hP
      have e : argBest (fun i j => decide (((if j = 0 then x else y).cps.toList) < ((if i = 0 then x else y).cps.toList))) 1 = if x.cps.toList < y.cps.toList then 1 else 0 := by
        show (if decide (x.cps.toList < y.cps.toList) = true then 1 else 0) = _
        by_cases c : x.cps.toList < y.cps.toList
        · rw [if_pos c, if_pos (decide_eq_true c)]
        · rw [if_neg c, if_neg (by simpa using c)]
      rw [e] at hP'
      by_cases c : x.cps.toList < y.cps.toList
      · rw [if_pos c] at hP' ⊢; cases hP'; rfl
      · rw [if_neg c] at hP' ⊢; cases hP'; rfl
    rw [hv]
    exact h h' tk hold
end
section
variable {X : Cx}
theorem call_maxS (hc : X.calm = true) : CallR X (.builtin "max") (fun xs H Q => ∃ i j : Str, xs = [.str i, .str j] ∧ Q (.str (if i.cps.toList < j.cps.toList then j else i)) H) := by
  intro pins s σ H xs us Q I r h
  obtain ⟨i, j, rfl, q⟩ := h
  obtain ⟨u, w', rfl, ⟨t, rfl⟩, ⟨t', rfl⟩⟩ := vals2 r
  refine max_two_strs (I.ok.hd hc) fun h' tk k => ⟨_, H, I.kept k, ?_, q⟩
  by_cases hj : i.cps.toList < j.cps.toList
  · rw [if_pos hj, if_pos hj]; exact ⟨_, rfl⟩
  · rw [if_neg hj, if_neg hj]; exact ⟨_, rfl⟩
end
end CL
namespace CL
open PySem PySem.Spec PyProof.Rows L2
def Fin1 (Y : Sx) (Bs : List Nat) (μ : List Addr) (H : Hp) (S : Store) (r : D) (Q : VK) : Prop := ∀ (μ' : List Addr) (H' : Hp) (v : V), Ext μ H μ' H' → World Y Bs μ' H' S → Rep Y μ' H' v r → Q v H'
section
variable {Y : Sx} {Bs : List Nat} {μ : List Addr} {H : Hp} {S : Store} {Q : VK}
theorem Fin1.flat {r : D} {v : V} (k : Fin1 Y Bs μ H S r Q) (w : World Y Bs μ H S) (h : Rep Y μ H v r) : Q v H := k μ H v (.refl _ _) w h
theorem Fin1.lst {ds : List D} {xs : List V} (k : Fin1 Y Bs μ H S (.lst ds) Q) (w : World Y Bs μ H S) (r : RepL Y μ H xs ds) {p : Addr} (hp : H p = none) : Q (.ref p) (upd H p (.lst xs)) :=
  k μ _ _ (.laid hp) (w.laid hp) (.lst upd_same (w.fresh hp) (r.ext (.laid hp)))
theorem Fin1.tup {ds : List D} {xs : List V} (k : Fin1 Y Bs μ H S (.tup ds) Q) (w : World Y Bs μ H S) (r : RepL Y μ H xs ds) {p : Addr} (hp : H p = none) : Q (.ref p) (upd H p (.tup xs)) :=
  k μ _ _ (.laid hp) (w.laid hp) (.tup upd_same (w.fresh hp) (r.ext (.laid hp)))
end
def opD2 (Y : Sx) (f : D → D → Option D) : R2 := fun x y H Q => ∃ (Bs : List Nat) (μ : List Addr) (S : Store) (d e r : D), World Y Bs μ H S ∧ Rep Y μ H x d ∧ Rep Y μ H y e ∧ f (vw S d) (vw S e) = some r ∧ Fin1 Y Bs μ H S r Q
def opB2 (Y : Sx) (f : D → D → Option Bool) : R2 := fun x y H Q => ∃ (Bs : List Nat) (μ : List Addr) (S : Store) (d e : D) (b : Bool), World Y Bs μ H S ∧ Rep Y μ H x d ∧ Rep Y μ H y e ∧ f (vw S d) (vw S e) = some b ∧ Q (.bl b) H
def BO.op : BO → Operator
  | .add => .Add | .sub => .Sub | .mul => .Mult | .fdiv => .FloorDiv | .mod => .Mod | .pow => .Pow | .shl => .LShift
def CO.op : CO → CmpOp
  | .eq => .Eq | .ne => .NotEq | .lt => .Lt | .le => .LtE | .gt => .Gt | .ge => .GtE | .isIn => .In | .notIn => .NotIn | .is => .Is | .isNot => .IsNot
theorem lim_line {n : Nat} (h : n ≤ LIM) : n ≤ sizeLine := by
  rw [sizeLine_eq]; unfold LIM at h; omega
theorem str_len (l : List Nat) : (⟨l.toArray⟩ : Str).length = l.length := by simp [Str.length]
theorem str_app (l m : List Nat) : (⟨l.toArray⟩ : Str) ++ ⟨m.toArray⟩ = ⟨(l ++ m).toArray⟩ := by
  show Str.append _ _ = _
  simp [Str.append]
theorem catOk_of {a b : Nat} (h : catOk a b = true) : a + b ≤ LIM := of_decide_eq_true h
section
variable {X : Cx} {Y : Sx}
theorem orI {op : Operator} {o : BO} {C : Int → Int → Prop} {g : Int → Int → Int} (h : OpR X (binaryOp op) (rI C fun i j => .int (g i j))) (hc : ∀ i j r, bop o (.int i) (.int j) = some r → C i j ∧ r = .int (g i j))
    {pins : List (Addr × Obj)} {s : Shared} {σ : L2.St} {H : Hp} {i j : Int} {v u : Value} {Q : VK} {Bs : List Nat} {μ : List Addr} {S : Store} {r : D} (I : Inv X pins σ H s) (rx : RelV (.int i) v) (ry : RelV (.int j) u)
    (w : World Y Bs μ H S) (e : bop o (.int i) (.int j) = some r) (k : Fin1 Y Bs μ H S r Q) : wpAny (model X.prog X.w) X.A (binaryOp op v u) (EP X pins σ Q) X.xe s := by
  obtain ⟨c, rfl⟩ := hc i j r e
  exact h pins s σ H _ _ v u Q I rx ry ⟨i, j, rfl, rfl, c, k.flat w (.int _)⟩
theorem tuple_mul1 (l : Addr) (items : Array Value) (n : Nat) (sl : Array (Option Value)) (dd : Option Addr) (x : Int) (u : Tok) (c0 : (decide (x < -(2 ^ 63)) || decide (x ≥ 2 ^ 63)) = false) (c1 : (items.isEmpty || x == 1) = true) :
    Meets (Builtin.«tuple.__mul__» ⟨[.ref l, .int x u], []⟩) (fun _ R s => s.heap.get? l = some { cls := .type "tuple", dict := dd, data := .seq items n, slots := sl } ∧ R (.ok (.ret (Value.ref l))) s) :=
  .of_wp fun prog w A R s h => by
    obtain ⟨hp, g, d, tk, os⟩ := s
    obtain ⟨hl, h⟩ := h
    have f1 := AutoSeq1.idx_int
    wp_walk using wpAny_loadPart' hl
    repeat (first
      | (refine wpAny_ite_false (decide_eq_false (by rw [c0]; exact Bool.false_ne_true)) ?_; wp_walk using wpAny_loadPart' hl)
      | (refine wpAny_ite_true (decide_eq_true c1) ?_; wp_walk using wpAny_loadPart' hl))
    exact ⟨_, rfl, h⟩
theorem tuple_mul0 (l : Addr) (items : Array Value) (n : Nat) (sl : Array (Option Value)) (dd : Option Addr) (u : Tok) (c1 : (items.isEmpty || (0 : Int) == 1) = false) :
    Meets (Builtin.«tuple.__mul__» ⟨[.ref l, .int 0 u], []⟩) (fun _ R s => s.heap.get? l = some { cls := .type "tuple", dict := dd, data := .seq items n, slots := sl } ∧
      R (.ok (.ret (Value.ref s.heap.objs.size))) { s with heap := s.heap.push { cls := Value.type "tuple", data := Data.seq #[] }, toks := s.toks }) :=
  .of_wp fun prog w A R s h => by
    obtain ⟨hp, g, d, tk, os⟩ := s
    obtain ⟨hl, h⟩ := h
    have f1 := AutoSeq1.idx_int
    wp_walk using wpAny_loadPart' hl
    repeat (first
      | (refine wpAny_ite_false (decide_eq_false (by decide)) ?_; wp_walk using wpAny_loadPart' hl)
      | (refine wpAny_ite_false (decide_eq_false (by rw [c1]; exact Bool.false_ne_true)) ?_; wp_walk using wpAny_loadPart' hl)
      | (refine wpAny_ite_true (decide_eq_true (by decide)) ?_; wp_walk using wpAny_loadPart' hl))
    exact ⟨_, rfl, h⟩
def rTupSelf (K : PySem.W.Frag) : R2 := fun x y H Q => ∃ l k xs, x = .ref l ∧ y = .int k ∧ SqT K H l xs ∧ -1000 ≤ k ∧ k ≤ 1000 ∧ (k = 1 ∨ xs = []) ∧ Q (.ref l) H
def rTupNone (K : PySem.W.Frag) : R2 := fun x y H Q => ∃ l xs, x = .ref l ∧ y = .int 0 ∧ SqT K H l xs ∧ xs ≠ [] ∧ ∀ p, H p = none → Q (.ref p) (upd H p (.tup []))
theorem op_tupSelf : OpR X (binaryOp .Mult) (rTupSelf X.K) := by
  intro pins s σ H x y v u Q I rx ry h
  obtain ⟨l, k, xs, rfl, rfl, hT, k1, k2, hk, q⟩ := h
  cases rx
  obtain ⟨t, rfl⟩ := ry
  obtain ⟨its, r, ⟨⟨cls, dd, data, sl⟩, ho, hc, n, hd⟩, hs⟩ := I.tuple hT
  simp only at hc hd
  subst hc hd
  have c1 : (its.toArray.isEmpty || k == 1) = true := by
    rcases hk with hk | hk
    · rw [hk, Bool.or_eq_true]
      exact .inr rfl
    · subst hk
      cases r
      rfl
  have hb : k = 1 ∨ its = [] := by
    rcases hk with hk | hk
    · exact .inl hk
    · subst hk
      cases r
      exact .inr rfl
  have big : ((decide (k < -(2 ^ 63)) || decide (k ≥ 2 ^ 63)) = false) := by rw [decide_eq_false (by omega), decide_eq_false (by omega)] <;> rfl
  exact wpAny_binaryOp_repeat_ref (T := "tuple") (U := "int") (by decide) ⟨_, ho, rfl⟩ (fun s' => typeIs_int s' k t) noFill_tuple_mul F.fills_int_mul F.slot_int_rmul repeat_tuple F.slot_int_index.lookup
    (call_meets F.slot_int_rmul (typeIs_int s k t) F.entry_int_rmul (F.args_int_rmul_2 _ _) (int_rmul_tuple k t l its.toArray n dd sl)
      ⟨ho, rfl, ⟨_, ho, rfl⟩, call_meets F.slot_tuple_mul ⟨_, ho, rfl⟩ F.entry_tuple_mul (F.args_tuple_mul_2 _ _) (tuple_mul1 l its.toArray n sl dd k t big c1) ⟨ho, .ref l, H, I, rfl, q⟩⟩)
theorem op_tupNone : OpR X (binaryOp .Mult) (rTupNone X.K) := by
  intro pins s σ H x y v u Q I rx ry h
  obtain ⟨l, xs, rfl, rfl, hT, hne, q⟩ := h
  cases rx
  obtain ⟨t, rfl⟩ := ry
  obtain ⟨its, r, ⟨⟨cls, dd, data, sl⟩, ho, hc, n, hd⟩, hs⟩ := I.tuple hT
  simp only at hc hd
  subst hc hd
  have c1 : (its.toArray.isEmpty || (0 : Int) == 1) = false := by
    cases its with
    | nil => cases r; exact absurd rfl hne
    | cons a b => rfl
  refine wpAny_binaryOp_repeat_ref (T := "tuple") (U := "int") (by decide) ⟨_, ho, rfl⟩ (fun s' => typeIs_int s' 0 t) noFill_tuple_mul F.fills_int_mul F.slot_int_rmul repeat_tuple F.slot_int_index.lookup
    (call_meets F.slot_int_rmul (typeIs_int s 0 t) F.entry_int_rmul (F.args_int_rmul_2 _ _) (int_rmul_tuple 0 t l its.toArray n dd sl)
      ⟨ho, rfl, ⟨_, ho, rfl⟩, call_meets F.slot_tuple_mul ⟨_, ho, rfl⟩ F.entry_tuple_mul (F.args_tuple_mul_2 _ _) (tuple_mul0 l its.toArray n sl dd t c1) ⟨ho, ?_⟩⟩)
  refine ⟨.ref s.heap.objs.size, _, I.laid (t' := s.toks) (o := .tup []) (fun b ob q => Heap.get?_push_of_some _ q) (Nat.le_refl _) ?_, rfl, q _ (I.hok.fresh (Nat.le_refl _))⟩
  exact ⟨Nat.zero_le _, [], .nil, IsTup.new _ _⟩
theorem op_bop (o : BO) : OpR X (binaryOp o.op) (opD2 Y (bop o)) := by
  intro pins s σ H x y v u Q I rx ry h
  obtain ⟨Bs, μ, S, d, e, r, w, rd, re, hf, k⟩ := h
  have vd := view_of w rd
  have ve := view_of w re
  revert hf
  generalize vw S d = d' at vd
  generalize vw S e = e' at ve
  intro hf
  cases vd with
  | int i =>
    cases ve with
    | int j =>
      cases o with
      | add => exact orI (C := fun _ _ => True) (g := fun i j => i + j) (fun pins s σ H x y v u Q I rx ry ⟨i, j, a, b, _, q⟩ => op_add pins s σ H x y v u Q I rx ry ⟨i, j, a, b, q⟩) (fun i j r h => ⟨trivial, by simp only [bop, Option.some.injEq] at h; exact h.symm⟩) I rx ry w hf k
      | sub => exact orI (C := fun _ _ => True) (g := fun i j => i - j) (fun pins s σ H x y v u Q I rx ry ⟨i, j, a, b, _, q⟩ => op_sub pins s σ H x y v u Q I rx ry ⟨i, j, a, b, q⟩) (fun i j r h => ⟨trivial, by simp only [bop, Option.some.injEq] at h; exact h.symm⟩) I rx ry w hf k
      | mul =>
        refine orI op_mul (fun i j r h => ?_) I rx ry w hf k
        simp only [bop] at h
        split at h
        · rename_i c
          refine ⟨?_, (Option.some.inj h).symm⟩
          rcases c with c | c
          · exact .inl ⟨by omega, by omega⟩
          · exact .inr ⟨by omega, by omega⟩
        · cases h
      | fdiv =>
        refine orI op_fdivW (fun i j r h => ?_) I rx ry w hf k
        simp only [bop] at h
        split at h
        · rename_i c
          refine ⟨⟨c.1, ?_⟩, (Option.some.inj h).symm⟩
          have h1 : j.natAbs < 2 ^ 4000 := by
            have : (j.natAbs : Int) < 2 ^ 4000 := by rw [Int.natAbs_of_nonneg (by omega)]; exact c.2
            exact_mod_cast this
          exact Nat.lt_trans (PySem.Flt.log2_lt_of (by decide) h1) (by decide)
        · cases h
      | mod =>
        refine orI op_mod (fun i j r h => ?_) I rx ry w hf k
        simp only [bop] at h
        split at h
        · rename_i c
          exact ⟨c, (Option.some.inj h).symm⟩
        · cases h
      | pow =>
        refine orI op_pow (fun i j r h => ?_) I rx ry w hf k
        simp only [bop] at h
        split at h
        · rename_i c
          exact ⟨⟨c.1, by omega, c.2.2⟩, (Option.some.inj h).symm⟩
        · cases h
      | shl =>
        refine orI op_shl (fun i j r h => ?_) I rx ry w hf k
        simp only [bop] at h
        split at h
        · rename_i c
          exact ⟨⟨c.1, by omega, c.2.2⟩, (Option.some.inj h).symm⟩
        · cases h
    | _ => cases o <;> simp [bop] at hf
  | str l =>
    cases ve with
    | str m =>
      cases o with
      | add =>
        simp only [bop] at hf
        split at hf
        · rename_i c
          have c' := catOk_of c
          simp only [Option.some.injEq] at hf
          subst hf
          refine op_add_str pins s σ H _ _ v u Q I rx ry ⟨_, _, rfl, rfl, ?_, ?_⟩
          · rw [str_len, str_len]; exact lim_line c'
          · rw [str_app]; exact k.flat w (.str _)
        · cases hf
      | _ => simp [bop] at hf
    | int j =>
      cases o with
      | mul =>
        simp only [bop] at hf
        split at hf
        · rename_i c
          subst c
          simp only [Option.some.injEq] at hf
          subst hf
          exact op_strMul pins s σ H _ _ v u Q I rx ry ⟨_, 0, rfl, rfl, .inl rfl, k.flat w (.str [])⟩
        · split at hf
          · rename_i c0 c
            subst c
            simp only [Option.some.injEq] at hf
            subst hf
            exact op_strMul pins s σ H _ _ v u Q I rx ry ⟨_, 1, rfl, rfl, .inr rfl, k.flat w (.str l)⟩
          · cases hf
      | _ => simp [bop] at hf
    | _ => cases o <;> simp [bop] at hf
  | lst h1 r1 =>
    cases ve with
    | lst h2 r2 =>
      cases o with
      | add =>
        simp only [bop] at hf
        split at hf
        · rename_i c
          have c' := catOk_of c
          simp only [Option.some.injEq] at hf
          subst hf
          refine op_cat pins s σ H _ _ v u Q I rx ry ⟨_, _, _, _, rfl, rfl, h1, h2, ?_, fun p hp => k.lst w (r1.append r2) hp⟩
          rw [r1.length, r2.length]; exact lim_line c'
        · cases hf
      | _ => simp [bop] at hf
    | int j =>
      cases o with
      | mul =>
        simp only [bop] at hf
        split at hf
        · rename_i c
          obtain ⟨c1, c2, c3⟩ := c
          simp only [Option.some.injEq] at hf
          subst hf
          refine op_rep pins s σ H _ _ v u Q I rx ry ⟨_, _, _, rfl, rfl, h1, by omega, by omega, ?_, fun p hp => k.lst w (r1.rep _) hp⟩
          rw [r1.length]
          have h2 : j.toNat ≤ 1000 := by omega
          exact Nat.le_trans (Nat.mul_le_mul c3 h2) (by decide)
        · cases hf
      | _ => simp [bop] at hf
    | _ => cases o <;> simp [bop] at hf
  | tup h1 n1 r1 =>
    cases ve with
    | tup h2 n2 r2 =>
      cases o with
      | add =>
        simp only [bop] at hf
        split at hf
        · rename_i c
          have c' := catOk_of c
          simp only [Option.some.injEq] at hf
          subst hf
          refine op_catA pins s σ H _ _ v u Q I rx ry ⟨_, _, _, _, rfl, rfl, .of h1, .of h2, ?_, fun e1 => ?_, fun _ e2 => ?_, fun _ _ p hp => k.tup w (r1.append r2) hp⟩
          · rw [r1.length, r2.length]; exact lim_line c'
          · subst e1
            cases r1
            exact k.flat w (.tup h2 n2 r2)
          · subst e2
            cases r2
            rw [List.append_nil] at k
            exact k.flat w (.tup h1 n1 r1)
        · cases hf
      | _ => simp [bop] at hf
    | int j =>
      cases o with
      | mul =>
        simp only [bop] at hf
        split at hf
        · rename_i c
          simp only [Option.some.injEq] at hf
          subst hf
          obtain ⟨ca, cb, c⟩ := c
          refine op_tupSelf pins s σ H _ _ v u Q I rx ry ⟨_, _, _, rfl, rfl, .of h1, ca, cb, ?_, k.flat w (.tup h1 n1 r1)⟩
          rcases c with c | c
          · exact .inl c
          · exact .inr (List.eq_nil_of_length_eq_zero (by rw [r1.length]; exact c))
        · split at hf
          · rename_i c c2
            simp only [Option.some.injEq] at hf
            subst hf
            subst c2
            refine op_tupNone pins s σ H _ _ v u Q I rx ry ⟨_, _, rfl, rfl, .of h1, fun e => c ⟨by omega, by omega, .inr (by rw [← r1.length, e]; rfl)⟩, fun p hp => k.tup w .nil hp⟩
          · cases hf
      | _ => simp [bop] at hf
    | way h2 ho2 n2 r2 =>
      cases o with
      | add =>
        simp only [bop] at hf
        split at hf
        · rename_i c
          simp only [Bool.and_eq_true] at c
          have c' := catOk_of c.1.1
          simp only [Option.some.injEq] at hf
          subst hf
          refine op_catA pins s σ H _ _ v u Q I rx ry ⟨_, _, _, _, rfl, rfl, .of h1, .inl (.inr ⟨_, h2⟩), ?_, fun e1 => ?_, fun _ e2 => ?_, fun _ _ p hp => k.tup w (r1.append r2) hp⟩
          · rw [r1.length, r2.length]; exact lim_line c'
          · subst e1; cases r1; simp at c
          · subst e2; cases r2; simp at c
        · cases hf
      | _ => simp [bop] at hf
    | _ => cases o <;> simp [bop] at hf
  | way h1 ho1 n1 r1 =>
    cases ve with
    | tup h2 n2 r2 =>
      cases o with
      | add =>
        simp only [bop] at hf
        split at hf
        · rename_i c
          simp only [Bool.and_eq_true] at c
          have c' := catOk_of c.1.1
          simp only [Option.some.injEq] at hf
          subst hf
          refine op_catA pins s σ H _ _ v u Q I rx ry ⟨_, _, _, _, rfl, rfl, .inl (.inr ⟨_, h1⟩), .of h2, ?_, fun e1 => ?_, fun _ e2 => ?_, fun _ _ p hp => k.tup w (r1.append r2) hp⟩
          · rw [r1.length, r2.length]; exact lim_line c'
          · subst e1; cases r1; simp at c
          · subst e2; cases r2; simp at c
        · cases hf
      | _ => simp [bop] at hf
    | _ => cases o <;> simp [bop] at hf
  | _ => cases o <;> simp [bop] at hf
theorem Rep.reads {pins : List (Addr × Obj)} {s : Shared} {σ : L2.St} {H : Hp} {μ : List Addr} {v : V} {d : D} {p : PyData} {u : Value} (I : Inv X pins σ H s) (h : View Y μ H v d) (e : d.pd = some p) (r : RelV v u) : ∃ as, Reads s.heap u p as :=
  Dp.reads I p v u (h.dp e) r
theorem eqv_any (x : D) : ∀ (ds : List D) (ps : List PyData) (p : PyData), D.pdL ds = some ps → x.pd = some p → (ps.any fun z => PyData.eqv z p) = ds.any fun z => D.eqv z x
  | [], ps, p, h, _ => by simp only [D.pdL, Option.some.injEq] at h; subst h; rfl
  | d :: ds, ps, p, h, hx => by
    simp only [D.pdL] at h
    split at h
    · rename_i a b e1 e2
      simp only [Option.some.injEq] at h
      subst h
      rw [List.any_cons, List.any_cons, eqv_pd d x a p e1 hx, eqv_any x ds b p e2 hx]
    · cases h
theorem alike_none {p q : PyData} (h : PySem.W.alike p q = true) (n : p ≠ .none) : q ≠ .none := by
  rintro rfl
  cases p <;> simp [PySem.W.alike] at h
  exact n rfl
theorem fin_b {pins : List (Addr × Obj)} {s : Shared} {σ : L2.St} {H : Hp} {Q : VK} {b : Bool} (I : Inv X pins σ H s) (k : Q (.bl b) H) : EP X pins σ Q (.bool b) s := ⟨.bl b, H, I, rfl, k⟩
theorem keyK {μ : List Addr} {H : Hp} {v : V} {d : D} (h : View Y μ H v d) (e : keyOf false d = true) : ∃ k : Key, v = kV k ∧ d = kD k := by
  cases h with
  | int i => exact ⟨.inl i, rfl, rfl⟩
  | str l => exact ⟨.inr ⟨l.toArray⟩, rfl, by simp [kD]⟩
  | _ => simp [keyOf] at e
theorem flatsK {μ : List Addr} {H : Hp} : ∀ {vs : List V} {ds : List D}, RepL Y μ H vs ds → ds.all flatD = true → ∃ ks : List Key, vs = ks.map kV ∧ ds = ks.map kD
  | _, _, .nil, _ => ⟨[], rfl, rfl⟩
  | _, _, .cons (v := v) (d := d) h t, e => by
    rw [List.all_cons, Bool.and_eq_true] at e
    obtain ⟨ks, e1, e2⟩ := flatsK t e.2
    have : ∃ k : Key, v = kV k ∧ d = kD k := by
      cases h with
      | int i => exact ⟨.inl i, rfl, rfl⟩
      | str l => exact ⟨.inr ⟨l.toArray⟩, rfl, by simp [kD]⟩
      | _ => simp [flatD] at e
    obtain ⟨k, e3, e4⟩ := this
    exact ⟨k :: ks, by rw [e1, e3]; rfl, by rw [e2, e4]; rfl⟩
theorem keyT {μ : List Addr} {H : Hp} {v : V} {d : D} (h : View Y μ H v d) (e : keyOf true d = true) : ∃ (b : Addr) (ks : List Key), v = .ref b ∧ H b = some (.tup (ks.map kV)) ∧ d = kDT ks := by
  cases h with
  | tup h n r =>
    simp only [keyOf, Bool.true_and] at e
    obtain ⟨ks, e1, e2⟩ := flatsK r e
    exact ⟨_, ks, rfl, by rw [h, e1], by rw [e2]; rfl⟩
  | _ => simp [keyOf] at e
theorem eqv_kD (a b : Key) : D.eqv (kD a) (kD b) = decide (a = b) := by
  cases a with
  | inl x =>
    cases b with
    | inl y => rw [Bool.eq_iff_iff]; simp [kD, D.eqv]
    | inr y => simp [kD, D.eqv]
  | inr x =>
    cases b with
    | inl y => simp [kD, D.eqv]
    | inr y =>
      rw [Bool.eq_iff_iff]
      cases x
      cases y
      simp [kD, D.eqv]
theorem eqvL_kD : ∀ a b : List Key, D.eqvL (a.map kD) (b.map kD) = decide (a = b)
  | [], [] => by simp [D.eqvL]
  | [], _ :: _ => by simp [D.eqvL]
  | _ :: _, [] => by simp [D.eqvL]
  | x :: a, y :: b => by
    simp only [List.map_cons, D.eqvL]
    rw [eqv_kD, eqvL_kD a b]
    by_cases h1 : x = y <;> by_cases h2 : a = b <;> simp [h1, h2]
theorem look_val {κ : Type} [DecidableEq κ] (g : κ → D) (hg : ∀ a b, D.eqv (g a) (g b) = decide (a = b)) (k : κ) {μ : List Addr} {H : Hp} : ∀ {kvs : List (κ × V)} {ds : List D}, RepL Y μ H (kvs.map (·.2)) ds →
    (∀ d, lookD (g k) (kvs.map fun p => g p.1) ds = some d → ∃ v, valV kvs k = some v ∧ Rep Y μ H v d) ∧ (lookD (g k) (kvs.map fun p => g p.1) ds = none → valV kvs k = none)
  | [], _, .nil => ⟨fun d h => by simp [lookD] at h, fun _ => rfl⟩
  | (j, v) :: kvs, _, .cons (d := e) (ds := ds) h t => by
    obtain ⟨i1, i2⟩ := look_val g hg k t
    simp only [List.map_cons, lookD, hg]
    by_cases q : j = k
    · subst q
      rw [valV_pos rfl]
      simp only [decide_true, if_true]
      exact ⟨fun d e' => by simp only [Option.some.injEq] at e'; subst e'; exact ⟨_, rfl, h⟩, fun e' => by cases e'⟩
    · rw [valV_neg q]
      simp only [q, decide_false, Bool.false_eq_true, if_false]
      exact ⟨i1, i2⟩
theorem dget_of {μ : List Addr} {H : Hp} {x y : V} {t : Bool} {ks vs : List D} {k : D} (h : View Y μ H x (.dic t ks vs)) (hk : View Y μ H y k) (e : keyOf t k = true) : ∃ a o, x = .ref a ∧ DGet H a y o ∧
    (∀ d, lookD k ks vs = some d → ∃ v, o = some v ∧ Rep Y μ H v d) ∧ (lookD k ks vs = none → o = none) := by
  cases h with
  | dicK h r =>
    obtain ⟨kk, rfl, rfl⟩ := keyK hk e
    exact ⟨_, _, rfl, DGet.k h, look_val kD eqv_kD kk r⟩
  | dicT h r =>
    obtain ⟨b, kk, rfl, hb, rfl⟩ := keyT hk e
    exact ⟨_, _, rfl, DGet.t h hb, look_val kDT (fun a b => by show D.eqv (.tup _) (.tup _) = _; rw [D.eqv]; exact eqvL_kD a b) kk r⟩
theorem op_inD' (hu : X.A.units + 64 < cLine) {neg : Bool} {pins : List (Addr × Obj)} {s : Shared} {σ : L2.St} {H : Hp} {x y : V} {v u : Value} {Q : VK} {μ : List Addr} {d e : D} {b : Bool}
    (I : Inv X pins σ H s) (rx : RelV x v) (ry : RelV y u) (vd : View Y μ H x d) (ve : View Y μ H y e) (hf : inD d e = some b) (k : Q (.bl (if neg then !b else b)) H) :
    wpAny (model X.prog X.w) X.A (compareOp (if neg then .NotIn else .In) v u) (EP X pins σ Q) X.xe s := by
  cases e with
  | str l =>
    cases ve
    cases d with
    | str m =>
      cases vd
      match m, hf with
      | [c], hf =>
        simp only [inD, Option.some.injEq] at hf
        subst hf
        cases neg with
        | false => exact op_in_sign pins s σ H _ _ v u Q I rx ry ⟨c, _, rfl, rfl, by simpa using k⟩
        | true => exact op_notIn_sign pins s σ H _ _ v u Q I rx ry ⟨c, _, rfl, rfl, by simpa using k⟩
      | [], hf => simp [inD] at hf
      | _ :: _ :: _, hf => simp [inD] at hf
    | _ => simp [inD] at hf
  | lst ds =>
    simp only [inD] at hf
    split at hf
    · rename_i c
      rw [Bool.and_eq_true] at c
      obtain ⟨p, e1, l1, d1⟩ := dat_pd dp d c.1
      obtain ⟨ps, e2, l2, d2⟩ := datL_pd dp ds c.2
      simp only [Option.some.injEq] at hf
      obtain ⟨as, r1⟩ := Rep.reads I vd e1 rx
      obtain ⟨bs, r2⟩ := Rep.reads I ve (p := .list ps) (by simp [D.pd, e2]) ry
      have hu' : X.A.units + 1 + min (PyData.depthAll ps) p.depth < cLine := by unfold dp at d2; omega
      have ea := eqv_any d ds ps p e2 e1
      cases neg with
      | false => exact PySem.SeqAt.in_list_data r2 r1 l2 l1 hu' (by rw [ea, hf]; exact fin_b I k)
      | true => exact PySem.SeqAt.notIn_list_data r2 r1 l2 l1 hu' (by rw [ea, hf]; exact fin_b I k)
    · cases hf
  | tup ds =>
    simp only [inD] at hf
    split at hf
    · rename_i c
      rw [Bool.and_eq_true] at c
      obtain ⟨p, e1, l1, d1⟩ := dat_pd dp d c.1
      obtain ⟨ps, e2, l2, d2⟩ := datL_pd dp ds c.2
      simp only [Option.some.injEq] at hf
      obtain ⟨as, r1⟩ := Rep.reads I vd e1 rx
      obtain ⟨bs, r2⟩ := Rep.reads I ve (p := .tuple ps) (by simp [D.pd, e2]) ry
      have hu' : X.A.units + 1 + min (PyData.depthAll ps) p.depth < cLine := by unfold dp at d2; omega
      have ea := eqv_any d ds ps p e2 e1
      cases neg with
      | false => exact PySem.SeqAt.in_tuple_data r2 r1 l2 l1 hu' (by rw [ea, hf]; exact fin_b I k)
      | true => exact PySem.SeqAt.notIn_tuple_data r2 r1 l2 l1 hu' (by rw [ea, hf]; exact fin_b I k)
    · cases hf
  | way ds =>
    simp only [inD] at hf
    split at hf
    · rename_i c
      rw [Bool.and_eq_true] at c
      obtain ⟨p, e1, l1, d1⟩ := dat_pd dp d c.1
      obtain ⟨ps, e2, l2, d2⟩ := datL_pd dp ds c.2
      simp only [Option.some.injEq] at hf
      obtain ⟨as, r1⟩ := Rep.reads I vd e1 rx
      obtain ⟨bs, r2⟩ := Rep.reads I ve (p := .tuple ps) (by simp [D.pd, e2]) ry
      have hu' : X.A.units + 1 + min (PyData.depthAll ps) p.depth < cLine := by unfold dp at d2; omega
      have ea := eqv_any d ds ps p e2 e1
      cases neg with
      | false => exact PySem.SeqAt.in_tuple_data r2 r1 l2 l1 hu' (by rw [ea, hf]; exact fin_b I k)
      | true => exact PySem.SeqAt.notIn_tuple_data r2 r1 l2 l1 hu' (by rw [ea, hf]; exact fin_b I k)
    · cases hf
  | dic t ks vs =>
    simp only [inD] at hf
    split at hf
    · rename_i c
      simp only [Option.some.injEq] at hf
      obtain ⟨a, o, rfl, g, g1, g2⟩ := dget_of ve vd c
      obtain rfl : u = Value.ref a := ry
      have ho : o.isSome = b := by
        rw [← hf]
        cases q : lookD d ks vs with
        | none => rw [g2 q]; rfl
        | some z =>
          obtain ⟨w, e, _⟩ := g1 z q
          rw [e]; rfl
      cases neg with
      | false => exact d_in (by omega) I g rx fun s' I' => by rw [ho]; exact fin_b I' k
      | true => exact d_notIn (by omega) I g rx fun s' I' => by rw [ho]; exact fin_b I' k
    · cases hf
  | _ => simp [inD] at hf
theorem op_isD' {neg : Bool} {pins : List (Addr × Obj)} {s : Shared} {σ : L2.St} {H : Hp} {x y : V} {v u : Value} {Q : VK} {μ : List Addr} {d e : D} {b : Bool} {S : Store} {d0 : D} {Bs : List Nat} (w : World Y Bs μ H S) (hd : d = vw S d0) (rd : Rep Y μ H x d0)
    (I : Inv X pins σ H s) (rx : RelV x v) (ry : RelV y u) (vd : View Y μ H x d) (ve : View Y μ H y e) (hf : isD d e = some b) (k : Q (.bl (if neg then !b else b)) H) :
    wpAny (model X.prog X.w) X.A (compareOp (if neg then .IsNot else .Is) v u) (EP X pins σ Q) X.xe s := by
  cases e with
  | non =>
    cases ve
    have hb : decide (x = .non) = b := by
      simp only [isD, Option.some.injEq] at hf
      rw [← hf]
      cases vd with
      | @ref v i =>
        have : ∃ a, x = .ref a := by
          have : d0 = .ref i := by
            cases d0 <;> simp [vw] at hd
            · split at hd
              · cases hd
              · cases hd
              · exact hd.symm
          subst this
          cases rd
          exact ⟨_, rfl⟩
        obtain ⟨a, rfl⟩ := this
        simp
      | _ => simp
    cases neg with
    | false => exact op_isN pins s σ H _ _ v u Q I rx ry ⟨rfl, by rw [hb]; exact k⟩
    | true => exact op_notN pins s σ H _ _ v u Q I rx ry ⟨rfl, by rw [hb]; exact k⟩
  | bl j =>
    cases ve
    cases d with
    | bl i =>
      cases vd
      cases rx
      cases ry
      simp only [isD, Option.some.injEq] at hf
      cases neg with
      | false => exact PyProof.Rows.is_bool (by rw [hf]; exact fin_b I k)
      | true => exact wpAny_isNot_plain (by rfl) (by
          have : (!(Value.bool i == Value.bool j)) = !b := by rw [← hf]; cases i <;> cases j <;> rfl
          rw [this]; exact fin_b I k)
    | _ => simp [isD] at hf
  | _ => simp [isD] at hf
theorem op_cmp (hu : X.A.units + 64 < cLine) (o : CO) : OpR X (compareOp o.op) (opB2 Y (cmpD o)) := by
  intro pins s σ H x y v u Q I rx ry h
  obtain ⟨Bs, μ, S, d, e, b, w, rd, re, hf, k⟩ := h
  have vd := view_of w rd
  have ve := view_of w re
  cases o with
  | eq =>
    obtain ⟨p, q, e1, e2, l1, l2, rfl, d1⟩ := eqD_data hf
    obtain ⟨as, r1⟩ := Rep.reads I vd e1 rx
    obtain ⟨bs, r2⟩ := Rep.reads I ve e2 ry
    exact PySem.SeqAt.eq_plain r1 r2 l1 l2 (by unfold dp at d1; omega) (fin_b I k)
  | ne =>
    simp only [cmpD, Option.map_eq_some_iff] at hf
    obtain ⟨b', hf, rfl⟩ := hf
    obtain ⟨p, q, e1, e2, l1, l2, rfl, d1⟩ := eqD_data hf
    obtain ⟨as, r1⟩ := Rep.reads I vd e1 rx
    obtain ⟨bs, r2⟩ := Rep.reads I ve e2 ry
    exact PySem.SeqAt.ne_plain r1 r2 l1 l2 (by unfold dp at d1; omega) (fin_b I k)
  | lt =>
    obtain ⟨p, q, e1, e2, al, nn, rfl, d1⟩ := ltD_data hf
    obtain ⟨as, r1⟩ := Rep.reads I vd e1 rx
    obtain ⟨bs, r2⟩ := Rep.reads I ve e2 ry
    exact PySem.W.lt_data r1 r2 al nn (by unfold dp at d1; omega) (fin_b I k)
  | gt =>
    obtain ⟨p, q, e1, e2, al, nn, rfl, d1⟩ := ltD_data hf
    obtain ⟨as, r1⟩ := Rep.reads I vd e2 rx
    obtain ⟨bs, r2⟩ := Rep.reads I ve e1 ry
    exact PySem.W.gt_data r1 r2 (by rw [PySem.W.alike_comm]; exact al) (alike_none al nn) (by unfold dp at d1; omega) (fin_b I k)
  | le =>
    simp only [cmpD, Option.map_eq_some_iff] at hf
    obtain ⟨b', hf, rfl⟩ := hf
    obtain ⟨p, q, e1, e2, al, nn, rfl, d1⟩ := ltD_data hf
    obtain ⟨as, r1⟩ := Rep.reads I vd e2 rx
    obtain ⟨bs, r2⟩ := Rep.reads I ve e1 ry
    exact PySem.W.le_data r1 r2 (by rw [PySem.W.alike_comm]; exact al) (alike_none al nn) (by unfold dp at d1; omega) (fin_b I k)
  | ge =>
    simp only [cmpD, Option.map_eq_some_iff] at hf
    obtain ⟨b', hf, rfl⟩ := hf
    obtain ⟨p, q, e1, e2, al, nn, rfl, d1⟩ := ltD_data hf
    obtain ⟨as, r1⟩ := Rep.reads I vd e1 rx
    obtain ⟨bs, r2⟩ := Rep.reads I ve e2 ry
    exact PySem.W.ge_data r1 r2 al nn (by unfold dp at d1; omega) (fin_b I k)
  | isIn => exact op_inD' (neg := false) hu I rx ry vd ve hf k
  | notIn =>
    simp only [cmpD, Option.map_eq_some_iff] at hf
    obtain ⟨b', hf, rfl⟩ := hf
    exact op_inD' (neg := true) hu I rx ry vd ve hf k
  | is => exact op_isD' (neg := false) w rfl rd I rx ry vd ve hf k
  | isNot =>
    simp only [cmpD, Option.map_eq_some_iff] at hf
    obtain ⟨b', hf, rfl⟩ := hf
    exact op_isD' (neg := true) w rfl rd I rx ry vd ve hf k
end
end CL
namespace CL
open PySem PySem.Spec PyProof.Rows L2
theorem ltD_of {a b : D} {p q : PyData} (ha : a.dat dp = true) (hb : b.dat dp = true) (ea : a.pd = some p) (eb : b.pd = some q) (hal : PySem.W.alike p q = true) (hn : p ≠ .none) : ltD a b = some (PySem.W.dataLt p q) := by
  have hp : nonP p = false := by cases p <;> first | rfl | exact absurd rfl hn
  have gen : (if a.dat dp && b.dat dp then match a.pd, b.pd with
    | some p, some q => if PySem.W.alike p q && !nonP p then some (PySem.W.dataLt p q) else none
    | _, _ => none
    else none) = some (PySem.W.dataLt p q) := by
    rw [ha, hb, ea, eb]
    simp [hal, hp]
  unfold ltD
  split
  · simp only [D.pd, Option.some.injEq] at ea eb
    subst ea eb
    rw [PySem.W.dataLt_int]
  · simp only [D.pd, Option.some.injEq] at ea eb
    subst ea eb
    rw [PySem.W.dataLt_str]
  · exact gen
def encD (d : D) : PyData := d.pd.getD .none
theorem pdL_enc : ∀ {ds : List D} {ps : List PyData}, D.pdL ds = some ps → ps = ds.map encD ∧ ∀ d ∈ ds, d.pd = some (encD d)
  | [], ps, h => by
    simp only [D.pdL, Option.some.injEq] at h
    subst h
    exact ⟨rfl, by simp⟩
  | d :: ds, ps, h => by
    simp only [D.pdL] at h
    split at h
    · rename_i x xs e1 e2
      simp only [Option.some.injEq] at h
      subst h
      obtain ⟨rfl, h2⟩ := pdL_enc e2
      have e3 : encD d = x := by unfold encD; rw [e1]; rfl
      refine ⟨by rw [List.map_cons, e3], fun z hz => ?_⟩
      rcases List.mem_cons.mp hz with rfl | hz
      · rw [e3, e1]
      · exact h2 z hz
    · cases h
theorem datL_mem {n : Nat} : ∀ {ds : List D}, D.datL n ds = true → ∀ d ∈ ds, d.dat (n - 1) = true
  | [], _, d, hd => by cases hd
  | x :: ds, h, d, hd => by
    simp only [D.datL, Bool.and_eq_true] at h
    rcases List.mem_cons.mp hd with rfl | hd
    · exact h.2.1
    · exact datL_mem h.2.2 d hd
mutual
theorem D.dat_mono : ∀ (d : D) (m n : Nat), m ≤ n → d.dat m = true → d.dat n = true
  | .non, _, _, _, _ => by simp [D.dat]
  | .bl _, _, _, _, _ => by simp [D.dat]
  | .int _, _, _, _, _ => by simp [D.dat]
  | .str _, _, _, _, _ => by simp [D.dat]
  | .tup ds, m, n, h, q => by rw [D.dat] at q ⊢; exact D.datL_mono ds m n h q
  | .lst ds, m, n, h, q => by rw [D.dat] at q ⊢; exact D.datL_mono ds m n h q
  | .way ds, m, n, h, q => by rw [D.dat] at q ⊢; exact D.datL_mono ds m n h q
  | .dic _ _ _, _, _, _, q => by simp [D.dat] at q
  | .ins _ _ _, _, _, _, q => by simp [D.dat] at q
  | .exn _ _ _, _, _, _, q => by simp [D.dat] at q
  | .ref _, _, _, _, q => by simp [D.dat] at q
  | .scr _, _, _, _, q => by simp [D.dat] at q
theorem D.datL_mono : ∀ (ds : List D) (m n : Nat), m ≤ n → D.datL m ds = true → D.datL n ds = true
  | [], _, _, _, _ => rfl
  | d :: ds, m, n, h, q => by
    simp only [D.datL, Bool.and_eq_true, decide_eq_true_eq] at q ⊢
    exact ⟨by omega, D.dat_mono d (m - 1) (n - 1) (by omega) q.2.1, D.datL_mono ds m n h q.2.2⟩
end
theorem dat_of_mem {ds : List D} {d : D} (h : D.datL dp ds = true) (hd : d ∈ ds) : d.dat dp = true := D.dat_mono d (dp - 1) dp (by omega) (datL_mem h d hd)
theorem each_eq {l m : List D} (h : PySem.W.EachIs Eq l m) : l = m := by
  induction h with
  | nil => rfl
  | cons e _ ih => rw [e, ih]
theorem each_self : ∀ l : List D, PySem.W.EachIs Eq l l
  | [] => .nil
  | _ :: l => .cons rfl (each_self l)
section
variable {prog : Program} {w : PySem.World} {A : Around} {E : Value → Shared → Prop} {s : Shared}
open PyProof.Rows PySem.W in
theorem collect_tup {l : Addr} {vs : List Value} {Q : List Value → Shared → Prop} (hl : s.heap.IsTuple l vs.toArray)
    (h : Q vs { s with heap := (s.heap.push (seqObj "list" #[] 0)).update s.heap.objs.size (Obj.mapSeq (· ++ vs.toArray)) }) (hsz : vs.length ≤ sizeLine) :
    wpAny (model prog w) A (collect (.ref l)) Q E s := by
  obtain ⟨o, ho, hc, n, hd⟩ := id hl
  unfold collect
  refine wpAny_bind (wpAny_runValue (codeAny_builtin entry_proto_collect' ?_))
  show wpAny _ _ (do again (.builtin "list.__iadd__" ⟨[← newList [], .ref l], []⟩)) _ _ s
  refine wpAny_bind (wpAny_newList (wpAny_pure ⟨Code.quiet_builtin _ (by decide +kernel), codeAny_builtin entry_list_iadd' ?_⟩))
  show wpAny _ _ (Builtin.List.listExtendWith (.ref s.heap.objs.size) (.ref l) (.ref s.heap.objs.size)) _ _ { s with heap := s.heap.push (seqObj "list" #[] 0) }
  unfold Builtin.List.listExtendWith
  have ho' : (s.heap.push (seqObj "list" #[] 0)).get? l = some o := Heap.get?_push_of_some _ ho
  refine wpAny_bind (wpAny_typeOf (T := "tuple") ⟨o, ho', hc⟩ ?_)
  have ht : (Value.type "tuple" == Value.type "tuple") = true := by rfl
  rw [if_pos (by rw [ht]; simp)]
  refine wpAny_bind (listItems_at ho' hd ?_)
  refine wpAny_bind (listItems_at (xs := #[]) (n := 0) (Heap.get?_push_size _ rfl) rfl ?_)
  rw [if_neg (by simp)]
  refine wpAny_bind (listUpdate_at (xs := #[]) (n := 0) (Heap.get?_push_size _ rfl) rfl ?_ (Nat.zero_le _) (by show (#[] ++ vs.toArray).size ≤ sizeLine + 1; simp only [Array.size_append, List.size_toArray, List.length_nil]; omega))
  refine wpAny_pure ?_
  show wpAny (model prog w) A (do
      let o ← load s.heap.objs.size
      match o.data with
      | .seq xs _ => pure xs.toList
      | _ => unsupported "internal:collect") Q E { s with heap := (s.heap.push (seqObj "list" #[] 0)).update s.heap.objs.size (Obj.mapSeq (· ++ vs.toArray)) }
  refine wpAny_bind (wpAny_load (get?_update_seq (Heap.get?_push_size _ rfl) _) ?_)
  show wpAny _ _ (pure ((#[] : Array Value) ++ vs.toArray).toList) Q E _
  rw [show ((#[] : Array Value) ++ vs.toArray).toList = vs by simp]
  exact wpAny_pure h
open PyProof.Rows PySem.W in
theorem sortedT_of_sort {l : Addr} {vs : List Value} {Q : Value → Shared → Prop} (hl : s.heap.IsTuple l vs.toArray) (hL : vs.length ≤ sizeLine)
    (body : ∀ E' : Value → Shared → Prop, wpAny (model prog w) A.in1.in1 (Builtin.«list.sort» ⟨[.ref (s.heap.objs.size + 1)], []⟩) (fun f s' => f = .done (.ret .none) ∧ Q (.ref (s.heap.objs.size + 1)) s') E' { s with heap := copyHeap s.heap vs }) :
    wpAny (model prog w) A (call (.builtin "sorted") [.ref l]) Q E s := by
  refine call_function_entry_kw kind_sorted plain_sorted entry_sorted (args_sorted1 _) ?_
  unfold Builtin.«sorted»
  refine wpAny_bind (m := checkCount "sorted" 1 1 _) (wpAny_pure ?_)
  refine wpAny_bind (collect_tup hl ?_ hL)
  refine wpAny_bind (wpAny_newList ?_ hL)
  have hsz : ((s.heap.push (seqObj "list" #[] 0)).update s.heap.objs.size (Obj.mapSeq (· ++ vs.toArray))).objs.size = s.heap.objs.size + 1 := by
    rw [Heap.size_update, size_push']
  show wpAny _ _ _ _ _ { s with heap := copyHeap s.heap vs }
  rw [hsz]
  refine wpAny_bind (wpAny_holding (wpAny_call_entry_kw slot_list_sort ⟨_, copyHeap_at s.heap vs, rfl⟩ entry_list_sort ?body (args_list_sort _)))
  case body =>
    show wpAny (model prog w) A.in1.in1 (Builtin.«list.sort» ⟨[.ref (s.heap.objs.size + 1)], []⟩) _ _ _
    refine wpAny_mono (body _) (fun f s' hf => ?_) fun _ _ e => e
    obtain ⟨rfl, hq⟩ := hf
    exact ⟨_, rfl, wpAny_pure ⟨_, rfl, hq⟩⟩
open PyProof.Rows PySem.W in
theorem sortedT_data {β : Type} {vs : List Value} {bs : List β} {enc : β → PyData} {R : Value → β → Prop} {l : Addr} {Q : Value → Shared → Prop} (hl : s.heap.IsTuple l vs.toArray) (e : EachIs R vs bs) (er : EachIs (fun v b => ∃ as, Reads s.heap v (enc b) as) vs bs) (hal : AllAlike (bs.map enc)) (hk : Sortable (bs.map enc)) (hL : bs.length ≤ sizeLine)
    (hu : ∀ b, b ∈ bs → A.units + 2 + (enc b).depth < cLine) (h : ∀ out, out.length = bs.length → EachIs R out (bs.mergeSort (dataLe false enc)) → Q (.ref (s.heap.objs.size + 1)) { s with heap := sortedAll s.heap vs (List.toArray out) }) :
    wpAny (model prog w) A (call (.builtin "sorted") [.ref l]) Q E s := by
  have er' : EachIs (fun v b => ∃ as, Reads (sortingHeap (copyHeap s.heap vs) (s.heap.objs.size + 1) vs) v (enc b) as) vs bs := er.mono fun _ _ ⟨as, r⟩ => ⟨as, PyProof.Rows.Reads.keeps (fun _ _ => sorting_copy_old) r⟩
  have S := SortsAt.data (prog := prog) (w := w) (A := A.in1.in1) (s := { s with heap := sortingHeap (copyHeap s.heap vs) (s.heap.objs.size + 1) vs }) (each_map (R := fun v d => ∃ as, Reads (sortingHeap (copyHeap s.heap vs) (s.heap.objs.size + 1) vs) v d as) enc er') hal hk (bound_map hu)
  exact sortedT_of_sort hl (by rw [e.length]; exact hL) fun _ => list_sort_vals (s := { s with heap := copyHeap s.heap vs }) (copyHeap_at s.heap vs) S (by rw [e.length]; exact hL) ⟨rfl, h _ (by rw [sortVals_length false rfl]; exact e.length) (sortVals_data false e er' hal)⟩
end
section
variable {Y : Sx} {μ : List Addr} {H : Hp}
theorem each_of : ∀ {ys : List V} {us : List Value} {ds : List D}, Vals ys us → RepL Y μ H ys ds → PySem.W.EachIs (fun v d => ∃ y, RelV y v ∧ Rep Y μ H y d) us ds
  | _, _, _, .nil, .nil => .nil
  | _, _, _, .cons r rs, .cons q qs => .cons ⟨_, r, q⟩ (each_of rs qs)
theorem of_each : ∀ {us : List Value} {ds : List D}, PySem.W.EachIs (fun v d => ∃ y, RelV y v ∧ Rep Y μ H y d) us ds → ∃ ys, Vals ys us ∧ RepL Y μ H ys ds
  | _, _, .nil => ⟨[], .nil, .nil⟩
  | _, _, .cons ⟨y, r, q⟩ h => by
    obtain ⟨ys, h1, h2⟩ := of_each h
    exact ⟨y :: ys, .cons r h1, .cons q h2⟩
theorem sortD_some {ds es : List D} (h : sortD ds = some es) : D.datL dp ds = true ∧ ds.length ≤ LIM ∧ (∀ d ∈ ds, d.pd = some (encD d)) ∧ PySem.W.AllAlike (ds.map encD) ∧ PySem.W.Sortable (ds.map encD) ∧ es = ds.mergeSort (PySem.W.dataLe false encD) := by
  unfold sortD at h
  split at h
  · rename_i hd
    rw [Bool.and_eq_true, decide_eq_true_eq] at hd
    split at h
    · rename_i ps e1
      split at h
      · rename_i hc
        rw [Bool.and_eq_true] at hc
        simp only [Option.some.injEq] at h
        obtain ⟨rfl, hp⟩ := pdL_enc e1
        have hal : PySem.W.AllAlike (ds.map encD) := fun d hd d' hd' => List.all_eq_true.mp (List.all_eq_true.mp hc.1 d hd) d' hd'
        have hso : PySem.W.Sortable (ds.map encD) := by
          have h2 := hc.2
          unfold sortOk at h2
          rw [Bool.or_eq_true] at h2
          rcases h2 with h2 | h2
          · refine .inl fun d hd => ?_
            have := List.all_eq_true.mp h2 d hd
            split at this
            · exact ⟨_, _, rfl⟩
            · cases this
          · refine .inr fun d hd => ?_
            have := List.all_eq_true.mp h2 d hd
            split at this
            · cases this
            · cases this
            · rename_i n1 n2
              exact ⟨n1, n2⟩
        refine ⟨hd.1, hd.2, hp, hal, hso, ?_⟩
        rw [← h]
        refine each_eq (PySem.W.sort_each (each_self ds) fun p hp' q hq' => ?_)
        have ep : p.1 = p.2 := (each_self ds).zip p hp'
        have eq : q.1 = q.2 := (each_self ds).zip q hq'
        have m1 : p.1 ∈ ds := (List.of_mem_zip hp').1
        have m2 : q.1 ∈ ds := (List.of_mem_zip hq').1
        rw [← ep, ← eq]
        have nn : encD q.1 ≠ .none := by
          rcases hso with z | z
          · obtain ⟨x, r, e⟩ := z _ (List.mem_map_of_mem m2)
            rw [e]; simp
          · exact (z _ (List.mem_map_of_mem m2)).1
        unfold leD
        rw [ltD_of (dat_of_mem hd.1 m2) (dat_of_mem hd.1 m1) (hp _ m2) (hp _ m1) (hal _ (List.mem_map_of_mem m2) _ (List.mem_map_of_mem m1)) nn]
        rfl
      · cases h
    · cases h
  · cases h
end
end CL
namespace CL
open PySem PySem.Spec PyProof.Rows L2
theorem argBest_congr {f g : Nat → Nat → Bool} : ∀ k, (∀ i j, i ≤ k → j ≤ k → f i j = g i j) → argBest f k = argBest g k ∧ argBest f k ≤ k
  | 0, _ => ⟨rfl, Nat.le_refl _⟩
  | k + 1, h => by
    obtain ⟨i1, i2⟩ := argBest_congr (f := f) (g := g) k fun i j hi hj => h i j (by omega) (by omega)
    have e1 : argBest f (k + 1) = if f (k + 1) (argBest f k) then k + 1 else argBest f k := rfl
    have e2 : argBest g (k + 1) = if g (k + 1) (argBest g k) then k + 1 else argBest g k := rfl
    rw [e1, e2, ← i1, h (k + 1) (argBest f k) (Nat.le_refl _) (by omega)]
    refine ⟨rfl, ?_⟩
    split <;> omega
theorem minL_fold (d : D) : ∀ ds : List D, minL d ds = ds.foldl (fun a y => if (ltD y a).getD false then y else a) d := by
  intro ds
  induction ds generalizing d with
  | nil => rfl
  | cons x ds ih =>
    rw [minL, List.foldl_cons]
    split
    · rw [ih]
    · rw [ih]
theorem maxL_fold (d : D) : ∀ ds : List D, maxL d ds = ds.foldl (fun a y => if (ltD a y).getD false then y else a) d := by
  intro ds
  induction ds generalizing d with
  | nil => rfl
  | cons x ds ih =>
    rw [maxL, List.foldl_cons]
    split
    · rw [ih]
    · rw [ih]
section
variable {prog : Program} {w : PySem.World} {A : Around} {E : Value → Shared → Prop} {s : Shared}
open PySem.W PySem.SeqAt in
theorem min_list_at {l : Addr} {vs : Array Value} {x : PyData} {xs : List PyData} {as : List Addr} {Q : Value → Shared → Prop} (hh : A.handled = none) (hl : s.heap.IsList l vs) (hr : ReadsAll s.heap vs.toList (x :: xs) as) (ha : AlikeAll (x :: xs)) (hu : A.units + 1 + PyData.depthAll (x :: xs) < cLine)
    (h : ∀ v h' tk, vs[argBest (fun i j => dataLt ((x :: xs).getD i .none) ((x :: xs).getD j .none)) xs.length]? = some v → (∀ b o, s.heap.get? b = some o → h'.get? b = some o) → Q v { s with heap := h', toks := tk }) :
    wpAny (model prog w) A (call (.builtin "min") [.ref l]) Q E s := by
  have hn : vs.size = xs.length + 1 := readsAll_len hr
  refine call_min_walkH (iter_listW (A := A.in1) hh hl fun s₂ e W st hfp hw hk => ?_)
  refine ⟨_, _, _, _, _, _, _, s.heap, _, rfl, W, st, hfp, by omega, hw, hk, cmpIn_lt (A := A.in1) hr ha (by show A.units + 1 + _ < _; exact hu), fun v s' hP m => ?_⟩
  obtain ⟨h', tk, rfl, hk'⟩ := moved_old e rfl m
  have e1 : vs.size - 1 = xs.length := by omega
  rw [e1] at hP
  exact h v h' tk hP hk'
open PySem.W PySem.SeqAt in
theorem max_list_at {l : Addr} {vs : Array Value} {x : PyData} {xs : List PyData} {as : List Addr} {Q : Value → Shared → Prop} (hh : A.handled = none) (hl : s.heap.IsList l vs) (hr : ReadsAll s.heap vs.toList (x :: xs) as) (ha : AlikeAll (x :: xs)) (hu : A.units + 1 + PyData.depthAll (x :: xs) < cLine)
    (h : ∀ v h' tk, vs[argBest (fun i j => dataLt ((x :: xs).getD j .none) ((x :: xs).getD i .none)) xs.length]? = some v → (∀ b o, s.heap.get? b = some o → h'.get? b = some o) → Q v { s with heap := h', toks := tk }) :
    wpAny (model prog w) A (call (.builtin "max") [.ref l]) Q E s := by
  have hn : vs.size = xs.length + 1 := readsAll_len hr
  refine call_max_walkH (iter_listW (A := A.in1) hh hl fun s₂ e W st hfp hw hk => ?_)
  refine ⟨_, _, _, _, _, _, _, s.heap, _, rfl, W, st, hfp, by omega, hw, hk, cmpIn_gt (A := A.in1) hr ha (by show A.units + 1 + _ < _; exact hu), fun v s' hP m => ?_⟩
  obtain ⟨h', tk, rfl, hk'⟩ := moved_old e rfl m
  have e1 : vs.size - 1 = xs.length := by omega
  rw [e1] at hP
  exact h v h' tk hP hk'
end
theorem bestD_some {f : D → List D → D} {ds : List D} {r : D} (h : bestD f ds = some r) : ∃ d es, ds = d :: es ∧ r = f d es ∧ D.datL dp ds = true ∧ (∀ x ∈ ds, x.pd = some (encD x)) ∧ PySem.W.AlikeAll (ds.map encD) ∧ D.pdL ds = some (ds.map encD) := by
  cases ds with
  | nil => cases h
  | cons d es =>
    unfold bestD at h
    simp only at h
    split at h
    · rename_i hd
      split at h
      · rename_i ps e1
        split at h
        · rename_i hc
          rw [Bool.and_eq_true] at hc
          simp only [Option.some.injEq] at h
          obtain ⟨rfl, hp⟩ := pdL_enc e1
          refine ⟨d, es, rfl, h.symm, hd, hp, ⟨fun x hx y hy => List.all_eq_true.mp (List.all_eq_true.mp hc.1 x hx) y hy, fun x hx e => ?_⟩, e1⟩
          have := List.all_eq_true.mp hc.2 x hx
          rw [e] at this
          cases this
        · cases h
      · cases h
    · cases h
theorem lt_enc {ds : List D} (hd : D.datL dp ds = true) (hp : ∀ x ∈ ds, x.pd = some (encD x)) (ha : PySem.W.AlikeAll (ds.map encD)) {a b : D} (h1 : a ∈ ds) (h2 : b ∈ ds) : (ltD a b).getD false = PySem.W.dataLt (encD a) (encD b) := by
  rw [ltD_of (dat_of_mem hd h1) (dat_of_mem hd h2) (hp _ h1) (hp _ h2) (ha.1 _ (List.mem_map_of_mem h1) _ (List.mem_map_of_mem h2)) (ha.2 _ (List.mem_map_of_mem h1))]
  rfl
theorem getD_map (ds : List D) (i : Nat) (hi : i < ds.length) : (ds.map encD).getD i .none = encD (ds.getD i .non) := by
  rw [List.getD_eq_getElem?_getD, List.getD_eq_getElem?_getD, List.getElem?_map, List.getElem?_eq_getElem hi]
  rfl
theorem vals_at : ∀ {ys : List V} {us : List Value}, Vals ys us → ∀ {i : Nat} {y : V}, ys[i]? = some y → ∃ u, us[i]? = some u ∧ RelV y u
  | _, _, .nil, i, y, h => by simp at h
  | _, _, .cons r _, 0, y, h => by
    simp at h
    subst h
    exact ⟨_, rfl, r⟩
  | _, _, .cons _ t, i + 1, y, h => by
    obtain ⟨u, h1, h2⟩ := vals_at t (i := i) (by simpa using h)
    exact ⟨u, by simpa using h1, h2⟩
section
variable {X : Cx} {Y : Sx}
theorem reads_list {pins : List (Addr × Obj)} {s : Shared} {σ : L2.St} {H : Hp} {μ : List Addr} {a : Addr} {ys : List V} {ds : List D} {its : List Value} (I : Inv X pins σ H s) (h : H a = some (.lst ys)) (rr : RepL Y μ H ys ds) (r' : Vals ys its) (pl : s.heap.IsList a its.toArray) {ps : List PyData} (e : D.pdL ds = some ps) :
    ∃ as, ReadsAll s.heap its ps as := by
  obtain ⟨as, r⟩ := Rep.reads I (.lst h rr : View Y μ H (.ref a) (.lst ds)) (p := .list ps) (by simp [D.pd, e]) (u := .ref a) rfl
  cases r with
  | list h1 h2 h3 h4 =>
    obtain ⟨o, e1, e2, n, e3⟩ := pl
    rw [h1] at e1
    cases e1
    rw [h3] at e3
    cases e3
    exact ⟨_, h4⟩
end
end CL
namespace CL
open PySem PySem.Spec PyProof.Rows L2
section
variable {X : Cx} {Y : Sx}
theorem view_tru {K : PySem.W.Frag} {μ : List Addr} {H : Hp} {x : V} {d : D} {k : Bool} (h : View Y μ H x d) (e : truD d = some k) : TruV K x H k := by
  cases h with
  | non => simp only [truD, Option.some.injEq] at e; exact e.symm
  | bl b => simp only [truD, Option.some.injEq] at e; exact e.symm
  | int i => simp only [truD, Option.some.injEq] at e; exact e.symm
  | str l =>
    simp only [truD] at e
    split at e
    · rename_i c
      simp only [Option.some.injEq] at e
      refine ⟨by rw [str_len]; exact lim_line c, ?_⟩
      rw [str_len, ← e]
      cases l with
      | nil => rfl
      | cons a l => simp [bne_iff_ne]; omega
    · cases e
  | tup h n r =>
    simp only [truD, Option.some.injEq] at e
    exact .inr (.inl ⟨_, .of h, by rw [r.nil_iff]; exact e.symm⟩)
  | way h _ n r =>
    simp only [truD, Option.some.injEq] at e
    exact .inr (.inl ⟨_, .inl (.inr ⟨_, h⟩), by rw [r.nil_iff]; exact e.symm⟩)
  | lst h r =>
    simp only [truD, Option.some.injEq] at e
    exact .inl ⟨_, .of h, by rw [r.nil_iff]; exact e.symm⟩
  | _ => simp [truD] at e
theorem atD_I {α : Type} {xs : List α} {i : Int} {v : α} (h : atD xs i = some v) : atI xs i = some v := by
  unfold atD at h
  unfold atI ixN
  by_cases h0 : 0 ≤ i
  · rw [if_pos h0] at h
    have hl := (List.getElem?_eq_some_iff.mp h).1
    rw [if_pos h0, if_pos (by omega)]
    exact h
  · rw [if_neg h0] at h
    rw [if_neg h0]
    by_cases h1 : 0 ≤ i + xs.length
    · rw [if_pos h1] at h
      rw [if_pos (by omega)]
      exact h
    · rw [if_neg h1] at h; cases h
theorem atI_rep {μ : List Addr} {H : Hp} {xs : List V} {ds : List D} {i : Int} {d : D} (r : RepL Y μ H xs ds) (h : atD ds i = some d) : ∃ v, atI xs i = some v ∧ Rep Y μ H v d := by
  have hl := r.length
  unfold atD at h
  by_cases h0 : 0 ≤ i
  · rw [if_pos h0] at h
    obtain ⟨v, a, b⟩ := r.get h
    exact ⟨v, atD_I (by unfold atD; rw [if_pos h0]; exact a), b⟩
  · rw [if_neg h0] at h
    by_cases h1 : 0 ≤ i + ds.length
    · rw [if_pos h1] at h
      obtain ⟨v, a, b⟩ := r.get h
      exact ⟨v, atD_I (by unfold atD; rw [if_neg h0, hl, if_pos h1]; exact a), b⟩
    · rw [if_neg h1] at h; cases h
theorem ix_D (hK : Y.ca.K = X.K) (hu : X.A.units + 64 < cLine) : IxR X (opD2 Y idxD) := by
  intro value slice pins s σ H x y v u Q I rx ry h hs
  obtain ⟨Bs, μ, S, d, e, r, w, rd, re, hf, k⟩ := h
  have vd := view_of w rd
  have ve := view_of w re
  revert hf
  generalize vw S d = d' at vd
  generalize vw S e = e' at ve
  intro hf
  cases d' with
  | lst ds =>
    cases e' with
    | int i =>
      cases ve
      cases vd with
      | lst h rl =>
        obtain ⟨z, a, b⟩ := atI_rep rl hf
        exact ix_list value slice pins s σ H _ _ v u Q I rx ry ⟨_, _, i, z, rfl, rfl, .of h, a, k.flat w b⟩ hs
    | _ => simp [idxD] at hf
  | tup ds =>
    cases e' with
    | int i =>
      cases ve
      cases vd with
      | tup h n rl =>
        obtain ⟨z, a, b⟩ := atI_rep rl hf
        exact ix_tup value slice pins s σ H _ _ v u Q I rx ry ⟨_, _, i, z, rfl, rfl, .of h, a, k.flat w b⟩ hs
    | _ => simp [idxD] at hf
  | way ds =>
    cases e' with
    | int i =>
      cases ve
      cases vd with
      | way h ho n rl =>
        obtain ⟨z, a, b⟩ := atI_rep rl hf
        exact ix_tup value slice pins s σ H _ _ v u Q I rx ry ⟨_, _, i, z, rfl, rfl, .inl (.inr ⟨_, h⟩), a, k.flat w b⟩ hs
    | _ => simp [idxD] at hf
  | str l =>
    cases e' with
    | int i =>
      cases ve
      cases vd
      simp only [idxD] at hf
      split at hf
      · rename_i c
        simp only [Option.map_eq_some_iff] at hf
        obtain ⟨ch, a, rfl⟩ := hf
        refine ix_str value slice pins s σ H _ _ v u Q I rx ry ⟨_, i, ch, rfl, rfl, by rw [str_len]; exact lim_line c, atD_I (by simpa using a), k.flat w (.str [ch])⟩ hs
      · cases hf
    | _ => simp [idxD] at hf
  | scr ns =>
    cases e' with
    | int i =>
      cases ve
      cases vd with
      | scr h =>
        simp only [idxD, Option.map_eq_some_iff] at hf
        obtain ⟨n, a, rfl⟩ := hf
        have a' : atI (ns.map V.int) i = some (.int n) := by
          have := atD_I a
          unfold atI at this ⊢
          rw [List.length_map]
          cases q : ixN ns.length i with
          | none => rw [q] at this; cases this
          | some j =>
            rw [q] at this
            simp only [Option.bind_some] at this ⊢
            rw [List.getElem?_map, this]
            rfl
        exact ix_list value slice pins s σ H _ _ v u Q I rx ry ⟨_, _, i, _, rfl, rfl, scr_sql hK h, a', k.flat w (.int n)⟩ hs
    | _ => simp [idxD] at hf
  | dic t ks vs =>
    simp only [idxD] at hf
    split at hf
    · rename_i c
      obtain ⟨a, o, rfl, g, g1, g2⟩ := dget_of vd ve c
      obtain rfl : v = Value.ref a := rx
      obtain ⟨z, e1, rz⟩ := g1 r hf
      rw [e1] at g
      exact tail_any (dict_typeIs I g) PySem.F.slot_dict_getitem.lookup (d_getItem (by omega) I g ry fun w' s3 I3 rw' => ⟨z, H, I3, rw', k.flat w rz⟩) hs
    · cases hf
  | _ => simp [idxD] at hf
theorem clip_sIx (n d : Nat) (v : Int) : HT.sIx n d (some v) = clipI n v := by
  show (if v < 0 then (v + (n : Int)).toNat else min v.toNat n) = clipI n v
  unfold clipI
  by_cases h : v < 0
  · rw [if_pos h, if_pos h]
    omega
  · rw [if_neg h, if_neg h]
theorem cut_sIx {α : Type} (l : List α) (lo hi : Option Int) : cutL l lo hi = (l.drop (HT.sIx l.length 0 lo)).take (HT.sIx l.length l.length hi - HT.sIx l.length 0 lo) := by
  unfold cutL
  cases lo <;> cases hi <;> simp only [clip_sIx, HT.sIx_none]
theorem RepL.cutl {μ : List Addr} {H : Hp} {xs : List V} {ds : List D} (r : RepL Y μ H xs ds) (lo hi : Option Int) : RepL Y μ H (cutV xs lo hi) (cutL ds lo hi) := by
  rw [cut_sIx]
  unfold cutV
  rw [r.length]
  exact (r.drop _).take _
def rSlD (Y : Sx) : V → Option Int → Option Int → Hp → VK → Prop := fun x lo hi H Q => ∃ (Bs : List Nat) (μ : List Addr) (S : Store) (d r : D), World Y Bs μ H S ∧ Rep Y μ H x d ∧ slD lo hi (vw S d) = some r ∧ Fin1 Y Bs μ H S r Q
theorem cutL_whole {α : Type} {l : List α} {lo hi : Option Int} (h : HT.sIx l.length 0 lo = 0 ∧ HT.sIx l.length l.length hi = l.length) : cutL l lo hi = l := by
  rw [cut_sIx, h.1, h.2]
  simp
theorem sIx_whole {α : Type} {l : List α} {lo hi : Option Int} (h : (cutL l lo hi).length = l.length) : HT.sIx l.length 0 lo = 0 ∧ HT.sIx l.length l.length hi = l.length := by
  rw [cut_sIx, List.length_take, List.length_drop] at h
  have h1 : HT.sIx l.length l.length hi ≤ l.length := by
    cases hi with
    | none => rw [HT.sIx_none]; exact Nat.le_refl _
    | some v => rw [clip_sIx]; unfold clipI; split <;> omega
  have h2 : HT.sIx l.length 0 lo ≤ l.length := by
    cases lo with
    | none => rw [HT.sIx_none]; exact Nat.zero_le _
    | some v => rw [clip_sIx]; unfold clipI; split <;> omega
  omega
theorem sl_D : SlR X (rSlD Y) := by
  intro pins s σ H x v vl vu lo hi sl Q I rx hs pl pu h
  obtain ⟨Bs, μ, S, d, r, w, rd, hf, k⟩ := h
  have vd := view_of w rd
  revert hf
  generalize vw S d = d' at vd
  intro hf
  cases vd with
  | lst h rl =>
    simp only [slD, Option.some.injEq] at hf
    subst hf
    exact sl_list pins s σ H _ v vl vu lo hi sl Q I rx hs pl pu ⟨_, _, rfl, .of h, fun p hp => k.lst w (rl.cutl lo hi) hp⟩
  | tup h n rl =>
    simp only [slD, Option.some.injEq] at hf
    subst hf
    refine sl_tupA pins s σ H _ v vl vu lo hi sl Q I rx hs pl pu ⟨_, _, rfl, .of h, fun hw => ?_, fun _ p hp => k.tup w (rl.cutl lo hi) hp⟩
    rw [rl.length] at hw
    rw [cutL_whole hw] at k
    exact k.flat w (.tup h n rl)
  | @way a o xs ds h ho n rl =>
    simp only [slD, Option.some.injEq] at hf
    subst hf
    refine sl_tupA pins s σ H _ v vl vu lo hi sl Q I rx hs pl pu ⟨_, _, rfl, .inl (.inr ⟨_, h⟩), fun hw => ?_, fun hw p hp => ?_⟩
    · rw [rl.length] at hw
      rw [if_pos (by rw [cutL_whole hw])] at k
      exact k.flat w (.way h ho n rl)
    · rw [rl.length] at hw
      rw [if_neg fun e => hw (sIx_whole e)] at k
      exact k.tup w (rl.cutl lo hi) hp
  | str l =>
    simp only [slD] at hf
    split at hf
    · rename_i c
      simp only [Option.some.injEq] at hf
      subst hf
      refine sl_str pins s σ H _ v vl vu lo hi sl Q I rx hs pl pu ⟨_, rfl, by rw [str_len]; exact lim_line c, ?_⟩
      have e : cutS ⟨l.toArray⟩ lo hi = ⟨(cutL l lo hi).toArray⟩ := by
        rw [cut_sIx]
        unfold cutS
        simp only [str_len]
      rw [e]
      exact k.flat w (.str _)
    · cases hf
  | _ => simp [slD] at hf
end
def rFb (Y : Sx) (f : FB) : List V → Hp → VK → Prop := fun xs H Q => ∃ (Bs : List Nat) (μ : List Addr) (S : Store) (ds : List D) (r : D), World Y Bs μ H S ∧ RepL Y μ H xs ds ∧ fbD f (ds.map (vw S)) = some r ∧ Fin1 Y Bs μ H S r Q
def FB.py : FB → String
  | .len => "len" | .str => "str" | .int => "int" | .tuple => "tuple" | .wtuple => "tuple" | .list => "list" | .sorted => "sorted" | .min => "min" | .max => "max" | .abs => "abs" | .sum => "sum" | .all => "all" | .lenSet => "len" | .sortedSet => "sorted"
def FB.ty : FB → Bool
  | .str => true | .int => true | .tuple => true | .wtuple => true | .list => true | _ => false
def FB.cool : FB → Bool
  | .len => true | .str => true | .int => true | .tuple => true | .list => true | .abs => true | _ => false
def FB.val (f : FB) : Value := if f.ty then .type f.py else .builtin f.py
theorem rep1 {Y : Sx} {μ : List Addr} {H : Hp} {xs : List V} {d : D} (r : RepL Y μ H xs [d]) : ∃ x, xs = [x] ∧ Rep Y μ H x d := by
  cases r with
  | cons h t => cases t; exact ⟨_, rfl, h⟩
theorem rep2 {Y : Sx} {μ : List Addr} {H : Hp} {xs : List V} {d e : D} (r : RepL Y μ H xs [d, e]) : ∃ x y, xs = [x, y] ∧ Rep Y μ H x d ∧ Rep Y μ H y e := by
  cases r with
  | cons h t =>
    obtain ⟨y, rfl, hy⟩ := rep1 t
    exact ⟨_, _, rfl, h, hy⟩
theorem repInts {Y : Sx} {μ : List Addr} {H : Hp} : ∀ {xs : List V} {ds : List D} {ns : List Int}, RepL Y μ H xs ds → intsD ds = some ns → xs = ns.map V.int
  | _, _, _, .nil, e => by simp only [intsD, Option.some.injEq] at e; subst e; rfl
  | _, _, _, .cons h t, e => by
    cases h with
    | int i =>
      simp only [intsD, Option.map_eq_some_iff] at e
      obtain ⟨l, e1, rfl⟩ := e
      rw [repInts t e1]; rfl
    | _ => simp [intsD] at e
theorem repBls {Y : Sx} {μ : List Addr} {H : Hp} : ∀ {xs : List V} {ds : List D} {ns : List Bool}, RepL Y μ H xs ds → bls ds = some ns → xs = ns.map V.bl
  | _, _, _, .nil, e => by simp only [bls, Option.some.injEq] at e; subst e; rfl
  | _, _, _, .cons h t, e => by
    cases h with
    | bl i =>
      simp only [bls, Option.map_eq_some_iff] at e
      obtain ⟨l, e1, rfl⟩ := e
      rw [repBls t e1]; rfl
    | _ => simp [bls] at e
theorem repTxts {Y : Sx} {μ : List Addr} {H : Hp} : ∀ {xs : List V} {ds : List D} {ns : List (List Nat)}, RepL Y μ H xs ds → txts ds = some ns → xs = (ns.map fun l => (⟨l.toArray⟩ : Str)).map V.str
  | _, _, _, .nil, e => by simp only [txts, Option.some.injEq] at e; subst e; rfl
  | _, _, _, .cons h t, e => by
    cases h with
    | str i =>
      simp only [txts, Option.map_eq_some_iff] at e
      obtain ⟨l, e1, rfl⟩ := e
      rw [repTxts t e1]; rfl
    | _ => simp [txts] at e
theorem strI_eq (i : Int) : (⟨(strI i).toArray⟩ : Str) = Str.ofString (toString i) := by
  rw [Str.ofString_eq_toList]
  rfl
section
variable {X : Cx} {Y : Sx}
theorem call_fb (hK : Y.ca.K = X.K) (f : FB) (hc : f.cool = true ∨ X.calm = true) (hu : X.A.units + 64 < cLine) : CallR X f.val (rFb Y f) := by
  intro pins s σ H xs us Q I r h
  obtain ⟨Bs, μ, S, ds, res, w, rl, hf, k⟩ := h
  cases f with
  | len =>
    match ds, rl, hf with
    | [d], rl, hf =>
      obtain ⟨x, rfl, rx⟩ := rep1 rl
      have vd := view_of w rx
      revert hf
      simp only [List.map_cons, List.map_nil]
      generalize vw S d = d' at vd
      intro hf
      simp only [fbD, Option.map_eq_some_iff] at hf
      obtain ⟨n, hn, rfl⟩ := hf
      cases vd with
      | str l =>
        simp only [lenD] at hn
        split at hn
        · rename_i c
          simp only [Option.some.injEq] at hn
          subst hn
          exact call_len pins s σ H _ us Q I r ⟨_, _, rfl, ⟨by rw [str_len]; exact lim_line c, (str_len l).symm⟩, k.flat w (.int _)⟩
        · cases hn
      | lst h rr =>
        simp only [lenD, Option.some.injEq] at hn
        subst hn
        exact call_len pins s σ H _ us Q I r ⟨_, _, rfl, .inl ⟨_, .of h, rr.length.symm⟩, k.flat w (.int _)⟩
      | tup h n rr =>
        simp only [lenD, Option.some.injEq] at hn
        subst hn
        exact call_len pins s σ H _ us Q I r ⟨_, _, rfl, .inr ⟨_, .of h, rr.length.symm⟩, k.flat w (.int _)⟩
      | way h ho n rr =>
        simp only [lenD, Option.some.injEq] at hn
        subst hn
        exact call_len pins s σ H _ us Q I r ⟨_, _, rfl, .inr ⟨_, .inl (.inr ⟨_, h⟩), rr.length.symm⟩, k.flat w (.int _)⟩
      | scr h =>
        simp only [lenD, Option.some.injEq] at hn
        subst hn
        exact call_len pins s σ H _ us Q I r ⟨_, _, rfl, .inl ⟨_, scr_sql hK h, by simp⟩, k.flat w (.int _)⟩
      | dicK h rr =>
        simp only [lenD, Option.some.injEq] at hn
        subst hn
        obtain ⟨u, rfl, ru⟩ := vals1 r
        cases ru
        exact d_len I (.inl h) fun t s' I' => ⟨.int _, H, I', ⟨t, by simp⟩, k.flat w (.int _)⟩
      | _ => simp [lenD] at hn
    | [], _, hf => simp [fbD] at hf
    | _ :: _ :: _, _, hf => simp [fbD] at hf
  | str =>
    match ds, rl, hf with
    | [d], rl, hf =>
      obtain ⟨x, rfl, rx⟩ := rep1 rl
      have vd := view_of w rx
      revert hf
      simp only [List.map_cons, List.map_nil]
      generalize vw S d = d' at vd
      intro hf
      cases vd with
      | str l =>
        simp only [fbD, Option.some.injEq] at hf
        subst hf
        exact SkE.call_str_str pins s σ H _ us Q I r ⟨_, rfl, k.flat w (.str l)⟩
      | int i =>
        simp only [fbD] at hf
        split at hf
        · rename_i c
          simp only [Option.some.injEq] at hf
          subst hf
          refine call_str_int pins s σ H _ us Q I r ⟨i, rfl, ?_, ?_⟩
          · exact Nat.lt_trans (PySem.Flt.log2_lt_of (by decide) c) (by decide)
          · have := k.flat w (.str (strI i))
            rw [strI_eq] at this
            exact this
        · cases hf
      | _ => simp [fbD] at hf
    | [], _, hf => simp [fbD] at hf
    | _ :: _ :: _, _, hf => simp [fbD] at hf
  | int =>
    match ds, rl, hf with
    | [d], rl, hf =>
      obtain ⟨x, rfl, rx⟩ := rep1 rl
      have vd := view_of w rx
      revert hf
      simp only [List.map_cons, List.map_nil]
      generalize vw S d = d' at vd
      intro hf
      cases vd with
      | int i =>
        simp only [fbD, Option.some.injEq] at hf
        subst hf
        exact call_int1 pins s σ H _ us Q I r (.inl ⟨_, rfl, k.flat w (.int _)⟩)
      | bl b =>
        simp only [fbD, Option.some.injEq] at hf
        subst hf
        exact call_int1 pins s σ H _ us Q I r (.inr ⟨_, rfl, k.flat w (.int _)⟩)
      | str l =>
        simp only [fbD] at hf
        split at hf
        · rename_i c
          simp only [Option.map_eq_some_iff] at hf
          obtain ⟨n, hn, rfl⟩ := hf
          exact call_int_str pins s σ H _ us Q I r ⟨_, n, rfl, hn, by rw [str_len]; exact c, k.flat w (.int _)⟩
        · cases hf
      | _ => simp [fbD] at hf
    | [], _, hf => simp [fbD] at hf
    | _ :: _ :: _, _, hf => simp [fbD] at hf
  | tuple =>
    match ds, rl, hf with
    | [d], rl, hf =>
      obtain ⟨x, rfl, rx⟩ := rep1 rl
      have vd := view_of w rx
      revert hf
      simp only [List.map_cons, List.map_nil]
      generalize vw S d = d' at vd
      intro hf
      cases vd with
      | lst h rr =>
        simp only [fbD, Option.some.injEq] at hf
        subst hf
        exact call_tuple_of pins s σ H _ us Q I r ⟨_, _, rfl, .inl ⟨.of h, fun l hl => k.tup w rr hl⟩⟩
      | tup h n rr =>
        simp only [fbD, Option.some.injEq] at hf
        subst hf
        exact call_tuple_of pins s σ H _ us Q I r ⟨_, _, rfl, .inr ⟨.of h, k.flat w (.tup h n rr)⟩⟩
      | _ => simp [fbD] at hf
    | [], _, hf => simp [fbD] at hf
    | _ :: _ :: _, _, hf => simp [fbD] at hf
  | list =>
    match ds, rl, hf with
    | [d], rl, hf =>
      obtain ⟨x, rfl, rx⟩ := rep1 rl
      have vd := view_of w rx
      revert hf
      simp only [List.map_cons, List.map_nil]
      generalize vw S d = d' at vd
      intro hf
      cases vd with
      | lst h rr =>
        simp only [fbD, Option.some.injEq] at hf
        subst hf
        exact call_list_of pins s σ H _ us Q I r ⟨_, _, rfl, .inl (.of h), fun l hl => k.lst w rr hl⟩
      | tup h n rr =>
        simp only [fbD, Option.some.injEq] at hf
        subst hf
        exact call_list_of pins s σ H _ us Q I r ⟨_, _, rfl, .inr (.of h), fun l hl => k.lst w rr hl⟩
      | way h ho n rr =>
        simp only [fbD, Option.some.injEq] at hf
        subst hf
        exact call_list_of pins s σ H _ us Q I r ⟨_, _, rfl, .inr (.inl (.inr ⟨_, h⟩)), fun l hl => k.lst w rr hl⟩
      | _ => simp [fbD] at hf
    | [], _, hf => simp [fbD] at hf
    | _ :: _ :: _, _, hf => simp [fbD] at hf
  | abs =>
    match ds, rl, hf with
    | [d], rl, hf =>
      obtain ⟨x, rfl, rx⟩ := rep1 rl
      have vd := view_of w rx
      revert hf
      simp only [List.map_cons, List.map_nil]
      generalize vw S d = d' at vd
      intro hf
      cases vd with
      | int i =>
        simp only [fbD, Option.some.injEq] at hf
        subst hf
        exact call_abs pins s σ H _ us Q I r ⟨_, rfl, k.flat w (.int _)⟩
      | _ => simp [fbD] at hf
    | [], _, hf => simp [fbD] at hf
    | _ :: _ :: _, _, hf => simp [fbD] at hf
  | sum =>
    match ds, rl, hf with
    | [d], rl, hf =>
      obtain ⟨x, rfl, rx⟩ := rep1 rl
      have vd := view_of w rx
      revert hf
      simp only [List.map_cons, List.map_nil]
      generalize vw S d = d' at vd
      intro hf
      cases vd with
      | lst h rr =>
        simp only [fbD, Option.map_eq_some_iff] at hf
        obtain ⟨ns, hn, rfl⟩ := hf
        have e := repInts rr hn
        subst e
        exact cr_sum (hc.resolve_left nofun) pins s σ H _ us Q I r ⟨_, ns, rfl, .of h, k.flat w (.int _)⟩
      | _ => simp [fbD] at hf
    | [], _, hf => simp [fbD] at hf
    | _ :: _ :: _, _, hf => simp [fbD] at hf
  | all =>
    match ds, rl, hf with
    | [d], rl, hf =>
      obtain ⟨x, rfl, rx⟩ := rep1 rl
      have vd := view_of w rx
      revert hf
      simp only [List.map_cons, List.map_nil]
      generalize vw S d = d' at vd
      intro hf
      cases vd with
      | lst h rr =>
        simp only [fbD, Option.map_eq_some_iff] at hf
        obtain ⟨ns, hn, rfl⟩ := hf
        have e := repBls rr hn
        subst e
        exact cr_all (hc.resolve_left nofun) pins s σ H _ us Q I r ⟨_, ns, rfl, .of h, k.flat w (.bl _)⟩
      | _ => simp [fbD] at hf
    | [], _, hf => simp [fbD] at hf
    | _ :: _ :: _, _, hf => simp [fbD] at hf
  | min =>
    match ds, rl, hf with
    | [d, e], rl, hf =>
      obtain ⟨x, y, rfl, rx, ry⟩ := rep2 rl
      have vd := view_of w rx
      have ve := view_of w ry
      revert hf
      simp only [List.map_cons, List.map_nil]
      generalize vw S d = d' at vd
      generalize vw S e = e' at ve
      intro hf
      cases vd with
      | int i =>
        cases ve with
        | int j =>
          simp only [fbD, Option.some.injEq] at hf
          subst hf
          exact call_min2 (hc.resolve_left nofun) pins s σ H _ us Q I r ⟨i, j, rfl, k.flat w (.int _)⟩
        | _ => simp [fbD] at hf
      | _ => simp [fbD] at hf
    | [d], rl, hf =>
      obtain ⟨x, rfl, rx⟩ := rep1 rl
      have vd := view_of w rx
      revert hf
      simp only [List.map_cons, List.map_nil]
      generalize vw S d = d' at vd
      intro hf
      cases vd with
      | @lst a ys es h rr =>
        simp only [fbD] at hf
        obtain ⟨d0, ds0, rfl, rfl, hd, hp, hal, hpl⟩ := bestD_some hf
        obtain ⟨u, rfl, rx⟩ := vals1 r
        cases rx
        obtain ⟨its, r', pl, hz⟩ := I.list (.of h)
        obtain ⟨as, hR⟩ := reads_list (Y := Y) (μ := μ) I h rr r' pl.isList hpl
        have dh := dat_pd dp (.lst (d0 :: ds0)) (by simpa [D.dat] using hd)
        obtain ⟨p, e1, _, d1⟩ := dh
        have hdep : PyData.depthAll ((d0 :: ds0).map encD) + 1 ≤ dp + 1 := by
          have e2 : (D.lst (d0 :: ds0)).pd = some (.list ((d0 :: ds0).map encD)) := by simp only [D.pd, hpl, Option.map_some]
          rw [e2] at e1
          cases e1
          simp only [PyData.depth] at d1
          omega
        simp only [List.map_cons] at hdep
        refine min_list_at (x := encD d0) (xs := ds0.map encD) (hc.resolve_left nofun |> fun q => I.ok.hd q) pl.isList hR hal (by unfold dp at hdep; omega) fun v h' tk hv hk => ?_
        have cg := argBest_congr (f := fun i j => PySem.W.dataLt ((encD d0 :: ds0.map encD).getD i .none) ((encD d0 :: ds0.map encD).getD j .none)) (g := fun i j => (ltD ((d0 :: ds0).getD i .non) ((d0 :: ds0).getD j .non)).getD false) ds0.length (fun i j hi hj => by
          have li : i < (d0 :: ds0).length := by rw [List.length_cons]; omega
          have lj : j < (d0 :: ds0).length := by rw [List.length_cons]; omega
          have mi : (d0 :: ds0).getD i .non ∈ d0 :: ds0 := by rw [List.getD_eq_getElem?_getD, List.getElem?_eq_getElem li]; exact List.getElem_mem li
          have mj : (d0 :: ds0).getD j .non ∈ d0 :: ds0 := by rw [List.getD_eq_getElem?_getD, List.getElem?_eq_getElem lj]; exact List.getElem_mem lj
          show PySem.W.dataLt (((d0 :: ds0).map encD).getD i .none) (((d0 :: ds0).map encD).getD j .none) = _
          rw [getD_map _ i li, getD_map _ j lj, lt_enc hd hp hal mi mj])
        have fo := PySem.W.argBest_fold (fun a b => (ltD a b).getD false) D.non d0 ds0 ds0.length (Nat.le_refl _)
        rw [List.take_length] at fo
        rw [List.length_map] at hv
        have hle := cg.2
        rw [cg.1] at hv hle
        have hit : ys[argBest (fun i j => (ltD ((d0 :: ds0).getD i .non) ((d0 :: ds0).getD j .non)).getD false) ds0.length]? ≠ none := by
          intro q
          rw [List.getElem?_eq_none_iff] at q
          have := rr.length
          rw [List.length_cons] at this
          omega
        obtain ⟨y, hy⟩ := Option.ne_none_iff_exists'.mp hit
        obtain ⟨dd, hdd, ry⟩ := rr.get' hy
        obtain ⟨v2, hv2, rv⟩ := vals_at r' hy
        have ev : v = v2 := by
          rw [List.getElem?_toArray] at hv
          exact Option.some.inj (hv.symm.trans hv2)
        subst ev
        have edd : dd = minL d0 ds0 := by
          rw [minL_fold, ← fo.2, List.getD_eq_getElem?_getD, hdd]
          rfl
        subst edd
        exact ⟨y, H, I.kept (t' := tk) hk, rv, k.flat w ry⟩
      | _ => simp [fbD] at hf
    | [], _, hf => simp [fbD] at hf
    | _ :: _ :: _ :: _, _, hf => simp [fbD] at hf
  | max =>
    match ds, rl, hf with
    | [d, e], rl, hf =>
      obtain ⟨x, y, rfl, rx, ry⟩ := rep2 rl
      have vd := view_of w rx
      have ve := view_of w ry
      revert hf
      simp only [List.map_cons, List.map_nil]
      generalize vw S d = d' at vd
      generalize vw S e = e' at ve
      intro hf
      cases vd with
      | int i =>
        cases ve with
        | int j =>
          simp only [fbD, Option.some.injEq] at hf
          subst hf
          exact call_max2 (hc.resolve_left nofun) pins s σ H _ us Q I r ⟨i, j, rfl, k.flat w (.int _)⟩
        | _ => simp [fbD] at hf
      | str a =>
        cases ve with
        | str b =>
          simp only [fbD, Option.some.injEq] at hf
          subst hf
          refine call_maxS (hc.resolve_left nofun) pins s σ H _ us Q I r ⟨_, _, rfl, ?_⟩
          by_cases c : a < b
          · rw [if_pos c] at k
            rw [if_pos (by simpa using c)]
            exact k.flat w (.str b)
          · rw [if_neg c] at k
            rw [if_neg (by simpa using c)]
            exact k.flat w (.str a)
        | _ => simp [fbD] at hf
      | _ => simp [fbD] at hf
    | [d], rl, hf =>
      obtain ⟨x, rfl, rx⟩ := rep1 rl
      have vd := view_of w rx
      revert hf
      simp only [List.map_cons, List.map_nil]
      generalize vw S d = d' at vd
      intro hf
      cases vd with
      | @lst a ys es h rr =>
        simp only [fbD] at hf
        obtain ⟨d0, ds0, rfl, rfl, hd, hp, hal, hpl⟩ := bestD_some hf
        obtain ⟨u, rfl, rx⟩ := vals1 r
        cases rx
        obtain ⟨its, r', pl, hz⟩ := I.list (.of h)
        obtain ⟨as, hR⟩ := reads_list (Y := Y) (μ := μ) I h rr r' pl.isList hpl
        have dh := dat_pd dp (.lst (d0 :: ds0)) (by simpa [D.dat] using hd)
        obtain ⟨p, e1, _, d1⟩ := dh
        have hdep : PyData.depthAll ((d0 :: ds0).map encD) + 1 ≤ dp + 1 := by
          have e2 : (D.lst (d0 :: ds0)).pd = some (.list ((d0 :: ds0).map encD)) := by simp only [D.pd, hpl, Option.map_some]
          rw [e2] at e1
          cases e1
          simp only [PyData.depth] at d1
          omega
        simp only [List.map_cons] at hdep
        refine max_list_at (x := encD d0) (xs := ds0.map encD) (hc.resolve_left nofun |> fun q => I.ok.hd q) pl.isList hR hal (by unfold dp at hdep; omega) fun v h' tk hv hk => ?_
        have cg := argBest_congr (f := fun i j => PySem.W.dataLt ((encD d0 :: ds0.map encD).getD j .none) ((encD d0 :: ds0.map encD).getD i .none)) (g := fun i j => (ltD ((d0 :: ds0).getD j .non) ((d0 :: ds0).getD i .non)).getD false) ds0.length (fun i j hi hj => by
          have li : i < (d0 :: ds0).length := by rw [List.length_cons]; omega
          have lj : j < (d0 :: ds0).length := by rw [List.length_cons]; omega
          have mi : (d0 :: ds0).getD i .non ∈ d0 :: ds0 := by rw [List.getD_eq_getElem?_getD, List.getElem?_eq_getElem li]; exact List.getElem_mem li
          have mj : (d0 :: ds0).getD j .non ∈ d0 :: ds0 := by rw [List.getD_eq_getElem?_getD, List.getElem?_eq_getElem lj]; exact List.getElem_mem lj
          show PySem.W.dataLt (((d0 :: ds0).map encD).getD j .none) (((d0 :: ds0).map encD).getD i .none) = _
          rw [getD_map _ j lj, getD_map _ i li, lt_enc hd hp hal mj mi])
        have fo := PySem.W.argBest_fold (fun a b => (ltD b a).getD false) D.non d0 ds0 ds0.length (Nat.le_refl _)
        rw [List.take_length] at fo
        rw [List.length_map] at hv
        have hle := cg.2
        rw [cg.1] at hv hle
        have hit : ys[argBest (fun i j => (ltD ((d0 :: ds0).getD j .non) ((d0 :: ds0).getD i .non)).getD false) ds0.length]? ≠ none := by
          intro q
          rw [List.getElem?_eq_none_iff] at q
          have := rr.length
          rw [List.length_cons] at this
          omega
        obtain ⟨y, hy⟩ := Option.ne_none_iff_exists'.mp hit
        obtain ⟨dd, hdd, ry⟩ := rr.get' hy
        obtain ⟨v2, hv2, rv⟩ := vals_at r' hy
        have ev : v = v2 := by
          rw [List.getElem?_toArray] at hv
          exact Option.some.inj (hv.symm.trans hv2)
        subst ev
        have edd : dd = maxL d0 ds0 := by
          rw [maxL_fold, ← fo.2, List.getD_eq_getElem?_getD, hdd]
          rfl
        subst edd
        exact ⟨y, H, I.kept (t' := tk) hk, rv, k.flat w ry⟩
      | _ => simp [fbD] at hf
    | [], _, hf => simp [fbD] at hf
    | _ :: _ :: _ :: _, _, hf => simp [fbD] at hf
  | sorted =>
    match ds, rl, hf with
    | [d], rl, hf =>
      obtain ⟨x, rfl, rx⟩ := rep1 rl
      have vd := view_of w rx
      revert hf
      simp only [List.map_cons, List.map_nil]
      generalize vw S d = d' at vd
      intro hf
      cases vd with
      | lst h rr =>
        simp only [fbD, Option.map_eq_some_iff] at hf
        obtain ⟨es, hs, rfl⟩ := hf
        obtain ⟨hd, hl, hp, hal, hso, rfl⟩ := sortD_some hs
        obtain ⟨u, rfl, rx⟩ := vals1 r
        cases rx
        obtain ⟨its, r', pl, hz⟩ := I.list (.of h)
        have ea := each_of r' rr
        have hlen := ea.length
        refine PySem.W.sorted_data (enc := encD) (pl.isList) ea ?_ hal hso (by have := lim_line hl; omega) ?_ ?_
        · refine PySem.W.EachIs.of_zip hlen fun p hm => ?_
          obtain ⟨y, ry, rp⟩ := ea.zip p hm
          have hq := hp _ (List.of_mem_zip hm).2
          have vv := view_of w rp
          have e2 : vw S p.2 = p.2 := by
            cases hc : p.2 with
            | ref i => rw [hc] at hq; simp [D.pd] at hq
            | _ => rfl
          rw [e2] at vv
          exact Rep.reads I vv hq ry
        · intro b hb
          obtain ⟨p, e1, _, d1⟩ := dat_pd dp b (dat_of_mem hd hb)
          have : encD b = p := by unfold encD; rw [e1]; rfl
          rw [this]
          unfold dp at d1
          omega
        · intro out ho he
          obtain ⟨ys', r1, r2⟩ := of_each he
          obtain ⟨c, hc⟩ := sortedAll_at s.heap its out.toArray
          have hz' : ys'.length ≤ sizeLine := by
            have := r1.length
            have := lim_line hl
            omega
          exact ⟨.ref (s.heap.objs.size + 1), _, I.laid (t' := s.toks) (fun b o => sortedAll_old) (Nat.le_succ _) (show ObjOk X.prog X.w _ _ _ (.lst ys') from ⟨hz', out, c, r1, hc⟩), rfl, k.lst w r2 (I.hok.fresh (Nat.le_succ _))⟩
      | tup h n rr =>
        simp only [fbD, Option.map_eq_some_iff] at hf
        obtain ⟨es, hs, rfl⟩ := hf
        obtain ⟨hd, hl, hp, hal, hso, rfl⟩ := sortD_some hs
        obtain ⟨u, rfl, rx⟩ := vals1 r
        cases rx
        obtain ⟨its, r', pl, hz⟩ := I.tuple (.of h)
        have ea := each_of r' rr
        have hlen := ea.length
        refine sortedT_data (enc := encD) pl ea ?_ hal hso (by have := lim_line hl; omega) ?_ ?_
        · refine PySem.W.EachIs.of_zip hlen fun p hm => ?_
          obtain ⟨y, ry, rp⟩ := ea.zip p hm
          have hq := hp _ (List.of_mem_zip hm).2
          have vv := view_of w rp
          have e2 : vw S p.2 = p.2 := by
            cases hc : p.2 with
            | ref i => rw [hc] at hq; simp [D.pd] at hq
            | _ => rfl
          rw [e2] at vv
          exact Rep.reads I vv hq ry
        · intro b hb
          obtain ⟨p, e1, _, d1⟩ := dat_pd dp b (dat_of_mem hd hb)
          have : encD b = p := by unfold encD; rw [e1]; rfl
          rw [this]
          unfold dp at d1
          omega
        · intro out ho he
          obtain ⟨ys', r1, r2⟩ := of_each he
          obtain ⟨c, hc⟩ := sortedAll_at s.heap its out.toArray
          have hz' : ys'.length ≤ sizeLine := by
            have := r1.length
            have := lim_line hl
            omega
          exact ⟨.ref (s.heap.objs.size + 1), _, I.laid (t' := s.toks) (fun b o => sortedAll_old) (Nat.le_succ _) (show ObjOk X.prog X.w _ _ _ (.lst ys') from ⟨hz', out, c, r1, hc⟩), rfl, k.lst w r2 (I.hok.fresh (Nat.le_succ _))⟩
      | _ => simp [fbD] at hf
    | [], _, hf => simp [fbD] at hf
    | _ :: _ :: _, _, hf => simp [fbD] at hf
  | wtuple =>
    match ds, rl, hf with
    | [d], rl, hf =>
      obtain ⟨x, rfl, rx⟩ := rep1 rl
      have vd := view_of w rx
      revert hf
      simp only [List.map_cons, List.map_nil]
      generalize vw S d = d' at vd
      intro hf
      cases vd with
      | lst h rr =>
        simp only [fbD, Option.some.injEq] at hf
        subst hf
        obtain ⟨u, rfl, rx⟩ := vals1 r
        cases rx
        obtain ⟨its, r', pl, hz⟩ := I.list (.of h)
        have hlen := r'.length
        refine call_tuple_list pl.isList (fun h' kp => ?_) (by simp only [List.size_toArray] <;> omega)
        have I1 : Inv X pins σ H { s with heap := h' } := I.kept (t' := s.toks) kp
        have I2 : Inv X pins σ (upd H h'.objs.size (.frz { cls := .type "tuple", data := .seq its.toArray } (.tup _))) { s with heap := h'.push { cls := .type "tuple", data := .seq its.toArray } } :=
          I1.laid (t' := s.toks) (fun b o e => Heap.get?_push_of_some _ e) (Nat.le_refl _) (show ObjOk X.prog X.w _ _ _ (.frz _ (.tup _)) from ⟨Heap.get?_push_size _ rfl, hz, its, r', IsTup.new _ _⟩)
        have hp := I1.hok.fresh (Nat.le_refl _)
        exact ⟨.ref h'.objs.size, _, I2, rfl, k μ _ _ (.laid hp) (w.laid hp) (.way upd_same rfl (w.fresh hp) (rr.ext (.laid hp)))⟩
      | _ => simp [fbD] at hf
    | [], _, hf => simp [fbD] at hf
    | _ :: _ :: _, _, hf => simp [fbD] at hf
  | _ => simp [fbD] at hf
end
end CL
namespace CL
open PySem PySem.Spec PyProof.Rows L2
def tyOf : Nat → String
  | 1 => "str" | 2 => "list" | 3 => "tuple" | _ => ""
def MB.py : MB → String
  | .join => "join" | .split => "split" | .partition => "partition" | .startswith => "startswith" | .index => "index" | .count => "count" | .append => "append" | .pop => "pop" | .popAt => "pop" | .insert => "insert" | .reverse => "reverse" | .extend => "extend" | .remove => "remove" | .clear => "clear" | .get => "get"
theorem mb_facts {m : MB} {k : Nat} {id : String} (h : mbId m k = some id) : PlainAttrs (tyOf k) ∧ Slot (tyOf k) (nm m.py) id ∧ typeOf (.builtin id) = pure (.type "method_descriptor") := by
  unfold mbId at h
  split at h <;> first
    | (obtain rfl := Option.some.inj h; first
        | exact ⟨PySem.F.plainAttrs_str, PySem.F.slot_str_join, PySem.F.type_str_join⟩
        | exact ⟨PySem.F.plainAttrs_str, PySem.F.slot_str_split, PySem.F.type_str_split⟩
        | exact ⟨PySem.F.plainAttrs_str, PySem.F.slot_str_partition, PySem.F.type_str_partition⟩
        | exact ⟨PySem.F.plainAttrs_str, PySem.F.slot_str_startswith, PySem.F.type_str_startswith⟩
        | exact ⟨PySem.F.plainAttrs_str, PySem.F.slot_str_index, PySem.F.type_str_index⟩
        | exact ⟨PySem.F.plainAttrs_list, PySem.F.slot_list_index, PySem.F.type_list_index⟩
        | exact ⟨PySem.F.plainAttrs_tuple, PySem.F.slot_tuple_index, PySem.F.type_tuple_index⟩
        | exact ⟨PySem.F.plainAttrs_list, PySem.F.slot_list_count, PySem.F.type_list_count⟩
        | exact ⟨PySem.F.plainAttrs_list, PySem.F.slot_list_append, PySem.F.type_list_append⟩
        | exact ⟨PySem.F.plainAttrs_list, PySem.F.slot_list_extend, PySem.F.type_list_extend⟩
        | exact ⟨PySem.F.plainAttrs_list, PySem.F.slot_list_pop, PySem.F.type_list_pop⟩
        | exact ⟨PySem.F.plainAttrs_list, PySem.F.slot_list_insert, PySem.F.type_list_insert⟩
        | exact ⟨PySem.F.plainAttrs_list, PySem.F.slot_list_reverse, PySem.F.type_list_reverse⟩
        | exact ⟨PySem.F.plainAttrs_list, PySem.F.slot_list_clear, PySem.F.type_list_clear⟩
        | exact ⟨PySem.F.plainAttrs_list, PySem.F.slot_list_remove, PySem.F.type_list_remove⟩)
    | cases h
theorem place_pd (x : D) (p : PyData) (ex : x.pd = some p) : ∀ (ds : List D) (ps : List PyData) (n : Nat), D.pdL ds = some ps → placeD x ds = some n → PySem.SeqAt.dataPlace ps p = some n
  | [], ps, n, h, e => by simp [placeD] at e
  | d :: ds, ps, n, h, e => by
    obtain ⟨q, qs, rfl, e1, e2⟩ : ∃ q qs, ps = q :: qs ∧ d.pd = some q ∧ D.pdL ds = some qs := by
      simp only [D.pdL] at h
      split at h
      · rename_i a b e1 e2
        simp only [Option.some.injEq] at h; exact ⟨_, _, h.symm, e1, e2⟩
      · cases h
    unfold PySem.SeqAt.dataPlace
    rw [List.findIdx?_cons, eqv_pd d x q p e1 ex]
    simp only [placeD] at e
    cases hq : D.eqv d x with
    | true =>
      rw [hq] at e
      simp only [if_true, Option.some.injEq] at e
      subst e
      simp
    | false =>
      rw [hq] at e
      simp only [Bool.false_eq_true, if_false, Option.map_eq_some_iff] at e
      obtain ⟨m, em, rfl⟩ := e
      have ih := place_pd x p ex ds qs m e2 em
      unfold PySem.SeqAt.dataPlace at ih
      simp [ih]
theorem count_pd (x : D) (p : PyData) (ex : x.pd = some p) : ∀ (ds : List D) (ps : List PyData), D.pdL ds = some ps → (ps.countP fun y => PyData.eqv y p) = ds.countP fun y => D.eqv y x
  | [], ps, h => by simp only [D.pdL, Option.some.injEq] at h; subst h; rfl
  | d :: ds, ps, h => by
    simp only [D.pdL] at h
    split at h
    · rename_i a b e1 e2
      simp only [Option.some.injEq] at h
      subst h
      rw [List.countP_cons, List.countP_cons, eqv_pd d x a p e1 ex, count_pd x p ex ds b e2]
    · cases h
theorem place_lt (x : D) : ∀ (ds : List D) (n : Nat), placeD x ds = some n → n < ds.length
  | [], n, e => by simp [placeD] at e
  | d :: ds, n, e => by
    simp only [placeD] at e
    split at e
    · simp only [Option.some.injEq] at e; subst e; simp
    · simp only [Option.map_eq_some_iff] at e
      obtain ⟨m, em, rfl⟩ := e
      have := place_lt x ds m em
      simp; omega
theorem tD_rep {Y : Sx} {μ : List Addr} {H : Hp} (x : Str) : Rep Y μ H (.str x) (tD x) := by
  have := Rep.str (Y := Y) (μ := μ) (H := H) x.cps.toList
  exact this
theorem tDs_rep {Y : Sx} {μ : List Addr} {H : Hp} : ∀ xs : List Str, RepL Y μ H (xs.map V.str) (xs.map tD)
  | [] => .nil
  | x :: xs => .cons (tD_rep x) (tDs_rep xs)
theorem limL_of {n : Nat} {ds es xs : List D} (h : ∀ d ∈ es, d ∈ ds ∨ d ∈ xs) (h1 : D.limL n ds = true) (h2 : D.limL n xs = true) : D.limL n es = true := by
  rw [D.limL_all, List.all_eq_true] at *
  intro d hd
  rcases h d hd with q | q
  · exact h1 d q
  · exact h2 d q
theorem mem_eraseIdx {α : Type} {l : List α} {i : Nat} {x : α} (h : x ∈ l.eraseIdx i) : x ∈ l := List.mem_of_mem_eraseIdx h
section
variable {X : Cx} {Y : Sx}
variable {pins : List (Addr × Obj)} {s : Shared} {σ : L2.St} {H : Hp} {v : Value} {us : List Value} {Q : VK} {W : WX} {x : V} {xs : List V} {μ : List Addr} {Bs : List Nat} {S : Store} {a : D} {ds : List D} {m : MB} {b : Nat} {id : String}
theorem mb_D (hu : X.A.units + 64 < cLine) (hid : mbId m (kindD (vw S a)) = some id) (I : Inv X pins σ H s) (rx : RelV x v) (rv : Vals xs us) (w : World Y Bs μ H S) (ra : Rep Y μ H x a) (rl : RepL Y μ H xs ds)
    {r : D} (hf : mbD m (vw S a) (ds.map (vw S)) = some r) (k : Fin1 Y Bs μ H S r Q) : wpAny (model X.prog X.w) X.A (call (.builtin id) (v :: us)) (EP X pins σ Q) X.xe s := by
  have va := view_of w ra
  revert hf hid
  generalize vw S a = a' at va
  intro hid hf
  cases m with
  | join =>
    cases a' with
    | str sep =>
      cases va
      match ds, rl, hf with
      | [d], rl, hf =>
        obtain ⟨y, rfl, ry⟩ := rep1 rl
        have vd := view_of w ry
        revert hf
        simp only [List.map_cons, List.map_nil]
        generalize vw S d = d' at vd
        intro hf
        cases vd with
        | lst h rr =>
          simp only [mbD] at hf
          split at hf
          · rename_i ls hl
            split at hf
            · rename_i c
              simp only [Option.some.injEq] at hf
              subst hf
              have e := repTxts rr hl
              subst e
              obtain rfl := (Option.some.inj hid).symm
              refine mt_join pins s σ H _ _ v us Q I rx rv ⟨_, _, ls.map sT, rfl, rfl, .inl (.of h), ?_, k.flat w (tD_rep _)⟩
              rw [List.map_map, List.length_map, str_len]
              have : (Str.length ∘ sT) = (List.length : List Nat → Nat) := by
                funext l; exact str_len l
              have e2 : (ls.map (fun x => Str.length (sT x))) = ls.map List.length := by
                refine List.map_congr_left fun l _ => str_len l
              show ((ls.map (fun x => Str.length (sT x))).sum + _ ≤ _)
              rw [e2]
              unfold LIM at c; omega
            · cases hf
          · cases hf
        | _ => simp [mbD] at hf
      | [], _, hf => simp [mbD] at hf
      | _ :: _ :: _, _, hf => simp [mbD] at hf
    | _ => simp [mbD] at hf
  | split =>
    cases a' with
    | str l =>
      cases va
      match ds, rl, hf with
      | [d], rl, hf =>
        obtain ⟨y, rfl, ry⟩ := rep1 rl
        have vd := view_of w ry
        revert hf
        simp only [List.map_cons, List.map_nil]
        generalize vw S d = d' at vd
        intro hf
        cases vd with
        | str z =>
          match z, hf with
          | [c], hf =>
            simp only [mbD] at hf
            split at hf
            · rename_i q
              simp only [Option.some.injEq] at hf
              subst hf
              obtain rfl := (Option.some.inj hid).symm
              refine mt_split pins s σ H _ _ v us Q I rx rv ⟨_, _, rfl, rfl, rfl, ?_, fun p hp => k.lst w (tDs_rep _) hp⟩
              rw [str_len, sizeLine_eq]; unfold LIM at q; omega
            · cases hf
          | [], hf => simp [mbD] at hf
          | _ :: _ :: _, hf => simp [mbD] at hf
        | _ => simp [mbD] at hf
      | [], _, hf => simp [mbD] at hf
      | _ :: _ :: _, _, hf => simp [mbD] at hf
    | _ => simp [mbD] at hf
  | partition =>
    cases a' with
    | str l =>
      cases va
      match ds, rl, hf with
      | [d], rl, hf =>
        obtain ⟨y, rfl, ry⟩ := rep1 rl
        have vd := view_of w ry
        revert hf
        simp only [List.map_cons, List.map_nil]
        generalize vw S d = d' at vd
        intro hf
        cases vd with
        | str z =>
          match z, hf with
          | [c], hf =>
            simp only [mbD] at hf
            split at hf
            · rename_i q
              simp only [Option.some.injEq] at hf
              subst hf
              obtain rfl := (Option.some.inj hid).symm
              exact mt_partition pins s σ H _ _ v us Q I rx rv ⟨_, _, rfl, rfl, rfl, by rw [str_len]; exact lim_line q, fun p hp => k.tup w (.cons (tD_rep _) (.cons (tD_rep _) (.cons (tD_rep _) .nil))) hp⟩
            · cases hf
          | [], hf => simp [mbD] at hf
          | _ :: _ :: _, hf => simp [mbD] at hf
        | _ => simp [mbD] at hf
      | [], _, hf => simp [mbD] at hf
      | _ :: _ :: _, _, hf => simp [mbD] at hf
    | _ => simp [mbD] at hf
  | startswith =>
    cases a' with
    | str l =>
      cases va
      match ds, rl, hf with
      | [d], rl, hf =>
        obtain ⟨y, rfl, ry⟩ := rep1 rl
        have vd := view_of w ry
        revert hf
        simp only [List.map_cons, List.map_nil]
        generalize vw S d = d' at vd
        intro hf
        cases vd with
        | str z =>
          simp only [mbD, Option.some.injEq] at hf
          subst hf
          obtain rfl := (Option.some.inj hid).symm
          exact mt_startswith pins s σ H _ _ v us Q I rx rv ⟨_, _, rfl, rfl, k.flat w (.bl _)⟩
        | _ => simp [mbD] at hf
      | [], _, hf => simp [mbD] at hf
      | _ :: _ :: _, _, hf => simp [mbD] at hf
    | _ => simp [mbD] at hf
  | index =>
    match ds, rl, hf with
    | [d], rl, hf =>
      obtain ⟨y, rfl, ry⟩ := rep1 rl
      have vd := view_of w ry
      revert hf
      simp only [List.map_cons, List.map_nil]
      generalize vw S d = d' at vd
      intro hf
      obtain ⟨u, rfl, ru⟩ := rv.one
      cases a' with
      | str l =>
        cases va
        cases vd with
        | str z =>
          simp only [mbD] at hf
          split at hf
          · rename_i i rest ho
            simp only [Option.some.injEq] at hf
            subst hf
            obtain rfl := (Option.some.inj hid).symm
            exact mt_sindex pins s σ H _ _ v _ Q I rx rv ⟨_, _, _, _, rfl, rfl, ho, k.flat w (.int _)⟩
          · cases hf
        | _ => simp [mbD] at hf
      | lst zs =>
        simp only [mbD] at hf
        split at hf
        · rename_i c
          rw [Bool.and_eq_true] at c
          obtain ⟨p, e1, l1, d1⟩ := dat_pd dp d' c.1
          obtain ⟨ps, e2, l2, d2⟩ := datL_pd dp zs c.2
          simp only [Option.map_eq_some_iff] at hf
          obtain ⟨n, hn, rfl⟩ := hf
          obtain rfl := (Option.some.inj hid).symm
          obtain ⟨bs, r1⟩ := Rep.reads I vd e1 ru
          cases va with
          | lst h rr =>
            cases rx
            obtain ⟨its, rv', ⟨⟨cls, dd, data, sls⟩, n0, ho, hc, hdn, hdt⟩, hlen⟩ := I.list (.of h)
            simp only at hc hdt
            subst hc hdt
            obtain ⟨as, h4⟩ := Dp.readsAll I ps _ its (rr.dp (K := X.K) e2) rv'
            obtain ⟨hj, hit, hno⟩ := PySem.SeqAt.hit_at (vs := its.toArray) (d := p) (show ReadsAll s.heap its.toArray.toList ps as from h4) l2 (place_pd d' p e1 zs ps n e2 hn)
            have hlt := place_lt d' zs n hn
            have hsl := sizeLine_eq
            have := rr.length
            have := rv'.length
            refine call_meets PySem.F.slot_list_index ⟨_, ho, rfl⟩ PySem.F.entry_list_index (PySem.F.args_list_index_2 _ _)
              (PySem.SeqAt.list_indexAt _ its.toArray n0 dd sls u (fun z => PyData.eqv (PySem.SeqAt.readOf s.heap z) p) n hj (by omega) hit hno)
              ⟨ho, PySem.SeqAt.items_plain (vs := its.toArray) (show ReadsAll s.heap its.toArray.toList ps as from h4) r1 l2 l1 (by unfold dp at d2; omega), ?_⟩
            exact ⟨.int n, H, I.tok _, ⟨_, rfl⟩, k.flat w (.int _)⟩
        · cases hf
      | way zs =>
        simp only [mbD] at hf
        split at hf
        · rename_i c
          rw [Bool.and_eq_true] at c
          obtain ⟨p, e1, l1, d1⟩ := dat_pd dp d' c.1
          obtain ⟨ps, e2, l2, d2⟩ := datL_pd dp zs c.2
          simp only [Option.map_eq_some_iff] at hf
          obtain ⟨n, hn, rfl⟩ := hf
          obtain rfl := (Option.some.inj hid).symm
          obtain ⟨bs, r1⟩ := Rep.reads I vd e1 ru
          cases va with
          | way h ho' nm' rr =>
            cases rx
            obtain ⟨its, rv', ⟨⟨cls, dd, data, sls⟩, ho, hc, n0, hdt⟩, hlen⟩ := I.tuple (.inl (.inr ⟨_, h⟩))
            simp only at hc hdt
            subst hc hdt
            obtain ⟨as, h4⟩ := Dp.readsAll I ps _ its (rr.dp (K := X.K) e2) rv'
            obtain ⟨hj, hit, hno⟩ := PySem.SeqAt.hit_at (vs := its.toArray) (d := p) (show ReadsAll s.heap its.toArray.toList ps as from h4) l2 (place_pd d' p e1 zs ps n e2 hn)
            refine call_meets PySem.F.slot_tuple_index ⟨_, ho, rfl⟩ PySem.F.entry_tuple_index (PySem.F.args_tuple_index_2 _ _)
              (TI.tuple_indexAt _ its.toArray n0 dd sls u (fun z => PyData.eqv (PySem.SeqAt.readOf s.heap z) p) n hj hit hno)
              ⟨ho, PySem.SeqAt.items_plain (vs := its.toArray) (show ReadsAll s.heap its.toArray.toList ps as from h4) r1 l2 l1 (by unfold dp at d2; omega), ?_⟩
            exact ⟨.int n, H, I.tok _, ⟨_, rfl⟩, k.flat w (.int _)⟩
        · cases hf
      | _ => simp [mbD] at hf
    | [], _, hf => cases a' <;> simp [mbD] at hf
    | _ :: _ :: _, _, hf => cases a' <;> simp [mbD] at hf
  | count =>
    match ds, rl, hf with
    | [d], rl, hf =>
      obtain ⟨y, rfl, ry⟩ := rep1 rl
      have vd := view_of w ry
      revert hf
      simp only [List.map_cons, List.map_nil]
      generalize vw S d = d' at vd
      intro hf
      obtain ⟨u, rfl, ru⟩ := rv.one
      cases a' with
      | lst zs =>
        simp only [mbD] at hf
        split at hf
        · rename_i c
          rw [Bool.and_eq_true] at c
          obtain ⟨p, e1, l1, d1⟩ := dat_pd dp d' c.1
          obtain ⟨ps, e2, l2, d2⟩ := datL_pd dp zs c.2
          simp only [Option.some.injEq] at hf
          subst hf
          obtain rfl := (Option.some.inj hid).symm
          obtain ⟨bs, r1⟩ := Rep.reads I vd e1 ru
          cases va with
          | lst h rr =>
            cases rx
            obtain ⟨its, rv', pl, hlen⟩ := I.list (.of h)
            obtain ⟨as, h4⟩ := Dp.readsAll I ps _ its (rr.dp (K := X.K) e2) rv'
            refine PySem.SeqAt.count_list_data (vs := its.toArray) pl.isList (show ReadsAll s.heap its.toArray.toList ps as from h4) r1 l2 l1 (by unfold dp at d2; omega) ?_
            rw [count_pd d' p e1 zs ps e2]
            exact ⟨.int _, H, I.tok _, ⟨_, rfl⟩, k.flat w (.int _)⟩
        · cases hf
      | _ => simp [mbD] at hf
    | [], _, hf => cases a' <;> simp [mbD] at hf
    | _ :: _ :: _, _, hf => cases a' <;> simp [mbD] at hf
  | _ => simp [mbD] at hf
theorem wr_cell {i : Nat} {p : Addr} {r : D} {r' : V} {es : List D} {ys : List V} (k : KR Y Bs (Rep Y) μ H σ Q W (.ok r (S.set i (.lst es)))) (w : World Y Bs μ H S) (hx : μ[i]? = some p) (rl : RepL Y μ H ys es) (rr : Rep Y μ H r' r)
    (hl : ∀ b ∈ Bs, i < b → D.limL b es = true) : Q r' (upd H p (.lst ys)) := by
  have e : Ext μ H μ (upd H p (.lst ys)) := .wrote (List.mem_of_getElem? hx)
  exact k μ _ r' e (w.wrote hx (.lst upd_same (rl.ext e)) hl) (rr.ext e)
theorem atD_place {α : Type} {l : List α} {i : Int} {d : α} (h : atD l i = some d) : seqIndex? i l.length = some (if 0 ≤ i then i.toNat else (i + l.length).toNat) ∧ l[(if 0 ≤ i then i.toNat else (i + l.length).toNat)]? = some d ∧ -(l.length : Int) ≤ i ∧ i < l.length := by
  unfold atD at h
  unfold seqIndex?
  by_cases h0 : 0 ≤ i
  · rw [if_pos h0] at h
    have hl := (List.getElem?_eq_some_iff.mp h).1
    have h1 : ¬ i < 0 := by omega
    simp only [h0, h1, if_true, if_false]
    refine ⟨?_, h, by omega, by omega⟩
    rw [if_pos]
    simp; omega
  · rw [if_neg h0] at h
    split at h
    · rename_i c
      have hl := (List.getElem?_eq_some_iff.mp h).1
      have h1 : i < 0 := by omega
      simp only [h0, h1, if_true, if_false]
      refine ⟨?_, h, by omega, by omega⟩
      rw [if_pos]
      simp; omega
    · cases h
theorem mc_D (hu : X.A.units + 64 < cLine) {i : Nat} {zs : List D} {r : D} {es : List D} (hid : mbId m 2 = some id) (hb : ∀ c ∈ Bs, c ≤ b) (I : Inv X pins σ H s) (rx : RelV x v) (rv : Vals xs us) (w : World Y Bs μ H S) (ra : Rep Y μ H x (.ref i)) (rl : RepL Y μ H xs ds)
    (hc : S[i]? = some (.lst zs)) (hf : mcD m zs ds (ds.map (vw S)) = some (r, es)) (hl : D.limL 0 ds = true ∨ b ≤ i) (k : KR Y Bs (Rep Y) μ H σ Q W (.ok r (S.set i (.lst es)))) : wpAny (model X.prog X.w) X.A (call (.builtin id) (v :: us)) (EP X pins σ Q) X.xe s := by
  obtain ⟨p, rfl, hx⟩ : ∃ p, x = .ref p ∧ μ[i]? = some p := by
    cases ra with
    | ref h => exact ⟨_, rfl, h⟩
  have co := w.cells i p _ hx hc
  obtain ⟨ys, hy, ry⟩ : ∃ ys, H p = some (.lst ys) ∧ RepL Y μ H ys zs := by
    cases co with
    | lst h r => exact ⟨_, h, r⟩
  have hlim : ∀ c ∈ Bs, i < c → D.limL c zs = true := fun c hc' hlt => w.lims i _ hc c hc' hlt
  have hlim2 : ∀ c ∈ Bs, i < c → D.limL c ds = true := fun c hc' hlt => by
    rcases hl with q | q
    · exact D.limL_mono (Nat.zero_le _) _ q
    · have := hb c hc'; omega
  have hlen := ry.length
  cases m with
  | append =>
    match ds, rl, hf with
    | [d], rl, hf =>
      obtain ⟨y, rfl, ryy⟩ := rep1 rl
      simp only [mcD] at hf
      split at hf
      · rename_i c
        simp only [Option.some.injEq, Prod.mk.injEq] at hf
        obtain ⟨rfl, rfl⟩ := hf
        obtain rfl := (Option.some.inj hid).symm
        refine mt_append pins s σ H _ _ v us Q I rx rv ⟨p, ys, y, rfl, rfl, hy, by rw [hlen, sizeLine_eq]; unfold LIM at c; omega, ?_⟩
        exact wr_cell k w hx (ry.append (.cons ryy .nil)) .non fun c hc' hlt => limL_of (fun d hd => List.mem_append.mp hd) (hlim c hc' hlt) (hlim2 c hc' hlt)
      · cases hf
    | [], _, hf => simp [mcD] at hf
    | _ :: _ :: _, _, hf => simp [mcD] at hf
  | extend =>
    match ds, rl, hf, hlim2, hl with
    | [d], rl, hf, hlim2, hl =>
      obtain ⟨y, rfl, ryy⟩ := rep1 rl
      have vd := view_of w ryy
      cases hv : vw S d with
      | lst qs =>
        rw [hv] at vd
        simp only [List.map_cons, List.map_nil, hv, mcD] at hf
        split at hf
        · rename_i c
          simp only [Option.some.injEq, Prod.mk.injEq] at hf
          obtain ⟨rfl, rfl⟩ := hf
          obtain rfl := (Option.some.inj hid).symm
          cases vd with
          | lst h rq =>
            refine mt_extend pins s σ H _ _ v us Q I rx rv ⟨p, _, ys, _, rfl, rfl, hy, h, by rw [hlen, rq.length, sizeLine_eq]; unfold LIM at c; omega, ?_⟩
            refine wr_cell k w hx (ry.append rq) .non fun c hc' hlt => limL_of (fun d hd => List.mem_append.mp hd) (hlim c hc' hlt) ?_
            rcases hl with q | q
            · have : d = .lst qs := by
                cases d with
                | ref j => simp [D.limL, D.lim] at q
                | _ => exact hv
              subst this
              have : D.limL 0 qs = true := by simpa [D.limL, D.lim] using q
              exact D.limL_mono (Nat.zero_le _) _ this
            · have := hb c hc'; omega
        · cases hf
      | _ => simp [hv, mcD] at hf
    | [], _, hf, _, _ => simp [mcD] at hf
    | _ :: _ :: _, _, hf, _, _ => simp [mcD] at hf
  | pop =>
    match ds, rl, hf with
    | [], rl, hf =>
      cases rl
      simp only [mcD, Option.map_eq_some_iff] at hf
      obtain ⟨d, hd, e⟩ := hf
      simp only [Prod.mk.injEq] at e
      obtain ⟨rfl, rfl⟩ := e
      obtain rfl := (Option.some.inj hid).symm
      obtain ⟨y, h1, h2⟩ := ry.get hd
      refine mt_pop pins s σ H _ _ v us Q I rx rv ⟨p, ys, y, rfl, rfl, hy, by rw [hlen]; exact h1, ?_⟩
      have rdl : RepL Y μ H ys.dropLast zs.dropLast := by
        rw [List.dropLast_eq_take, List.dropLast_eq_take, hlen]; exact ry.take _
      exact wr_cell k w hx rdl h2 fun c hc' hlt => limL_of (xs := []) (fun d hd => .inl (List.dropLast_subset _ hd)) (hlim c hc' hlt) rfl
    | [_], _, hf => simp [mcD] at hf
    | _ :: _ :: _, _, hf => simp [mcD] at hf
  | popAt =>
    match ds, rl, hf with
    | [.int j], rl, hf =>
      obtain ⟨y, rfl, ryy⟩ := rep1 rl
      cases ryy
      simp only [mcD] at hf
      split at hf
      · rename_i c
        simp only [remAt] at hf
        split at hf
        · rename_i d hd
          simp only [Option.some.injEq, Prod.mk.injEq] at hf
          obtain ⟨rfl, rfl⟩ := hf
          obtain rfl := (Option.some.inj hid).symm
          obtain ⟨a1, a2, a3, a4⟩ := atD_place hd
          obtain ⟨y, h1, h2⟩ := ry.get a2
          unfold LIM at c
          refine mt_popAt pins s σ H _ _ v us Q I rx rv ⟨p, ys, j, _, y, rfl, rfl, hy, by omega, by omega, by rw [hlen]; exact a1, h1, ?_⟩
          exact wr_cell k w hx (ry.eraseIdx _) h2 fun c hc' hlt => limL_of (xs := []) (fun d hd => .inl (mem_eraseIdx hd)) (hlim c hc' hlt) rfl
        · cases hf
      · cases hf
    | [], _, hf => simp [mcD] at hf
    | _ :: _ :: _, _, hf => simp [mcD] at hf
  | insert =>
    match ds, rl, hf, hlim2 with
    | [.int j, d], rl, hf, hlim2 =>
      obtain ⟨z, y, rfl, rz, ryy⟩ := rep2 rl
      cases rz
      simp only [mcD] at hf
      split at hf
      · rename_i c
        simp only [Option.some.injEq, Prod.mk.injEq] at hf
        obtain ⟨rfl, rfl⟩ := hf
        obtain rfl := (Option.some.inj hid).symm
        refine L2.mt_insert pins s σ H _ _ v us Q I rx rv ⟨p, ys, j, y, rfl, rfl, hy, by rw [hlen, sizeLine_eq]; unfold LIM at c; omega, c.2.1, c.2.2, ?_⟩
        refine wr_cell k w hx (((ry.take _).append (.cons ryy .nil)).append (ry.drop _)) .non fun c hc' hlt => limL_of (xs := [d]) (fun d' hd => ?_) (hlim c hc' hlt) ?_
        · rcases List.mem_append.mp hd with q | q
          · rcases List.mem_append.mp q with q | q
            · exact .inl (List.mem_of_mem_take q)
            · exact .inr q
          · exact .inl (List.mem_of_mem_drop q)
        · have := hlim2 c hc' hlt
          simpa [D.limL, D.lim] using this
      · cases hf
    | [], _, hf, _ => simp [mcD] at hf
    | [_], _, hf, _ => simp [mcD] at hf
    | _ :: _ :: _ :: _, _, hf, _ => simp [mcD] at hf
  | reverse =>
    match ds, rl, hf with
    | [], rl, hf =>
      cases rl
      simp only [mcD, Option.some.injEq, Prod.mk.injEq] at hf
      obtain ⟨rfl, rfl⟩ := hf
      obtain rfl := (Option.some.inj hid).symm
      refine mt_reverse pins s σ H _ _ v us Q I rx rv ⟨p, ys, rfl, rfl, hy, ?_⟩
      exact wr_cell k w hx ry.reverse .non fun c hc' hlt => limL_of (xs := []) (fun d hd => .inl (List.mem_reverse.mp hd)) (hlim c hc' hlt) rfl
    | [_], _, hf => simp [mcD] at hf
    | _ :: _ :: _, _, hf => simp [mcD] at hf
  | clear =>
    match ds, rl, hf with
    | [], rl, hf =>
      cases rl
      simp only [mcD, Option.some.injEq, Prod.mk.injEq] at hf
      obtain ⟨rfl, rfl⟩ := hf
      obtain rfl := (Option.some.inj hid).symm
      refine mt_clear pins s σ H _ _ v us Q I rx rv ⟨p, ys, rfl, rfl, hy, ?_⟩
      exact wr_cell k w hx .nil .non fun c hc' hlt => rfl
    | [_], _, hf => simp [mcD] at hf
    | _ :: _ :: _, _, hf => simp [mcD] at hf
  | remove =>
    match ds, rl, hf with
    | [d], rl, hf =>
      obtain ⟨y, rfl, ryy⟩ := rep1 rl
      have vd := view_of w ryy
      revert hf
      simp only [List.map_cons, List.map_nil]
      generalize vw S d = d' at vd
      intro hf
      simp only [mcD] at hf
      split at hf
      · rename_i c
        rw [Bool.and_eq_true] at c
        obtain ⟨q, e1, l1, d1⟩ := dat_pd dp d' c.1
        obtain ⟨ps, e2, l2, d2⟩ := datL_pd dp zs c.2
        simp only [Option.map_eq_some_iff, Prod.mk.injEq] at hf
        obtain ⟨n, hn, rfl, rfl⟩ := hf
        obtain rfl := (Option.some.inj hid).symm
        obtain ⟨u, rfl, ru⟩ := rv.one
        obtain ⟨bs, r1⟩ := Rep.reads I vd e1 ru
        cases rx
        obtain ⟨z, its, n0, rv', hl', e⟩ := I.lstM hy
        obtain ⟨as, h4⟩ := Dp.readsAll I ps _ its (ry.dp (K := X.K) e2) rv'
        refine PySem.SeqAt.remove_list_data (vs := its.toArray) (PySem.IsL.isList e) (show ReadsAll s.heap its.toArray.toList ps as from h4) r1 l2 l1 (by unfold dp at d2; omega) (place_pd d' q e1 zs ps n e2 hn) (by rw [List.size_toArray, ← hl']; exact z) ?_
        refine ⟨.non, _, I.lset (its' := its.eraseIdx n) (t' := s.toks) hy e ?_ (rv'.eraseIdx n) ?_, rfl, ?_⟩
        · show its.toArray.eraseIdxIfInBounds n = (its.eraseIdx n).toArray
          rw [List.eraseIdxIfInBounds_toArray]
        · have := len_erase ys n
          omega
        · exact wr_cell k w hx (ry.eraseIdx _) .non fun c hc' hlt => limL_of (xs := []) (fun d hd => .inl (mem_eraseIdx hd)) (hlim c hc' hlt) rfl
      · cases hf
    | [], _, hf => simp [mcD] at hf
    | _ :: _ :: _, _, hf => simp [mcD] at hf
  | _ => simp [mcD] at hf
theorem bm_D (hu : X.A.units + 64 < cLine) (hid : mbId m (kindD (vw S a)) = some id) (hb : ∀ c ∈ Bs, c ≤ b) (I : Inv X pins σ H s) (rx : RelV x v) (rv : Vals xs us) (w : World Y Bs μ H S) (ra : Rep Y μ H x a) (rl : RepL Y μ H xs ds)
    (k : KR Y Bs (Rep Y) μ H σ Q W (bmD m a ds b S)) : wpAny (model X.prog X.w) X.A (call (.builtin id) (v :: us)) (EP X pins σ Q) X.xe s := by
  unfold bmD at k
  split at k
  · cases a with
    | ref i =>
      simp only at k
      cases hc : S[i]? with
      | none => rw [hc] at k; exact k.elim
      | some c =>
        rw [hc] at k
        cases c with
        | lst zs =>
          simp only at k
          have e2 : kindD (vw S (.ref i)) = 2 := by simp [vw, hc, kindD]
          rw [e2] at hid
          cases hm : mcD m zs ds (ds.map (vw S)) with
          | none => rw [hm] at k; exact k.elim
          | some q =>
            obtain ⟨r, es⟩ := q
            rw [hm] at k
            simp only at k
            split at k
            · rename_i hl
              rw [Bool.or_eq_true, decide_eq_true_eq] at hl
              exact mc_D hu hid hb I rx rv w ra rl hc hm hl k
            · exact k.elim
        | _ => exact k.elim
    | _ => exact k.elim
  · obtain ⟨r, hf, k⟩ := k.of
    exact mb_D hu hid I rx rv w ra rl hf k
end
end CL
namespace CL
open PySem PySem.Spec PyProof.Rows L2
structure MC where
  N : List Str
  sc : Scope
  fn : String → Bool
  cl : String → Bool
  con : String → Bool
  calm : Bool := true
  exi : Option Nat := none
  ex : String → Bool := fun _ => false
  exT : String → Bool := fun _ => false
  hfn : String → Bool := fun _ => false
  oc : String → Bool := fun _ => false
def MC.hot (M : MC) (e : Option Nat) : MC := { M with calm := false, exi := e, fn := fun _ => false }
abbrev MC.at (M : MC) (sc : Scope) : MC := { M with sc := sc }
def visB (sc : Scope) (x : Str) : Bool := match sc.names.lookup x with
  | some .local => true
  | some .cell => true
  | some .free => true
  | _ => false
def locB (sc : Scope) (x : Str) : Bool := match sc.names.lookup x with
  | some .local => true
  | some .cell => true
  | _ => false
def glB (sc : Scope) (x : Str) : Bool := decide (sc.names.lookup x = some .globalImplicit)
theorem visB_ok {sc : Scope} {x : Str} (h : visB sc x = true) : Vis sc x := by
  unfold visB at h
  unfold Vis
  split at h
  · exact .inl ‹_›
  · exact .inr (.inl ‹_›)
  · exact .inr (.inr ‹_›)
  · cases h
theorem locB_ok {sc : Scope} {x : Str} (h : locB sc x = true) : L2.Loc sc x := by
  unfold locB at h
  unfold L2.Loc
  split at h
  · exact .inl ‹_›
  · exact .inr ‹_›
  · cases h
def okN (x : Str) : Bool := !(x == ("__debug__" : Str)) && !(x == ("__classdict__" : Str))
def gnB (sc : Scope) (g : String) (x : Str) : Bool := decide (x = nm g) && (glB sc x && okN x)
def clsMt (M : MC) : List String → List Expr → Bool
  | [], [] => true
  | C :: cs, .Name x _ :: xs => (isB C || M.cl C) && (gnB M.sc C x && clsMt M cs xs)
  | _, _ => false
def namesMt (M : MC) : List Nat → List Expr → Bool
  | [], [] => true
  | i :: is, .Name x _ :: xs => decide (M.N[i]? = some x) && (decide (M.exi ≠ some i) && (locB M.sc x && namesMt M is xs))
  | _, _ => false
def Tg.mt (M : MC) (t : Tg) (x : Expr) : Bool := match t with
  | .one i => (match x with
    | .Name n _ => decide (M.N[i]? = some n) && (decide (M.exi ≠ some i) && locB M.sc n)
    | _ => false)
  | .many is => (match x with
    | .Tuple xs _ _ => M.calm && namesMt M is xs
    | _ => false)
def ownOf (M : MC) (t : Tg) : List (Str × Nat) := t.slots.map fun i => ((M.N[i]?).getD ⟨#[]⟩, i)
def notStar : Expr → Bool
  | .Starred _ _ => false
  | _ => true
def notSlice : Expr → Bool
  | .Slice _ _ _ _ => false
  | _ => true
def notSet : Expr → Bool
  | .Set _ _ _ => false
  | _ => true
def notCall0 : Expr → Bool
  | .Call (.Name _ _) [] _ _ => false
  | _ => true
def plainT : Expr → Bool
  | .UnaryOp .Not _ _ => false
  | .BoolOp _ _ _ => false
  | .IfExp _ _ _ _ => false
  | .Compare _ _ _ _ => false
  | _ => true
def isTuple : Expr → Bool
  | .Tuple _ _ _ => true
  | _ => false
def compB (M : MC) (tg : Tg) (scope : Scope) : Bool := M.calm && blkC M.N M.sc scope (ownOf M tg)
def exnB (M : MC) (x : Expr) : Bool := match M.exi, x with
  | some i, .Name n _ => decide (M.N[i]? = some n) && (visB M.sc n && okN n)
  | _, _ => false
def dicMt : List (List Nat × List Nat) → List (Option Expr) → List Expr → Bool
  | [], [], [] => true
  | p :: l, some (.Constant (.str a) _ _) :: ks, .Constant (.str b) _ _ :: vs => decide (a = ⟨p.1.toArray⟩) && (decide (b = ⟨p.2.toArray⟩) && dicMt l ks vs)
  | _, _, _ => false
mutual
def E.mt : E → MC → Expr → Bool
  | .no, _, x => notStar x
  | .var i, M, x => match x with
    | .Name n _ => decide (M.N[i]? = some n) && (visB M.sc n && okN n)
    | _ => false
  | .non, _, x => match x with
    | .Constant .none _ _ => true
    | _ => false
  | .bl b, _, x => match x with
    | .Constant (.bool c) _ _ => b == c
    | _ => false
  | .int i, _, x => match x with
    | .Constant (.int j) _ _ => i == j
    | _ => false
  | .str l, _, x => match x with
    | .Constant (.str z) _ _ => decide (z = ⟨l.toArray⟩)
    | _ => false
  | .gcon g, M, x => match x with
    | .Name n _ => M.con g && gnB M.sc g n
    | _ => false
  | .tup es, M, x => match x with
    | .Tuple xs _ _ => decide (es.len ≤ 1000) && es.mt M xs
    | _ => false
  | .lst es, M, x => match x with
    | .List xs _ => decide (es.len ≤ 1000) && es.mt M xs
    | _ => false
  | .newl es, M, x => match x with
    | .List xs _ => decide (es.len ≤ 1000) && es.mt M xs
    | _ => false
  | .newdK, _, x => match x with
    | .Dict [] [] _ => true
    | _ => false
  | .newdT, _, x => match x with
    | .Dict [] [] _ => true
    | _ => false
  | .bop o a b, M, x => match x with
    | .BinOp l op r _ => decide (op = o.op) && (a.mt M l && b.mt M r)
    | _ => false
  | .neg a, M, x => match x with
    | .UnaryOp .USub y _ => a.mt M y
    | _ => false
  | .cmp o a b, M, x => match x with
    | .Compare l [op] [r] _ => decide (op = o.op) && (notSet r && (a.mt M l && b.mt M r))
    | _ => false
  | .cmpR o a b, M, x => match x with
    | .Compare l [op] [r] _ => decide (op = o.op) && (notSet r && (a.mt M l && b.mt M r))
    | _ => false
  | .lenum a, M, x => match x with
    | .Call (.Name n _) [.Call (.Name n2 _) [y] [] _] [] _ => M.calm && (gnB M.sc "list" n && (gnB M.sc "enumerate" n2 && (notStar y && a.mt M y)))
    | _ => false
  | .chain o p a b c, M, x => match x with
    | .Compare l [op, op'] [r, r'] _ => decide (op = o.op) && (decide (op' = p.op) && (notSet r' && (a.mt M l && (b.mt M r && c.mt M r'))))
    | _ => false
  | .and es, M, x => match x with
    | .BoolOp .And xs _ => es.mt M xs
    | _ => false
  | .or es, M, x => match x with
    | .BoolOp .Or xs _ => es.mt M xs
    | _ => false
  | .not a, M, x => match x with
    | .UnaryOp .Not y _ => a.mt M y
    | _ => false
  | .ife q a b, M, x => match x with
    | .IfExp t y z _ => q.mt M t && (a.mt M y && b.mt M z)
    | _ => false
  | .idx a i, M, x => match x with
    | .Subscript y z _ => notSlice z && (a.mt M y && i.mt M z)
    | _ => false
  | .slAll a, M, x => match x with
    | .Subscript y (.Slice none none none _) _ => a.mt M y
    | _ => false
  | .slLo a lo, M, x => match x with
    | .Subscript y (.Slice (some l) none none _) _ => a.mt M y && lo.mt M l
    | _ => false
  | .slHi a hi, M, x => match x with
    | .Subscript y (.Slice none (some h) none _) _ => a.mt M y && hi.mt M h
    | _ => false
  | .sl a lo hi, M, x => match x with
    | .Subscript y (.Slice (some l) (some h) none _) _ => a.mt M y && (lo.mt M l && hi.mt M h)
    | _ => false
  | .bi f es, M, x => match x with
    | .Call (.Name n _) (y :: ys) [] _ => (M.calm || f.cool) && (gnB M.sc f.py n && es.mt M (y :: ys))
    | _ => false
  | .bm m a es, M, x => match x with
    | .Call (.Attribute o n p) ys [] q => decide (n = nm m.py) && (p.endLine == q.line && (decide (ys.length < 20) && (notCall0 o && (a.mt M o && es.mt M ys))))
    | _ => false
  | .isi a cs tp, M, x => match x with
    | .Call (.Name n _) [y, z] [] _ => gnB M.sc "isinstance" n && (decide (0 < cs.length ∧ cs.length ≤ 1000) && (notStar y && (a.mt M y && (match tp, z with
      | false, z => clsMt M cs [z]
      | true, .Tuple zs _ _ => clsMt M cs zs
      | true, _ => false))))
    | _ => false
  | .call f _ es, M, x => match x with
    | .Call (.Name n _) ys [] _ => M.calm && (M.fn f && (gnB M.sc f n && es.mt M ys))
    | _ => false
  | .lc elt tg it, M, x => match x with
    | .ListComp y [⟨t, i, [], 0⟩] scope _ => compB M tg scope && (tg.mt (M.at scope) t && (it.mt M t i && (notSet i && elt.mt (M.at (relS scope M.sc)) y)))
    | _ => false
  | .lcIf elt tg it q, M, x => match x with
    | .ListComp y [⟨t, i, [z], 0⟩] scope _ => compB M tg scope && (tg.mt (M.at scope) t && (it.mt M t i && (notSet i && (q.mt (M.at (relS scope M.sc)) z && elt.mt (M.at (relS scope M.sc)) y))))
    | _ => false
  | .newlc elt tg it, M, x => match x with
    | .ListComp y [⟨t, i, [], 0⟩] scope _ => compB M tg scope && (tg.mt (M.at scope) t && (it.mt M t i && (notSet i && elt.mt (M.at (relS scope M.sc)) y)))
    | _ => false
  | .newlcIf elt tg it q, M, x => match x with
    | .ListComp y [⟨t, i, [z], 0⟩] scope _ => compB M tg scope && (tg.mt (M.at scope) t && (it.mt M t i && (notSet i && (q.mt (M.at (relS scope M.sc)) z && elt.mt (M.at (relS scope M.sc)) y))))
    | _ => false
  | .ncat a b, M, x => match x with
    | .BinOp l .Add r _ => a.mt M l && b.mt M r
    | _ => false
  | .nlist a, M, x => match x with
    | .Call (.Name n _) [y] [] _ => gnB M.sc "list" n && (notStar y && a.mt M y)
    | _ => false
  | .lset a, M, x => match x with
    | .Call (.Name n _) [.Call (.Name n2 _) [y] [] _] [] _ => M.calm && (gnB M.sc "len" n && (gnB M.sc "set" n2 && (notStar y && a.mt M y)))
    | _ => false
  | .sset a, M, x => match x with
    | .Call (.Name n _) [.Call (.Name n2 _) [y] [] _] [] _ => M.calm && (gnB M.sc "sorted" n && (gnB M.sc "set" n2 && (notStar y && a.mt M y)))
    | _ => false
  | .isset a, M, x => match x with
    | .Call (.Name n _) [.Call (.Name n2 _) [y] [] _] [] _ => M.calm && (gnB M.sc "sorted" n && (gnB M.sc "set" n2 && (notStar y && a.mt M y)))
    | _ => false
  | .make C es, M, x => match x with
    | .Call (.Name n _) ys [] _ => M.calm && (M.oc C && (gnB M.sc C n && es.mt M ys))
    | _ => false
  | .meth a m _ es, M, x => match x with
    | .Call (.Attribute o n p) ys [] q => M.calm && (decide (n = nm m) && (p.endLine == q.line && (decide (ys.length < 20) && (notCall0 o && (a.mt M o && es.mt M ys)))))
    | _ => false
  | .fld a f, M, x => match x with
    | .Attribute y n _ => decide (n = nm f) && (notCall0 y && a.mt M y)
    | _ => false
  | .dic1 a b, M, x => match x with
    | .Dict [some k] [v] _ => M.calm && (a.mt M k && b.mt M v)
    | _ => false
  | .nsplit a z, M, x => match x with
    | .Call (.Attribute o n p) [.Constant (.str y) _ _] [] q => decide (n = nm "split") && (decide (y = ⟨[z].toArray⟩) && (p.endLine == q.line && (notCall0 o && a.mt M o)))
    | _ => false
  | .dicS l, _, x => match x with
    | .Dict ks vs _ => decide (0 < l.length ∧ l.length ≤ 15) && dicMt l ks vs
    | _ => false
  | .dicU a l, M, x => match x with
    | .Call (.Attribute o n p) [.Dict ks vs _] [] q => decide (n = nm "update") && (p.endLine == q.line && (notCall0 o && (decide (0 < l.length ∧ l.length ≤ 15) && (dicMt l ks vs && a.mt M o))))
    | _ => false
  | .dictP a, M, x => match x with
    | .Call (.Name n _) [y] [] _ => M.calm && (gnB M.sc "dict" n && (notStar y && a.mt M y))
    | _ => false
  | .sdic a, M, x => match x with
    | .Call (.Name n _) [y] [] _ => M.calm && (gnB M.sc "sorted" n && (notStar y && a.mt M y))
    | _ => false
  | .wtup es, M, x => match x with
    | .Tuple xs _ _ => decide (es.len ≤ 1000) && es.mt M xs
    | _ => false
  | .rev a, M, x => match x with
    | .Subscript y (.Slice none none (some (.UnaryOp .USub (.Constant (.int 1) _ _) _)) _) _ => a.mt M y
    | _ => false
  | .step a s, M, x => match x with
    | .Subscript y (.Slice none none (some z) _) _ => a.mt M y && s.mt M z
    | _ => false
  | .rev1 a, M, x => match x with
    | .Subscript y (.Slice none (some (.Constant (.int 0) _ _)) (some (.UnaryOp .USub (.Constant (.int 1) _ _) _)) _) _ => a.mt M y
    | _ => false
  | .lrange es, M, x => match x with
    | .Call (.Name n _) [.Call (.Name n2 _) ys [] _] [] _ => M.calm && (gnB M.sc "list" n && (gnB M.sc "range" n2 && (decide (ys.length = 1 ∨ ys.length = 2) && es.mt M ys)))
    | _ => false
  | .nlrange es, M, x => match x with
    | .Call (.Name n _) [.Call (.Name n2 _) ys [] _] [] _ => M.calm && (gnB M.sc "list" n && (gnB M.sc "range" n2 && (decide (ys.length = 1 ∨ ys.length = 2) && es.mt M ys)))
    | _ => false
  | .xis cs tp, M, x => match x with
    | .Call (.Name n _) [y, z] [] _ => gnB M.sc "isinstance" n && (decide (0 < cs.length ∧ cs.length ≤ 1000) && (exnB M y && (match tp, z with
      | false, z => clsMt M cs [z]
      | true, .Tuple zs _ _ => clsMt M cs zs
      | true, _ => false)))
    | _ => false
  | .xfld f, M, x => match x with
    | .Attribute y n _ => decide (n = nm f) && exnB M y
    | _ => false
  | .hcall f, M, x => match x with
    | .Call (.Name n _) [y] [] _ => M.hfn f && (gnB M.sc f n && exnB M y)
    | _ => false
def Es.mt : Es → MC → List Expr → Bool
  | .nil, _, xs => xs.isEmpty
  | .cons e es, M, xs => match xs with
    | x :: xs => notStar x && (e.mt M x && es.mt M xs)
    | [] => false
def It.mt : It → MC → Expr → Expr → Bool
  | .val e, M, _, x => e.mt M x
  | .range es, M, _, x => match x with
    | .Call (.Name n _) ys [] _ => gnB M.sc "range" n && (decide (ys.length = 1 ∨ ys.length = 2 ∨ ys.length = 3) && es.mt M ys)
    | _ => false
  | .enum e, M, t, x => isTuple t && (match x with
    | .Call (.Name n _) [y] [] _ => gnB M.sc "enumerate" n && (notStar y && e.mt M y)
    | _ => false)
  | .zip a b, M, t, x => isTuple t && (match x with
    | .Call (.Name n _) [y, z] [] _ => gnB M.sc "zip" n && (notStar y && (notStar z && (a.mt M y && b.mt M z)))
    | _ => false)
end
theorem starEach_of {x : Expr} {xs : List Expr} {env : PySem.Env} (h : notStar x = true) : starEach (x :: xs) env = (false, eval x env) :: starEach xs env := by
  cases x <;> first
    | rfl
    | cases h
theorem plainIx_of {x : Expr} (h : notSlice x = true) : PlainIx x := by
  intro o i
  cases x <;> first
    | rfl
    | cases h
theorem noMarks_of {x : Expr} (op : CmpOp) (h : notSet x = true) : behindInMarks op x = false := by
  cases x <;> first
    | rfl
    | cases h
theorem folded_of {x : Expr} {env : PySem.Env} (h : notSet x = true) : ∀ v, foldedSetIterable x env v = pure v := by
  intro v
  cases x <;> first
    | rfl
    | cases h
theorem base_of {x : Expr} {n : Str} {env : PySem.Env} (h : notCall0 x = true) : attributeBase x n env (eval x env) = eval x env := by
  cases x with
  | Call f as ks p =>
    cases as with
    | nil => cases f <;> first
      | rfl
      | cases h
    | cons a as => cases f <;> rfl
  | _ => rfl
theorem isTrue_of {x : Expr} {env : PySem.Env} (h : plainT x = true) : ∀ whole, isTrue x env whole = (do let v ← whole; standAt x.pos; holding [v] (truthy v)) := by
  intro w
  cases x with
  | UnaryOp op y p => cases op <;> first
    | rfl
    | cases h
  | BoolOp _ _ _ => cases h
  | IfExp _ _ _ _ => cases h
  | Compare _ _ _ _ => cases h
  | _ => rfl
end CL
namespace CL
open PySem PySem.Spec PyProof.Rows L2
structure FnE (P : Program) (w : PySem.World) (K : PySem.W.Frag) (mg : Str → Option Value) (base : Heap) (k : Nat) (f : Addr) (fd : FuncData) (ps : List Str) (sp : Addr × Obj → Sp) : Prop where
  len : ∀ p vs H Q E, sp p vs H Q E → vs.length = ps.length
  run : ∀ (A : Around) (outer : List PySem.Env) (s : Shared) (H : Hp) (args : Args) (us : List Value) (vs : List V) (Q : VK) (E : XK) (p : Addr × Obj), L2H.RoomH k A → L2H.PinOk outer H s p → Env0 P w K mg base A outer s H → BindsTo s fd args (ps.zip us) → Vals vs us → sp p vs H Q E →
    codeAny (model P w) A (.call (.ref f) args) (CR (L2.CX P w) outer P w H s Q E) s
theorem funE {P : Program} {w : PySem.World} {K : PySem.W.Frag} {mg : Str → Option Value} {base : Heap} {x qual : Str} {st : Stmt} {f : Addr} {fd : FuncData} {N ps : List Str} {k : Nat} {sp : Addr × Obj → Sp} (F : Fun K x qual st f fd) (S : FnScope N ps (defScope st)) (len : ∀ p vs H Q E, sp p vs H Q E → vs.length = ps.length)
    (hbody : ∀ (cdv : Value) (A : Around) (outer : List PySem.Env) (s : Shared) (H : Hp) (vs : List V) (Q : VK) (E : XK) (p : Addr × Obj), L2H.RoomH k (A.deeper (envOfC qual (defScope st) s.heap.objs.size f cdv)) → sp p vs H Q E →
      ∃ t, PSs (L2H.cxH (L2.CX P w) P w K mg base N qual (defScope st) f cdv A outer s H E p) (defBody st) t ∧ t { nx := fun _ H' => Q .non H', rt := Q } (L2.start N vs) H) : FnE P w K mg base (k + 1) f fd ps sp := by
  obtain ⟨oc, od, kV, doc, pm, an, cdv, ct, osl, rfl, lk, hcd⟩ := F.ex
  refine ⟨len, fun A outer s H args us vs Q E p room pin e0 bd r hsp => ?_⟩
  have vl := len _ _ _ _ _ hsp
  have KX : K.In s.heap := e0.mod.kin.keeps fun b o e => (e0.bs b o e).1
  have nolim : s.heap.NoLimit := e0.mod.nolimit.keeps fun b o e => (e0.bs b o e).1
  have kinds : ∀ y ∈ ps.zip us, (defScope st).names.lookup y.1 = some .local ∨ ((defScope st).names.lookup y.1 = some .cell ∧ ((cellsFrom (s.heap.objs.size + 1) (defScope st).names []).lookup y.1).isSome = true) := fun y hy => by
    rcases S.par y.1 (List.of_mem_zip hy).1 with q | q
    · exact .inl q
    · exact .inr ⟨q, PySem.W.cellsFrom_some _ _ _ (.inl q)⟩
  refine codeAny_call_function room.depth (KX _ _ lk) rfl S.co S.gen rfl (PySem.W.codeRec_of KX hcd) (bd _ _ _ _ ?_)
  refine wpAny_newFunctionEnv_cells S.kind kinds fun env he s1 z => ?_
  subst he
  refine ⟨nolim.keeps z.toInCall.keep, codeAny_func ?_⟩
  obtain ⟨t, ht, hq⟩ := hbody cdv A outer s H vs Q E p (room.deeper _) hsp
  have I := L2H.inv_startH (CX := L2.CX P w) (qual := qual) (f := f) (cd := cdv) (E := E) S pin e0 vl r z
  refine wpAny_mono (ht.run [] s1 (L2.start N vs) H _ I hq) (fun fl s' hs => ?_) fun e s' hs => hs
  cases fl with
  | ret u =>
    obtain ⟨v, σ', H', J, rv, q⟩ := hs
    exact ⟨v, H', J.os, J.bare, J.base, J.hok, rv, q⟩
  | next =>
    obtain ⟨σ', H', J, q⟩ := hs
    exact ⟨V.non, H', J.os, J.bare, J.base, J.hok, rfl, q⟩
  | brk =>
    obtain ⟨_, _, _, q⟩ := hs
    exact False.elim q
  | cont =>
    obtain ⟨_, _, _, q⟩ := hs
    exact False.elim q
section
variable {X : Cx} {k : Nat} {f : Addr} {fd : FuncData} {ps : List Str} {sp : Addr × Obj → Sp} {E : L2.St → XK}
theorem run_fnE {pins : List (Addr × Obj)} {σ : L2.St} {H : Hp} {s : Shared} {Q : VK} {us : List Value} {vs : List V} {p : Addr × Obj} (F : FnE X.prog X.w X.K X.mg X.base k f fd ps sp) (hr : L2H.RoomH k X.A) (hp : p ∈ X.pn) (hb : Binds X.K fd ps []) (hx : PassesAt (L2.CX X.prog X.w) X σ (E σ))
    (I : Inv X pins σ H s) (r : Vals vs us) (h : sp p vs H Q (E σ)) : wpAny (model X.prog X.w) X.A (call (.ref f) us) (EP X pins σ Q) X.xe s := by
  have ul : us.length = ps.length := by rw [← r.length]; exact F.len _ _ _ _ _ h
  have b := hb s us I.kIn (by rw [List.append_nil]; exact ul)
  rw [List.append_nil] at b
  have at_ := I.pin p (List.mem_append_left _ hp)
  have pin : L2H.PinOk X.stack H s p := ⟨at_.1, at_.2.1, fun hm => (List.mem_cons.mp (I.stkSub p.1 hm)).elim at_.2.2.1 at_.2.2.2.1, at_.2.2.2.2⟩
  refine wpAny_call (codeAny_mono (F.run X.A X.stack s H ⟨us, []⟩ us vs Q (E σ) p hr pin I.env0 b r h) fun r s' hq => ?_)
  cases r with
  | error e => exact hx pins H s e s' I hq
  | ok fl =>
    cases fl with
    | ret u => exact I.after hq
    | next => exact False.elim hq
    | brk => exact False.elim hq
    | cont => exact False.elim hq
end
def spE (ca : CA) (m : String × List String × List D → Nat → Store → R D) : Addr × Obj → Sp := fun p vs H Q E => ∃ (Y : Sx) (_ : Y.ca = ca) (z : ExS) (b : Nat) (Bs : List Nat) (μ : List Addr) (S : Store), vs = [V.ref z.at_] ∧ p.1 = z.at_ ∧ Zc z.cls z.dd p.2 ∧ (∃ fv, p.2.data = .fields fv) ∧ (∀ q ∈ Bs, q ≤ b) ∧ World Y Bs μ H S ∧ ExcAt Y μ H z.C z.ns z.ds z.cls z.dd ∧
  KR Y Bs (Rep Y) μ H [] Q (fun cls d _ H' => E cls d H') (m (z.C, z.ns, z.ds) b S)
structure HCallable (ca : CA) (X : Cx) (f : String) (m : String × List String × List D → Nat → Store → R D) : Prop where
  get : ∃ (k : Nat) (a : Addr) (fd : FuncData) (ps : List Str), FnE X.prog X.w X.K X.mg X.base k a fd ps (spE ca m) ∧ L2H.RoomH k X.A ∧ X.mg (nm f) = some (.ref a) ∧ PySem.W.keepIn X.K (.ref a) = true ∧ Binds X.K fd ps []
end CL
namespace CL
open PySem PySem.Spec PyProof.Rows L2
def spI (ca : CA) (m : Bool → List D → Nat → Store → R D) : Sp := fun vs H Q E => ∃ (Y : Sx) (_ : Y.ca = ca) (_ : Y.exs = none) (g : Bool) (b : Nat) (Bs : List Nat) (μ : List Addr) (S : Store) (ds : List D), (∀ q ∈ Bs, q ≤ b) ∧ World Y Bs μ H S ∧ RepL Y μ H vs ds ∧
  KR Y Bs (Rep Y) μ H [] Q (fun cls d _ H' => E cls d H') (m g ds b S)
structure Callable (ca : CA) (X : Cx) (f : String) (m : Bool → List D → Nat → Store → R D) : Prop where
  get : ∃ (k : Nat) (a : Addr) (fd : FuncData) (ps : List Str), FnOk X.prog X.w X.K X.mg X.base (L2.CX X.prog X.w) k a fd ps (spI ca m) ∧ Room k X.A ∧ X.mg (nm f) = some (.ref a) ∧ PySem.W.keepIn X.K (.ref a) = true ∧ Binds X.K fd ps []
def clsVal (Y : Sx) (C : String) : Value := if isB C then .type C else .ref (Y.ca C)
def clsV (Y : Sx) (C : String) : V := if isB C then .ty C else .ref (Y.ca C)
structure MCall (ca : CA) (X : Cx) (C m : String) (mm : Bool → List D → Nat → Store → R D) : Prop where
  get : ∃ (k : Nat) (a : Addr) (fd : FuncData) (ps : List Str), FnOk X.prog X.w X.K X.mg X.base (L2.CX X.prog X.w) k a fd ps (spI ca mm) ∧ Room k X.A ∧ Cls X.K (ca C) ∧ Meth X.K (ca C) (nm m) a ∧ Binds X.K fd ps []
structure MkCall (ca : CA) (X : Cx) (C : String) (mk : List D → Nat → Store → R D) : Prop where
  mg : X.mg (nm C) = some (.ref (ca C))
  kp : PySem.W.keepIn X.K (.ref (ca C)) = true
  get : (∀ ds b S, mk ds b S = .bad) ∨ ∃ (k : Nat) (a : Addr) (fd : FuncData) (ps : List Str) (kind : Nat) (mm : Bool → List D → Nat → Store → R D), FnOk X.prog X.w X.K X.mg X.base (L2.CX X.prog X.w) k a fd ps (spI ca mm) ∧ Room (k + 1) X.A ∧ Mk X.K (ca C) a ∧ Binds X.K fd ps [] ∧
    ∀ ds b S, mk ds b S = makeK C kind mm ds b S
structure Good (Y : Sx) (c : Ctx) (b : Nat) (Bs : List Nat) (W : WX) (M : MC) (X : Cx) : Prop where
  hN : X.N = M.N
  hK : Y.ca.K = X.K
  nd : X.N.Nodup
  hsc : X.env.scope = M.sc
  calm : M.calm = true → X.calm = true
  exs : M.exi = Y.exs.map ExS.slot
  cx : M.calm = true → M.exi = none
  exn : ∀ z, Y.exs = some z → c.exc = some (z.C, z.ns, z.ds) ∧ ∃ oe : Obj, (z.at_, oe) ∈ X.pn ∧ Zc z.cls z.dd oe ∧ ∃ vs, oe.data = .fields vs
  isxK : ∀ Z C k, c.isx Z C = some k → (isB C = true ∨ M.cl C = true) → PySem.W.kitOne X.K (.ref (Y.ca Z)) (clsVal Y C) = some k
  hu : X.A.units + 64 < cLine
  hb : ∀ q ∈ Bs, q ≤ b
  tk : Takes X W
  bi : ∀ g ∈ bis, X.mg (nm g) = none
  con : ∀ g, M.con g = true → ∃ d u v, c.con g = some d ∧ X.mg (nm g) = some u ∧ RelV v u ∧ ∀ Z μ H, Rep Z μ H v d
  cls : ∀ C, M.cl C = true → isB C = false → X.mg (nm C) = some (.ref (Y.ca C))
  bcl : ∀ C, isB C = true → X.mg (nm C) = none
  isaN : ∀ C, M.cl C = true → isB C = false → ∀ T ∈ basT, PySem.W.kitOne X.K (.type T) (.ref (Y.ca C)) = some false
  isaI : ∀ Z, (∃ C k, c.isa Z C = some k) → ∀ (H : Hp) (a dx : Addr) (fs : List (Str × V)), H a = some (.ins (Y.ca Z) dx fs) → ∃ t, TyX X.K H (.ref a) t ∧ ∀ C k, c.isa Z C = some k → (isB C = true ∨ M.cl C = true) → PySem.W.kitOne X.K t (clsVal Y C) = some k
  call : ∀ f, M.fn f = true → Callable Y.ca X f (c.call f)
  hfn : ∀ f, M.hfn f = true → HCallable Y.ca X f (c.hcall f)
  fld : ∀ C f, c.fldOk C f = true → Cls X.K (Y.ca C) ∧ NoAttr X.K (Y.ca C) (nm f)
  meth : M.calm = true → ∀ C m f, c.meth C m = some f → MCall Y.ca X C m (c.call f)
  make : M.calm = true → ∀ C, M.oc C = true → MkCall Y.ca X C (c.make C)
section
variable {X : Cx} {Y : Sx} {Bs : List Nat} {W : WX} {b : Nat} {M : MC} {c : Ctx}
theorem Good.bare (G : Good Y c b Bs W M X) (h : M.calm = true) : Y.exs = none := by
  have e := G.exs
  rw [G.cx h] at e
  cases hx : Y.exs with
  | none => rfl
  | some z => rw [hx] at e; cases e
theorem Sx.free_none {Y : Sx} (h : Y.exs = none) (i : Nat) : Y.free i := fun z hz => by rw [h] at hz; cases hz
theorem Good.free (G : Good Y c b Bs W M X) {i : Nat} (h : M.exi ≠ some i) : Y.free i := fun z hz e => h (by rw [G.exs, hz, ← e]; rfl)
theorem Good.gl (G : Good Y c b Bs W M X) {x : Str} (h : glB M.sc x = true) : Gl X x := by
  show X.env.scope.names.lookup x = _
  rw [G.hsc]
  exact of_decide_eq_true h
theorem okN_db {x : Str} (h : okN x = true) : (x == ("__debug__" : Str)) = false := by
  unfold okN at h
  rw [Bool.and_eq_true] at h
  simpa using h.1
theorem okN_cd {x : Str} (h : okN x = true) : (x == ("__classdict__" : Str)) = false := by
  unfold okN at h
  rw [Bool.and_eq_true] at h
  simpa using h.2
theorem gnB_of {sc : Scope} {g : String} {x : Str} (h : gnB sc g x = true) : x = nm g ∧ glB sc x = true ∧ okN x = true := by
  unfold gnB at h
  simp only [Bool.and_eq_true, decide_eq_true_eq] at h
  exact h
theorem s_no {α : Type} {rel : List Addr → Hp → V → α → Prop} {x : Expr} {m : Env → Store → R α} (h : ∀ ρ S, m ρ S = .bad) : PE X x (tX Y Bs rel W m) :=
  ⟨fun pins s σ H Q I ⟨μ, ρ, S, w, en, k⟩ => by rw [h] at k; exact k.elim⟩
theorem s_var (G : Good Y c b Bs W M X) {i : Nat} {n : Str} {p : Pos} (h1 : M.N[i]? = some n) (h2 : visB M.sc n = true) (h3 : okN n = true) : PE X (.Name n p) (tI Y Bs W fun ρ S => match ρ[i]? with
    | some (some d) => .ok d S
    | _ => .bad) := by
  refine (pe_var (i := i) (by rw [G.hN]; exact h1) (by rw [G.hsc]; exact visB_ok h2) (okN_db h3) (okN_cd h3)).imp ?_
  rintro σ H Q ⟨μ, ρ, S, w, en, k⟩
  dsimp only at k
  match e : ρ[i]?, k with
  | some (some d), k =>
    obtain ⟨v, e2, r⟩ := en.at_ i d e
    exact ⟨v, e2, k μ H v (.refl _ _) w r⟩
  | some none, k => exact k.elim
  | none, k => exact k.elim
theorem s_con {v : V} {d : D} {x : Expr} (h : PE X x (tC v)) (r : ∀ μ H, Rep Y μ H v d) : PE X x (tI Y Bs W fun _ S => .ok d S) := by
  refine h.imp ?_
  rintro σ H Q ⟨μ, ρ, S, w, en, k⟩
  exact k μ H v (.refl _ _) w (r μ H)
theorem s_gcon (G : Good Y c b Bs W M X) {g : String} {n : Str} {p : Pos} (h1 : M.con g = true) (h2 : gnB M.sc g n = true) : PE X (.Name n p) (tI Y Bs W fun _ S => R.of S (c.con g)) := by
  obtain ⟨rfl, h4, h5⟩ := gnB_of h2
  obtain ⟨d, u, v, e1, e2, r, rr⟩ := G.con g h1
  rw [e1]
  exact s_con (pe_glob (G.gl h4) e2 r (okN_db h5)) (rr Y)
theorem evs_len {c : Ctx} {b : Nat} : ∀ (es : Es) (ρ : Env) (S : Store) (ds : List D) (S' : Store), evs c b es ρ S = .ok ds S' → ds.length = es.len
  | .nil, ρ, S, ds, S', h => by
    simp only [evs, R.ok.injEq] at h
    obtain ⟨rfl, _⟩ := h; rfl
  | .cons e es, ρ, S, ds, S', h => by
    simp only [evs] at h
    cases h1 : ev c b e ρ S with
    | ok d S1 =>
      rw [h1] at h
      simp only [R.bind] at h
      cases h2 : evs c b es ρ S1 with
      | ok ds2 S2 =>
        rw [h2] at h
        simp only [R.ok.injEq] at h
        obtain ⟨rfl, _⟩ := h
        simp [Es.len, evs_len es ρ S1 ds2 S2 h2]
      | err _ _ _ _ => rw [h2] at h; simp at h
      | bad => rw [h2] at h; simp at h
    | err _ _ _ _ => rw [h1] at h; simp [R.bind] at h
    | bad => rw [h1] at h; simp [R.bind] at h
theorem small_line {n : Nat} (h : n ≤ 1000) : n ≤ sizeLine := by rw [sizeLine_eq]; omega
theorem tX.bind' {α β γ δ : Type} {rel : List Addr → Hp → β → α → Prop} {rel' : List Addr → Hp → δ → γ → Prop} {μ : List Addr} {H : Hp} {σ : L2.St} {ρ : Env} {S : Store} {Q : β → Hp → Prop} {Q' : δ → Hp → Prop}
    {m : Env → Store → R α} {f : α → Store → R γ} (w : World Y Bs μ H S) (en : EnvOk Y μ H σ ρ) (h : KR Y Bs rel' μ H σ Q' W ((m ρ S).bind f))
    (go : ∀ a S1 μ1 H1 b, m ρ S = .ok a S1 → World Y Bs μ1 H1 S1 → EnvOk Y μ1 H1 σ ρ → Ext μ H μ1 H1 → rel μ1 H1 b a → KR Y Bs rel' μ1 H1 σ Q' W (f a S1) → Q b H1) : tX Y Bs rel W m σ H Q := by
  refine ⟨μ, ρ, S, w, en, ?_⟩
  cases e : m ρ S with
  | ok a S1 =>
    rw [e] at h
    exact fun μ1 H1 b x w1 r => go a S1 μ1 H1 b e w1 (en.ext x) x r (KR.mono x h)
  | err C ns ds S1 =>
    rw [e] at h
    exact h
  | bad =>
    rw [e] at h
    exact h
theorem s_tup {xs : List Expr} {n : Nat} {p : Pos} {ma : Env → Store → R (List D)} (ha : PA X xs (tA Y Bs W ma)) (hl : ∀ ρ S ds S', ma ρ S = .ok ds S' → ds.length ≤ 1000) :
    PE X (.Tuple xs n p) (tI Y Bs W fun ρ S => (ma ρ S).bind fun ds S1 => .ok (.tup ds) S1) := by
  refine (pe_tup ha).imp ?_
  rintro σ H Q ⟨μ, ρ, S, w, en, k⟩
  refine tX.bind' w en k fun ds S1 μ1 H1 vs e w1 en1 x1 r1 k1 => ⟨by rw [r1.length]; exact small_line (hl _ _ _ _ e), fun q hq => ?_⟩
  exact Fin1.tup (Y := Y) (Bs := Bs) k1 w1 r1 hq
theorem s_lst {xs : List Expr} {p : Pos} {ma : Env → Store → R (List D)} (ha : PA X xs (tA Y Bs W ma)) (hl : ∀ ρ S ds S', ma ρ S = .ok ds S' → ds.length ≤ 1000) :
    PE X (.List xs p) (tI Y Bs W fun ρ S => (ma ρ S).bind fun ds S1 => .ok (.lst ds) S1) := by
  refine (pe_lst ha).imp ?_
  rintro σ H Q ⟨μ, ρ, S, w, en, k⟩
  refine tX.bind' w en k fun ds S1 μ1 H1 vs e w1 en1 x1 r1 k1 => ⟨by rw [r1.length]; exact small_line (hl _ _ _ _ e), fun q hq => ?_⟩
  exact Fin1.lst (Y := Y) (Bs := Bs) k1 w1 r1 hq
theorem KR.cell {μ : List Addr} {H : Hp} {σ : L2.St} {Q : VK} {S : Store} {p : Addr} {o : HO} {ce : Cell} (k : KR Y Bs (Rep Y) μ H σ Q W (.ok (.ref S.length) (S ++ [ce]))) (w : World Y Bs μ H S) (hp : H p = none) (new : CellOk Y (μ ++ [p]) (upd H p o) p ce) : Q (.ref p) (upd H p o) := by
  refine k (μ ++ [p]) _ _ (.cell hp) (w.grow hp new w.bs) (.ref ?_)
  rw [← w.len, List.getElem?_append_right (Nat.le_refl _)]
  simp
theorem s_newl {xs : List Expr} {p : Pos} {ma : Env → Store → R (List D)} (ha : PA X xs (tA Y Bs W ma)) (hl : ∀ ρ S ds S', ma ρ S = .ok ds S' → ds.length ≤ 1000) :
    PE X (.List xs p) (tI Y Bs W fun ρ S => (ma ρ S).bind fun ds S1 => .ok (.ref S1.length) (S1 ++ [.lst ds])) := by
  refine (pe_lst ha).imp ?_
  rintro σ H Q ⟨μ, ρ, S, w, en, k⟩
  refine tX.bind' w en k fun ds S1 μ1 H1 vs e w1 en1 x1 r1 k1 => ⟨by rw [r1.length]; exact small_line (hl _ _ _ _ e), fun q hq => ?_⟩
  exact KR.cell k1 w1 hq (.lst upd_same (r1.ext (.cell hq)))
theorem s_newdK {p : Pos} : PE X (.Dict [] [] p) (tI Y Bs W fun _ S => .ok (.ref S.length) (S ++ [.dic false [] []])) := by
  refine pe_dnewK.imp ?_
  rintro σ H Q ⟨μ, ρ, S, w, en, k⟩ q hq
  exact KR.cell k w hq (.dicK (kvs := []) upd_same .nil)
theorem s_newdT {p : Pos} : PE X (.Dict [] [] p) (tI Y Bs W fun _ S => .ok (.ref S.length) (S ++ [.dic true [] []])) := by
  refine pe_dnewT.imp ?_
  rintro σ H Q ⟨μ, ρ, S, w, en, k⟩ q hq
  exact KR.cell k w hq (.dicT (kvs := []) upd_same .nil)
section
variable {x y z : Expr} {p : Pos} {ma mb mc : Env → Store → R D}
theorem s_bop (o : BO) (ha : PE X x (tI Y Bs W ma)) (hb : PE X y (tI Y Bs W mb)) : PE X (.BinOp x o.op y p) (tI Y Bs W fun ρ S => (ma ρ S).bind fun d S1 => (mb ρ S1).bind fun e S2 => R.of S2 (bop o (vw S2 d) (vw S2 e))) := by
  refine (pe_op (op_bop (Y := Y) o) ha hb).imp ?_
  rintro σ H Q ⟨μ, ρ, S, w, en, k⟩
  refine tX.bind w en k fun d S1 μ1 H1 u w1 en1 x1 r1 k1 => tX.bind w1 en1 k1 fun e S2 μ2 H2 v w2 en2 x2 r2 k2 => ?_
  obtain ⟨r, hr, k3⟩ := k2.of
  exact ⟨Bs, μ2, S2, d, e, r, w2, r1.ext x2, r2, hr, k3⟩
theorem s_neg (ha : PE X x (tI Y Bs W ma)) : PE X (.UnaryOp .USub x p) (tI Y Bs W fun ρ S => (ma ρ S).bind fun d S1 => match d with
    | .int i => .ok (.int (-i)) S1
    | _ => .bad) := by
  refine (pe_un un_neg ha).imp ?_
  rintro σ H Q ⟨μ, ρ, S, w, en, k⟩
  refine tX.bind w en k fun d S1 μ1 H1 u w1 en1 x1 r1 k1 => ?_
  cases r1 with
  | int i => exact ⟨i, rfl, k1 μ1 H1 _ (.refl _ _) w1 (.int _)⟩
  | _ => exact k1.elim
theorem cmp_read {o : CO} {σ : L2.St} {H : Hp} {Q : VK} {μ : List Addr} {ρ : Env} {S : Store} (w : World Y Bs μ H S) (en : EnvOk Y μ H σ ρ)
    (k : KR Y Bs (Rep Y) μ H σ Q W ((ma ρ S).bind fun d S1 => (mb ρ S1).bind fun e S2 => R.of S2 ((cmpD o (vw S2 d) (vw S2 e)).map .bl))) : tOp (opB2 Y (cmpD o)) (tI Y Bs W ma) (tI Y Bs W mb) σ H Q := by
  refine tX.bind w en k fun d S1 μ1 H1 u w1 en1 x1 r1 k1 => tX.bind w1 en1 k1 fun e S2 μ2 H2 v w2 en2 x2 r2 k2 => ?_
  obtain ⟨r, hr, k3⟩ := k2.of
  simp only [Option.map_eq_some_iff] at hr
  obtain ⟨t, ht, rfl⟩ := hr
  exact ⟨Bs, μ2, S2, d, e, t, w2, r1.ext x2, r2, ht, k3 μ2 H2 _ (.refl _ _) w2 (.bl t)⟩
theorem s_cmp (G : Good Y c b Bs W M X) (o : CO) (hs : notSet y = true) (ha : PE X x (tI Y Bs W ma)) (hb : PE X y (tI Y Bs W mb)) : PE X (.Compare x [o.op] [y] p) (tI Y Bs W fun ρ S => (ma ρ S).bind fun d S1 => (mb ρ S1).bind fun e S2 => R.of S2 ((cmpD o (vw S2 d) (vw S2 e)).map .bl)) := by
  refine (pe_cmpR (op_cmp (Y := Y) G.hu o) ha hb (noMarks_of _ hs)).imp ?_
  rintro σ H Q ⟨μ, ρ, S, w, en, k⟩
  exact cmp_read w en k
def truM (m : Env → Store → R D) : Env → Store → R Bool := fun ρ S => (m ρ S).bind fun d S1 => R.of S1 (truD (vw S1 d))
theorem KR.tru {σ : L2.St} {H : Hp} {μ : List Addr} {r : R D} {Q : Bool → Hp → Prop} (k : KR Y Bs (fun _ _ (t : Bool) a => t = a) μ H σ Q W (r.bind fun d S1 => R.of S1 (truD (vw S1 d)))) (hr : ∀ d S, r = .ok d S → ∃ t, d = .bl t) :
    KR Y Bs (Rep Y) μ H σ (fun v H' => ∃ t, v = .bl t ∧ Q t H') W r := by
  cases r with
  | ok d S1 =>
    obtain ⟨t, rfl⟩ := hr d S1 rfl
    intro μ' H' v x w rv
    cases rv
    exact ⟨t, rfl, k μ' H' t x w rfl⟩
  | err C ns ds S1 => exact k
  | bad => exact k
theorem bl_bind {α : Type} {r : R α} {f : α → Store → R D} (h : ∀ a S d S', f a S = .ok d S' → ∃ t, d = .bl t) : ∀ d S, r.bind f = .ok d S → ∃ t, d = .bl t := by
  intro d S e
  cases r with
  | ok a S1 => exact h a S1 d S e
  | err _ _ _ _ => cases e
  | bad => cases e
theorem bl_of {o : Option Bool} {S S' : Store} {d : D} (h : R.of S (o.map D.bl) = .ok d S') : ∃ t, d = .bl t := by
  cases o with
  | none => cases h
  | some t => simp only [Option.map_some, R.of, R.ok.injEq] at h; exact ⟨t, h.1.symm⟩
theorem t_cmp (G : Good Y c b Bs W M X) (o : CO) (hs : notSet y = true) (ha : PE X x (tI Y Bs W ma)) (hb : PE X y (tI Y Bs W mb)) : PT X (.Compare x [o.op] [y] p) (tT Y Bs W (truM fun ρ S => (ma ρ S).bind fun d S1 => (mb ρ S1).bind fun e S2 => R.of S2 ((cmpD o (vw S2 d) (vw S2 e)).map .bl))) := by
  refine (pt_cmpR (op_cmp (Y := Y) G.hu o) ha hb (noMarks_of _ hs)).imp ?_
  rintro σ H Q ⟨μ, ρ, S, w, en, k⟩
  exact cmp_read w en (k.tru (bl_bind fun d S1 => bl_bind fun e S2 d' S' h => bl_of h))
def chainM (o o' : CO) (ma mb mc : Env → Store → R D) : Env → Store → R D := fun ρ S => (ma ρ S).bind fun d S1 => (mb ρ S1).bind fun e S2 => match cmpD o (vw S2 d) (vw S2 e) with
    | some true => (mc ρ S2).bind fun f S3 => R.of S3 ((cmpD o' (vw S3 e) (vw S3 f)).map .bl)
    | some false => .ok (.bl false) S2
    | none => .bad
theorem chain_read {o o' : CO} {σ : L2.St} {H : Hp} {Q : VK} {μ : List Addr} {ρ : Env} {S : Store} (w : World Y Bs μ H S) (en : EnvOk Y μ H σ ρ) (k : KR Y Bs (Rep Y) μ H σ Q W (chainM o o' ma mb mc ρ S)) :
    tChain (opB2 Y (cmpD o)) (opB2 Y (cmpD o')) (tI Y Bs W ma) (tI Y Bs W mb) (tI Y Bs W mc) σ H Q := by
  refine tX.bind w en k fun d S1 μ1 H1 u w1 en1 x1 r1 k1 => tX.bind w1 en1 k1 fun e S2 μ2 H2 v w2 en2 x2 r2 k2 => ?_
  cases hc : cmpD o (vw S2 d) (vw S2 e) with
  | none => rw [hc] at k2; exact k2.elim
  | some t =>
    rw [hc] at k2
    refine ⟨Bs, μ2, S2, d, e, t, w2, r1.ext x2, r2, hc, t, rfl, ?_⟩
    cases t with
    | false => exact k2 μ2 H2 _ (.refl _ _) w2 (.bl _)
    | true =>
      rw [if_pos rfl]
      refine tX.bind w2 en2 k2 fun f S3 μ3 H3 z w3 en3 x3 r3 k3 => ?_
      obtain ⟨r, hr, k4⟩ := k3.of
      simp only [Option.map_eq_some_iff] at hr
      obtain ⟨t, ht, rfl⟩ := hr
      exact ⟨Bs, μ3, S3, e, f, t, w3, r2.ext x3, r3, ht, k4 μ3 H3 _ (.refl _ _) w3 (.bl t)⟩
theorem lastMarks_of {op op' : CmpOp} {y z : Expr} (h : notSet z = true) : lastMarks [op, op'] [y, z] = false := noMarks_of _ h
theorem s_chain (G : Good Y c b Bs W M X) (o o' : CO) (hs : notSet z = true) (ha : PE X x (tI Y Bs W ma)) (hb : PE X y (tI Y Bs W mb)) (hc : PE X z (tI Y Bs W mc)) : PE X (.Compare x [o.op, o'.op] [y, z] p) (tI Y Bs W (chainM o o' ma mb mc)) := by
  refine (pe_chain (op_cmp (Y := Y) G.hu o) (op_cmp (Y := Y) G.hu o') ha hb hc (lastMarks_of hs)).imp ?_
  rintro σ H Q ⟨μ, ρ, S, w, en, k⟩
  exact chain_read w en k
theorem t_chain (G : Good Y c b Bs W M X) (o o' : CO) (hs : notSet z = true) (ha : PE X x (tI Y Bs W ma)) (hb : PE X y (tI Y Bs W mb)) (hc : PE X z (tI Y Bs W mc)) : PT X (.Compare x [o.op, o'.op] [y, z] p) (tT Y Bs W (truM (chainM o o' ma mb mc))) := by
  refine (pt_chain (op_cmp (Y := Y) G.hu o) (op_cmp (Y := Y) G.hu o') ha hb hc (lastMarks_of hs)).imp ?_
  rintro σ H Q ⟨μ, ρ, S, w, en, k⟩
  refine chain_read w en (k.tru ?_)
  refine bl_bind fun d S1 => bl_bind fun e S2 d' S' h => ?_
  cases hc : cmpD o (vw S2 d) (vw S2 e) with
  | none => rw [hc] at h; cases h
  | some t =>
    rw [hc] at h
    cases t with
    | false => simp only [R.ok.injEq] at h; exact ⟨_, h.1.symm⟩
    | true => exact bl_bind (fun f S3 d' S' h => bl_of h) _ _ h
theorem t_plain (ht : plainT x = true) (ha : PE X x (tI Y Bs W ma)) : PT X x (tT Y Bs W (truM ma)) := by
  refine (pt_truth ha (isTrue_of ht)).imp ?_
  rintro σ H Q ⟨μ, ρ, S, w, en, k⟩
  refine tX.bind w en k fun d S1 μ1 H1 u w1 en1 x1 r1 k1 => ?_
  obtain ⟨t, ht, k2⟩ := k1.of
  exact ⟨t, view_tru (view_of w1 r1) ht, k2 μ1 H1 t (.refl _ _) w1 rfl⟩
theorem t_not (ha : PT X x (tT Y Bs W (truM ma))) : PT X (.UnaryOp .Not x p) (tT Y Bs W (truM fun ρ S => (ma ρ S).bind fun d S1 => R.of S1 ((truD (vw S1 d)).map fun k => .bl (!k)))) := by
  refine (pt_not ha).imp ?_
  rintro σ H Q ⟨μ, ρ, S, w, en, k⟩
  refine ⟨μ, ρ, S, w, en, ?_⟩
  revert k
  unfold truM
  dsimp only
  cases ma ρ S with
  | ok d S1 =>
    intro k
    simp only [R.bind] at k ⊢
    cases ht : truD (vw S1 d) with
    | none => rw [ht] at k; exact k.elim
    | some t =>
      rw [ht] at k
      intro μ' H' t' x w' e
      subst e
      exact k μ' H' _ x w' rfl
  | err C ns ds S1 => intro k; exact k
  | bad => intro k; exact k
theorem s_not (ha : PE X x (tI Y Bs W ma)) : PE X (.UnaryOp .Not x p) (tI Y Bs W fun ρ S => (ma ρ S).bind fun d S1 => R.of S1 ((truD (vw S1 d)).map fun k => .bl (!k))) := by
  refine ⟨fun pins s σ H Q I ⟨μ, ρ, S, w, en, k⟩ => ?_⟩
  refine UnaryOp_ (thn (ha.run pins s σ H _ I (tX.bind (Q := fun u H1 => ∃ t, TruV X.K u H1 t ∧ Q (.bl (!t)) H1) w en k fun d S1 μ1 H1 u w1 en1 x1 r1 k1 => ?_)) fun v s1 ⟨u, H1, I1, r1, q1⟩ => ?_)
  · obtain ⟨t, ht, k2⟩ := k1.of
    simp only [Option.map_eq_some_iff] at ht
    obtain ⟨t', ht, rfl⟩ := ht
    exact ⟨t', view_tru (view_of w1 r1) ht, k2 μ1 H1 _ (.refl _ _) w1 (.bl _)⟩
  · exact not_of (thn (tru_ok pins s1 σ H1 u v (fun t H' => Q (.bl (!t)) H') I1 r1 q1) fun t s2 ⟨H2, I2, q2⟩ => ⟨.bl (!t), H2, I2, rfl, q2⟩)
theorem s_and {ys : List Expr} {ma mr : Env → Store → R D} (ha : PE X x (tI Y Bs W ma)) (hr : PE X (.BoolOp .And (y :: ys) p) (tI Y Bs W mr)) :
    PE X (.BoolOp .And (x :: y :: ys) p) (tI Y Bs W fun ρ S => (ma ρ S).bind fun d S1 => match truD (vw S1 d) with
    | some true => mr ρ S1
    | some false => .ok d S1
    | none => .bad) := by
  refine ⟨fun pins s σ H Q I ⟨μ, ρ, S, w, en, k⟩ => ?_⟩
  refine BoolOp_and (thn (ha.run pins s σ H _ I (tX.bind (Q := fun u H1 => ∃ t, TruV X.K u H1 t ∧ if t = true then tI Y Bs W mr σ H1 Q else Q u H1) w en k fun d S1 μ1 H1 u w1 en1 x1 r1 k1 => ?_)) fun v s1 ⟨u, H1, I1, r1, q1⟩ => ?_)
  · cases ht : truD (vw S1 d) with
    | none => rw [ht] at k1; exact k1.elim
    | some t =>
      rw [ht] at k1
      refine ⟨t, view_tru (view_of w1 r1) ht, ?_⟩
      cases t with
      | true => exact ⟨μ1, ρ, S1, w1, en1, k1⟩
      | false => exact k1 μ1 H1 u (.refl _ _) w1 r1
  · refine thn (tru_ok pins s1 σ H1 u v (fun t H' => if t = true then tI Y Bs W mr σ H' Q else Q u H') I1 r1 q1) fun t s2 ⟨H2, I2, q2⟩ => ?_
    cases t with
    | true => exact hr.run pins s2 σ H2 Q I2 q2
    | false => exact ⟨u, H2, I2, r1, q2⟩
theorem s_or {ys : List Expr} {ma mr : Env → Store → R D} (ha : PE X x (tI Y Bs W ma)) (hr : PE X (.BoolOp .Or (y :: ys) p) (tI Y Bs W mr)) :
    PE X (.BoolOp .Or (x :: y :: ys) p) (tI Y Bs W fun ρ S => (ma ρ S).bind fun d S1 => match truD (vw S1 d) with
    | some false => mr ρ S1
    | some true => .ok d S1
    | none => .bad) := by
  refine ⟨fun pins s σ H Q I ⟨μ, ρ, S, w, en, k⟩ => ?_⟩
  refine BoolOp_or (thn (ha.run pins s σ H _ I (tX.bind (Q := fun u H1 => ∃ t, TruV X.K u H1 t ∧ if t = true then Q u H1 else tI Y Bs W mr σ H1 Q) w en k fun d S1 μ1 H1 u w1 en1 x1 r1 k1 => ?_)) fun v s1 ⟨u, H1, I1, r1, q1⟩ => ?_)
  · cases ht : truD (vw S1 d) with
    | none => rw [ht] at k1; exact k1.elim
    | some t =>
      rw [ht] at k1
      refine ⟨t, view_tru (view_of w1 r1) ht, ?_⟩
      cases t with
      | false => exact ⟨μ1, ρ, S1, w1, en1, k1⟩
      | true => exact k1 μ1 H1 u (.refl _ _) w1 r1
  · refine thn (tru_ok pins s1 σ H1 u v (fun t H' => if t = true then Q u H' else tI Y Bs W mr σ H' Q) I1 r1 q1) fun t s2 ⟨H2, I2, q2⟩ => ?_
    cases t with
    | false => exact hr.run pins s2 σ H2 Q I2 q2
    | true => exact ⟨u, H2, I2, r1, q2⟩
theorem t_and {ys : List Expr} {ma mr : Env → Store → R D} (ha : PT X x (tT Y Bs W (truM ma))) (hr : PW X (.BoolOp .And (y :: ys) p) (tT Y Bs W (truM mr))) :
    PW X (.BoolOp .And (x :: y :: ys) p) (tT Y Bs W (truM fun ρ S => (ma ρ S).bind fun d S1 => match truD (vw S1 d) with
    | some true => mr ρ S1
    | some false => .ok d S1
    | none => .bad)) := by
  refine (pw_and ha hr).imp ?_
  rintro σ H Q ⟨μ, ρ, S, w, en, k⟩
  refine ⟨μ, ρ, S, w, en, ?_⟩
  revert k
  unfold truM
  dsimp only
  cases ma ρ S with
  | ok d S1 =>
    intro k
    simp only [R.bind] at k ⊢
    cases ht : truD (vw S1 d) with
    | none => rw [ht] at k; exact k.elim
    | some t =>
      rw [ht] at k
      intro μ' H' t' x w' e
      subst e
      cases t' with
      | true => exact ⟨μ', ρ, S1, w', en.ext x, k.mono x⟩
      | false =>
        simp only [R.bind, ht] at k
        exact k μ' H' _ x w' rfl
  | err C ns ds S1 => intro k; exact k
  | bad => intro k; exact k
theorem t_or {ys : List Expr} {ma mr : Env → Store → R D} (ha : PT X x (tT Y Bs W (truM ma))) (hr : PW X (.BoolOp .Or (y :: ys) p) (tT Y Bs W (truM mr))) :
    PW X (.BoolOp .Or (x :: y :: ys) p) (tT Y Bs W (truM fun ρ S => (ma ρ S).bind fun d S1 => match truD (vw S1 d) with
    | some false => mr ρ S1
    | some true => .ok d S1
    | none => .bad)) := by
  refine (pw_or ha hr).imp ?_
  rintro σ H Q ⟨μ, ρ, S, w, en, k⟩
  refine ⟨μ, ρ, S, w, en, ?_⟩
  revert k
  unfold truM
  dsimp only
  cases ma ρ S with
  | ok d S1 =>
    intro k
    simp only [R.bind] at k ⊢
    cases ht : truD (vw S1 d) with
    | none => rw [ht] at k; exact k.elim
    | some t =>
      rw [ht] at k
      intro μ' H' t' x w' e
      subst e
      cases t' with
      | false => exact ⟨μ', ρ, S1, w', en.ext x, k.mono x⟩
      | true =>
        simp only [R.bind, ht] at k
        exact k μ' H' _ x w' rfl
  | err C ns ds S1 => intro k; exact k
  | bad => intro k; exact k
def ifeM (mq ma mb : Env → Store → R D) : Env → Store → R D := fun ρ S => (mq ρ S).bind fun d S1 => match truD (vw S1 d) with
    | some true => ma ρ S1
    | some false => mb ρ S1
    | none => .bad
theorem ife_read {α β : Type} {rel : List Addr → Hp → β → α → Prop} {mq : Env → Store → R D} {na nb : Env → Store → R α} {σ : L2.St} {H : Hp} {Q : β → Hp → Prop} {μ : List Addr} {ρ : Env} {S : Store} (w : World Y Bs μ H S) (en : EnvOk Y μ H σ ρ)
    (k : KR Y Bs rel μ H σ Q W ((mq ρ S).bind fun d S1 => match truD (vw S1 d) with
    | some true => na ρ S1
    | some false => nb ρ S1
    | none => .bad)) : tT Y Bs W (truM mq) σ H fun t H1 => if t = true then tX Y Bs rel W na σ H1 Q else tX Y Bs rel W nb σ H1 Q := by
  refine ⟨μ, ρ, S, w, en, ?_⟩
  revert k
  unfold truM
  cases mq ρ S with
  | ok d S1 =>
    intro k
    simp only [R.bind] at k ⊢
    cases ht : truD (vw S1 d) with
    | none => rw [ht] at k; exact k.elim
    | some t =>
      rw [ht] at k
      intro μ' H' t' x w' e
      subst e
      cases t' with
      | false => exact ⟨μ', ρ, S1, w', en.ext x, k.mono x⟩
      | true => exact ⟨μ', ρ, S1, w', en.ext x, k.mono x⟩
  | err C ns ds S1 => intro k; exact k
  | bad => intro k; exact k
theorem s_ife {mq : Env → Store → R D} (hq : PT X x (tT Y Bs W (truM mq))) (ha : PE X y (tI Y Bs W ma)) (hb : PE X z (tI Y Bs W mb)) : PE X (.IfExp x y z p) (tI Y Bs W (ifeM mq ma mb)) := by
  refine (pe_ifExp hq ha hb).imp ?_
  rintro σ H Q ⟨μ, ρ, S, w, en, k⟩
  exact ife_read w en k
theorem t_ife {mq : Env → Store → R D} (hq : PT X x (tT Y Bs W (truM mq))) (ha : PT X y (tT Y Bs W (truM ma))) (hb : PT X z (tT Y Bs W (truM mb))) : PT X (.IfExp x y z p) (tT Y Bs W (truM (ifeM mq ma mb))) := by
  refine ⟨fun pins s σ H Q I ⟨μ, ρ, S, w, en, k⟩ => ?_⟩
  show wpAny _ _ (do if ← isTrue x X.env (eval x X.env) then isTrue y X.env (eval y X.env) else isTrue z X.env (eval z X.env)) _ _ _
  refine wpAny_bind (thn (hq.run pins s σ H _ I (ife_read (rel := fun _ _ (t : Bool) a => t = a) (na := truM ma) (nb := truM mb) (Q := Q) w en ?_)) fun t s1 ⟨H1, I1, q1⟩ => ?_)
  · revert k
    unfold truM ifeM
    cases mq ρ S with
    | ok d S1 =>
      intro k
      simp only [R.bind] at k ⊢
      cases ht : truD (vw S1 d) with
      | none => rw [ht] at k; exact k
      | some t => rw [ht] at k; cases t <;> exact k
    | err C ns ds S1 => intro k; exact k
    | bad => intro k; exact k
  · cases t with
    | true => exact ha.run pins s1 σ H1 Q I1 q1
    | false => exact hb.run pins s1 σ H1 Q I1 q1
theorem s_idx (G : Good Y c b Bs W M X) (hs : notSlice y = true) (ha : PE X x (tI Y Bs W ma)) (hb : PE X y (tI Y Bs W mb)) : PE X (.Subscript x y p) (tI Y Bs W fun ρ S => (ma ρ S).bind fun d S1 => (mb ρ S1).bind fun e S2 => R.of S2 (idxD (vw S2 d) (vw S2 e))) := by
  refine (pe_ix (ix_D (Y := Y) G.hK G.hu) ha hb (plainIx_of hs)).imp ?_
  rintro σ H Q ⟨μ, ρ, S, w, en, k⟩
  refine tX.bind w en k fun d S1 μ1 H1 u w1 en1 x1 r1 k1 => tX.bind w1 en1 k1 fun e S2 μ2 H2 v w2 en2 x2 r2 k2 => ?_
  obtain ⟨r, hr, k3⟩ := k2.of
  exact ⟨Bs, μ2, S2, d, e, r, w2, r1.ext x2, r2, hr, k3⟩
variable {p2 : Pos}
theorem s_slAll (ha : PE X x (tI Y Bs W ma)) : PE X (.Subscript x (.Slice none none none p2) p) (tI Y Bs W fun ρ S => (ma ρ S).bind fun d S1 => R.of S1 (slD none none (vw S1 d))) := by
  refine (pe_slice (sl_D (Y := Y)) ha po_none po_none).imp ?_
  rintro σ H Q ⟨μ, ρ, S, w, en, k⟩
  refine tX.bind w en k fun d S1 μ1 H1 u w1 en1 x1 r1 k1 => ?_
  obtain ⟨r, hr, k3⟩ := k1.of
  exact ⟨Bs, μ1, S1, d, r, w1, r1, hr, k3⟩
theorem s_slLo (ha : PE X x (tI Y Bs W ma)) (hb : PE X y (tI Y Bs W mb)) : PE X (.Subscript x (.Slice (some y) none none p2) p) (tI Y Bs W fun ρ S => (ma ρ S).bind fun d S1 => (mb ρ S1).bind fun e S2 => match e with
    | .int i => R.of S2 (slD (some i) none (vw S2 d))
    | _ => .bad) := by
  refine (pe_slice (sl_D (Y := Y)) ha (po_some hb) po_none).imp ?_
  rintro σ H Q ⟨μ, ρ, S, w, en, k⟩
  refine tX.bind w en k fun d S1 μ1 H1 u w1 en1 x1 r1 k1 => tX.bind w1 en1 k1 fun e S2 μ2 H2 v w2 en2 x2 r2 k2 => ?_
  cases r2 with
  | int i =>
    obtain ⟨r, hr, k3⟩ := k2.of
    exact ⟨i, rfl, Bs, μ2, S2, d, r, w2, r1.ext x2, hr, k3⟩
  | _ => exact k2.elim
theorem s_slHi (ha : PE X x (tI Y Bs W ma)) (hb : PE X y (tI Y Bs W mb)) : PE X (.Subscript x (.Slice none (some y) none p2) p) (tI Y Bs W fun ρ S => (ma ρ S).bind fun d S1 => (mb ρ S1).bind fun e S2 => match e with
    | .int i => R.of S2 (slD none (some i) (vw S2 d))
    | _ => .bad) := by
  refine (pe_slice (sl_D (Y := Y)) ha po_none (po_some hb)).imp ?_
  rintro σ H Q ⟨μ, ρ, S, w, en, k⟩
  refine tX.bind w en k fun d S1 μ1 H1 u w1 en1 x1 r1 k1 => tX.bind w1 en1 k1 fun e S2 μ2 H2 v w2 en2 x2 r2 k2 => ?_
  cases r2 with
  | int i =>
    obtain ⟨r, hr, k3⟩ := k2.of
    exact ⟨i, rfl, Bs, μ2, S2, d, r, w2, r1.ext x2, hr, k3⟩
  | _ => exact k2.elim
theorem s_sl (ha : PE X x (tI Y Bs W ma)) (hb : PE X y (tI Y Bs W mb)) (hc : PE X z (tI Y Bs W mc)) : PE X (.Subscript x (.Slice (some y) (some z) none p2) p) (tI Y Bs W fun ρ S => (ma ρ S).bind fun d S1 => (mb ρ S1).bind fun e S2 => match e with
    | .int i => (mc ρ S2).bind fun f S3 => match f with
      | .int j => R.of S3 (slD (some i) (some j) (vw S3 d))
      | _ => .bad
    | _ => .bad) := by
  refine (pe_slice (sl_D (Y := Y)) ha (po_some hb) (po_some hc)).imp ?_
  rintro σ H Q ⟨μ, ρ, S, w, en, k⟩
  refine tX.bind w en k fun d S1 μ1 H1 u w1 en1 x1 r1 k1 => tX.bind w1 en1 k1 fun e S2 μ2 H2 v w2 en2 x2 r2 k2 => ?_
  cases r2 with
  | int i =>
    refine ⟨i, rfl, tX.bind w2 en2 k2 fun f S3 μ3 H3 z w3 en3 x3 r3 k3 => ?_⟩
    cases r3 with
    | int j =>
      obtain ⟨r, hr, k4⟩ := k3.of
      exact ⟨j, rfl, Bs, μ3, S3, d, r, w3, (r1.ext x2).ext x3, hr, k4⟩
    | _ => exact k3.elim
  | _ => exact k2.elim
end
end
end CL
namespace CL
open PySem PySem.Spec PyProof.Rows L2
section
variable {X : Cx} {Y : Sx} {Bs : List Nat} {W : WX} {b : Nat} {M : MC} {c : Ctx}
theorem a_nil : PA X [] (tA Y Bs W fun _ S => .ok [] S) := by
  refine pa_nil.imp ?_
  rintro σ H Q ⟨μ, ρ, S, w, en, k⟩
  exact k μ H [] (.refl _ _) w .nil
theorem a_cons {x : Expr} {xs : List Expr} {ma : Env → Store → R D} {mas : Env → Store → R (List D)} (hs : notStar x = true) (ha : PE X x (tI Y Bs W ma)) (hr : PA X xs (tA Y Bs W mas)) :
    PA X (x :: xs) (tA Y Bs W fun ρ S => (ma ρ S).bind fun d S1 => (mas ρ S1).bind fun ds S2 => .ok (d :: ds) S2) := by
  refine (pa_cons ha hr (starEach_of hs)).imp ?_
  rintro σ H Q ⟨μ, ρ, S, w, en, k⟩
  refine tX.bind w en k fun d S1 μ1 H1 u w1 en1 x1 r1 k1 => tX.bind w1 en1 k1 fun ds S2 μ2 H2 vs w2 en2 x2 r2 k2 => ?_
  exact k2 μ2 H2 _ (.refl _ _) w2 (.cons (r1.ext x2) r2)
def allNS (xs : List Expr) : Bool := xs.all notStar
theorem starEach_ns {env : PySem.Env} {pos : Pos} : ∀ {xs : List Expr}, allNS xs = true → (backTo pos (starEach xs env)).any (·.1) = false ∧ (backTo pos (starEach xs env)).all (fun x => !x.1) = true
  | [], _ => ⟨rfl, rfl⟩
  | x :: xs, h => by
    unfold allNS at h
    rw [List.all_cons, Bool.and_eq_true] at h
    have ih := starEach_ns (env := env) (pos := pos) (xs := xs) h.2
    rw [starEach_of h.1]
    unfold backTo at *
    rw [List.map_cons, List.any_cons, List.all_cons]
    exact ⟨by rw [ih.1]; rfl, by rw [ih.2]; rfl⟩
theorem boot_fb (f : FB) : bootBuiltins (nm f.py) = some f.val := by cases f <;> decide +kernel
theorem fb_name (f : FB) : nm f.py ≠ "__name__" := by cases f <;> decide +kernel
theorem fb_bis (f : FB) : f.py ∈ bis := by cases f <;> decide +kernel
theorem s_bi (G : Good Y c b Bs W M X) (f : FB) (hcool : (M.calm || f.cool) = true) {n : Str} {q p : Pos} {y : Expr} {ys : List Expr} {mas : Env → Store → R (List D)} (hn : gnB M.sc f.py n = true) (hs : allNS (y :: ys) = true) (ha : PA X (y :: ys) (tA Y Bs W mas)) :
    PE X (.Call (.Name n q) (y :: ys) [] p) (tI Y Bs W fun ρ S => (mas ρ S).bind fun ds S1 => R.of S1 (fbD f (ds.map (vw S1)))) := by
  obtain ⟨rfl, h4, h5⟩ := gnB_of hn
  have hs' := hs
  unfold allNS at hs'
  rw [List.all_cons, Bool.and_eq_true] at hs'
  have main : PE X (.Call (.Name (nm f.py) q) (y :: ys) [] p) (tCB (rFb Y f) (tA Y Bs W mas)) := by
    have hc := call_fb (Y := Y) G.hK f ((Bool.or_eq_true _ _ ▸ hcool : M.calm = true ∨ f.cool = true).symm.imp id G.calm) G.hu
    have hv := boot_fb f
    unfold FB.val at hc hv
    by_cases ht : f.ty = true
    · rw [if_pos ht] at hc hv
      exact pe_callTy hc (G.gl h4) (G.bi _ (fb_bis f)) hv ha (fb_name f) (okN_db h5) (starEach_of hs'.1) (starEach_ns hs'.2).1
    · rw [if_neg ht] at hc hv
      exact pe_callB hc (G.gl h4) (G.bi _ (fb_bis f)) hv ha (fb_name f) (okN_db h5) (starEach_of hs'.1) (starEach_ns hs'.2).1
  refine main.imp ?_
  rintro σ H Q ⟨μ, ρ, S, w, en, k⟩
  refine tX.bind w en k fun ds S1 μ1 H1 vs w1 en1 x1 r1 k1 => ?_
  obtain ⟨r, hr, k2⟩ := k1.of
  exact ⟨Bs, μ1, S1, ds, r, w1, r1, hr, k2⟩
theorem kind_is {pins : List (Addr × Obj)} {s : Shared} {σ : L2.St} {H : Hp} {x : V} {v : Value} {μ : List Addr} {d : D} {m : MB} {id : String} (I : Inv X pins σ H s) (rx : RelV x v) (h : View Y μ H x d) (hk : mbId m (kindD d) = some id) :
    s.TypeIs v (tyOf (kindD d)) ∧ ∀ a, v = .ref a → ∃ ob, s.heap.get? a = some ob ∧ ob.dict = none := by
  cases h with
  | str l =>
    obtain ⟨t, rfl⟩ := rx
    exact ⟨typeIs_str s _ t, fun _ e => nomatch e⟩
  | lst h r =>
    cases rx
    obtain ⟨its, _, pl, _⟩ := I.list (.of h)
    refine ⟨pl.isList.typeIs, fun a e => ?_⟩
    cases e
    obtain ⟨o, n, e, c, hd, _⟩ := pl
    exact ⟨o, e, hd⟩
  | way h ho n r =>
    cases rx
    obtain ⟨e, _, its, rv, o, h1, h2, n0, h3⟩ := (show ObjOk X.prog X.w H s.heap _ (.frz _ (.tup _)) from I.hok _ _ h)
    refine ⟨⟨o, h1, h2⟩, fun a e' => ?_⟩
    cases e'
    exact ⟨_, e, ho⟩
  | _ => cases m <;> simp [kindD, mbId] at hk
def bmM (m : MB) (b : Nat) (ma : Env → Store → R D) (mas : Env → Store → R (List D)) : Env → Store → R D := fun ρ S => (ma ρ S).bind fun d S1 => if (mbId m (kindD (vw S1 d))).isSome then (mas ρ S1).bind fun ds S2 => if kindD (vw S1 d) = kindD (vw S2 d) then bmD m d ds b S2 else .bad else .bad
theorem bm_read {m : MB} {ma : Env → Store → R D} {mas : Env → Store → R (List D)} {σ : L2.St} {H : Hp} {Q : VK} (h : tI Y Bs W (bmM m b ma mas) σ H Q) :
    tI Y Bs W ma σ H fun x H1 => ∃ (μ1 : List Addr) (S1 : Store) (d : D) (id : String), View Y μ1 H1 x (vw S1 d) ∧ mbId m (kindD (vw S1 d)) = some id ∧
      tA Y Bs W mas σ H1 fun xs H2 => ∃ (μ2 : List Addr) (S2 : Store) (ds : List D), World Y Bs μ2 H2 S2 ∧ Rep Y μ2 H2 x d ∧ RepL Y μ2 H2 xs ds ∧ mbId m (kindD (vw S2 d)) = some id ∧ KR Y Bs (Rep Y) μ2 H2 σ Q W (bmD m d ds b S2) := by
  obtain ⟨μ, ρ, S, w, en, k⟩ := h
  refine tX.bind w en k fun d S1 μ1 H1 x w1 en1 x1 r1 k1 => ?_
  cases hid : mbId m (kindD (vw S1 d)) with
  | none => rw [hid] at k1; exact k1.elim
  | some id =>
    rw [hid] at k1
    simp only [Option.isSome_some, if_true] at k1
    refine ⟨μ1, S1, d, id, view_of w1 r1, hid, tX.bind w1 en1 k1 fun ds S2 μ2 H2 xs w2 en2 x2 r2 k2 => ?_⟩
    split at k2
    · rename_i e
      exact ⟨μ2, S2, ds, w2, r1.ext x2, r2, by rw [← e]; exact hid, k2⟩
    · exact k2.elim
theorem s_bm (G : Good Y c b Bs W M X) {m : MB} {o y : Expr} {ys : List Expr} {ap p : Pos} {ma : Env → Store → R D} {mas : Env → Store → R (List D)} (hl : (ap.endLine == p.line) = true) (hf : (y :: ys).length < 20) (h0 : notCall0 o = true) (hs : allNS (y :: ys) = true)
    (ho : PE X o (tI Y Bs W ma)) (ha : PA X (y :: ys) (tA Y Bs W mas)) : PE X (.Call (.Attribute o (nm m.py) ap) (y :: ys) [] p) (tI Y Bs W (bmM m b ma mas)) := by
  have hs' := hs
  unfold allNS at hs'
  rw [List.all_cons, Bool.and_eq_true] at hs'
  refine ⟨fun pins s σ H Q I h => ?_⟩
  refine wpAny_Call_method_late (base_of h0) ?_ hl rfl (thn (ho.run pins s σ H _ I (bm_read h)) fun v s1 ⟨x, H1, I1, r1, μ1, S1, d, id, vd, hid, q1⟩ => ?_)
  · rw [(starEach_ns hs).2]
    simp only [Bool.true_and, Bool.and_eq_true, decide_eq_true_eq]
    exact ⟨rfl, by simp at hf ⊢; omega⟩
  obtain ⟨f1, f2, f3⟩ := mb_facts hid
  obtain ⟨h1, h2⟩ := kind_is I1 r1 vd hid
  refine ⟨_, id, f1, f2, f3, h1, h2, ?_⟩
  have hA := ha.run p pins s1 σ H1 _ I1 q1
  rw [starEach_of hs'.1] at hA ⊢
  refine Calls.callWith_builtin (by show (false || (backTo p (starEach ys X.env)).any (·.1)) = false; rw [(starEach_ns hs'.2).1] <;> rfl) (Calls.evalArgs_plain ?_)
  refine thn hA fun us s2 ⟨vs, H2, I2, r2, μ2, S2, ds, w2, rd, rds, hid2, k2⟩ => ?_
  exact bm_D G.hu hid2 G.hb I2 r1 r2 w2 rd rds k2
theorem s_bm0 (G : Good Y c b Bs W M X) {m : MB} {o : Expr} {ap p : Pos} {ma : Env → Store → R D} (hl : (ap.endLine == p.line) = true) (h0 : notCall0 o = true)
    (ho : PE X o (tI Y Bs W ma)) : PE X (.Call (.Attribute o (nm m.py) ap) [] [] p) (tI Y Bs W (bmM m b ma fun _ S => .ok [] S)) := by
  refine ⟨fun pins s σ H Q I h => ?_⟩
  refine wpAny_Call_method_late (base_of h0) rfl hl rfl (thn (ho.run pins s σ H _ I (bm_read h)) fun v s1 ⟨x, H1, I1, r1, μ1, S1, d, id, vd, hid, q1⟩ => ?_)
  obtain ⟨f1, f2, f3⟩ := mb_facts hid
  obtain ⟨h1, h2⟩ := kind_is I1 r1 vd hid
  refine ⟨_, id, f1, f2, f3, h1, h2, ?_⟩
  obtain ⟨μ2, ρ, S2, w2, en2, k2⟩ := q1
  obtain ⟨μ3, S3, ds, w3, rd, rds, hid2, k3⟩ := k2 μ2 H1 [] (.refl _ _) w2 .nil
  exact Calls.callWith_builtin rfl (PySem.evalArgs_none (bm_D (us := []) G.hu hid2 G.hb I1 r1 .nil w3 rd rds k3))
theorem KR.noσ {μ : List Addr} {H : Hp} {σ : L2.St} {Q : VK} {r : R D} (k : KR Y Bs (Rep Y) μ H σ Q W r) : KR Y Bs (Rep Y) μ H [] Q (fun cls d _ H' => WE W σ cls d H') r := by
  cases r with
  | ok d S => exact k
  | err C ns ds S => exact k
  | bad => exact k
theorem s_call (G : Good Y c b Bs W M X) (hx : Y.exs = none) {f : String} {g : Bool} {n : Str} {q p : Pos} {y : Expr} {ys : List Expr} {mas : Env → Store → R (List D)} (hf : M.fn f = true) (hn : gnB M.sc f n = true) (hs : allNS (y :: ys) = true) (ha : PA X (y :: ys) (tA Y Bs W mas)) :
    PE X (.Call (.Name n q) (y :: ys) [] p) (tI Y Bs W fun ρ S => (mas ρ S).bind fun ds S1 => c.call f g ds b S1) := by
  obtain ⟨rfl, h4, h5⟩ := gnB_of hn
  have hs' := hs
  unfold allNS at hs'
  rw [List.all_cons, Bool.and_eq_true] at hs'
  obtain ⟨k, a, fd, ps, F, hr, hm, hk, hb⟩ := (G.call f hf).get
  refine (pe_callSD (E := WE W) (dvs := []) (ds := []) F hr (G.gl h4) hm hk hb .nil (fun σ => passAt G.tk σ) ha (okN_db h5) (starEach_of hs'.1) (starEach_ns hs'.2).1).imp ?_
  rintro σ H Q ⟨μ, ρ, S, w, en, k⟩
  refine tX.bind w en k fun ds S1 μ1 H1 vs w1 en1 x1 r1 k1 => ?_
  rw [List.append_nil]
  exact ⟨Y, rfl, hx, g, b, Bs, μ1, S1, ds, G.hb, w1, r1, k1.noσ⟩
theorem s_call0 (G : Good Y c b Bs W M X) (hx : Y.exs = none) {f : String} {g : Bool} {n : Str} {q p : Pos} (hf : M.fn f = true) (hn : gnB M.sc f n = true) :
    PE X (.Call (.Name n q) [] [] p) (tI Y Bs W fun _ S => c.call f g [] b S) := by
  obtain ⟨rfl, h4, h5⟩ := gnB_of hn
  obtain ⟨k, a, fd, ps, F, hr, hm, hk, hb⟩ := (G.call f hf).get
  refine ⟨fun pins s σ H Q I ⟨μ, ρ, S, w, en, k1⟩ => ?_⟩
  refine wpAny_Call_Name_kw (ld_glob I (G.gl h4) hm ?_ (okN_db h5))
  exact PySem.W.callWith_K0 I.kIn hk (run_fnSD (E := WE W) (dvs := []) (ds := []) (us := []) (vs := []) F hr hb .nil (passAt G.tk σ) I .nil ⟨Y, rfl, hx, g, b, Bs, μ, S, [], G.hb, w, .nil, k1.noσ⟩)
theorem kit_bas : ∀ T ∈ basT, ∀ C ∈ bTy, kitB T C = some (C == T || (T == "bool" && C == "int")) := by decide +kernel
theorem basK {K : PySem.W.Frag} {T C : String} (hT : T ∈ basT) (hC : isB C = true) : PySem.W.kitOne K (.type T) (.type C) = some (C == T || (T == "bool" && C == "int")) :=
  kit_ty (kit_bas T hT C (by unfold isB at hC; simpa using hC))
theorem isB_mem {C : String} (h : isB C = true) : C ∈ bTy := by unfold isB at h; simpa using h
def basA (T C : String) : Bool := isB C && (C == T || (T == "bool" && C == "int"))
theorem basA_of {T C : String} (hT : isB T = true) (hT2 : (T == "bool") = false) : basA T C = (C == T) := by
  unfold basA
  rw [hT2, Bool.false_and, Bool.or_false]
  by_cases h : C = T
  · subst h; rw [hT]; simp
  · simp [h]
theorem basA_bool {C : String} : basA "bool" C = (C == "bool" || C == "int") := by
  unfold basA
  by_cases h : C = "bool"
  · subst h; rfl
  · by_cases h2 : C = "int"
    · subst h2; rfl
    · simp [h, h2]
theorem basA_non {C : String} : basA "NoneType" C = false := by
  unfold basA
  by_cases h : C = "NoneType"
  · subst h; decide +kernel
  · have : ("NoneType" == "bool") = false := by decide +kernel
    rw [this]
    simp [h]
theorem isa_ok (G : Good Y c b Bs W M X) {μ : List Addr} {H : Hp} {x : V} {d0 : D} {S : Store} (w : World Y Bs μ H S) (r0 : Rep Y μ H x d0) : (∃ t, TyX X.K H x t ∧ ∀ C k, (isB C = true ∨ M.cl C = true) → isaD c (vw S d0) C = some k → PySem.W.kitOne X.K t (clsVal Y C) = some k) ∨ ∀ C, isaD c (vw S d0) C = none := by
  have bas : ∀ {T : String} {d : D}, T ∈ basT → (∀ C, isaD c d C = some (basA T C)) → ∀ C k, (isB C = true ∨ M.cl C = true) → isaD c d C = some k → PySem.W.kitOne X.K (.type T) (clsVal Y C) = some k := by
    intro T d hT hd C k hC hk
    rw [hd] at hk
    simp only [Option.some.injEq] at hk
    subst hk
    unfold clsVal basA
    by_cases hB : isB C = true
    · rw [if_pos hB, hB, Bool.true_and]; exact basK hT hB
    · rw [if_neg hB]
      have hB' : isB C = false := by simpa using hB
      rw [G.isaN C (hC.resolve_left hB) hB' T hT, hB', Bool.false_and]
  have v := view_of w r0
  revert v
  cases hvw : vw S d0 with
  | non => intro v; cases v; exact .inl ⟨_, .base .non, bas (T := "NoneType") (by decide) (fun C => by rw [basA_non]; rfl)⟩
  | bl t => intro v; cases v; exact .inl ⟨_, .base (.bl t), bas (T := "bool") (by decide) (fun C => by rw [basA_bool]; rfl)⟩
  | int i => intro v; cases v; exact .inl ⟨_, .base (.int i), bas (T := "int") (by decide) (fun C => by rw [basA_of (by decide +kernel) (by decide +kernel)]; rfl)⟩
  | str l => intro v; cases v; exact .inl ⟨_, .base (.str _), bas (T := "str") (by decide) (fun C => by rw [basA_of (by decide +kernel) (by decide +kernel)]; rfl)⟩
  | tup ds =>
    intro v
    cases v with
    | tup h _ _ => exact .inl ⟨_, .base (.tup h), bas (T := "tuple") (by decide) (fun C => by rw [basA_of (by decide +kernel) (by decide +kernel)]; rfl)⟩
  | lst ds =>
    intro v
    cases v with
    | lst h _ => exact .inl ⟨_, .base (.lst h), bas (T := "list") (by decide) (fun C => by rw [basA_of (by decide +kernel) (by decide +kernel)]; rfl)⟩
  | way ds =>
    intro v
    cases v with
    | way h _ _ _ => exact .inl ⟨_, .fTuple h, bas (T := "tuple") (by decide) (fun C => by rw [basA_of (by decide +kernel) (by decide +kernel)]; rfl)⟩
  | dic t ks vs =>
    intro v
    cases v with
    | dicK h _ => exact .inl ⟨_, .base (.dK h), bas (T := "dict") (by decide) (fun C => by rw [basA_of (by decide +kernel) (by decide +kernel)]; rfl)⟩
    | dicT h _ => exact .inl ⟨_, .base (.dT h), bas (T := "dict") (by decide) (fun C => by rw [basA_of (by decide +kernel) (by decide +kernel)]; rfl)⟩
  | ins Z ns ds =>
    intro v
    cases v with
    | ins h hn r =>
      by_cases hx : ∃ C k, c.isa Z C = some k
      · obtain ⟨t, ht, hk⟩ := G.isaI Z hx H _ _ _ h
        exact .inl ⟨t, ht, fun C k hC e => hk C k e hC⟩
      · refine .inr fun C => ?_
        cases e : isaD c (.ins Z ns ds) C with
        | none => rfl
        | some k => exact absurd ⟨C, k, e⟩ hx
  | exn Z ns ds => intro v; cases v
  | ref i => intro v; exact .inr fun C => rfl
  | scr ns => intro v; exact .inr fun C => rfl
theorem isaAny_one {c : Ctx} {d : D} {C : String} : isaAny c d [C] = isaD c d C := by
  unfold isaAny
  cases isaD c d C with
  | none => rfl
  | some k => cases k <;> rfl
theorem isaAny_kit {K : PySem.W.Frag} {t : Value} {d : D} : ∀ {cs : List String} {k : Bool}, (∀ C ∈ cs, isB C = true ∨ M.cl C = true) → (∀ C k, (isB C = true ∨ M.cl C = true) → isaD c d C = some k → PySem.W.kitOne K t (clsVal Y C) = some k) → isaAny c d cs = some k →
    PySem.W.kitAny K t (cs.map (clsVal Y)) = some k
  | [], k, _, _, e => by simp only [isaAny, Option.some.injEq] at e; subst e; exact kitAny_nil
  | C :: cs, k, hc, h, e => by
    unfold isaAny at e
    cases q : isaD c d C with
    | none => rw [q] at e; cases e
    | some j =>
      rw [q] at e
      refine kitAny_cons (h C j (hc C (List.mem_cons_self ..)) q) (fun hj => ?_) (fun hj => ?_)
      · subst hj
        exact isaAny_kit (fun C' h' => hc C' (List.mem_cons_of_mem _ h')) h e
      · subst hj
        simp only [Option.some.injEq] at e
        exact e.symm
theorem clsV_is (C : String) : ClsV (clsV Y C) (clsVal Y C) := by
  unfold clsV clsVal
  by_cases h : isB C = true
  · rw [if_pos h, if_pos h]; exact .ty C
  · rw [if_neg h, if_neg h]; exact .own _
theorem boot_ty : ∀ C ∈ bTy, bootBuiltins (nm C) = some (.type C) ∧ nm C ≠ "__name__" := by decide +kernel
theorem e_cls (G : Good Y c b Bs W M X) {C : String} {n : Str} {p : Pos} (h1 : (isB C || M.cl C) = true) (h2 : gnB M.sc C n = true) : PE X (.Name n p) (tC (clsV Y C)) := by
  obtain ⟨rfl, h4, h5⟩ := gnB_of h2
  unfold clsV
  by_cases hB : isB C = true
  · rw [if_pos hB]
    obtain ⟨a1, a2⟩ := boot_ty C (isB_mem hB)
    exact pe_bltn (G.gl h4) (G.bcl C hB) a1 rfl a2 (okN_db h5)
  · rw [if_neg hB]
    have hB' : isB C = false := by simpa using hB
    rw [hB', Bool.false_or] at h1
    exact pe_glob (G.gl h4) (G.cls C h1 hB') rfl (okN_db h5)
theorem clsMt_mem : ∀ {cs : List String} {xs : List Expr}, clsMt M cs xs = true → ∀ C ∈ cs, isB C = true ∨ M.cl C = true
  | [], _, _, C, h => by simp at h
  | C' :: cs, [], h, C, hC => by simp [clsMt] at h
  | C' :: cs, x :: xs, h, C, hC => by
    cases x <;> simp only [clsMt, Bool.and_eq_true, Bool.or_eq_true] at h <;> first
      | (exact absurd h Bool.false_ne_true)
      | (rcases List.mem_cons.mp hC with e | e
         · rw [e]; exact h.1
         · exact clsMt_mem h.2.2 C e)
theorem a_cls (G : Good Y c b Bs W M X) : ∀ {cs : List String} {xs : List Expr}, clsMt M cs xs = true → PA X xs (fun σ H Q => Q (cs.map (clsV Y)) H)
  | [], [], _ => pa_nil
  | [], x :: xs, h => by simp [clsMt] at h
  | C :: cs, [], h => by simp [clsMt] at h
  | C :: cs, x :: xs, h => by
    cases x with
    | Name n p =>
      simp only [clsMt, Bool.and_eq_true] at h
      exact (pa_cons (e_cls G h.1 h.2.1) (a_cls G h.2.2) (starEach_of rfl)).imp fun σ H Q q => q
    | _ => simp [clsMt] at h
theorem clsV_all : ∀ cs : List String, Paired ClsV (cs.map (clsV Y)) (cs.map (clsVal Y))
  | [] => .nil
  | C :: cs => .cons (clsV_is C) (clsV_all cs)
def isiM (c : Ctx) (cs : List String) (ma : Env → Store → R D) : Env → Store → R D := fun ρ S => (ma ρ S).bind fun d S1 => R.of S1 ((isaAny c (vw S1 d) cs).map .bl)
theorem isi_bis : "isinstance" ∈ bis := by decide +kernel
theorem isaAny_none {c : Ctx} {d : D} (h : ∀ C, isaD c d C = none) : ∀ cs : List String, cs ≠ [] → isaAny c d cs = none
  | [], h' => absurd rfl h'
  | C :: cs, _ => by unfold isaAny; rw [h]
theorem s_isi1 (G : Good Y c b Bs W M X) {cs : List String} {n : Str} {q p : Pos} {y z : Expr} {ma : Env → Store → R D} (hn : gnB M.sc "isinstance" n = true) (hs : notStar y = true) (ha : PE X y (tI Y Bs W ma)) (hc : clsMt M cs [z] = true) :
    PE X (.Call (.Name n q) [y, z] [] p) (tI Y Bs W (isiM c cs ma)) := by
  obtain ⟨rfl, h4, h5⟩ := gnB_of hn
  match cs, hc with
  | [], hc => simp [clsMt] at hc
  | C :: D' :: _, hc => cases z <;> simp [clsMt] at hc
  | [C], hc =>
    cases z with
    | Name n2 p2 =>
      have hc' := hc
      simp only [clsMt, Bool.and_eq_true] at hc'
      have hC : isB C = true ∨ M.cl C = true := by simpa using hc'.1
      refine (pe_callB call_isi (G.gl h4) (G.bi _ isi_bis) PyProof.Rows.boot_isinstance (pa_cons ha (pa_cons (e_cls G hc'.1 hc'.2.1) pa_nil (starEach_of rfl)) (starEach_of hs)) (by decide +kernel) (okN_db h5) (starEach_of hs) rfl).imp ?_
      rintro σ H Q ⟨μ, ρ, S, w, en, k⟩
      refine tX.bind w en k fun d S1 μ1 H1 u w1 en1 x1 r1 k1 => ?_
      obtain ⟨r, hr, k2⟩ := k1.of
      simp only [Option.map_eq_some_iff] at hr
      obtain ⟨t, ht, rfl⟩ := hr
      rw [isaAny_one] at ht
      rcases isa_ok G w1 r1 with ⟨ty, h1, h2⟩ | h1
      · exact ⟨u, _, ty, _, t, rfl, clsV_is C, h1, h2 C t hC ht, k2 μ1 H1 _ (.refl _ _) w1 (.bl t)⟩
      · rw [h1] at ht; cases ht
    | _ => simp [clsMt] at hc
theorem s_isiT (G : Good Y c b Bs W M X) {cs : List String} {n : Str} {q p p2 : Pos} {y : Expr} {zs : List Expr} {kk : Nat} {ma : Env → Store → R D} (hn : gnB M.sc "isinstance" n = true) (hs : notStar y = true) (hl : cs.length ≤ 1000) (h0 : cs ≠ []) (ha : PE X y (tI Y Bs W ma)) (hc : clsMt M cs zs = true) :
    PE X (.Call (.Name n q) [y, .Tuple zs kk p2] [] p) (tI Y Bs W (isiM c cs ma)) := by
  obtain ⟨rfl, h4, h5⟩ := gnB_of hn
  refine (pe_callB call_isiT (G.gl h4) (G.bi _ isi_bis) PyProof.Rows.boot_isinstance (pa_cons ha (pa_cons (pe_tup (a_cls G hc)) pa_nil (starEach_of rfl)) (starEach_of hs)) (by decide +kernel) (okN_db h5) (starEach_of hs) rfl).imp ?_
  rintro σ H Q ⟨μ, ρ, S, w, en, k⟩
  refine tX.bind w en k fun d S1 μ1 H1 u w1 en1 x1 r1 k1 => ⟨by rw [List.length_map]; exact small_line hl, fun a na => ?_⟩
  obtain ⟨r, hr, k2⟩ := k1.of
  simp only [Option.map_eq_some_iff] at hr
  obtain ⟨t, ht, rfl⟩ := hr
  have w2 : World Y Bs μ1 (upd H1 a (.tup (cs.map (clsV Y)))) S1 := w1.laid na
  have r2 : Rep Y μ1 (upd H1 a (.tup (cs.map (clsV Y)))) u d := r1.ext (.laid na)
  have fin := k2 μ1 _ _ (.laid na) w2 (.bl t)
  rcases isa_ok G w2 r2 with ⟨ty, h1, h2⟩ | h1
  · exact ⟨u, a, _, ty, _, t, rfl, upd_same, clsV_all cs, h1, isaAny_kit (clsMt_mem hc) h2 ht, fin⟩
  · rw [isaAny_none h1 _ h0] at ht; cases ht
end
end CL
namespace CL
open PySem PySem.Spec PyProof.Rows L2
section
variable {X : Cx} {Y : Sx} {Bs : List Nat} {W : WX} {b : Nat} {M : MC} {c : Ctx}
theorem exn_at {pins : List (Addr × Obj)} {s : Shared} {σ : L2.St} {H : Hp} {μ : List Addr} (G : Good Y c b Bs W M X) (I : Inv X pins σ H s) {z : ExS} (hz : Y.exs = some z) (x : ExcAt Y μ H z.C z.ns z.ds z.cls z.dd) :
    ∃ (oe : Obj) (od : Option Obj), PySem.W.InstAt s.heap z.at_ oe (Y.ca z.C) od ∧ ((z.dd = none ∧ od = none) ∨ ∃ (a : Addr) (fs : List (Str × V)) (mA : Str → Option Value) (o : Obj), z.dd = some a ∧ H a = some (.xd fs) ∧ od = some o ∧ (∀ f, PySem.W.lookIn f o = some (mA f)) ∧ ∀ f, RelO (fs.lookup f) (mA f)) := by
  obtain ⟨_, oe, hp, hzc, vs, hv⟩ := G.exn z hz
  obtain ⟨hg, _⟩ := I.pin (z.at_, oe) (List.mem_append_left _ hp)
  have hcls : oe.cls = .ref (Y.ca z.C) := hzc.1.trans x.cls_
  have hnc : PySem.W.notCls oe := by unfold PySem.W.notCls; rw [hv]
  rcases x.flds with ⟨h1, _, _⟩ | ⟨a, fs, h1, h2, _⟩
  · exact ⟨oe, none, ⟨hg, hcls, hnc, by rw [hzc.2, h1]; trivial⟩, .inl ⟨h1, rfl⟩⟩
  · have ok : ObjOk X.prog X.w H s.heap a (.xd fs) := I.hok a _ h2
    obtain ⟨mA, hns, hr⟩ := ok
    obtain ⟨od, ho, hl⟩ := lookIn_ns hns
    exact ⟨oe, some od, ⟨hg, hcls, hnc, by rw [hzc.2, h1]; exact ho⟩, .inr ⟨a, fs, mA, od, h1, h2, rfl, hl, hr⟩⟩
def rIsX (X : Cx) (Y : Sx) : List V → Hp → VK → Prop := fun xs H Q => ∃ (z : ExS) (μ : List Addr) (c : V) (u : Value) (b : Bool), Y.exs = some z ∧ ExcAt Y μ H z.C z.ns z.ds z.cls z.dd ∧ xs = [.ref z.at_, c] ∧ ClsV c u ∧ PySem.W.kitOne X.K (.ref (Y.ca z.C)) u = some b ∧ Q (.bl b) H
def rIsXT (X : Cx) (Y : Sx) : List V → Hp → VK → Prop := fun xs H Q => ∃ (z : ExS) (μ : List Addr) (tp : Addr) (cs : List V) (us : List Value) (b : Bool), Y.exs = some z ∧ ExcAt Y μ H z.C z.ns z.ds z.cls z.dd ∧ xs = [.ref z.at_, .ref tp] ∧ H tp = some (.tup cs) ∧ Paired ClsV cs us ∧ PySem.W.kitAny X.K (.ref (Y.ca z.C)) us = some b ∧ Q (.bl b) H
theorem kit_exn {x : Addr} {ox : Obj} {od : Option Obj} {C : String} (hK : Y.ca.K = X.K) (F : ExF Y.ca C) : PySem.W.KitX X.K (.ref x) (.ref (Y.ca C)) (fun h => PySem.W.InstAt h x ox (Y.ca C) od) := by
  have f1 := F.isC
  have f2 := F.ga
  have f3 := F.gg
  have f4 := F.exC
  have f5 := F.ha
  have f6 := F.hn
  have f7 := F.ht
  have f8 := F.hm
  rw [hK] at f1 f2 f3 f4 f5 f6 f7 f8
  exact PySem.W.kitx_exc (show (PySem.W.clsIn X.K (Y.ca C)).isSome = true from f1) f2 f3 f4 f5 f6 f7 f8
theorem call_isX (G : Good Y c b Bs W M X) : CallR X (.builtin "isinstance") (rIsX X Y) := by
  intro pins s σ H xs us Q I r h
  obtain ⟨z, μ, cv, u, t, hz, x, rfl, k, e, q⟩ := h
  obtain ⟨u1, u2, rfl, r1, r2⟩ := vals2 r
  have e2 := k.eq r2
  subst e2
  obtain rfl : u1 = Value.ref z.at_ := r1
  obtain ⟨oe, od, J, _⟩ := exn_at G I hz x
  exact PySem.W.kia_one (kit_exn G.hK x.cl) I.kIn J e (fun z => nomatch z) fun tk => ⟨.bl t, H, I.tok tk, rfl, q⟩
theorem call_isXT (G : Good Y c b Bs W M X) : CallR X (.builtin "isinstance") (rIsXT X Y) := by
  intro pins s σ H xs us Q I r h
  obtain ⟨z, μ, tp, cs, ws, t, hz, x, rfl, hT, k, e, q⟩ := h
  obtain ⟨u1, u2, rfl, r1, r2⟩ := vals2 r
  cases (show u2 = Value.ref tp from r2)
  obtain rfl : u1 = Value.ref z.at_ := r1
  obtain ⟨oe, od, J, _⟩ := exn_at G I hz x
  obtain ⟨_, its, rv, o, h1, h2, n, h3⟩ := (show ObjOk X.prog X.w H s.heap tp (.tup cs) from I.hok tp _ hT)
  have e3 := ClsV.all k rv
  subst e3
  obtain ⟨oc, od', dt, sl⟩ := o
  simp only at h2 h3
  subst h2 h3
  exact PySem.W.kia_tup (kit_exn G.hK x.cl) I.kIn J h1 e (fun z => nomatch z) fun tk => ⟨.bl t, H, I.tok tk, rfl, q⟩
theorem e_exn (G : Good Y c b Bs W M X) {y : Expr} (h : exnB M y = true) : ∃ i, M.exi = some i ∧ PE X y (tVar i) := by
  unfold exnB at h
  split at h
  · rename_i i n p he
    simp only [Bool.and_eq_true, decide_eq_true_eq] at h
    exact ⟨i, he, pe_var (i := i) (by rw [G.hN]; exact h.1) (by rw [G.hsc]; exact visB_ok h.2.1) (okN_db h.2.2) (okN_cd h.2.2)⟩
  · cases h
theorem exs_of (G : Good Y c b Bs W M X) {i : Nat} (h : M.exi = some i) : ∃ z, Y.exs = some z ∧ z.slot = i := by
  have e := G.exs
  rw [h] at e
  cases hx : Y.exs with
  | none => rw [hx] at e; cases e
  | some z =>
    rw [hx] at e
    simp only [Option.map_some, Option.some.injEq] at e
    exact ⟨z, rfl, e.symm⟩
def isxM (c : Ctx) (cs : List String) : Env → Store → R D := fun _ S => match c.exc with
    | some x => R.of S ((isxAny c x.1 cs).map .bl)
    | none => .bad
theorem isxAny_kit {K : PySem.W.Frag} {t : Value} {Z : String} : ∀ {cs : List String} {k : Bool}, (∀ C ∈ cs, isB C = true ∨ M.cl C = true) → (∀ C k, (isB C = true ∨ M.cl C = true) → c.isx Z C = some k → PySem.W.kitOne K t (clsVal Y C) = some k) → isxAny c Z cs = some k →
    PySem.W.kitAny K t (cs.map (clsVal Y)) = some k
  | [], k, _, _, e => by simp only [isxAny, Option.some.injEq] at e; subst e; exact kitAny_nil
  | C :: cs, k, hc, h, e => by
    unfold isxAny at e
    cases q : c.isx Z C with
    | none => rw [q] at e; cases e
    | some j =>
      rw [q] at e
      refine kitAny_cons (h C j (hc C (List.mem_cons_self ..)) q) (fun hj => ?_) (fun hj => ?_)
      · subst hj
        exact isxAny_kit (fun C' h' => hc C' (List.mem_cons_of_mem _ h')) h e
      · subst hj
        simp only [Option.some.injEq] at e
        exact e.symm
theorem isxAny_one {Z C : String} : isxAny c Z [C] = c.isx Z C := by
  unfold isxAny isxAny
  cases c.isx Z C with
  | none => rfl
  | some k => cases k <;> rfl
theorem isx_read {cs : List String} {σ : L2.St} {H : Hp} {Q : VK} (G : Good Y c b Bs W M X) {i : Nat} (hi : M.exi = some i) (h : tI Y Bs W (isxM c cs) σ H Q) : ∃ (z : ExS) (μ : List Addr) (k : Bool), Y.exs = some z ∧ σ[i]? = some (some (.ref z.at_)) ∧ ExcAt Y μ H z.C z.ns z.ds z.cls z.dd ∧ isxAny c z.C cs = some k ∧
    ∀ H', (∀ a o, H a = some o → H' a = some o) → Q (.bl k) H' := by
  obtain ⟨μ, ρ, S, w, en, k⟩ := h
  obtain ⟨z, hz, rfl⟩ := exs_of G hi
  obtain ⟨h1, x⟩ := en.ex z hz
  unfold isxM at k
  rw [(G.exn z hz).1] at k
  obtain ⟨r, hr, k2⟩ := k.of
  simp only [Option.map_eq_some_iff] at hr
  obtain ⟨t, ht, rfl⟩ := hr
  exact ⟨z, μ, t, hz, h1, x, ht, fun H' hs => k2 μ H' _ (.of_same hs) (w.same hs) (.bl t)⟩
theorem s_xis1 (G : Good Y c b Bs W M X) {cs : List String} {n : Str} {q p : Pos} {y z : Expr} (hn : gnB M.sc "isinstance" n = true) (hy : exnB M y = true) (hc : clsMt M cs [z] = true) :
    PE X (.Call (.Name n q) [y, z] [] p) (tI Y Bs W (isxM c cs)) := by
  obtain ⟨rfl, h4, h5⟩ := gnB_of hn
  obtain ⟨i, hi, hy'⟩ := e_exn G hy
  have hs : notStar y = true := by
    unfold exnB at hy
    split at hy
    · rfl
    · cases hy
  match cs, hc with
  | [], hc => simp [clsMt] at hc
  | C :: D' :: _, hc => cases z <;> simp [clsMt] at hc
  | [C], hc =>
    cases z with
    | Name n2 p2 =>
      have hc' := hc
      simp only [clsMt, Bool.and_eq_true] at hc'
      have hC : isB C = true ∨ M.cl C = true := by simpa using hc'.1
      refine (pe_callB (call_isX G) (G.gl h4) (G.bi _ isi_bis) PyProof.Rows.boot_isinstance (pa_cons hy' (pa_cons (e_cls G hc'.1 hc'.2.1) pa_nil (starEach_of rfl)) (starEach_of hs)) (by decide +kernel) (okN_db h5) (starEach_of hs) rfl).imp ?_
      intro σ H Q h
      obtain ⟨z, μ, k, hz, h1, x, ht, fin⟩ := isx_read G hi h
      rw [isxAny_one] at ht
      exact ⟨_, h1, z, μ, _, _, k, hz, x, rfl, clsV_is C, G.isxK _ C k ht hC, fin H fun _ _ h => h⟩
    | _ => simp [clsMt] at hc
theorem s_xisT (G : Good Y c b Bs W M X) {cs : List String} {n : Str} {q p p2 : Pos} {y : Expr} {zs : List Expr} {kk : Nat} (hn : gnB M.sc "isinstance" n = true) (hy : exnB M y = true) (hl : cs.length ≤ 1000) (hc : clsMt M cs zs = true) :
    PE X (.Call (.Name n q) [y, .Tuple zs kk p2] [] p) (tI Y Bs W (isxM c cs)) := by
  obtain ⟨rfl, h4, h5⟩ := gnB_of hn
  obtain ⟨i, hi, hy'⟩ := e_exn G hy
  have hs : notStar y = true := by
    unfold exnB at hy
    split at hy
    · rfl
    · cases hy
  refine (pe_callB (call_isXT G) (G.gl h4) (G.bi _ isi_bis) PyProof.Rows.boot_isinstance (pa_cons hy' (pa_cons (pe_tup (a_cls G hc)) pa_nil (starEach_of rfl)) (starEach_of hs)) (by decide +kernel) (okN_db h5) (starEach_of hs) rfl).imp ?_
  intro σ H Q h
  obtain ⟨z, μ, k, hz, h1, x, ht, fin⟩ := isx_read G hi h
  refine ⟨_, h1, by rw [List.length_map]; exact small_line hl, fun a na => ?_⟩
  have up : ∀ a' o, H a' = some o → upd H a (.tup (cs.map (clsV Y))) a' = some o := fun a' o h => by rw [upd_ne (ne_of_none h na)]; exact h
  exact ⟨z, μ, a, _, _, k, hz, x.move (.of_same up) (.refl _ _), rfl, upd_same, clsV_all cs, isxAny_kit (clsMt_mem hc) (fun C k' h1 h2 => G.isxK _ C k' h2 h1) ht, fin _ up⟩
theorem fld_rep {μ : List Addr} {H : Hp} {f : String} : ∀ {fs : List (Str × V)} {ns : List String} {ds : List D} {d : D}, fs.map (·.1) = ns.map nm → RepL Y μ H (fs.map (·.2)) ds → fldD f ns ds = some d → ∃ v, fs.lookup (nm f) = some v ∧ Rep Y μ H v d ∧ f ∈ ns
  | [], [], _, d, _, _, e => by simp [fldD] at e
  | [], _ :: _, _, _, h, _, _ => by simp at h
  | _ :: _, [], _, _, h, _, _ => by simp at h
  | (g, v) :: fs, n :: ns, _, d, h, r, e => by
    cases r with
    | cons r1 r2 =>
      simp only [List.map_cons, List.cons.injEq] at h
      obtain ⟨h1, h2⟩ := h
      subst h1
      unfold fldD at e
      by_cases q : n = f
      · subst q
        simp only [if_true, Option.some.injEq] at e
        subst e
        exact ⟨v, by simp [List.lookup], r1, List.mem_cons_self⟩
      · rw [if_neg q] at e
        obtain ⟨v', a1, a2, a3⟩ := fld_rep h2 r2 e
        have hq : (nm f == nm n) = false := by
          rw [beq_eq_false_iff_ne]
          exact fun z => q (nm_inj z).symm
        exact ⟨v', by rw [List.lookup, hq]; exact a1, a2, List.mem_cons_of_mem _ a3⟩
theorem s_xfld (G : Good Y c b Bs W M X) {f : String} {y : Expr} {p : Pos} (hy : exnB M y = true) : PE X (.Attribute y (nm f) p) (tI Y Bs W fun _ S => match c.exc with
    | some x => R.of S (fldD f x.2.1 x.2.2)
    | none => .bad) := by
  obtain ⟨i, hi, hy'⟩ := e_exn G hy
  have hb : attributeBase y (nm f) X.env (eval y X.env) = eval y X.env := by
    unfold exnB at hy
    split at hy
    · rfl
    · cases hy
  refine ⟨fun pins s σ H Q I h => ?_⟩
  obtain ⟨μ, ρ, S, w, en, k⟩ := h
  obtain ⟨z, hz, rfl⟩ := exs_of G hi
  obtain ⟨h1, x⟩ := en.ex z hz
  dsimp only at k
  rw [(G.exn z hz).1] at k
  obtain ⟨d, hr, k2⟩ := k.of
  refine attr_of hb (thn (hy'.run pins s σ H (fun v H' => v = .ref z.at_ ∧ H' = H) I ⟨_, h1, rfl, rfl⟩) fun u s1 hh => ?_)
  obtain ⟨v, H1, I1, rv, rfl, rfl⟩ := hh
  obtain rfl : u = Value.ref z.at_ := rv
  obtain ⟨oe, od, J, hd⟩ := exn_at G I1 hz x
  rcases x.flds with ⟨e1, e2, e3⟩ | ⟨a, fs, e1, e2, fr, e3, r⟩
  · rw [e2, e3] at hr
    simp [fldD] at hr
  · obtain ⟨v, hv, rv', hm⟩ := fld_rep e3 r hr
    rcases hd with ⟨q, _⟩ | ⟨a', fs', mA, o, q1, q2, rfl, hl, hrel⟩
    · rw [e1] at q; cases q
    · rw [e1] at q1
      obtain rfl := Option.some.inj q1
      rw [e2] at q2
      cases q2
      obtain ⟨u, hu, ru⟩ := RelO.some_of (v := v) (o := mA (nm f)) (by rw [← hv]; exact hrel (nm f))
      have F := x.cl
      have hno := x.no f hm
      have f2 := F.ga
      have f3 := F.gg
      have f4 := F.exC
      have f5 := F.hdC
      rw [G.hK] at hno f2 f3 f4 f5
      exact HandSPX.exc_get I1.kIn J f2 f3 f4 (PySem.W.findObj_own f5 hno rfl (by rw [hl, hu])) (handed_of ru) ⟨v, _, I1.tok _, ru, k2 μ _ v (.refl _ _) w rv'⟩
end
end CL
namespace CL
open PySem PySem.Spec PyProof.Rows L2
section
variable {X : Cx} {Y : Sx} {Bs : List Nat} {W : WX} {b : Nat} {M : MC} {c : Ctx}
theorem s_hcall (G : Good Y c b Bs W M X) {f : String} {n : Str} {q p : Pos} {y : Expr} (hf : M.hfn f = true) (hn : gnB M.sc f n = true) (hy : exnB M y = true) :
    PE X (.Call (.Name n q) [y] [] p) (tI Y Bs W fun _ S => match c.exc with | some x => c.hcall f x b S | none => .bad) := by
  obtain ⟨rfl, h4, h5⟩ := gnB_of hn
  obtain ⟨i, hi, hy'⟩ := e_exn G hy
  have hs : notStar y = true := by
    unfold exnB at hy
    split at hy
    · rfl
    · cases hy
  obtain ⟨k, a, fd, ps, F, hr, hm, hk, hb⟩ := (G.hfn f hf).get
  obtain ⟨z, hz, rfl⟩ := exs_of G hi
  obtain ⟨hx, oe, hp, hZ, fv, hv⟩ := G.exn z hz
  refine ⟨fun pins s σ H Q I ⟨μ, ρ, S, w, en, k1⟩ => ?_⟩
  obtain ⟨h1, x⟩ := en.ex z hz
  rw [hx] at k1
  refine wpAny_Call_Name_kw (ld_glob I (G.gl h4) hm ?_ (okN_db h5))
  have ha := pa_cons hy' pa_nil (starEach_of hs)
  refine PySem.W.callWith_K (h₀ := X.base) I.ok.mod.kin hk (thn (ha.run p pins s σ H (fun vs H1 => vs = [V.ref z.at_] ∧ H1 = H) I ⟨_, h1, rfl, rfl⟩) fun us s1 ⟨vs, H1, I1, r, e1, e2⟩ => ⟨I1.kIn, ?_⟩) (starEach_of hs) rfl
  subst e1 e2
  exact run_fnE (E := WE W) F hr hp hb (passAt G.tk σ) I1 r ⟨Y, rfl, z, b, Bs, μ, S, rfl, rfl, hZ, ⟨fv, hv⟩, G.hb, w, x, k1.noσ⟩
end
end CL
namespace CL
open PySem PySem.Spec PyProof.Rows L2
theorem eval_on_line {o : Expr} {m : Str} {as : List Expr} {apos pos : Pos} {env : PySem.Env} (hb : attributeBase o m env (eval o env) = eval o env) (hf : methodCallForm (as.length + 0) (backTo pos (starEach as env)) (backToKw pos (keywordEach [] env)) = true) (hl : (apos.endLine == pos.line) = true) :
    eval (.Call (.Attribute o m apos) as [] pos) env = (do
      let ov ← eval o env
      standAt apos.atName
      let (f, first) ← holding [ov] (getMethod ov m (do return (← importBound o env).getD true))
      callWith pos f first (backTo pos (starEach as env)) (backToKw pos (keywordEach [] env))) := by
  have h1 : methodCallPos true o env apos pos = pure pos := by
    unfold methodCallPos
    exact if_pos (by rw [hl, Bool.or_true])
  show (do
    let ov ← attributeBase o m env (eval o env)
    standAt apos.atName
    methodCall o m apos pos env ov (as.length + 0) (backTo pos (starEach as env)) (backToKw pos (keywordEach [] env))) = _
  rw [hb]
  congr 1
  funext ov
  congr 1
  funext _
  unfold methodCall
  rw [hf, h1]
  first
    | rfl
    | (simp only [pure_bind]; done)
    | (simp; done)
section
variable {Y : Sx} {μ : List Addr} {H : Hp} {Bs : List Nat} {S : Store}
theorem out_cut {n i : Nat} {a : Addr} (w : World Y Bs μ H S) (h : μ[i]? = some a) (hi : ¬ i < n) : Fr Y (μ.take n) a := by
  refine ⟨fun m => ?_, w.hidC a (List.mem_of_getElem? h)⟩
  obtain ⟨j, hj⟩ := List.getElem?_of_mem m
  have hjn : j < n := by
    have := (List.getElem?_eq_some_iff.mp hj).1
    simp at this; omega
  rw [List.getElem?_take_of_lt hjn] at hj
  obtain ⟨l1, e1⟩ := List.getElem?_eq_some_iff.mp h
  obtain ⟨l2, e2⟩ := List.getElem?_eq_some_iff.mp hj
  have := (List.getElem_inj w.nd).mp (e1.trans e2.symm)
  omega
theorem Ext.cut {μ' : List Addr} {H' : Hp} (e : Ext μ H μ' H') : Ext μ H (μ'.take μ.length) H' := by
  obtain ⟨r, hr⟩ := e.pre
  refine ⟨⟨[], by rw [hr]; simp⟩, e.keep, fun a m n => ?_⟩
  rw [hr, List.take_left] at m
  exact absurd m n
end
section
variable {X : Cx} {Y : Sx} {Bs : List Nat} {W : WX} {b : Nat} {M : MC} {c : Ctx}
theorem cls_rep {μ : List Addr} {H : Hp} {S : Store} {v : V} {d : D} {o : String × List String × List D} (w : World Y Bs μ H S) (r : Rep Y μ H v d) (h : clsD S d = some o) :
    ∃ (a dx : Addr) (fs : List (Str × V)), v = .ref a ∧ H a = some (.ins (Y.ca o.1) dx fs) ∧ fs.map (·.1) = o.2.1.map nm ∧ RepL Y μ H (fs.map (·.2)) o.2.2 := by
  cases r with
  | ins hH n hn rl =>
    simp only [clsD, Option.some.injEq] at h
    subst h
    exact ⟨_, _, _, rfl, hH, hn, rl⟩
  | @ref a i hi =>
    simp only [clsD] at h
    split at h
    · rename_i C ns ds hc
      simp only [Option.some.injEq] at h
      subst h
      have co := w.cells i a _ hi hc
      cases co with
      | ins hH hn rl => exact ⟨_, _, _, rfl, hH, hn, rl⟩
    · cases h
  | _ => cases h
theorem s_fld {f : String} {x : Expr} {p : Pos} {ma : Env → Store → R D} (G : Good Y c b Bs W M X) (h0 : notCall0 x = true) (ha : PE X x (tI Y Bs W ma)) : PE X (.Attribute x (nm f) p) (tI Y Bs W fun ρ S => (ma ρ S).bind fun d S1 => R.of S1 (fldOf c S1 f d)) := by
  refine (pe_fld ha (base_of h0)).imp ?_
  rintro σ H Q ⟨μ, ρ, S, w, en, k⟩
  refine tX.bind w en k fun d S1 μ1 H1 v w1 en1 x1 r1 k1 => ?_
  obtain ⟨e, he, k2⟩ := k1.of
  unfold fldOf at he
  cases hc : clsD S1 d with
  | none => rw [hc] at he; cases he
  | some o =>
    rw [hc] at he
    simp only at he
    split at he
    · rename_i hf
      obtain ⟨a, dx, fs, rfl, hH, hn, rl⟩ := cls_rep w1 r1 hc
      obtain ⟨c1, c2⟩ := G.fld _ _ hf
      obtain ⟨y, hy, ry, _⟩ := fld_rep hn rl he
      exact ⟨a, _, dx, fs, y, rfl, hH, c1, c2, hy, k2 μ1 H1 y (.refl _ _) w1 ry⟩
    · cases he
theorem look_none {m : String} : ∀ {fs : List (Str × V)} {ns : List String}, fs.map (·.1) = ns.map nm → ns.contains m = false → fs.lookup (nm m) = none
  | [], [], _, _ => rfl
  | [], _ :: _, h, _ => by cases h
  | _ :: _, [], h, _ => by cases h
  | (g, x) :: fs, n :: ns, h, hm => by
    simp only [List.map_cons, List.cons.injEq] at h
    rw [List.contains_cons, Bool.or_eq_false_iff] at hm
    have ne : (nm m == g) = false := by
      rw [beq_eq_false_iff_ne, h.1]
      intro e
      have := nm_inj e
      rw [this] at hm
      simp at hm
    rw [List.lookup, ne]
    exact look_none h.2 hm.2
theorem meth_read {σ : L2.St} {H : Hp} {Q : VK} {m : String} {g : Bool} {ma : Env → Store → R D} {mas : Env → Store → R (List D)} (G : Good Y c b Bs W M X) (hx : Y.exs = none)
    (h : tI Y Bs W (fun ρ S => (ma ρ S).bind fun d S1 => match methOf c S1 m d with
      | some f => (mas ρ S1).bind fun ds S2 => c.call f g (d :: ds) b S2
      | none => .bad) σ H Q) :
    tI Y Bs W ma σ H fun v H1 => ∃ (C f : String) (a dx : Addr) (fs : List (Str × V)), v = .ref a ∧ H1 a = some (.ins (Y.ca C) dx fs) ∧ fs.lookup (nm m) = none ∧ c.meth C m = some f ∧ tA Y Bs W mas σ H1 fun vs H2 => spI Y.ca (c.call f) (v :: vs) H2 Q (WE W σ) := by
  obtain ⟨μ, ρ, S, w, en, k⟩ := h
  refine tX.bind w en k fun d S1 μ1 H1 v w1 en1 x1 r1 k1 => ?_
  cases hm : methOf c S1 m d with
  | none => rw [hm] at k1; exact k1.elim
  | some f =>
    rw [hm] at k1
    simp only at k1
    unfold methOf at hm
    cases hc : clsD S1 d with
    | none => rw [hc] at hm; cases hm
    | some o =>
      rw [hc] at hm
      simp only at hm
      split at hm
      · cases hm
      · rename_i hno
        obtain ⟨a, dx, fs, rfl, hH, hn, rl⟩ := cls_rep w1 r1 hc
        refine ⟨o.1, f, a, dx, fs, rfl, hH, look_none hn (by simpa using hno), hm, ?_⟩
        exact tX.bind w1 en1 k1 fun ds S2 μ2 H2 vs w2 en2 x2 r2 k2 => ⟨Y, rfl, hx, g, b, Bs, μ2, S2, d :: ds, G.hb, w2, .cons (r1.ext x2) r2, k2.noσ⟩
theorem s_meth {m : String} {g : Bool} {o y : Expr} {ys : List Expr} {ap p : Pos} {ma : Env → Store → R D} {mas : Env → Store → R (List D)} (G : Good Y c b Bs W M X) (hcm : M.calm = true) (hx : Y.exs = none) (hl : (ap.endLine == p.line) = true) (hf : (y :: ys).length < 20) (h0 : notCall0 o = true) (hs : allNS (y :: ys) = true)
    (ho : PE X o (tI Y Bs W ma)) (ha : PA X (y :: ys) (tA Y Bs W mas)) : PE X (.Call (.Attribute o (nm m) ap) (y :: ys) [] p) (tI Y Bs W fun ρ S => (ma ρ S).bind fun d S1 => match methOf c S1 m d with
      | some f => (mas ρ S1).bind fun ds S2 => c.call f g (d :: ds) b S2
      | none => .bad) := by
  have hs' := hs
  unfold allNS at hs'
  rw [List.all_cons, Bool.and_eq_true] at hs'
  have hform : methodCallForm ((y :: ys).length + 0) (backTo p (starEach (y :: ys) X.env)) (backToKw p (keywordEach [] X.env)) = true := by
    unfold methodCallForm
    rw [(starEach_ns hs).2]
    simp only [Bool.true_and, Bool.and_eq_true, decide_eq_true_eq]
    exact ⟨rfl, by show (y :: ys).length + 0 + 0 < 30; omega⟩
  refine ⟨fun pins s σ H Q I h => ?_⟩
  refine PySem.W.methodCall_KW (thn (ho.run pins s σ H _ I (meth_read G hx h)) fun u s1 ⟨v, H1, I1, rv, C, f, a, dx, fs, ev, ea, l, hm, q⟩ => ?_) (eval_on_line (base_of h0) hform hl)
  subst ev
  obtain rfl : u = Value.ref a := rv
  obtain ⟨k, fa, fd, ps, F, hr, cl, me, hb⟩ := (G.meth hcm C m f hm).get
  refine getmeth_ok I1 ea cl me l ?_
  refine PySem.W.callWith_K (first := [.ref a]) (h₀ := X.base) I.ok.mod.kin me.kp (thn (ha.run p pins s1 σ H1 _ I1 q) fun us s2 ⟨vs, H2, I2, r, q2⟩ => ⟨I2.kIn, ?_⟩) (starEach_of hs'.1) (starEach_ns hs'.2).1
  exact run_fnSD (E := WE W) (dvs := []) (ds := []) (us := .ref a :: us) (vs := .ref a :: vs) F hr hb .nil (passAt G.tk σ) I2 (.cons rfl r) (by rw [List.append_nil]; exact q2)
theorem s_meth0 {m : String} {g : Bool} {o : Expr} {ap p : Pos} {ma : Env → Store → R D} (G : Good Y c b Bs W M X) (hcm : M.calm = true) (hx : Y.exs = none) (hl : (ap.endLine == p.line) = true) (h0 : notCall0 o = true)
    (ho : PE X o (tI Y Bs W ma)) : PE X (.Call (.Attribute o (nm m) ap) [] [] p) (tI Y Bs W fun ρ S => (ma ρ S).bind fun d S1 => match methOf c S1 m d with
      | some f => (R.ok [] S1).bind fun ds S2 => c.call f g (d :: ds) b S2
      | none => .bad) := by
  refine ⟨fun pins s σ H Q I h => ?_⟩
  refine PySem.W.methodCall_KW (thn (ho.run pins s σ H _ I (meth_read (mas := fun _ S => .ok [] S) G hx h)) fun u s1 ⟨v, H1, I1, rv, C, f, a, dx, fs, ev, ea, l, hm, q⟩ => ?_) (eval_on_line (base_of h0) rfl hl)
  subst ev
  obtain rfl : u = Value.ref a := rv
  obtain ⟨k, fa, fd, ps, F, hr, cl, me, hb⟩ := (G.meth hcm C m f hm).get
  refine getmeth_ok I1 ea cl me l ?_
  obtain ⟨μ2, ρ2, S2, w2, en2, k2⟩ := q
  have k3 := k2 μ2 H1 [] (.refl _ _) w2 .nil
  exact PySem.W.callWith_K0 (first := [.ref a]) I1.kIn me.kp (run_fnSD (E := WE W) (dvs := []) (ds := []) (us := [.ref a]) (vs := [.ref a]) F hr hb .nil (passAt G.tk σ) I1 (.cons rfl .nil) (by rw [List.append_nil]; exact k3))
theorem run_makeSD {k : Nat} {f C : Addr} {fd : FuncData} {ps : List Str} {sp : Sp} {E : XK} {pins : List (Addr × Obj)} {σ : L2.St} {H : Hp} {s : Shared} {Q : VK} {us : List Value} {vs : List V} (Mm : Mk X.K C f) (F : FnOk X.prog X.w X.K X.mg X.base (L2.CX X.prog X.w) k f fd ps sp) (hr : Room (k + 1) X.A) (hb : Binds X.K fd ps [])
    (hx : PassesAt (L2.CX X.prog X.w) X σ E) (I : Inv X pins σ H s) (r : Vals vs us)
    (h : ∀ x dx, H x = none → H dx = none → dx ≠ x → sp (.ref x :: vs) (upd (upd H dx (.own x)) x (.ins C dx [])) (fun v H2 => v = .non ∧ Q (.ref x) H2) E) :
    wpAny (model X.prog X.w) X.A (call (.ref C) us) (EP X pins σ Q) X.xe s := by
  have hq := h (s.heap.objs.size + 1) s.heap.objs.size (I.hok.fresh (Nat.le_succ _)) (I.hok.fresh (Nat.le_refl _)) (Nat.ne_of_lt (Nat.lt_succ_self _))
  have I2 := Inv.made (C := C) I
  have r2 : Vals (V.ref (s.heap.objs.size + 1) :: vs) (Value.ref (s.heap.objs.size + 1) :: us) := .cons rfl r
  have hl : (Value.ref (s.heap.objs.size + 1) :: us ++ []).length = ps.length := by
    rw [List.append_nil]
    have e := r2.length
    rw [F.len _ _ _ _ hq] at e
    exact e.symm
  refine wpAny_call (make_map (f := f) I.kIn Mm.makes Mm.init (beq_iff_eq.mp Mm.fn) (codeAny_mono (F.run _ X.stack _ _ ⟨Value.ref (s.heap.objs.size + 1) :: us, []⟩ (Value.ref (s.heap.objs.size + 1) :: us) _ _ E (hr.make C us [])
    (I2.env0.make C us []) (by have := hb _ (Value.ref (s.heap.objs.size + 1) :: us) I2.kIn hl; rw [List.append_nil] at this; exact this) r2 hq) fun r s' hq' => ?_))
  cases r with
  | error e => exact hx pins _ _ e s' I2 hq'
  | ok fl =>
    cases fl with
    | ret u =>
      obtain ⟨v, H', I3, rv, ev, q3⟩ := I2.after hq'
      subst ev
      exact ⟨rv, ⟨V.ref (s.heap.objs.size + 1), H', I3, rfl, q3⟩⟩
    | next => exact False.elim hq'
    | brk => exact False.elim hq'
    | cont => exact False.elim hq'
theorem make_world {C : String} {μ : List Addr} {H : Hp} {S : Store} {x dx : Addr} (w : World Y Bs μ H S) (hx : H x = none) (hd : H dx = none) (ne : dx ≠ x) (hb : ∀ q ∈ Bs, q ≤ S.length) :
    World Y Bs (μ ++ [x]) (upd (upd H dx (.own x)) x (.ins (Y.ca C) dx [])) (S ++ [.ins C [] []]) ∧ Ext μ H (μ ++ [x]) (upd (upd H dx (.own x)) x (.ins (Y.ca C) dx [])) := by
  have w1 : World Y Bs μ (upd H dx (.own x)) S := w.laid hd
  have hx1 : upd H dx (.own x) x = none := by rw [upd_ne (Ne.symm ne)]; exact hx
  exact ⟨w1.grow hx1 (.ins upd_same rfl .nil) hb, (Ext.laid hd).trans (.cell hx1)⟩
theorem make_sp {C : String} {kind : Nat} {mm : Bool → List D → Nat → Store → R D} {ds : List D} {vs : List V} {μ : List Addr} {σ : L2.St} {H : Hp} {S : Store} {Q : VK} {x dx : Addr} (hxs : Y.exs = none) (hbb : ∀ q ∈ Bs, q ≤ b) (w : World Y Bs μ H S) (r : RepL Y μ H vs ds) (k : KR Y Bs (Rep Y) μ H σ Q W (makeK C kind mm ds b S)) (hx : H x = none) (hd : H dx = none) (ne : dx ≠ x) :
    spI Y.ca mm (.ref x :: vs) (upd (upd H dx (.own x)) x (.ins (Y.ca C) dx [])) (fun v H2 => v = .non ∧ Q (.ref x) H2) (WE W σ) := by
  have len := w.len
  have getx : (μ ++ [x])[S.length]? = some x := by
    rw [List.getElem?_append_right (by omega), len]
    simp
  unfold makeK at k
  by_cases hk : kind = 1
  · obtain ⟨w2, e2⟩ := make_world (C := C) w hx hd ne w.bs
    refine ⟨Y, rfl, hxs, false, b, Bs, μ ++ [x], S ++ [.ins C [] []], .ref S.length :: ds, hbb, w2, .cons (.ref getx) (r.ext e2), ?_⟩
    simp only [if_pos hk] at k
    revert k
    cases mm false (.ref S.length :: ds) b (S ++ [.ins C [] []]) with
    | ok d S' =>
      cases d with
      | non =>
        intro k μ' H' v x' w' rv
        cases rv
        exact ⟨rfl, k μ' H' (.ref x) (e2.trans x') w' (.ref (x'.get getx))⟩
      | _ => exact fun k => k.elim
    | err Z ns fs S' =>
      intro k μ' H' cls dd x' w' ex
      exact k μ' H' cls dd (e2.trans x') w' ex
    | bad => exact fun k => k.elim
  · obtain ⟨w2, e2⟩ := make_world (C := C) w.mark hx hd ne (fun q hq => by
      rcases List.mem_cons.mp hq with e | e
      · omega
      · exact w.bs q e)
    refine ⟨Y, rfl, hxs, false, S.length, S.length :: Bs, μ ++ [x], S ++ [.ins C [] []], .ref S.length :: ds, fun q hq => by
      rcases List.mem_cons.mp hq with e | e
      · omega
      · exact w.bs q e, w2, .cons (.ref getx) (r.ext e2), ?_⟩
    simp only [if_neg hk] at k
    revert k
    cases mm false (.ref S.length :: ds) S.length (S ++ [.ins C [] []]) with
    | ok d S' =>
      cases d with
      | non =>
        intro k μ' H' v x' w' rv
        cases rv
        refine ⟨rfl, ?_⟩
        simp only at k
        split at k
        · rename_i C' ns fs hc
          split at k
          · rename_i hh
            obtain ⟨rfl, hl, hlim⟩ := hh
            have g := x'.get getx
            have co := w'.cells S.length x _ g hc
            cases co with
            | ins hH hn rl =>
              have e3 : Ext μ H (μ'.take S.length) H' := by
                have := (e2.trans x').cut
                rw [len] at this
                exact this
              exact k (μ'.take S.length) H' (.ref x) e3 (w'.cut w.bs) (.ins hH (out_cut w' g (Nat.lt_irrefl _)) hn (rl.cut hlim))
          · exact k.elim
        · exact k.elim
      | _ => exact fun k => k.elim
    | err Z ns fs S' => exact fun k => k.elim
    | bad => exact fun k => k.elim
theorem s_make {C : String} {n : Str} {q p : Pos} {y : Expr} {ys : List Expr} {mas : Env → Store → R (List D)} (G : Good Y c b Bs W M X) (hcm : M.calm = true) (hx : Y.exs = none) (hC : M.oc C = true) (hn : gnB M.sc C n = true) (hs : allNS (y :: ys) = true) (ha : PA X (y :: ys) (tA Y Bs W mas)) :
    PE X (.Call (.Name n q) (y :: ys) [] p) (tI Y Bs W fun ρ S => (mas ρ S).bind fun ds S1 => c.make C ds b S1) := by
  obtain ⟨rfl, h4, h5⟩ := gnB_of hn
  have hs' := hs
  unfold allNS at hs'
  rw [List.all_cons, Bool.and_eq_true] at hs'
  obtain ⟨hm, kp, hg⟩ := G.make hcm C hC
  refine ⟨fun pins s σ H Q I ⟨μ, ρ, S, w, en, k1⟩ => ?_⟩
  refine wpAny_Call_Name_kw (ld_glob I (G.gl h4) hm ?_ (okN_db h5))
  rcases hg with hbad | ⟨k, a, fd, ps, kind, mm, F, hr, Mm, hb, hmk⟩
  · exact PySem.W.callWith_K (h₀ := X.base) I.ok.mod.kin kp (thn (ha.run p pins _ σ H (fun _ _ => False) I (tX.bind w en k1 fun ds S1 μ1 H1 vs w1 en1 x1 r1 k2 => by rw [hbad] at k2; exact k2.elim)) fun us s1 ⟨vs, H1, I1, r, q1⟩ => q1.elim) (starEach_of hs'.1) (starEach_ns hs'.2).1
  · refine PySem.W.callWith_K (h₀ := X.base) I.ok.mod.kin kp (thn (ha.run p pins _ σ H (fun vs H1 => ∀ x dx, H1 x = none → H1 dx = none → dx ≠ x → spI Y.ca mm (.ref x :: vs) (upd (upd H1 dx (.own x)) x (.ins (Y.ca C) dx [])) (fun v H2 => v = .non ∧ Q (.ref x) H2) (WE W σ)) I
      (tX.bind w en k1 fun ds S1 μ1 H1 vs w1 en1 x1 r1 k2 x dx e1 e2 e3 => by rw [hmk] at k2; exact make_sp hx G.hb w1 r1 k2 e1 e2 e3)) fun us s1 ⟨vs, H1, I1, r, q1⟩ => ⟨I1.kIn, ?_⟩) (starEach_of hs'.1) (starEach_ns hs'.2).1
    exact run_makeSD (E := WE W σ) Mm F hr hb (passAt G.tk σ) I1 r q1
theorem s_make0 {C : String} {n : Str} {q p : Pos} (G : Good Y c b Bs W M X) (hcm : M.calm = true) (hx : Y.exs = none) (hC : M.oc C = true) (hn : gnB M.sc C n = true) :
    PE X (.Call (.Name n q) [] [] p) (tI Y Bs W fun _ S => c.make C [] b S) := by
  obtain ⟨rfl, h4, h5⟩ := gnB_of hn
  obtain ⟨hm, kp, hg⟩ := G.make hcm C hC
  refine ⟨fun pins s σ H Q I ⟨μ, ρ, S, w, en, k1⟩ => ?_⟩
  rcases hg with hbad | ⟨k, a, fd, ps, kind, mm, F, hr, Mm, hb, hmk⟩
  · dsimp only at k1
    rw [hbad] at k1
    exact k1.elim
  · refine wpAny_Call_Name_kw (ld_glob I (G.gl h4) hm ?_ (okN_db h5))
    dsimp only at k1
    rw [hmk] at k1
    exact PySem.W.callWith_K0 I.kIn kp (run_makeSD (E := WE W σ) (us := []) (vs := []) Mm F hr hb (passAt G.tk σ) I .nil fun x dx e1 e2 e3 => make_sp hx G.hb w .nil k1 e1 e2 e3)
def tWtup (t : TA) : TE := fun σ H Q => t σ H fun xs H1 => xs.length ≤ sizeLine ∧ ∀ p, H1 p = none → ∀ o : Obj, o.dict = none → Q (.ref p) (upd H1 p (.frz o (.tup xs)))
theorem pe_wtup {es : List Expr} {t : TA} {x1 : Nat} {pos : Pos} (h : PA X es t) : PE X (.Tuple es x1 pos) (tWtup t) := by
  refine ⟨fun pins s σ H Q I hq => ?_⟩
  refine wpAny_Tuple_spliced (thn (h.run pos pins s σ H _ I hq) fun us s1 ⟨xs, H1, I1, r, z, q⟩ => ⟨by rw [← r.length]; exact z, ?_⟩)
  have hf : H1 s1.heap.objs.size = none := I1.hok.fresh (Nat.le_refl _)
  exact ⟨.ref s1.heap.objs.size, upd H1 s1.heap.objs.size (.frz { cls := .type "tuple", data := .seq us.toArray } (.tup xs)), I1.laid (t' := s1.toks) (fun b u e => Heap.get?_push_of_some _ e) (Nat.le_refl _) (show ObjOk X.prog X.w _ _ _ (.frz _ (.tup _)) from ⟨Heap.get?_push_size _ rfl, z, us, r, IsTup.new _ _⟩), rfl, q _ hf _ rfl⟩
theorem s_wtup {xs : List Expr} {n : Nat} {p : Pos} {ma : Env → Store → R (List D)} (ha : PA X xs (tA Y Bs W ma)) (hl : ∀ ρ S ds S', ma ρ S = .ok ds S' → ds.length ≤ 1000) :
    PE X (.Tuple xs n p) (tI Y Bs W fun ρ S => (ma ρ S).bind fun ds S1 => .ok (.way ds) S1) := by
  refine (pe_wtup ha).imp ?_
  rintro σ H Q ⟨μ, ρ, S, w, en, k⟩
  refine tX.bind' w en k fun ds S1 μ1 H1 vs e w1 en1 x1 r1 k1 => ⟨by rw [r1.length]; exact small_line (hl _ _ _ _ e), fun q hq o ho => ?_⟩
  exact k1 μ1 _ _ (.laid hq) (w1.laid hq) (.way upd_same ho (w1.fresh hq) (r1.ext (.laid hq)))
theorem lst_at {μ : List Addr} {H : Hp} {S : Store} {v : V} {d : D} {ds : List D} (w : World Y Bs μ H S) (r : Rep Y μ H v d) (h : vw S d = .lst ds) : ∃ a xs, v = .ref a ∧ H a = some (.lst xs) ∧ RepL Y μ H xs ds := by
  have vd := view_of w r
  rw [h] at vd
  cases vd with
  | lst h rr => exact ⟨_, _, rfl, h, rr⟩
theorem s_rev {x : Expr} {k : Nat} {p1 p2 p3 pos : Pos} {ma : Env → Store → R D} (ha : PE X x (tI Y Bs W ma)) : PE X (.Subscript x (.Slice none none (some (.UnaryOp .USub (.Constant (.int 1) k p1) p2)) p3) pos) (tI Y Bs W fun ρ S => (ma ρ S).bind fun d S1 => R.of S1 (revD (vw S1 d))) := by
  refine (pe_revL ha).imp ?_
  rintro σ H Q ⟨μ, ρ, S, w, en, k⟩
  refine tX.bind w en k fun d S1 μ1 H1 v w1 en1 x1 r1 k1 => ?_
  obtain ⟨e, he, k2⟩ := k1.of
  cases hv : vw S1 d with
  | lst ds =>
    rw [hv] at he
    simp only [revD, Option.some.injEq] at he
    subst he
    obtain ⟨a, xs, rfl, hH, rl⟩ := lst_at w1 r1 hv
    exact ⟨a, xs, rfl, .of hH, fun p hp => k2 μ1 _ _ (.laid hp) (w1.laid hp) (.lst upd_same (w1.fresh hp) (rl.reverse.ext (.laid hp)))⟩
  | _ => rw [hv] at he; cases he
theorem pick1 (items : Array Value) : slicePick items none (some 0) (some (-1)) = (items.toList.drop 1).reverse.toArray := by
  unfold slicePick
  obtain ⟨l⟩ := items
  cases l with
  | nil => rfl
  | cons v l =>
    have hb : sliceBounds none (some 0) (some (-1)) (Array.mk (v :: l)).size = (((l.length : Nat) : Int), 0, -1) := by
      simp [sliceBounds]
      omega
    rw [hb]
    have hr : sliceRange ((l.length : Nat) : Int) 0 (-1) = ((List.range l.length).map (1 + ·)).reverse := by
      unfold sliceRange
      have h1 : ¬ ((-1 : Int) > 0) := by decide
      by_cases h : ((l.length : Nat) : Int) > 0
      · have e : (((l.length : Nat) : Int) - 0 - -1 - 1) / (- -1) = (l.length : Int) := by
          rw [show (- -1 : Int) = 1 by decide, Int.ediv_one]
          omega
        simp only [h1, if_false, h, if_true, e, Int.toNat_natCast]
        apply List.ext_getElem
        · simp
        · intro i h1 h2
          simp at h1 h2
          rw [List.getElem_map, List.getElem_reverse, List.getElem_map]
          simp only [List.getElem_range, List.length_map, List.length_range]
          omega
      · have e : l.length = 0 := by omega
        rw [e]
        simp
    rw [hr]
    have h := pick_run (Array.mk (v :: l)) 1 l.length
    show (List.filterMap _ _).toArray = _
    rw [List.filterMap_reverse, h]
    simp
def tRev1 (K : PySem.W.Frag) (te : TE) : TE := fun σ H Q => te σ H fun x H1 => ∃ a xs, x = .ref a ∧ SqL K H1 a xs ∧ ∀ p, H1 p = none → Q (.ref p) (upd H1 p (.lst (xs.drop 1).reverse))
theorem vals_drop : ∀ (n : Nat) {vs : List V} {us : List Value}, Vals vs us → Vals (vs.drop n) (us.drop n)
  | 0, _, _, h => h
  | _ + 1, _, _, .nil => .nil
  | n + 1, _, _, .cons _ t => vals_drop n t
theorem pe_rev1 {e : Expr} {te : TE} {k k0 : Nat} {p0 p1 p2 p3 pos : Pos} (he : PE X e te) : PE X (.Subscript e (.Slice none (some (.Constant (.int 0) k0 p0)) (some (.UnaryOp .USub (.Constant (.int 1) k p1) p2)) p3) pos) (tRev1 X.K te) := by
  refine ⟨fun pins s σ H Q I h => ?_⟩
  refine Subscript_ (thn (he.run pins s σ H _ I h) fun v s1 ⟨x, H1, I1, r1, q1⟩ => ?_)
  obtain ⟨a, xs, ex, hx, q⟩ := q1
  subst ex
  cases r1
  have hst : PO X (some (.UnaryOp .USub (.Constant (.int 1) k p1) p2)) (tPart (tUn (rU fun i => .int (-i)) (tC (.int 1)))) := po_some (pe_un un_neg pe_int)
  have hup : PO X (some (.Constant (.int 0) k0 p0)) (tPart (tC (.int 0))) := po_some pe_int
  refine wpAny_Slice (thn (po_none.run pins s1 σ H1 (fun o H2 => o = none ∧ H2 = H1) I1 ⟨rfl, rfl⟩) fun vl s2 ⟨l, H2, I2, pl, el, e2⟩ => ?_)
  subst el e2
  refine thn (hup.run pins s2 σ H2 (fun o H3 => o = some 0 ∧ H3 = H2) I2 ⟨0, rfl, rfl, rfl⟩) fun vu s3 ⟨u, H3, I3, pu, eu, e3⟩ => ?_
  subst eu e3
  refine thn (hst.run pins s3 σ H3 (fun o H4 => o = some (-1) ∧ H4 = H3) I3 ⟨1, rfl, -1, rfl, rfl, rfl⟩) fun vs s4 ⟨o, H4, I4, ps, eo, e4⟩ => ?_
  subst eo e4
  have I5 : Inv X pins σ H4 { s4 with heap := s4.heap.push { cls := .type "slice", data := .fields #[vl, vu, vs] } } := I4.kept (t' := s4.toks) fun b ob q => Heap.get?_push_of_some _ q
  obtain ⟨its, r, ht, hz⟩ := I5.list hx
  have hlen := r.length
  show wpAny (model X.prog X.w) X.A (subscriptTail e (.Slice none (some (.Constant (.int 0) k0 p0)) (some (.UnaryOp .USub (.Constant (.int 1) k p1) p2)) p3) (.ref a) (.ref s4.heap.objs.size)) (EP X pins σ Q) X.xe { s4 with heap := s4.heap.push { cls := .type "slice", data := .fields #[vl, vu, vs] } }
  refine tail_any (ops := [.ref a, .ref s4.heap.objs.size]) ht.isList.typeIs (PySem.slot_list_getitem.lookup) ?_ (by with_unfolding_all rfl)
  refine wpAny_getItem_list_slice ht.isList (Heap.IsSliceOf.new _ vl vu vs) pl pu ps (by decide) ?_ (by rw [List.size_toArray]; omega)
  rw [pick1]
  refine ⟨.ref _, _, I5.laid (t' := s4.toks) (o := .lst (xs.drop 1).reverse) (fun b ob q => Heap.get?_push_of_some _ q) (Nat.le_refl _) ?_, rfl, q _ (I5.hok.fresh (Nat.le_refl _))⟩
  exact ⟨by rw [List.length_reverse, List.length_drop]; omega, _, 0, (vals_drop 1 r).reverse, Heap.get?_push_size _ rfl⟩
def tStep (K : PySem.W.Frag) (te ts : TE) : TE := fun σ H Q => te σ H fun x H1 => tPart ts σ H1 fun o H2 => ∃ a xs, x = .ref a ∧ SqL K H2 a xs ∧ ((o = some 1 ∧ ∀ p, H2 p = none → Q (.ref p) (upd H2 p (.lst xs))) ∨ (o = some (-1) ∧ ∀ p, H2 p = none → Q (.ref p) (upd H2 p (.lst xs.reverse))))
theorem pick_one (items : Array Value) : slicePick items none none (some 1) = items := by
  have h := slicePick_all items
  exact h
theorem pe_step {e z : Expr} {te ts : TE} {p3 pos : Pos} (he : PE X e te) (hz : PE X z ts) : PE X (.Subscript e (.Slice none none (some z) p3) pos) (tStep X.K te ts) := by
  refine ⟨fun pins s σ H Q I h => ?_⟩
  refine Subscript_ (thn (he.run pins s σ H _ I h) fun v s1 ⟨x, H1, I1, r1, q1⟩ => ?_)
  have hst : PO X (some z) (tPart ts) := po_some hz
  refine wpAny_Slice (thn (po_none.run pins s1 σ H1 (fun o H2 => o = none ∧ H2 = H1) I1 ⟨rfl, rfl⟩) fun vl s2 ⟨l, H2, I2, pl, el, e2⟩ => ?_)
  subst el e2
  refine thn (po_none.run pins s2 σ H2 (fun o H3 => o = none ∧ H3 = H2) I2 ⟨rfl, rfl⟩) fun vu s3 ⟨u, H3, I3, pu, eu, e3⟩ => ?_
  subst eu e3
  refine thn (hst.run pins s3 σ H3 _ I3 q1) fun vs s4 ⟨o, H4, I4, ps, a, xs, ex, hx, q⟩ => ?_
  subst ex
  cases r1
  have I5 : Inv X pins σ H4 { s4 with heap := s4.heap.push { cls := .type "slice", data := .fields #[vl, vu, vs] } } := I4.kept (t' := s4.toks) fun b ob q => Heap.get?_push_of_some _ q
  obtain ⟨its, r, ht, hz⟩ := I5.list hx
  have hlen := r.length
  show wpAny (model X.prog X.w) X.A (subscriptTail e (.Slice none none (some z) p3) (.ref a) (.ref s4.heap.objs.size)) (EP X pins σ Q) X.xe { s4 with heap := s4.heap.push { cls := .type "slice", data := .fields #[vl, vu, vs] } }
  refine tail_any (ops := [.ref a, .ref s4.heap.objs.size]) ht.isList.typeIs (PySem.slot_list_getitem.lookup) ?_ (by with_unfolding_all rfl)
  rcases q with ⟨rfl, q⟩ | ⟨rfl, q⟩
  · refine wpAny_getItem_list_slice ht.isList (Heap.IsSliceOf.new _ vl vu vs) pl pu ps (by decide) ?_ (by rw [List.size_toArray]; omega)
    rw [pick_one]
    refine ⟨.ref _, _, I5.laid (t' := s4.toks) (o := .lst xs) (fun b ob q => Heap.get?_push_of_some _ q) (Nat.le_refl _) ?_, rfl, q _ (I5.hok.fresh (Nat.le_refl _))⟩
    exact ⟨hz, _, 0, r, Heap.get?_push_size _ rfl⟩
  · refine wpAny_getItem_list_slice ht.isList (Heap.IsSliceOf.new _ vl vu vs) pl pu ps (by decide) ?_ (by rw [List.size_toArray]; omega)
    rw [PySem.W.krv_pick]
    refine ⟨.ref _, _, I5.laid (t' := s4.toks) (o := .lst xs.reverse) (fun b ob q => Heap.get?_push_of_some _ q) (Nat.le_refl _) ?_, rfl, q _ (I5.hok.fresh (Nat.le_refl _))⟩
    exact ⟨by rw [List.length_reverse]; exact hz, _, 0, r.reverse, Heap.get?_push_size _ rfl⟩
theorem s_step {x y : Expr} {p2 p : Pos} {ma mb : Env → Store → R D} (ha : PE X x (tI Y Bs W ma)) (hb : PE X y (tI Y Bs W mb)) : PE X (.Subscript x (.Slice none none (some y) p2) p) (tI Y Bs W fun ρ S => (ma ρ S).bind fun d S1 => (mb ρ S1).bind fun e S2 => R.of S2 (stepD (vw S2 d) e)) := by
  refine (pe_step ha hb).imp ?_
  rintro σ H Q ⟨μ, ρ, S, w, en, k⟩
  refine tX.bind w en k fun d S1 μ1 H1 u w1 en1 x1 r1 k1 => tX.bind w1 en1 k1 fun e S2 μ2 H2 v w2 en2 x2 r2 k2 => ?_
  obtain ⟨r, hr, k3⟩ := k2.of
  cases hv : vw S2 d with
  | lst ds =>
    rw [hv] at hr
    obtain ⟨a, xs, rfl, hH, rl⟩ := lst_at w2 (r1.ext x2) hv
    cases r2 with
    | int i =>
      refine ⟨i, rfl, a, xs, rfl, .of hH, ?_⟩
      have hr' : (if i = 1 then some (D.lst ds) else if i = -1 then some (D.lst ds.reverse) else none) = some r := hr
      by_cases h1 : i = 1
      · rw [if_pos h1, Option.some.injEq] at hr'
        subst hr'
        exact .inl ⟨by rw [h1], fun p hp => k3 μ2 _ _ (.laid hp) (w2.laid hp) (.lst upd_same (w2.fresh hp) (rl.ext (.laid hp)))⟩
      · rw [if_neg h1] at hr'
        by_cases h2 : i = -1
        · rw [if_pos h2, Option.some.injEq] at hr'
          subst hr'
          exact .inr ⟨by rw [h2], fun p hp => k3 μ2 _ _ (.laid hp) (w2.laid hp) (.lst upd_same (w2.fresh hp) (rl.reverse.ext (.laid hp)))⟩
        · rw [if_neg h2] at hr'; cases hr'
    | _ => cases hr
  | _ => rw [hv] at hr; cases hr
theorem s_rev1 {x : Expr} {k k0 : Nat} {p0 p1 p2 p3 pos : Pos} {ma : Env → Store → R D} (ha : PE X x (tI Y Bs W ma)) : PE X (.Subscript x (.Slice none (some (.Constant (.int 0) k0 p0)) (some (.UnaryOp .USub (.Constant (.int 1) k p1) p2)) p3) pos) (tI Y Bs W fun ρ S => (ma ρ S).bind fun d S1 => R.of S1 (rev1D (vw S1 d))) := by
  refine (pe_rev1 ha).imp ?_
  rintro σ H Q ⟨μ, ρ, S, w, en, k⟩
  refine tX.bind w en k fun d S1 μ1 H1 v w1 en1 x1 r1 k1 => ?_
  obtain ⟨e, he, k2⟩ := k1.of
  cases hv : vw S1 d with
  | lst ds =>
    rw [hv] at he
    simp only [rev1D, Option.some.injEq] at he
    subst he
    obtain ⟨a, xs, rfl, hH, rl⟩ := lst_at w1 r1 hv
    exact ⟨a, xs, rfl, .of hH, fun p hp => k2 μ1 _ _ (.laid hp) (w1.laid hp) (.lst upd_same (w1.fresh hp) (((rl.drop 1).reverse).ext (.laid hp)))⟩
  | _ => rw [hv] at he; cases he
theorem rg_vals {a b' : Int} {μ : List Addr} {H : Hp} : RepL Y μ H (rgV a b') ((List.range (b' - a).toNat).map fun (k : Nat) => D.int (a + k)) := by
  unfold rgV
  generalize List.range (b' - a).toNat = l
  induction l with
  | nil => exact .nil
  | cons i l ih => exact .cons (.int _) ih
theorem rg_made {a e : Int} {d : D} {μ1 : List Addr} {H1 : Hp} {S1 : Store} {σ : L2.St} {Q : VK} (w : World Y Bs μ1 H1 S1) (hd : d = .lst ((List.range (e - a).toNat).map fun (k : Nat) => D.int (a + k))) (k : KR Y Bs (Rep Y) μ1 H1 σ Q W (.ok d S1)) : ∀ q, H1 q = none → Q (.ref q) (upd H1 q (.lst (rgV a e))) := by
  intro q hq
  subst hd
  exact k μ1 _ _ (.laid hq) (w.laid hq) (.lst upd_same (w.fresh hq) rg_vals)
theorem s_lrange1 {n n2 : Str} {q q2 p p2 : Pos} {x : Expr} {ma : Env → Store → R D} (G : Good Y c b Bs W M X) (hcm : M.calm = true) (h2 : gnB M.sc "list" n = true) (h3 : gnB M.sc "range" n2 = true) (hs : notStar x = true) (ha : PE X x (tI Y Bs W ma)) :
    PE X (.Call (.Name n q) [.Call (.Name n2 q2) [x] [] p2] [] p) (tI Y Bs W fun ρ S => (ma ρ S).bind fun d S1 => R.of S1 (lrangeD [d])) := by
  obtain ⟨rfl, a4, a5⟩ := gnB_of h2
  obtain ⟨rfl, b4, b5⟩ := gnB_of h3
  refine (pe_listRg (G.calm hcm) (G.gl a4) (G.bi "list" (by decide +kernel)) (prg_1 (G.gl b4) (G.bi "range" (by decide +kernel)) ha (starEach_of hs))).imp ?_
  rintro σ H Q ⟨μ, ρ, S, w, en, k⟩
  refine tX.bind w en k fun d S1 μ1 H1 v w1 en1 x1 r1 k1 => ?_
  obtain ⟨e, he, k2⟩ := k1.of
  cases r1 with
  | int i =>
    simp only [lrangeD] at he
    split at he
    · simp only [Option.some.injEq] at he
      refine ⟨i, rfl, ⟨by omega, by omega, by omega, by omega, by omega⟩, rg_made w1 ?_ k2⟩
      rw [← he]
      simp
    · cases he
  | _ => simp [lrangeD] at he
theorem s_lrange2 {n n2 : Str} {q q2 p p2 : Pos} {x y : Expr} {ma mb : Env → Store → R D} (G : Good Y c b Bs W M X) (hcm : M.calm = true) (h2 : gnB M.sc "list" n = true) (h3 : gnB M.sc "range" n2 = true) (hs : notStar x = true) (hs2 : notStar y = true) (ha : PE X x (tI Y Bs W ma)) (hb : PE X y (tI Y Bs W mb)) :
    PE X (.Call (.Name n q) [.Call (.Name n2 q2) [x, y] [] p2] [] p) (tI Y Bs W fun ρ S => (ma ρ S).bind fun d S1 => (mb ρ S1).bind fun e S2 => R.of S2 (lrangeD [d, e])) := by
  obtain ⟨rfl, a4, a5⟩ := gnB_of h2
  obtain ⟨rfl, b4, b5⟩ := gnB_of h3
  refine (pe_listRg (G.calm hcm) (G.gl a4) (G.bi "list" (by decide +kernel)) (prg_2 (G.gl b4) (G.bi "range" (by decide +kernel)) ha hb (by rw [starEach_of hs, starEach_of hs2]) (starEach_of hs2) (by rw [starEach_of hs2]; rfl))).imp ?_
  rintro σ H Q ⟨μ, ρ, S, w, en, k⟩
  refine tX.bind w en k fun d S1 μ1 H1 v w1 en1 x1 r1 k1 => tX.bind w1 en1 k1 fun e S2 μ2 H2 v2 w2 en2 x2 r2 k2 => ?_
  obtain ⟨z, he, k3⟩ := k2.of
  cases r1 with
  | int i =>
    cases r2 with
    | int j =>
      simp only [lrangeD] at he
      split at he
      · simp only [Option.some.injEq] at he
        exact ⟨i, j, rfl, rfl, ⟨by omega, by omega, by omega, by omega, by omega⟩, rg_made w2 he.symm k3⟩
      · cases he
    | _ => simp [lrangeD] at he
  | _ => cases r2 <;> simp [lrangeD] at he
end
end CL
namespace CL
open PySem PySem.Spec PyProof.Rows L2
mutual
theorem D.same_eq : ∀ a b : D, D.same a b = true → a = b
  | .non, b, h => by cases b <;> simp [D.same] at h <;> rfl
  | .bl x, b, h => by cases b <;> simp [D.same] at h; subst h; rfl
  | .int x, b, h => by cases b <;> simp [D.same] at h; subst h; rfl
  | .str x, b, h => by cases b <;> simp [D.same] at h; subst h; rfl
  | .tup xs, b, h => by
    cases b with
    | tup ys => rw [D.same] at h; rw [D.sameL_eq xs ys h]
    | _ => simp [D.same] at h
  | .lst xs, b, h => by
    cases b with
    | lst ys => rw [D.same] at h; rw [D.sameL_eq xs ys h]
    | _ => simp [D.same] at h
  | .way xs, b, h => by
    cases b with
    | way ys => rw [D.same] at h; rw [D.sameL_eq xs ys h]
    | _ => simp [D.same] at h
  | .dic t ks vs, b, h => by
    cases b with
    | dic u js ws =>
      simp only [D.same, Bool.and_eq_true, beq_iff_eq] at h
      rw [h.1, D.sameL_eq ks js h.2.1, D.sameL_eq vs ws h.2.2]
    | _ => simp [D.same] at h
  | .ins C ns ds, b, h => by
    cases b with
    | ins C' ms es =>
      simp only [D.same, Bool.and_eq_true, beq_iff_eq] at h
      rw [h.1, h.2.1, D.sameL_eq ds es h.2.2]
    | _ => simp [D.same] at h
  | .exn C ns ds, b, h => by
    cases b with
    | exn C' ms es =>
      simp only [D.same, Bool.and_eq_true, beq_iff_eq] at h
      rw [h.1, h.2.1, D.sameL_eq ds es h.2.2]
    | _ => simp [D.same] at h
  | .ref i, b, h => by cases b <;> simp [D.same] at h; subst h; rfl
  | .scr x, b, h => by cases b <;> simp [D.same] at h; subst h; rfl
theorem D.sameL_eq : ∀ a b : List D, D.sameL a b = true → a = b
  | [], b, h => by cases b <;> simp [D.sameL] at h; rfl
  | x :: xs, b, h => by
    cases b with
    | nil => simp [D.sameL] at h
    | cons y ys =>
      simp only [D.sameL, Bool.and_eq_true] at h
      rw [D.same_eq x y h.1, D.sameL_eq xs ys h.2]
end
mutual
theorem D.same_self : ∀ a : D, D.same a a = true
  | .non => rfl
  | .bl x => by simp [D.same]
  | .int x => by simp [D.same]
  | .str x => by simp [D.same]
  | .tup xs => by rw [D.same]; exact D.sameL_self xs
  | .lst xs => by rw [D.same]; exact D.sameL_self xs
  | .way xs => by rw [D.same]; exact D.sameL_self xs
  | .dic t ks vs => by rw [D.same, D.sameL_self ks, D.sameL_self vs]; simp
  | .ins C ns ds => by rw [D.same, D.sameL_self ds]; simp
  | .exn C ns ds => by rw [D.same, D.sameL_self ds]; simp
  | .ref i => by simp [D.same]
  | .scr x => by simp [D.same]
theorem D.sameL_self : ∀ a : List D, D.sameL a a = true
  | [] => rfl
  | x :: xs => by rw [D.sameL, D.same_self x, D.sameL_self xs]; rfl
end
theorem repIntsL {Y : Sx} {μ : List Addr} {H : Hp} : ∀ ns : List Int, RepL Y μ H (ns.map V.int) (ns.map D.int)
  | [] => .nil
  | n :: ns => .cons (.int n) (repIntsL ns)
def WalkOk (Y : Sx) (μ1 : List Addr) (H1 : Hp) (J : L2.It) (w : Walk) : Prop := ∀ (Y' : Sx) (μ' : List Addr) (H' : Hp), Up Y H1 Y' → Ext μ1 H1 μ' H' → ∀ (Bs : List Nat) (S' : Store), World Y' Bs μ' H' S' → w.still S' = true →
  (∀ (i : Nat) (d : D), w.items[i]? = some d → J.go i H' ∧ ∀ (x : V) (H'' : Hp), J.yld i H' x H'' → ∃ μ'', Ext μ' H' μ'' H'' ∧ World Y' Bs μ'' H'' S' ∧ Rep Y' μ'' H'' x d) ∧ J.stop w.items.length H'
abbrev tW (Y : Sx) (Bs : List Nat) (W : WX) (m : Env → Store → R Walk) : TI := tX Y Bs (fun μ H (J : L2.It) w => WalkOk Y μ H J w) W m
section
variable {Y : Sx} {K : PySem.W.Frag} {μ1 : List Addr} {H1 : Hp} {a : Addr} {w : Walk}
theorem walk_lst (h : ∀ (Y' : Sx) (μ' : List Addr) (H' : Hp), Up Y H1 Y' → Ext μ1 H1 μ' H' → ∀ (Bs : List Nat) (S' : Store), World Y' Bs μ' H' S' → w.still S' = true → ∃ xs, SqL K H' a xs ∧ RepL Y' μ' H' xs w.items) : WalkOk Y μ1 H1 (Itl K a) w := by
  intro Y' μ' H' u e Bs S' wo st
  obtain ⟨xs, hs, r⟩ := h Y' μ' H' u e Bs S' wo st
  refine ⟨fun i d hd => ?_, xs, hs, by rw [r.length]; exact Nat.le_refl _⟩
  obtain ⟨x, hx, rx⟩ := r.get hd
  refine ⟨⟨xs, x, hs, hx⟩, fun y H'' q => ?_⟩
  obtain ⟨rfl, hy⟩ := q
  have e2 := hy xs hs
  rw [hx] at e2
  cases e2
  exact ⟨μ', .refl _ _, wo, rx⟩
theorem walk_tup (h : ∀ (Y' : Sx) (μ' : List Addr) (H' : Hp), Up Y H1 Y' → Ext μ1 H1 μ' H' → ∀ (Bs : List Nat) (S' : Store), World Y' Bs μ' H' S' → w.still S' = true → ∃ xs, SqT K H' a xs ∧ RepL Y' μ' H' xs w.items) : WalkOk Y μ1 H1 (Itt K a) w := by
  intro Y' μ' H' u e Bs S' wo st
  obtain ⟨xs, hs, r⟩ := h Y' μ' H' u e Bs S' wo st
  refine ⟨fun i d hd => ?_, xs, hs, by rw [r.length]; exact Nat.le_refl _⟩
  obtain ⟨x, hx, rx⟩ := r.get hd
  refine ⟨⟨xs, x, hs, hx⟩, fun y H'' q => ?_⟩
  obtain ⟨rfl, hy⟩ := q
  have e2 := hy xs hs
  rw [hx] at e2
  cases e2
  exact ⟨μ', .refl _ _, wo, rx⟩
theorem walk_str {l : List Nat} : WalkOk Y μ1 H1 (Its ⟨l.toArray⟩) ⟨l.map fun c => .str [c], []⟩ := by
  intro Y' μ' H' u e Bs S' wo st
  refine ⟨fun i d hd => ?_, by simp [Its]⟩
  rw [List.getElem?_map, Option.map_eq_some_iff] at hd
  obtain ⟨ch, hc, rfl⟩ := hd
  have hl := (List.getElem?_eq_some_iff.mp hc).1
  refine ⟨by simpa [Its] using hl, fun y H'' q => ?_⟩
  obtain ⟨rfl, k, hk, rfl⟩ := q
  have : k = ch := by
    have h2 : l[i]? = some k := by simpa using hk
    rw [hc] at h2
    exact (Option.some.inj h2).symm
  subst this
  exact ⟨μ', .refl _ _, wo, .str [k]⟩
theorem list_at {Y : Sx} {Bs : List Nat} {W : WX} {μ : List Addr} {H : Hp} {S : Store} {x : V} {d : D} {l : List D} {hd : List (Nat × List D)} (w : World Y Bs μ H S) (r : Rep Y μ H x d) (h : listD S d = some (l, hd)) :
    ∃ a, x = .ref a ∧ ∀ (Y' : Sx) (μ' : List Addr) (H' : Hp), Up Y H Y' → Ext μ H μ' H' → ∀ (Bs : List Nat) (S' : Store), World Y' Bs μ' H' S' → (Walk.mk [] hd).still S' = true → ∃ xs, H' a = some (.lst xs) ∧ RepL Y' μ' H' xs l := by
  cases r with
  | lst hx n rr =>
    simp only [listD, Option.some.injEq, Prod.mk.injEq] at h
    obtain ⟨rfl, rfl⟩ := h
    exact ⟨_, rfl, fun Y' μ' H' u e Bs S' _ _ => ⟨_, e.keep _ _ n.out hx, rr.move e u⟩⟩
  | @ref a i hi =>
    simp only [listD] at h
    cases hc : S[i]? with
    | none => rw [hc] at h; cases h
    | some ce =>
      rw [hc] at h
      cases ce with
      | lst ds =>
        simp only [Option.some.injEq, Prod.mk.injEq] at h
        obtain ⟨rfl, rfl⟩ := h
        refine ⟨_, rfl, fun Y' μ' H' u e Bs S' w' st => ?_⟩
        unfold Walk.still at st
        simp only [List.all_cons, List.all_nil, Bool.and_true] at st
        have hi' := e.get hi
        cases hc' : S'[i]? with
        | none => rw [hc'] at st; cases st
        | some ce' =>
          rw [hc'] at st
          cases ce' with
          | lst ds' =>
            have := D.sameL_eq _ _ st
            subst this
            have co := w'.cells i _ _ hi' hc'
            cases co with
            | lst h2 r2 => exact ⟨_, h2, r2⟩
          | _ => cases st
      | _ => cases h
  | _ => simp [listD] at h
theorem numbered_get : ∀ (l : List D) (k i : Nat) (d : D), (numbered k l)[i]? = some d → ∃ x, l[i]? = some x ∧ d = .tup [.int ((k + i : Nat) : Int), x]
  | [], k, i, d, h => by simp [numbered] at h
  | y :: l, k, 0, d, h => by
    simp only [numbered, List.getElem?_cons_zero, Option.some.injEq] at h
    exact ⟨y, rfl, h.symm⟩
  | y :: l, k, i + 1, d, h => by
    simp only [numbered, List.getElem?_cons_succ] at h
    obtain ⟨x, h1, h2⟩ := numbered_get l (k + 1) i d h
    exact ⟨x, by simpa using h1, by rw [h2]; congr 3; congr 1; omega⟩
theorem numbered_len : ∀ (l : List D) (k : Nat), (numbered k l).length = l.length
  | [], _ => rfl
  | _ :: l, k => by simp [numbered, numbered_len l]
end
theorem still_self {S1 : Store} {d : D} {l : List D} {hd : List (Nat × List D)} (hl : listD S1 d = some (l, hd)) : (Walk.mk [] hd).still S1 = true := by
  unfold Walk.still
  cases d with
  | lst ds =>
    simp only [listD, Option.some.injEq, Prod.mk.injEq] at hl
    rw [← hl.2]; rfl
  | ref i =>
    simp only [listD] at hl
    cases hc : S1[i]? with
    | none => rw [hc] at hl; cases hl
    | some ce =>
      rw [hc] at hl
      cases ce with
      | lst ds =>
        simp only [Option.some.injEq, Prod.mk.injEq] at hl
        rw [← hl.2]
        simp only [List.all_cons, List.all_nil, Bool.and_true, hc]
        exact D.sameL_self ds
      | _ => cases hl
  | _ => simp [listD] at hl
section
variable {X : Cx} {Y : Sx} {Bs : List Nat} {W : WX} {b : Nat} {M : MC} {c : Ctx} {tg x y : Expr} {p q : Pos} {ma mb : Env → Store → R D} {mas : Env → Store → R (List D)}
theorem i_val (hK : Y.ca.K = X.K) (ha : PE X x (tI Y Bs W ma)) : PI X tg x (tW Y Bs W fun ρ S => (ma ρ S).bind fun d S1 => R.of S1 (walkD S1 d)) := by
  refine ⟨fun pins s σ H R I ⟨μ, ρ, S, w, en, k⟩ => ?_⟩
  refine thn (ha.run pins s σ H _ I (tX.bind (Q := fun u H1 => ∃ (μ1 : List Addr) (S1 : Store) (d : D) (wk : Walk), World Y Bs μ1 H1 S1 ∧ Rep Y μ1 H1 u d ∧ walkD S1 d = some wk ∧ ∀ J : L2.It, WalkOk Y μ1 H1 J wk → R J H1) w en k fun d S1 μ1 H1 u w1 en1 x1 r1 k1 => ?_)) fun v s1 ⟨u, H1, I1, r1, μ1, S1, d, wk, w1, rd, hw, fin⟩ => ?_
  · obtain ⟨wk, hw, k2⟩ := k1.of
    exact ⟨μ1, S1, d, wk, w1, r1, hw, fun J hJ => k2 μ1 H1 J (.refl _ _) w1 hJ⟩
  · have lists : ∀ {a : Addr} {xs : List V}, u = .ref a → SqL X.K H1 a xs → WalkOk Y μ1 H1 (Itl X.K a) wk → wpAny (model X.prog X.w) X.A (pyIter v) (PIE X pins σ tg R) X.xe s1 := by
      intro a xs e hq hJ
      subst e
      cases r1
      obtain ⟨its, rv, pl, hz⟩ := I1.list hq
      refine wpAny_pyIter_list pl.isList ?_
      refine ⟨s1.heap.objs.size, [s1.heap.objs.size], _, _, H1, rfl, I1.kept (t' := s1.toks) fun b o e => Heap.get?_push_of_some _ e, turn_list a _, ⟨_, Heap.get?_push_size _ rfl, rfl, rfl⟩, fun b hb => ?_, fin _ hJ⟩
      have e : b = s1.heap.objs.size := by simpa using hb
      subst e
      exact I1.fpOk (Nat.le_refl _) (I1.hok.fresh (Nat.le_refl _))
    have tups : ∀ {a : Addr} {xs : List V}, u = .ref a → SqT X.K H1 a xs → WalkOk Y μ1 H1 (Itt X.K a) wk → wpAny (model X.prog X.w) X.A (pyIter v) (PIE X pins σ tg R) X.xe s1 := by
      intro a xs e hq hJ
      subst e
      cases r1
      obtain ⟨its, rv, pl, hz⟩ := I1.tuple hq
      refine wpAny_pyIter_tuple (show s1.heap.IsTuple a its.toArray from pl) ?_
      refine ⟨s1.heap.objs.size, [s1.heap.objs.size], _, _, H1, rfl, I1.kept (t' := s1.toks) fun b o e => Heap.get?_push_of_some _ e, turn_tuple a _, ⟨_, Heap.get?_push_size _ rfl, rfl, rfl⟩, fun b hb => ?_, fin _ hJ⟩
      have e : b = s1.heap.objs.size := by simpa using hb
      subst e
      exact I1.fpOk (Nat.le_refl _) (I1.hok.fresh (Nat.le_refl _))
    have viaList : ∀ {l : List D} {hd : List (Nat × List D)}, listD S1 d = some (l, hd) → wk = ⟨l, hd⟩ → wpAny (model X.prog X.w) X.A (pyIter v) (PIE X pins σ tg R) X.xe s1 := by
      intro l hd hl e
      subst e
      obtain ⟨a, e1, g⟩ := list_at (W := W) w1 rd hl
      obtain ⟨xs, h1, _⟩ := g Y μ1 H1 (.refl _ _) (.refl _ _) Bs S1 w1 (still_self hl)
      refine lists e1 (.of h1) (walk_lst fun Y' μ' H' u e Bs S' w' st => ?_)
      obtain ⟨xs, h2, r2⟩ := g Y' μ' H' u e Bs S' w' st
      exact ⟨xs, .of h2, r2⟩
    cases d with
    | tup ds =>
      simp only [walkD, Option.some.injEq] at hw
      subst hw
      cases rd with
      | tup h n rr => exact tups rfl (.of h) (walk_tup fun Y' μ' H' u e Bs S' w' st => ⟨_, .of (e.keep _ _ n.out h), rr.move e u⟩)
    | way ds =>
      simp only [walkD, Option.some.injEq] at hw
      subst hw
      cases rd with
      | way h ho n rr => exact tups rfl (.inl (.inr ⟨_, h⟩)) (walk_tup fun Y' μ' H' u e Bs S' w' st => ⟨_, .inl (.inr ⟨_, e.keep _ _ n.out h⟩), rr.move e u⟩)
    | scr ns =>
      simp only [walkD, Option.some.injEq] at hw
      subst hw
      cases rd with
      | scr h =>
        refine lists rfl (scr_sql hK (h.imp (fun ⟨o, h, _⟩ => ⟨o, h⟩) id)) (walk_lst fun Y' μ' H' u e Bs S' w' st => ⟨_, scr_sql (Y := Y') (by rw [u.ca]; exact hK) (h.imp (fun ⟨o, h, n⟩ => ⟨o, e.keep _ _ n.out h⟩) fun h => ?_), repIntsL ns⟩)
        rw [u.ca]; exact h
    | str l =>
      simp only [walkD, Option.some.injEq] at hw
      subst hw
      cases rd
      obtain ⟨t, rfl⟩ := r1
      have q := fin _ (walk_str (l := l))
      cases ha : (Str.mk l.toArray).cps.all (· < 128)
      · exact wpAny_pyIter_wide ha (pi_one (tk := s1.toks) I1 _ (turn_str _ _ t "str_iterator" (.inr rfl)) ⟨_, Heap.get?_push_size _ rfl, rfl, rfl⟩ q)
      · exact wpAny_pyIter_ascii ha (pi_one (tk := s1.toks) I1 _ (turn_str _ _ t "str_ascii_iterator" (.inl rfl)) ⟨_, Heap.get?_push_size _ rfl, rfl, rfl⟩ q)
    | lst ds =>
      simp only [walkD, listD, Option.map_some, Option.some.injEq] at hw
      exact viaList (l := ds) (hd := []) rfl hw.symm
    | ref i =>
      simp only [walkD, Option.map_eq_some_iff] at hw
      obtain ⟨⟨l, hd⟩, hl, rfl⟩ := hw
      exact viaList hl rfl
    | _ => simp [walkD, listD] at hw
theorem walk_rng {μ1 : List Addr} {H1 : Hp} {n : Nat} {f : Nat → Int} {J : L2.It} (h1 : ∀ i H', J.go i H' ↔ i < n) (h2 : ∀ i H' x H'', J.yld i H' x H'' → H'' = H' ∧ x = .int (f i)) (h3 : ∀ H', J.stop n H') : WalkOk Y μ1 H1 J ⟨(List.range n).map fun (k : Nat) => .int (f k), []⟩ := by
  intro Y' μ' H' u e Bs S' wo st
  refine ⟨fun j d hd => ?_, by simpa using h3 H'⟩
  rw [List.getElem?_map, Option.map_eq_some_iff] at hd
  obtain ⟨m, hm, rfl⟩ := hd
  obtain ⟨hlt, he⟩ := List.getElem?_eq_some_iff.mp hm
  simp at hlt he
  refine ⟨(h1 j H').mpr hlt, fun z H'' qz => ?_⟩
  obtain ⟨rfl, rfl⟩ := h2 _ _ _ _ qz
  subst he
  exact ⟨μ', .refl _ _, wo, .int _⟩
theorem i_range1 (G : Good Y c b Bs W M X) {n : Str} (hn : gnB M.sc "range" n = true) (hs : notStar x = true) (hl : ∀ ρ S ds S', mas ρ S = .ok ds S' → ds.length = 1) (ha : PA X [x] (tA Y Bs W mas)) :
    PI X tg (.Call (.Name n q) [x] [] p) (tW Y Bs W fun ρ S => (mas ρ S).bind fun ds S1 => R.of S1 ((ranges ds).map fun l => ⟨l, []⟩)) := by
  obtain ⟨rfl, h4, h5⟩ := gnB_of hn
  have base := pi_range1 (X := X) (tg := tg) (p := q) (pos := p) (G.gl h4) (G.bi "range" (by decide +kernel)) ha (starEach_of hs)
  refine ⟨fun pins s σ H R I ⟨μ, ρ, S, w, en, k⟩ => base.run pins s σ H R I ?_⟩
  refine tX.bind' w en k fun ds S1 μ1 H1 vs e w1 en1 x1 r1 k1 => ?_
  obtain ⟨wk, hw, k2⟩ := k1.of
  match ds, hl _ _ _ _ e, r1, hw with
  | [d], _, r1, hw =>
    obtain ⟨v, rfl, rv⟩ := rep1 r1
    cases rv with
    | int i =>
      simp only [ranges] at hw
      split at hw
      · rename_i hc
        simp only [Option.map_some, Option.some.injEq] at hw
        subst hw
        refine ⟨i, rfl, by omega, by omega, k2 μ1 H1 _ (.refl _ _) w1 ?_⟩
        exact walk_rng (f := fun k => (k : Int)) (fun _ _ => Iff.rfl) (fun j H' z H'' qz => ⟨qz.1, by rw [qz.2, Int.zero_add]⟩) (fun _ => Nat.le_refl _)
      · cases hw
    | _ => simp [ranges] at hw
theorem i_range2 (G : Good Y c b Bs W M X) {n : Str} (hn : gnB M.sc "range" n = true) (hs : notStar x = true) (hs2 : notStar y = true) (hl : ∀ ρ S ds S', mas ρ S = .ok ds S' → ds.length = 2) (ha : PA X [x, y] (tA Y Bs W mas)) :
    PI X tg (.Call (.Name n q) [x, y] [] p) (tW Y Bs W fun ρ S => (mas ρ S).bind fun ds S1 => R.of S1 ((ranges ds).map fun l => ⟨l, []⟩)) := by
  obtain ⟨rfl, h4, h5⟩ := gnB_of hn
  have base := pi_range2 (X := X) (tg := tg) (p := q) (pos := p) (G.gl h4) (G.bi "range" (by decide +kernel)) ha (by rw [starEach_of hs, starEach_of hs2]; rfl) (starEach_of hs2)
  refine ⟨fun pins s σ H R I ⟨μ, ρ, S, w, en, k⟩ => base.run pins s σ H R I ?_⟩
  refine tX.bind' w en k fun ds S1 μ1 H1 vs e w1 en1 x1 r1 k1 => ?_
  obtain ⟨wk, hw, k2⟩ := k1.of
  match ds, hl _ _ _ _ e, r1, hw with
  | [d, d'], _, r1, hw =>
    obtain ⟨v, v', rfl, rv, rv'⟩ := rep2 r1
    cases rv with
    | int i =>
      cases rv' with
      | int j =>
        simp only [ranges] at hw
        split at hw
        · rename_i hc
          simp only [Option.map_some, Option.some.injEq] at hw
          subst hw
          · refine ⟨i, j, rfl, ⟨by omega, by omega, by omega, by omega⟩, k2 μ1 H1 _ (.refl _ _) w1 ?_⟩
            exact walk_rng (f := fun k => i + (k : Int)) (fun _ _ => Iff.rfl) (fun m H' z H'' qz => qz) (fun _ => Nat.le_refl _)
        · cases hw
      | _ => simp [ranges] at hw
    | _ => cases rv' <;> simp [ranges] at hw
theorem i_range3 (G : Good Y c b Bs W M X) {n : Str} {z : Expr} (hn : gnB M.sc "range" n = true) (hs : notStar x = true) (hs2 : notStar y = true) (hs3 : notStar z = true) (hl : ∀ ρ S ds S', mas ρ S = .ok ds S' → ds.length = 3) (ha : PA X [x, y, z] (tA Y Bs W mas)) :
    PI X tg (.Call (.Name n q) [x, y, z] [] p) (tW Y Bs W fun ρ S => (mas ρ S).bind fun ds S1 => R.of S1 ((ranges ds).map fun l => ⟨l, []⟩)) := by
  obtain ⟨rfl, h4, h5⟩ := gnB_of hn
  have base := pi_range3 (X := X) (tg := tg) (p := q) (pos := p) (G.gl h4) (G.bi "range" (by decide +kernel)) ha (starEach_of hs) (starEach_ns (xs := [y, z]) (by simp [allNS, hs2, hs3])).1
  refine ⟨fun pins s σ H R I ⟨μ, ρ, S, w, en, k⟩ => base.run pins s σ H R I ?_⟩
  refine tX.bind' w en k fun ds S1 μ1 H1 vs e w1 en1 x1 r1 k1 => ?_
  obtain ⟨wk, hw, k2⟩ := k1.of
  match ds, hl _ _ _ _ e, r1, hw with
  | [d1, d2, d3], _, r1, hw =>
    cases r1 with
    | cons ri r2 =>
      cases r2 with
      | cons rj r3 =>
        cases r3 with
        | cons rl r4 =>
          cases r4
          have key : ∃ i j l, d1 = .int i ∧ d2 = .int j ∧ d3 = .int l := by
            clear k2 ri rj rl
            unfold ranges at hw
            split at hw
            · rename_i h; simp at h
            · rename_i h; simp at h
            · rename_i a' b' c' h
              simp only [List.cons.injEq, and_true] at h
              exact ⟨_, _, _, h.1, h.2.1, h.2.2⟩
            · cases hw
          obtain ⟨i, j, l, rfl, rfl, rfl⟩ := key
          cases ri
          cases rj
          cases rl
          simp only [ranges] at hw
          split at hw
          · rename_i hc
            obtain ⟨rfl, h1, h2, h3, h4⟩ := hc
            simp only [Option.map_some, Option.some.injEq] at hw
            subst hw
            refine ⟨i, j, -1, (i - j).toNat, rfl, RgC.neg (by omega) (by omega) (by omega) (by omega), k2 μ1 H1 _ (.refl _ _) w1 ?_⟩
            exact walk_rng (f := fun k => i - (k : Int)) (fun _ _ => Iff.rfl) (fun m H' z H'' qz => ⟨qz.1, by rw [qz.2]; congr 1; omega⟩) (fun _ => Nat.le_refl _)
          · cases hw
theorem enum_ok {μ1 : List Addr} {H1 : Hp} {a : Addr} {l : List D} {hd : List (Nat × List D)} {K : PySem.W.Frag} (g : ∀ (Y' : Sx) (μ' : List Addr) (H' : Hp), Up Y H1 Y' → Ext μ1 H1 μ' H' → ∀ (Bs : List Nat) (S' : Store), World Y' Bs μ' H' S' → (Walk.mk [] hd).still S' = true → ∃ xs, H' a = some (.lst xs) ∧ RepL Y' μ' H' xs l) :
    WalkOk Y μ1 H1 (Ite K a) ⟨numbered 0 l, hd⟩ := by
  intro Y' μ' H' u e Bs S' wo st
  obtain ⟨xs, h1, r⟩ := g Y' μ' H' u e Bs S' wo st
  refine ⟨fun i d hd => ?_, xs, .of h1, by rw [numbered_len, r.length]; exact Nat.le_refl _⟩
  obtain ⟨z, hz, rfl⟩ := numbered_get l 0 i d hd
  obtain ⟨v, hv, rv⟩ := r.get hz
  refine ⟨⟨xs, v, .of h1, hv⟩, fun y H'' qy => ?_⟩
  obtain ⟨T, v', rfl, nT, rfl, hall⟩ := qy
  have e2 := hall xs (.of h1)
  rw [hv] at e2
  cases e2
  refine ⟨μ', .laid nT, wo.laid nT, .tup upd_same (wo.fresh nT) (.cons ?_ (.cons (rv.ext (.laid nT)) .nil))⟩
  rw [Nat.zero_add]
  exact .int _
end
end CL
namespace CL
open PySem PySem.Spec PyProof.Rows L2
theorem enum_tup_meets (l : Addr) (items : Array Value) (o : Obj) (ho : o = { cls := .type "tuple_iterator", data := .fields #[.ref l, .int 0 0] }) :
    Meets (Builtin.«enumerate.__new__» ⟨[.type "enumerate", .ref l], []⟩) (fun _ R z => IsTup z.heap l items ∧
      R (.ok (.ret (.ref (z.heap.push o).objs.size))) { z with heap := (z.heap.push o).push { cls := .type "enumerate", data := .fields #[.none, .bool false, .ref z.heap.objs.size, rawInt 0, .none, .none] } }) :=
  .of_wp fun prog w A R z h => by
    subst ho
    obtain ⟨hp, g, d, tk, os⟩ := z
    obtain ⟨h1, h⟩ := h
    have sub := sub_enumerate
    have q1 : ∀ {A1 : Around} {E1 : Value → Shared → Prop} {Q1 : Value → Shared → Prop}, Q1 (.ref hp.objs.size) ⟨hp.push { cls := .type "tuple_iterator", data := .fields #[.ref l, .int 0 0] }, g, d, tk, os⟩ → wpAny (model prog w) A1 (pyIter (.ref l)) Q1 E1 ⟨hp, g, d, tk, os⟩ :=
      fun q => (begins_tuple l items).iter prog w _ _ ⟨hp, g, d, tk, os⟩ _ h1 q
    wp_walk using q1
    refine wpAny_stack_any fun stk => wpAny_pure ?_
    split
    · rename_i cc _ _ _ _ _
      cases (cc == Value.type "enumerate") <;>
      · wp_walk using q1
        exact ⟨_, rfl, h⟩
    · wp_walk using q1
      exact ⟨_, rfl, h⟩
theorem enum_tup {prog : Program} {w : PySem.World} {A : Around} {E : Value → Shared → Prop} {s : Shared} {l : Addr} {items : Array Value} {Q : Value → Shared → Prop} (hl : IsTup s.heap l items)
    (h : ∀ h1, IsEnum h1 (s.heap.objs.size + 1) s.heap.objs.size 0 .none → h1.IsTupleIter s.heap.objs.size l 0 → h1.objs.size = s.heap.objs.size + 2 → (∀ b u, s.heap.get? b = some u → h1.get? b = some u) → Q (.ref (s.heap.objs.size + 1)) { s with heap := h1 }) :
    wpAny (model prog w) A (call (.type "enumerate") [.ref l]) Q E s := by
  refine callType_new F.called_enumerate (by decide) (F.typeCall_enumerate_1 _) (F.newCall_enumerate_1 _) (fun obj => F.args_object_init_2 obj _) F.entry_enumerate_new (enum_tup_meets l items _ rfl) ⟨hl, ?_⟩
  have z1 : (s.heap.push { cls := .type "tuple_iterator", data := .fields #[.ref l, .int 0 0] }).objs.size = s.heap.objs.size + 1 := Heap.size_push ..
  show _ ∧ _
  rw [z1]
  have e1 : IsEnum ((s.heap.push { cls := .type "tuple_iterator", data := .fields #[.ref l, .int 0 0] }).push
      { cls := .type "enumerate", data := .fields #[.none, .bool false, .ref s.heap.objs.size, rawInt 0, .none, .none] }) (s.heap.objs.size + 1) s.heap.objs.size 0 .none := by
    have q := Heap.get?_push_size (s.heap.push { cls := .type "tuple_iterator", data := .fields #[.ref l, .int 0 0] })
      (o := { cls := .type "enumerate", data := .fields #[.none, .bool false, .ref s.heap.objs.size, rawInt 0, .none, .none] }) rfl
    rw [z1] at q
    exact q
  exact ⟨⟨_, e1, rfl⟩, h _ e1 ⟨_, Heap.get?_push_of_some _ (Heap.get?_push_size _ rfl), rfl, rfl⟩ (by rw [Heap.size_push, z1]) fun b u z => Heap.get?_push_of_some _ (Heap.get?_push_of_some _ z)⟩
def IteT (K : PySem.W.Frag) (a : Addr) : L2.It :=
  ⟨fun i H => ∃ (xs : List V) (x : V), SqT K H a xs ∧ xs[i]? = some x,
    fun i H v H1 => ∃ T x, v = .ref T ∧ H T = none ∧ H1 = upd H T (.tup [.int (i : Nat), x]) ∧ ∀ xs, SqT K H a xs → xs[i]? = some x,
    fun i H => ∃ xs : List V, SqT K H a xs ∧ xs.length ≤ i⟩
theorem turn_enumT {P : Program} {w : PySem.World} {K : PySem.W.Frag} {elts : List Expr} {kk : Nat} {tpos : Pos} (a e it : Addr) :
    Turn P w K (.Tuple elts kk tpos) (IteT K a) [e, it] e (fun i h => (∃ old, IsEnum h e it ((i : Nat) : Int) old) ∧ h.IsTupleIter it a i ∧ e ≠ it ∧ a ≠ it ∧ e ≠ a) where
  mem := List.mem_cons_self
  obj := by
    rintro i h ⟨⟨old, he⟩, ⟨o, ho, hc, hd⟩, _⟩ b hb
    simp only [List.mem_cons, List.not_mem_nil, or_false] at hb
    rcases hb with rfl | rfl
    · exact ⟨_, he, fun v q => nomatch q⟩
    · exact ⟨o, ho, fun v q => by rw [hd] at q; cases q⟩
  keep := fun i h h1 ⟨⟨old, he⟩, hi, hne⟩ k => ⟨⟨old, k e (by simp) _ he⟩, hi.at fun o q => k it (by simp) o q, hne⟩
  item := by
    intro X hP hw hK hcalm i pins s σ H E I hf st hg
    subst hP hw hK
    obtain ⟨⟨old, he⟩, hit, hne, hai, hea⟩ := st
    obtain ⟨xs, x, hq, hx⟩ := hg
    obtain ⟨its, rv, p, _⟩ := I.tuple hq
    obtain ⟨u, hu, ru⟩ := rv.get hx
    have hel : e < s.heap.objs.size := Heap.lt_size he
    have hil : it < s.heap.objs.size := by
      obtain ⟨_, q, _⟩ := hit
      exact Heap.lt_size q
    have hlt : i < its.toArray.size := by
      have := (List.getElem?_eq_some_iff.mp hu).1
      simpa using this
    refine wpAny_pyNext_enum_itemC (n := its.toArray.size) (Draws.tuple (A := X.A.in1) (I.ok.hd hcalm) it a hai its.toArray) he ⟨hit, p⟩ hlt hne (by simp [hne, hea]) fun y h1 tk hy ho hst hT hsz hk => ?_
    have hyu : y = u := by
      have z : its.toArray[i]? = some u := by simpa using hu
      exact Option.some.inj (hy.symm.trans z)
    subst hyu
    refine ⟨_, rfl, wpAny_letOwnedTupleGo_enum (s := { s with heap := h1, toks := tk + 1 }) ho fun h2 he2 sb => ?_⟩
    have hT2 : h2.get? s.heap.objs.size = some { cls := .type "tuple", data := .seq #[.int (i : Nat) tk, y] } := (sb.2 _ (Nat.ne_of_gt hel)).trans hT
    have new : ObjOk X.prog X.w (upd H s.heap.objs.size (.tup [.int (i : Nat), x])) h2 s.heap.objs.size (.tup [.int (i : Nat), x]) :=
      ⟨by show 2 ≤ sizeLine; decide, [.int i tk, y], .cons ⟨_, rfl⟩ (.cons ru .nil), ⟨_, hT2, rfl, _, rfl⟩⟩
    have I1 : Inv X pins σ (upd H s.heap.objs.size (.tup [.int (i : Nat), x])) { s with heap := h2, toks := tk + 1 } :=
      I.turnedNew (ch := [e, it]) (fun b ob hb q => (sb.2 b fun z => hb (by simp [z])).trans (hk b ob (fun z => hb (by simp [z])) (fun z => hb (by simp [z])) q)) hf (Nat.le_refl _) new
    refine ⟨.ref s.heap.objs.size, _, I1, rfl, ⟨_, x, rfl, I.hok.fresh (Nat.le_refl _), rfl, fun ys hy' => by rw [I.tuple_inj hy' hq]; exact hx⟩, ⟨⟨y, ?_⟩, hst.1.at fun o q => (sb.2 it (Ne.symm hne)).trans q, hne, hai, hea⟩, fun b hb => ?_⟩
    · have e1 : ((i + 1 : Nat) : Int) = (i : Int) + 1 := by omega
      rw [e1]
      exact he2
    · have hlt2 : b < s.heap.objs.size := by
        simp only [List.mem_cons, List.not_mem_nil, or_false] at hb
        rcases hb with rfl | rfl
        · exact hel
        · exact hil
      rw [upd_ne (Nat.ne_of_lt hlt2)]
      exact (hf b hb).1
  done := by
    intro X hP hw hK hcalm i pins s σ H E I hf st hg
    subst hP hw hK
    obtain ⟨⟨old, he⟩, hit, hne, hai, hea⟩ := st
    obtain ⟨xs, hq, hx⟩ := hg
    obtain ⟨its, rv, p, _⟩ := I.tuple hq
    obtain ⟨f0, f1, f2, f3, f4, f5⟩ := hf it (by simp)
    have hl := rv.length
    obtain ⟨oi, hoi, hci, hdi⟩ := id hit
    show wpAny (model X.prog X.w) X.A (pyNext (.ref e)) _ _ _
    have hT : s.TypeIs (.ref e) "enumerate" := ⟨_, he, rfl⟩
    unfold pyNext
    refine wpAny_bind (wpAny_attempt (wpAny_callSpecial?_slot (name := Str.ofString "__next__") hT F.slot_enumerate_next (wpAny_call_entry F.slot_enumerate_next hT F.entry_enumerate_next ?_ (F.args_enumerate_next_1 _))))
    show wpAny _ _ (field (.ref e) 2 >>= _) _ _ _
    refine wpAny_bind (wpAny_field he rfl (x := .ref it) rfl (wpAny_bind (wpAny_nextOf_tuple_end (A := X.A.in1) (I.ok.hd hcalm) hit p (by simp; omega) fun h1 x eb ⟨o, ho, hc⟩ => ?_)))
    refine wpAny_bind (wpAny_isInstance (T := "StopIteration") (b := true) ⟨o, ho, hc⟩ isSubtype_stop (wpAny_pure ?_))
    exact ⟨rfl, I.turned (t' := s.toks) (fun b o hb q => eb b o hb q) f0 f1 f3 f4 f5⟩
  self := fun A i s Q E ⟨⟨_, he⟩, _⟩ h => wpAny_pyIter_enum he h
def iEnumA (K : PySem.W.Frag) (ta : TA) : TI := fun σ H R => ta σ H fun vs H1 => ∃ a xs, vs = [.ref a] ∧ ((SqL K H1 a xs ∧ R (Ite K a) H1) ∨ (SqT K H1 a xs ∧ R (IteT K a) H1))
theorem pi_enumA {X : Cx} {e : Expr} {ta : TA} {p pos tpos : Pos} {elts : List Expr} {kk : Nat} (hg : Gl X "enumerate") (hm : X.mg "enumerate" = none) (ha : PA X [e] ta) (hs : starEach [e] X.env = [(false, eval e X.env)]) :
    PI X (.Tuple elts kk tpos) (.Call (.Name "enumerate" p) [e] [] pos) (iEnumA X.K ta) := by
  refine ⟨fun pins s σ H R I h => Call_ (ld_blt I hg hm boot_enumerate (PyProof.Rows.callWith_type1 (thn (ha.run pos pins s σ H _ I h) fun us s1 ⟨vs, H1, I1, r1, q1⟩ => ?_) hs rfl))⟩
  obtain ⟨a, xs, rfl, q⟩ := q1
  obtain ⟨u, rfl, ru⟩ := vals1 r1
  obtain rfl : u = Value.ref a := ru
  have fps : ∀ b ∈ [s1.heap.objs.size + 1, s1.heap.objs.size], FpOk X pins H1 b := fun b hb => by
    simp only [List.mem_cons, List.not_mem_nil, or_false] at hb
    have hle : s1.heap.objs.size ≤ b := by rcases hb with rfl | rfl <;> omega
    exact I1.fpOk hle (I1.hok.fresh hle)
  rcases q with ⟨hq, q⟩ | ⟨hq, q⟩
  · obtain ⟨its, rv, p1, _⟩ := I1.list hq
    exact call_enumerate_list p1.isList fun h1 he hit hsz hk => wpAny_pyIter_enum he ⟨_, _, _, _, H1, rfl, I1.kept (t' := s1.toks) hk, turn_enum a (s1.heap.objs.size + 1) s1.heap.objs.size, ⟨⟨.none, he⟩, hit, Nat.succ_ne_self _⟩, fps, q⟩
  · obtain ⟨its, rv, p1, _⟩ := I1.tuple hq
    have hal : a < s1.heap.objs.size := by
      obtain ⟨o, ho, _⟩ := id p1
      exact Heap.lt_size ho
    exact enum_tup p1 fun h1 he hit hsz hk => wpAny_pyIter_enum he ⟨_, _, _, _, H1, rfl, I1.kept (t' := s1.toks) hk, turn_enumT a (s1.heap.objs.size + 1) s1.heap.objs.size, ⟨⟨.none, he⟩, hit, Nat.succ_ne_self _, Nat.ne_of_lt hal, Nat.ne_of_gt (Nat.lt_succ_of_lt hal)⟩, fps, q⟩
section
variable {X : Cx} {Y : Sx} {Bs : List Nat} {W : WX} {b : Nat} {M : MC} {c : Ctx} {tg x y : Expr} {p q : Pos} {ma mb : Env → Store → R D}
theorem tup_at {μ : List Addr} {H : Hp} {v : V} {d : D} {l : List D} (r : Rep Y μ H v d) (h : tupD d = some l) : ∃ a xs, v = .ref a ∧ (H a = some (.tup xs) ∨ ∃ o, H a = some (.frz o (.tup xs))) ∧ Fr Y μ a ∧ RepL Y μ H xs l := by
  cases r with
  | tup hx n rr =>
    simp only [tupD, Option.some.injEq] at h
    subst h
    exact ⟨_, _, rfl, .inl hx, n, rr⟩
  | way hx ho n rr =>
    simp only [tupD, Option.some.injEq] at h
    subst h
    exact ⟨_, _, rfl, .inr ⟨_, hx⟩, n, rr⟩
  | _ => simp [tupD] at h
theorem sqt_of {K : PySem.W.Frag} {H : Hp} {a : Addr} {xs : List V} (h : H a = some (.tup xs) ∨ ∃ o, H a = some (.frz o (.tup xs))) : SqT K H a xs := by
  rcases h with h | ⟨o, h⟩
  · exact .of h
  · exact .inl (.inr ⟨o, h⟩)
theorem tup_keep {μ μ' : List Addr} {H H' : Hp} {a : Addr} {xs : List V} (e : Ext μ H μ' H') (n : Fr Y μ a) (h : H a = some (.tup xs) ∨ ∃ o, H a = some (.frz o (.tup xs))) : H' a = some (.tup xs) ∨ ∃ o, H' a = some (.frz o (.tup xs)) := by
  rcases h with h | ⟨o, h⟩
  · exact .inl (e.keep _ _ n.out h)
  · exact .inr ⟨o, e.keep _ _ n.out h⟩
theorem enumT_ok {μ1 : List Addr} {H1 : Hp} {a : Addr} {xs : List V} {l : List D} {K : PySem.W.Frag} (hx : H1 a = some (.tup xs) ∨ ∃ o, H1 a = some (.frz o (.tup xs))) (n : Fr Y μ1 a) (r : RepL Y μ1 H1 xs l) : WalkOk Y μ1 H1 (IteT K a) ⟨numbered 0 l, []⟩ := by
  intro Y' μ' H' u e Bs S' wo st
  have hx' := tup_keep e n hx
  have r' := r.move e u
  refine ⟨fun i d hd => ?_, xs, sqt_of hx', by rw [numbered_len, r.length]; exact Nat.le_refl _⟩
  obtain ⟨z, hz, rfl⟩ := numbered_get l 0 i d hd
  obtain ⟨v, hv, rv⟩ := r'.get hz
  refine ⟨⟨xs, v, sqt_of hx', hv⟩, fun y H'' qy => ?_⟩
  obtain ⟨T, v', rfl, nT, rfl, hall⟩ := qy
  have e2 := hall xs (sqt_of hx')
  rw [hv] at e2
  cases e2
  refine ⟨μ', .laid nT, wo.laid nT, .tup upd_same (wo.fresh nT) (.cons ?_ (.cons (rv.ext (.laid nT)) .nil))⟩
  rw [Nat.zero_add]
  exact .int _
theorem i_enum (G : Good Y c b Bs W M X) {n : Str} (hn : gnB M.sc "enumerate" n = true) (ht : isTuple tg = true) (hs : notStar x = true) (ha : PE X x (tI Y Bs W ma)) :
    PI X tg (.Call (.Name n q) [x] [] p) (tW Y Bs W fun ρ S => (ma ρ S).bind fun d S1 => R.of S1 (enumD S1 d)) := by
  obtain ⟨rfl, h4, h5⟩ := gnB_of hn
  cases tg with
  | Tuple ts kk tp =>
    have base := pi_enumA (X := X) (p := q) (pos := p) (elts := ts) (kk := kk) (tpos := tp) (G.gl h4) (G.bi "enumerate" (by decide +kernel)) (pa_cons ha pa_nil (starEach_of hs)) (starEach_of hs)
    refine ⟨fun pins s σ H R I ⟨μ, ρ, S, w, en, k⟩ => base.run pins s σ H R I ?_⟩
    refine tX.bind w en k fun d S1 μ1 H1 u w1 en1 x1 r1 k1 => ?_
    obtain ⟨wk, hw, k2⟩ := k1.of
    unfold enumD at hw
    cases ht2 : tupD d with
    | some l =>
      rw [ht2] at hw
      simp only [Option.some.injEq] at hw
      subst hw
      obtain ⟨a, xs, rfl, hx, n, rr⟩ := tup_at r1 ht2
      exact ⟨a, xs, rfl, .inr ⟨sqt_of hx, k2 μ1 H1 _ (.refl _ _) w1 (enumT_ok hx n rr)⟩⟩
    | none =>
      rw [ht2] at hw
      simp only [Option.map_eq_some_iff] at hw
      obtain ⟨⟨l, hd⟩, hl, rfl⟩ := hw
      obtain ⟨a, rfl, g⟩ := list_at (W := W) w1 r1 hl
      obtain ⟨xs, h1, _⟩ := g Y μ1 H1 (.refl _ _) (.refl _ _) Bs S1 w1 (still_self hl)
      exact ⟨a, xs, rfl, .inl ⟨.of h1, k2 μ1 H1 _ (.refl _ _) w1 (enum_ok g)⟩⟩
  | _ => cases ht
theorem s_ncat (ha : PE X x (tI Y Bs W ma)) (hb : PE X y (tI Y Bs W mb)) : PE X (.BinOp x .Add y p) (tI Y Bs W fun ρ S => (ma ρ S).bind fun d S1 => (mb ρ S1).bind fun e S2 => match bop .add (vw S2 d) (vw S2 e) with
    | some (.lst ds) => .ok (.ref S2.length) (S2 ++ [.lst ds])
    | _ => .bad) := by
  refine (pe_op op_cat ha hb).imp ?_
  rintro σ H Q ⟨μ, ρ, S, w, en, k⟩
  refine tX.bind w en k fun d S1 μ1 H1 u w1 en1 x1 r1 k1 => tX.bind w1 en1 k1 fun e S2 μ2 H2 v w2 en2 x2 r2 k2 => ?_
  have vd := view_of w2 (r1.ext x2)
  have ve := view_of w2 r2
  revert k2
  generalize vw S2 d = d' at vd
  generalize vw S2 e = e' at ve
  intro k2
  cases vd with
  | lst h1 rr1 =>
    cases ve with
    | lst h2 rr2 =>
      simp only [bop] at k2
      split at k2
      · rename_i heq
        split at heq
        · rename_i hc
          cases heq
          exact ⟨_, _, _, _, rfl, rfl, h1, h2, by rw [rr1.length, rr2.length]; exact lim_line (catOk_of hc), fun q hq => KR.cell k2 w2 hq (.lst upd_same ((rr1.append rr2).ext (.cell hq)))⟩
        · cases heq
      · exact k2.elim
    | _ => simp [bop] at k2 <;> exact k2.elim
  | str l =>
    cases ve with
    | str m => simp only [bop] at k2; split at k2 <;> first | exact k2.elim | (rename_i heq; split at heq <;> cases heq)
    | _ => simp [bop] at k2 <;> exact k2.elim
  | tup h1 n1 rr1 =>
    cases ve with
    | tup h2 n2 rr2 => simp only [bop] at k2; split at k2 <;> first | exact k2.elim | (rename_i heq; split at heq <;> cases heq)
    | way h2 ho2 n2 rr2 => simp only [bop] at k2; split at k2 <;> first | exact k2.elim | (rename_i heq; split at heq <;> cases heq)
    | _ => simp [bop] at k2 <;> exact k2.elim
  | way h1 ho1 n1 rr1 =>
    cases ve with
    | tup h2 n2 rr2 => simp only [bop] at k2; split at k2 <;> first | exact k2.elim | (rename_i heq; split at heq <;> cases heq)
    | _ => simp [bop] at k2 <;> exact k2.elim
  | int i =>
    cases ve with
    | int j => simp [bop] at k2 <;> exact k2.elim
    | _ => simp [bop] at k2 <;> exact k2.elim
  | _ => simp [bop] at k2 <;> exact k2.elim
def rNList (Y : Sx) (Bs : List Nat) : List V → Hp → VK → Prop := fun xs H Q => ∃ (μ : List Addr) (S : Store) (x : V) (d : D) (ds : List D), xs = [x] ∧ World Y Bs μ H S ∧ Rep Y μ H x d ∧ seqD (vw S d) = some ds ∧ ∀ (p : Addr) (ys : List V), H p = none → RepL Y μ H ys ds → Q (.ref p) (upd H p (.lst ys))
theorem call_nlist : CallR X (.type "list") (rNList Y Bs) := by
  intro pins s σ H xs us Q I r h
  obtain ⟨μ, S, x, d, ds, rfl, w, rx, hs, k⟩ := h
  have vd := view_of w rx
  revert hs
  generalize vw S d = d' at vd
  intro hs
  cases vd with
  | lst h rr =>
    simp only [seqD, Option.some.injEq] at hs
    subst hs
    exact call_list_of pins s σ H _ us Q I r ⟨_, _, rfl, .inl (.of h), fun l hl => k l _ hl rr⟩
  | tup h n rr =>
    simp only [seqD, Option.some.injEq] at hs
    subst hs
    exact call_list_of pins s σ H _ us Q I r ⟨_, _, rfl, .inr (.of h), fun l hl => k l _ hl rr⟩
  | way h ho n rr =>
    simp only [seqD, Option.some.injEq] at hs
    subst hs
    exact call_list_of pins s σ H _ us Q I r ⟨_, _, rfl, .inr (.inl (.inr ⟨_, h⟩)), fun l hl => k l _ hl rr⟩
  | _ => simp [seqD] at hs
theorem s_nlist (G : Good Y c b Bs W M X) {n : Str} (hn : gnB M.sc "list" n = true) (hs : notStar x = true) (ha : PE X x (tI Y Bs W ma)) : PE X (.Call (.Name n q) [x] [] p) (tI Y Bs W fun ρ S => (ma ρ S).bind fun d S1 => match seqD (vw S1 d) with
    | some ds => .ok (.ref S1.length) (S1 ++ [.lst ds])
    | none => .bad) := by
  obtain ⟨rfl, h4, h5⟩ := gnB_of hn
  have hv := boot_fb .list
  refine (pe_callTy (call_nlist (Y := Y) (Bs := Bs)) (G.gl h4) (G.bi _ (fb_bis .list)) hv (pa_cons ha pa_nil (starEach_of hs)) (fb_name .list) (okN_db h5) (starEach_of hs) rfl).imp ?_
  rintro σ H Q ⟨μ, ρ, S, w, en, k⟩
  refine tX.bind w en k fun d S1 μ1 H1 u w1 en1 x1 r1 k1 => ?_
  cases hq : seqD (vw S1 d) with
  | none => rw [hq] at k1; exact k1.elim
  | some ds =>
    rw [hq] at k1
    exact ⟨μ1, S1, u, d, ds, rfl, w1, r1, hq, fun p ys hp rr => KR.cell k1 w1 hp (.lst upd_same (rr.ext (.cell hp)))⟩
end
end CL
namespace CL
open PySem PySem.Spec PyProof.Rows L2
open AutoSeq1 (wpAny_loadPart')
abbrev IsE (h : Heap) (e it : Addr) (i : Int) (f0 f1 f5 : Value) : Prop :=
  h.get? e = some { cls := .type "enumerate", dict := none, data := .fields #[f0, f1, .ref it, rawInt i, .none, f5], slots := #[] }
section
variable {prog : Program} {w : PySem.World} {A : Around} {E : Value → Shared → Prop} {s : Shared}
theorem ld_alive {M : Model} {a : Addr} {o : Obj} {Q : Option Obj → Shared → Prop} (ho : s.heap.get? a = some o) (h : Q (some o) s) : wpAny M A (loadIfAlive a) Q E s := by
  intro Γ p hp
  show Sem.wp M Γ (.loadIfAlive a .pure) _ _ p s
  rw [Sem.wp_loadIfAlive, ho]
  exact (wpAny_pure (M := M) (A := A) (E := E) h) Γ p hp
theorem enum_next_busy {e it a : Addr} {fp : List Addr} {n i : Nat} {P : Nat → Value → Prop} {St : Nat → Heap → Prop} {b : Bool} {f5 : Value} {oa : Obj} {Q : Value → Shared → Prop}
    (D : Draws prog w A it fp n P St) (he : IsE s.heap e it i (rawInt a) (.bool b) f5) (ha : s.heap.get? a = some oa) (hae : a ≠ e) (hai : a ≠ it) (hst : St i s.heap) (hlt : i < n) (hne : e ≠ it) (hef : e ∉ fp)
    (hQ : ∀ x h' tk, P i x → IsE h' e it ((i : Int) + 1) (rawInt a) (.bool true) f5 → St (i + 1) h' →
      h'.get? s.heap.objs.size = some { cls := .type "tuple", data := .seq #[.int i tk, x] } → h'.objs.size = s.heap.objs.size + 1 →
      (∀ b o, b ≠ e → b ≠ it → s.heap.get? b = some o → h'.get? b = some o) → Q (.ref s.heap.objs.size) { s with heap := h', toks := tk + 1 }) :
    wpAny (model prog w) A (Builtin.«enumerate.__next__» ⟨[.ref e], []⟩) (fun fin s' => ∃ v, fin = .done (.ret v) ∧ Q v s') E s := by
  obtain ⟨hp, g, d, tk₀, os⟩ := s
  show wpAny _ _ (field (.ref e) 2 >>= _) _ _ _
  refine wpAny_bind (wpAny_field he rfl (x := .ref it) rfl ?_)
  refine wpAny_bind (D.item i _ _ _ hlt hst fun x h₁ tk hPx hit₁ hs₁ => ?_)
  replace hs₁ : Heap.SameBut it hp h₁ := hs₁
  have he₁ : IsE h₁ e it i (rawInt a) (.bool b) f5 := (hs₁.2 e hne).trans he
  show wpAny _ _ (field (.ref e) 3 >>= _) _ _ ⟨h₁, g, d, tk, os⟩
  refine wpAny_bind (wpAny_field he₁ rfl (x := rawInt i) rfl ?_)
  show wpAny _ _ (field (.ref e) 4 >>= _) _ _ ⟨h₁, g, d, tk, os⟩
  refine wpAny_bind (wpAny_field he₁ rfl (x := .none) rfl ?_)
  show wpAny _ _ (mkInt i >>= _) _ _ ⟨h₁, g, d, tk, os⟩
  refine wpAny_bind (wpAny_mkInt ?_)
  show wpAny _ _ (setField (.ref e) 3 (rawInt ((i : Int) + 1)) >>= _) _ _ ⟨h₁, g, d, tk + 1, os⟩
  refine wpAny_bind (wpAny_setField_rec he₁ (by simp) fun h₂ he₂ hs₂ => ?_)
  replace hs₂ : Heap.SameBut e h₁ h₂ := hs₂
  replace he₂ : IsE h₂ e it ((i : Int) + 1) (rawInt a) (.bool b) f5 := he₂
  show wpAny _ _ (setField (.ref e) 4 .none >>= _) _ _ ⟨h₂, g, d, tk + 1, os⟩
  refine wpAny_bind (wpAny_setField_rec he₂ (by simp) fun h₃ he₃ hs₃ => ?_)
  replace hs₃ : Heap.SameBut e h₂ h₃ := hs₃
  replace he₃ : IsE h₃ e it ((i : Int) + 1) (rawInt a) (.bool b) f5 := he₃
  show wpAny _ _ (newTuple [.int i tk, x] >>= _) _ _ ⟨h₃, g, d, tk + 1, os⟩
  refine wpAny_bind (wpAny_newTuple ?_)
  have he₄ : IsE (h₃.push { cls := .type "tuple", data := .seq #[.int i tk, x] }) e it ((i : Int) + 1) (rawInt a) (.bool b) f5 := Heap.get?_push_of_some _ he₃
  generalize hh₄ : h₃.push { cls := .type "tuple", data := .seq #[.int i tk, x] } = h₄ at he₄
  have hsz : h₃.objs.size = hp.objs.size := by rw [hs₃.1, hs₂.1, hs₁.1]
  have hel : e < hp.objs.size := Heap.lt_size he
  have ht₄ : h₄.get? hp.objs.size = some { cls := .type "tuple", data := .seq #[.int i tk, x] } := by rw [← hh₄, ← hsz]; exact Heap.get?_push_size _ rfl
  have hz₄ : h₄.objs.size = hp.objs.size + 1 := by rw [← hh₄, Heap.size_push, hsz]
  have hk₄ : ∀ b o, b ≠ e → b ≠ it → hp.get? b = some o → h₄.get? b = some o := fun b o hbe hbi hb => by
    rw [← hh₄]; exact Heap.get?_push_of_some _ (hs₃.extBut b o hbe (hs₂.extBut b o hbe (hs₁.extBut b o hbi hb)))
  have hit₄ : St (i + 1) h₄ := D.frame _ _ _ hit₁ fun b hb o y => by
    have hbe : b ≠ e := fun q => hef (q ▸ hb)
    rw [← hh₄]; exact Heap.get?_push_of_some _ (hs₃.extBut b o hbe (hs₂.extBut b o hbe y))
  have ha₄ := hk₄ a oa hae hai ha
  show wpAny _ _ (Builtin.SmallTypes.ownedTupleIsFree (.ref e) >>= _) _ _ ⟨h₄, g, d, tk + 1, os⟩
  rw [hsz]
  clear hh₄ he₃ hs₃ he₂ hs₂ he₁ hs₁ hit₁ hsz h₃ h₂ h₁
  refine wpAny_bind ?_
  unfold Builtin.SmallTypes.ownedTupleIsFree
  refine wpAny_bind (wpAny_field he₄ rfl (x := rawInt a) rfl ?_)
  simp only [rawInt, Int.toNat_natCast]
  refine wpAny_bind (ld_alive ha₄ ?_)
  simp only [Option.isNone_some, Bool.false_eq_true, if_false]
  refine wpAny_bind (wpAny_field he₄ rfl (x := .bool b) rfl ?_)
  cases b with
  | true =>
    exact wpAny_pure (wpAny_pure ⟨_, rfl, hQ x h₄ tk hPx he₄ hit₄ ht₄ hz₄ hk₄⟩)
  | false =>
    refine wpAny_bind (wpAny_setField_rec he₄ (by simp) fun h₅ he₅ hs₅ => ?_)
    replace hs₅ : Heap.SameBut e h₄ h₅ := hs₅
    replace he₅ : IsE h₅ e it ((i : Int) + 1) (rawInt a) (.bool true) f5 := he₅
    refine wpAny_pure (wpAny_pure ⟨_, rfl, hQ x h₅ tk hPx he₅ (D.frame _ _ _ hit₄ fun b hb o y => ?_) ?_ ?_ ?_⟩)
    · have hbe : b ≠ e := fun q => hef (q ▸ hb)
      exact hs₅.extBut b o hbe y
    · exact hs₅.extBut _ _ (Nat.ne_of_gt hel) ht₄
    · rw [hs₅.1, hz₄]
    · exact fun b o hbe hbi hb => hs₅.extBut b o hbe (hk₄ b o hbe hbi hb)
theorem py_next_busy {e it a : Addr} {fp : List Addr} {n i : Nat} {P : Nat → Value → Prop} {St : Nat → Heap → Prop} {b : Bool} {f5 : Value} {oa : Obj} {Q : Option Value → Shared → Prop}
    (D : Draws prog w A.in1 it fp n P St) (he : IsE s.heap e it i (rawInt a) (.bool b) f5) (ha : s.heap.get? a = some oa) (hae : a ≠ e) (hai : a ≠ it) (hst : St i s.heap) (hlt : i < n) (hne : e ≠ it) (hef : e ∉ fp)
    (hQ : ∀ x h' tk, P i x → IsE h' e it ((i : Int) + 1) (rawInt a) (.bool true) f5 → St (i + 1) h' →
      h'.get? s.heap.objs.size = some { cls := .type "tuple", data := .seq #[.int i tk, x] } → h'.objs.size = s.heap.objs.size + 1 →
      (∀ b o, b ≠ e → b ≠ it → s.heap.get? b = some o → h'.get? b = some o) → Q (some (.ref s.heap.objs.size)) { s with heap := h', toks := tk + 1 }) :
    wpAny (model prog w) A (pyNext (.ref e)) Q E s := by
  have hT : s.TypeIs (.ref e) "enumerate" := ⟨_, he, rfl⟩
  unfold pyNext
  exact wpAny_bind (wpAny_attempt (wpAny_callSpecial?_slot (name := Str.ofString "__next__") hT F.slot_enumerate_next
    (wpAny_call_entry F.slot_enumerate_next hT F.entry_enumerate_next
      (enum_next_busy D he ha hae hai hst hlt hne hef fun x h' tk a b c d k q => wpAny_pure (hQ x h' tk a b c d k q)) (F.args_enumerate_next_1 _))))
theorem py_next_end {e it : Addr} {fp : List Addr} {n : Nat} {P : Nat → Value → Prop} {St : Nat → Heap → Prop} {i : Int} {f0 f1 f5 : Value} {Q : Option Value → Shared → Prop}
    (D : Draws prog w A.in1 it fp n P St) (he : IsE s.heap e it i f0 f1 f5) (hst : St n s.heap)
    (hQ : ∀ h', Heap.ExtBut it s.heap h' → Q none { s with heap := h' }) : wpAny (model prog w) A (pyNext (.ref e)) Q E s := by
  have hT : s.TypeIs (.ref e) "enumerate" := ⟨_, he, rfl⟩
  unfold pyNext
  refine wpAny_bind (wpAny_attempt (wpAny_callSpecial?_slot (name := Str.ofString "__next__") hT F.slot_enumerate_next
    (wpAny_call_entry F.slot_enumerate_next hT F.entry_enumerate_next ?_ (F.args_enumerate_next_1 _))))
  show wpAny _ _ (field (.ref e) 2 >>= _) _ _ _
  refine wpAny_bind (wpAny_field he rfl (x := .ref it) rfl ?_)
  refine wpAny_bind (D.done _ _ _ hst fun h' x he' hx' => ?_)
  obtain ⟨o, ho, hc⟩ := hx'
  refine wpAny_bind (wpAny_isInstance (T := "StopIteration") (b := true) ⟨o, ho, hc⟩ isSubtype_stop ?_)
  exact wpAny_pure (hQ _ he')
end
theorem enum_no_len : typeLookup (.type "enumerate") "__len__" = pure none := by rw [typeLookup_type, builtinLookup_eq_fast]; kernel_rfl
theorem enum_no_hint : typeLookup (.type "enumerate") "__length_hint__" = pure none := by rw [typeLookup_type, builtinLookup_eq_fast]; kernel_rfl
def Tups (P : Nat → Value → Prop) (h : Heap) (base : Nat) (acc : Array Value) (Ts : List Addr) : Prop :=
  acc = (Ts.map Value.ref).toArray ∧ Ts.Nodup ∧ (∀ T ∈ Ts, base ≤ T) ∧ ∀ (j : Nat) (T : Addr), Ts[j]? = some T → ∃ x t, P j x ∧ h.get? T = some { cls := .type "tuple", data := .seq #[.int (j : Nat) t, x] }
def EnumAt (h : Heap) (e it : Addr) (i : Nat) (Ts : List Addr) : Prop :=
  (Ts = [] ∧ ∃ old, IsEnum h e it ((i : Nat) : Int) old) ∨ ∃ (a : Addr) (b : Bool) (f5 : Value), Ts[0]? = some a ∧ IsE h e it ((i : Nat) : Int) (rawInt a) (.bool b) f5
theorem Tups.snoc {P : Nat → Value → Prop} {h h' : Heap} {base : Nat} {acc : Array Value} {Ts : List Addr} {T : Addr} {x : Value} {t : Tok} (q : Tups P h base acc Ts) (k : ∀ b o, base ≤ b → h.get? b = some o → h'.get? b = some o) (hb : base ≤ T) (hs : h.objs.size ≤ T) (hx : P Ts.length x)
    (hT : h'.get? T = some { cls := .type "tuple", data := .seq #[.int (Ts.length : Nat) t, x] }) : Tups P h' base (acc.push (.ref T)) (Ts ++ [T]) := by
  obtain ⟨rfl, nd, ge, at_⟩ := q
  refine ⟨by simp, ?_, fun U hU => ?_, fun j U hU => ?_⟩
  · rw [List.nodup_append]
    refine ⟨nd, by simp, fun a ha b hb' => ?_⟩
    rw [List.mem_singleton] at hb'
    subst hb'
    obtain ⟨j, hj⟩ := List.getElem?_of_mem ha
    obtain ⟨_, _, _, q⟩ := at_ j a hj
    exact Nat.ne_of_lt (Nat.lt_of_lt_of_le (Heap.lt_size q) hs)
  · rcases List.mem_append.mp hU with hU | hU
    · exact ge U hU
    · rw [List.mem_singleton] at hU; subst hU; exact hb
  · by_cases hj : j < Ts.length
    · rw [List.getElem?_append_left hj] at hU
      obtain ⟨y, t', p, q⟩ := at_ j U hU
      exact ⟨y, t', p, k U _ (ge U (List.mem_of_getElem? hU)) q⟩
    · rw [List.getElem?_append_right (by omega)] at hU
      have e0 : j - Ts.length = 0 := by
        have := (List.getElem?_eq_some_iff.mp hU).1
        simp at this
        omega
      have ej : j = Ts.length := by omega
      subst ej
      simp only [Nat.sub_self, List.getElem?_cons_zero, Option.some.injEq] at hU
      subst hU
      exact ⟨x, t, hx, hT⟩
section
variable {prog : Program} {w : PySem.World} {A : Around} {R : Result → Shared → Prop}
theorem loop_enum {e it S : Addr} {fp : List Addr} {n : Nat} {P : Nat → Value → Prop} {St : Nat → Heap → Prop} {res : Value} (hD : ∀ B : Around, B.handled = none → Draws prog w B it fp n P St) (hh : A.handled = none) (hne : e ≠ it) (hef : e ∉ fp)
    (hSf : S ∉ fp) (heS : e < S) (hiS : it < S) (hn : n ≤ sizeLine) :
    ∀ (k i : Nat) (s : Shared) (acc : Array Value) (c : Nat) (Ts : List Addr), n - i = k → i ≤ n → St i s.heap → EnumAt s.heap e it i Ts → s.heap.get? S = some { cls := .type "list", dict := none, data := .seq acc c, slots := #[] } → Ts.length = i → Tups P s.heap (S + 1) acc Ts →
    (∀ h' tk acc' c' Ts', (∀ b o, b ≠ S → b ≠ e → b ≠ it → s.heap.get? b = some o → h'.get? b = some o) → h'.get? S = some { cls := .type "list", dict := none, data := .seq acc' c', slots := #[] } → Ts'.length = n → Tups P h' (S + 1) acc' Ts' → R (.ok (.ret res)) { s with heap := h', toks := tk }) →
    codeAny (model prog w) A (.builtin "list.extend.loop" ⟨[.ref S, .ref e, res], []⟩) R s := by
  have neS : e ≠ S := Nat.ne_of_lt heS
  have niS : it ≠ S := Nat.ne_of_lt hiS
  have gt : ∀ T : Addr, S + 1 ≤ T → T ≠ S ∧ T ≠ e ∧ T ≠ it := fun T h => ⟨Nat.ne_of_gt h, Nat.ne_of_gt (Nat.lt_of_lt_of_le (Nat.lt_succ_of_lt heS) h), Nat.ne_of_gt (Nat.lt_of_lt_of_le (Nat.lt_succ_of_lt hiS) h)⟩
  intro k
  induction k with
  | zero =>
    intro i s acc c Ts hk hi hst hen hS hl hT hR
    have hin : i = n := by omega
    subst hin
    refine codeAny_builtin F.entry_extend_loop ?_
    rw [Around.under_plainId F.plain_extend_loop _]
    show wpAny _ A.in1 (pyNext (.ref e) >>= _) _ _ s
    have fin : ∀ h', Heap.ExtBut it s.heap h' → R (.ok (.ret res)) { s with heap := h' } := fun h' eb => by
      refine hR h' s.toks acc c Ts (fun b o _ _ hb q => eb b o hb q) (eb S _ (Ne.symm niS) hS) hl ⟨hT.1, hT.2.1, hT.2.2.1, fun j T hj => ?_⟩
      obtain ⟨x, t, p, q⟩ := hT.2.2.2 j T hj
      exact ⟨x, t, p, eb T _ (gt T (hT.2.2.1 T (List.mem_of_getElem? hj))).2.2 q⟩
    rcases hen with ⟨_, old, he⟩ | ⟨a, b, f5, _, he⟩
    · exact wpAny_bind (py_next_end (hD _ hh) he hst fun h' eb => wpAny_pure (fin h' eb))
    · exact wpAny_bind (py_next_end (hD _ hh) he hst fun h' eb => wpAny_pure (fin h' eb))
  | succ k ih =>
    intro i s acc c Ts hk hi hst hen hS hl hT hR
    have hlt : i < n := by omega
    have hSl : S < s.heap.objs.size := Heap.lt_size hS
    refine codeAny_builtin F.entry_extend_loop ?_
    rw [Around.under_plainId F.plain_extend_loop _]
    show wpAny _ A.in1 (pyNext (.ref e) >>= _) _ _ s
    have fin : ∀ x h' tk, P i x → St (i + 1) h' → (∀ b, b = s.heap.objs.size → h'.get? b = some { cls := .type "tuple", data := .seq #[.int i tk, x] }) → (∀ b o, b ≠ e → b ≠ it → s.heap.get? b = some o → h'.get? b = some o) → EnumAt h' e it (i + 1) (Ts ++ [s.heap.objs.size]) →
        wpAny (model prog w) A.in1 (updateSeq S (·.push (.ref s.heap.objs.size)) >>= fun _ => again (.builtin "list.extend.loop" ⟨[.ref S, .ref e, res], []⟩)) (fun fin s' => match fin with | .done f => R (.ok f) s' | .again c' => c'.quiet = true ∧ codeAny (model prog w) A c' R s') (fun e s' => R (.error e) s') { s with heap := h', toks := tk + 1 } := fun x h' tk hx hst' ht hk' hen' => by
      have hS' := hk' S _ (Ne.symm neS) (Ne.symm niS) hS
      have accl : acc.size = i := by rw [hT.1, ← hl]; simp
      refine wpAny_bind ?_
      have oth : ∀ b o, b ≠ S → h'.get? b = some o → (h'.update S (Obj.mapSeq (·.push (.ref s.heap.objs.size)))).get? b = some o := fun b o hb q => (Heap.get?_update_other _ _ (Ne.symm hb)).trans q
      refine wpAny_updateSeq hS' rfl (wpAny_pure ⟨plainId_quiet F.plain_extend_loop _, ih (i + 1) _ (acc.push (.ref s.heap.objs.size)) _ (Ts ++ [s.heap.objs.size]) (by omega) hlt ((hD A hh).frame _ _ _ hst' fun b hb o q => oth b o (fun z => hSf (z ▸ hb)) q) ?_ (Heap.get?_update_self _ hS' rfl) (by simp [hl]) ?_ fun h2 tk2 acc2 c2 Ts2 k2 hS2 l2 T2 => ?_⟩)
        (by rw [accl]; omega) (by show (acc.push _).size ≤ sizeLine + 1; rw [Array.size_push, accl]; omega)
      · rcases hen' with ⟨_, old, he⟩ | ⟨a, b, f5, ha, he⟩
        · exact .inl ⟨by assumption, old, oth e _ neS he⟩
        · exact .inr ⟨a, b, f5, ha, oth e _ neS he⟩
      · subst hl
        exact hT.snoc (t := tk) (x := x) (fun b o hb q => oth b o (gt b hb).1 (hk' b o (gt b hb).2.1 (gt b hb).2.2 q)) hSl (Nat.le_refl _) hx (oth _ _ (Nat.ne_of_gt hSl) (ht _ rfl))
      · exact hR h2 tk2 acc2 c2 Ts2 (fun b o b1 b2 b3 q => k2 b o b1 b2 b3 (oth b o b1 (hk' b o b2 b3 q))) hS2 l2 T2
    rcases hen with ⟨hnil, old, he⟩ | ⟨a, b, f5, ha, he⟩
    · refine wpAny_bind (wpAny_pyNext_enum_itemD (hD _ hh) he hst hlt hne hef fun x h' tk hx he' hst' ht hz hk' => ?_)
      refine fin x h' tk hx hst' (fun b hb => by subst hb; exact ht) hk' (.inr ⟨s.heap.objs.size, false, x, by rw [hnil]; rfl, ?_⟩)
      have e1 : ((i + 1 : Nat) : Int) = (i : Int) + 1 := by omega
      rw [e1]
      exact he'
    · obtain ⟨y, t, _, hat⟩ := hT.2.2.2 0 a ha
      have ga := hT.2.2.1 a (List.mem_of_getElem? ha)
      refine wpAny_bind (py_next_busy (hD _ hh) he hat (gt a ga).2.1 (gt a ga).2.2 hst hlt hne hef fun x h' tk hx he' hst' ht hz hk' => ?_)
      refine fin x h' tk hx hst' (fun b hb => by subst hb; exact ht) hk' (.inr ⟨a, true, f5, ?_, ?_⟩)
      · rw [List.getElem?_append_left (List.getElem?_eq_some_iff.mp ha).1]; exact ha
      · have e1 : ((i + 1 : Nat) : Int) = (i : Int) + 1 := by omega
        rw [e1]
        exact he'
end
section
variable {prog : Program} {w : PySem.World} {A : Around} {E : Value → Shared → Prop} {s : Shared}
theorem call_list_enum {e it : Addr} {fp : List Addr} {n : Nat} {P : Nat → Value → Prop} {St : Nat → Heap → Prop} {old : Value} {Q : Value → Shared → Prop} (hD : ∀ B : Around, B.handled = none → Draws prog w B it fp n P St) (hh : A.handled = none) (hne : e ≠ it) (hef : e ∉ fp)
    (he : IsEnum s.heap e it 0 old) (hst : St 0 s.heap) (hfp : ∀ b ∈ fp, b < s.heap.objs.size) (hi : it < s.heap.objs.size) (hn : n ≤ sizeLine)
    (hQ : ∀ h' tk acc c Ts, (∀ b o, b ≠ e → b ≠ it → s.heap.get? b = some o → h'.get? b = some o) → h'.get? s.heap.objs.size = some { cls := .type "list", dict := none, data := .seq acc c, slots := #[] } → Ts.length = n → Tups P h' (s.heap.objs.size + 1) acc Ts → Q (.ref s.heap.objs.size) { s with heap := h', toks := tk }) :
    wpAny (model prog w) A (call (.type "list") [.ref e]) Q E s := by
  have hel : e < s.heap.objs.size := Heap.lt_size he
  have hSe : s.heap.objs.size ≠ e := Nat.ne_of_gt hel
  have hSf : s.heap.objs.size ∉ fp := fun hm => Nat.lt_irrefl _ (hfp _ hm)
  refine callType_codes (Q₁ := fun obj s₁ => obj = .ref s.heap.objs.size ∧ s₁ = { s with heap := s.heap.push { cls := .type "list", data := .seq #[] } }) F.called_list (F.typeCall_list_1 _) F.entry_list_init
    (code_list_new _ ⟨rfl, rfl⟩) fun obj s₁ h₁ => ?_
  obtain ⟨rfl, rfl⟩ := h₁
  have hS : (s.heap.push { cls := .type "list", data := .seq #[] }).get? s.heap.objs.size = some { cls := .type "list", data := .seq #[] } := Heap.get?_push_size _ rfl
  refine ⟨⟨_, hS, rfl⟩, F.args_list_init_2 _ _, ?_⟩
  show wpAny _ A.in1.in1 (do let old ← Builtin.List.listItems (.ref s.heap.objs.size); Builtin.List.listUpdate (.ref s.heap.objs.size) (fun _ => #[]); letGo old.toList.reverse; Builtin.List.listExtendWith (.ref s.heap.objs.size) (.ref e) .none) _ _ _
  refine wpAny_bind ?_
  unfold Builtin.List.listItems
  refine wpAny_bind (wpAny_seqItems hS rfl (wpAny_pure ?_))
  show wpAny _ A.in1.in1 (updateSeq s.heap.objs.size (fun _ => #[]) >>= fun _ => letGo (#[] : Array Value).toList.reverse >>= fun _ => Builtin.List.listExtendWith (.ref s.heap.objs.size) (.ref e) .none) _ _ _
  refine wpAny_bind (wpAny_updateSeq hS rfl ?_)
  have hS2 := Heap.get?_update_self (Obj.mapSeq (fun _ => (#[] : Array Value))) hS rfl
  refine wpAny_bind (wpAny_letGo ?_)
  unfold Builtin.List.listExtendWith
  have up : ∀ (h : Heap) (f : Obj → Obj), (∀ b o, s.heap.get? b = some o → h.get? b = some o) → ∀ b o, s.heap.get? b = some o → (h.update s.heap.objs.size f).get? b = some o := fun h f q b o e =>
    (Heap.get?_update_other _ _ (Ne.symm (Nat.ne_of_lt (Heap.lt_size e)))).trans (q b o e)
  have k1 : ∀ b o, s.heap.get? b = some o → (s.heap.push { cls := .type "list", data := .seq #[] }).get? b = some o := fun b o e => Heap.get?_push_of_some _ e
  have k2 := up _ (Obj.mapSeq (fun _ => (#[] : Array Value))) k1
  refine wpAny_bind (wpAny_typeOf (T := "enumerate") ⟨_, k2 e _ he, rfl⟩ ?_)
  have h1 : Builtin.List.listSameRef (.ref s.heap.objs.size) (.ref e) = false := by simp [Builtin.List.listSameRef, hSe]
  have h2 : (Value.type "enumerate" == Value.type "list") = false := by decide
  have h3 : (Value.type "enumerate" == Value.type "tuple") = false := by decide
  simp only [h1, h2, h3, Bool.or_false, Bool.false_eq_true, if_false]
  refine wpAny_bind (wpAny_pyIter_enum (k2 e _ he) ?_)
  refine wpAny_bind (wpAny_holding ?_)
  unfold Builtin.List.listLengthHint
  refine wpAny_bind (wpAny_specialOf (T := "enumerate") ⟨_, k2 e _ he, rfl⟩ enum_no_len ?_)
  show wpAny _ A.in1.in1 (specialOf (Value.ref e) (Str.ofString "__length_hint__") >>= _) _ _ _
  refine wpAny_bind (wpAny_specialOf (T := "enumerate") ⟨_, k2 e _ he, rfl⟩ enum_no_hint ?_)
  refine wpAny_pure ?_
  show wpAny _ A.in1.in1 (rule "list.extend.makes-room" >>= fun _ => Builtin.List.listTouch (.ref s.heap.objs.size) >>= fun _ =>
    again (.builtin "list.extend.loop" ⟨[.ref s.heap.objs.size, .ref e, .none], []⟩)) _ _ _
  refine wpAny_bind (wpAny_rule ?_)
  refine wpAny_bind ?_
  show wpAny _ A.in1.in1 (updateSeq s.heap.objs.size (·.push .none) >>= fun _ => updateSeq s.heap.objs.size (·.pop)) _ _ _
  refine wpAny_bind (wpAny_updateSeq hS2 rfl ?_)
  have hS3 := Heap.get?_update_self (Obj.mapSeq (·.push Value.none)) hS2 rfl
  refine wpAny_updateSeq (hz := by seq_fits) hS3 rfl ?_
  have hS4 := Heap.get?_update_self (Obj.mapSeq (·.pop)) hS3 rfl
  have k4 := up _ (Obj.mapSeq (·.pop)) (up _ (Obj.mapSeq (·.push Value.none)) k2)
  refine wpAny_pure ⟨plainId_quiet F.plain_extend_loop _, ?_⟩
  refine loop_enum (A := A.in1) hD hh hne hef hSf hel hi hn n 0 _ #[] _ [] rfl (Nat.zero_le _) ((hD A hh).frame _ _ _ hst fun b _ o q => k4 b o q) (.inl ⟨rfl, old, k4 e _ he⟩) hS4 rfl ⟨rfl, List.nodup_nil, (fun _ h => nomatch h), fun j T h => by simp at h⟩ fun h' tk acc' c' Ts' kk e' l' T' => ?_
  exact ⟨rfl, hQ h' tk acc' c' Ts' (fun b o b1 b2 q => kk b o (Nat.ne_of_lt (Heap.lt_size q)) b1 b2 (k4 b o q)) e' l' T'⟩
end
end CL
namespace CL
open PySem PySem.Spec PyProof.Rows L2
def layT (H : Hp) : List Addr → List V → Nat → Hp
  | T :: Ts, x :: xs, j => layT (upd H T (.tup [.int (j : Nat), x])) Ts xs (j + 1)
  | _, _, _ => H
theorem hok_add {P : Program} {w : PySem.World} {H : Hp} {h : Heap} {a : Addr} {o : HO} (x : HOk P w H h) (hn : H a = none) (new : ObjOk P w (upd H a o) h a o) : HOk P w (upd H a o) h := fun b u e => by
  by_cases hb : b = a
  · subst hb; rw [upd_same] at e; cases e; exact new
  · rw [upd_ne hb] at e
    exact (x b u e).stay (fun c v _ q => q) (fun c q => by rw [upd_ne (ne_of_none q hn)]; exact q) fun c xs q => by rw [upd_ne (ne_of_none q hn)]; exact q
theorem lay_pairs {P : Program} {w : PySem.World} {fs ex : List Addr} {g h : Heap} : ∀ (Ts : List Addr) (xs : List V) (j : Nat) (H : Hp), Ts.Nodup → (∀ T ∈ Ts, g.objs.size ≤ T ∧ H T = none) → HOk P w H h →
    (∀ (i : Nat) (T : Addr) (x : V), Ts[i]? = some T → xs[i]? = some x → ∃ y t, RelV x y ∧ h.get? T = some { cls := .type "tuple", data := .seq #[.int ((j + i : Nat) : Int) t, y] }) →
    Un fs ex H (layT H Ts xs j) g g ∧ HOk P w (layT H Ts xs j) h ∧ ∀ b, b ∉ Ts → layT H Ts xs j b = H b
  | [], xs, j, H, _, _, ok, _ => ⟨.refl, ok, fun _ _ => rfl⟩
  | T :: Ts, [], j, H, _, _, ok, _ => ⟨.refl, ok, fun _ _ => rfl⟩
  | T :: Ts, x :: xs, j, H, nd, fr, ok, at_ => by
    obtain ⟨y, t, ry, gT⟩ := at_ 0 T x rfl rfl
    obtain ⟨hg, hn⟩ := fr T List.mem_cons_self
    rw [List.nodup_cons] at nd
    have new : ObjOk P w (upd H T (.tup [.int (j : Nat), x])) h T (.tup [.int (j : Nat), x]) :=
      ⟨by show 2 ≤ sizeLine; decide, [.int (j : Nat) t, y], .cons ⟨_, rfl⟩ (.cons ry .nil), ⟨_, gT, rfl, _, rfl⟩⟩
    obtain ⟨u2, ok2, k2⟩ := lay_pairs (fs := fs) (ex := ex) (g := g) Ts xs (j + 1) (upd H T (.tup [.int (j : Nat), x])) nd.2 (fun U hU => by
      obtain ⟨a1, a2⟩ := fr U (List.mem_cons_of_mem _ hU)
      exact ⟨a1, by rw [upd_ne (fun z : U = T => nd.1 (by rw [← z]; exact hU))]; exact a2⟩) (hok_add ok hn new) (fun i U z hU hz => by
      obtain ⟨y', t', r', g'⟩ := at_ (i + 1) U z hU hz
      exact ⟨y', t', r', by rw [show j + 1 + i = j + (i + 1) by omega]; exact g'⟩)
    exact ⟨(Un.laid (fun _ _ q => q) hg hn).trans u2, ok2, fun b hb => by
      show layT _ Ts xs (j + 1) b = _
      rw [k2 b fun z => hb (List.mem_cons_of_mem _ z), upd_ne fun z : b = T => hb (by rw [z]; exact List.mem_cons_self)]⟩
def tLE (K : PySem.W.Frag) (ta : TA) : TE := fun σ H Q => ta σ H fun vs H1 => ∃ a xs, vs = [.ref a] ∧ (SqL K H1 a xs ∨ SqT K H1 a xs) ∧
  ∀ (Ts : List Addr) (S : Addr), Ts.length = xs.length → Ts.Nodup → (∀ T ∈ Ts, H1 T = none ∧ T ≠ S) → H1 S = none → Q (.ref S) (upd (layT H1 Ts xs 0) S (.lst (Ts.map V.ref)))
theorem vals_refs0 : ∀ (Ts : List Addr), Vals (Ts.map V.ref) (Ts.map Value.ref)
  | [] => .nil
  | _ :: Ts => .cons rfl (vals_refs0 Ts)
section
variable {X : Cx}
def EnPost (X : Cx) (pins : List (Addr × Obj)) (σ : L2.St) (R : List V → Hp → Prop) (v : Value) (s2 : Shared) : Prop :=
  ∃ (s1 : Shared) (h1 : Heap) (H1 : Hp) (xs : List V) (its : List Value) (St : Nat → Heap → Prop) (fp : List Addr), v = .ref (s1.heap.objs.size + 1) ∧ s2 = { s1 with heap := h1 } ∧ Inv X pins σ H1 s1 ∧ Vals xs its ∧ xs.length ≤ sizeLine ∧
    IsEnum h1 (s1.heap.objs.size + 1) s1.heap.objs.size 0 .none ∧ (∀ B : Around, B.handled = none → Draws X.prog X.w B s1.heap.objs.size fp its.length (fun i v => its[i]? = some v) St) ∧ St 0 h1 ∧ (∀ b ∈ fp, b < s1.heap.objs.size + 1) ∧ h1.objs.size = s1.heap.objs.size + 2 ∧
    (∀ b u, s1.heap.get? b = some u → h1.get? b = some u) ∧ R xs H1
theorem pe_lenum {e : Expr} {ta : TA} {p1 p2 pos1 pos2 : Pos} (hc : X.calm = true) (hg : Gl X "list") (hm : X.mg "list" = none) (hg2 : Gl X "enumerate") (hm2 : X.mg "enumerate" = none) (ha : PA X [e] ta) (hs : starEach [e] X.env = [(false, eval e X.env)]) :
    PE X (.Call (.Name "list" p1) [.Call (.Name "enumerate" p2) [e] [] pos2] [] pos1) (tLE X.K ta) := by
  refine ⟨fun pins s σ H Q I h => ?_⟩
  have inner : wpAny (model X.prog X.w) X.A (eval (.Call (.Name "enumerate" p2) [e] [] pos2) X.env) (EnPost X pins σ fun xs H1 => ∀ (Ts : List Addr) (S : Addr), Ts.length = xs.length → Ts.Nodup → (∀ T ∈ Ts, H1 T = none ∧ T ≠ S) → H1 S = none → Q (.ref S) (upd (layT H1 Ts xs 0) S (.lst (Ts.map V.ref)))) X.xe s := by
    refine Call_ (ld_blt I hg2 hm2 boot_enumerate (PyProof.Rows.callWith_type1 (thn (ha.run pos2 pins s σ H _ I h) fun us s1 ⟨vs, H1, I1, r1, q1⟩ => ?_) hs rfl))
    obtain ⟨a, xs, rfl, hq, q⟩ := q1
    obtain ⟨u, rfl, ru⟩ := vals1 r1
    obtain rfl : u = Value.ref a := ru
    rcases hq with hq | hq
    · obtain ⟨its, rv, p1', hz⟩ := I1.list hq
      obtain ⟨o, ho, _⟩ := id p1'.isList
      have hal : a < s1.heap.objs.size := Heap.lt_size ho
      refine call_enumerate_list p1'.isList fun h1 he hit hsz hk => ⟨s1, h1, H1, xs, its, fun i h => h.IsListIter s1.heap.objs.size a i ∧ h.IsList a its.toArray, [s1.heap.objs.size, a], rfl, rfl, I1, rv, hz, he, fun B hB => ?_, ⟨hit, p1'.isList.at fun o q => hk _ _ q⟩, fun b hb => ?_, hsz, hk, q⟩
      · have := Draws.list (prog := X.prog) (w := X.w) (A := B) hB s1.heap.objs.size a (Nat.ne_of_lt hal) its.toArray
        simpa using this
      · simp only [List.mem_cons, List.not_mem_nil, or_false] at hb
        rcases hb with rfl | rfl
        · exact Nat.lt_succ_self _
        · exact Nat.lt_succ_of_lt hal
    · obtain ⟨its, rv, p1', hz⟩ := I1.tuple hq
      obtain ⟨o, ho, _⟩ := id p1'
      have hal : a < s1.heap.objs.size := Heap.lt_size ho
      refine enum_tup p1' fun h1 he hit hsz hk => ⟨s1, h1, H1, xs, its, fun i h => h.IsTupleIter s1.heap.objs.size a i ∧ h.IsTuple a its.toArray, [s1.heap.objs.size, a], rfl, rfl, I1, rv, hz, he, fun B hB => ?_, ⟨hit, ?_⟩, fun b hb => ?_, hsz, hk, q⟩
      · have := Draws.tuple (prog := X.prog) (w := X.w) (A := B) hB s1.heap.objs.size a (Nat.ne_of_lt hal) its.toArray
        simpa using this
      · obtain ⟨o, ho, r⟩ := p1'
        exact ⟨o, hk _ _ ho, r⟩
      · simp only [List.mem_cons, List.not_mem_nil, or_false] at hb
        rcases hb with rfl | rfl
        · exact Nat.lt_succ_self _
        · exact Nat.lt_succ_of_lt hal
  refine Call_ (ld_blt I hg hm boot_list (PyProof.Rows.callWith_type1 (args_cons (thn inner fun v s2 ⟨s1, h1, H1, xs, its, St, fp, ev, es, I1, rv, hz, he, hD, hst, hfp, hsz, hk, q⟩ => args_nil ?_) rfl) rfl))
  subst ev es
  have hl := rv.length
  refine call_list_enum (s := { s1 with heap := h1 }) hD (I1.ok.hd hc) (Nat.succ_ne_self _) (fun hm => Nat.lt_irrefl _ (hfp _ hm)) he hst (fun b hb => by have := hfp b hb; show b < h1.objs.size; rw [hsz]; exact Nat.lt_succ_of_lt this) (by show _ < h1.objs.size; rw [hsz]; exact Nat.lt_succ_of_lt (Nat.lt_succ_self _)) (by omega) fun h' tk acc c Ts kk e' l' T' => ?_
  have kk' : ∀ b o, s1.heap.get? b = some o → h'.get? b = some o := fun b o z => by
    have := Heap.lt_size z
    exact kk b o (Nat.ne_of_lt (Nat.lt_succ_of_lt this)) (Nat.ne_of_lt this) (hk b o z)
  obtain ⟨ta1, nd, ge, at_⟩ := T'
  have ge' : ∀ T ∈ Ts, s1.heap.objs.size ≤ T ∧ T ≠ h1.objs.size := fun T hT => by
    have h2 : h1.objs.size + 1 ≤ T := ge T hT
    exact ⟨Nat.le_trans (by rw [hsz]; omega) h2, Nat.ne_of_gt h2⟩
  have fr : ∀ T ∈ Ts, H1 T = none := fun T hT => I1.hok.fresh (ge' T hT).1
  have frS : H1 h1.objs.size = none := I1.hok.fresh (by rw [hsz]; exact Nat.le_add_right _ _)
  obtain ⟨u1, ok1, k1⟩ := lay_pairs (P := X.prog) (w := X.w) (fs := X.fs) (ex := []) (g := s1.heap) (h := h') Ts xs 0 H1 nd (fun T hT => ⟨(ge' T hT).1, fr T hT⟩) (I1.hok.kept kk') (fun i T x hT hx => by
    obtain ⟨y, t, p, g⟩ := at_ i T hT
    obtain ⟨z, hz', rz⟩ := rv.get hx
    rw [hz'] at p
    cases p
    exact ⟨_, t, rz, by rw [Nat.zero_add]; exact g⟩)
  have nS : layT H1 Ts xs 0 h1.objs.size = none := by
    rw [k1 _ fun z => (ge' _ z).2 rfl]; exact frS
  have new : ObjOk X.prog X.w (upd (layT H1 Ts xs 0) h1.objs.size (.lst (Ts.map V.ref))) h' h1.objs.size (.lst (Ts.map V.ref)) := by
    refine ⟨by rw [List.length_map]; omega, Ts.map Value.ref, c, vals_refs0 Ts, ?_⟩
    rw [← ta1]
    exact e'
  have I2 : Inv X pins σ (upd (layT H1 Ts xs 0) h1.objs.size (.lst (Ts.map V.ref))) { s1 with heap := h', toks := tk } :=
    I1.un ((u1.trans (Un.laid (fun _ _ q => q) (by rw [hsz]; exact Nat.le_add_right _ _) nS)).trans (Un.kept kk')) (hok_add ok1 nS new)
  exact ⟨.ref h1.objs.size, _, I2, rfl, q Ts h1.objs.size (by omega) nd (fun T hT => ⟨fr T hT, (ge' T hT).2⟩) frS⟩
end
section
variable {X : Cx} {Y : Sx} {Bs : List Nat} {W : WX} {b : Nat} {M : MC} {c : Ctx} {x : Expr} {p q : Pos} {ma : Env → Store → R D}
theorem rep_pairs {μ : List Addr} {S : Store} : ∀ (Ts : List Addr) (xs : List V) (ds : List D) (j : Nat) (H : Hp), Ts.length = xs.length → Ts.Nodup → (∀ T ∈ Ts, H T = none) → World Y Bs μ H S → RepL Y μ H xs ds →
    Ext μ H μ (layT H Ts xs j) ∧ World Y Bs μ (layT H Ts xs j) S ∧ RepL Y μ (layT H Ts xs j) (Ts.map V.ref) (numbered j ds)
  | [], [], ds, j, H, _, _, _, w, r => by cases r; exact ⟨.refl _ _, w, .nil⟩
  | [], _ :: _, _, _, _, h, _, _, _, _ => by cases h
  | _ :: _, [], _, _, _, h, _, _, _, _ => by cases h
  | T :: Ts, x :: xs, ds, j, H, h, nd, fr, w, r => by
    cases r with
    | cons rx rr =>
      rw [List.nodup_cons] at nd
      have hn := fr T List.mem_cons_self
      have e1 : Ext μ H μ (upd H T (.tup [.int (j : Nat), x])) := .laid hn
      obtain ⟨e2, w2, r2⟩ := rep_pairs Ts xs _ (j + 1) (upd H T (.tup [.int (j : Nat), x])) (by simpa using h) nd.2 (fun U hU => by rw [upd_ne (fun z : U = T => nd.1 (by rw [← z]; exact hU))]; exact fr U (List.mem_cons_of_mem _ hU)) (w.laid hn) (rr.ext e1)
      refine ⟨e1.trans e2, w2, .cons (Rep.ext e2 (.tup upd_same (w.fresh hn) (.cons (.int _) (.cons (rx.ext e1) .nil)))) r2⟩
theorem s_lenum {n n2 : Str} {q2 p2 : Pos} (G : Good Y c b Bs W M X) (hcm : M.calm = true) (h2 : gnB M.sc "list" n = true) (h3 : gnB M.sc "enumerate" n2 = true) (hs : notStar x = true) (ha : PE X x (tI Y Bs W ma)) :
    PE X (.Call (.Name n q) [.Call (.Name n2 q2) [x] [] p2] [] p) (tI Y Bs W fun ρ S => (ma ρ S).bind fun d S1 => R.of S1 (lenumD S1 d)) := by
  obtain ⟨rfl, a4, a5⟩ := gnB_of h2
  obtain ⟨rfl, b4, b5⟩ := gnB_of h3
  refine (pe_lenum (G.calm hcm) (G.gl a4) (G.bi "list" (by decide +kernel)) (G.gl b4) (G.bi "enumerate" (by decide +kernel)) (pa_cons ha pa_nil (starEach_of hs)) (starEach_of hs)).imp ?_
  rintro σ H Q ⟨μ, ρ, S, w, en, k⟩
  refine tX.bind w en k fun d S1 μ1 H1 u w1 en1 x1 r1 k1 => ?_
  obtain ⟨wk, hw, k2⟩ := k1.of
  have fin : ∀ (a : Addr) (xs : List V) (l : List D), wk = .lst (numbered 0 l) → RepL Y μ1 H1 xs l → ∀ (Ts : List Addr) (A : Addr), Ts.length = xs.length → Ts.Nodup → (∀ T ∈ Ts, H1 T = none ∧ T ≠ A) → H1 A = none → Q (.ref A) (upd (layT H1 Ts xs 0) A (.lst (Ts.map V.ref))) := fun a xs l hk rl Ts A hl nd fr hA => by
    subst hk
    obtain ⟨e1, w2, r2⟩ := rep_pairs Ts xs l 0 H1 hl nd (fun T hT => (fr T hT).1) w1 rl
    have nA : layT H1 Ts xs 0 A = none := by
      clear e1 w2 r2 k2 hw k1 rl hl
      have : ∀ (Ts : List Addr) (xs : List V) (j : Nat) (H : Hp), (∀ T ∈ Ts, T ≠ A) → H A = none → layT H Ts xs j A = none := by
        intro Ts
        induction Ts with
        | nil => intro xs j H _ h; cases xs <;> exact h
        | cons T Ts ih =>
          intro xs j H hT h
          cases xs with
          | nil => exact h
          | cons x xs => exact ih xs (j + 1) _ (fun U hU => hT U (List.mem_cons_of_mem _ hU)) (by rw [upd_ne (Ne.symm (hT T List.mem_cons_self))]; exact h)
      exact this Ts xs 0 H1 (fun T hT => (fr T hT).2) hA
    exact k2 μ1 _ _ (e1.trans (.laid nA)) (w2.laid nA) (.lst upd_same (w2.fresh nA) (r2.ext (.laid nA)))
  unfold lenumD enumD at hw
  cases ht2 : tupD d with
  | some l =>
    rw [ht2] at hw
    simp only [Option.map_some, Option.some.injEq] at hw
    obtain ⟨a, xs, rfl, hx, n, rr⟩ := tup_at r1 ht2
    exact ⟨a, xs, rfl, .inr (sqt_of hx), fin a xs l hw.symm rr⟩
  | none =>
    rw [ht2] at hw
    simp only [Option.map_eq_some_iff] at hw
    obtain ⟨z, ⟨⟨l, hd⟩, hl, rfl⟩, rfl⟩ := hw
    obtain ⟨a, rfl, g⟩ := list_at (W := W) w1 r1 hl
    obtain ⟨xs, h1, rl⟩ := g Y μ1 H1 (.refl _ _) (.refl _ _) Bs S1 w1 (still_self hl)
    exact ⟨a, xs, rfl, .inl (.of h1), fin a xs l rfl rl⟩
end
end CL
namespace PySem
open PyProof.Rows
namespace ClSets
theorem sub_tup_set : isSubtype (.type "tuple") (.type "set") = pure false := by
  rw [isSubtype_type]
  kernel_rfl
theorem sub_tup_frz : isSubtype (.type "tuple") (.type "frozenset") = pure false := by
  rw [isSubtype_type]
  kernel_rfl
abbrev nil_ (led : Bool) : Obj := { cls := .type "set", dict := none, data := .set #[] 0 (.fresh 0 0 led) }
section
variable {prog : Program} {w : World} {A : Around} {E : Value → Shared → Prop} {s : Shared}
theorem upd_loop {R : Result → Shared → Prop} {I N : Addr} {fp wr : List Addr} {G : Array GenState → Array GenState → Prop} {n : Nat} {P : Nat → Value → Prop} {St : Nat → Shared → Prop} (W : WalksS prog w A.in1 I fp wr G n P St) (hN : N ∉ fp) (J : Nat → Heap → Prop)
    (jk : ∀ i (h h1 : Heap), J i h → (∀ b o, b ∉ wr → h.get? b = some o → h1.get? b = some o) → J i h1)
    (add : ∀ (i : Nat) (v : Value) (z : Shared) (E1 : Value → Shared → Prop) (Q1 : Bool → Shared → Prop), P i v → i < n → J i z.heap → (∀ bb h1 tk, z.toks ≤ tk → Heap.SameBut N z.heap h1 → J (i + 1) h1 → Q1 bb { z with heap := h1, toks := tk }) → wpAny (model prog w) A.in1 (setAdd N v) Q1 E1 z) :
    ∀ (m i : Nat) (z : Shared), n - i = m → i ≤ n → St i z → J i z.heap → (∀ z1, Moved (N :: wr) G z z1 → J n z1.heap → R (.ok (.ret .none)) z1) → codeAny (model prog w) A (.builtin "set.update.loop" ⟨[.ref N, .ref I], []⟩) R z := by
  have nw : N ∉ wr := fun q => hN (W.sub _ q)
  have sub : ∀ b ∈ wr, b ∈ N :: wr := fun b hb => List.mem_cons_of_mem _ hb
  intro m
  induction m with
  | zero =>
    intro i z hm hi hst hJ hR
    obtain rfl : i = n := by omega
    refine codeAny_builtin F.entry_set_update_loop ?_
    rw [Around.under_plainId F.plain_set_update_loop _]
    show wpAny _ A.in1 (pyNext (.ref I) >>= _) _ _ z
    refine wpAny_bind (W.done z _ _ hst fun z1 mv => ?_)
    show wpAny _ A.in1 (ret Value.none) _ _ z1
    exact wpAny_pure (hR z1 (mv.mono sub) (jk _ _ _ hJ mv.heap))
  | succ m ih =>
    intro i z hm hi hst hJ hR
    have lt : i < n := by omega
    refine codeAny_builtin F.entry_set_update_loop ?_
    rw [Around.under_plainId F.plain_set_update_loop _]
    show wpAny _ A.in1 (pyNext (.ref I) >>= _) _ _ z
    refine wpAny_bind (W.item i z _ _ lt hst fun v z1 hP hst1 mv => ?_)
    show wpAny _ A.in1 (holding [v] (setAdd N v) >>= _) _ _ z1
    refine wpAny_bind (wpAny_holding (add i v z1 _ _ hP lt (jk _ _ _ hJ mv.heap) fun bb h1 tk htk sb hJ1 => ?_))
    have kp : ∀ b o, b ∉ N :: wr → z1.heap.get? b = some o → h1.get? b = some o := fun b o hb e => by
      rw [sb.2 b (fun q => hb (by rw [q]; exact List.mem_cons_self))]
      exact e
    have fr : ∀ b ∈ fp, ∀ o, z1.heap.get? b = some o → h1.get? b = some o := fun b hb o e => by
      rw [sb.2 b (fun q => hN (by rw [← q]; exact hb))]
      exact e
    exact wpAny_pure ⟨plainId_quiet F.plain_set_update_loop _, ih (i + 1) _ (by omega) lt (W.frame _ z1 _ _ hst1 htk fr) hJ1 fun z2 mv2 hJ2 => hR z2 (Moved.trans W.gtrans ((mv.mono sub).then_heap htk kp) mv2) hJ2⟩
theorem set_from {T : String} {l : Addr} {ol : Obj} {its : Array Value} {nl : Nat} {Q : Value → Shared → Prop} (hh : A.handled = none) (hT : T = "list" ∨ T = "tuple") (hol : s.heap.get? l = some ol) (hcl : ol.cls = .type T) (hdl : ol.data = .seq its nl)
    (J : Nat → Heap → Prop) (j0 : ∀ led (h1 : Heap), led = (!w.params.followText "set-order") → (∀ b o, s.heap.get? b = some o → h1.get? b = some o) → h1.get? s.heap.objs.size = some (nil_ led) → J 0 h1)
    (jk : ∀ i (h h1 : Heap), J i h → (∀ b o, b ≠ s.heap.objs.size + 1 → h.get? b = some o → h1.get? b = some o) → J i h1)
    (add : ∀ (i : Nat) (v : Value) (z : Shared) (E1 : Value → Shared → Prop) (Q1 : Bool → Shared → Prop), its[i]? = some v → J i z.heap → (∀ bb h1 tk, z.toks ≤ tk → Heap.SameBut s.heap.objs.size z.heap h1 → J (i + 1) h1 → Q1 bb { z with heap := h1, toks := tk }) → wpAny (model prog w) A.in1.in1.in1 (setAdd s.heap.objs.size v) Q1 E1 z)
    (h : ∀ (h1 : Heap) (tk : Nat), J its.size h1 → (∀ b o, b < s.heap.objs.size → s.heap.get? b = some o → h1.get? b = some o) → Q (.ref s.heap.objs.size) { s with heap := h1, toks := tk }) :
    wpAny (model prog w) A (call (.type "set") [.ref l]) Q E s := by
  obtain ⟨cc, tl, hmro⟩ := F.called_set.mro
  have hmade := F.called_set.made
  have hsub := F.called_set.sub
  refine wpAny_call (codeAny_of_tree ?_)
  show wpAny _ _ (callAny (.type "set") _) _ _ _
  refine wpAny_pure ⟨Code.quiet_builtin _ (by decide +kernel), codeAny_builtin PySem.F.entry_type_call ?_⟩
  rw [Around.under_plain (weight_type_call_type "set" [.ref l] []) rfl]
  have g1 := F.called_set.notType
  have g2 := F.called_set.canCreate
  have g3 := F.typeCall_set_1 (.ref l)
  repeat (any_goals (first | assumption | wp_step))
  refine codeAny_mono (L2.code_set_led1 (.ref l) (E := E) (Q₁ := fun x z => ∃ led : Bool, led = (!w.params.followText "set-order") ∧ x = .ref s.heap.objs.size ∧ z = { s with heap := s.heap.push (nil_ led) }) ⟨_, rfl, rfl, rfl⟩) fun r z hr => ?_
  cases r with
  | error er => exact hr
  | ok fl =>
    cases fl with
    | ret x =>
      obtain ⟨led, hled, rfl, rfl⟩ := hr
      have hS : (s.heap.push (nil_ led)).get? s.heap.objs.size = some (nil_ led) := Heap.get?_push_size _ rfl
      have hTy : Shared.TypeIs { s with heap := s.heap.push (nil_ led) } (.ref s.heap.objs.size) "set" := ⟨_, hS, rfl⟩
      have hli := F.called_set.init.lookup
      have hbi := F.called_set.init.bind (.ref s.heap.objs.size)
      repeat (any_goals (first | assumption | wp_step))
      refine codeAny_mono (codeAny_call_builtin (R := wants (fun r z2 => r = .none ∧ ∃ h1 tk, z2 = { s with heap := h1, toks := tk } ∧ J its.size h1 ∧
          (∀ b o, b < s.heap.objs.size → s.heap.get? b = some o → h1.get? b = some o)) E) F.called_set.init.plain F.entry_set_init (check_set_init_1 hTy ?_)) fun r2 z2 hr2 => ?_
      · obtain ⟨lcls, ldict, ldata, lslots⟩ := ol
        simp only at hcl hdl
        subst hcl
        subst hdl
        have hol2 : (s.heap.push (nil_ led)).get? l = some { cls := .type T, dict := ldict, data := .seq its nl, slots := lslots } := Heap.get?_push_of_some _ hol
        have hlt : l < s.heap.objs.size := Heap.lt_size hol
        have hh3 : A.in1.in1.in1.handled = none := by simp [hh]
        have psz : (s.heap.push (nil_ led)).objs.size = s.heap.objs.size + 1 := Heap.size_push ..
        have hneI : l ≠ (s.heap.push (nil_ led)).objs.size := by
          rw [psz]
          exact Nat.ne_of_lt (Nat.lt_succ_of_lt hlt)
        have hSf : s.heap.objs.size ∉ [(s.heap.push (nil_ led)).objs.size, l] := by
          rw [psz]
          simp only [List.mem_cons, List.not_mem_nil, or_false, not_or]
          exact ⟨Nat.ne_of_lt (Nat.lt_succ_self _), Nat.ne_of_gt hlt⟩
        have fin : ∀ (io : Obj) (St : Nat → Heap → Prop) (z : Shared) (_ : Walks prog w A.in1.in1.in1 (s.heap.push (nil_ led)).objs.size [(s.heap.push (nil_ led)).objs.size, l] [(s.heap.push (nil_ led)).objs.size] its.size (fun i v => its[i]? = some v) St) (_ : z = { s with heap := (s.heap.push (nil_ led)).push io }) (_ : St 0 z.heap) (R : Result → Shared → Prop),
            (∀ h1 tk, J its.size h1 → (∀ b o, b < s.heap.objs.size → s.heap.get? b = some o → h1.get? b = some o) → R (.ok (.ret .none)) { s with heap := h1, toks := tk }) →
            codeAny (model prog w) A.in1.in1 (.builtin "set.update.loop" ⟨[.ref s.heap.objs.size, .ref (s.heap.push (nil_ led)).objs.size], []⟩) R z := by
          intro io St z W hz h0 R hR
          subst hz
          refine upd_loop W.toS hSf J (fun i h h1 hj k => jk i h h1 hj fun b o hb e => k b o (by rw [psz]; simpa using hb) e) (fun i v z E1 Q1 hP _ hj hq => add i v z E1 Q1 hP hj hq) (its.size - 0) 0 _ rfl (Nat.zero_le _) h0 ?_ ?_
          · refine j0 led _ hled (fun b o e => Heap.get?_push_of_some _ (Heap.get?_push_of_some _ e)) (Heap.get?_push_of_some _ hS)
          · intro z1 mv hj
            obtain ⟨h1, gg, dd, tt, oo⟩ := z1
            obtain rfl : gg = s.gens := mv.gens
            obtain rfl : dd = s.drawn := mv.drawn
            obtain rfl : oo = s.os := mv.os
            refine hR h1 tt hj fun b o hb e => ?_
            refine mv.heap b o ?_ (Heap.get?_push_of_some _ (Heap.get?_push_of_some _ e))
            rw [psz]
            simp only [List.mem_cons, List.not_mem_nil, or_false, not_or]
            exact ⟨Nat.ne_of_lt hb, Nat.ne_of_lt (Nat.lt_succ_of_lt hb)⟩
        have done : ∀ h1 tk, J its.size h1 → (∀ b o, b < s.heap.objs.size → s.heap.get? b = some o → h1.get? b = some o) → wants (fun r z2 => r = Value.none ∧ ∃ h1 tk, z2 = { s with heap := h1, toks := tk } ∧ J its.size h1 ∧
          (∀ b o, b < s.heap.objs.size → s.heap.get? b = some o → h1.get? b = some o)) E (.ok (.ret .none)) { s with heap := h1, toks := tk } := fun h1 tk hj k => ⟨rfl, h1, tk, rfl, hj, k⟩
        rcases hT with rfl | rfl
        · have t1 := F.sub_list_set
          have t2 := F.sub_list_frozenset
          have t3 : (Value.type "list" == Value.type "dict") = false := by decide
          have hl1 : (s.heap.push (nil_ led)).IsList l its := ⟨_, hol2, rfl, nl, rfl⟩
          unfold Builtin.«set.__init__» noKeywords Builtin.Frozenset.updateFrom
          generalize hPI : pyIter = PI
          wp_walk
          subst hPI
          refine wpAny_pyIter_list hl1 (wpAny_bind (wpAny_runValue (fin _ _ _ (Walks.list hh3 _ l hneI its) rfl ⟨⟨_, Heap.get?_push_size _ rfl, rfl, rfl⟩, hl1.push _⟩ _ fun h1 tk hj k => ?_)))
          show wpAny _ _ _ _ _ _
          exact wpAny_pure (wpAny_pure (done h1 tk hj k))
        · have t1 := sub_tup_set
          have t2 := sub_tup_frz
          have t3 : (Value.type "tuple" == Value.type "dict") = false := by decide
          have hl1 : IsTup (s.heap.push (nil_ led)) l its := ⟨_, hol2, rfl, nl, rfl⟩
          unfold Builtin.«set.__init__» noKeywords Builtin.Frozenset.updateFrom
          generalize hPI : pyIter = PI
          wp_walk
          subst hPI
          refine wpAny_pyIter_tuple hl1 (wpAny_bind (wpAny_runValue (fin _ _ _ (Walks.tuple hh3 _ l hneI its) rfl ⟨⟨_, Heap.get?_push_size _ rfl, rfl, rfl⟩, ⟨_, Heap.get?_push_of_some _ hol2, rfl, nl, rfl⟩⟩ _ fun h1 tk hj k => ?_)))
          show wpAny _ _ _ _ _ _
          exact wpAny_pure (wpAny_pure (done h1 tk hj k))
      · cases r2 with
        | error er => exact hr2
        | ok fl2 =>
          cases fl2 with
          | ret r =>
            obtain ⟨rfl, h1, tk, rfl, hj, k⟩ := hr2
            repeat (any_goals (first | assumption | wp_step))
            exact h _ _ hj k
          | _ => exact hr2.elim
    | _ => exact hr.elim
end
end ClSets
end PySem
namespace CL
open PySem PySem.Spec PyProof.Rows L2
def uniqS (l : List Str) : List Str := l.foldl (fun acc x => if acc.contains x then acc else acc ++ [x]) []
theorem uniqS_snoc (l : List Str) (x : Str) : uniqS (l ++ [x]) = if (uniqS l).contains x then uniqS l else uniqS l ++ [x] := by
  unfold uniqS
  rw [List.foldl_append]
  rfl
theorem uniqS_len (l : List Str) : (uniqS l).length ≤ l.length := by
  have key : ∀ (l acc : List Str), (l.foldl (fun acc x => if acc.contains x then acc else acc ++ [x]) acc).length ≤ acc.length + l.length := by
    intro l
    induction l with
    | nil => intro acc; simp
    | cons x l ih =>
      intro acc
      rw [List.foldl_cons]
      have := ih (if acc.contains x then acc else acc ++ [x])
      split at this <;> rename_i h
      · rw [if_pos h]; simp only [List.length_cons]; omega
      · rw [if_neg h]; simp only [List.length_append, List.length_cons, List.length_nil] at this ⊢; omega
  have := key l []
  simpa [uniqS] using this
theorem eqv_tD (a b : Str) : D.eqv (tD a) (tD b) = (a == b) := by
  show (a.cps.toList == b.cps.toList) = (a == b)
  rw [Bool.eq_iff_iff]
  cases a
  cases b
  simp
theorem firsts_uniq : ∀ (l acc : List Str), acc.map tD ++ firsts (acc.map tD) (l.map tD) = (l.foldl (fun acc x => if acc.contains x then acc else acc ++ [x]) acc).map tD
  | [], acc => by simp [firsts]
  | x :: l, acc => by
    rw [List.map_cons, List.foldl_cons]
    unfold firsts
    have e : ((acc.map tD).any fun z => D.eqv z (tD x)) = acc.contains x := by
      rw [List.any_map, List.contains_eq_any_beq]
      congr 1
      funext z
      show D.eqv (tD z) (tD x) = (x == z)
      rw [eqv_tD, Bool.eq_iff_iff]
      simp only [beq_iff_eq]
      exact eq_comm
    rw [e]
    by_cases h : acc.contains x = true
    · rw [if_pos h, if_pos h]; exact firsts_uniq l acc
    · rw [if_neg h, if_neg h]
      have := firsts_uniq l (acc ++ [x])
      rw [List.map_append] at this
      simpa using this
theorem set_texts {prog : Program} {w : PySem.World} {A : Around} {E : Value → Shared → Prop} {s : Shared} {T : String} {l : Addr} {ol : Obj} {its : List Value} {xs : List Str} {nl : Nat} {Q : Value → Shared → Prop} (hh : A.handled = none) (hT : T = "list" ∨ T = "tuple") (hol : s.heap.get? l = some ol) (hcl : ol.cls = .type T) (hdl : ol.data = .seq its.toArray nl)
    (hv : Vals (xs.map V.str) its) (hb : xs.length + 1 < scanBound)
    (h : ∀ (h1 : Heap) (tk : Nat), h1.SetOf (strKind prog w) s.heap.objs.size (fun k => (uniqS xs).contains k) (uniqS xs).length → (∀ b o, b < s.heap.objs.size → s.heap.get? b = some o → h1.get? b = some o) → Q (.ref s.heap.objs.size) { s with heap := h1, toks := tk }) :
    wpAny (model prog w) A (call (.type "set") [.ref l]) Q E s := by
  have hlen : its.length = xs.length := by rw [← hv.length, List.length_map]
  refine PySem.ClSets.set_from hh hT hol hcl hdl (fun i h1 => h1.SetOf (strKind prog w) s.heap.objs.size (fun k => (uniqS (xs.take i)).contains k) (uniqS (xs.take i)).length) ?_ ?_ ?_ ?_
  · intro led h1 _ k hN
    exact SetOf_congr ((setObjOf_fresh (knd := strKind prog w) led).setOf hN (by unfold scanBound; omega)) (fun _ => rfl) rfl
  · rintro i h0 h1 ⟨o, es, ep, t, ho, rest⟩ k
    exact ⟨o, es, ep, t, k _ _ (Nat.ne_of_lt (Nat.lt_succ_self _)) ho, rest⟩
  · intro i v z E1 Q1 hi hS hq
    have hi' : its[i]? = some v := by simpa using hi
    have hlt : i < xs.length := by
      have := (List.getElem?_eq_some_iff.mp hi').1
      omega
    obtain ⟨u, hu, ru⟩ := hv.get (i := i) (x := .str xs[i]) (by rw [List.getElem?_map, List.getElem?_eq_getElem hlt]; rfl)
    rw [hi'] at hu
    obtain rfl := Option.some.inj hu
    obtain ⟨t, rfl⟩ : ∃ t, v = Value.str xs[i] t := ru
    have his : (strKind prog w).is xs[i] (.str xs[i] t) = true := by
      simp [PySem.strKind, Value.isStrOf]
    unfold setAdd
    refine wpAny_holding (wpAny_bind ((strKind prog w).pyHash (k := xs[i]) his ?_))
    have hroom : (uniqS (xs.take i)).length + 1 < scanBound := by
      have := uniqS_len (xs.take i)
      rw [List.length_take] at this
      omega
    refine wpAny_setAddHashed_of (knd := strKind prog w) (s := { z with toks := z.toks + 1 }) his rfl hS hroom fun h1 sb hS2 => hq _ h1 (z.toks + 1) (Nat.le_succ _) sb ?_
    have et : xs.take (i + 1) = xs.take i ++ [xs[i]] := by rw [List.take_succ, List.getElem?_eq_getElem hlt]; rfl
    refine SetOf_congr hS2 (fun k => ?_) ?_
    · rw [et, uniqS_snoc]
      by_cases hc : (uniqS (xs.take i)).contains xs[i] = true
      · rw [if_pos hc]
        by_cases hk : k = xs[i]
        · subst hk; simpa using hc
        · simp [hk]
      · rw [if_neg hc, Bool.eq_iff_iff]
        simp
    · rw [et, uniqS_snoc]
      by_cases hc : (uniqS (xs.take i)).contains xs[i] = true
      · rw [if_pos hc, if_pos hc]
      · rw [if_neg hc, if_neg hc]; simp
  · intro h1 tk hS k
    have e : xs.take its.toArray.size = xs := by
      rw [List.size_toArray, hlen, List.take_length]
    rw [e] at hS
    exact h h1 tk hS k
theorem txts_tD : ∀ {ds : List D} {ls : List (List Nat)}, txts ds = some ls → ds = (ls.map sT).map tD
  | [], _, h => by
    simp only [txts, Option.some.injEq] at h
    subst h; rfl
  | d :: ds, ls, h => by
    cases d with
    | str l =>
      simp only [txts, Option.map_eq_some_iff] at h
      obtain ⟨m, hm, rfl⟩ := h
      rw [List.map_cons, List.map_cons, ← txts_tD hm]
      rfl
    | _ => simp [txts] at h
theorem boot_set' : bootBuiltins (nm "set") = some (.type "set") ∧ nm "set" ≠ "__name__" := by decide +kernel
theorem boot_len' : bootBuiltins (nm "len") = some (.builtin "len") ∧ nm "len" ≠ "__name__" := by decide +kernel
section
variable {X : Cx} {Y : Sx} {Bs : List Nat} {W : WX} {b : Nat} {M : MC} {c : Ctx} {y : Expr} {p p1 p2 q : Pos} {ma : Env → Store → R D}
theorem s_lset (G : Good Y c b Bs W M X) (hcm : M.calm = true) {n n2 : Str} (hn : gnB M.sc "len" n = true) (hn2 : gnB M.sc "set" n2 = true) (hs : notStar y = true) (ha : PE X y (tI Y Bs W ma)) :
    PE X (.Call (.Name n p) [.Call (.Name n2 p1) [y] [] q] [] p2) (tI Y Bs W fun ρ S => (ma ρ S).bind fun d S1 => R.of S1 (lsetD (vw S1 d))) := by
  obtain ⟨rfl, h4, h5⟩ := gnB_of hn
  obtain ⟨rfl, h6, h7⟩ := gnB_of hn2
  have m1 : X.mg (nm "len") = none := G.bi _ (by decide +kernel)
  have m2 : X.mg (nm "set") = none := G.bi _ (by decide +kernel)
  refine ⟨fun pins s σ H Q I ⟨μ, ρ, S, w, en, k⟩ => Call_ (ld_blt I (G.gl h4) m1 boot_len'.1 (callWith_builtin1 (args_cons (Call_ (ld_blt I (G.gl h6) m2 boot_set'.1 (callWith_type1 (args_cons (thn (ha.run pins s σ H _ I (tX.bind w en k fun d S1 μ1 H1 u w1 en1 x1 r1 k1 => (?_ : (fun (v : V) (H1 : Hp) => ∃ (a : Addr) (xs : List V) (ls : List (List Nat)), v = .ref a ∧ H1 a = some (.lst xs) ∧ xs = (ls.map sT).map V.str ∧ ls.length ≤ 4000 ∧ Q (.int (uniqS (ls.map sT)).length) H1) u H1))) ?_) (starEach_of hs)) (starEach_of hs) rfl) boot_set'.2 (okN_db h7))) rfl) rfl rfl) boot_len'.2 (okN_db h5))⟩
  · obtain ⟨r, hr, k2⟩ := k1.of
    have vd := view_of w1 r1
    revert hr
    generalize vw S1 d = d' at vd
    intro hr
    cases vd with
    | lst hx rr =>
      simp only [lsetD] at hr
      cases ht : txts _ with
      | none => rw [ht] at hr; cases hr
      | some ls =>
        rw [ht] at hr
        simp only at hr
        split at hr
        · rename_i hl
          simp only [Option.some.injEq] at hr
          subst hr
          refine ⟨_, _, ls, rfl, hx, repTxts rr ht, hl, ?_⟩
          have e := firsts_uniq (ls.map sT) []
          rw [← txts_tD ht] at e
          simp only [List.map_nil, List.nil_append] at e
          have e2 := congrArg List.length e
          rw [List.length_map] at e2
          have := k2 μ1 H1 (.int (firsts [] _).length) (.refl _ _) w1 (.int _)
          rw [e2] at this
          exact this
        · cases hr
    | _ => simp [lsetD] at hr
  · rintro v s1 ⟨x, H1, I1, r1, a, xs, ls, rfl, hx, rfl, hl, hq⟩
    obtain rfl : v = Value.ref a := r1
    refine args_nil ?_
    obtain ⟨its, rv, pl, hz⟩ := I1.list (.of hx)
    obtain ⟨ol, ho, hc, n, hd⟩ := pl.isList
    refine set_texts (I1.ok.hd (G.calm hcm)) (.inl rfl) ho hc hd rv (by rw [List.length_map]; unfold scanBound; omega) fun h1 tk hS kp => args_nil ?_
    obtain ⟨o, es, ep, t, ho2, hex, hd2, _, _, hsz, hf, hn⟩ := hS
    have I2 : Inv X pins σ H1 { s1 with heap := h1, toks := tk } := I1.kept fun b o e => kp b o (Heap.lt_size e) e
    refine call_len_set ho2 hex hd2 hf (by unfold scanBound at hsz; omega) ⟨.int (uniqS (ls.map sT)).length, H1, I2.tok _, ⟨_, by rw [hn]⟩, hq⟩
end
end CL
namespace CL
namespace Tb
open PySem PySem.Spec PyProof.Rows L2
def Msk (m : Nat) : Prop := MaskOk m ∨ m = 511
def orb : Nat → Nat → List Nat
  | 0, _ => []
  | n + 1, x => x :: orb n ((x * 5 + 1) % 512)
theorem orb_all : ((List.range 512).all fun j => (orb 512 0).contains j) = true := by decide +kernel
theorem step_in (x : Nat) : ∀ k, lcgI 511 ((x * 5 + 1) % 512) k = lcgI 511 x (k + 1)
  | 0 => rfl
  | k + 1 => by
    show (lcgI 511 ((x * 5 + 1) % 512) k * 5 + 1) % 512 = (lcgI 511 x (k + 1) * 5 + 1) % 512
    rw [step_in x k]
theorem orb_get : ∀ (n x j : Nat), j ∈ orb n x → ∃ k, k < n ∧ lcgI 511 x k = j
  | 0, _, _, h => by cases h
  | n + 1, x, j, h => by
    rcases List.mem_cons.mp h with rfl | h
    · exact ⟨0, Nat.succ_pos _, rfl⟩
    · obtain ⟨k, h1, h2⟩ := orb_get n _ j h
      exact ⟨k + 1, Nat.succ_lt_succ h1, by rw [← step_in]; exact h2⟩
theorem nI (k : Nat) : lcgI 511 0 k = lcgN 511 k := by
  have := lcgN_add 511 0 k
  rw [Nat.zero_add] at this
  exact this
theorem any511 {j : Nat} (h : j ≤ 511) : ∃ b, b ≤ 511 ∧ lcgN 511 b = j := by
  have h1 := List.all_eq_true.mp orb_all j (List.mem_range.mpr (by omega))
  obtain ⟨k, h2, h3⟩ := orb_get 512 0 j (by simpa using h1)
  exact ⟨k, by omega, by rw [← nI]; exact h3⟩
theorem round511 : ∀ k, lcgN 511 (512 + k) = lcgN 511 k
  | 0 => by decide +kernel
  | k + 1 => by
    show (lcgN 511 (512 + k) * 5 + 1) % 512 = (lcgN 511 k * 5 + 1) % 512
    rw [round511 k]
theorem from511 {i j : Nat} (hi : i ≤ 511) (hj : j ≤ 511) : ∃ k, k ≤ 511 ∧ lcgI 511 i k = j := by
  obtain ⟨a, ha, rfl⟩ := any511 hi
  obtain ⟨b, hb, rfl⟩ := any511 hj
  by_cases c : a ≤ b
  · exact ⟨b - a, by omega, by rw [lcgN_add, Nat.add_sub_cancel' c]⟩
  · exact ⟨512 + b - a, by omega, by rw [lcgN_add, Nat.add_sub_cancel' (by omega), round511]⟩
theorem meets {m : Nat} (g : Msk m) (h : Int) {j : Nat} (hj : j ≤ m) : ∃ n, n ≤ m + 12 ∧ runI m (SetTable.bits h) n = j := by
  rcases g with g | rfl
  · exact run_meets g h hj
  · obtain ⟨k, h1, h2⟩ := from511 (runI_le 511 (SetTable.bits h) 12) hj
    exact ⟨12 + k, by omega, (runI_tail (bits_lt h) k).trans h2⟩
theorem odd {m : Nat} (g : Msk m) : m % 2 = 1 := by
  rcases g with g | rfl
  · exact mask_odd g
  · rfl
theorem at_most {m : Nat} (h : Int) (k : Nat) : way m h k ≤ m := by
  have q : SetTable.bits h % (m + 1) ≤ m := Nat.le_of_lt_succ (Nat.mod_lt _ (Nat.succ_pos _))
  have b := runEnd_bd q
  have z := nth_in (m := m) k (runAt m (SetTable.bits h % (m + 1)) (SetTable.bits h)) (by simp only [runAt]; omega)
  unfold way
  omega
theorem turns_le {m : Nat} (g : Msk m) : 10 * SetTable.turns m < 90000 := by
  unfold SetTable.turns
  rcases g with (g | g | g) | g <;> omega
structure Tbl (t : SetTable) (hs : List Int) : Prop where
  up : Ris t.place.toList
  nod : t.dummies = #[]
  len : t.place.toList.length = hs.length
  msk : Msk t.mask
  le : ∀ x ∈ t.place.toList, x ≤ t.mask
  found : ∀ (i : Nat) (h : Int) (j : Nat), hs[i]? = some h → t.place.toList[i]? = some j → ∃ k, way t.mask h k = j ∧ ∀ c, c < k → way t.mask h c ∈ t.place.toList
section
variable {t : SetTable} {hs : List Int}
theorem Tbl.gap (T : Tbl t hs) (few : hs.length ≤ t.mask) (h : Int) : ∃ K, K < 10 * SetTable.turns t.mask ∧ way t.mask h K ∉ t.place.toList ∧ ∀ c, c < K → way t.mask h c ∈ t.place.toList := by
  obtain ⟨j, hj, hn⟩ := st_missing t.place.toList (t.mask + 1) (by rw [T.len]; omega)
  obtain ⟨n, h1, h2⟩ := meets T.msk h (Nat.le_of_lt_succ hj)
  obtain ⟨k, h3, h4⟩ := run_nth t.mask (SetTable.bits h) n
  have e : way t.mask h k = j := by
    unfold way
    rw [h4]
    exact h2
  obtain ⟨K, a, b, c⟩ := st_least (p := fun z => way t.mask h z ∉ t.place.toList) k (by show _ ∉ _; rw [e]; exact hn)
  refine ⟨K, ?_, b, fun z hz => Classical.byContradiction fun n => c z hz n⟩
  unfold SetTable.turns
  omega
theorem Tbl.ahead (T : Tbl t hs) {h : Int} {K i j : Nat} (gap : way t.mask h K ∉ t.place.toList) (hi : hs[i]? = some h) (hj : t.place.toList[i]? = some j) : ∃ c, c < K ∧ way t.mask h c = j := by
  obtain ⟨c, rfl, hb⟩ := T.found i h j hi hj
  refine ⟨c, ?_, rfl⟩
  by_cases q : c < K
  · exact q
  · by_cases e : c = K
    · subst e
      exact absurd (List.mem_of_getElem? hj) gap
    · exact absurd (hb K (by omega)) gap
theorem Tbl.more (T : Tbl t hs) {h : Int} {K p : Nat} (gap : way t.mask h K ∉ t.place.toList) (hb : ∀ c, c < K → way t.mask h c ∈ t.place.toList) (hp : SetTable.below t.place (way t.mask h K) = p) :
    p ≤ hs.length ∧ Tbl (t.put (way t.mask h K)).1 (hs.take p ++ h :: hs.drop p) ∧ (t.put (way t.mask h K)).1.fill = hs.length + 1 := by
  have lim : way t.mask h K ≤ t.mask := at_most h K
  generalize hz : way t.mask h K = z at gap lim hp ⊢
  have pl : p ≤ t.place.toList.length := by
    rw [← hp]
    exact (below_cut T.up z).1
  have ph : p ≤ hs.length := by rw [← T.len]; exact pl
  have at_ := put_place t z
  rw [hp] at at_
  have sz : (t.put z).1.place.toList.length = hs.length + 1 := by rw [at_, len_ins _ pl, T.len]
  have stay : ∀ {x : Nat}, x ∈ t.place.toList → x ∈ (t.put z).1.place.toList := by
    intro x hx
    rw [at_]
    exact mem_ins.mpr (.inr hx)
  refine ⟨ph, ⟨?_, put_dm T.nod z, by rw [sz, len_ins _ ph], T.msk, ?_, ?_⟩, ?_⟩
  · refine ris_insert T.up fun e => gap ?_
    rw [← Array.getElem?_toList] at e
    exact List.mem_of_getElem? e
  · intro x hx
    rw [at_] at hx
    rcases mem_ins.mp hx with rfl | hx
    · exact lim
    · exact T.le x hx
  · intro i g j h1 h2
    rw [tins_get hs ph] at h1
    rw [at_, tins_get _ pl] at h2
    have old : ∀ i : Nat, hs[i]? = some g → t.place.toList[i]? = some j → ∃ k, way t.mask g k = j ∧ ∀ c, c < k → way t.mask g c ∈ (t.put z).1.place.toList := by
      intro i h1 h2
      obtain ⟨k, e, q⟩ := T.found i g j h1 h2
      exact ⟨k, e, fun c hc => stay (q c hc)⟩
    by_cases c1 : i < p
    · rw [if_pos c1] at h1 h2
      exact old i h1 h2
    · rw [if_neg c1] at h1 h2
      by_cases c2 : i = p
      · rw [if_pos c2, Option.some.injEq] at h1 h2
        subst h1 h2
        exact ⟨K, hz, fun c hc => stay (hb c hc)⟩
      · rw [if_neg c2] at h1 h2
        exact old (i - 1) h1 h2
  · show (t.put z).1.place.size + (t.put z).1.dummies.size = _
    rw [← Array.length_toList, sz, put_dm T.nod z]
    rfl
end
theorem free_at {m : Nat} (g : Msk m) (ow : Array (Option Nat)) (h : Int) {j : Nat} (hj : j ≤ m) (hf : oAt ow j = none) :
    ∃ K, SetTable.layClean.free m ow (SetTable.turns m) (SetTable.bits h % (m + 1)) (SetTable.bits h) = some (way m h K) ∧ oAt ow (way m h K) = none ∧ ∀ c, c < K → oAt ow (way m h c) ≠ none := by
  obtain ⟨n, h1, h2⟩ := meets g h hj
  have e : way m h (off m (SetTable.bits h % (m + 1)) (SetTable.bits h) n) = j := by
    unfold way
    rw [nth_off, itL_run]
    exact h2
  obtain ⟨K, a, b, c⟩ := st_least (p := fun z => oAt ow (way m h z) = none) _ (show oAt ow (way m h (off m (SetTable.bits h % (m + 1)) (SetTable.bits h) n)) = none by rw [e]; exact hf)
  have lt : n < SetTable.turns m := by
    unfold SetTable.turns
    omega
  refine ⟨K, free_spec m ow _ n _ _ K lt a (fun k hk => ?_) ?_, b, c⟩
  · have := c k hk
    cases q : oAt ow (nth m (runAt m (SetTable.bits h % (m + 1)) (SetTable.bits h)) k).j with
    | none => exact absurd q this
    | some _ => rfl
  · have q : oAt ow (nth m (runAt m (SetTable.bits h % (m + 1)) (SetTable.bits h)) K).j = none := b
    rw [q]
    rfl
theorem own_more {m : Nat} (g : Msk m) {done : List Int} {ow : Array (Option Nat)} (W : Own m done ow) (few : done.length ≤ m) (h : Int) :
    ∃ j, SetTable.layClean.free m ow (SetTable.turns m) (SetTable.bits h % (m + 1)) (SetTable.bits h) = some j ∧ Own m (done ++ [h]) (ow.setIfInBounds j (some done.length)) := by
  obtain ⟨ps, lp, inp⟩ := W.ps
  obtain ⟨f, hf, nf⟩ := st_missing ps (m + 1) (by omega)
  have ef : oAt ow f = none := by
    cases q : oAt ow f with
    | none => rfl
    | some k => exact absurd (inp f (by omega) (by rw [q]; simp)) nf
  obtain ⟨K, e1, e2, e3⟩ := free_at g ow h (Nat.le_of_lt_succ hf) ef
  have lim : way m h K ≤ m := at_most h K
  refine ⟨_, e1, ?_⟩
  generalize hz : way m h K = z at e2 lim ⊢
  have inb : z < ow.size := by rw [W.sz]; omega
  have self := oAt_set_self (some done.length) inb
  have keep : ∀ {i : Nat}, oAt ow i ≠ none → oAt (ow.setIfInBounds z (some done.length)) i ≠ none := by
    intro i hi
    by_cases c : i = z
    · rw [c, self]; simp
    · rw [oAt_set_ne _ c]; exact hi
  refine ⟨by rw [Array.size_setIfInBounds, W.sz], ?_, ?_, z :: ps, by simp [lp], ?_⟩
  · intro j k hj e
    by_cases c : j = z
    · rw [c, self, Option.some.injEq] at e
      exact ⟨h, K, by rw [← e]; simp, by rw [hz, c], fun c hc => keep (e3 c hc)⟩
    · rw [oAt_set_ne _ c] at e
      obtain ⟨h', K', a, b, d⟩ := W.at_ j k hj e
      exact ⟨h', K', by rw [List.getElem?_append_left (List.getElem?_eq_some_iff.mp a).1]; exact a, b, fun c hc => keep (d c hc)⟩
  · intro k hk
    rw [List.length_append, List.length_singleton] at hk
    by_cases c : k < done.length
    · obtain ⟨j, hj, e⟩ := W.all k c
      refine ⟨j, hj, ?_⟩
      rw [oAt_set_ne _ (by rintro rfl; rw [e2] at e; cases e)]
      exact e
    · exact ⟨z, lim, by rw [self]; congr 1; omega⟩
  · intro j hj e
    by_cases c : j = z
    · rw [c]; exact List.mem_cons_self
    · rw [oAt_set_ne _ c] at e
      exact List.mem_cons_of_mem _ (inp j hj e)
theorem own_all {m : Nat} (g : Msk m) : ∀ (rest done : List Int) (ow : Array (Option Nat)), Own m done ow → done.length + rest.length ≤ m →
    ∃ ow', rest.foldl (stepF m) (some (ow, done.length)) = some (ow', (done ++ rest).length) ∧ Own m (done ++ rest) ow'
  | [], done, ow, W, _ => ⟨ow, by simp, by simpa using W⟩
  | h :: rest, done, ow, W, hl => by
    rw [List.length_cons] at hl
    obtain ⟨j, e, W'⟩ := own_more g W (by omega) h
    obtain ⟨ow', f, W2⟩ := own_all g rest (done ++ [h]) _ W' (by rw [List.length_append, List.length_singleton]; omega)
    rw [List.append_assoc] at f W2
    refine ⟨ow', ?_, W2⟩
    rw [List.foldl_cons, stepF_some e]
    rw [List.length_append, List.length_singleton] at f
    exact f
theorem clean_ok {m : Nat} (g : Msk m) {hs : Array Int} (hn : hs.size ≤ m) : ∃ ow, SetTable.layClean m hs = some ow ∧ Own m hs.toList ow := by
  obtain ⟨ow, f, W⟩ := own_all g hs.toList [] _ (Own.init m) (by simpa using hn)
  refine ⟨ow, ?_, W⟩
  rw [layClean_eq]
  have f' : hs.toList.foldl (stepF m) (some (Array.replicate (m + 1) none, 0)) = _ := f
  rw [f']
  rfl
theorem anew_ok (t : SetTable) {hs : Array Int} {wanted M : Nat} (hw : SetTable.sizeAbove wanted - 1 = M) (g : Msk M) (hn : hs.size ≤ M) :
    ∃ t' order, t.relaid hs wanted = some (t', order) ∧ order.toList.Perm (List.range hs.size) ∧ Tbl t' (order.toList.map fun i => hs.getD i 0) ∧ t'.mask = M ∧ t'.led = t.led ∧ t'.plain = t.plain := by
  obtain ⟨ow, e, W⟩ := clean_ok g hn
  have rel : t.relaid hs wanted = some (tabOf t M ow, ((liveOf M ow).map (·.2)).toArray) := by
    rw [relaid_eq, hw, e]
    rfl
  have rr := ris_live (fun j => ow.getD j none) (List.range (M + 1)) List.pairwise_lt_range
  have q1 : Ris ((liveOf M ow).map (·.1)) := rr.1
  have q2 : ∀ x ∈ (liveOf M ow).map (·.1), x ∈ List.range (M + 1) := rr.2
  have nod : ((liveOf M ow).map (·.1)).Nodup := q1.imp fun h => Nat.ne_of_lt h
  have sz : (liveOf M ow).length = hs.size := by
    obtain ⟨ps, p1, p2⟩ := W.ps
    have a := nat_nodup_len _ ps nod fun x hx => by
      obtain ⟨⟨y, k⟩, hq, rfl⟩ := List.mem_map.mp hx
      obtain ⟨b1, b2⟩ := (mem_live W.sz).mp hq
      exact p2 y b1 (by rw [b2]; simp)
    have b := nat_nodup_len (List.range hs.size) ((liveOf M ow).map (·.2)) List.nodup_range fun k hk => by
      obtain ⟨j, b1, b2⟩ := W.all k (by simpa using hk)
      exact List.mem_map.mpr ⟨(j, k), (mem_live W.sz).mpr ⟨b1, b2⟩, rfl⟩
    simp only [List.length_map, List.length_range, Array.length_toList] at a b p1
    omega
  refine ⟨_, _, rel, ?_, ⟨q1, rfl, by simp [tabOf, sz], g, fun x hx => Nat.le_of_lt_succ (List.mem_range.mp (q2 x hx)), ?_⟩, rfl, rfl, rfl⟩
  · refine perm_range hs.size _ (by simpa using sz) fun k hk => ?_
    obtain ⟨j, b1, b2⟩ := W.all k (by simpa using hk)
    exact List.mem_map.mpr ⟨(j, k), (mem_live W.sz).mpr ⟨b1, b2⟩, rfl⟩
  · intro i h j h1 h2
    have h1' : (((liveOf M ow).map (·.2)).map fun i => hs.getD i 0)[i]? = some h := h1
    have h2' : ((liveOf M ow).map (·.1))[i]? = some j := h2
    cases hq : (liveOf M ow)[i]? with
    | none => rw [List.getElem?_map, hq] at h2'; cases h2'
    | some q =>
      obtain ⟨y, k⟩ := q
      rw [List.getElem?_map, List.getElem?_map, hq] at h1'
      rw [List.getElem?_map, hq] at h2'
      simp only [Option.map_some, Option.some.injEq] at h1' h2'
      subst h2'
      obtain ⟨b1, b2⟩ := (mem_live W.sz).mp (List.mem_of_getElem? hq)
      obtain ⟨h0, K, a1, a2, a3⟩ := W.at_ y k b1 b2
      have e0 : hs.getD k 0 = h0 := by
        rw [Array.getD_eq_getD_getElem?, ← Array.getElem?_toList, a1]
        rfl
      rw [h1'] at e0
      subst e0
      refine ⟨K, a2, fun c hc => ?_⟩
      show way M h c ∈ (liveOf M ow).map (·.1)
      cases z : oAt ow (way M h c) with
      | none => exact absurd z (a3 c hc)
      | some k2 => exact List.mem_map.mpr ⟨(_, k2), (mem_live W.sz).mpr ⟨at_most h c, z⟩, rfl⟩
theorem size_308 : SetTable.sizeAbove (SetTable.grown 77) = 512 := by decide +kernel
end Tb
end CL
namespace CL
namespace Tb
open PySem PySem.Spec PyProof.Rows L2
abbrev kh (P : Program) (w : PySem.World) (k : List Key) : Int := tupleKeyHash (mixKind P w) k
abbrev IsK (P : Program) (w : PySem.World) (h : Heap) (k : List Key) (a : Addr) : Prop := IsTupleKey (mixKind P w) h k a
abbrev Row := Addr × List Key
section
variable {P : Program} {w : PySem.World} {A : Around} {E : Value → Shared → Prop} {s : Shared}
def FlatV (v : Value) : Prop := (∃ i t, v = .int i t) ∨ ∃ x t, v = .str x t
theorem flat_items {k : List Key} {vs : List Value} (h : ItemsAre (mixKind P w) k vs) : ∀ v ∈ vs, FlatV v := by
  induction h with
  | nil => intro v hv; cases hv
  | cons h1 _ ih =>
    intro v hv
    rcases List.mem_cons.mp hv with rfl | hv
    · rcases keyIs_shape h1 with ⟨i, t, _, e⟩ | ⟨x, t, _, e⟩
      · exact .inl ⟨i, t, e⟩
      · exact .inr ⟨x, t, e⟩
    · exact ih v hv
theorem flat_cls {v : Value} (h : FlatV v) (n : Nat) : ofAClassStatement n v = pure false := by
  rcases h with ⟨i, t, rfl⟩ | ⟨x, t, rfl⟩ <;> cases n <;> rfl
theorem flat_hash {v : Value} (h : FlatV v) (n : Nat) : ∃ b, hashByValue n v = pure b := by
  rcases h with ⟨i, t, rfl⟩ | ⟨x, t, rfl⟩
  · exact ⟨true, by cases n <;> rfl⟩
  · exact ⟨false, by cases n <;> rfl⟩
theorem cls_tup {k : List Key} {b : Addr} {Q : Bool → Shared → Prop} (hk : IsK P w s.heap k b) (q : Q false s) : wpAny (model P w) A (ofAClassStatement 8 (.ref b)) Q E s := by
  have ty := hk.typeIs
  obtain ⟨o, its, n, ho, _, hd, hi⟩ := hk
  have fl := flat_items hi
  unfold ofAClassStatement
  refine wpAny_bind (wpAny_typeOf ty ?_)
  simp only [show (("tuple" : String) == "tuple") = true by decide, if_true]
  try refine wpAny_bind (wpAny_pure ?_)
  try simp only [Bool.not_true, Bool.false_eq_true, if_false]
  show wpAny _ _ (seqItems? (.ref b) >>= _) _ _ s
  refine wpAny_bind (wpAny_seqItems ho hd ?_)
  refine wpAny_bind ?_
  show wpAny _ _ (forIn its _ _) _ _ s
  rw [← Array.forIn_toList]
  refine wpAny_forIn_list _ (fun l r z => r.1 = none ∧ z = s ∧ ∀ v ∈ l, FlatV v) _ ?_ ?_ _ _ ⟨rfl, rfl, fl⟩
  · rintro v l r z ⟨hr, rfl, all⟩
    rw [flat_cls (all v List.mem_cons_self)]
    refine wpAny_bind (wpAny_pure ?_)
    simp only [Bool.false_eq_true, if_false]
    exact wpAny_pure ⟨rfl, rfl, fun u hu => all u (List.mem_cons_of_mem _ hu)⟩
  · rintro ⟨r1, r2⟩ z ⟨hr, rfl, _⟩
    cases hr
    exact wpAny_pure q
theorem hash_tup {k : List Key} {b : Addr} {Q : Bool → Shared → Prop} (hk : IsK P w s.heap k b) (q : ∀ x, Q x s) : wpAny (model P w) A (hashByValue 8 (.ref b)) Q E s := by
  have ty := hk.typeIs
  obtain ⟨o, its, n, ho, _, hd, hi⟩ := hk
  have fl := flat_items hi
  unfold hashByValue
  refine wpAny_bind (wpAny_specialOf ty F.slot_tuple_hash.lookup ?_)
  show wpAny _ _ (seqItems? (.ref b) >>= _) _ _ s
  refine wpAny_bind (wpAny_seqItems ho hd ?_)
  refine wpAny_bind ?_
  show wpAny _ _ (forIn its _ _) _ _ s
  rw [← Array.forIn_toList]
  refine wpAny_forIn_list _ (fun l r z => z = s ∧ (∀ v ∈ l, FlatV v) ∧ r.1 = none) _ ?_ ?_ _ _ ⟨rfl, fl, rfl⟩
  · rintro v l r z ⟨rfl, all, hr⟩
    obtain ⟨x, hx⟩ := flat_hash (all v List.mem_cons_self) 7
    rw [hx]
    refine wpAny_bind (wpAny_pure ?_)
    cases x with
    | true =>
      simp only [Bool.not_true, Bool.false_eq_true, if_false]
      exact wpAny_pure ⟨rfl, fun u hu => all u (List.mem_cons_of_mem _ hu), rfl⟩
    | false =>
      simp only [Bool.not_false, if_true]
      exact wpAny_pure (wpAny_pure (q false))
  · rintro ⟨r1, r2⟩ z ⟨rfl, _, hr⟩
    cases hr
    exact wpAny_pure (q _)
theorem seen_no {k : List Key} {b : Addr} {Q : Bool → Shared → Prop} (hk : IsK P w s.heap k b) {ys : List Value} (hy : ∀ y ∈ ys, ∃ k' c, y = Value.ref c ∧ IsK P w s.heap k' c) (q : Q false s) :
    wpAny (model P w) A (searchCouldBeSeen (.ref b) ys) Q E s := by
  unfold searchCouldBeSeen
  refine wpAny_bind ?_
  refine wpAny_forIn_list _ (fun l r z => r.1 = none ∧ z = s ∧ ∀ y ∈ l, ∃ k' c, y = Value.ref c ∧ IsK P w s.heap k' c) _ ?_ ?_ _ _ ⟨rfl, rfl, hy⟩
  · rintro v l r z ⟨hr, rfl, all⟩
    obtain ⟨k', c, rfl, hc⟩ := all v List.mem_cons_self
    have on : ∀ y ∈ l, ∃ k' c, y = Value.ref c ∧ IsK P w z.heap k' c := fun u hu => all u (List.mem_cons_of_mem _ hu)
    dsimp only
    by_cases cc : (b == c || (carriedByValue (.ref b) && carriedByValue (.ref c))) = true
    · exact wp_if_pos cc (wpAny_pure ⟨rfl, rfl, on⟩)
    · refine wp_if_neg cc ?_
      refine wpAny_bind (wpAny_eqIsQuiet_tuple hk ?_)
      simp only [Bool.not_true, Bool.false_eq_true, if_false]
      refine wpAny_bind (wpAny_eqIsQuiet_tuple hc ?_)
      simp only [Bool.not_true, Bool.false_eq_true, if_false]
      refine wpAny_bind (cls_tup hk ?_)
      simp only [Bool.false_eq_true, if_false]
      refine wpAny_bind (cls_tup hc ?_)
      simp only [Bool.false_eq_true, if_false]
      exact wpAny_pure ⟨rfl, rfl, on⟩
  · rintro ⟨r1, r2⟩ z ⟨hr, rfl, _⟩
    cases hr
    exact wpAny_pure q
def entries (P : Program) (w : PySem.World) (L : List Row) : List (Int × Value) := L.map fun r => (kh P w r.2, .ref r.1)
structure Holds (P : Program) (w : PySem.World) (h : Heap) (a : Addr) (L : List Row) (es : Array (Int × Value)) (ep : Nat) (t : SetTable) : Prop where
  obj : ∃ o, h.get? a = some o ∧ o.ExactSet ∧ o.data = .set es ep t
  rows : es.toList = entries P w L
  tbl : Tbl t (L.map fun r => kh P w r.2)
  nd : (L.map (·.2)).Nodup
  keys : ∀ r ∈ L, IsK P w h r.2 r.1
  led : w.params.followText "set-order" = true ∨ t.led = true
  room : L.length * 5 < t.mask * 3
  few : L.length ≤ 120
variable {a : Addr} {L : List Row} {es : Array (Int × Value)} {ep : Nat} {t : SetTable}
theorem Holds.size (R : Holds P w s.heap a L es ep t) : es.size = L.length := by
  rw [← Array.length_toList, R.rows]
  simp [entries]
theorem Holds.fits (R : Holds P w s.heap a L es ep t) : t.fits es.size = true := by
  have h1 := R.tbl.len
  have h2 := R.size
  have h3 := R.room
  rw [List.length_map, Array.length_toList] at h1
  unfold SetTable.fits SetTable.fill
  rw [R.tbl.nod, Bool.and_eq_true, beq_iff_eq, decide_eq_true_eq]
  show t.place.size = es.size ∧ t.place.size + 0 ≤ t.mask
  omega
theorem Holds.entry (R : Holds P w s.heap a L es ep t) {i : Nat} {r : Row} (h : L[i]? = some r) : es[i]? = some (kh P w r.2, Value.ref r.1) := by
  rw [← Array.getElem?_toList, R.rows, entries, List.getElem?_map, h]
  rfl
theorem Holds.stands (R : Holds P w s.heap a L es ep t) : ¬ t.gaveWay = true := by
  unfold SetTable.gaveWay
  rw [odd R.tbl.msk]
  decide
theorem no_dummy (m : Nat) : ∀ (n : Nat) (p : SetTable.Probe), p.dummy = none → (nth m p n).dummy = none
  | 0, _, h => h
  | n + 1, p, h => by
    refine no_dummy m n (adv m p) ?_
    unfold adv
    split <;> exact h
abbrev ini (m : Nat) (h : Int) : SetTable.Probe := runAt m (SetTable.bits h % (m + 1)) (SetTable.bits h)
theorem seek (R : Holds P w s.heap a L es ep t) {x : Addr} {k : List Key} (hx : IsK P w s.heap k x) (hu : A.units < cLine) {K : Nat} (lim : K < 10 * SetTable.turns t.mask)
    (gap : way t.mask (kh P w k) K ∉ t.place.toList) (full : ∀ c, c < K → way t.mask (kh P w k) c ∈ t.place.toList) {Q : SetFound → Shared → Prop}
    (yes : k ∈ L.map (·.2) → Q (.there none) s) (no : k ∉ L.map (·.2) → Q (.free (way t.mask (kh P w k) K) false) s) :
    ∀ (f c : Nat) (st : Option SetTable.Probe), st.getD (t.probeStart (kh P w k)) = nth t.mask (ini t.mask (kh P w k)) c → c ≤ K → K - c < f →
      (∀ (i : Nat) (r : Row), L[i]? = some r → r.2 = k → ∃ d, c ≤ d ∧ d < K ∧ t.place.toList[i]? = some (way t.mask (kh P w k) d)) →
      wpAny (model P w) A (setSearchFrom a (.ref x) (kh P w k) true f st) Q E s
  | 0, c, st, _, _, hf, _ => absurd hf (Nat.not_lt_zero _)
  | f + 1, c, st, hst, hc, hf, later => by
    obtain ⟨o, ho, hex, hd⟩ := R.obj
    rw [setSearchFrom_succ]
    refine wpAny_bind (wpAny_setState_of ho hd R.fits ?_)
    refine wp_if_neg R.stands ?_
    try refine wpAny_bind (wpAny_pure ?_)
    have sh : ∀ q, nth t.mask (nth t.mask (ini t.mask (kh P w k)) c) q = nth t.mask (ini t.mask (kh P w k)) (c + q) := fun q => (nth_add t.mask c _ q).symm
    have wy : ∀ q, (nth t.mask (nth t.mask (ini t.mask (kh P w k)) c) q).j = way t.mask (kh P w k) (c + q) := fun q => congrArg SetTable.Probe.j (sh q)
    have hK : c + (K - c) = K := by omega
    have what := go_spec t R.tbl.up R.tbl.nod (fun i => (es[i]?.map (·.1)).getD 0) (kh P w k) (10 * SetTable.turns t.mask) (K - c) _ (no_dummy t.mask c (ini t.mask (kh P w k)) rfl) (by omega)
      (fun q hq => by rw [wy]; exact full (c + q) (by omega)) (by rw [wy, hK]; exact gap)
    have its : ∀ (i : Nat) (r : Row), L[i]? = some r → (es[i]?.map (·.1)).getD 0 = kh P w r.2 := fun i r hr => by
      rw [R.entry hr]
      rfl
    have asked : t.probe (fun i => (es[i]?.map (·.1)).getD 0) (kh P w k) (st.getD (t.probeStart (kh P w k))) = SetTable.probe.go t (fun i => (es[i]?.map (·.1)).getD 0) (kh P w k) (10 * SetTable.turns t.mask) (nth t.mask (ini t.mask (kh P w k)) c) := by
      rw [hst]
      rfl
    rcases what with ⟨q, i, hq, hi, hh, none_, pr⟩ | ⟨none_, pr⟩
    · rw [wy] at hi pr
      rw [sh] at pr
      rw [asked, pr]
      dsimp only
      have il : i < L.length := by
        have h1 := (List.getElem?_eq_some_iff.mp hi).1
        rw [R.tbl.len, List.length_map] at h1
        exact h1
      obtain ⟨r, hr⟩ : ∃ r, L[i]? = some r := ⟨_, List.getElem?_eq_getElem il⟩
      have mem : r ∈ L := List.mem_of_getElem? hr
      have go : wpAny (model P w) A (searchRest a (.ref x) (kh P w k) true f es t (way t.mask (kh P w k) (c + q)) i (nth t.mask (ini t.mask (kh P w k)) (c + (q + 1)))) Q E s := by
        unfold searchRest
        rw [R.entry hr]
        dsimp only
        refine wpAny_bind (wpAny_holding (wpAny_eqBool_tuple hu (R.keys r mem) hx ?_))
        refine wpAny_bind (wpAny_setState_of ho hd R.fits ?_)
        by_cases same : r.2 = k
        · refine wp_if_pos (by simp [same]) ?_
          exact wpAny_pure (yes (List.mem_map.mpr ⟨r, mem, same⟩))
        · refine wp_if_neg (by simp [same]) ?_
          try refine wpAny_bind (wpAny_pure ?_)
          rw [sameMem]
          dsimp only
          have sl : t.slot (way t.mask (kh P w k) (c + q)) = .live i := slot_live R.tbl.up hi
          simp only [if_true, sl, R.entry hr]
          refine wpAny_bind (wpAny_isSame_ref_self (wpAny_bind (wpAny_pure ?_)))
          simp only [if_true]
          refine wp_if_neg (by simp [same]) ?_
          refine seek R hx hu lim gap full yes no f (c + (q + 1)) _ rfl (by omega) (by omega) fun i0 r0 h0 k0 => ?_
          obtain ⟨d, d1, d2, d3⟩ := later i0 r0 h0 k0
          refine ⟨d, ?_, d2, d3⟩
          by_cases z : c + (q + 1) ≤ d
          · exact z
          · exfalso
            by_cases y : d = c + q
            · subst y
              have s0 := slot_live R.tbl.up d3
              rw [sl] at s0
              injection s0 with s0
              rw [← s0, hr, Option.some.injEq] at h0
              exact same (by rw [h0]; exact k0)
            · refine none_ (d - c) i0 (by omega) ?_ ?_
              · rw [wy, show c + (d - c) = d by omega]
                exact d3
              · show (es[i0]?.map (·.1)).getD 0 = _
                rw [its i0 r0 h0, k0]
      by_cases l : t.led = true
      · refine wp_if_neg (by simp [l]) ?_
        try refine wpAny_bind (wpAny_pure ?_)
        exact go
      · refine wp_if_pos (by simp [l]) ?_
        refine wpAny_bind (seen_no hx (fun y hy => ?_) ?_)
        · obtain ⟨e, he, rfl⟩ := List.mem_map.mp hy
          have he2 : e ∈ es.toList := by
            have : e ∈ es ∧ e.1 = kh P w k := by simpa using he
            simpa using this.1
          rw [R.rows] at he2
          obtain ⟨r2, m2, rfl⟩ := List.mem_map.mp he2
          exact ⟨r2.2, r2.1, rfl, R.keys r2 m2⟩
        · refine wp_if_neg (by decide) ?_
          try refine wpAny_bind (wpAny_pure ?_)
          exact go
    · rw [wy, hK] at pr
      rw [asked, pr]
      refine wpAny_pure (no fun hm => ?_)
      obtain ⟨r0, m0, k0⟩ := List.mem_map.mp hm
      obtain ⟨i0, h0⟩ := List.getElem?_of_mem m0
      obtain ⟨d, d1, d2, d3⟩ := later i0 r0 h0 k0
      refine none_ (d - c) i0 (by omega) ?_ ?_
      · rw [wy, show c + (d - c) = d by omega]
        exact d3
      · show (es[i0]?.map (·.1)).getD 0 = _
        rw [its i0 r0 h0, k0]
theorem search (R : Holds P w s.heap a L es ep t) {x : Addr} {k : List Key} (hx : IsK P w s.heap k x) (hu : A.units < cLine) {Q : SetFound → Shared → Prop}
    (yes : k ∈ L.map (·.2) → Q (.there none) s)
    (no : ∀ K, k ∉ L.map (·.2) → way t.mask (kh P w k) K ∉ t.place.toList → (∀ c, c < K → way t.mask (kh P w k) c ∈ t.place.toList) → Q (.free (way t.mask (kh P w k) K) false) s) :
    wpAny (model P w) A (setSearch a (.ref x) (kh P w k) true) Q E s := by
  have room := R.room
  obtain ⟨K, lim, gap, full⟩ := R.tbl.gap (by rw [List.length_map]; omega) (kh P w k)
  have big := turns_le R.tbl.msk
  unfold setSearch
  refine seek R hx hu lim gap full yes (fun hn => no K hn gap full) 100000 0 none rfl (Nat.zero_le _) (by omega) fun i r hr hk => ?_
  have hi : (L.map fun r => kh P w r.2)[i]? = some (kh P w k) := by rw [List.getElem?_map, hr, ← hk]; rfl
  have il : i < t.place.toList.length := by
    rw [R.tbl.len, List.length_map]
    exact (List.getElem?_eq_some_iff.mp hr).1
  obtain ⟨c, hc, e⟩ := R.tbl.ahead gap hi (List.getElem?_eq_getElem il)
  exact ⟨c, Nat.zero_le _, hc, by rw [e]; exact List.getElem?_eq_getElem il⟩
end
end Tb
end CL
namespace CL
namespace Tb
open PySem PySem.Spec PyProof.Rows L2
section
variable {P : Program} {w : PySem.World} {A : Around} {E : Value → Shared → Prop} {s : Shared}
theorem key_same {h h' : Heap} {k : List Key} {a b : Addr} {o : Obj} {es : Array (Int × Value)} {ep : Nat} {t : SetTable} (hb : IsK P w h k b) (ho : h.get? a = some o) (hd : o.data = .set es ep t) (sb : Heap.SameBut a h h') : IsK P w h' k b := by
  obtain ⟨o', its, n, e1, e2, e3, e4⟩ := hb
  have ne : b ≠ a := by
    rintro rfl
    rw [ho, Option.some.injEq] at e1
    subst e1
    rw [hd] at e3
    cases e3
  exact ⟨o', its, n, by rw [sb.2 b ne]; exact e1, e2, e3, e4⟩
theorem key_kept {h h' : Heap} {k : List Key} {b : Addr} (x : IsK P w h k b) (kp : ∀ c o, h.get? c = some o → h'.get? c = some o) : IsK P w h' k b := by
  obtain ⟨o, its, n, e, r⟩ := x
  exact ⟨o, its, n, kp b o e, r⟩
theorem ordered (L : List Row) (es : Array (Int × Value)) (order : Array Nat) (hr : es.toList = entries P w L) (hp : order.toList.Perm (List.range L.length)) :
    ∃ L2, (order.filterMap (es[·]?)).toList = entries P w L2 ∧ L2.Perm L ∧ (L2.map fun r => kh P w r.2) = order.toList.map fun i => (es.map (·.1)).getD i 0 := by
  have ent : ∀ i : Nat, es[i]? = (L[i]?).map fun r => (kh P w r.2, Value.ref r.1) := fun i => by
    rw [← Array.getElem?_toList, hr, entries, List.getElem?_map]
  have step : ∀ l : List Nat, (∀ i ∈ l, i < L.length) → l.filterMap (fun i => es[i]?) = entries P w (l.filterMap (L[·]?)) ∧ ((l.filterMap (L[·]?)).map fun r => kh P w r.2) = l.map fun i => (es.map (·.1)).getD i 0 := by
    intro l
    induction l with
    | nil => intro _; exact ⟨rfl, rfl⟩
    | cons i l ih =>
      intro hl
      obtain ⟨e1, e2⟩ := ih fun j hj => hl j (List.mem_cons_of_mem _ hj)
      have li := hl i List.mem_cons_self
      have hi := List.getElem?_eq_getElem li
      have he : es[i]? = some (kh P w L[i].2, Value.ref L[i].1) := by rw [ent, hi]; rfl
      rw [List.filterMap_cons_some he, List.filterMap_cons_some hi, e1]
      refine ⟨rfl, ?_⟩
      rw [List.map_cons, List.map_cons, e2]
      congr 1
      rw [Array.getD_eq_getD_getElem?, Array.getElem?_map, he]
      rfl
  have inb : ∀ i ∈ order.toList, i < L.length := fun i hi => List.mem_range.mp (hp.mem_iff.mp hi)
  obtain ⟨e1, e2⟩ := step order.toList inb
  refine ⟨_, by rw [Array.toList_filterMap]; exact e1, ?_, e2⟩
  have all : ∀ n, n ≤ L.length → (List.range n).filterMap (L[·]?) = L.take n := by
    intro n
    induction n with
    | zero => intro _; rfl
    | succ n ih =>
      intro hn
      rw [List.range_succ, List.filterMap_append, ih (by omega), List.take_succ, List.filterMap_cons_some (List.getElem?_eq_getElem hn), List.getElem?_eq_getElem hn]
      rfl
  have := hp.filterMap (L[·]?)
  rw [all _ (Nat.le_refl _), List.take_length] at this
  exact this
variable {a : Addr} {L : List Row} {es : Array (Int × Value)} {ep : Nat} {t : SetTable}
theorem relay {o : Obj} (ho : s.heap.get? a = some o) (hex : o.ExactSet) (hd : o.data = .set es ep t) (hrows : es.toList = entries P w L) (T : Tbl t (L.map fun r => kh P w r.2)) (fit : L.length ≤ t.mask)
    (nd : (L.map (·.2)).Nodup) (keys : ∀ r ∈ L, IsK P w s.heap r.2 r.1) (ld : w.params.followText "set-order" = true ∨ t.led = true) (few : L.length ≤ 120) {wanted M : Nat}
    (hw : SetTable.sizeAbove wanted - 1 = M) (g : Msk M) (small : SetTable.sizeAbove wanted ≤ 512) (hn : L.length * 5 < M * 3) {Q : Unit → Shared → Prop}
    (hQ : ∀ h' L' es' ep' t', Heap.SameBut a s.heap h' → Holds P w h' a L' es' ep' t' → L'.Perm L → Q () { s with heap := h' }) : wpAny (model P w) A (setRelay a wanted) Q E s := by
  have sz : es.size = L.length := by
    rw [← Array.length_toList, hrows]
    simp [entries]
  have pl := T.len
  rw [List.length_map, Array.length_toList] at pl
  have fits : t.fits es.size = true := by
    unfold SetTable.fits SetTable.fill
    rw [T.nod, Bool.and_eq_true, beq_iff_eq, decide_eq_true_eq]
    show t.place.size = es.size ∧ t.place.size + 0 ≤ t.mask
    omega
  obtain ⟨t', order, e, hp, T', em, el, _⟩ := anew_ok t (hs := es.map (·.1)) (wanted := wanted) hw g (by rw [Array.size_map, sz]; omega)
  rw [Array.size_map, sz] at hp
  obtain ⟨L2, r1, r2, r3⟩ := ordered L es order hrows hp
  rw [← r3] at T'
  have s2 : (order.filterMap (es[·]?)).size = es.size := by
    rw [← Array.length_toList, r1, sz]
    simp [entries, r2.length_eq]
  rw [setRelay_eq]
  refine wpAny_bind (wpAny_setState_of ho hd fits ?_)
  dsimp only
  refine wp_if_neg (by rw [sizeLine_eq]; omega) ?_
  try refine wpAny_bind (wpAny_pure ?_)
  rw [e]
  dsimp only
  refine wpAny_bind ?_
  refine wp_if_neg (by rw [s2]; simp) ?_
  try refine wpAny_bind (wpAny_pure ?_)
  refine wpAny_pure ?_
  dsimp only
  refine wpAny_storeSet_of ho hd ?_ (by rw [s2, sz, sizeLine_eq]; omega)
  have sb : Heap.SameBut a s.heap (s.heap.update a (Obj.putSet (order.filterMap (es[·]?)) t')) := Heap.SameBut.update ..
  refine hQ _ L2 (order.filterMap (es[·]?)) (ep + 1) t' sb ⟨⟨_, store_at ho hd, ⟨hex.1, hex.2.1, hex.2.2⟩, rfl⟩, r1, T', (r2.map (·.2)).nodup_iff.mpr nd, fun r hr => key_same (keys r (r2.mem_iff.mp hr)) ho hd sb, by rw [el]; exact ld, by rw [r2.length_eq, em]; exact hn, by rw [r2.length_eq]; exact few⟩ r2
theorem add (R : Holds P w s.heap a L es ep t) {x : Addr} {k : List Key} (hx : IsK P w s.heap k x) (hu : A.units < cLine) (few : L.length + 1 ≤ 120) {Q : Bool → Shared → Prop}
    (hQ : ∀ b h' L' es' ep' t', Heap.SameBut a s.heap h' → Holds P w h' a L' es' ep' t' → (k ∈ L.map (·.2) → L' = L) → (k ∉ L.map (·.2) → L'.Perm ((x, k) :: L)) → Q b { s with heap := h' }) :
    wpAny (model P w) A (setAddHashed a (.ref x) (kh P w k)) Q E s := by
  obtain ⟨o, ho, hex, hd⟩ := R.obj
  have sz := R.size
  have room := R.room
  unfold setAddHashed
  refine wpAny_holding ?_
  rw [show (100000 : Nat) = 99999 + 1 from rfl, setAddHashedIn_succ]
  refine wpAny_bind (wpAny_setState_of ho hd R.fits ?_)
  refine wp_if_neg (by simp [byScan, Value.scannable]) ?_
  try refine wpAny_bind (wpAny_pure ?_)
  refine wpAny_bind (search R hx hu (fun hm => ?_) fun K hm gap full => ?_)
  · exact wpAny_pure (hQ false s.heap L es ep t (Heap.SameBut.refl a s.heap) R (fun _ => rfl) fun z => absurd hm z)
  · dsimp only
    refine wpAny_bind (wpAny_setState_of ho hd R.fits ?_)
    dsimp only
    obtain ⟨p, hp⟩ : ∃ p, SetTable.below t.place (way t.mask (kh P w k) K) = p := ⟨_, rfl⟩
    obtain ⟨q1, q2, q3⟩ := R.tbl.more gap full hp
    have q4 : (t.put (way t.mask (kh P w k) K)).2 = p := hp
    have q5 : (t.put (way t.mask (kh P w k) K)).1.mask = t.mask := rfl
    have q6 : (t.put (way t.mask (kh P w k) K)).1.led = t.led := rfl
    generalize t.put (way t.mask (kh P w k) K) = pt at q2 q3 q4 q5 q6 ⊢
    obtain ⟨t1, p'⟩ := pt
    dsimp only at q2 q3 q4 q5 q6 ⊢
    subst q4
    have main : ∀ t2 : SetTable, t2.place = t1.place → t2.dummies = t1.dummies → t2.mask = t1.mask → t2.led = t1.led → wpAny (model P w) A (do
        storeSet a (SetTable.insertAt es p' (kh P w k, Value.ref x)) t2
        if !false && t2.tooFull then setRelay a (SetTable.grown (es.size + 1))
        return true) Q E s := by
      intro t2 z1 z2 z3 z4
      have T2 : Tbl t2 ((L.map fun r => kh P w r.2).take p' ++ kh P w k :: (L.map fun r => kh P w r.2).drop p') := ⟨by rw [z1]; exact q2.up, by rw [z2]; exact q2.nod, by rw [z1]; exact q2.len, by rw [z3]; exact q2.msk, by rw [z1, z3]; exact q2.le, by rw [z1, z3]; exact q2.found⟩
      have fl2 : t2.fill = L.length + 1 := by
        have : t2.fill = t1.fill := by unfold SetTable.fill; rw [z1, z2]
        rw [this, q3, List.length_map]
      have led2 : w.params.followText "set-order" = true ∨ t2.led = true := by rw [z4, q6]; exact R.led
      rw [q5] at z3
      have ein : (SetTable.insertAt es p' (kh P w k, Value.ref x)).toList = entries P w (L.take p' ++ (x, k) :: L.drop p') := by
        rw [SetTable.toList_insertAt, R.rows]
        simp [entries, List.map_take, List.map_drop]
      have pm := put_perm L p' (x, k)
      have eh : (L.take p' ++ (x, k) :: L.drop p').map (fun r => kh P w r.2) = (L.map fun r => kh P w r.2).take p' ++ kh P w k :: (L.map fun r => kh P w r.2).drop p' := by
        simp [List.map_take, List.map_drop]
      rw [← eh] at T2
      have nd1 : ((L.take p' ++ (x, k) :: L.drop p').map (·.2)).Nodup := (pm.map (·.2)).nodup_iff.mpr (List.nodup_cons.mpr ⟨hm, R.nd⟩)
      generalize L.take p' ++ (x, k) :: L.drop p' = L1 at ein pm T2 nd1
      have l1 : L1.length = L.length + 1 := pm.length_eq
      have sz1 : (SetTable.insertAt es p' (kh P w k, Value.ref x)).size = L1.length := by
        rw [← Array.length_toList, ein]
        simp [entries]
      generalize SetTable.insertAt es p' (kh P w k, Value.ref x) = es1 at ein sz1 ⊢
      refine wpAny_bind (wpAny_storeSet_of ho hd ?_ (by rw [sz1, l1, sizeLine_eq]; omega))
      have sb : Heap.SameBut a s.heap (s.heap.update a (Obj.putSet es1 t2)) := Heap.SameBut.update ..
      have ho1 := store_at (es' := es1) (t' := t2) ho hd
      generalize s.heap.update a (Obj.putSet es1 t2) = h1 at sb ho1 ⊢
      have keys1 : ∀ r ∈ L1, IsK P w h1 r.2 r.1 := fun r hr => by
        rcases List.mem_cons.mp (pm.mem_iff.mp hr) with rfl | hr
        · exact key_same hx ho hd sb
        · exact key_same (R.keys r hr) ho hd sb
      by_cases full2 : t2.tooFull = true
      · refine wp_if_pos (by simp [full2]) ?_
        refine wpAny_bind ?_
        have f3 : (L.length + 1) * 5 ≥ t.mask * 3 := by
          have h := full2
          unfold SetTable.tooFull at h
          rw [decide_eq_true_eq, fl2, z3] at h
          exact h
        rw [sz]
        have two : (t.mask = 7 ∧ L.length = 4) ∨ (t.mask = 31 ∧ L.length = 18) ∨ (t.mask = 127 ∧ L.length = 76) := by
          rcases R.tbl.msk with (e | e | e) | e <;> rw [e] at f3 room <;> omega
        have go : ∀ M, SetTable.sizeAbove (SetTable.grown (L.length + 1)) - 1 = M → Msk M → SetTable.sizeAbove (SetTable.grown (L.length + 1)) ≤ 512 → (L.length + 1) * 5 < M * 3 →
            wpAny (model P w) A (setRelay a (SetTable.grown (L.length + 1))) (fun _ z => wpAny (model P w) A (pure true) Q E z) E { s with heap := h1 } := by
          intro M m1 m2 m3 m4
          refine relay (s := { s with heap := h1 }) ho1 ⟨hex.1, hex.2.1, hex.2.2⟩ rfl ein T2 (by rw [l1, z3]; omega) nd1 keys1 led2 (by omega) m1 m2 m3 (by rw [l1]; exact m4) ?_
          intro h2 L2 es2 ep2 t2' sb2 R2 pm2
          exact wpAny_pure (hQ true h2 L2 es2 ep2 t2' (sb.trans sb2) R2 (fun z => absurd z hm) fun _ => pm2.trans pm)
        rcases two with ⟨_, e2⟩ | ⟨_, e2⟩ | ⟨_, e2⟩
        · exact go 31 (by rw [e2, size_20]) (.inl (.inr (.inl rfl))) (by rw [e2, size_20]; decide) (by omega)
        · exact go 127 (by rw [e2, size_76]) (.inl (.inr (.inr rfl))) (by rw [e2, size_76]; decide) (by omega)
        · exact go 511 (by rw [e2, size_308]) (.inr rfl) (by rw [e2, size_308]; decide) (by omega)
      · refine wp_if_neg (by simp [full2]) ?_
        refine wpAny_pure (hQ true h1 L1 es1 (ep + 1) t2 sb ⟨⟨_, ho1, ⟨hex.1, hex.2.1, hex.2.2⟩, rfl⟩, ein, T2, nd1, keys1, led2, ?_, by omega⟩ (fun z => absurd z hm) fun _ => pm)
        have h := full2
        unfold SetTable.tooFull at h
        rw [decide_eq_true_eq, fl2] at h
        rw [l1]
        omega
    by_cases pl : t1.plain = true
    · refine wp_if_pos pl (wpAny_bind (hash_tup hx fun b => ?_))
      cases b with
      | true => exact main t1 rfl rfl rfl rfl
      | false => exact main { t1 with plain := false } rfl rfl rfl rfl
    · refine wp_if_neg pl ?_
      exact main t1 rfl rfl rfl rfl
end
end Tb
end CL
namespace CL
namespace Tb
open PySem PySem.Spec PyProof.Rows L2
def kP : Key → PyData
  | .inl i => .int i
  | .inr x => .str x
def rowP (r : Row) : PyData := .tuple (r.2.map kP)
section
variable {P : Program} {w : PySem.World} {A : Around} {E : Value → Shared → Prop} {s : Shared}
theorem holds_new {h : Heap} {a : Addr} {led : Bool} (hl : led = (!w.params.followText "set-order")) (ho : h.get? a = some (PySem.ClSets.nil_ led)) : Holds P w h a [] #[] 0 (.fresh 0 0 led) where
  obj := ⟨_, ho, ⟨rfl, rfl, rfl⟩, rfl⟩
  rows := rfl
  tbl := ⟨List.Pairwise.nil, rfl, rfl, .inl (.inl rfl), fun x hx => (by cases hx), fun i h j hi => (by simp at hi)⟩
  nd := List.nodup_nil
  keys := fun p hp => (by cases hp)
  led := by
    show _ ∨ led = true
    rw [hl]
    cases w.params.followText "set-order"
    · exact .inr rfl
    · exact .inl rfl
  room := by
    show 0 * 5 < 7 * 3
    decide
  few := Nat.zero_le _
theorem Holds.kept {h h' : Heap} {a : Addr} {L : List Row} {es : Array (Int × Value)} {ep : Nat} {t : SetTable} (R : Holds P w h a L es ep t) (ha : ∀ o, h.get? a = some o → h'.get? a = some o) (hk : ∀ r ∈ L, IsK P w h' r.2 r.1) : Holds P w h' a L es ep t := by
  obtain ⟨o, ho, r⟩ := R.obj
  exact ⟨⟨o, ha o ho, r⟩, R.rows, R.tbl, R.nd, hk, R.led, R.room, R.few⟩
def Part (P : Program) (w : PySem.World) (s : Shared) (rows : List Row) (i : Nat) (h1 : Heap) : Prop :=
  (∀ b o, b < s.heap.objs.size → s.heap.get? b = some o → h1.get? b = some o) ∧ ∃ L es ep t, Holds P w h1 s.heap.objs.size L es ep t ∧ (∀ r ∈ L, r ∈ rows.take i) ∧ (∀ r ∈ rows.take i, r.2 ∈ L.map (·.2)) ∧ L.length ≤ i
theorem set_keys {T : String} {l : Addr} {ol : Obj} {its : List Value} {nl : Nat} {Q : Value → Shared → Prop} (hh : A.handled = none) (hT : T = "list" ∨ T = "tuple") (hol : s.heap.get? l = some ol) (hcl : ol.cls = .type T) (hdl : ol.data = .seq its.toArray nl)
    {rows : List Row} (hits : its = rows.map fun r => Value.ref r.1) (hk : ∀ r ∈ rows, IsK P w s.heap r.2 r.1) (few : rows.length ≤ 120) (hu : A.units + 3 < cLine)
    (h : ∀ h1 tk L es ep t, Holds P w h1 s.heap.objs.size L es ep t → (∀ r ∈ L, r ∈ rows) → (∀ r ∈ rows, r.2 ∈ L.map (·.2)) → (∀ b o, b < s.heap.objs.size → s.heap.get? b = some o → h1.get? b = some o) → Q (.ref s.heap.objs.size) { s with heap := h1, toks := tk }) :
    wpAny (model P w) A (call (.type "set") [.ref l]) Q E s := by
  have below : ∀ r ∈ rows, r.1 < s.heap.objs.size := fun r hr => by
    obtain ⟨o, _, _, ho, _⟩ := hk r hr
    exact Heap.lt_size ho
  have later : ∀ {h1 : Heap}, (∀ b o, b < s.heap.objs.size → s.heap.get? b = some o → h1.get? b = some o) → ∀ r ∈ rows, IsK P w h1 r.2 r.1 := fun {h1} kp r hr => by
    obtain ⟨o, its, n, ho, z⟩ := hk r hr
    exact ⟨o, its, n, kp _ _ (Heap.lt_size ho) ho, z⟩
  refine PySem.ClSets.set_from hh hT hol hcl hdl (Part P w s rows) ?_ ?_ ?_ ?_
  · intro led h1 hl k hN
    exact ⟨fun b o _ e => k b o e, [], _, _, _, holds_new hl hN, by simp, by simp, Nat.zero_le _⟩
  · rintro i h0 h1 ⟨k0, L, es, ep, t, R, sub, all, len⟩ k
    have k1 : ∀ b o, b < s.heap.objs.size → s.heap.get? b = some o → h1.get? b = some o := fun b o hb e => k b o (Nat.ne_of_lt (Nat.lt_succ_of_lt hb)) (k0 b o hb e)
    exact ⟨k1, L, es, ep, t, R.kept (fun o e => k _ _ (Nat.ne_of_lt (Nat.lt_succ_self _)) e) fun r hr => later k1 r (List.mem_of_mem_take (sub r hr)), sub, all, len⟩
  · rintro i v z E1 Q1 hi ⟨k0, L, es, ep, t, R, sub, all, len⟩ hq
    have hi' : its[i]? = some v := by simpa using hi
    rw [hits, List.getElem?_map, Option.map_eq_some_iff] at hi'
    obtain ⟨r, hr, rfl⟩ := hi'
    have il : i < rows.length := (List.getElem?_eq_some_iff.mp hr).1
    have et : rows.take (i + 1) = rows.take i ++ [r] := by rw [List.take_succ, hr]; rfl
    have hx := later k0 r (List.mem_of_getElem? hr)
    unfold setAdd
    refine wpAny_holding (wpAny_bind (wpAny_pyHash_tuple hu hx ?_))
    refine add (s := { z with toks := z.toks + (r.2.length + 1) }) R hx hu (by omega) fun b h' L' es' ep' t' sb R' c1 c2 => hq b h' _ (Nat.le_add_right _ _) sb ?_
    refine ⟨fun b o hb e => by rw [sb.2 b (Nat.ne_of_lt hb)]; exact k0 b o hb e, L', es', ep', t', R', ?_⟩
    rw [et]
    by_cases hm : r.2 ∈ L.map (·.2)
    · rw [c1 hm]
      refine ⟨fun q hq => List.mem_append_left _ (sub q hq), fun q hq => ?_, by omega⟩
      rcases List.mem_append.mp hq with hq | hq
      · exact all q hq
      · rw [List.mem_singleton.mp hq]; exact hm
    · have pm := c2 hm
      refine ⟨fun q hq => ?_, fun q hq => ?_, by rw [pm.length_eq, List.length_cons]; omega⟩
      · rcases List.mem_cons.mp (pm.mem_iff.mp hq) with rfl | hq
        · exact List.mem_append_right _ (List.mem_singleton.mpr rfl)
        · exact List.mem_append_left _ (sub q hq)
      · rw [(pm.map (·.2)).mem_iff, List.map_cons]
        rcases List.mem_append.mp hq with hq | hq
        · exact List.mem_cons_of_mem _ (all q hq)
        · rw [List.mem_singleton.mp hq]; exact List.mem_cons_self
  · rintro h1 tk ⟨_, L, es, ep, t, R, sub, all, len⟩ k
    have e : rows.take its.toArray.size = rows := by
      rw [List.size_toArray, hits, List.length_map, List.take_length]
    rw [e] at sub all
    exact h h1 tk L es ep t R sub all k
theorem flat_reads {h : Heap} {ks : List Key} {vs : List Value} (x : ItemsAre (mixKind P w) ks vs) : ReadsAll h vs (ks.map kP) [] := by
  induction x with
  | nil => exact .nil
  | @cons k v ks vs h1 _ ih =>
    have hv : Reads h v (kP k) [] := by
      rcases keyIs_shape h1 with ⟨i, t, rfl, rfl⟩ | ⟨x, t, rfl, rfl⟩
      · exact .int i t
      · exact .str x t
    exact .cons (as := []) (bs := []) hv ih
theorem row_reads {h : Heap} {r : Row} (x : IsK P w h r.2 r.1) : Reads h (.ref r.1) (rowP r) [] := by
  obtain ⟨o, its, n, h1, h2, h3, h4⟩ := x
  exact .tuple h1 h2 h3 (flat_reads h4)
theorem each_rows {h : Heap} : ∀ L : List Row, (∀ r ∈ L, IsK P w h r.2 r.1) → ∀ a, PySem.W.EachIs (fun v r => ∃ as, Reads h v (rowP r) as ∧ a ∉ as) (L.map fun r => Value.ref r.1) L
  | [], _, _ => .nil
  | r :: L, hL, a => .cons ⟨[], row_reads (hL r List.mem_cons_self), by simp⟩ (each_rows L (fun q hq => hL q (List.mem_cons_of_mem _ hq)) a)
theorem each_refs : ∀ L : List Row, PySem.W.EachIs (fun (v : Value) (r : Row) => v = .ref r.1) (L.map fun r => Value.ref r.1) L
  | [] => .nil
  | r :: L => .cons rfl (each_refs L)
theorem refs_each {vs : List Value} {L : List Row} (h : PySem.W.EachIs (fun (v : Value) (r : Row) => v = .ref r.1) vs L) : vs = L.map fun r => Value.ref r.1 := by
  induction h with
  | nil => rfl
  | cons e _ ih => rw [e, ih, List.map_cons]
theorem flat_depth : ∀ ks : List Key, PyData.depthAll (ks.map kP) = 0
  | [] => by simp [PyData.depthAll]
  | k :: ks => by
    rw [List.map_cons, PyData.depthAll, flat_depth ks]
    cases k <;> simp [kP, PyData.depth]
theorem sorted_keys {a : Addr} {L : List Row} {es : Array (Int × Value)} {ep : Nat} {t : SetTable} {Q : Value → Shared → Prop} (R : Holds P w s.heap a L es ep t) (hh : A.handled = none) (hu : A.units + 10 < cLine)
    (hal : PySem.W.AllAlike (L.map rowP)) (hso : PySem.W.Sortable (L.map rowP))
    (hQ : ∀ s' p (out : List Value) (c : Nat) (L' : List Row), (∀ b o, s.heap.get? b = some o → s'.heap.get? b = some o) → s'.gens = s.gens → s'.os = s.os → s.heap.objs.size ≤ p →
      s'.heap.get? p = some (seqObj "list" out.toArray c) → out = L'.map (fun r => Value.ref r.1) → L'.Perm L → L'.Pairwise (fun q r => PySem.W.dataLe false rowP q r = true) → Q (.ref p) s') :
    wpAny (model P w) A (call (.builtin "sorted") [.ref a]) Q E s := by
  obtain ⟨o, ho, hex, hd⟩ := R.obj
  have sz := R.size
  have few := R.few
  refine Calls.call_function_entry kind_sorted plain_sorted entry_sorted (args_sorted1 _) ?_
  unfold Builtin.«sorted»
  refine wpAny_bind (m := checkCount "sorted" 1 1 _) (wpAny_pure ?_)
  refine wpAny_bind (collect_set (A := A.in1) hh ⟨o, ho, hex.1, hd⟩ R.fits (by unfold scanBound; omega) R.tbl.up R.led fun s1 vs k1 hz g1 o1 pm => ?_)
  have hes : es.toList.map (·.2) = L.map fun r => Value.ref r.1 := by
    rw [R.rows, entries, List.map_map]
    rfl
  rw [hes] at pm
  obtain ⟨L1, pL, rfl⟩ : ∃ L1 : List Row, L1.Perm L ∧ L1.map (fun r => Value.ref r.1) = vs := L2.perm_lift (fun r : Row => Value.ref r.1) pm L rfl
  have inL : ∀ r ∈ L1, r ∈ L := fun r hr => pL.mem_iff.mp hr
  have len : L1.length ≤ 120 := by rw [pL.length_eq]; exact few
  refine wpAny_bind (wpAny_newList ?_ (by rw [sizeLine_eq, List.length_map]; omega))
  have hoL : (s1.heap.push (seqObj "list" (L1.map fun r => Value.ref r.1).toArray 0)).get? s1.heap.objs.size = some (seqObj "list" (L1.map fun r => Value.ref r.1).toArray 0) := Heap.get?_push_size _ rfl
  have keys1 : ∀ r ∈ L1, IsK P w (s1.heap.push (seqObj "list" (L1.map fun r => Value.ref r.1).toArray 0)) r.2 r.1 := fun r hr => key_kept (R.keys r (inL r hr)) fun b u e => Heap.get?_push_of_some _ (k1 b u e)
  have mp : (L1.map rowP).Perm (L.map rowP) := pL.map rowP
  refine wpAny_bind (wpAny_holding (PySem.W.list_sort_data (s := { s1 with heap := s1.heap.push (seqObj "list" (L1.map fun r => Value.ref r.1).toArray 0) }) (enc := rowP) hoL (each_refs L1) (each_rows L1 keys1 _)
    (fun d hd d' hd' => hal d (mp.mem_iff.mp hd) d' (mp.mem_iff.mp hd')) (hso.imp (fun z d hd => z d (mp.mem_iff.mp hd)) fun z d hd => z d (mp.mem_iff.mp hd)) (by rw [sizeLine_eq]; omega)
    (fun r hr => ?_) fun out ho eo => ?_))
  · show A.units + 1 + 1 + (PyData.depth (.tuple (r.2.map kP))) < cLine
    rw [PyData.depth, flat_depth]
    omega
  · obtain ⟨c, hc⟩ := sortedHeap_at (vs := L1.map fun r => Value.ref r.1) (out := out.toArray) hoL
    refine wpAny_pure ⟨_, rfl, hQ _ s1.heap.objs.size out c (L1.mergeSort (PySem.W.dataLe false rowP)) (fun b u e => ?_) g1 o1 hz hc (refs_each eo) ((List.mergeSort_perm _ _).trans pL) ?_⟩
    · have q := k1 b u e
      have lt := Heap.lt_size q
      show (sortedHeap (s1.heap.push (seqObj "list" (L1.map fun r => Value.ref r.1).toArray 0)) s1.heap.objs.size (L1.map fun r => Value.ref r.1) out.toArray).get? b = some u
      rw [sortedHeap_old (Nat.ne_of_lt lt) (by rw [size_push']; exact Nat.lt_succ_of_lt lt)]
      exact Heap.get?_push_of_some _ q
    · have tl := PySem.W.sortLe_total (PyProof.Rows.listOrd PyProof.Rows.itemOrd) false fun r : Row => PySem.W.keyToks (rowP r)
      exact List.pairwise_mergeSort (le := PySem.W.dataLe false rowP) (fun a b c h1 h2 => tl.trans a b c h1 h2) (fun a b => by rw [Bool.or_eq_true]; exact tl.total a b) L1
end
end Tb
end CL
namespace CL
open PySem PySem.Spec PyProof.Rows L2
open Tb (rowP kP)
theorem encD_row (r : Tb.Row) : encD (kDT r.2) = rowP r := by
  have key : ∀ ks : List Key, D.pdL (ks.map kD) = some (ks.map kP) := by
    intro ks
    induction ks with
    | nil => rfl
    | cons k ks ih =>
      simp only [List.map_cons, D.pdL, ih]
      cases k <;> simp [kD, D.pd, kP]
  show ((D.pd (.tup (r.2.map kD))).getD .none) = _
  simp [D.pd, key, rowP]
theorem toks_inj : ∀ ks js : List Key, PySem.W.keyToksAll (ks.map kP) = PySem.W.keyToksAll (js.map kP) → ks = js
  | [], [], _ => rfl
  | [], j :: js, h => by simp [PySem.W.keyToksAll] at h
  | k :: ks, [], h => by simp [PySem.W.keyToksAll] at h
  | k :: ks, j :: js, h => by
    simp only [List.map_cons, PySem.W.keyToksAll, List.cons.injEq, true_and] at h
    cases k with
    | inl a =>
      cases j with
      | inl b =>
        simp only [kP, PySem.W.keyToks, List.cons_append, List.nil_append, List.cons.injEq, Sum.inl.injEq] at h
        rw [h.1, toks_inj ks js h.2]
      | inr b => simp [kP, PySem.W.keyToks] at h
    | inr a =>
      cases j with
      | inl b => simp [kP, PySem.W.keyToks] at h
      | inr b =>
        simp only [kP, PySem.W.keyToks, List.cons_append, List.nil_append, List.cons.injEq, Sum.inr.injEq] at h
        rw [toks_inj ks js h.2, PySem.W.str_of_cps h.1]
theorem le_both {a b : List Key} (h1 : PySem.W.dataLe false encD (kDT a) (kDT b) = true) (h2 : PySem.W.dataLe false encD (kDT b) (kDT a) = true) : a = b := by
  have e : ∀ a : List Key, encD (kDT a) = .tuple (a.map kP) := fun a => encD_row (0, a)
  have q1 : (!PyProof.Rows.lexLt PyProof.Rows.itemOrd (PySem.W.keyToks (encD (kDT b))) (PySem.W.keyToks (encD (kDT a)))) = true := h1
  have q2 : (!PyProof.Rows.lexLt PyProof.Rows.itemOrd (PySem.W.keyToks (encD (kDT a))) (PySem.W.keyToks (encD (kDT b)))) = true := h2
  rw [Bool.not_eq_true'] at q1 q2
  have := PyProof.Rows.lex_total _ _ q2 q1
  rw [e, e] at this
  simp only [PySem.W.keyToks] at this
  exact toks_inj a b this
theorem firsts_keys : ∀ (ks acc : List (List Key)), acc.Nodup → ∃ K, firsts (acc.map kDT) (ks.map kDT) = K.map kDT ∧ (acc ++ K).Nodup ∧ ∀ k, k ∈ acc ++ K ↔ k ∈ acc ∨ k ∈ ks
  | [], acc, h => ⟨[], rfl, by simpa using h, by simp⟩
  | x :: ks, acc, h => by
    have e : ((acc.map kDT).any fun z => D.eqv z (kDT x)) = acc.any fun k => decide (k = x) := by
      rw [List.any_map]
      congr 1
      funext k
      show D.eqv (kDT k) (kDT x) = _
      unfold kDT
      rw [D.eqv, eqvL_kD]
    rw [List.map_cons]
    unfold firsts
    rw [e]
    by_cases m : x ∈ acc
    · rw [if_pos (List.any_eq_true.mpr ⟨x, m, by simp⟩)]
      obtain ⟨K, e1, e2, e3⟩ := firsts_keys ks acc h
      refine ⟨K, e1, e2, fun k => ?_⟩
      rw [e3, List.mem_cons]
      constructor
      · rintro (a | a)
        · exact .inl a
        · exact .inr (.inr a)
      · rintro (a | rfl | a)
        · exact .inl a
        · exact .inl m
        · exact .inr a
    · rw [if_neg (fun q => by obtain ⟨k, hk, q⟩ := List.any_eq_true.mp q; exact m (by rw [← of_decide_eq_true q]; exact hk))]
      obtain ⟨K, e1, e2, e3⟩ := firsts_keys ks (acc ++ [x]) (by
        rw [List.nodup_append]
        refine ⟨h, by simp, ?_⟩
        rintro a ha b hb rfl
        exact m (by rw [← List.mem_singleton.mp hb]; exact ha))
      rw [List.map_append, List.map_singleton] at e1
      refine ⟨x :: K, by rw [e1]; rfl, by simpa using e2, fun k => ?_⟩
      have := e3 k
      simp only [List.append_assoc, List.singleton_append, List.mem_append, List.mem_singleton] at this
      rw [List.mem_append, this, List.mem_cons]
      constructor
      · rintro ((a | a) | a)
        · exact .inl a
        · exact .inr (.inl a)
        · exact .inr (.inr a)
      · rintro (a | a | a)
        · exact .inl (.inl a)
        · exact .inl (.inr a)
        · exact .inr a
section
variable {Y : Sx} {Bs : List Nat} {μ : List Addr} {H : Hp} {S : Store}
theorem rows_of (w : World Y Bs μ H S) : ∀ {vs : List V} {ds : List D}, RepL Y μ H vs ds → ds.all (keyOf true) = true → ∃ rows : List Tb.Row, vs = rows.map (fun r => V.ref r.1) ∧ ds = rows.map (fun r => kDT r.2) ∧ ∀ r ∈ rows, H r.1 = some (.tup (r.2.map kV)) ∧ Fr Y μ r.1
  | _, _, .nil, _ => ⟨[], rfl, rfl, by simp⟩
  | _, _, .cons (v := v) (d := d) h t, e => by
    rw [List.all_cons, Bool.and_eq_true] at e
    obtain ⟨rows, e1, e2, e3⟩ := rows_of w t e.2
    cases h with
    | tup hh n r =>
      have e1' := e.1
      simp only [keyOf, Bool.true_and] at e1'
      obtain ⟨ks, z1, z2⟩ := flatsK r e1'
      refine ⟨(_, ks) :: rows, by rw [e1]; rfl, by rw [e2, z2]; rfl, fun q hq => ?_⟩
      rcases List.mem_cons.mp hq with rfl | hq
      · exact ⟨by rw [hh, z1], n⟩
      · exact e3 q hq
    | _ => simp [keyOf] at e
theorem repKeys : ∀ ks : List Key, RepL Y μ H (ks.map kV) (ks.map kD)
  | [] => .nil
  | .inl i :: ks => .cons (.int i) (repKeys ks)
  | .inr ⟨x⟩ :: ks => by
    have : Rep Y μ H (.str ⟨x⟩) (.str x.toList) := by
      have q := Rep.str (Y := Y) (μ := μ) (H := H) x.toList
      rw [Array.toArray_toList] at q
      exact q
    exact .cons this (repKeys ks)
theorem repRows : ∀ {L : List Tb.Row}, (∀ r ∈ L, H r.1 = some (.tup (r.2.map kV)) ∧ Fr Y μ r.1) → RepL Y μ H (L.map fun r => V.ref r.1) (L.map fun r => kDT r.2)
  | [], _ => .nil
  | r :: L, h => .cons (.tup (h r List.mem_cons_self).1 (h r List.mem_cons_self).2 (repKeys r.2)) (repRows fun q hq => h q (List.mem_cons_of_mem _ hq))
end
theorem vals_refs : ∀ {L : List Tb.Row} {us : List Value}, Vals (L.map fun r => V.ref r.1) us → us = L.map fun r => Value.ref r.1
  | [], _, .nil => rfl
  | r :: L, _, .cons h t => by
    rw [List.map_cons, vals_refs t]
    congr 1
theorem refs_vals : ∀ L : List Tb.Row, Vals (L.map fun r => V.ref r.1) (L.map fun r => Value.ref r.1)
  | [] => .nil
  | r :: L => .cons rfl (refs_vals L)
theorem boot_sorted' : bootBuiltins (nm "sorted") = some (.builtin "sorted") ∧ nm "sorted" ≠ "__name__" := by decide +kernel
theorem sset_same {rows L' L : List Tb.Row} {es : List D} (h : sortD (firsts [] (rows.map fun r => kDT r.2)) = some es) (sub : ∀ r ∈ L, r ∈ rows) (all : ∀ r ∈ rows, r.2 ∈ L.map (·.2)) (nd : (L.map (·.2)).Nodup) (pm : L'.Perm L)
    (pw : L'.Pairwise fun q r => PySem.W.dataLe false rowP q r = true) : es = L'.map fun r => kDT r.2 := by
  obtain ⟨K, e1, e2, e3⟩ := firsts_keys (rows.map (·.2)) [] List.nodup_nil
  rw [List.map_map] at e1
  have e1' : firsts [] (rows.map fun r => kDT r.2) = K.map kDT := e1
  rw [e1'] at h
  rw [List.nil_append] at e2 e3
  obtain ⟨_, _, _, _, _, rfl⟩ := sortD_some h
  have pk : (L'.map (·.2)).Perm K := by
    refine (pm.map (·.2)).trans ((List.perm_ext_iff_of_nodup nd e2).mpr fun k => ?_)
    rw [e3]
    constructor
    · intro m
      obtain ⟨r, hr, rfl⟩ := List.mem_map.mp m
      exact .inr (List.mem_map.mpr ⟨r, sub r hr, rfl⟩)
    · rintro (m | m)
      · cases m
      · obtain ⟨r, hr, rfl⟩ := List.mem_map.mp m
        exact all r hr
  have tl := PySem.W.sortLe_total (PyProof.Rows.listOrd PyProof.Rows.itemOrd) false fun d : D => PySem.W.keyToks (encD d)
  refine List.Perm.eq_of_pairwise (le := fun a b => PySem.W.dataLe false encD a b = true) ?_ (List.pairwise_mergeSort (le := PySem.W.dataLe false encD) (fun a b c h1 h2 => tl.trans a b c h1 h2) (fun a b => by rw [Bool.or_eq_true]; exact tl.total a b) _) ?_ ?_
  · intro a b ha hb h1 h2
    have ma := (List.mergeSort_perm _ _).mem_iff.mp ha
    obtain ⟨k, _, rfl⟩ := List.mem_map.mp ma
    obtain ⟨r, _, rfl⟩ := List.mem_map.mp hb
    rw [le_both h1 h2]
  · rw [List.pairwise_map]
    refine pw.imp fun {q r} h => ?_
    have : PySem.W.dataLe false rowP q r = PySem.W.dataLe false encD (kDT q.2) (kDT r.2) := by
      show (!PyProof.Rows.lexLt PyProof.Rows.itemOrd (PySem.W.keyToks (rowP r)) (PySem.W.keyToks (rowP q))) = (!PyProof.Rows.lexLt PyProof.Rows.itemOrd (PySem.W.keyToks (encD (kDT r.2))) (PySem.W.keyToks (encD (kDT q.2))))
      rw [encD_row, encD_row]
    rw [← this]; exact h
  · refine (List.mergeSort_perm _ _).trans ?_
    have := pk.symm.map kDT
    rw [List.map_map] at this
    exact this
section
variable {X : Cx} {Y : Sx} {Bs : List Nat} {W : WX} {b : Nat} {M : MC} {c : Ctx} {y : Expr} {p p1 p2 q : Pos} {ma : Env → Store → R D}
theorem s_sset (G : Good Y c b Bs W M X) (hcm : M.calm = true) {n n2 : Str} (hn : gnB M.sc "sorted" n = true) (hn2 : gnB M.sc "set" n2 = true) (hs : notStar y = true) (ha : PE X y (tI Y Bs W ma)) :
    PE X (.Call (.Name n p) [.Call (.Name n2 p1) [y] [] q] [] p2) (tI Y Bs W fun ρ S => (ma ρ S).bind fun d S1 => R.of S1 (ssetD (vw S1 d))) := by
  obtain ⟨rfl, h4, h5⟩ := gnB_of hn
  obtain ⟨rfl, h6, h7⟩ := gnB_of hn2
  have hu := G.hu
  have m1 : X.mg (nm "sorted") = none := G.bi _ (by decide +kernel)
  have m2 : X.mg (nm "set") = none := G.bi _ (by decide +kernel)
  refine ⟨fun pins s σ H Q I ⟨μ, ρ, S, w, en, k⟩ => Call_ (ld_blt I (G.gl h4) m1 boot_sorted'.1 (callWith_builtin1 (args_cons (Call_ (ld_blt I (G.gl h6) m2 boot_set'.1 (callWith_type1 (args_cons (thn (ha.run pins s σ H _ I (tX.bind w en k fun d S1 μ1 H1 u w1 en1 x1 r1 k1 => (?_ : (fun (v : V) (H1 : Hp) => ∃ (a : Addr) (rows : List Tb.Row) (es : List D), v = .ref a ∧ (H1 a = some (.lst (rows.map fun r => V.ref r.1)) ∨ H1 a = some (.tup (rows.map fun r => V.ref r.1))) ∧ rows.length ≤ 120 ∧ (∀ r ∈ rows, H1 r.1 = some (.tup (r.2.map kV))) ∧ sortD (firsts [] (rows.map fun r => kDT r.2)) = some es ∧ ∀ (L : List Tb.Row) (p : Addr), (∀ r ∈ L, r ∈ rows) → es = L.map (fun r => kDT r.2) → H1 p = none → Q (.ref p) (upd H1 p (.lst (L.map fun r => V.ref r.1)))) u H1))) ?_) (starEach_of hs)) (starEach_of hs) rfl) boot_set'.2 (okN_db h7))) rfl) rfl rfl) boot_sorted'.2 (okN_db h5))⟩
  · obtain ⟨r, hr, k2⟩ := k1.of
    have vd := view_of w1 r1
    revert hr
    generalize vw S1 d = d' at vd
    intro hr
    have main : ∀ (a : Addr) (xs : List V) (ds : List D), u = .ref a → (H1 a = some (.lst xs) ∨ H1 a = some (.tup xs)) → RepL Y μ1 H1 xs ds → ssetL ds = some r → ∃ (a : Addr) (rows : List Tb.Row) (es : List D), u = .ref a ∧ (H1 a = some (.lst (rows.map fun r => V.ref r.1)) ∨ H1 a = some (.tup (rows.map fun r => V.ref r.1))) ∧ rows.length ≤ 120 ∧ (∀ r ∈ rows, H1 r.1 = some (.tup (r.2.map kV))) ∧ sortD (firsts [] (rows.map fun r => kDT r.2)) = some es ∧ ∀ (L : List Tb.Row) (p : Addr), (∀ r ∈ L, r ∈ rows) → es = L.map (fun r => kDT r.2) → H1 p = none → Q (.ref p) (upd H1 p (.lst (L.map fun r => V.ref r.1))) := by
      intro a xs ds hu hx rr he
      unfold ssetL at he
      split at he
      · rename_i hl
        obtain ⟨rows, rfl, rfl, hrow⟩ := rows_of w1 rr hl.2
        simp only [Option.map_eq_some_iff] at he
        obtain ⟨es, e1, rfl⟩ := he
        refine ⟨a, rows, es, hu, hx, by simpa using hl.1, fun r hr => (hrow r hr).1, e1, fun L p hL he hp => ?_⟩
        refine k2 μ1 _ (.ref p) (.laid hp) (w1.laid hp) (.lst upd_same (w1.fresh hp) ?_)
        rw [he]
        exact (repRows fun r hr => hrow r (hL r hr)).ext (.laid hp)
      · cases he
    cases vd with
    | lst hx rr => exact main _ _ _ rfl (.inl hx) rr hr
    | tup hx _ rr => exact main _ _ _ rfl (.inr hx) rr hr
    | _ => simp [ssetD] at hr
  · rintro v s1 ⟨x, H1, I1, r1, a, rows, es, rfl, hx, hl, hrow, he, hq⟩
    obtain rfl : v = Value.ref a := r1
    refine args_nil ?_
    obtain ⟨T, ol, its, nl, hT, ho, hc, hd, rv⟩ : ∃ (T : String) (ol : Obj) (its : List Value) (nl : Nat), (T = "list" ∨ T = "tuple") ∧ s1.heap.get? a = some ol ∧ ol.cls = .type T ∧ ol.data = .seq its.toArray nl ∧ Vals (rows.map fun r => V.ref r.1) its := by
      rcases hx with hx | hx
      · obtain ⟨its, rv, pl, hz⟩ := I1.list (.of hx)
        obtain ⟨ol, ho, hc, n, hd⟩ := pl.isList
        exact ⟨_, ol, its, n, .inl rfl, ho, hc, hd, rv⟩
      · obtain ⟨its, rv, ⟨ol, ho, hc, n, hd⟩, hz⟩ := I1.tuple (.of hx)
        exact ⟨_, ol, its, n, .inr rfl, ho, hc, hd, rv⟩
    refine Tb.set_keys (P := X.prog) (w := X.w) (rows := rows) (I1.ok.hd (G.calm hcm)) hT ho hc hd (vals_refs rv) (fun r hr => key_of I1.hok (hrow r hr)) hl (by omega) fun h1 tk L es1 ep t R sub all kp => args_nil ?_
    have I2 : Inv X pins σ H1 { s1 with heap := h1, toks := tk } := I1.kept fun b o e => kp b o (Heap.lt_size e) e
    obtain ⟨_, _, hp, hal, hso, _⟩ := sortD_some he
    obtain ⟨K, e1, e2, e3⟩ := firsts_keys (rows.map (·.2)) [] List.nodup_nil
    rw [List.map_map] at e1
    have e1' : firsts [] (rows.map fun r => kDT r.2) = K.map kDT := e1
    rw [e1'] at hal hso
    have inK : ∀ d ∈ L.map rowP, d ∈ (K.map kDT).map encD := by
      intro d hd
      obtain ⟨r, hr, rfl⟩ := List.mem_map.mp hd
      rw [List.map_map]
      refine List.mem_map.mpr ⟨r.2, ?_, encD_row r⟩
      have := (e3 r.2).mpr (.inr (List.mem_map.mpr ⟨r, sub r hr, rfl⟩))
      simpa using this
    refine Tb.sorted_keys R (I1.ok.hd (G.calm hcm)) (by omega) (fun d hd d' hd' => hal d (inK d hd) d' (inK d' hd')) (hso.imp (fun z d hd => z d (inK d hd)) fun z d hd => z d (inK d hd)) fun s' p out cc L' k1 g o hp' hg hout pm pw => ?_
    have hn : H1 p = none := I2.hok.fresh hp'
    have few : L'.length ≤ 120 := by rw [pm.length_eq]; exact R.few
    have J : Inv X pins σ (upd H1 p (.lst (L'.map fun r => V.ref r.1))) { { s1 with heap := h1, toks := tk } with heap := s'.heap, gens := s'.gens, drawn := s'.drawn, toks := s'.toks } :=
      I2.call (ch := []) (Un.laid k1 hp' hn) (I2.hok.laid k1 hp' ⟨by rw [List.length_map, sizeLine_eq]; omega, out, cc, by rw [hout]; exact refs_vals L', hg⟩) (by rw [g]; exact I2.bare) (fun _ z => nomatch z)
    have es' : s' = { { s1 with heap := h1, toks := tk } with heap := s'.heap, gens := s'.gens, drawn := s'.drawn, toks := s'.toks } := by
      cases s'
      cases s1
      cases o
      rfl
    rw [es']
    exact ⟨.ref p, _, J, rfl, hq L' p (fun r hr => sub r (pm.mem_iff.mp hr)) (sset_same he sub all R.nd pm pw) hn⟩
end
end CL
namespace CL
open PySem PySem.Spec PyProof.Rows L2 SrtO
section
variable {P : Program} {w : PySem.World} {A : Around} {E : Value → Shared → Prop} {s : Shared} {a : Addr}
theorem sorted_setA {S : Int → Bool} {n : Nat} {Q : Value → Shared → Prop} (R : SetR w s.heap a S n) (hh : A.handled = none) (hn0 : n ≤ 4000)
    (hQ : ∀ s' p (out : Array Value) (c : Nat) (ns : List Int), (∀ b o, s.heap.get? b = some o → s'.heap.get? b = some o) → s'.gens = s.gens → s'.os = s.os → s.heap.objs.size ≤ p →
      s'.heap.get? p = some (seqObj "list" out c) → IntsAre out.toList ns → ns.Pairwise (· < ·) → (∀ k, k ∈ ns ↔ S k = true) → ns.length = n → Q (.ref p) s') :
    wpAny (model P w) A (call (.builtin "sorted") [.ref a]) Q E s := by
  obtain ⟨o, es, ep, t, ho, hex, hd, g, nd, hm, hb, hf, hn, hr, hl⟩ := R
  refine Calls.call_function_entry kind_sorted plain_sorted entry_sorted (args_sorted1 _) ?_
  unfold Builtin.«sorted»
  refine wpAny_bind (m := checkCount "sorted" 1 1 _) (wpAny_pure ?_)
  refine wpAny_bind (collect_set (A := A.in1) hh ⟨o, ho, hex.1, hd⟩ hf hb hr hl fun s1 vs k1 hz g1 o1 pm => ?_)
  have hvl : vs.length = n := by rw [pm.length_eq, List.length_map, Array.length_toList]; exact hn
  have hI : IntsAre vs (vs.map Builtin.Re.reRawOf) := ints_of vs fun v hv => by
    obtain ⟨e, he, q⟩ := List.mem_map.mp (pm.mem_iff.mp hv)
    obtain ⟨k, tk, h1, _⟩ := g e he
    exact ⟨k, tk, by rw [← q]; exact h1⟩
  have pk : (vs.map Builtin.Re.reRawOf).Perm (es.toList.map L2.keyOf) := by
    have q := pm.map Builtin.Re.reRawOf
    rw [List.map_map] at q
    exact q
  refine wpAny_bind (wpAny_newList ?_ (by rw [hvl, sizeLine_eq]; omega))
  have hoL : (s1.heap.push (seqObj "list" vs.toArray 0)).get? s1.heap.objs.size = some (seqObj "list" vs.toArray 0) := Heap.get?_push_size _ rfl
  refine wpAny_bind (wpAny_holding (wpAny_call_entry slot_list_sort ⟨_, hoL, rfl⟩ entry_list_sort (list_sort_ord swo_int hoL (by rw [hvl, sizeLine_eq]; omega) (fun h2 => ints_sortable hI h2) fun outL h1 h2 => ⟨_, rfl, ?_⟩) (args_list_sort _)))
  obtain ⟨a1, a2, a3⟩ := ints_out hI h1 h2
  obtain ⟨c, hc⟩ := sortedHeap_at (vs := vs) (out := outL.toArray) hoL
  have pn : (outL.map iv).Perm (es.toList.map L2.keyOf) := a2.trans pk
  refine wpAny_pure ⟨_, rfl, hQ _ s1.heap.objs.size outL.toArray c (outL.map iv) (fun b u e => ?_) g1 o1 hz hc a1 (lt_of_le_nodup _ a3 (pn.nodup_iff.mpr nd)) (fun k => by rw [pn.mem_iff, ← hm k]) ?_⟩
  · have q := k1 b u e
    have hlt := Heap.lt_size q
    show (sortedHeap (s1.heap.push (seqObj "list" vs.toArray 0)) s1.heap.objs.size vs outL.toArray).get? b = some u
    rw [sortedHeap_old (Nat.ne_of_lt hlt) (by rw [size_push']; exact Nat.lt_succ_of_lt hlt)]
    exact Heap.get?_push_of_some _ q
  · rw [pn.length_eq, List.length_map, Array.length_toList]; exact hn
theorem set_listI {T : String} {l : Addr} {ol : Obj} {its : List Value} {nl : Nat} {ns : List Int} {Q : Value → Shared → Prop} (hh : A.handled = none) (hT : T = "list" ∨ T = "tuple") (hol : s.heap.get? l = some ol) (hcl : ol.cls = .type T) (hdl : ol.data = .seq its.toArray nl)
    (hit : IntsAre its ns) (hb : ns.length ≤ 4000)
    (h : ∀ (h1 : Heap) (tk c : Nat), SetR w h1 s.heap.objs.size (fun j => decide (j ∈ ns)) c → c ≤ ns.length → (∀ b o, b < s.heap.objs.size → s.heap.get? b = some o → h1.get? b = some o) → Q (.ref s.heap.objs.size) { s with heap := h1, toks := tk }) :
    wpAny (model P w) A (call (.type "set") [.ref l]) Q E s := by
  have hsz : its.length = ns.length := IntsAre.length hit
  refine PySem.ClSets.set_from hh hT hol hcl hdl (fun i h1 => (∀ b o, b < s.heap.objs.size → s.heap.get? b = some o → h1.get? b = some o) ∧ ∃ c, c ≤ i ∧ SetR w h1 s.heap.objs.size (fun j => decide (j ∈ ns.take i)) c) ?_ ?_ ?_ ?_
  · intro led h1 hl k hN
    subst hl
    exact ⟨fun b o _ e => k b o e, 0, Nat.le_refl _, setR_new_at hN⟩
  · rintro i h0 h1 ⟨k0, c, hc, R⟩ k
    exact ⟨fun b o hb e => k b o (Nat.ne_of_lt (Nat.lt_succ_of_lt hb)) (k0 b o hb e), c, hc, R.at fun o e => k _ _ (Nat.ne_of_lt (Nat.lt_succ_self _)) e⟩
  · rintro i v z E1 Q1 hi ⟨k0, c, hc, R⟩ hq
    have hi' : its[i]? = some v := by simpa using hi
    have il := (List.getElem?_eq_some_iff.mp hi').1
    obtain ⟨k, t, hk, rfl⟩ : ∃ k t, ns[i]? = some k ∧ v = .int k t := by
      obtain ⟨k, t, e, hk⟩ := PyProof.Rows.IntsAre.at hit i v hi'
      exact ⟨k, t, hk, e⟩
    unfold setAdd
    refine wpAny_holding ?_
    refine wpAny_bind ((intKind P w).pyHash (k := k) (intKind_is _ _ _ _) ?_)
    refine setR_add_hashed (s := { z with toks := z.toks + 1 }) R (by unfold scanBound; omega) fun h' sb R2 => ?_
    refine hq _ h' _ (Nat.le_succ _) sb ⟨fun b o hb e => by rw [sb.2 b (Nat.ne_of_lt hb)]; exact k0 b o hb e, _, ?_, R2.congr fun j => ?_⟩
    · split <;> omega
    · rw [List.take_add_one, hk]
      simp [List.mem_append]
  · rintro h1 tk ⟨k0, c, hc, R⟩ k
    have e : ns.take its.toArray.size = ns := List.take_of_length_le (by rw [List.size_toArray]; omega)
    rw [e] at R
    exact h h1 tk c R (by rw [List.size_toArray] at hc; omega) k
end
section
variable {X : Cx} {e : Expr} {ta : TE} {p1 p2 q pos : Pos}
def tIS (K : PySem.W.Frag) (ta : TE) : TE := fun σ H Q => ta σ H fun x H1 => ∃ (a : Addr) (ns : List Int), x = .ref a ∧ (SqL K H1 a (ns.map V.int) ∨ SqT K H1 a (ns.map V.int)) ∧ ns.length ≤ 4000 ∧
  ∀ (ns' : List Int) (p : Addr), ns'.Pairwise (· < ·) → (∀ k, k ∈ ns' ↔ k ∈ ns) → H1 p = none → Q (.ref p) (upd H1 p (.lst (ns'.map V.int)))
theorem pe_isset (hc : X.calm = true) (hg : Gl X (nm "sorted")) (hm : X.mg (nm "sorted") = none) (hg2 : Gl X (nm "set")) (hm2 : X.mg (nm "set") = none) (ha : PE X e ta) (na : starEach [e] X.env = (false, eval e X.env) :: starEach [] X.env) :
    PE X (.Call (.Name (nm "sorted") p1) [.Call (.Name (nm "set") p2) [e] [] q] [] pos) (tIS X.K ta) := by
  refine ⟨fun pins s σ H Q I h => Call_ (ld_blt I hg hm boot_sorted'.1 (PyProof.Rows.callWith_builtin1 (PyProof.Rows.args_cons (Call_ (ld_blt I hg2 hm2 boot_set'.1 (PyProof.Rows.callWith_type1 (PyProof.Rows.args_cons (thn (ha.run pins s σ H _ I h) fun v s1 ⟨x, H1, I1, r1, a, ns, hx, hs, hl, hq⟩ => PyProof.Rows.args_nil ?_) na) na rfl))) rfl) rfl rfl))⟩
  subst hx
  obtain rfl : v = Value.ref a := r1
  obtain ⟨T, ol, its, nl, hT, ho, hcl, hd, rv⟩ : ∃ (T : String) (ol : Obj) (its : List Value) (nl : Nat), (T = "list" ∨ T = "tuple") ∧ s1.heap.get? a = some ol ∧ ol.cls = .type T ∧ ol.data = .seq its.toArray nl ∧ Vals (ns.map V.int) its := by
    rcases hs with hx | hx
    · obtain ⟨its, rv, pl, hz⟩ := I1.list hx
      obtain ⟨ol, ho, hc, n, hd⟩ := pl.isList
      exact ⟨_, ol, its, n, .inl rfl, ho, hc, hd, rv⟩
    · obtain ⟨its, rv, ⟨ol, ho, hc, n, hd⟩, hz⟩ := I1.tuple hx
      exact ⟨_, ol, its, n, .inr rfl, ho, hc, hd, rv⟩
  refine set_listI (P := X.prog) (w := X.w) (I1.ok.hd hc) hT ho hcl hd rv.ints hl fun h1 tk c R hc2 kp => PyProof.Rows.args_nil ?_
  have kp' : ∀ b o, s1.heap.get? b = some o → h1.get? b = some o := fun b o e => kp b o (Heap.lt_size e) e
  refine sorted_setA (s := { s1 with heap := h1, toks := tk }) R (I1.ok.hd hc) (by omega) fun s' p out cc ns' k1 g1 o1 hp hat hI pw mem hlen => ?_
  have I2 : Inv X pins σ H1 { s1 with heap := h1, toks := tk } := I1.kept kp'
  have hn : H1 p = none := I2.hok.fresh hp
  have J : Inv X pins σ (upd H1 p (.lst (ns'.map V.int))) { { s1 with heap := h1, toks := tk } with heap := s'.heap, gens := s'.gens, drawn := s'.drawn, toks := s'.toks } :=
    I2.call (ch := []) (Un.laid k1 hp hn) (I2.hok.laid k1 hp ⟨by rw [List.length_map, sizeLine_eq]; omega, out.toList, cc, L2.vals_of_ints hI, by rw [Array.toArray_toList]; exact hat⟩) (by rw [g1]; exact I2.bare) (fun _ z => nomatch z)
  have es' : s' = { { s1 with heap := h1, toks := tk } with heap := s'.heap, gens := s'.gens, drawn := s'.drawn, toks := s'.toks } := by
    cases s'
    cases s1
    cases o1
    rfl
  rw [es']
  exact ⟨.ref p, _, J, rfl, hq ns' p pw (fun k => by rw [mem k, decide_eq_true_eq]) hn⟩
end
end CL
namespace CL
open PySem PySem.Spec PyProof.Rows L2 SrtO
theorem insI_mem (k j : Int) : ∀ l : List Int, j ∈ insI k l ↔ j = k ∨ j ∈ l
  | [] => by simp [insI]
  | x :: r => by
    unfold insI
    split
    · simp
    · split
      · rename_i e
        subst e
        simp
      · simp only [List.mem_cons, insI_mem k j r]
        constructor
        · rintro (h | h | h) <;> simp [h]
        · rintro (h | h | h) <;> simp [h]
theorem insI_pw (k : Int) : ∀ l : List Int, l.Pairwise (· < ·) → (insI k l).Pairwise (· < ·)
  | [], _ => by simp [insI]
  | x :: r, h => by
    have h' := List.pairwise_cons.mp h
    unfold insI
    split
    · rename_i lt
      exact List.pairwise_cons.mpr ⟨fun y hy => by
        rcases List.mem_cons.mp hy with rfl | hy
        · exact lt
        · exact Int.lt_trans lt (h'.1 y hy), h⟩
    · split
      · exact h
      · refine List.pairwise_cons.mpr ⟨fun y hy => ?_, insI_pw k r h'.2⟩
        rcases (insI_mem k y r).mp hy with rfl | hy
        · omega
        · exact h'.1 y hy
theorem srtI_mem (j : Int) : ∀ l : List Int, j ∈ srtI l ↔ j ∈ l
  | [] => by simp [srtI]
  | x :: r => by
    show j ∈ insI x (srtI r) ↔ _
    rw [insI_mem, srtI_mem j r, List.mem_cons]
theorem srtI_pw : ∀ l : List Int, (srtI l).Pairwise (· < ·)
  | [] => List.Pairwise.nil
  | x :: r => insI_pw x _ (srtI_pw r)
theorem asc_ext : ∀ {a b : List Int}, a.Pairwise (· < ·) → b.Pairwise (· < ·) → (∀ k, k ∈ a ↔ k ∈ b) → a = b
  | [], [], _, _, _ => rfl
  | [], y :: b, _, _, h => by cases (h y).mpr List.mem_cons_self
  | x :: a, [], _, _, h => by cases (h x).mp List.mem_cons_self
  | x :: a, y :: b, ha, hb, h => by
    have ha' := List.pairwise_cons.mp ha
    have hb' := List.pairwise_cons.mp hb
    have e : x = y := by
      rcases List.mem_cons.mp ((h x).mp List.mem_cons_self) with e | hx
      · exact e
      · rcases List.mem_cons.mp ((h y).mpr List.mem_cons_self) with e | hy
        · exact e.symm
        · have := hb'.1 x hx
          have := ha'.1 y hy
          omega
    subst e
    rw [asc_ext ha'.2 hb'.2 fun k => ?_]
    constructor
    · intro hk
      rcases List.mem_cons.mp ((h k).mp (List.mem_cons_of_mem _ hk)) with e | z
      · have := ha'.1 k hk
        omega
      · exact z
    · intro hk
      rcases List.mem_cons.mp ((h k).mpr (List.mem_cons_of_mem _ hk)) with e | z
      · have := hb'.1 k hk
        omega
      · exact z
theorem nums_of {Y : Sx} {μ : List Addr} {H : Hp} : ∀ {xs : List V} {ds : List D} {ns : List Int}, RepL Y μ H xs ds → numsD ds = some ns → xs = ns.map V.int ∧ ds = ns.map D.int
  | _, _, ns, .nil, h => by
    cases h
    exact ⟨rfl, rfl⟩
  | _ :: _, d :: _, ns, .cons r rr, h => by
    cases d with
    | int i =>
      simp only [numsD, Option.map_eq_some_iff] at h
      obtain ⟨ns', h1, rfl⟩ := h
      obtain ⟨e1, e2⟩ := nums_of rr h1
      cases r
      exact ⟨by rw [e1]; rfl, by rw [e2]; rfl⟩
    | _ => simp [numsD] at h
theorem rep_nums {Y : Sx} {μ : List Addr} {H : Hp} : ∀ ns : List Int, RepL Y μ H (ns.map V.int) (ns.map D.int)
  | [] => .nil
  | _ :: r => .cons (.int _) (rep_nums r)
section
variable {X : Cx} {Y : Sx} {Bs : List Nat} {W : WX} {b : Nat} {M : MC} {c : Ctx} {y : Expr} {p p1 p2 q : Pos} {ma : Env → Store → R D}
theorem s_isset (G : Good Y c b Bs W M X) (hcm : M.calm = true) {n n2 : Str} (hn : gnB M.sc "sorted" n = true) (hn2 : gnB M.sc "set" n2 = true) (hs : notStar y = true) (ha : PE X y (tI Y Bs W ma)) :
    PE X (.Call (.Name n p) [.Call (.Name n2 p1) [y] [] q] [] p2) (tI Y Bs W fun ρ S => (ma ρ S).bind fun d S1 => R.of S1 (isetD (vw S1 d))) := by
  obtain ⟨rfl, h4, h5⟩ := gnB_of hn
  obtain ⟨rfl, h6, h7⟩ := gnB_of hn2
  have hu := G.hu
  have m1 : X.mg (nm "sorted") = none := G.bi _ (by decide +kernel)
  have m2 : X.mg (nm "set") = none := G.bi _ (by decide +kernel)
  refine ⟨fun pins s σ H Q I ⟨μ, ρ, S, w, en, k⟩ => (pe_isset (p1 := p) (p2 := p1) (q := q) (pos := p2) (G.calm hcm) (G.gl h4) m1 (G.gl h6) m2 ha (starEach_of hs)).run pins s σ H Q I (tX.bind w en k fun d S1 μ1 H1 u w1 en1 x1 r1 k1 => ?_)⟩
  obtain ⟨r, hr, k2⟩ := k1.of
  have vd := view_of w1 r1
  revert hr
  generalize vw S1 d = d' at vd
  intro hr
  have main : ∀ (a : Addr) (xs : List V) (ds : List D), u = .ref a → (H1 a = some (.lst xs) ∨ H1 a = some (.tup xs)) → RepL Y μ1 H1 xs ds → isetL ds = some r → ∃ (a : Addr) (ns : List Int), u = .ref a ∧ (SqL X.K H1 a (ns.map V.int) ∨ SqT X.K H1 a (ns.map V.int)) ∧ ns.length ≤ 4000 ∧ ∀ (ns' : List Int) (p : Addr), ns'.Pairwise (· < ·) → (∀ k, k ∈ ns' ↔ k ∈ ns) → H1 p = none → Q (.ref p) (upd H1 p (.lst (ns'.map V.int))) := by
    intro a xs ds hu hx rr he
    unfold isetL at he
    split at he
    · rename_i ns hns
      split at he
      · rename_i hl
        obtain ⟨rfl, rfl⟩ := nums_of rr hns
        cases he
        refine ⟨a, ns, hu, hx.imp .of .of, hl, fun ns' p pw mem hp => ?_⟩
        refine k2 μ1 _ (.ref p) (.laid hp) (w1.laid hp) (.lst upd_same (w1.fresh hp) ?_)
        have e : ns' = srtI ns := asc_ext pw (srtI_pw ns) fun k => by rw [mem k, srtI_mem]
        rw [e]
        exact rep_nums _
      · cases he
    · cases he
  cases vd with
  | lst hx rr => exact main _ _ _ rfl (.inl hx) rr hr
  | tup hx _ rr => exact main _ _ _ rfl (.inr hx) rr hr
  | _ => simp [isetD] at hr
end
end CL
namespace CL
open PySem PySem.Spec PyProof.Rows L2
theorem wipe_get {σ : L2.St} {j : Nat} : ∀ {vs : List Nat}, (wipe σ vs)[j]? = if j ∈ vs then (σ[j]?).map (fun _ => none) else σ[j]?
  | [] => by simp [wipe]
  | v :: vs => by
    unfold wipe
    rw [List.getElem?_set, wipe_length, wipe_get (vs := vs)]
    by_cases h : v = j
    · subst h
      simp only [if_true, List.mem_cons_self, ite_self]
      by_cases hl : v < σ.length
      · rw [if_pos hl, List.getElem?_eq_getElem hl]; rfl
      · rw [if_neg hl, List.getElem?_eq_none (by omega)]; rfl
    · rw [if_neg h]
      have : j ∈ v :: vs ↔ j ∈ vs := by
        rw [List.mem_cons]
        exact ⟨fun q => q.resolve_left (Ne.symm h), .inr⟩
      simp only [this]
theorem wipe_set {σ : L2.St} {i : Nat} {x : Option V} {vs : List Nat} (h : i ∈ vs) : wipe (σ.set i x) vs = wipe σ vs := by
  refine List.ext_getElem? fun j => ?_
  rw [wipe_get, wipe_get]
  by_cases hj : j ∈ vs
  · rw [if_pos hj, if_pos hj, List.getElem?_set]
    by_cases e : i = j
    · subst e
      by_cases hl : i < σ.length
      · rw [if_pos rfl, if_pos hl, List.getElem?_eq_getElem hl]; rfl
      · rw [if_pos rfl, if_neg hl, List.getElem?_eq_none (by omega)]
    · rw [if_neg e]
  · rw [if_neg hj, if_neg hj, List.getElem?_set_ne (fun e => hj (by rw [← e]; exact h))]
theorem EnvOk.wipe {Y : Sx} {μ : List Addr} {H : Hp} {σ : L2.St} {ρ : Env} (h : EnvOk Y μ H σ ρ) (hx : Y.exs = none) : ∀ vs : List Nat, EnvOk Y μ H (L2.wipe σ vs) (wipeE ρ vs)
  | [] => h
  | v :: vs => (EnvOk.wipe h hx vs).drop v (Sx.free_none hx v)
structure Locs (M : MC) (X : Cx) : Prop where
  hN : X.N = M.N
  nd : X.N.Nodup
  calm : M.calm = true → X.calm = true
  loc : ∀ n, locB M.sc n = true → L2.Loc X.env.scope n ∧ (X.fn n = true ∨ X.env.scope.names.lookup n = some .local)
def gA (tg : Tg) : TG := fun v σ H Q => ∃ (Y : Sx) (μ : List Addr) (Bs : List Nat) (S : Store) (ρ : Env) (d : D) (ρ' : Env), (∀ i ∈ tg.slots, Y.free i) ∧ World Y Bs μ H S ∧ EnvOk Y μ H σ ρ ∧ Rep Y μ H v d ∧ asg tg d ρ = some ρ' ∧
  ∀ σ', EnvOk Y μ H σ' ρ' → wipe σ' tg.slots = wipe σ tg.slots → Q σ' H
def gNames : List Nat → TGs
  | [] => gNil
  | i :: is => gCons (gName i) (gNames is)
section
variable {X : Cx} {M : MC}
theorem pgs_names (L : Locs M X) : ∀ {is : List Nat} {xs : List Expr}, namesMt M is xs = true → PGs X xs (gNames is) ∧ (assignEach xs X.env).length = is.length ∧ (assignEach xs X.env).findIdx? (·.1) = none
  | [], [], _ => ⟨pgs_nil, rfl, rfl⟩
  | [], _ :: _, h => by simp [namesMt] at h
  | _ :: _, [], h => by simp [namesMt] at h
  | i :: is, x :: xs, h => by
    cases x with
    | Name n p =>
      simp only [namesMt, Bool.and_eq_true, decide_eq_true_eq] at h
      obtain ⟨a1, a2, a3⟩ := pgs_names L h.2.2.2
      obtain ⟨l1, l2⟩ := L.loc n h.2.2.1
      refine ⟨pgs_cons (pg_name L.nd (by rw [L.hN]; exact h.1) l1 l2) a1 rfl, by show _ + 1 = _ + 1; rw [a2], ?_⟩
      show List.findIdx? _ ((false, _) :: assignEach xs X.env) = none
      rw [List.findIdx?_cons]
      simp [a3]
    | _ => simp [namesMt] at h
theorem names_read {Y : Sx} {μ : List Addr} {H : Hp} {V' : List Nat} : ∀ {is : List Nat} {xs : List V} {ds : List D} {σ : L2.St} {ρ : Env} {Q : L2.St → Hp → Prop}, (∀ i ∈ is, i ∈ V' ∧ Y.free i) → RepL Y μ H xs ds → xs.length = is.length → EnvOk Y μ H σ ρ →
    (∀ σ', EnvOk Y μ H σ' ((is.zip ds).foldl (fun ρ p => ρ.set p.1 (some p.2)) ρ) → wipe σ' V' = wipe σ V' → Q σ' H) → gNames is xs σ H Q
  | [], [], _, σ, ρ, Q, _, r, _, en, k => by
    cases r
    exact ⟨rfl, k σ en rfl⟩
  | [], _ :: _, _, _, _, _, _, _, h, _, _ => by simp at h
  | _ :: _, [], _, _, _, _, _, _, h, _, _ => by simp at h
  | i :: is, x :: xs, _, σ, ρ, Q, hv, r, h, en, k => by
    cases r with
    | cons r1 r2 =>
      refine ⟨x, xs, rfl, ?_⟩
      refine names_read (fun j hj => hv j (List.mem_cons_of_mem _ hj)) r2 (by simpa using h) (en.set r1 i (hv i List.mem_cons_self).2) fun σ' e q => ?_
      exact k σ' e (q.trans (wipe_set (hv i List.mem_cons_self).1))
theorem g_tg (L : Locs M X) {tg : Tg} {t : Expr} (h : tg.mt M t = true) : PG X t (gA tg) := by
  cases tg with
  | one i =>
    unfold Tg.mt at h
    cases t with
    | Name n p =>
      simp only [Bool.and_eq_true, decide_eq_true_eq] at h
      obtain ⟨l1, l2⟩ := L.loc n h.2.2
      refine ⟨fun pins s σ H v u Q I r ⟨Y, μ, Bs, S, ρ, d, ρ', fr, w, en, rd, ha, k⟩ => ?_⟩
      refine (pg_name (pos := p) L.nd (by rw [L.hN]; exact h.1) l1 l2).run pins s σ H v u Q I r ?_
      simp only [asg, Option.some.injEq] at ha
      subst ha
      exact k _ (en.set rd i (fr i (by simp [Tg.slots]))) (wipe_set (by simp [Tg.slots]))
    | _ => simp at h
  | many is =>
    unfold Tg.mt at h
    cases t with
    | Tuple xs kk p =>
      simp only [Bool.and_eq_true] at h
      obtain ⟨a1, a2, a3⟩ := pgs_names L h.2
      refine ⟨fun pins s σ H v u Q I r ⟨Y, μ, Bs, S, ρ, d, ρ', fr, w, en, rd, ha, k⟩ => ?_⟩
      simp only [asg] at ha
      cases rd with
      | lst hx n rr =>
        refine (pg_unl (pos := p) (k := kk) (L.calm h.1) a1 a2 a3).run pins s σ H _ u Q I r ?_
        simp only at ha
        split at ha
        · rename_i hl
          simp only [Option.some.injEq] at ha
          subst ha
          exact ⟨_, _, rfl, .of hx, by rw [rr.length, hl], names_read (V' := is) (fun i hi => ⟨hi, fr i hi⟩) rr (by rw [rr.length, hl]) en k⟩
        · cases ha
      | tup hx n rr =>
        refine (pg_tup (pos := p) (k := kk) (L.calm h.1) a1 a2 a3).run pins s σ H _ u Q I r ?_
        simp only at ha
        split at ha
        · rename_i hl
          simp only [Option.some.injEq] at ha
          subst ha
          exact ⟨_, _, rfl, .of hx, by rw [rr.length, hl], names_read (V' := is) (fun i hi => ⟨hi, fr i hi⟩) rr (by rw [rr.length, hl]) en k⟩
        · cases ha
      | _ => cases ha
    | _ => simp at h
end
def KT (Y : Sx) (Bs : List Nat) (μ : List Addr) (H : Hp) (K : Option V → Hp → Prop) : R (Option D) → Prop
  | .ok none S' => ∀ μ' H', Ext μ H μ' H' → World Y Bs μ' H' S' → K none H'
  | .ok (some e) S' => ∀ μ' H' v, Ext μ H μ' H' → World Y Bs μ' H' S' → Rep Y μ' H' v e → K (some v) H'
  | _ => False
def Step (ca : CA) (Bs : List Nat) (f : D → Env → Store → R (Option D)) (g : TG) (tt : TT) (te : TE) (vs : List Nat) (σ : L2.St) (ρ : Env) : Prop :=
  ∀ (Y : Sx) (μ : List Addr) (H : Hp) (S : Store) (x : V) (d : D) (K : Option V → Hp → Prop), (Y.ca = ca ∧ Y.exs = none) → World Y Bs μ H S → EnvOk Y μ H (wipe σ vs) ρ → Rep Y μ H x d → KT Y Bs μ H K (f d ρ S) →
    g x (wipe σ vs) H fun σ2 H2 => wipe σ2 vs = wipe σ vs ∧ tt σ2 H2 fun b H3 => if b = true then te σ2 H3 fun y H4 => K (some y) H4 else K none H3
theorem lc_read {Y : Sx} {Bs : List Nat} {μ1 : List Addr} {H1 : Hp} {S1 S2 : Store} {σ : L2.St} {ρ : Env} {vs : List Nat} {J : L2.It} {wk : Walk} {f : D → Env → Store → R (Option D)} {g : TG} {tt : TT} {te : TE} {ds : List D} {Q : VK} {Dd : Addr}
    (w1 : World Y Bs μ1 H1 S1) (en : EnvOk Y μ1 H1 (wipe σ vs) ρ) (hJ : WalkOk Y μ1 H1 J wk) (hlim : wk.items.length ≤ LIM) (hf : lcL f wk ρ wk.items S1 = .ok ds S2) (st : Step Y.ca Bs f g tt te vs σ ρ) (hx : Y.exs = none) (hD : H1 Dd = none)
    (fin : ∀ μ' H' acc, World (Y.hide Dd) Bs μ' H' S2 → H' Dd = some (.lst acc) → RepL (Y.hide Dd) μ' H' acc ds → Ext μ1 H1 μ' H' → Q (.ref Dd) H') :
    ∃ W : Nat → Nat → Hp → Prop, (∃ m, W 0 m (upd H1 Dd (.lst []))) ∧ ∀ i m H, W i m H →
      (J.stop i H ∧ Q (.ref Dd) H) ∨ (J.go i H ∧ ∃ Nx : Hp → Prop, (∀ H', Nx H' → ∃ m', m' < m ∧ W (i + 1) m' H') ∧ ∀ x H', J.yld i H x H' → g x (wipe σ vs) H' fun σ2 H2 => wipe σ2 vs = wipe σ vs ∧ tt σ2 H2 fun b H3 =>
        if b = true then te σ2 H3 fun y H4 => ∃ acc, H4 Dd = some (.lst acc) ∧ acc.length < sizeLine ∧ Nx (upd H4 Dd (.lst (acc ++ [y]))) else Nx H3) := by
  have up : Up Y H1 (Y.hide Dd) := .hide hD
  refine ⟨fun i m H => ∃ (μ : List Addr) (S : Store) (acc : List V) (done rest : List D), m = wk.items.length - i ∧ World (Y.hide Dd) Bs μ H S ∧ EnvOk (Y.hide Dd) μ H (wipe σ vs) ρ ∧ Ext μ1 H1 μ H ∧ H Dd = some (.lst acc) ∧ RepL (Y.hide Dd) μ H acc done ∧
    done.length ≤ i ∧ i ≤ wk.items.length ∧ lcL f wk ρ (wk.items.drop i) S = .ok rest S2 ∧ ds = done ++ rest, ?_, ?_⟩
  · exact ⟨_, μ1, S1, [], [], ds, rfl, w1.hide hD, en.move (.laid hD) up rfl, .laid hD, upd_same, .nil, Nat.zero_le _, Nat.zero_le _, by rw [List.drop_zero]; exact hf, rfl⟩
  · rintro i m H ⟨μ, S, acc, done, rest, rfl, w, en', x, hH, r, hdl, hi, hl, hds⟩
    cases hd : wk.items.drop i with
    | nil =>
      rw [hd] at hl
      simp only [lcL] at hl
      split at hl
      · rename_i hst
        simp only [R.ok.injEq] at hl
        obtain ⟨rfl, rfl⟩ := hl
        have hii : i = wk.items.length := by
          have := List.drop_eq_nil_iff.mp hd
          omega
        refine .inl ⟨?_, fin μ H acc w hH (by rw [hds, List.append_nil]; exact r) x⟩
        rw [hii]
        exact (hJ _ μ H up x Bs S w hst).2
      · cases hl
    | cons d l =>
      rw [hd] at hl
      simp only [lcL] at hl
      split at hl
      · rename_i hst
        have hlt : i < wk.items.length := by
          have : (wk.items.drop i).length = l.length + 1 := by rw [hd]; rfl
          rw [List.length_drop] at this
          omega
        have hget : wk.items[i]? = some d := by
          have : (wk.items.drop i)[0]? = some d := by rw [hd]; rfl
          rw [List.getElem?_drop] at this
          simpa using this
        have hdrop : wk.items.drop (i + 1) = l := by
          have : (wk.items.drop i).drop 1 = l := by rw [hd]; rfl
          rw [List.drop_drop] at this
          exact this
        obtain ⟨hgo, hy⟩ := (hJ _ μ H up x Bs S w hst).1 i d hget
        refine .inr ⟨hgo, fun H' => ∃ (μ : List Addr) (S : Store) (acc : List V) (done rest : List D), World (Y.hide Dd) Bs μ H' S ∧ EnvOk (Y.hide Dd) μ H' (wipe σ vs) ρ ∧ Ext μ1 H1 μ H' ∧ H' Dd = some (.lst acc) ∧ RepL (Y.hide Dd) μ H' acc done ∧
          done.length ≤ i + 1 ∧ lcL f wk ρ l S = .ok rest S2 ∧ ds = done ++ rest, ?_, ?_⟩
        · rintro H' ⟨μ, S, acc, done, rest, a1, a2, a3, a4, a5, a6, a7, a8⟩
          exact ⟨_, by omega, μ, S, acc, done, rest, rfl, a1, a2, a3, a4, a5, a6, hlt, by rw [hdrop]; exact a7, a8⟩
        · intro y H'' yl
          obtain ⟨μ2, x2, w2, ry⟩ := hy y H'' yl
          have hid : (Y.hide Dd).hid Dd := .inr rfl
          have nD : ∀ {μ' : List Addr} {H' : Hp} {S' : Store}, World (Y.hide Dd) Bs μ' H' S' → Dd ∉ μ' := fun w' m => w'.hidC _ m hid
          have hH2 := x2.keep _ _ (nD w) hH
          refine st (Y.hide Dd) μ2 H'' S y d (fun o H4 => match o with
            | some y => ∃ acc, H4 Dd = some (.lst acc) ∧ acc.length < sizeLine ∧ ∃ (μ : List Addr) (S : Store) (acc' : List V) (done rest : List D), World (Y.hide Dd) Bs μ (upd H4 Dd (.lst (acc ++ [y]))) S ∧ EnvOk (Y.hide Dd) μ (upd H4 Dd (.lst (acc ++ [y]))) (wipe σ vs) ρ ∧ Ext μ1 H1 μ (upd H4 Dd (.lst (acc ++ [y]))) ∧ (upd H4 Dd (.lst (acc ++ [y]))) Dd = some (.lst acc') ∧ RepL (Y.hide Dd) μ (upd H4 Dd (.lst (acc ++ [y]))) acc' done ∧
                done.length ≤ i + 1 ∧ lcL f wk ρ l S = .ok rest S2 ∧ ds = done ++ rest
            | none => ∃ (μ : List Addr) (S : Store) (acc : List V) (done rest : List D), World (Y.hide Dd) Bs μ H4 S ∧ EnvOk (Y.hide Dd) μ H4 (wipe σ vs) ρ ∧ Ext μ1 H1 μ H4 ∧ H4 Dd = some (.lst acc) ∧ RepL (Y.hide Dd) μ H4 acc done ∧
                done.length ≤ i + 1 ∧ lcL f wk ρ l S = .ok rest S2 ∧ ds = done ++ rest) ⟨rfl, hx⟩ w2 (en'.ext x2) ry ?_
          revert hl
          cases hfd : f d ρ S with
          | ok o S' =>
            cases o with
            | none =>
              intro hl μ3 H3 x3 w3
              exact ⟨μ3, S', acc, done, rest, w3, (en'.ext x2).ext x3, (x.trans x2).trans x3, x3.keep _ _ (nD w2) hH2, (r.ext x2).ext x3, by omega, hl, hds⟩
            | some e =>
              intro hl μ3 H3 v x3 w3 rv
              simp only at hl
              cases hr : lcL f wk ρ l S' with
              | ok rest' S'' =>
                rw [hr] at hl
                simp only [R.ok.injEq] at hl
                obtain ⟨rfl, rfl⟩ := hl
                have hH3 := x3.keep _ _ (nD w2) hH2
                have r3 := (r.ext x2).ext x3
                refine ⟨acc, hH3, ?_, μ3, S', acc ++ [v], done ++ [e], rest', w3.hid hid, ((en'.ext x2).ext x3).hid hid, ?_, upd_same, (r3.append (.cons rv .nil)).hid hid, by simp; omega, hr, by rw [hds]; simp⟩
                · rw [r3.length, sizeLine_eq]; unfold LIM at hlim; omega
                · have xx := (x.trans x2).trans x3
                  exact ⟨xx.pre, fun a o n h => by rw [upd_ne (ne_of_none h hD)]; exact xx.keep a o n h, xx.new⟩
              | err _ _ _ _ => rw [hr] at hl; cases hl
              | bad => rw [hr] at hl; cases hl
          | err _ _ _ _ => intro hl; cases hl
          | bad => intro hl; cases hl
      · cases hl
theorem Good.hidden {Y Y' : Sx} {c : Ctx} {b : Nat} {Bs : List Nat} {W : WX} {M : MC} {X : Cx} (G : Good Y c b Bs W M X) (hh : Y'.ca = Y.ca ∧ Y'.exs = none) (hn : Y.exs = none) : Good Y' c b Bs W M X where
  hN := G.hN
  hK := by rw [hh.1]; exact G.hK
  nd := G.nd
  hsc := G.hsc
  calm := G.calm
  exs := by rw [hh.2, ← hn]; exact G.exs
  cx := G.cx
  exn := fun z hz => by rw [hh.2] at hz; cases hz
  isxK := by unfold clsVal; rw [hh.1]; exact G.isxK
  hu := G.hu
  hb := G.hb
  tk := G.tk
  bi := G.bi
  con := G.con
  cls := by rw [hh.1]; exact G.cls
  bcl := G.bcl
  isaN := by rw [hh.1]; exact G.isaN
  isaI := by unfold clsVal; rw [hh.1]; exact G.isaI
  call := by rw [hh.1]; exact G.call
  hfn := by rw [hh.1]; exact G.hfn
  fld := by rw [hh.1]; exact G.fld
  meth := by rw [hh.1]; exact G.meth
  make := by rw [hh.1]; exact G.make
abbrev noW : WX := fun _ _ _ _ => False
theorem Good.blk {Y : Sx} {c : Ctx} {b : Nat} {Bs : List Nat} {W : WX} {M : MC} {X : Cx} (G : Good Y c b Bs W M X) (hn : Y.exs = none) (s : Shared) (H : Hp) (scope : Scope) (C : Addr) (cl : List (Str × Addr)) (fp : List Addr) :
    Good Y c b Bs noW (M.at (relS scope M.sc)) (X.blk s H scope (compEnvC scope cl C X.env) fp) where
  hN := G.hN
  hK := G.hK
  nd := G.nd
  hsc := by
    show relS scope X.env.scope = relS scope M.sc
    rw [G.hsc]
  calm := G.calm
  exs := G.exs
  cx := G.cx
  exn := fun z hz => by rw [hn] at hz; cases hz
  isxK := G.isxK
  hu := G.hu
  hb := G.hb
  tk := by
    rintro u s' ⟨_, _, _, _, _, _, _, _, _, _, _, _, _, _, _, _, h⟩
    exact h
  bi := G.bi
  con := G.con
  cls := G.cls
  bcl := G.bcl
  isaN := G.isaN
  isaI := G.isaI
  hfn := fun f hf => by
    obtain ⟨k, a, fd, ps, h⟩ := (G.hfn f hf).get
    exact ⟨k, a, fd, ps, h⟩
  call := fun f hf => by
    obtain ⟨k, a, fd, ps, h⟩ := (G.call f hf).get
    exact ⟨k, a, fd, ps, h⟩
  fld := G.fld
  meth := fun h C m f hf => by
    obtain ⟨k, a, fd, ps, h⟩ := (G.meth h C m f hf).get
    exact ⟨k, a, fd, ps, h⟩
  make := fun h C hC => by
    obtain ⟨h1, h2, h3⟩ := G.make h C hC
    exact ⟨h1, h2, h3⟩
section
variable {Y : Sx} {μ : List Addr} {H : Hp} {Bs : List Nat} {S : Store} {p : Addr}
theorem CellOk.show {q : List Addr} (hq : ∀ a ∈ q, a = p) {a : Addr} {ce : Cell} (h : CellOk (Y.hide p) μ H a ce) : CellOk Y (μ ++ q) H a ce := by
  cases h with
  | lst h r => exact .lst h (r.show hq)
  | dicK h r => exact .dicK h (r.show hq)
  | dicT h r => exact .dicT h (r.show hq)
  | ins h hn r => exact .ins h hn (r.show hq)
theorem World.bare (w : World (Y.hide p) Bs μ H S) : World Y Bs μ H S where
  len := w.len
  nd := w.nd
  cells := fun i a ce h1 h2 => by
    have := (w.cells i a ce h1 h2).show (q := []) (by simp)
    rwa [List.append_nil] at this
  lims := w.lims
  bs := w.bs
  hidT := fun a z => w.hidT a (.inl z)
  hidC := fun a ha z => w.hidC a ha (.inl z)
theorem World.adopt {ce : Cell} (w : World (Y.hide p) Bs μ H S) (hv : ¬ Y.hid p) (new : CellOk Y (μ ++ [p]) H p ce) : World Y Bs (μ ++ [p]) H (S ++ [ce]) where
  len := by simp [w.len]
  nd := by
    rw [List.nodup_append]
    refine ⟨w.nd, by simp, fun a ha b hb' => ?_⟩
    have : b = p := by simpa using hb'
    rintro rfl
    exact w.hidC _ ha (.inr this)
  cells := fun i a d h1 h2 => by
    by_cases hi : i < S.length
    · rw [List.getElem?_append_left hi] at h2
      rw [List.getElem?_append_left (by rw [w.len]; exact hi)] at h1
      exact (w.cells i a d h1 h2).show (by simp)
    · have hl := (List.getElem?_eq_some_iff.mp h2).1
      have e1 : i = S.length := by simp at hl; omega
      subst e1
      rw [List.getElem?_append_right (Nat.le_refl _)] at h2
      rw [List.getElem?_append_right (by rw [w.len]; exact Nat.le_refl _)] at h1
      simp [w.len] at h1 h2
      subst h1; subst h2
      exact new
  lims := fun i d h b hb' hlt => by
    have := w.bs b hb'
    rw [List.getElem?_append_left (by omega)] at h
    exact w.lims i d h b hb' hlt
  bs := fun b h => by have := w.bs b h; simp; omega
  hidT := fun a z => w.hidT a (.inl z)
  hidC := fun a ha z => by
    rcases List.mem_append.mp ha with q | q
    · exact w.hidC a q (.inl z)
    · have : a = p := by simpa using q
      subst this
      exact hv z
end
def lcF (tg : Tg) (me : Env → Store → R D) : D → Env → Store → R (Option D) := fun d ρ S => match asg tg d ρ with | some ρ' => (me ρ' S).bind fun x S' => .ok (some x) S' | none => .bad
def lcFI (tg : Tg) (mq me : Env → Store → R D) : D → Env → Store → R (Option D) := fun d ρ S => match asg tg d ρ with
        | some ρ' => (mq ρ' S).bind fun k S' => match truD (vw S' k) with
          | some true => (me ρ' S').bind fun x S' => .ok (some x) S'
          | some false => .ok none S'
          | none => .bad
        | none => .bad
theorem wipe_wipe {σ : L2.St} {vs : List Nat} : wipe (wipe σ vs) vs = wipe σ vs := by
  refine List.ext_getElem? fun j => ?_
  rw [wipe_get, wipe_get]
  by_cases hj : j ∈ vs
  · rw [if_pos hj, if_pos hj]; cases σ[j]? <;> rfl
  · rw [if_neg hj, if_neg hj]
def teX (ca : CA) (Bs : List Nat) (me : Env → Store → R D) : TE := fun σ H Q => ∃ Y : Sx, (Y.ca = ca ∧ Y.exs = none) ∧ tI Y Bs noW me σ H Q
def ttX (ca : CA) (Bs : List Nat) (mq : Env → Store → R D) : TT := fun σ H Q => ∃ Y : Sx, (Y.ca = ca ∧ Y.exs = none) ∧ tT Y Bs noW (truM mq) σ H Q
theorem step_F {ca : CA} {Bs : List Nat} {tg : Tg} {me : Env → Store → R D} {σ : L2.St} {ρ : Env} : Step ca Bs (lcF tg me) (gA tg) tYes (teX ca Bs me) tg.slots σ ρ := by
  intro Y μ H S x d K hca w en rd k
  unfold lcF at k
  cases ha : asg tg d ρ with
  | none => rw [ha] at k; exact k.elim
  | some ρ' =>
    rw [ha] at k
    refine ⟨Y, μ, Bs, S, _, d, ρ', fun i _ => Sx.free_none hca.2 i, w, en, rd, ha, fun σ' en' hw => ⟨hw.trans wipe_wipe, ?_⟩⟩
    show teX ca Bs me σ' H fun y H4 => K (some y) H4
    refine ⟨Y, hca, μ, ρ', S, w, en', ?_⟩
    revert k
    dsimp only
    cases me ρ' S with
    | ok y S' => intro k; exact fun μ' H' v x w r => k μ' H' v x w r
    | err _ _ _ _ => intro k; exact k.elim
    | bad => intro k; exact k.elim
theorem step_FI {ca : CA} {Bs : List Nat} {tg : Tg} {mq me : Env → Store → R D} {σ : L2.St} {ρ : Env} : Step ca Bs (lcFI tg mq me) (gA tg) (ttX ca Bs mq) (teX ca Bs me) tg.slots σ ρ := by
  intro Y μ H S x d K hca w en rd k
  unfold lcFI at k
  cases ha : asg tg d ρ with
  | none => rw [ha] at k; exact k.elim
  | some ρ' =>
    rw [ha] at k
    refine ⟨Y, μ, Bs, S, _, d, ρ', fun i _ => Sx.free_none hca.2 i, w, en, rd, ha, fun σ' en' hw => ⟨hw.trans wipe_wipe, Y, hca, μ, ρ', S, w, en', ?_⟩⟩
    revert k
    dsimp only
    unfold truM
    cases mq ρ' S with
    | ok y S' =>
      simp only [R.bind]
      cases ht : truD (vw S' y) with
      | none => intro k; exact k.elim
      | some t =>
        cases t with
        | false =>
          intro k μ' H' b x' w' e
          subst e
          rw [if_neg (by simp)]
          exact k μ' H' x' w'
        | true =>
          intro k μ' H' b x' w' e
          subst e
          rw [if_pos rfl]
          refine ⟨Y, hca, μ', ρ', S', w', en'.ext x', ?_⟩
          revert k
          cases me ρ' S' with
          | ok z S'' => intro k; exact fun μ2 H2 v x2 w2 r => k μ2 H2 v (x'.trans x2) w2 r
          | err _ _ _ _ => intro k; exact k.elim
          | bad => intro k; exact k.elim
    | err _ _ _ _ => intro k; exact k.elim
    | bad => intro k; exact k.elim
def lcM (f : D → Env → Store → R (Option D)) (vs : List Nat) (mi : Env → Store → R Walk) : Env → Store → R D := fun ρ S => (mi ρ S).bind fun w S1 => (lcR f w (wipeE ρ vs) S1).bind fun ds S2 => .ok (.lst ds) S2
def lcMN (f : D → Env → Store → R (Option D)) (vs : List Nat) (mi : Env → Store → R Walk) : Env → Store → R D := fun ρ S => (mi ρ S).bind fun w S1 => (lcR f w (wipeE ρ vs) S1).bind fun ds S2 => .ok (.ref S2.length) (S2 ++ [.lst ds])
section
variable {X : Cx} {Y : Sx} {Bs : List Nat} {W : WX} {b : Nat} {M : MC} {c : Ctx} {f : D → Env → Store → R (Option D)} {g : TG} {tt : TT} {te : TE} {vs : List Nat} {mi : Env → Store → R Walk} {σ : L2.St} {H : Hp} {Q : VK}
theorem lcR_ok {w : Walk} {ρ : Env} {S S' : Store} {ds : List D} (h : lcR f w ρ S = .ok ds S') : w.items.length ≤ LIM ∧ lcL f w ρ w.items S = .ok ds S' := by
  unfold lcR at h
  split at h
  · exact ⟨‹_›, h⟩
  · cases h
theorem lcL_noErr {w : Walk} {ρ : Env} : ∀ {l : List D} {S : Store} {C ns ds S'}, lcL f w ρ l S ≠ .err C ns ds S'
  | [], S, C, ns, ds, S', h => by
    simp only [lcL] at h
    split at h <;> cases h
  | d :: l, S, C, ns, ds, S', h => by
    simp only [lcL] at h
    split at h
    · split at h
      · exact lcL_noErr h
      · split at h <;> cases h
      · cases h
    · cases h
theorem lcR_noErr {w : Walk} {ρ : Env} {S : Store} {C ns ds S'} : lcR f w ρ S ≠ .err C ns ds S' := by
  unfold lcR
  split
  · exact lcL_noErr
  · intro h; cases h
theorem lc_tLc (hx : Y.exs = none) (st : ∀ σ ρ, Step Y.ca Bs f g tt te vs σ ρ) (h : tI Y Bs W (lcM f vs mi) σ H Q) : tLc (tW Y Bs W mi) g tt te vs σ H Q := by
  obtain ⟨μ, ρ, S, w, en, k⟩ := h
  refine tX.bind w en k fun wk S1 μ1 H1 J w1 en1 x1 hJ k1 => ?_
  intro Dd hD
  cases hr : lcR f wk (wipeE ρ vs) S1 with
  | ok ds S2 =>
    rw [hr] at k1
    obtain ⟨hlim, hf⟩ := lcR_ok hr
    refine lc_read w1 (en1.wipe hx vs) hJ hlim hf (st _ _) hx hD fun μ' H' acc w' hH r x => ?_
    refine k1 μ' H' _ x w'.bare (.lst hH ⟨fun m => w'.hidC _ m (.inr rfl), (w1.fresh hD).vis⟩ ?_)
    have := r.show (q := []) (by simp)
    rwa [List.append_nil] at this
  | err _ _ _ _ => exact absurd hr lcR_noErr
  | bad => rw [hr] at k1; exact k1.elim
theorem lc_tLcN (hx : Y.exs = none) (st : ∀ σ ρ, Step Y.ca Bs f g tt te vs σ ρ) (h : tI Y Bs W (lcMN f vs mi) σ H Q) : tLc (tW Y Bs W mi) g tt te vs σ H Q := by
  obtain ⟨μ, ρ, S, w, en, k⟩ := h
  refine tX.bind w en k fun wk S1 μ1 H1 J w1 en1 x1 hJ k1 => ?_
  intro Dd hD
  cases hr : lcR f wk (wipeE ρ vs) S1 with
  | ok ds S2 =>
    rw [hr] at k1
    obtain ⟨hlim, hf⟩ := lcR_ok hr
    refine lc_read w1 (en1.wipe hx vs) hJ hlim hf (st _ _) hx hD fun μ' H' acc w' hH r x => ?_
    have w2 := w'.adopt (ce := .lst ds) (w1.fresh hD).vis (.lst hH (r.show (by simp)))
    refine k1 (μ' ++ [Dd]) H' _ ⟨?_, x.keep, fun a ha n => ?_⟩ w2 (.ref ?_)
    · obtain ⟨r', e⟩ := x.pre
      exact ⟨r' ++ [Dd], by rw [e, List.append_assoc]⟩
    · rcases List.mem_append.mp ha with q | q
      · exact x.new a q n
      · have : a = Dd := by simpa using q
        rw [this]; exact hD
    · rw [← w'.len, List.getElem?_append_right (Nat.le_refl _)]
      simp
  | err _ _ _ _ => exact absurd hr lcR_noErr
  | bad => rw [hr] at k1; exact k1.elim
theorem ownOf_snd (M : MC) (tg : Tg) : (ownOf M tg).map (·.2) = tg.slots := by
  unfold ownOf
  rw [List.map_map]
  exact List.map_id _
theorem locs_blk (G : Good Y c b Bs W M X) {scope : Scope} (s : Shared) (H : Hp) (C : Addr) (cl : List (Str × Addr)) (fp : List Addr) : Locs (M.at scope) (X.blk s H scope (compEnvC scope cl C X.env) fp) where
  hN := G.hN
  nd := G.nd
  calm := G.calm
  loc := fun n h => by
    have h' := locB_ok h
    show ((relS scope X.env.scope).names.lookup n = _ ∨ (relS scope X.env.scope).names.lookup n = _) ∧ ((scope.names.lookup n == some .cell) = true ∨ (relS scope X.env.scope).names.lookup n = _)
    rcases h' with e | e
    · have := lookup_relS_keep (sc := X.env.scope) (k := .local) (by decide) e
      exact ⟨.inl this, .inr this⟩
    · have := lookup_relS_keep (sc := X.env.scope) (k := .cell) (by decide) e
      exact ⟨.inr this, .inl (by rw [e]; rfl)⟩
theorem blk_ok (G : Good Y c b Bs W M X) {tg : Tg} {scope : Scope} (h : compB M tg scope = true) : BlkOk X.N X.env.scope scope (ownOf M tg) := by
  unfold compB at h
  rw [Bool.and_eq_true] at h
  rw [G.hN, G.hsc]
  exact blkOk_by h.2
theorem compB_calm {tg : Tg} {scope : Scope} (h : compB M tg scope = true) : M.calm = true := by
  unfold compB at h
  rw [Bool.and_eq_true] at h
  exact h.1
theorem names_free (G : Good Y c b Bs W M X) : ∀ {is : List Nat} {xs : List Expr}, namesMt M is xs = true → ∀ i ∈ is, Y.free i
  | [], _, _, i, hi => by cases hi
  | j :: is, [], h, _, _ => by simp [namesMt] at h
  | j :: is, x :: xs, h, i, hi => by
    cases x with
    | Name n p =>
      simp only [namesMt, Bool.and_eq_true, decide_eq_true_eq] at h
      rcases List.mem_cons.mp hi with e | e
      · rw [e]; exact G.free h.2.1
      · exact names_free G h.2.2.2 i e
    | _ => simp [namesMt] at h
theorem tg_free (G : Good Y c b Bs W M X) {tg : Tg} {t : Expr} (h : tg.mt M t = true) : ∀ i ∈ tg.slots, Y.free i := by
  cases tg with
  | one j =>
    unfold Tg.mt at h
    cases t with
    | Name n p =>
      simp only [Bool.and_eq_true, decide_eq_true_eq] at h
      intro i hi
      have : i = j := by simpa [Tg.slots] using hi
      rw [this]; exact G.free h.2.1
    | _ => cases h
  | many is =>
    unfold Tg.mt at h
    cases t with
    | Tuple xs kk p =>
      simp only [Bool.and_eq_true] at h
      exact names_free G h.2
    | _ => cases h
end
end CL
namespace CL
open PySem PySem.Spec PyProof.Rows L2
theorem putK_keys {κ : Type} [DecidableEq κ] (g : κ → D) (hg : ∀ a b, D.eqv (g a) (g b) = decide (a = b)) (k : κ) {Y : Sx} {μ : List Addr} {H : Hp} {v : V} {d : D} (rv : Rep Y μ H v d) : ∀ {kvs : List (κ × V)} {ds : List D}, RepL Y μ H (kvs.map (·.2)) ds →
    (putK (g k) d (kvs.map fun p => g p.1) ds).1 = (L2.putK kvs k v).map (fun p => g p.1) ∧ RepL Y μ H ((L2.putK kvs k v).map (·.2)) (putK (g k) d (kvs.map fun p => g p.1) ds).2 := by
  intro kvs ds r
  have ha : ((kvs.map fun p => g p.1).any fun x => D.eqv x (g k)) = kvs.any fun kv => decide (kv.1 = k) := by
    rw [List.any_map]
    congr 1
    funext p
    exact hg p.1 k
  unfold putK L2.putK
  rw [ha]
  by_cases q : (kvs.any fun kv => decide (kv.1 = k)) = true
  · rw [if_pos q, if_pos q]
    refine ⟨?_, ?_⟩
    · rw [List.map_map]
      refine List.map_congr_left fun p _ => ?_
      simp only [Function.comp]
      split <;> rfl
    · clear q ha
      induction kvs generalizing ds with
      | nil => cases r; exact .nil
      | cons p kvs ih =>
        cases r with
        | cons h t =>
          simp only [List.map_cons, List.zipWith_cons_cons]
          refine .cons ?_ (ih t)
          rw [hg]
          by_cases e : p.1 = k
          · rw [if_pos e]; simp only [e, decide_true, if_true]; exact rv
          · rw [if_neg e]; simp only [e, decide_false, Bool.false_eq_true, if_false]; exact h
  · rw [if_neg q, if_neg q]
    refine ⟨by simp, ?_⟩
    rw [List.map_append]
    exact r.append (.cons rv .nil)
theorem vw_key {S : Store} {t : Bool} {k : D} (h : keyOf t k = true) : vw S k = k := by
  cases k <;> first
    | rfl
    | simp [keyOf] at h
section
variable {X : Cx} {Y : Sx} {Bs : List Nat} {W : WX} {b : Nat} {M : MC} {c : Ctx}
theorem Good.calmW (G : Good Y c b Bs W M X) : Good Y c b Bs noW M X where
  hN := G.hN
  hK := G.hK
  nd := G.nd
  hsc := G.hsc
  calm := G.calm
  exs := G.exs
  cx := G.cx
  exn := G.exn
  isxK := G.isxK
  hu := G.hu
  hb := G.hb
  tk := by
    rintro u s' ⟨_, _, _, _, _, _, _, _, _, _, _, _, _, _, _, _, h⟩
    exact h.elim
  bi := G.bi
  con := G.con
  cls := G.cls
  bcl := G.bcl
  isaN := G.isaN
  isaI := G.isaI
  call := G.call
  hfn := G.hfn
  fld := G.fld
  meth := G.meth
  make := G.make
theorem te_okD {x : Expr} {m : Env → Store → R D} (h : ∀ Y' : Sx, (Y'.ca = Y.ca ∧ Y'.exs = none) → PE X x (tI Y' Bs noW m)) : PE X x (teX Y.ca Bs m) :=
  ⟨fun pins s σ H Q I ⟨Y', hca, k⟩ => (h Y' hca).run pins s σ H Q I k⟩
theorem ext_in {μ μ2 : List Addr} {H H2 : Hp} {q : Addr} {o o2 : HO} (hq : H q = none) (x : Ext μ (upd H q o) μ2 H2) : Ext μ H (μ2 ++ [q]) (upd H2 q o2) where
  pre := by
    obtain ⟨r, e⟩ := x.pre
    exact ⟨r ++ [q], by rw [e, List.append_assoc]⟩
  keep := fun a u n h => by
    have ne : a ≠ q := fun e => by rw [e, hq] at h; cases h
    rw [upd_ne ne]
    exact x.keep a u n (by rw [upd_ne ne]; exact h)
  new := fun a h n => by
    rcases List.mem_append.mp h with h | h
    · have := x.new a h n
      by_cases e : a = q
      · rw [e]; exact hq
      · rwa [upd_ne e] at this
    · rw [List.mem_singleton.mp h]; exact hq
theorem s_dic1 {x y : Expr} {p : Pos} {mk mv : Env → Store → R D} (hn : Y.exs = none) (hk : ∀ Y' : Sx, (Y'.ca = Y.ca ∧ Y'.exs = none) → PE X x (tI Y' Bs noW mk)) (hv : ∀ Y' : Sx, (Y'.ca = Y.ca ∧ Y'.exs = none) → PE X y (tI Y' Bs noW mv)) :
    PE X (.Dict [some x] [y] p) (tI Y Bs W fun ρ S => (mk ρ S).calm.bind fun k S1 => (mv ρ S1).calm.bind fun v S2 => dic1R k v S2) := by
  refine (pe_disp (trs := [(teX Y.ca Bs mk, teX Y.ca Bs mv)]) (pps_cons (te_okD hk) (te_okD hv) pps_nil) rfl rfl (by simp) (by simp)).imp ?_
  rintro σ H Q ⟨μ, ρ, S, w, en, k⟩ q hq
  have w0 := w.hide (o := .dK []) hq
  have en0 : EnvOk (Y.hide q) μ (upd H q (.dK [])) σ ρ := en.move (.laid hq) (.hide hq) rfl
  refine ⟨Y.hide q, ⟨rfl, hn⟩, μ, ρ, S, w0, en0, ?_⟩
  dsimp only at k
  cases hm : mk ρ S with
  | err _ _ _ _ => rw [hm] at k; exact k.elim
  | bad => rw [hm] at k; exact k.elim
  | ok kd S1 =>
    rw [hm] at k
    intro μ1 H1 kv x1 w1 r1
    refine ⟨Y.hide q, ⟨rfl, hn⟩, μ1, ρ, S1, w1, en0.ext x1, ?_⟩
    simp only [R.calm, R.bind] at k
    cases hm2 : mv ρ S1 with
    | err _ _ _ _ => rw [hm2] at k; exact k.elim
    | bad => rw [hm2] at k; exact k.elim
    | ok vd S2 =>
      rw [hm2] at k
      simp only at k
      intro μ2 H2 vv x2 w2 r2
      have xx := x1.trans x2
      refine ⟨xx.keep q _ (w.out hq) upd_same, ?_⟩
      unfold dic1R at k
      split at k
      · rename_i hkey
        have fin_ : ∀ (kk : Key), kd = kD kk → Q (.ref q) (upd H2 q (.dK [(kk, vv)])) := by
          intro kk e
          subst e
          have wd := (w2.hid (o := .dK [(kk, vv)]) (show (Y.hide q).hid q from .inr rfl)).adopt (ce := .dic false [kD kk] [vd]) (w.fresh hq).vis (.dicK (kvs := [(kk, vv)]) upd_same (.cons ((r2.hid (show (Y.hide q).hid q from .inr rfl)).show (by simp)) .nil))
          refine k (μ2 ++ [q]) _ _ (ext_in hq xx) wd (.ref ?_)
          rw [← w2.len, List.getElem?_append_right (Nat.le_refl _)]
          simp
        cases r1 with
        | int i => exact ⟨[(.inl i, vv)], rfl, by simp, fin_ (.inl i) rfl⟩
        | str l => exact ⟨[(.inr ⟨l.toArray⟩, vv)], rfl, by simp, fin_ (.inr ⟨l.toArray⟩) (by simp [kD])⟩
        | _ => simp [keyOf] at hkey
      · exact k.elim
theorem pairs_rep {μ : List Addr} {H : Hp} : ∀ {xs : List V} {ds : List D} {acc r : List D × List D} {kvs : List (Key × V)}, RepL Y μ H xs ds → dictPD ds acc = some r → acc.1 = kvs.map (fun p => kD p.1) → RepL Y μ H (kvs.map (·.2)) acc.2 →
    ∃ (ps : List Addr) (more : List (Key × V)), xs = ps.map V.ref ∧ Paired (fun p kv => H p = some (.tup [kV kv.1, kv.2])) ps more ∧ r.1 = (mergeK kvs more).map (fun p => kD p.1) ∧ RepL Y μ H ((mergeK kvs more).map (·.2)) r.2 ∧ (mergeK kvs more).length ≤ kvs.length + xs.length
  | _, _, acc, r, kvs, .nil, h, h1, h2 => by
    simp only [dictPD, Option.some.injEq] at h
    subst h
    exact ⟨[], [], rfl, .nil, h1, h2, by simp [mergeK]⟩
  | _, _, acc, r, kvs, .cons (v := v) (vs := vs) (d := d) (ds := ds) hd ht, h, h1, h2 => by
    cases hd with
    | @tup a zs es hH n rl =>
      match es, rl, h with
      | [k, x], rl, h =>
        obtain ⟨kv, xv, rfl, rk, rx⟩ := rep2 rl
        simp only [dictPD] at h
        split at h
        · rename_i hkey
          obtain ⟨kk, ek, ekv⟩ : ∃ kk : Key, k = kD kk ∧ kv = kV kk := by
            cases rk with
            | int i => exact ⟨.inl i, rfl, rfl⟩
            | str l => exact ⟨.inr ⟨l.toArray⟩, by simp [kD], rfl⟩
            | _ => simp [keyOf] at hkey
          subst ek ekv
          obtain ⟨p1, p2⟩ := putK_keys kD eqv_kD kk rx h2
          rw [← h1] at p1 p2
          obtain ⟨ps, more, e1, e2, e3, e4, e5⟩ := pairs_rep ht h p1 p2
          refine ⟨a :: ps, (kk, xv) :: more, by rw [e1]; rfl, .cons hH e2, e3, e4, ?_⟩
          have l1 : (L2.putK kvs kk xv).length ≤ kvs.length + 1 := by
            unfold L2.putK
            split
            · rw [List.length_map]; omega
            · rw [List.length_append]; simp
          have : (mergeK kvs ((kk, xv) :: more)).length ≤ (L2.putK kvs kk xv).length + vs.length := e5
          rw [List.length_cons]
          omega
        · cases h
      | [], _, h => simp [dictPD] at h
      | [_], _, h => simp [dictPD] at h
      | _ :: _ :: _ :: _, _, h => simp [dictPD] at h
    | _ => simp [dictPD] at h
theorem s_dictP {n : Str} {q p : Pos} {x : Expr} {ma : Env → Store → R D} (G : Good Y c b Bs W M X) (hcm : M.calm = true) (hn : gnB M.sc "dict" n = true) (hs : notStar x = true) (ha : PE X x (tI Y Bs W ma)) :
    PE X (.Call (.Name n q) [x] [] p) (tI Y Bs W fun ρ S => (ma ρ S).bind fun d S1 => dictPR (vw S1 d) S1) := by
  obtain ⟨rfl, h4, h5⟩ := gnB_of hn
  refine (pe_callTy (call_dictP (G.calm hcm)) (G.gl h4) (G.bi "dict" (by decide +kernel)) (by decide +kernel) (pa_cons ha pa_nil (starEach_of hs)) (by decide +kernel) (okN_db h5) (starEach_of hs) rfl).imp ?_
  rintro σ H Q ⟨μ, ρ, S, w, en, k⟩
  refine tX.bind w en k fun d S1 μ1 H1 v w1 en1 x1 r1 k1 => ?_
  unfold dictPR at k1
  cases hv : vw S1 d with
  | lst ds =>
    rw [hv] at k1
    simp only at k1
    split at k1
    · rename_i hlen
      cases hp : dictPD ds ([], []) with
      | none => rw [hp] at k1; exact k1.elim
      | some r =>
        rw [hp] at k1
        simp only at k1
        obtain ⟨a, xs, rfl, hH, rl⟩ := lst_at w1 r1 hv
        obtain ⟨ps, more, rfl, e2, e3, e4, e5⟩ := pairs_rep (kvs := []) rl hp rfl .nil
        refine ⟨a, ps, more, rfl, .of hH, ?_, fun q' hq => ?_⟩
        · clear e3 e4 e5 rl hH
          induction e2 with
          | nil => exact .nil
          | cons h _ ih => exact .cons (.of h) ih
        · have cell : CellOk Y (μ1 ++ [q']) (upd H1 q' (.dK (mergeK [] more))) q' (.dic false r.1 r.2) := by
            rw [e3]
            exact .dicK upd_same (e4.ext (.cell hq))
          exact KR.cell k1 w1 hq cell
    · exact k1.elim
  | _ => rw [hv] at k1; exact k1.elim
theorem ltCps_eq : ∀ a b : List Nat, ltCps a b = decide (a < b)
  | [], [] => by simp [ltCps]
  | [], _ :: _ => by simp [ltCps]
  | _ :: _, [] => by simp [ltCps]
  | a :: r, b :: t => by
    rw [ltCps, ltCps_eq r t, Bool.eq_iff_iff]
    simp [List.cons_lt_cons_iff]
theorem risingS_pw : ∀ (p : Str) (l : List Str), risingS p l = true → (p :: l).Pairwise (fun a b => leT a.cps.toList b.cps.toList = true)
  | p, [], _ => by simp
  | p, x :: r, h => by
    have h' : (!ltCps x.cps.toList p.cps.toList && risingS x r) = true := h
    rw [Bool.and_eq_true, ltCps_eq] at h'
    have ih := risingS_pw x r h'.2
    rw [List.pairwise_cons]
    refine ⟨fun y hy => ?_, ih⟩
    have h1 : leT p.cps.toList x.cps.toList = true := h'.1
    rcases List.mem_cons.mp hy with rfl | hy
    · exact h1
    · have h2 := (List.pairwise_cons.mp ih).1 y hy
      simp only [leT, Bool.not_eq_true', decide_eq_false_iff_not] at *
      exact List.le_trans (l₁ := p.cps.toList) (l₂ := x.cps.toList) (l₃ := y.cps.toList) h1 h2
theorem sortedS_pw : ∀ (l : List Str), sortedS l = true → l.Pairwise (fun a b => leT a.cps.toList b.cps.toList = true)
  | [], _ => .nil
  | x :: r, h => risingS_pw x r h
theorem sorted_is (ls : List (List Nat)) (ys : List Str) (hp : ys.Perm (ls.map fun l => (⟨l.toArray⟩ : Str))) (hs : sortedS ys = true) : ys = (ls.mergeSort leT).map fun l => (⟨l.toArray⟩ : Str) := by
  have tr : ∀ a b c : List Nat, leT a b = true → leT b c = true → leT a c = true := fun a b c h1 h2 => by
    simp only [leT, Bool.not_eq_true', decide_eq_false_iff_not] at *
    exact List.le_trans (l₁ := a) (l₂ := b) (l₃ := c) h1 h2
  have to : ∀ a b : List Nat, (leT a b || leT b a) = true := fun a b => by
    rw [Bool.or_eq_true]
    simp only [leT, Bool.not_eq_true', decide_eq_false_iff_not]
    exact List.le_total a b
  have h1 := List.pairwise_mergeSort (le := leT) tr to ls
  have h2 : ((ls.mergeSort leT).map fun l => (⟨l.toArray⟩ : Str)).Pairwise (fun a b => leT a.cps.toList b.cps.toList = true) := by
    rw [List.pairwise_map]
    simpa using h1
  have pm : ys.Perm ((ls.mergeSort leT).map fun l => (⟨l.toArray⟩ : Str)) := hp.trans ((List.mergeSort_perm ls leT).map _).symm
  refine List.Perm.eq_of_pairwise (le := fun a b : Str => leT a.cps.toList b.cps.toList = true) (fun a b _ _ q1 q2 => ?_) (sortedS_pw ys hs) h2 pm
  simp only [leT, Bool.not_eq_true', decide_eq_false_iff_not] at q1 q2
  have e := List.le_antisymm (as := a.cps.toList) (bs := b.cps.toList) q1 q2
  obtain ⟨⟨a⟩⟩ := a
  obtain ⟨⟨b⟩⟩ := b
  simp only at e
  rw [e]
theorem s_sdic {n : Str} {q p : Pos} {x : Expr} {ma : Env → Store → R D} (G : Good Y c b Bs W M X) (hcm : M.calm = true) (hn : gnB M.sc "sorted" n = true) (hs : notStar x = true) (ha : PE X x (tI Y Bs W ma)) :
    PE X (.Call (.Name n q) [x] [] p) (tI Y Bs W fun ρ S => (ma ρ S).bind fun d S1 => R.of S1 (sdicD (vw S1 d))) := by
  obtain ⟨rfl, h4, h5⟩ := gnB_of hn
  refine (pe_callB (call_sortedD (G.calm hcm)) (G.gl h4) (G.bi "sorted" (by decide +kernel)) (by decide +kernel) (pa_cons ha pa_nil (starEach_of hs)) (by decide +kernel) (okN_db h5) (starEach_of hs) rfl).imp ?_
  rintro σ H Q ⟨μ, ρ, S, w, en, k⟩
  refine tX.bind w en k fun d S1 μ1 H1 v w1 en1 x1 r1 k1 => ?_
  obtain ⟨e, he, k2⟩ := k1.of
  have vd := view_of w1 r1
  generalize vw S1 d = d' at vd he
  cases vd with
  | @dicK a kvs vs hH rl =>
    simp only [sdicD] at he
    split at he
    · rename_i ls hl
      split at he
      · rename_i h64
        simp only [Option.some.injEq] at he
        subst he
        have keys : ∀ {kvs : List (Key × V)} {ls : List (List Nat)}, txts (kvs.map fun p => kD p.1) = some ls → kvs.map (·.1) = (ls.map fun l => (⟨l.toArray⟩ : Str)).map Sum.inr := by
          intro kvs
          induction kvs with
          | nil => intro ls h; simp only [List.map_nil, txts, Option.some.injEq] at h; subst h; rfl
          | cons z kvs ih =>
            intro ls h
            obtain ⟨kk, vv⟩ := z
            cases kk with
            | inl i => simp [txts, kD] at h
            | inr s =>
              simp only [List.map_cons, kD, txts, Option.map_eq_some_iff] at h
              obtain ⟨l, h1, rfl⟩ := h
              rw [List.map_cons, ih h1]
              rfl
        refine ⟨a, kvs, ls.map fun l => ⟨l.toArray⟩, rfl, .of hH, keys hl, by rw [List.length_map]; exact h64, fun ys q' pm so hq => ?_⟩
        rw [sorted_is ls ys pm so, List.map_map]
        have rp : ∀ (H' : Hp) (l : List (List Nat)), RepL Y μ1 H' (l.map (V.str ∘ fun l => (⟨l.toArray⟩ : Str))) (l.map .str) := by
          intro H' l
          induction l with
          | nil => exact .nil
          | cons z l ih => exact .cons (.str z) ih
        exact k2 μ1 _ _ (.laid hq) (w1.laid hq) (.lst upd_same (w1.fresh hq) (rp _ _))
      · cases he
    · cases he
  | _ => cases he
end
end CL
namespace CL
open PySem PySem.Spec PyProof.Rows L2
section
variable {Y : Sx} {μ : List Addr} {H : Hp} {Bs : List Nat} {S : Store}
theorem res_list {n k : Nat} (ih : ∀ (v : V) (d : D), Rep Y μ H v d → (res n S k d).lim n = true → Rep Y (μ.take n) H v (res n S k d)) : ∀ {vs : List V} {ds : List D}, RepL Y μ H vs ds → D.limL n (ds.map (res n S k)) = true → RepL Y (μ.take n) H vs (ds.map (res n S k))
  | _, _, .nil, _ => .nil
  | _, _, .cons h t, q => by
    rw [List.map_cons, D.limL, Bool.and_eq_true] at q
    exact .cons (ih _ _ h q.1) (res_list ih t q.2)
theorem res_rep {n : Nat} (w : World Y Bs μ H S) : ∀ (k : Nat) (v : V) (d : D), Rep Y μ H v d → (res n S k d).lim n = true → Rep Y (μ.take n) H v (res n S k d)
  | 0, v, d, r, q => r.cut (by simpa [res] using q)
  | k + 1, v, d, r, q => by
    have ih := res_rep (n := n) w k
    cases r with
    | tup h m r =>
      simp only [res, D.lim] at q ⊢
      exact .tup h m.cut (res_list ih r q)
    | lst h m r =>
      simp only [res, D.lim] at q ⊢
      exact .lst h m.cut (res_list ih r q)
    | way h ho m r =>
      simp only [res, D.lim] at q ⊢
      exact .way h ho m.cut (res_list ih r q)
    | ins h m hn r =>
      simp only [res, D.lim] at q ⊢
      exact .ins h m.cut hn (res_list ih r q)
    | @ref a i hi =>
      unfold res at q ⊢
      by_cases hlt : i < n
      · rw [if_pos hlt] at q ⊢
        exact (Rep.ref hi).cut q
      · rw [if_neg hlt] at q ⊢
        cases hc : S[i]? with
        | none =>
          rw [hc] at q
          simp only [D.lim, decide_eq_true_eq] at q
          exact absurd q hlt
        | some ce =>
          rw [hc] at q
          have co := w.cells i a ce hi hc
          have fr := out_cut w hi hlt
          cases co with
          | lst h r =>
            simp only [D.lim] at q ⊢
            exact .lst h fr (res_list ih r q)
          | dicK h r =>
            simp only [D.lim, Bool.and_eq_true] at q ⊢
            exact .dicK h fr (res_list ih r q.2)
          | dicT h r =>
            simp only [D.lim, Bool.and_eq_true] at q ⊢
            exact .dicT h fr (res_list ih r q.2)
          | ins h hn r =>
            simp only [D.lim] at q ⊢
            exact .ins h fr hn (res_list ih r q)
    | non => exact .non
    | bl b => exact .bl b
    | int i => exact .int i
    | str l => exact .str l
    | dicK h m r => exact (Rep.dicK h m r).cut q
    | dicT h m r => exact (Rep.dicT h m r).cut q
    | scr h => exact (Rep.scr h).cut q
theorem World.nothing (w : World Y Bs μ H S) : World Y [] [] H [] where
  len := rfl
  nd := List.nodup_nil
  cells := fun i a c h _ => by simp at h
  lims := fun i c h => by simp at h
  bs := fun b h => by cases h
  hidT := w.hidT
  hidC := fun a h => by cases h
end
section
variable {X : Cx} {Y : Sx} {Bs : List Nat} {W : WX} {b : Nat} {M : MC} {c : Ctx}
section
variable {x y z : Expr} {p : Pos} {ma mb mc : Env → Store → R D}
theorem cmpR_read {o : CO} {σ : L2.St} {H : Hp} {Q : VK} {μ : List Addr} {ρ : Env} {S : Store} (w : World Y Bs μ H S) (en : EnvOk Y μ H σ ρ)
    (k : KR Y Bs (Rep Y) μ H σ Q W ((ma ρ S).bind fun d S1 => (mb ρ S1).bind fun e S2 => R.of S2 (cmpRD o S2 d e))) : tOp (opB2 Y (cmpD o)) (tI Y Bs W ma) (tI Y Bs W mb) σ H Q := by
  refine tX.bind w en k fun d S1 μ1 H1 u w1 en1 x1 r1 k1 => tX.bind w1 en1 k1 fun e S2 μ2 H2 v w2 en2 x2 r2 k2 => ?_
  obtain ⟨r, hr, k3⟩ := k2.of
  unfold cmpRD at hr
  split at hr
  · rename_i hc
    rw [Bool.and_eq_true] at hc
    simp only [Option.map_eq_some_iff] at hr
    obtain ⟨t, ht, rfl⟩ := hr
    exact ⟨[], [], [], _, _, t, w2.nothing, res_rep (n := 0) w2 8 u d (r1.ext x2) hc.1, res_rep (n := 0) w2 8 v e r2 hc.2, ht, k3 μ2 H2 _ (.refl _ _) w2 (.bl t)⟩
  · cases hr
theorem s_cmpR (G : Good Y c b Bs W M X) (o : CO) (hs : notSet y = true) (ha : PE X x (tI Y Bs W ma)) (hb : PE X y (tI Y Bs W mb)) : PE X (.Compare x [o.op] [y] p) (tI Y Bs W fun ρ S => (ma ρ S).bind fun d S1 => (mb ρ S1).bind fun e S2 => R.of S2 (cmpRD o S2 d e)) := by
  refine (pe_cmpR (op_cmp (Y := Y) G.hu o) ha hb (noMarks_of _ hs)).imp ?_
  rintro σ H Q ⟨μ, ρ, S, w, en, k⟩
  exact cmpR_read w en k
theorem blR_of {o : CO} {S : Store} {d e : D} {d' : D} {S' : Store} (h : R.of S (cmpRD o S d e) = .ok d' S') : ∃ t, d' = .bl t := by
  unfold cmpRD at h
  split at h
  · exact bl_of h
  · cases h
theorem t_cmpR (G : Good Y c b Bs W M X) (o : CO) (hs : notSet y = true) (ha : PE X x (tI Y Bs W ma)) (hb : PE X y (tI Y Bs W mb)) : PT X (.Compare x [o.op] [y] p) (tT Y Bs W (truM fun ρ S => (ma ρ S).bind fun d S1 => (mb ρ S1).bind fun e S2 => R.of S2 (cmpRD o S2 d e))) := by
  refine (pt_cmpR (op_cmp (Y := Y) G.hu o) ha hb (noMarks_of _ hs)).imp ?_
  rintro σ H Q ⟨μ, ρ, S, w, en, k⟩
  exact cmpR_read w en (k.tru (bl_bind fun d S1 => bl_bind fun e S2 d' S' h => blR_of h))
end
theorem rg_cell {a e : Int} {ds : List D} {μ1 : List Addr} {H1 : Hp} {S1 : Store} {σ : L2.St} {Q : VK} (w : World Y Bs μ1 H1 S1) (hd : ds = (List.range (e - a).toNat).map fun (k : Nat) => D.int (a + k)) (k : KR Y Bs (Rep Y) μ1 H1 σ Q W (.ok (.ref S1.length) (S1 ++ [.lst ds]))) : ∀ q, H1 q = none → Q (.ref q) (upd H1 q (.lst (rgV a e))) := by
  intro q hq
  subst hd
  exact KR.cell k w hq (.lst upd_same rg_vals)
theorem s_nlrange1 {n n2 : Str} {q q2 p p2 : Pos} {x : Expr} {ma : Env → Store → R D} (G : Good Y c b Bs W M X) (hcm : M.calm = true) (h2 : gnB M.sc "list" n = true) (h3 : gnB M.sc "range" n2 = true) (hs : notStar x = true) (ha : PE X x (tI Y Bs W ma)) :
    PE X (.Call (.Name n q) [.Call (.Name n2 q2) [x] [] p2] [] p) (tI Y Bs W fun ρ S => (ma ρ S).bind fun d S1 => match lrangeD [d] with | some (.lst l) => .ok (.ref S1.length) (S1 ++ [.lst l]) | _ => .bad) := by
  obtain ⟨rfl, a4, a5⟩ := gnB_of h2
  obtain ⟨rfl, b4, b5⟩ := gnB_of h3
  refine (pe_listRg (G.calm hcm) (G.gl a4) (G.bi "list" (by decide +kernel)) (prg_1 (G.gl b4) (G.bi "range" (by decide +kernel)) ha (starEach_of hs))).imp ?_
  rintro σ H Q ⟨μ, ρ, S, w, en, k⟩
  refine tX.bind w en k fun d S1 μ1 H1 v w1 en1 x1 r1 k1 => ?_
  cases r1 with
  | int i =>
    by_cases hc : -1000000 ≤ i ∧ i ≤ 1000000
    · simp only [lrangeD, if_pos hc] at k1
      refine ⟨i, rfl, ⟨by omega, by omega, by omega, by omega, by omega⟩, rg_cell w1 (a := 0) (e := i) ?_ k1⟩
      simp
    · simp only [lrangeD, if_neg hc] at k1
      exact k1.elim
  | _ =>
    simp only [lrangeD] at k1
    exact k1.elim
theorem s_nlrange2 {n n2 : Str} {q q2 p p2 : Pos} {x y : Expr} {ma mb : Env → Store → R D} (G : Good Y c b Bs W M X) (hcm : M.calm = true) (h2 : gnB M.sc "list" n = true) (h3 : gnB M.sc "range" n2 = true) (hs : notStar x = true) (hs2 : notStar y = true) (ha : PE X x (tI Y Bs W ma)) (hb : PE X y (tI Y Bs W mb)) :
    PE X (.Call (.Name n q) [.Call (.Name n2 q2) [x, y] [] p2] [] p) (tI Y Bs W fun ρ S => (ma ρ S).bind fun d S1 => (mb ρ S1).bind fun e S2 => match lrangeD [d, e] with | some (.lst l) => .ok (.ref S2.length) (S2 ++ [.lst l]) | _ => .bad) := by
  obtain ⟨rfl, a4, a5⟩ := gnB_of h2
  obtain ⟨rfl, b4, b5⟩ := gnB_of h3
  refine (pe_listRg (G.calm hcm) (G.gl a4) (G.bi "list" (by decide +kernel)) (prg_2 (G.gl b4) (G.bi "range" (by decide +kernel)) ha hb (by rw [starEach_of hs, starEach_of hs2]) (starEach_of hs2) (by rw [starEach_of hs2]; rfl))).imp ?_
  rintro σ H Q ⟨μ, ρ, S, w, en, k⟩
  refine tX.bind w en k fun d S1 μ1 H1 v w1 en1 x1 r1 k1 => tX.bind w1 en1 k1 fun e S2 μ2 H2 v2 w2 en2 x2 r2 k2 => ?_
  cases r1 with
  | int i =>
    cases r2 with
    | int j =>
      by_cases hc : -1000000 ≤ i ∧ i ≤ 1000000 ∧ -1000000 ≤ j ∧ j ≤ 1000000
      · simp only [lrangeD, if_pos hc] at k2
        exact ⟨i, j, rfl, rfl, ⟨by omega, by omega, by omega, by omega, by omega⟩, rg_cell w2 rfl k2⟩
      · simp only [lrangeD, if_neg hc] at k2
        exact k2.elim
    | _ =>
      simp only [lrangeD] at k2
      exact k2.elim
  | _ => cases r2 <;> (simp only [lrangeD] at k2; exact k2.elim)
end
end CL
namespace CL
open PySem PySem.Spec PyProof.Rows L2
section
variable {X : Cx} {Y : Sx} {Bs : List Nat} {W : WX} {b : Nat} {M : MC} {c : Ctx} {y t i z : Expr} {scope : Scope} {p : Pos} {tg : Tg} {me mq : Env → Store → R D} {mi : Env → Store → R Walk}
theorem te_ok {X' : Cx} (h : ∀ Y' : Sx, (Y'.ca = Y.ca ∧ Y'.exs = none) → PE X' y (tI Y' Bs noW me)) : PE X' y (teX Y.ca Bs me) :=
  ⟨fun pins s σ H Q I ⟨Y', hca, k⟩ => (h Y' hca).run pins s σ H Q I k⟩
theorem tt_ok {X' : Cx} (h : ∀ Y' : Sx, (Y'.ca = Y.ca ∧ Y'.exs = none) → PT X' y (tT Y' Bs noW (truM me))) : PT X' y (ttX Y.ca Bs me) :=
  ⟨fun pins s σ H Q I ⟨Y', hca, k⟩ => (h Y' hca).run pins s σ H Q I k⟩
variable (G : Good Y c b Bs W M X) (hc : compB M tg scope = true) (ht : tg.mt (M.at scope) t = true) (hs : notSet i = true) (hi : PI X t i (tW Y Bs W mi))
include G hc ht hs hi
theorem s_lcT (he : ∀ (X' : Cx) (Y' : Sx), Good Y' c b Bs noW (M.at (relS scope M.sc)) X' → PE X' y (tI Y' Bs noW me)) :
    PE X (.ListComp y [⟨t, i, [], 0⟩] scope p) (tLc (tW Y Bs W mi) (gA tg) tYes (teX Y.ca Bs me) tg.slots) := by
  have := pe_lc (pos := p) (G.calm (compB_calm hc)) G.nd hi (blk_ok G hc) (fun s H C cl fp => g_tg (locs_blk G s H C cl fp) ht) (fun s H C cl fp => pts_nil) (fun s H C cl fp => te_ok (Y := Y) (me := me) fun Y' hca => he _ Y' ((G.hidden hca (G.bare (compB_calm hc))).blk hca.2 s H scope C cl fp)) (folded_of hs)
  rwa [ownOf_snd] at this
theorem s_lcTI (hq : ∀ (X' : Cx) (Y' : Sx), Good Y' c b Bs noW (M.at (relS scope M.sc)) X' → PT X' z (tT Y' Bs noW (truM mq))) (he : ∀ (X' : Cx) (Y' : Sx), Good Y' c b Bs noW (M.at (relS scope M.sc)) X' → PE X' y (tI Y' Bs noW me)) :
    PE X (.ListComp y [⟨t, i, [z], 0⟩] scope p) (tLc (tW Y Bs W mi) (gA tg) (ttX Y.ca Bs mq) (teX Y.ca Bs me) tg.slots) := by
  have := pe_lc (pos := p) (G.calm (compB_calm hc)) G.nd hi (blk_ok G hc) (fun s H C cl fp => g_tg (locs_blk G s H C cl fp) ht) (fun s H C cl fp => pts_one (tt_ok (Y := Y) (me := mq) fun Y' hca => hq _ Y' ((G.hidden hca (G.bare (compB_calm hc))).blk hca.2 s H scope C cl fp))) (fun s H C cl fp => te_ok (Y := Y) (me := me) fun Y' hca => he _ Y' ((G.hidden hca (G.bare (compB_calm hc))).blk hca.2 s H scope C cl fp)) (folded_of hs)
  rwa [ownOf_snd] at this
end
theorem mt_len {M : MC} : ∀ (es : Es) (xs : List Expr), es.mt M xs = true → es.len = xs.length
  | .nil, xs, h => by
    unfold Es.mt at h
    rw [List.isEmpty_iff] at h
    subst h; rfl
  | .cons e es, [], h => by simp [Es.mt] at h
  | .cons e es, x :: xs, h => by
    simp only [Es.mt, Bool.and_eq_true] at h
    simp [Es.len, mt_len es xs h.2.2]
structure EsOk (Y : Sx) (c : Ctx) (b : Nat) (Bs : List Nat) (W : WX) (X : Cx) (es : Es) (xs : List Expr) : Prop where
  args : PA X xs (tA Y Bs W fun ρ S => evs c b es ρ S)
  ns : allNS xs = true
  and : ∀ p, PE X (.BoolOp .And xs p) (tI Y Bs W fun ρ S => evAnd c b es ρ S)
  or : ∀ p, PE X (.BoolOp .Or xs p) (tI Y Bs W fun ρ S => evOr c b es ρ S)
  andT : ∀ p, PW X (.BoolOp .And xs p) (tT Y Bs W (truM fun ρ S => evAnd c b es ρ S))
  orT : ∀ p, PW X (.BoolOp .Or xs p) (tT Y Bs W (truM fun ρ S => evOr c b es ρ S))
theorem w_no {Y : Sx} {Bs : List Nat} {W : WX} {X : Cx} {x : Expr} {m : Env → Store → R D} (h : ∀ ρ S, m ρ S = .bad) : PW X x (tT Y Bs W (truM m)) :=
  ⟨fun wh pins s σ H Q I ⟨μ, ρ, S, w, en, k⟩ => by unfold truM at k; rw [h] at k; exact k.elim⟩
theorem pt_no {Y : Sx} {Bs : List Nat} {W : WX} {X : Cx} {x : Expr} {m : Env → Store → R D} (h : ∀ ρ S, m ρ S = .bad) : PT X x (tT Y Bs W (truM m)) := (w_no h).pt
theorem es_nil {Y : Sx} {c : Ctx} {b : Nat} {Bs : List Nat} {W : WX} {X : Cx} : EsOk Y c b Bs W X .nil [] :=
  ⟨a_nil, rfl, fun _ => s_no fun _ _ => rfl, fun _ => s_no fun _ _ => rfl, fun _ => w_no fun _ _ => rfl, fun _ => w_no fun _ _ => rfl⟩
theorem es_cons {Y : Sx} {c : Ctx} {b : Nat} {Bs : List Nat} {W : WX} {X : Cx} {e : E} {es : Es} {x : Expr} {xs : List Expr} (hs : notStar x = true) (he : PE X x (tI Y Bs W fun ρ S => ev c b e ρ S)) (ht : PT X x (tT Y Bs W (truM fun ρ S => ev c b e ρ S))) (ih : EsOk Y c b Bs W X es xs) (hl : es.len = xs.length) :
    EsOk Y c b Bs W X (.cons e es) (x :: xs) := by
  refine ⟨a_cons hs he ih.args, by unfold allNS; rw [List.all_cons, hs]; exact ih.ns, ?_, ?_, ?_, ?_⟩
  all_goals
    intro p
    match es, xs, ih, hl with
    | .nil, [], ih, _ => first
      | exact pe_one he
      | exact pw_and1 ht
      | exact pw_or1 ht
    | .cons e2 es2, y :: ys, ih, _ => first
      | exact s_and he (ih.and p)
      | exact s_or he (ih.or p)
      | exact t_and ht (ih.andT p)
      | exact t_or ht (ih.orT p)
    | .nil, _ :: _, _, hl => cases hl
    | .cons _ _, [], _, hl => cases hl
theorem pl_ok {Y : Sx} {Bs : List Nat} {W : WX} {X : Cx} {x : Expr} {m : Env → Store → R D} (pe : PE X x (tI Y Bs W m)) (ht : plainT x = true) : PE X x (tI Y Bs W m) ∧ PT X x (tT Y Bs W (truM m)) := ⟨pe, t_plain ht pe⟩
mutual
theorem E.ok : ∀ (e : E) {Y : Sx} {c : Ctx} {b : Nat} {Bs : List Nat} {W : WX} {M : MC} {X : Cx} {x : Expr}, Good Y c b Bs W M X → e.mt M x = true → PE X x (tI Y Bs W fun ρ S => ev c b e ρ S) ∧ PT X x (tT Y Bs W (truM fun ρ S => ev c b e ρ S))
  | .no, Y, c, b, Bs, W, M, X, x, G, h => ⟨s_no fun _ _ => rfl, pt_no fun _ _ => rfl⟩
  | .var i, Y, c, b, Bs, W, M, X, x, G, h => by
    unfold E.mt at h
    split at h
    · simp only [Bool.and_eq_true, decide_eq_true_eq] at h
      exact pl_ok (s_var (p := _) (W := W) (Bs := Bs) G h.1 h.2.1 h.2.2) rfl
    · cases h
  | .non, Y, c, b, Bs, W, M, X, x, G, h => by
    unfold E.mt at h
    split at h
    · exact pl_ok (s_con pe_non fun _ _ => .non) rfl
    · cases h
  | .bl k, Y, c, b, Bs, W, M, X, x, G, h => by
    unfold E.mt at h
    split at h
    · rw [beq_iff_eq] at h
      subst h
      exact pl_ok (s_con pe_bl fun _ _ => .bl k) rfl
    · cases h
  | .int k, Y, c, b, Bs, W, M, X, x, G, h => by
    unfold E.mt at h
    split at h
    · rw [beq_iff_eq] at h
      subst h
      exact pl_ok (s_con pe_int fun _ _ => .int k) rfl
    · cases h
  | .str k, Y, c, b, Bs, W, M, X, x, G, h => by
    unfold E.mt at h
    split at h
    · rw [decide_eq_true_eq] at h
      subst h
      exact pl_ok (s_con pe_str fun _ _ => .str k) rfl
    · cases h
  | .gcon g, Y, c, b, Bs, W, M, X, x, G, h => by
    unfold E.mt at h
    split at h
    · simp only [Bool.and_eq_true] at h
      exact pl_ok (s_gcon (p := _) (W := W) (Bs := Bs) G h.1 h.2) rfl
    · cases h
  | .tup es, Y, c, b, Bs, W, M, X, x, G, h => by
    unfold E.mt at h
    split at h
    · simp only [Bool.and_eq_true, decide_eq_true_eq] at h
      exact pl_ok (s_tup (p := _) (n := _) (Es.ok es G h.2).args fun ρ S ds S' e => by rw [evs_len es ρ S ds S' e]; exact h.1) rfl
    · cases h
  | .lst es, Y, c, b, Bs, W, M, X, x, G, h => by
    unfold E.mt at h
    split at h
    · simp only [Bool.and_eq_true, decide_eq_true_eq] at h
      exact pl_ok (s_lst (p := _) (Es.ok es G h.2).args fun ρ S ds S' e => by rw [evs_len es ρ S ds S' e]; exact h.1) rfl
    · cases h
  | .newl es, Y, c, b, Bs, W, M, X, x, G, h => by
    unfold E.mt at h
    split at h
    · simp only [Bool.and_eq_true, decide_eq_true_eq] at h
      exact pl_ok (s_newl (p := _) (Es.ok es G h.2).args fun ρ S ds S' e => by rw [evs_len es ρ S ds S' e]; exact h.1) rfl
    · cases h
  | .newdK, Y, c, b, Bs, W, M, X, x, G, h => by
    unfold E.mt at h
    split at h
    · exact pl_ok (s_newdK) rfl
    · cases h
  | .newdT, Y, c, b, Bs, W, M, X, x, G, h => by
    unfold E.mt at h
    split at h
    · exact pl_ok (s_newdT) rfl
    · cases h
  | .bop o a d, Y, c, b, Bs, W, M, X, x, G, h => by
    unfold E.mt at h
    split at h
    · simp only [Bool.and_eq_true, decide_eq_true_eq] at h
      obtain ⟨rfl, h1, h2⟩ := h
      exact pl_ok (s_bop (p := _) o (E.ok a G h1).1 (E.ok d G h2).1) rfl
    · cases h
  | .neg a, Y, c, b, Bs, W, M, X, x, G, h => by
    unfold E.mt at h
    split at h
    · exact pl_ok (s_neg (p := _) (E.ok a G h).1) rfl
    · cases h
  | .cmp o a d, Y, c, b, Bs, W, M, X, x, G, h => by
    unfold E.mt at h
    split at h
    · simp only [Bool.and_eq_true, decide_eq_true_eq] at h
      obtain ⟨rfl, h1, h2, h3⟩ := h
      exact ⟨s_cmp (p := _) G o h1 (E.ok a G h2).1 (E.ok d G h3).1, t_cmp (p := _) G o h1 (E.ok a G h2).1 (E.ok d G h3).1⟩
    · cases h
  | .cmpR o a d, Y, c, b, Bs, W, M, X, x, G, h => by
    unfold E.mt at h
    split at h
    · simp only [Bool.and_eq_true, decide_eq_true_eq] at h
      obtain ⟨rfl, h1, h2, h3⟩ := h
      exact ⟨s_cmpR (p := _) G o h1 (E.ok a G h2).1 (E.ok d G h3).1, t_cmpR (p := _) G o h1 (E.ok a G h2).1 (E.ok d G h3).1⟩
    · cases h
  | .lenum a, Y, c, b, Bs, W, M, X, x, G, h => by
    unfold E.mt at h
    split at h
    · simp only [Bool.and_eq_true] at h
      exact pl_ok (s_lenum (p := _) (q := _) G h.1 h.2.1 h.2.2.1 h.2.2.2.1 (E.ok a G h.2.2.2.2).1) rfl
    · cases h
  | .chain o o' a d f, Y, c, b, Bs, W, M, X, x, G, h => by
    unfold E.mt at h
    split at h
    · simp only [Bool.and_eq_true, decide_eq_true_eq] at h
      obtain ⟨rfl, rfl, h1, h2, h3, h4⟩ := h
      exact ⟨s_chain (p := _) G o o' h1 (E.ok a G h2).1 (E.ok d G h3).1 (E.ok f G h4).1, t_chain (p := _) G o o' h1 (E.ok a G h2).1 (E.ok d G h3).1 (E.ok f G h4).1⟩
    · cases h
  | .and es, Y, c, b, Bs, W, M, X, x, G, h => by
    unfold E.mt at h
    split at h
    · exact ⟨(Es.ok es G h).and _, ((Es.ok es G h).andT _).pt⟩
    · cases h
  | .or es, Y, c, b, Bs, W, M, X, x, G, h => by
    unfold E.mt at h
    split at h
    · exact ⟨(Es.ok es G h).or _, ((Es.ok es G h).orT _).pt⟩
    · cases h
  | .not a, Y, c, b, Bs, W, M, X, x, G, h => by
    unfold E.mt at h
    split at h
    · exact ⟨s_not (p := _) (E.ok a G h).1, t_not (p := _) (E.ok a G h).2⟩
    · cases h
  | .ife q a d, Y, c, b, Bs, W, M, X, x, G, h => by
    unfold E.mt at h
    split at h
    · simp only [Bool.and_eq_true] at h
      exact ⟨s_ife (p := _) (E.ok q G h.1).2 (E.ok a G h.2.1).1 (E.ok d G h.2.2).1, t_ife (p := _) (E.ok q G h.1).2 (E.ok a G h.2.1).2 (E.ok d G h.2.2).2⟩
    · cases h
  | .idx a d, Y, c, b, Bs, W, M, X, x, G, h => by
    unfold E.mt at h
    split at h
    · simp only [Bool.and_eq_true] at h
      exact pl_ok (s_idx (p := _) G h.1 (E.ok a G h.2.1).1 (E.ok d G h.2.2).1) rfl
    · cases h
  | .slAll a, Y, c, b, Bs, W, M, X, x, G, h => by
    unfold E.mt at h
    split at h
    · exact pl_ok (s_slAll (p := _) (p2 := _) (E.ok a G h).1) rfl
    · cases h
  | .slLo a d, Y, c, b, Bs, W, M, X, x, G, h => by
    unfold E.mt at h
    split at h
    · simp only [Bool.and_eq_true] at h
      exact pl_ok (s_slLo (p := _) (p2 := _) (E.ok a G h.1).1 (E.ok d G h.2).1) rfl
    · cases h
  | .slHi a d, Y, c, b, Bs, W, M, X, x, G, h => by
    unfold E.mt at h
    split at h
    · simp only [Bool.and_eq_true] at h
      exact pl_ok (s_slHi (p := _) (p2 := _) (E.ok a G h.1).1 (E.ok d G h.2).1) rfl
    · cases h
  | .sl a d f, Y, c, b, Bs, W, M, X, x, G, h => by
    unfold E.mt at h
    split at h
    · simp only [Bool.and_eq_true] at h
      exact pl_ok (s_sl (p := _) (p2 := _) (E.ok a G h.1).1 (E.ok d G h.2.1).1 (E.ok f G h.2.2).1) rfl
    · cases h
  | .bi f es, Y, c, b, Bs, W, M, X, x, G, h => by
    unfold E.mt at h
    split at h
    · simp only [Bool.and_eq_true] at h
      have ih := Es.ok es G h.2.2
      exact pl_ok (s_bi (p := _) (q := _) G f h.1 h.2.1 ih.ns ih.args) rfl
    · cases h
  | .bm m a es, Y, c, b, Bs, W, M, X, x, G, h => by
    unfold E.mt at h
    split at h
    · rename_i o n ap ys p
      simp only [Bool.and_eq_true, decide_eq_true_eq] at h
      obtain ⟨rfl, h1, h2, h3, h4, h5⟩ := h
      have ih := Es.ok es G h5
      have hl := mt_len es ys h5
      have ia := (E.ok a G h4).1
      cases ys with
      | nil =>
        cases es with
        | nil =>
          exact pl_ok (s_bm0 (p := _) (ap := _) (m := m) G h1 h3 ia) rfl
        | cons _ _ => cases hl
      | cons y ys =>
        exact pl_ok (s_bm (p := _) (ap := _) (m := m) G h1 h2 h3 ih.ns ia ih.args) rfl
    · cases h
  | .isi a cs tp, Y, c, b, Bs, W, M, X, x, G, h => by
    unfold E.mt at h
    split at h
    · rename_i n q y z p
      simp only [Bool.and_eq_true, decide_eq_true_eq] at h
      obtain ⟨h1, h2, h3, h4, h5⟩ := h
      have ia := (E.ok a G h4).1
      cases tp with
      | false =>
        exact pl_ok (s_isi1 (p := p) (q := q) G h1 h3 ia h5) rfl
      | true =>
        cases z with
        | Tuple zs kk p2 =>
          exact pl_ok (s_isiT (p := p) (q := q) (p2 := p2) (kk := kk) G h1 h3 h2.2 (by rintro rfl; simp at h2) ia h5) rfl
        | _ => cases h5
    · cases h
  | .call f g es, Y, c, b, Bs, W, M, X, x, G, h => by
    unfold E.mt at h
    split at h
    · rename_i n q ys p
      simp only [Bool.and_eq_true] at h
      obtain ⟨h0, h1, h2, h3⟩ := h
      have ih := Es.ok es G h3
      have hl := mt_len es ys h3
      cases ys with
      | nil =>
        cases es with
        | nil =>
          exact pl_ok (s_call0 (p := p) (q := q) (g := g) G (G.bare h0) h1 h2) rfl
        | cons _ _ => cases hl
      | cons y ys =>
        exact pl_ok (s_call (p := p) (q := q) (g := g) G (G.bare h0) h1 h2 ih.ns ih.args) rfl
    · cases h
  | .lc elt tg it, Y, c, b, Bs, W, M, X, x, G, h => by
    unfold E.mt at h
    split at h
    · simp only [Bool.and_eq_true] at h
      obtain ⟨h1, h2, h3, h4, h5⟩ := h
      exact pl_ok ((s_lcT (p := _) G h1 h2 h4 (It.ok it G h3) (me := fun ρ S => ev c b elt ρ S) fun X' Y' G' => (E.ok elt G' h5).1).imp fun σ H Q k => lc_tLc (f := lcF tg fun ρ S => ev c b elt ρ S) (G.bare (compB_calm h1)) (fun σ ρ => step_F) k) rfl
    · cases h
  | .lcIf elt tg it q, Y, c, b, Bs, W, M, X, x, G, h => by
    unfold E.mt at h
    split at h
    · simp only [Bool.and_eq_true] at h
      obtain ⟨h1, h2, h3, h4, h5, h6⟩ := h
      exact pl_ok ((s_lcTI (p := _) G h1 h2 h4 (It.ok it G h3) (me := fun ρ S => ev c b elt ρ S) (mq := fun ρ S => ev c b q ρ S) (fun X' Y' G' => (E.ok q G' h5).2) fun X' Y' G' => (E.ok elt G' h6).1).imp fun σ H Q k => lc_tLc (f := lcFI tg (fun ρ S => ev c b q ρ S) fun ρ S => ev c b elt ρ S) (G.bare (compB_calm h1)) (fun σ ρ => step_FI) k) rfl
    · cases h
  | .newlc elt tg it, Y, c, b, Bs, W, M, X, x, G, h => by
    unfold E.mt at h
    split at h
    · simp only [Bool.and_eq_true] at h
      obtain ⟨h1, h2, h3, h4, h5⟩ := h
      exact pl_ok ((s_lcT (p := _) G h1 h2 h4 (It.ok it G h3) (me := fun ρ S => ev c b elt ρ S) fun X' Y' G' => (E.ok elt G' h5).1).imp fun σ H Q k => lc_tLcN (f := lcF tg fun ρ S => ev c b elt ρ S) (G.bare (compB_calm h1)) (fun σ ρ => step_F) k) rfl
    · cases h
  | .newlcIf elt tg it q, Y, c, b, Bs, W, M, X, x, G, h => by
    unfold E.mt at h
    split at h
    · simp only [Bool.and_eq_true] at h
      obtain ⟨h1, h2, h3, h4, h5, h6⟩ := h
      exact pl_ok ((s_lcTI (p := _) G h1 h2 h4 (It.ok it G h3) (me := fun ρ S => ev c b elt ρ S) (mq := fun ρ S => ev c b q ρ S) (fun X' Y' G' => (E.ok q G' h5).2) fun X' Y' G' => (E.ok elt G' h6).1).imp fun σ H Q k => lc_tLcN (f := lcFI tg (fun ρ S => ev c b q ρ S) fun ρ S => ev c b elt ρ S) (G.bare (compB_calm h1)) (fun σ ρ => step_FI) k) rfl
    · cases h
  | .ncat a d, Y, c, b, Bs, W, M, X, x, G, h => by
    unfold E.mt at h
    split at h
    · simp only [Bool.and_eq_true] at h
      exact pl_ok (s_ncat (p := _) (E.ok a G h.1).1 (E.ok d G h.2).1) rfl
    · cases h
  | .nlist a, Y, c, b, Bs, W, M, X, x, G, h => by
    unfold E.mt at h
    split at h
    · simp only [Bool.and_eq_true] at h
      exact pl_ok (s_nlist (p := _) (q := _) G h.1 h.2.1 (E.ok a G h.2.2).1) rfl
    · cases h
  | .lset a, Y, c, b, Bs, W, M, X, x, G, h => by
    unfold E.mt at h
    split at h
    · simp only [Bool.and_eq_true] at h
      exact pl_ok (s_lset (p := _) (p1 := _) (p2 := _) (q := _) G h.1 h.2.1 h.2.2.1 h.2.2.2.1 (E.ok a G h.2.2.2.2).1) rfl
    · cases h
  | .sset a, Y, c, b, Bs, W, M, X, x, G, h => by
    unfold E.mt at h
    split at h
    · simp only [Bool.and_eq_true] at h
      exact pl_ok (s_sset (p := _) (p1 := _) (p2 := _) (q := _) G h.1 h.2.1 h.2.2.1 h.2.2.2.1 (E.ok a G h.2.2.2.2).1) rfl
    · cases h
  | .isset a, Y, c, b, Bs, W, M, X, x, G, h => by
    unfold E.mt at h
    split at h
    · simp only [Bool.and_eq_true] at h
      exact pl_ok (s_isset (p := _) (p1 := _) (p2 := _) (q := _) G h.1 h.2.1 h.2.2.1 h.2.2.2.1 (E.ok a G h.2.2.2.2).1) rfl
    · cases h
  | .make C es, Y, c, b, Bs, W, M, X, x, G, h => by
    unfold E.mt at h
    split at h
    · rename_i n q ys p
      simp only [Bool.and_eq_true] at h
      have ih := Es.ok es G h.2.2.2
      have hx := G.bare h.1
      cases ys with
      | nil =>
        cases es with
        | nil =>
          refine pl_ok ((s_make0 (p := p) (q := q) G h.1 hx h.2.1 h.2.2.1).imp ?_) rfl
          rintro σ H Q ⟨μ, ρ, S, w, en, k⟩
          exact ⟨μ, ρ, S, w, en, by simpa [ev, evs, CL.R.bind] using k⟩
        | cons _ _ => simp [Es.mt] at h
      | cons y ys => exact pl_ok (s_make (p := p) (q := q) G h.1 hx h.2.1 h.2.2.1 ih.ns ih.args) rfl
    · cases h
  | .meth a m g es, Y, c, b, Bs, W, M, X, x, G, h => by
    unfold E.mt at h
    split at h
    · rename_i o n p ys q
      simp only [Bool.and_eq_true, decide_eq_true_eq] at h
      obtain ⟨h1, rfl, h3, h4, h5, h6, h7⟩ := h
      have ih := Es.ok es G h7
      have hx := G.bare h1
      cases ys with
      | nil =>
        cases es with
        | nil =>
          refine pl_ok ((s_meth0 (p := q) (ap := p) (g := g) G h1 hx h3 h5 (E.ok a G h6).1).imp ?_) rfl
          rintro σ H Q ⟨μ, ρ, S, w, en, k⟩
          refine ⟨μ, ρ, S, w, en, ?_⟩
          revert k
          simp only [ev, evs]
          cases ev c b a ρ S with
          | ok d S1 =>
            simp only [CL.R.bind]
            cases methOf c S1 m d <;> exact id
          | err _ _ _ _ => exact id
          | bad => exact id
        | cons _ _ => simp [Es.mt] at h7
      | cons y ys => exact pl_ok (s_meth (p := q) (ap := p) (g := g) G h1 hx h3 h4 h5 ih.ns (E.ok a G h6).1 ih.args) rfl
    · cases h
  | .fld a f, Y, c, b, Bs, W, M, X, x, G, h => by
    unfold E.mt at h
    split at h
    · simp only [Bool.and_eq_true, decide_eq_true_eq] at h
      obtain ⟨rfl, h1, h2⟩ := h
      exact pl_ok (s_fld (p := _) G h1 (E.ok a G h2).1) rfl
    · cases h
  | .dic1 a d, Y, c, b, Bs, W, M, X, x, G, h => by
    unfold E.mt at h
    split at h
    · simp only [Bool.and_eq_true] at h
      have hx := G.bare h.1
      exact pl_ok (s_dic1 (p := _) hx (fun Y' hca => (E.ok a (G.hidden hca hx).calmW h.2.1).1) (fun Y' hca => (E.ok d (G.hidden hca hx).calmW h.2.2).1)) rfl
    · cases h
  | .nsplit a z, Y, c, b, Bs, W, M, X, x, G, h => by
    unfold E.mt at h
    split at h
    · simp only [Bool.and_eq_true, decide_eq_true_eq] at h
      obtain ⟨rfl, rfl, h1, h2, h3⟩ := h
      exact pl_ok (s_nsplit (p := _) (ap := _) (k := _) (q := _) h1 h2 (E.ok a G h3).1) rfl
    · cases h
  | .dicS l, Y, c, b, Bs, W, M, X, x, G, h => by
    unfold E.mt at h
    split at h
    · simp only [Bool.and_eq_true, decide_eq_true_eq] at h
      exact pl_ok (s_dicS (p := _) h.1.1 h.1.2 h.2) rfl
    · cases h
  | .dicU a l, Y, c, b, Bs, W, M, X, x, G, h => by
    unfold E.mt at h
    split at h
    · simp only [Bool.and_eq_true, decide_eq_true_eq] at h
      obtain ⟨rfl, h1, h2, h3, h4, h5⟩ := h
      exact pl_ok (s_dicU (p := _) (ap := _) (dp := _) h1 h2 h3.1 h3.2 h4 (E.ok a G h5).1) rfl
    · cases h
  | .dictP a, Y, c, b, Bs, W, M, X, x, G, h => by
    unfold E.mt at h
    split at h
    · simp only [Bool.and_eq_true] at h
      exact pl_ok (s_dictP (p := _) (q := _) G h.1 h.2.1 h.2.2.1 (E.ok a G h.2.2.2).1) rfl
    · cases h
  | .sdic a, Y, c, b, Bs, W, M, X, x, G, h => by
    unfold E.mt at h
    split at h
    · simp only [Bool.and_eq_true] at h
      exact pl_ok (s_sdic (p := _) (q := _) G h.1 h.2.1 h.2.2.1 (E.ok a G h.2.2.2).1) rfl
    · cases h
  | .wtup es, Y, c, b, Bs, W, M, X, x, G, h => by
    unfold E.mt at h
    split at h
    · simp only [Bool.and_eq_true, decide_eq_true_eq] at h
      exact pl_ok (s_wtup (p := _) (n := _) (Es.ok es G h.2).args fun ρ S ds S' e => by rw [evs_len es ρ S ds S' e]; exact h.1) rfl
    · cases h
  | .rev a, Y, c, b, Bs, W, M, X, x, G, h => by
    unfold E.mt at h
    split at h
    · exact pl_ok (s_rev (E.ok a G h).1) rfl
    · cases h
  | .step a s, Y, c, b, Bs, W, M, X, x, G, h => by
    unfold E.mt at h
    split at h
    · rw [Bool.and_eq_true] at h
      exact pl_ok (s_step (p := _) (p2 := _) (E.ok a G h.1).1 (E.ok s G h.2).1) rfl
    · cases h
  | .rev1 a, Y, c, b, Bs, W, M, X, x, G, h => by
    unfold E.mt at h
    split at h
    · exact pl_ok (s_rev1 (E.ok a G h).1) rfl
    · cases h
  | .lrange es, Y, c, b, Bs, W, M, X, x, G, h => by
    unfold E.mt at h
    split at h
    · rename_i n q n2 q2 ys p2 p
      simp only [Bool.and_eq_true, decide_eq_true_eq] at h
      obtain ⟨h1, h2, h3, h4, h5⟩ := h
      match es, ys, h4, h5 with
      | .cons e .nil, [x], _, h5 =>
        simp only [Es.mt, Bool.and_eq_true] at h5
        refine pl_ok ((s_lrange1 G h1 h2 h3 h5.1 (E.ok e G h5.2.1).1).imp ?_) rfl
        rintro σ H Q ⟨μ, ρ, S, w, en, k⟩
        refine ⟨μ, ρ, S, w, en, ?_⟩
        revert k
        simp only [ev, evs]
        cases ev c b e ρ S <;> exact id
      | .cons e (.cons e2 .nil), [x, y], _, h5 =>
        simp only [Es.mt, Bool.and_eq_true] at h5
        refine pl_ok ((s_lrange2 G h1 h2 h3 h5.1 h5.2.2.1 (E.ok e G h5.2.1).1 (E.ok e2 G h5.2.2.2.1).1).imp ?_) rfl
        rintro σ H Q ⟨μ, ρ, S, w, en, k⟩
        refine ⟨μ, ρ, S, w, en, ?_⟩
        revert k
        simp only [ev, evs]
        cases ev c b e ρ S with
        | ok d S1 => simp only [CL.R.bind]; cases ev c b e2 ρ S1 <;> exact id
        | err _ _ _ _ => exact id
        | bad => exact id
      | .nil, [x], _, h5 => simp [Es.mt] at h5
      | .nil, [x, y], _, h5 => simp [Es.mt] at h5
      | .cons e (.cons e2 es), [x], _, h5 => simp [Es.mt] at h5
      | .cons e .nil, [x, y], _, h5 => simp [Es.mt] at h5
      | .cons e (.cons e2 (.cons e3 es)), [x, y], _, h5 => simp [Es.mt] at h5
      | es, [], h4, _ => simp at h4
      | es, _ :: _ :: _ :: _, h4, _ => simp at h4
    · cases h
  | .nlrange es, Y, c, b, Bs, W, M, X, x, G, h => by
    unfold E.mt at h
    split at h
    · rename_i n q n2 q2 ys p2 p
      simp only [Bool.and_eq_true, decide_eq_true_eq] at h
      obtain ⟨h1, h2, h3, h4, h5⟩ := h
      match es, ys, h4, h5 with
      | .cons e .nil, [x], _, h5 =>
        simp only [Es.mt, Bool.and_eq_true] at h5
        refine pl_ok ((s_nlrange1 G h1 h2 h3 h5.1 (E.ok e G h5.2.1).1).imp ?_) rfl
        rintro σ H Q ⟨μ, ρ, S, w, en, k⟩
        refine ⟨μ, ρ, S, w, en, ?_⟩
        revert k
        simp only [ev, evs]
        cases ev c b e ρ S <;> exact id
      | .cons e (.cons e2 .nil), [x, y], _, h5 =>
        simp only [Es.mt, Bool.and_eq_true] at h5
        refine pl_ok ((s_nlrange2 G h1 h2 h3 h5.1 h5.2.2.1 (E.ok e G h5.2.1).1 (E.ok e2 G h5.2.2.2.1).1).imp ?_) rfl
        rintro σ H Q ⟨μ, ρ, S, w, en, k⟩
        refine ⟨μ, ρ, S, w, en, ?_⟩
        revert k
        simp only [ev, evs]
        cases ev c b e ρ S with
        | ok d S1 => simp only [CL.R.bind]; cases ev c b e2 ρ S1 <;> exact id
        | err _ _ _ _ => exact id
        | bad => exact id
      | .nil, [x], _, h5 => simp [Es.mt] at h5
      | .nil, [x, y], _, h5 => simp [Es.mt] at h5
      | .cons e (.cons e2 es), [x], _, h5 => simp [Es.mt] at h5
      | .cons e .nil, [x, y], _, h5 => simp [Es.mt] at h5
      | .cons e (.cons e2 (.cons e3 es)), [x, y], _, h5 => simp [Es.mt] at h5
      | es, [], h4, _ => simp at h4
      | es, _ :: _ :: _ :: _, h4, _ => simp at h4
    · cases h
  | .xis cs tp, Y, c, b, Bs, W, M, X, x, G, h => by
    unfold E.mt at h
    split at h
    · rename_i n q y z p
      simp only [Bool.and_eq_true, decide_eq_true_eq] at h
      obtain ⟨h1, h2, h3, h4⟩ := h
      cases tp with
      | false =>
        exact pl_ok (s_xis1 (p := p) (q := q) (W := W) (Bs := Bs) G h1 h3 h4) rfl
      | true =>
        cases z with
        | Tuple zs kk p2 =>
          exact pl_ok (s_xisT (p := p) (q := q) (p2 := p2) (kk := kk) (W := W) (Bs := Bs) G h1 h3 h2.2 h4) rfl
        | _ => cases h4
    · cases h
  | .xfld f, Y, c, b, Bs, W, M, X, x, G, h => by
    unfold E.mt at h
    split at h
    · rename_i y n p
      simp only [Bool.and_eq_true, decide_eq_true_eq] at h
      obtain ⟨rfl, h1⟩ := h
      exact pl_ok (s_xfld (p := p) (W := W) (Bs := Bs) G h1) rfl
    · cases h
  | .hcall f, Y, c, b, Bs, W, M, X, x, G, h => by
    unfold E.mt at h
    split at h
    · simp only [Bool.and_eq_true] at h
      exact pl_ok (s_hcall (p := _) (q := _) G h.1 h.2.1 h.2.2) rfl
    · cases h
theorem Es.ok : ∀ (es : Es) {Y : Sx} {c : Ctx} {b : Nat} {Bs : List Nat} {W : WX} {M : MC} {X : Cx} {xs : List Expr}, Good Y c b Bs W M X → es.mt M xs = true → EsOk Y c b Bs W X es xs
  | .nil, Y, c, b, Bs, W, M, X, xs, G, h => by
    unfold Es.mt at h
    rw [List.isEmpty_iff] at h
    subst h
    exact es_nil
  | .cons e es, Y, c, b, Bs, W, M, X, xs, G, h => by
    cases xs with
    | nil => simp [Es.mt] at h
    | cons x xs =>
      simp only [Es.mt, Bool.and_eq_true] at h
      exact es_cons h.1 (E.ok e G h.2.1).1 (E.ok e G h.2.1).2 (Es.ok es G h.2.2) (mt_len es xs h.2.2)
theorem It.ok : ∀ (it : It) {Y : Sx} {c : Ctx} {b : Nat} {Bs : List Nat} {W : WX} {M : MC} {X : Cx} {t x : Expr}, Good Y c b Bs W M X → it.mt M t x = true → PI X t x (tW Y Bs W fun ρ S => evIt c b it ρ S)
  | .val e, Y, c, b, Bs, W, M, X, t, x, G, h => i_val G.hK (E.ok e G h).1
  | .range es, Y, c, b, Bs, W, M, X, t, x, G, h => by
    unfold It.mt at h
    split at h
    · rename_i n q ys p
      simp only [Bool.and_eq_true, decide_eq_true_eq] at h
      obtain ⟨h1, h2, h3⟩ := h
      have ih := Es.ok es G h3
      have hl := mt_len es ys h3
      have hns := ih.ns
      match ys, h2, hl, hns, ih with
      | [x1], _, hl, hns, ih =>
        simp only [allNS, List.all_cons, List.all_nil, Bool.and_true] at hns
        exact i_range1 (q := q) (p := p) G h1 hns (fun ρ S ds S' e => (evs_len es ρ S ds S' e).trans hl) ih.args
      | [x1, x2], _, hl, hns, ih =>
        simp only [allNS, List.all_cons, List.all_nil, Bool.and_true, Bool.and_eq_true] at hns
        exact i_range2 (q := q) (p := p) G h1 hns.1 hns.2 (fun ρ S ds S' e => (evs_len es ρ S ds S' e).trans hl) ih.args
      | [x1, x2, x3], _, hl, hns, ih =>
        simp only [allNS, List.all_cons, List.all_nil, Bool.and_true, Bool.and_eq_true] at hns
        exact i_range3 (q := q) (p := p) G h1 hns.1 hns.2.1 hns.2.2 (fun ρ S ds S' e => (evs_len es ρ S ds S' e).trans hl) ih.args
      | [], h2, _, _, _ => simp at h2
      | _ :: _ :: _ :: _ :: _, h2, _, _, _ => simp at h2
    · cases h
  | .enum e, Y, c, b, Bs, W, M, X, t, x, G, h => by
    unfold It.mt at h
    rw [Bool.and_eq_true] at h
    obtain ⟨h0, h⟩ := h
    split at h
    · simp only [Bool.and_eq_true] at h
      exact i_enum G h.1 h0 h.2.1 (E.ok e G h.2.2).1
    · cases h
  | .zip e f, Y, c, b, Bs, W, M, X, t, x, G, h => by
    unfold It.mt at h
    rw [Bool.and_eq_true] at h
    obtain ⟨h0, h⟩ := h
    split at h
    · simp only [Bool.and_eq_true] at h
      exact i_zipE G h.1 h0 h.2.1 h.2.2.1 (E.ok e G h.2.2.2.1).1 (E.ok f G h.2.2.2.2).1
    · cases h
end
end CL
namespace CL
open PySem PySem.Spec PyProof.Rows L2
def notComp : Expr → Bool
  | .ListComp _ _ _ _ => false
  | .SetComp _ _ _ _ => false
  | .DictComp _ _ _ _ _ => false
  | _ => true
def swC (M : MC) (scope : Scope) (y : Str) (py p : Pos) : Bool := decide (M.sc.names.lookup y = some .local) && ((py.line == p.line) && !(scope.names.any fun (n, k) => n == y && (k == .local || k == .cell)))
def E.isLc : E → Bool
  | .lc _ _ _ => true
  | .lcIf _ _ _ _ => true
  | .newlc _ _ _ => true
  | .newlcIf _ _ _ _ => true
  | _ => false
def parB (M : MC) (i j : Nat) (x y : Str) (px py : Pos) (e f : Expr) : Bool := decide (M.N[i]? = some x) && (decide (M.N[j]? = some y) && (decide (i ≠ j) && (decide (x ≠ y) && (decide (M.sc.names.lookup x = some .local) && (decide (M.sc.names.lookup y = some .local) && (decide (px.line = py.line) && (notStar e && (notStar f && (!(foldedForSure 8 e && foldedForSure 8 f) && !(constantsAlone 8 e && constantsAlone 8 f))))))))))
mutual
def St.mt : St → MC → Stmt → Bool
  | .no, _, _ => true
  | .set tg e, M, s => match s with
    | .Assign [t] x _ => tg.mt M t && (e.mt M x && (match tg with
      | .one _ => notComp x || e.isLc
      | .many _ => notComp x && !isTuple x))
    | _ => false
  | .par i j a e, M, s => match s with
    | .Assign [.Tuple [.Name x px, .Name y py] _ _] (.Tuple [z, w] _ _) _ => M.calm && (parB M i j x y px py z w && (a.mt M z && e.mt M w))
    | _ => false
  | .setIdx a i v, M, s => match s with
    | .Assign [.Subscript x z _] w _ => notSlice z && (notComp w && (a.mt M x && (i.mt M z && v.mt M w)))
    | _ => false
  | .setFld a f v, M, s => match s with
    | .Assign [.Attribute y n _] z _ => decide (n = nm f) && (notComp z && (a.mt M y && v.mt M z))
    | _ => false
  | .aug i e, M, s => match s with
    | .AugAssign (.Name n _) .Add x _ => decide (M.N[i]? = some n) && (decide (M.exi ≠ some i) && (locB M.sc n && e.mt M x))
    | _ => false
  | .ex e, M, s => match s with
    | .Expr x _ => notComp x && e.mt M x
    | _ => false
  | .ite q a b, M, s => match s with
    | .If t xs ys _ => q.mt M t && (a.mt M xs && b.mt M ys)
    | _ => false
  | .for_ tg it body, M, s => match s with
    | .For t i xs [] _ => M.calm && (tg.mt M t && (notSet i && (it.mt M t i && body.mt M xs)))
    | _ => false
  | .whl q body, M, s => match s with
    | .While t xs [] _ => M.calm && (q.mt M t && body.mt M xs)
    | _ => false
  | .ret e, M, s => match s with
    | .Return (some x) _ => e.mt M x
    | _ => false
  | .ret0, _, s => match s with
    | .Return none _ => true
    | _ => false
  | .brk, _, s => match s with
    | .Break _ => true
    | _ => false
  | .cont, _, s => match s with
    | .Continue _ => true
    | _ => false
  | .pass, _, s => match s with
    | .Pass _ => true
    | _ => false
  | .raise C es, M, s => match s with
    | .Raise (some (.Call (.Name n _) (y :: ys) [] _)) none _ => M.calm && (M.ex C && (gnB M.sc C n && (es.mt M (y :: ys) && (!M.exT C || (match es, y, ys with
      | .cons (.str _) .nil, .Constant (.str _) _ _, [] => true
      | _, _, _ => false)))))
    | _ => false
  | .try_ body C as h els, M, s => match s with
    | .Try xs [.ExceptHandler (some (.Name n _)) nmo (y :: ys) _] zs [] _ => M.calm && (M.ex C && (gnB M.sc C n && (body.mt M xs && (els.mt M zs && (match as, nmo with
      | none, none => h.mt (M.hot none) (y :: ys)
      | some i, some e => zs.isEmpty && (decide (M.N[i]? = some e) && (decide (M.sc.names.lookup e = some .local) && h.mt (M.hot (some i)) (y :: ys)))
      | _, _ => false)))))
    | _ => false
  | .tryN body els, M, s => match s with
    | .Try xs (_ :: _) zs [] _ => M.calm && (body.mt M xs && els.mt M zs)
    | _ => false
def Ss.mt : Ss → MC → List Stmt → Bool
  | .nil, _, ss => ss.isEmpty
  | .cons s ss, M, xs => match xs with
    | x :: xs => s.mt M x && ss.mt M xs
    | [] => false
end
def KS (Y : Sx) (Bs : List Nat) (W : WX) (μ : List Addr) (H : Hp) (D : Ends) : RS → Prop
  | .ok (.nx ρ) S => ∀ μ' H' σ', Ext μ H μ' H' → World Y Bs μ' H' S → EnvOk Y μ' H' σ' ρ → D.nx σ' H'
  | .ok (.rt d) S => ∀ μ' H' v, Ext μ H μ' H' → World Y Bs μ' H' S → Rep Y μ' H' v d → D.rt v H'
  | .ok (.bk ρ) S => ∀ μ' H' σ', Ext μ H μ' H' → World Y Bs μ' H' S → EnvOk Y μ' H' σ' ρ → D.bk σ' H'
  | .ok (.ct ρ) S => ∀ μ' H' σ', Ext μ H μ' H' → World Y Bs μ' H' S → EnvOk Y μ' H' σ' ρ → D.ct σ' H'
  | .err C ns ds ρ S => ∀ μ' H' σ' cls dd, Ext μ H μ' H' → World Y Bs μ' H' S → EnvOk Y μ' H' σ' ρ → ExcAt Y μ' H' C ns ds cls dd → W cls dd σ' H'
  | .bad => False
def tS (Y : Sx) (Bs : List Nat) (W : WX) (m : Env → Store → RS) : TS := fun D σ H => ∃ μ ρ S, World Y Bs μ H S ∧ EnvOk Y μ H σ ρ ∧ KS Y Bs W μ H D (m ρ S)
section
variable {Y : Sx} {Bs : List Nat} {W : WX} {μ μ' : List Addr} {H H' : Hp} {D : Ends} {σ : L2.St} {ρ : Env} {S : Store}
theorem KS.mono (e : Ext μ H μ' H') {r : RS} (h : KS Y Bs W μ H D r) : KS Y Bs W μ' H' D r := by
  cases r with
  | ok f S =>
    cases f with
    | nx ρ => exact fun μ2 H2 σ2 x => h μ2 H2 σ2 (e.trans x)
    | rt d => exact fun μ2 H2 v x => h μ2 H2 v (e.trans x)
    | bk ρ => exact fun μ2 H2 σ2 x => h μ2 H2 σ2 (e.trans x)
    | ct ρ => exact fun μ2 H2 σ2 x => h μ2 H2 σ2 (e.trans x)
  | err C ns ds ρ S => exact fun μ2 H2 σ2 c d x => h μ2 H2 σ2 c d (e.trans x)
  | bad => exact h
theorem tS.bind {α β : Type} {rel : List Addr → Hp → β → α → Prop} {m : Env → Store → R α} {f : α → Store → RS} {Q : β → Hp → Prop} (w : World Y Bs μ H S) (en : EnvOk Y μ H σ ρ) (h : KS Y Bs W μ H D ((m ρ S).then ρ f))
    (go : ∀ a S1 μ1 H1 b, World Y Bs μ1 H1 S1 → EnvOk Y μ1 H1 σ ρ → Ext μ H μ1 H1 → rel μ1 H1 b a → KS Y Bs W μ1 H1 D (f a S1) → Q b H1) : tX Y Bs rel W m σ H Q := by
  refine ⟨μ, ρ, S, w, en, ?_⟩
  cases e : m ρ S with
  | ok a S1 =>
    rw [e] at h
    exact fun μ1 H1 b x w1 r => go a S1 μ1 H1 b w1 (en.ext x) x r (KS.mono x h)
  | err C ns ds S1 =>
    rw [e] at h
    exact fun μ1 H1 c d x w1 ex => h μ1 H1 σ c d x w1 (en.ext x) ex
  | bad =>
    rw [e] at h
    exact h
theorem KS.nx {ρ' : Env} {σ' : L2.St} (h : KS Y Bs W μ H D (.ok (.nx ρ') S)) (w : World Y Bs μ H S) (en : EnvOk Y μ H σ' ρ') : D.nx σ' H := h μ H σ' (.refl _ _) w en
end
def spInit (C : Addr) (ns : List String) : Sp := fun vs H Q _ => ∃ (a : Addr) (ws : List V), vs = .ref a :: ws ∧ ws.length = ns.length ∧ H a = some (exo a C none) ∧
  ∀ d, H d = none → d ≠ a → Q .non (upd (upd H d (exd d ((ns.map nm).zip ws).reverse)) a (exo a C (some d)))
def RaiseOk (ca : CA) (P : Program) (w : PySem.World) (K : PySem.W.Frag) (mg : Str → Option Value) (base : Heap) (C : String) : Option (List String) → Prop
  | none => PySem.W.excIn K (ca C) [.type "ValueError", .type "Exception", .type "BaseException", .type "object"] "ValueError.__new__" = true
  | some ns => OexC K (ca C) ∧ ns ≠ [] ∧ (∀ f ∈ ns, PySem.W.findIn ca.K (.ref (ca C)) (nm f) = some none) ∧ ∃ (fI : Addr) (fd : FuncData), PySem.W.findIn K (.ref (ca C)) "__init__" = some (some (.ref fI)) ∧ PySem.W.typeIn K (.ref fI) = some (.type "function") ∧
    FnOk P w K mg base (L2.CX P w) 1 fI fd (("self" :: ns).map nm) (spInit (ca C) ns) ∧ Binds K fd (("self" :: ns).map nm) []
structure GoodS (Y : Sx) (c : Ctx) (b : Nat) (Bs : List Nat) (W : WX) (M : MC) (X : Cx) : Prop extends Good Y c b Bs W M X where
  loc : ∀ n, locB M.sc n = true → L2.Loc X.env.scope n ∧ (X.fn n = true ∨ X.env.scope.names.lookup n = some .local)
  kind : X.env.scope.kind = .function
  stk : X.stack = X.env :: X.outer
  frm : X.env.frame = some X.env.locals
  exg : ∀ C, M.ex C = true → ExF Y.ca C ∧ X.mg (nm C) = some (.ref (Y.ca C)) ∧ ∃ q, c.ex C = some q ∧ (M.exT C = true ↔ q = none) ∧ RaiseOk Y.ca X.prog X.w X.K X.mg X.base C q
  deep : c.deep = true → M.calm = true → Room 2 X.A
  exm : ∀ Z C k, c.isx Z C = some k → M.ex C = true → PySem.W.exmOne X.K (.ref (Y.ca Z)) (.ref (Y.ca C)) = some k
  pass : M.calm = true → PassesOwn (model X.prog X.w) X.A X.env X.xe
theorem GoodS.locs {Y : Sx} {c : Ctx} {b : Nat} {Bs : List Nat} {W : WX} {M : MC} {X : Cx} (G : GoodS Y c b Bs W M X) : Locs M X := ⟨G.hN, G.nd, G.calm, G.loc⟩
theorem swaps_of {x : Expr} {t : Option Expr} {l : Nat} {env : PySem.Env} (h : notComp x = true) : swapsWith x t l env = pure false := by
  cases x <;> first
    | rfl
    | cases h
theorem stores_of {t x : Expr} {env : PySem.Env} (h : isTuple x = false) : swappedStores [t] x env = pure none := by
  cases x <;> first
    | (cases t <;> rfl)
    | cases h
section
variable {X : Cx} {Y : Sx} {Bs : List Nat} {W : WX} {b : Nat} {M : MC} {c : Ctx} {x y t i z : Expr} {p : Pos} {tg : Tg} {ma mb mc : Env → Store → R D} {xs ys : List Stmt} {m1 m2 : Env → Store → RS}
theorem ss_nil : PSs X [] (tS Y Bs W fun ρ S => .ok (.nx ρ) S) := by
  refine pss_nil.imp ?_
  rintro D σ H ⟨μ, ρ, S, w, en, k⟩
  exact KS.nx k w en
theorem then_read {D : Ends} {σ : L2.St} {H : Hp} {μ : List Addr} {ρ : Env} {S : Store} (w : World Y Bs μ H S) (en : EnvOk Y μ H σ ρ) (k : KS Y Bs W μ H D ((m1 ρ S).then fun ρ1 S1 => m2 ρ1 S1)) : tS Y Bs W m1 { D with nx := tS Y Bs W m2 D } σ H := by
  refine ⟨μ, ρ, S, w, en, ?_⟩
  revert k
  cases m1 ρ S with
  | ok f S1 =>
    cases f with
    | nx ρ1 => exact fun k μ' H' σ' x w' en' => ⟨μ', ρ1, S1, w', en', KS.mono x k⟩
    | rt d => exact fun k => k
    | bk ρ1 => exact fun k => k
    | ct ρ1 => exact fun k => k
  | err C ns ds ρ1 S1 => exact fun k => k
  | bad => exact fun k => k
theorem ss_cons {st : Stmt} (h1 : PS X st (tS Y Bs W m1)) (h2 : PSs X xs (tS Y Bs W m2)) : PSs X (st :: xs) (tS Y Bs W fun ρ S => (m1 ρ S).then fun ρ1 S1 => m2 ρ1 S1) := by
  refine (pss_cons h1 h2).imp ?_
  rintro D σ H ⟨μ, ρ, S, w, en, k⟩
  exact then_read w en k
theorem st_no {s : Stmt} (h : ∀ ρ S, m1 ρ S = .bad) : PS X s (tS Y Bs W m1) := ⟨fun pins s σ H D I ⟨μ, ρ, S, w, en, k⟩ => by rw [h] at k; exact k.elim⟩
def setM (tg : Tg) (ma : Env → Store → R D) : Env → Store → RS := fun ρ S => (ma ρ S).then ρ fun d S1 => match asg tg d ρ with
    | some ρ' => .ok (.nx ρ') S1
    | none => .bad
theorem set_read (fr : ∀ i ∈ tg.slots, Y.free i) {D : Ends} {σ : L2.St} {H : Hp} (h : tS Y Bs W (setM tg ma) D σ H) : tI Y Bs W ma σ H fun v H1 => gA tg v σ H1 D.nx := by
  obtain ⟨μ, ρ, S, w, en, k⟩ := h
  refine tS.bind w en k fun d S1 μ1 H1 v w1 en1 x1 r1 k1 => ?_
  cases ha : asg tg d ρ with
  | none => rw [ha] at k1; exact k1.elim
  | some ρ' =>
    rw [ha] at k1
    exact ⟨Y, μ1, Bs, S1, ρ, d, ρ', fr, w1, en1, r1, ha, fun σ' en' _ => KS.nx k1 w1 en'⟩
theorem tg_one {t : Expr} (h : tg.mt M t = true) (env : PySem.Env) : (assignEach [t] env).map (·.2) = [assign t env] := by
  cases tg <;> unfold Tg.mt at h <;> cases t <;> first
    | rfl
    | cases h
theorem st_set (G : GoodS Y c b Bs W M X) (ht : tg.mt M t = true) (hs : swapsWith x (some t) p.line X.env = pure false) (hw : swappedStores [t] x X.env = pure none) (ha : PE X x (tI Y Bs W ma)) : PS X (.Assign [t] x p) (tS Y Bs W (setM tg ma)) := by
  refine (ps_asg ha (g_tg G.locs ht) hs hw (tg_one ht X.env)).imp ?_
  intro D σ H h
  exact set_read (tg_free G.toGood ht) h
theorem st_lc (G : GoodS Y c b Bs W M X) {i0 : Nat} {n : Str} {py : Pos} {elt : Expr} {it : Expr} {ifs : List Expr} {scope : Scope} {tg2 : Tg} {t2 : Expr} {mi : Env → Store → R Walk} {tt : TT} {te : TE}
    (hi : M.N[i0]? = some n) (hfr : M.exi ≠ some i0) (hl : locB M.sc n = true) (hc : compB M tg2 scope = true) (ht : tg2.mt (M.at scope) t2 = true) (hs : notSet it = true) (hit : PI X t2 it (tW Y Bs W mi))
    (hts : ∀ (s : Shared) (H : Hp) (C : Addr) (cl : List (Str × Addr)) (fp : List Addr), PTs (X.blk s H scope (compEnvC scope cl C X.env) fp) ifs tt) (he : ∀ (s : Shared) (H : Hp) (C : Addr) (cl : List (Str × Addr)) (fp : List Addr), PE (X.blk s H scope (compEnvC scope cl C X.env) fp) elt te)
    (rd : ∀ σ H Q, tI Y Bs W ma σ H Q → tLc (tW Y Bs W mi) (gA tg2) tt te tg2.slots σ H Q) {p2 : Pos} : PS X (.Assign [.Name n py] (.ListComp elt [⟨t2, it, ifs, 0⟩] scope p2) p) (tS Y Bs W (setM (.one i0) ma)) := by
  have ok := blk_ok G.toGood hc
  have hg := fun (s : Shared) (H : Hp) (C : Addr) (cl : List (Str × Addr)) (fp : List Addr) => g_tg (locs_blk G.toGood (scope := scope) s H C cl fp) ht
  have own : (ownOf M tg2).map (·.2) = tg2.slots := ownOf_snd M tg2
  have hb : X.env.blockKind = .function := by unfold Env.blockKind; rw [G.kind]; rfl
  obtain ⟨l1, l2⟩ := G.loc n hl
  by_cases q : swC M scope n py p2 = true
  · unfold swC at q
    simp only [Bool.and_eq_true, decide_eq_true_eq, Bool.not_eq_true'] at q
    have hyl : X.env.scope.names.lookup n = some .local := by rw [G.hsc]; exact q.1
    have base := ps_setLc (pos := p2) (spos := p) (py := py) (G.calm (compB_calm hc)) G.nd (by rw [G.hN]; exact hi) hyl (sw_true G.kind hyl q.2.1 q.2.2) hit ok hg hts he (folded_of hs)
    rw [own] at base
    refine base.imp ?_
    rintro D σ H ⟨μ, ρ, S, w, en, k⟩
    refine rd σ H _ (tS.bind w en k fun d S1 μ1 H1 v w1 en1 x1 r1 k1 => ?_)
    exact KS.nx k1 w1 (en1.set r1 i0 (G.toGood.free hfr))
  · have hsw : swapsWith (.ListComp elt [⟨t2, it, ifs, 0⟩] scope p2) (some (.Name n py)) p.line X.env = pure false := by
      unfold swapsWith
      simp only [hb, Expr.pos]
      have : (X.env.kindOf n == some .local && py.line == p2.line && !(scope.names.any fun (m, k) => m == n && (k == .local || k == .cell))) = false := by
        unfold swC at q
        rw [Bool.not_eq_true] at q
        rw [← q]
        unfold Env.kindOf
        rw [G.hsc]
        rw [Bool.and_assoc]
        congr 1
        cases M.sc.names.lookup n with
        | none => rfl
        | some k => cases k <;> rfl
      show (pure (_ && _ && _ && _) : Sem Bool) = _
      rw [Bool.and_assoc, Bool.and_assoc]
      rw [Bool.and_assoc] at this
      rw [this]
      simp
    have pe := pe_lc (pos := p2) (G.calm (compB_calm hc)) G.nd hit ok hg hts he (folded_of hs)
    rw [own] at pe
    refine (ps_set (i := i0) (pos' := py) (pos := p) G.nd (by rw [G.hN]; exact hi) l1 pe hsw l2).imp ?_
    rintro D σ H ⟨μ, ρ, S, w, en, k⟩
    refine rd σ H _ (tS.bind w en k fun d S1 μ1 H1 v w1 en1 x1 r1 k1 => ?_)
    exact KS.nx k1 w1 (en1.set r1 i0 (G.toGood.free hfr))
end
end CL
namespace CL
open PySem PySem.Spec PyProof.Rows L2
def rSetD (Bs : List Nat) (b : Nat) : TSet := fun o i v H Q => ∃ (Y : Sx) (μ : List Addr) (S S4 : Store) (n : Nat) (k d : D), (∀ q ∈ Bs, q ≤ b) ∧ World Y Bs μ H S ∧ Rep Y μ H o (.ref n) ∧ Rep Y μ H i k ∧ Rep Y μ H v d ∧ storeK b n k d S = some S4 ∧
  ∀ μ' H', Ext μ H μ' H' → World Y Bs μ' H' S4 → Q H'
theorem keyOf_lim {t : Bool} {k : D} (n : Nat) (h : keyOf t k = true) : k.lim n = true := by
  cases k with
  | int i => rfl
  | str l => rfl
  | tup ds =>
    simp only [keyOf, Bool.and_eq_true] at h
    rw [D.lim, D.limL_all, List.all_eq_true]
    intro d hd
    have := List.all_eq_true.mp h.2 d hd
    cases d <;> first
      | rfl
      | simp [flatD] at this
  | _ => simp [keyOf] at h
theorem putK_lim {n : Nat} {k v : D} {ks vs : List D} (h1 : D.limL n ks = true) (h2 : D.limL n vs = true) (h3 : k.lim n = true) (h4 : v.lim n = true) : D.limL n (putK k v ks vs).1 = true ∧ D.limL n (putK k v ks vs).2 = true := by
  unfold putK
  split
  · refine ⟨h1, ?_⟩
    rw [D.limL_all, List.all_eq_true] at *
    intro d hd
    obtain ⟨i, hi⟩ := List.getElem?_of_mem hd
    rw [List.getElem?_zipWith] at hi
    split at hi
    · rename_i a b ha hb
      simp only [Option.some.injEq] at hi
      subst hi
      split
      · exact h4
      · exact h2 _ (List.mem_of_getElem? hb)
    · cases hi
  · simp only [D.limL_all, List.all_append, List.all_cons, List.all_nil, Bool.and_true, Bool.and_eq_true] at *
    exact ⟨⟨h1, h3⟩, ⟨h2, h4⟩⟩
theorem set_D {X : Cx} (hu : X.A.units + 64 < cLine) (Bs : List Nat) (b : Nat) : PSet X (rSetD Bs b) := by
  intro pins s σ H o i v ov iv u Q I ro ri rv h
  obtain ⟨Y, μ, S, S4, n, k, d, hb, w, rn, rk, rd, hs, fin⟩ := h
  obtain ⟨p, rfl, hx⟩ : ∃ p, o = .ref p ∧ μ[n]? = some p := by
    cases rn with
    | ref h => exact ⟨_, rfl, h⟩
  have e : ∀ o, Ext μ H μ (upd H p o) := fun o => .wrote (List.mem_of_getElem? hx)
  have vk := view_of w rk
  unfold storeK at hs
  cases hc : S[n]? with
  | none => rw [hc] at hs; cases hs
  | some ce =>
    rw [hc] at hs
    have co := w.cells n p ce hx hc
    cases ce with
    | dic t ks vs =>
      simp only at hs
      split at hs
      · rename_i q
        simp only [Bool.and_eq_true, decide_eq_true_eq] at q
        obtain ⟨q1, q2, q3⟩ := q
        simp only [Option.some.injEq] at hs
        subst hs
        rw [vw_key q1] at vk
        obtain rfl : ov = Value.ref p := ro
        have lims : ∀ c ∈ Bs, n < c → (Cell.dic t (putK k d ks vs).1 (putK k d ks vs).2).lim c = true := by
          intro c hc' hlt
          have hl := w.lims n _ hc c hc' hlt
          rw [Cell.lim, Bool.and_eq_true] at hl ⊢
          refine putK_lim hl.1 hl.2 (keyOf_lim c q1) ?_
          unfold putOk at q2
          rw [Bool.or_eq_true, decide_eq_true_eq] at q2
          rcases q2 with z | z
          · exact D.lim_mono (Nat.zero_le _) _ z
          · have := hb c hc'; omega
        cases co with
        | @dicK kvs vs2 h r =>
          obtain ⟨kk, rfl, rfl⟩ := keyK vk q1
          obtain ⟨k1, k2⟩ := putK_keys kD eqv_kD kk rd r
          have hz : kvs.length < sizeLine := by
            rw [List.length_map] at q3
            rw [sizeLine_eq]; unfold LIM at q3; exact Nat.lt_trans q3 (by decide)
          refine d_setItem (A := X.A) (by omega) I (DPut.k h hz) ri rv (fun s' I' => (⟨_, I', fin μ _ (e _) ?_⟩ : ∃ H', Inv X pins σ H' s' ∧ Q H'))
          refine w.wrote hx ?_ lims
          rw [k1]
          exact .dicK upd_same (k2.ext (e _))
        | @dicT kvs vs2 h r =>
          obtain ⟨bb, kk, rfl, hbb, rfl⟩ := keyT vk q1
          obtain ⟨k1, k2⟩ := putK_keys kDT (fun a b => by show D.eqv (.tup _) (.tup _) = _; rw [D.eqv]; exact eqvL_kD a b) kk rd r
          have hz : kvs.length < sizeLine := by
            rw [List.length_map] at q3
            rw [sizeLine_eq]; unfold LIM at q3; exact Nat.lt_trans q3 (by decide)
          refine d_setItem (A := X.A) (by omega) I (DPut.t h hbb hz) ri rv (fun s' I' => (⟨_, I', fin μ _ (e _) ?_⟩ : ∃ H', Inv X pins σ H' s' ∧ Q H'))
          refine w.wrote hx ?_ lims
          rw [k1]
          exact .dicT upd_same (k2.ext (e _))
      · cases hs
    | lst ds =>
      simp only at hs
      cases k with
      | int j =>
        simp only at hs
        split at hs
        · rename_i q
          split at hs
          · rename_i z hz
            simp only [Option.some.injEq] at hs
            subst hs
            cases rk
            cases co with
            | lst h r =>
              obtain ⟨a1, a2, a3, a4⟩ := atD_place hz
              have hl := r.length
              have hlt := (List.getElem?_eq_some_iff.mp a2).1
              refine set_list pins s σ H _ _ v ov iv u Q I ro ri rv ⟨p, _, j, _, rfl, rfl, h, (?_ : ixN _ j = some (if 0 ≤ j then j.toNat else (j + ds.length).toNat)), fin μ _ (e _) ?_⟩
              · unfold ixN
                rw [hl]
                by_cases h0 : 0 ≤ j
                · rw [if_pos h0, if_pos h0, if_pos (by omega)]
                · rw [if_neg h0, if_neg h0, if_pos (by omega)]
              · refine w.wrote hx (.lst upd_same ((r.set _ rd).ext (e _))) fun c hc' hlt' => ?_
                have hl2 := w.lims n _ hc c hc' hlt'
                unfold Cell.lim at hl2 ⊢
                refine limL_of (xs := [d]) (fun x hx' => ?_) hl2 ?_
                · rcases List.mem_or_eq_of_mem_set hx' with z | z
                  · exact .inl z
                  · exact .inr (by rw [z]; simp)
                · rw [D.limL, D.limL, Bool.and_true]
                  unfold putOk at q
                  rw [Bool.or_eq_true, decide_eq_true_eq] at q
                  rcases q with z | z
                  · exact D.lim_mono (Nat.zero_le _) _ z
                  · have := hb c hc'; omega
          · cases hs
        · cases hs
      | _ => cases hs
    | ins _ _ _ => cases hs
section
variable {X : Cx} {Y : Sx} {Bs : List Nat} {W : WX} {b : Nat} {M : MC} {c : Ctx} {x y t i z : Expr} {p : Pos} {tg : Tg} {ma mb mc : Env → Store → R D} {xs ys : List Stmt} {m1 m2 : Env → Store → RS}
theorem st_setIdx (G : GoodS Y c b Bs W M X) {p2 : Pos} (h1 : notSlice y = true) (h2 : notComp z = true) (hx : PE X x (tI Y Bs W ma)) (hy : PE X y (tI Y Bs W mb)) (hz : PE X z (tI Y Bs W mc)) :
    PS X (.Assign [.Subscript x y p2] z p) (tS Y Bs W fun ρ S => (mc ρ S).then ρ fun w S1 => (ma ρ S1).then ρ fun d S2 => (mb ρ S2).then ρ fun k S3 => match d with
    | .ref n => match storeK b n k w S3 with
      | some S4 => .ok (.nx ρ) S4
      | none => .bad
    | _ => .bad) := by
  refine (ps_asg (g := gSub (tI Y Bs W ma) (tI Y Bs W mb) (rSetD Bs b)) hz (pg_sub hx hy (set_D G.hu Bs b) (fun v => by cases y <;> first | rfl | cases h1)) (show swapsWith z (some (.Subscript x y p2)) p.line X.env = pure false from swaps_of h2) (by cases z <;> rfl) rfl).imp ?_
  rintro D σ H ⟨μ, ρ, S, w, en, k⟩
  refine tS.bind w en k fun v S1 μ1 H1 vv w1 en1 x1 r1 k1 => tS.bind w1 en1 k1 fun d S2 μ2 H2 dv w2 en2 x2 r2 k2 => tS.bind w2 en2 k2 fun kk S3 μ3 H3 kv w3 en3 x3 r3 k3 => ?_
  cases d with
  | ref n =>
    simp only at k3
    cases hs : storeK b n kk v S3 with
    | none => rw [hs] at k3; exact k3.elim
    | some S4 =>
      rw [hs] at k3
      exact ⟨Y, μ3, S3, S4, n, kk, v, G.hb, w3, r2.ext x3, r3, (r1.ext x2).ext x3, hs, fun μ' H' e w' => k3 μ' H' σ e w' (en3.ext e)⟩
  | _ => exact k3.elim
theorem putFD {μ : List Addr} {H : Hp} {f : String} {y : V} {w : D} (ry : Rep Y μ H y w) : ∀ {fs : List (Str × V)} {ns : List String} {ds : List D}, fs.map (·.1) = ns.map nm → RepL Y μ H (fs.map (·.2)) ds →
    (putF (nm f) y fs).map (·.1) = (putD f w ns ds).1.map nm ∧ RepL Y μ H ((putF (nm f) y fs).map (·.2)) (putD f w ns ds).2
  | [], [], [], _, _ => ⟨rfl, .cons ry .nil⟩
  | [], [], _ :: _, _, r => by cases r
  | [], _ :: _, _, h, _ => by cases h
  | _ :: _, [], _, h, _ => by cases h
  | _ :: _, _ :: _, [], _, r => by cases r
  | (g, x) :: fs, n :: ns, d :: ds, h, r => by
    simp only [List.map_cons, List.cons.injEq] at h
    obtain ⟨h1, h2⟩ := h
    rw [List.map_cons] at r
    cases r with
    | cons rx rr =>
      simp only [putF, putD]
      by_cases e : n = f
      · have e2 : g = nm f := by rw [h1, e]
        rw [if_pos e2, if_pos e]
        exact ⟨by rw [List.map_cons, List.map_cons, h1, h2], .cons ry rr⟩
      · have e2 : ¬ g = nm f := fun q => e (nm_inj (h1.symm.trans q))
        rw [if_neg e2, if_neg e]
        obtain ⟨i1, i2⟩ := putFD ry h2 rr
        exact ⟨by rw [List.map_cons, i1, h1]; rfl, .cons rx i2⟩
theorem putD_lim {f : String} {w : D} {n : Nat} (hw : w.lim n = true) : ∀ {ns : List String} {ds : List D}, D.limL n ds = true → D.limL n (putD f w ns ds).2 = true
  | [], _, _ => by simp only [putD, D.limL, hw, Bool.and_true]
  | _ :: _, [], _ => by simp only [putD, D.limL, hw, Bool.and_true]
  | m :: ns, d :: ds, h => by
    rw [D.limL, Bool.and_eq_true] at h
    simp only [putD]
    split
    · rw [D.limL, hw, h.2]; rfl
    · show D.limL n (d :: (putD f w ns ds).2) = true
      rw [D.limL, h.1, putD_lim hw h.2]; rfl
theorem st_setFld (G : GoodS Y c b Bs W M X) {f : String} {p2 : Pos} (h2 : notComp z = true) (hx : PE X x (tI Y Bs W ma)) (hz : PE X z (tI Y Bs W mc)) :
    PS X (.Assign [.Attribute x (nm f) p2] z p) (tS Y Bs W fun ρ S => (mc ρ S).then ρ fun w S1 => (ma ρ S1).then ρ fun d S2 => match d with
    | .ref n => match S2[n]? with
      | some (.ins C ns ds) => if c.fldOk C f && (putOk b n w && decide (ns.length < 900)) then let r := putD f w ns ds; .ok (.nx ρ) (S2.set n (.ins C r.1 r.2)) else .bad
      | _ => .bad
    | _ => .bad) := by
  refine (ps_fld hx hz (show swapsWith z (some (.Attribute x (nm f) p2)) p.line X.env = pure false from swaps_of h2)).imp ?_
  rintro D σ H ⟨μ, ρ, S, w, en, k⟩
  refine tS.bind w en k fun v S1 μ1 H1 vv w1 en1 x1 r1 k1 => tS.bind w1 en1 k1 fun d S2 μ2 H2 dv w2 en2 x2 r2 k2 => ?_
  cases r2 with
  | @ref a n hi =>
    simp only at k2
    split at k2
    · rename_i C ns ds hc
      split at k2
      · rename_i hh
        simp only [Bool.and_eq_true, decide_eq_true_eq] at hh
        obtain ⟨hf, hp, hl⟩ := hh
        have co := w2.cells n a _ hi hc
        cases co with
        | @ins dx fs _ _ _ hH hn rl =>
          obtain ⟨c1, c2⟩ := G.fld _ _ hf
          have hlen : fs.length = ns.length := by
            have := congrArg List.length hn
            simpa using this
          refine ⟨a, _, dx, fs, rfl, hH, c1, c2, by omega, ?_⟩
          obtain ⟨q1, q2⟩ := putFD (f := f) (r1.ext x2) hn rl
          have hm : a ∈ μ2 := List.mem_of_getElem? hi
          have e : Ext μ2 H2 μ2 (upd H2 a (.ins (Y.ca C) dx (putF (nm f) vv fs))) := .wrote hm
          refine k2 μ2 _ σ e (w2.wrote hi (.ins upd_same q1 (q2.ext e)) fun b' hb' hlt => ?_) (en2.ext e)
          refine putD_lim ?_ (w2.lims n _ hc b' hb' hlt)
          have hle := G.hb b' hb'
          unfold putOk at hp
          rw [Bool.or_eq_true, decide_eq_true_eq] at hp
          rcases hp with hp | hp
          · exact CL.D.lim_mono (Nat.zero_le _) v hp
          · omega
      · exact k2.elim
    · exact k2.elim
  | _ => exact k2.elim
theorem st_aug (G : GoodS Y c b Bs W M X) {j : Nat} {n : Str} {p2 : Pos} (h1 : M.N[j]? = some n) (hfr : M.exi ≠ some j) (h2 : locB M.sc n = true) (hx : PE X x (tI Y Bs W ma)) :
    PS X (.AugAssign (.Name n p2) .Add x p) (tS Y Bs W fun ρ S => match ρ[j]? with
    | some (some x) => (ma ρ S).then ρ fun d S1 => match x, d with
      | .int p, .int q => .ok (.nx (ρ.set j (some (.int (p + q))))) S1
      | _, _ => .bad
    | _ => .bad) := by
  obtain ⟨l1, l2⟩ := G.loc n h2
  refine (ps_aug (pos := p) (pos' := p2) G.nd (by rw [G.hN]; exact h1) l1 hx ip_add l2).imp ?_
  rintro D σ H ⟨μ, ρ, S, w, en, k⟩
  dsimp only at k
  match e : ρ[j]?, k with
  | some (some d0), k =>
    obtain ⟨v, e2, r⟩ := en.at_ j d0 e
    refine ⟨v, e2, tS.bind w en k fun d S1 μ1 H1 u w1 en1 x1 r1 k1 => ?_⟩
    cases r with
    | int a =>
      cases r1 with
      | int q => exact ⟨a, q, rfl, rfl, KS.nx k1 w1 (en1.set (.int _) j (G.toGood.free hfr))⟩
      | _ => exact k1.elim
    | _ => exact k1.elim
  | some none, k => exact k.elim
  | none, k => exact k.elim
theorem st_ex (h : notComp x = true) (hx : PE X x (tI Y Bs W ma)) : PS X (.Expr x p) (tS Y Bs W fun ρ S => (ma ρ S).then ρ fun _ S1 => .ok (.nx ρ) S1) := by
  refine (ps_expr hx (swaps_of h)).imp ?_
  rintro D σ H ⟨μ, ρ, S, w, en, k⟩
  exact tS.bind w en k fun d S1 μ1 H1 u w1 en1 x1 r1 k1 => KS.nx k1 w1 en1
theorem st_ret (hx : PE X x (tI Y Bs W ma)) : PS X (.Return (some x) p) (tS Y Bs W fun ρ S => (ma ρ S).then ρ fun d S1 => .ok (.rt d) S1) := by
  refine (ps_ret hx).imp ?_
  rintro D σ H ⟨μ, ρ, S, w, en, k⟩
  exact tS.bind w en k fun d S1 μ1 H1 u w1 en1 x1 r1 k1 => k1 μ1 H1 u (.refl _ _) w1 r1
theorem st_ret0 : PS X (.Return none p) (tS Y Bs W fun ρ S => .ok (.rt .non) S) := by
  refine ps_retN.imp ?_
  rintro D σ H ⟨μ, ρ, S, w, en, k⟩
  exact k μ H _ (.refl _ _) w .non
theorem st_pass : PS X (.Pass p) (tS Y Bs W fun ρ S => .ok (.nx ρ) S) := by
  refine ps_pass.imp ?_
  rintro D σ H ⟨μ, ρ, S, w, en, k⟩
  exact KS.nx k w en
theorem st_brk : PS X (.Break p) (tS Y Bs W fun ρ S => .ok (.bk ρ) S) := by
  refine ps_break.imp ?_
  rintro D σ H ⟨μ, ρ, S, w, en, k⟩
  exact k μ H σ (.refl _ _) w en
theorem st_cont : PS X (.Continue p) (tS Y Bs W fun ρ S => .ok (.ct ρ) S) := by
  refine ps_continue.imp ?_
  rintro D σ H ⟨μ, ρ, S, w, en, k⟩
  exact k μ H σ (.refl _ _) w en
theorem tst_read {D : Ends} {σ : L2.St} {H : Hp} {μ : List Addr} {ρ : Env} {S : Store} {t u : TS} (w : World Y Bs μ H S) (en : EnvOk Y μ H σ ρ) (k : KS Y Bs W μ H D ((ma ρ S).then ρ fun d S1 => match truD (vw S1 d) with
    | some true => m1 ρ S1
    | some false => m2 ρ S1
    | none => .bad)) (h1 : ∀ μ' H' S', World Y Bs μ' H' S' → EnvOk Y μ' H' σ ρ → Ext μ H μ' H' → KS Y Bs W μ' H' D (m1 ρ S') → t D σ H') (h2 : ∀ μ' H' S', World Y Bs μ' H' S' → EnvOk Y μ' H' σ ρ → Ext μ H μ' H' → KS Y Bs W μ' H' D (m2 ρ S') → u D σ H') :
    tT Y Bs W (truM ma) σ H fun b H1 => if b = true then t D σ H1 else u D σ H1 := by
  refine ⟨μ, ρ, S, w, en, ?_⟩
  revert k
  unfold truM
  cases ma ρ S with
  | ok d S1 =>
    intro k
    simp only [R.then, R.bind] at k ⊢
    cases ht : truD (vw S1 d) with
    | none => rw [ht] at k; exact k.elim
    | some q =>
      rw [ht] at k
      intro μ' H' q' x w' e
      subst e
      cases q' with
      | true => exact h1 μ' H' S1 w' (en.ext x) x (KS.mono x k)
      | false => exact h2 μ' H' S1 w' (en.ext x) x (KS.mono x k)
  | err C ns ds S1 => exact fun k μ1 H1 cc dd x w1 ex => k μ1 H1 σ cc dd x w1 (en.ext x) ex
  | bad => exact fun k => k
theorem st_ite (ht : PT X x (tT Y Bs W (truM ma))) (h1 : PSs X xs (tS Y Bs W m1)) (h2 : PSs X ys (tS Y Bs W m2)) : PS X (.If x xs ys p) (tS Y Bs W fun ρ S => (ma ρ S).then ρ fun d S1 => match truD (vw S1 d) with
    | some true => m1 ρ S1
    | some false => m2 ρ S1
    | none => .bad) := by
  refine (ps_if ht h1 h2).imp ?_
  rintro D σ H ⟨μ, ρ, S, w, en, k⟩
  exact tst_read w en k (fun μ' H' S' w' en' _ k' => ⟨μ', ρ, S', w', en', k'⟩) fun μ' H' S' w' en' _ k' => ⟨μ', ρ, S', w', en', k'⟩
theorem st_for (G : GoodS Y c b Bs W M X) (hcm : M.calm = true) {mi : Env → Store → R Walk} (ht : tg.mt M t = true) (hs : notSet i = true) (hi : PI X t i (tW Y Bs W mi)) (hb : PSs X xs (tS Y Bs W m1)) :
    PS X (.For t i xs [] p) (tS Y Bs W fun ρ S => (mi ρ S).then ρ fun w S1 => forL m1 tg w w.items ρ S1) := by
  refine (ps_for (G.pass hcm) (G.calm hcm) hi (g_tg G.locs ht) hb (folded_of hs)).imp ?_
  rintro D σ H ⟨μ, ρ, S, w, en, k⟩
  refine tS.bind w en k fun wk S1 μ1 H1 J w1 en1 x1 hJ k1 => ?_
  refine ⟨fun i m σ H => ∃ (μ : List Addr) (ρ : Env) (S : Store), m = wk.items.length - i ∧ i ≤ wk.items.length ∧ World Y Bs μ H S ∧ EnvOk Y μ H σ ρ ∧ Ext μ1 H1 μ H ∧ KS Y Bs W μ H D (forL m1 tg wk (wk.items.drop i) ρ S), ?_, ?_⟩
  · exact ⟨_, μ1, ρ, S1, rfl, Nat.zero_le _, w1, en1, .refl _ _, by rw [List.drop_zero]; exact k1⟩
  · rintro i m σ2 H2 ⟨μ2, ρ2, S2, rfl, hi2, w2, en2, x2, k2⟩
    cases hd : wk.items.drop i with
    | nil =>
      rw [hd] at k2
      simp only [forL] at k2
      split at k2
      · rename_i hst
        have hii : i = wk.items.length := by
          have := List.drop_eq_nil_iff.mp hd
          omega
        refine .inl ⟨?_, KS.nx k2 w2 en2⟩
        rw [hii]
        exact (hJ Y μ2 H2 (.refl _ _) x2 Bs S2 w2 hst).2
      · exact k2.elim
    | cons d l =>
      rw [hd] at k2
      simp only [forL] at k2
      split at k2
      · rename_i hst
        have hlt : i < wk.items.length := by
          have : (wk.items.drop i).length = l.length + 1 := by rw [hd]; rfl
          rw [List.length_drop] at this
          omega
        have hget : wk.items[i]? = some d := by
          have : (wk.items.drop i)[0]? = some d := by rw [hd]; rfl
          rw [List.getElem?_drop] at this
          simpa using this
        have hdrop : wk.items.drop (i + 1) = l := by
          have : (wk.items.drop i).drop 1 = l := by rw [hd]; rfl
          rw [List.drop_drop] at this
          exact this
        obtain ⟨hgo, hy⟩ := (hJ Y μ2 H2 (.refl _ _) x2 Bs S2 w2 hst).1 i d hget
        refine .inr ⟨hgo, fun σ' H' => ∃ (μ : List Addr) (ρ : Env) (S : Store), World Y Bs μ H' S ∧ EnvOk Y μ H' σ' ρ ∧ Ext μ1 H1 μ H' ∧ KS Y Bs W μ H' D (forL m1 tg wk l ρ S), ?_, ?_⟩
        · rintro σ' H' ⟨μ, ρ, S, a1, a2, a3, a4⟩
          exact ⟨_, by omega, μ, ρ, S, rfl, hlt, a1, a2, a3, by rw [hdrop]; exact a4⟩
        · intro y H3 yl
          obtain ⟨μ3, x3, w3, ry⟩ := hy y H3 yl
          cases ha : asg tg d ρ2 with
          | none => rw [ha] at k2; exact k2.elim
          | some ρ3 =>
            rw [ha] at k2
            refine ⟨Y, μ3, Bs, S2, ρ2, d, ρ3, tg_free G.toGood ht, w3, en2.ext x3, ry, ha, fun σ' en' _ => ⟨μ3, ρ3, S2, w3, en', ?_⟩⟩
            have k3 := KS.mono x3 k2
            have xx := x2.trans x3
            revert k3
            dsimp only
            cases m1 ρ3 S2 with
            | ok f S4 =>
              cases f with
              | nx ρ4 => exact fun k3 μ' H' σ' x w' en' => ⟨μ', ρ4, S4, w', en', xx.trans x, KS.mono x k3⟩
              | ct ρ4 => exact fun k3 μ' H' σ' x w' en' => ⟨μ', ρ4, S4, w', en', xx.trans x, KS.mono x k3⟩
              | bk ρ4 => exact fun k3 => k3
              | rt d => exact fun k3 => k3
            | err C ns ds ρ4 S4 => exact fun k3 => k3
            | bad => exact fun k3 => k3
      · exact k2.elim
theorem st_whl (G : GoodS Y c b Bs W M X) (hcm : M.calm = true) (n : Nat) (ht : PT X x (tT Y Bs W (truM ma))) (hb : PSs X xs (tS Y Bs W m1)) : PS X (.While x xs [] p) (tS Y Bs W fun ρ S => whlL ma m1 n ρ S) := by
  refine (ps_while (G.pass hcm) ht hb).imp ?_
  rintro D σ H ⟨μ, ρ, S, w, en, k⟩
  refine ⟨fun m σ H => ∃ (μ : List Addr) (ρ : Env) (S : Store), World Y Bs μ H S ∧ EnvOk Y μ H σ ρ ∧ KS Y Bs W μ H D (whlL ma m1 m ρ S), ⟨n, μ, ρ, S, w, en, k⟩, ?_⟩
  rintro m σ2 H2 ⟨μ2, ρ2, S2, w2, en2, k2⟩
  cases m with
  | zero => exact k2.elim
  | succ m =>
    unfold whlL at k2
    refine tst_read (m1 := fun ρ S1 => match m1 ρ S1 with
      | .ok (.nx ρ2) S2 => whlL ma m1 m ρ2 S2
      | .ok (.ct ρ2) S2 => whlL ma m1 m ρ2 S2
      | .ok (.bk ρ2) S2 => .ok (.nx ρ2) S2
      | .ok (.rt d) S2 => .ok (.rt d) S2
      | .err C ns es ρ2 S2 => .err C ns es ρ2 S2
      | .bad => .bad) (m2 := fun ρ S1 => .ok (.nx ρ) S1) (t := fun D σ H1 => ∃ N : L2.St → Hp → Prop, (∀ σ' H', N σ' H' → ∃ m', m' < m + 1 ∧ ∃ (μ : List Addr) (ρ : Env) (S : Store), World Y Bs μ H' S ∧ EnvOk Y μ H' σ' ρ ∧ KS Y Bs W μ H' D (whlL ma m1 m' ρ S)) ∧ tS Y Bs W m1 { D with nx := N, ct := N, bk := D.nx } σ H1)
      (u := fun D σ H1 => D.nx σ H1) w2 en2 k2 (fun μ' H' S' w' en' _ k' => ?_) fun μ' H' S' w' en' _ k' => KS.nx k' w' en'
    refine ⟨fun σ' H' => ∃ (μ : List Addr) (ρ : Env) (S : Store), World Y Bs μ H' S ∧ EnvOk Y μ H' σ' ρ ∧ KS Y Bs W μ H' D (whlL ma m1 m ρ S), fun σ' H' h => ⟨m, Nat.lt_succ_self m, h⟩, μ', ρ2, S', w', en', ?_⟩
    revert k'
    cases m1 ρ2 S' with
    | ok f S4 =>
      cases f with
      | nx ρ4 => exact fun k3 μ' H' σ' x w' en' => ⟨μ', ρ4, S4, w', en', KS.mono x k3⟩
      | ct ρ4 => exact fun k3 μ' H' σ' x w' en' => ⟨μ', ρ4, S4, w', en', KS.mono x k3⟩
      | bk ρ4 => exact fun k3 => k3
      | rt d => exact fun k3 => k3
    | err C ns ds ρ4 S4 => exact fun k3 => k3
    | bad => exact fun k3 => k3
end
theorem any_no {F : Expr → Bool} {e f : Expr} (hF : ∀ e, notStar e = true → F e = false) (he : notStar e = true) (hf : notStar f = true) : [e, f].any F = false := by simp [hF e he, hF f hf]
theorem fm_two {F : Expr → Option Str} {x y : Str} {px py : Pos} (h1 : F (.Name x px) = some x) (h2 : F (.Name y py) = some y) : [Expr.Name x px, .Name y py].filterMap F = [x, y] := by simp [h1, h2]
theorem stores_par {env : PySem.Env} {x y : Str} {px py pt pt2 : Pos} {kt k2 : _} {e f : Expr} (hk : env.scope.kind = .function) (hx : env.scope.names.lookup x = some .local) (hy : env.scope.names.lookup y = some .local) (hne : x ≠ y) (hl : px.line = py.line)
    (he : notStar e = true) (hf : notStar f = true) (h1 : (foldedForSure 8 e && foldedForSure 8 f) = false) (h2 : (constantsAlone 8 e && constantsAlone 8 f) = false) :
    swappedStores [.Tuple [.Name x px, .Name y py] kt pt] (.Tuple [e, f] k2 pt2) env = pure (some [x, y]) := by
  have hb : env.blockKind = .function := by unfold Env.blockKind; rw [hk]; rfl
  have g1 : [e, f].all (foldedForSure 8) = false := by simpa using h1
  have g2 : [e, f].all (constantsAlone 8) = false := by simpa using h2
  unfold swappedStores
  dsimp only
  rw [hb, any_no ?_ he hf, g1, g2]
  · rw [fm_two ?_ ?_]
    · have ed : [x, y].eraseDups = [x, y] := by
        have : (y == x) = false := by simpa using Ne.symm hne
        simp [List.eraseDups_cons, this]
      rw [ed]
      rfl
    · simp [Env.kindOf, hx]
      rfl
    · simp [Env.kindOf, hy]
      exact hl.symm
  · intro e he
    cases e <;> first
      | rfl
      | cases he
section
variable {X : Cx} {Y : Sx} {Bs : List Nat} {W : WX} {b : Nat} {M : MC} {c : Ctx} {p : Pos}
theorem st_par (G : GoodS Y c b Bs W M X) {i j : Nat} {x y : Str} {px py pt pt2 : Pos} {kt k2 : Nat} {e f : Expr} {mas : Env → Store → R (List D)} (h : parB M i j x y px py e f = true) (hcm : M.calm = true) (ha : PA X [e, f] (tA Y Bs W mas)) :
    PS X (.Assign [.Tuple [.Name x px, .Name y py] kt pt] (.Tuple [e, f] k2 pt2) p) (tS Y Bs W fun ρ S => (mas ρ S).then ρ fun ds S1 => match ds with | [d, d'] => .ok (.nx ((ρ.set i (some d)).set j (some d'))) S1 | _ => .bad) := by
  unfold parB at h
  simp only [Bool.and_eq_true, decide_eq_true_eq, Bool.not_eq_true'] at h
  obtain ⟨hi, hj, hij, hxy, hx, hy, hl, he, hf, h1, h2⟩ := h
  have hx' : X.env.scope.names.lookup x = some .local := by rw [G.hsc]; exact hx
  have hy' : X.env.scope.names.lookup y = some .local := by rw [G.hsc]; exact hy
  have fr : ∀ k, M.exi ≠ some k := fun k => by rw [G.cx hcm]; exact fun z => nomatch z
  refine (ps_par (G.calm hcm) G.nd (by rw [G.hN]; exact hi) (by rw [G.hN]; exact hj) hij hx' hy' ha (stores_par G.kind hx' hy' hxy hl he hf h1 h2)).imp ?_
  rintro D σ H ⟨μ, ρ, S, w, en, k⟩
  refine tS.bind w en k fun ds S1 μ1 H1 vs w1 en1 x1 r1 k1 => ?_
  match ds, vs, r1, k1 with
  | [d, d'], vs, r1, k1 =>
    cases r1 with
    | cons r2 r3 =>
      cases r3 with
      | cons r4 r5 =>
        cases r5
        exact ⟨_, _, rfl, KS.nx k1 w1 ((en1.set r2 i (G.toGood.free (fr i))).set r4 j (G.toGood.free (fr j)))⟩
theorem par_eq (i j : Nat) (x y : E) (ρ : Env) (S : Store) : exS b (.par i j x y) c ρ S = ((evs c b (.cons x (.cons y .nil)) ρ S).then ρ fun ds S1 => match ds with | [d, d'] => .ok (.nx ((ρ.set i (some d)).set j (some d'))) S1 | _ => .bad) := by
  simp only [exS, evs]
  cases ev c b x ρ S with
  | ok d S1 =>
    simp only [R.then, R.bind]
    cases ev c b y ρ S1 <;> rfl
  | err _ _ _ _ => rfl
  | bad => rfl
end
end CL
namespace CL
open PySem PySem.Spec PyProof.Rows L2
structure LaF (K : PySem.W.Frag) (L : Addr) : Prop where
  rd : PySem.W.readsIn K L (.type "type") = true
  sg : PySem.W.specialIn K (.ref L) "__getattribute__" = some (some (.builtin "type.__getattribute__"))
  fc : PySem.W.findCls K (.ref L) (.type "type") "__init__" = some (.val (.builtin "ValueError.__init__"))
section
variable {X : Cx} {e : Expr} {es : List Expr} {ta : TA} {p1 p2 pos : Pos} {x : Str} {L : Addr}
theorem pe_lainit {pl : Sem Bool} (hg : Gl X x) (hm : X.mg x = some (.ref L)) (F : LaF X.K L) (ha : PA X (e :: es) ta) (hdb : (x == ("__debug__" : Str)) = false)
    (hc : eval (.Call (.Attribute (.Name x p1) "__init__" p2) (e :: es) [] pos) X.env = (do
      let ov ← eval (.Name x p1) X.env
      standAt p2.atName
      let (f, first) ← holding [ov] (getMethod ov "__init__" pl)
      callWith pos f first (backTo pos (starEach (e :: es) X.env)) (backToKw pos (keywordEach [] X.env))))
    (he : starEach (e :: es) X.env = (false, eval e X.env) :: starEach es X.env) (hpl : (backTo pos (starEach es X.env)).any (·.1) = false) :
    PE X (.Call (.Attribute (.Name x p1) "__init__" p2) (e :: es) [] pos) (tVeI X.K ta) := by
  refine ⟨fun pins s σ H Q I h => PySem.W.methodCall_KW (ld_glob I hg hm ?_ hdb) hc⟩
  refine PySem.W.method_cls I.kIn F.sg (PySem.W.cls_value I.kIn F.rd F.fc (by decide +kernel) ?_)
  show wpAny _ _ (callWith pos (Value.builtin "ValueError.__init__") [] (backTo pos (starEach (e :: es) X.env)) []) _ _ _
  refine PyProof.Rows.callWith_method1 (thn (ha.run pos pins _ σ H _ (I.tok _) h) fun us s1 ⟨vs, H1, I1, r1, a, C, ws, ev, hl, T, ea, q⟩ => ?_) he hpl
  subst ev
  cases r1 with
  | @cons _ u0 _ ur ra rw' =>
    obtain rfl : u0 = Value.ref a := ra
    have hlen : ur.length ≤ sizeLine := by
      have := Paired.length rw'
      rw [sizeLine_eq]
      omega
    exact oinit_ok T I1 ea hlen fun s' J => ⟨.non, H1, J, rfl, q⟩
end
def putsMt : List String → List Stmt → Bool
  | [], [] => true
  | f :: fs, .Assign [.Attribute (.Name s _) g _] (.Name n _) _ :: ss => decide (s = nm "self") && (decide (g = nm f) && (decide (n = nm f) && putsMt fs ss))
  | _, _ => false
def initMt (B : String) (ns : List String) (sc : Scope) : List Stmt → Bool
  | .Expr (.Call (.Attribute (.Name b _) i p) [.Name s _, .Constant (.str _) _ _] [] q) _ :: ss => (p.endLine == q.line) && (decide (b = nm B) && (decide (i = nm "__init__") && (decide (s = nm "self") && (glB sc (nm B) && (okN (nm B) && (ns.all (fun f => visB sc (nm f) && okN (nm f)) && (visB sc (nm "self") && putsMt ns ss)))))))
  | _ => false
structure InitF (K : PySem.W.Frag) (mg : Str → Option Value) (B : String) (C L : Addr) (ns : List String) (st : Stmt) (fI : Addr) (fd : FuncData) (qual : Str) : Prop where
  fn : Fun K (nm "__init__") qual st fI fd
  iC : PySem.W.findIn K (.ref C) "__init__" = some (some (.ref fI))
  tI : PySem.W.typeIn K (.ref fI) = some (.type "function")
  oe : OexC K C
  no : ∀ f ∈ ns, PySem.W.findIn K (.ref C) (nm f) = some none
  mgB : mg (nm B) = some (.ref L)
  la : LaF K L
  sc : FnScope (("self" :: ns).map nm) (("self" :: ns).map nm) (defScope st)
  bd : Binds K fd (("self" :: ns).map nm) []
  mt : initMt B ns (defScope st) (defBody st) = true
  ne : ns ≠ []
  few : ns.length < 20
theorem puts_cons {f : String} {fs : List String} {ss : List Stmt} (h : putsMt (f :: fs) ss = true) : ∃ p1 p2 p3 p4 ss', ss = .Assign [.Attribute (.Name (nm "self") p1) (nm f) p2] (.Name (nm f) p3) p4 :: ss' ∧ putsMt fs ss' = true := by
  unfold putsMt at h
  split at h
  · cases ‹f :: fs = []›
  · rename_i f' fs' s p1 g p2 n p3 p4 ss' heq
    simp only [List.cons.injEq] at heq
    obtain ⟨rfl, rfl⟩ := heq
    simp only [Bool.and_eq_true, decide_eq_true_eq] at h
    obtain ⟨rfl, rfl, rfl, hm⟩ := h
    exact ⟨p1, p2, p3, p4, ss', rfl, hm⟩
  · cases h
theorem puts_ok {X : Cx} {C : Addr} {ns0 : List String} (hN : X.N = ("self" :: ns0).map nm) (hnd : X.N.Nodup) (hno : ∀ f ∈ ns0, PySem.W.findIn X.K (.ref C) (nm f) = some none) (T : OexC X.K C) (hv : ∀ f ∈ ns0, Vis X.env.scope (nm f) ∧ okN (nm f) = true) (hs : Vis X.env.scope (nm "self")) :
    ∀ (ns done : List String) (ss : List Stmt) (wd ws : List V) (a d : Addr), ns0 = done ++ ns → done.length = wd.length → ws.length = ns.length → putsMt ns ss = true → ns0.length < 20 → done ≠ [] →
      ∀ {D : Ends} {σ : L2.St} {H : Hp}, σ = some (.ref a) :: (wd ++ ws).map some → H a = some (exo a C (some d)) → H d = some (exd d ((done.map nm).zip wd).reverse) → a ≠ d → 
      (∀ H', (∀ b, b ≠ d → H' b = H b) → H' d = some (exd d ((ns0.map nm).zip (wd ++ ws)).reverse) → D.nx σ H') → ∃ t, PSs X ss t ∧ t D σ H
  | [], done, [], wd, [], a, d, e, hl, _, _, _, _, D, σ, H, hσ, ha, hd, hne, k => by
    refine ⟨_, pss_nil, k H (fun _ _ => rfl) ?_⟩
    rw [e, List.append_nil, List.append_nil]
    exact hd
  | [], _, _ :: _, _, _, _, _, _, _, _, h, _, _, _, _, _, _, _, _, _, _ => by simp [putsMt] at h
  | [], _, [], _, _ :: _, _, _, _, _, h, _, _, _, _, _, _, _, _, _, _, _ => by simp at h
  | _ :: _, _, _, _, [], _, _, _, _, h, _, _, _, _, _, _, _, _, _, _, _ => by simp at h
  | f :: ns, done, ss, wd, w :: ws, a, d, e, hl, hw, hm, hfew, hdn, D, σ, H, hσ, ha, hd, hne, k => by
    obtain ⟨p1, p2, p3, p4, ss', rfl, hm'⟩ := puts_cons hm
    have hf : f ∈ ns0 := by rw [e]; simp
    have hNi : X.N[done.length + 1]? = some (nm f) := by rw [hN, e]; simp
    have hσi : σ[done.length + 1]? = some (some w) := by rw [hσ, hl]; simp
    obtain ⟨v1, v2⟩ := hv f hf
    have h1 : PE X (.Name (nm f) p3) (tVar (done.length + 1)) := pe_var hNi v1 (okN_db v2) (okN_cd v2)
    have h2 : PE X (.Name (nm "self") p1) (tVar 0) := pe_var (by rw [hN]; rfl) hs (by decide +kernel) (by decide +kernel)
    have hst : PS X (.Assign [.Attribute (.Name (nm "self") p1) (nm f) p2] (.Name (nm f) p3) p4) (tOst X.K (nm f) (tVar 0) (tVar (done.length + 1))) := ps_ost h2 h1 rfl
    obtain ⟨t, ht, q⟩ := puts_ok hN hnd hno T hv hs ns (done ++ [f]) ss' (wd ++ [w]) ws a d (by rw [e]; simp) (by simp [hl]) (by simpa using hw) hm' hfew (by simp) (D := D) (σ := σ)
      (H := upd H d (exd d ((nm f, w) :: ((done.map nm).zip wd).reverse))) (by rw [hσ]; simp) (by rw [upd_ne hne]; exact ha) (by
        rw [upd_same, List.map_append, List.zip_append (by simpa using hl)]
        simp) hne (fun H' h1 h2 => k H' (fun b hb => by rw [h1 b hb, upd_ne hb]) (by rw [h2]; simp))
    refine ⟨_, pss_cons hst ht, ?_⟩
    refine ⟨w, hσi, .ref a, by rw [hσ]; rfl, a, C, rfl, T, hno f hf, .inr ⟨d, _, ha, hd, ?_, q⟩⟩
    rw [List.length_reverse, List.length_zip, List.length_map]
    have : done.length ≤ ns0.length := by rw [e]; simp
    omega
theorem init_ok {P : Program} {w : PySem.World} {K : PySem.W.Frag} {mg : Str → Option Value} {base : Heap} {B : String} {C L fI : Addr} {ns : List String} {st : Stmt} {fd : FuncData} {qual : Str} (F : InitF K mg B C L ns st fI fd qual) :
    FnOk P w K mg base (L2.CX P w) 1 fI fd (("self" :: ns).map nm) (spInit C ns) := by
  cases ns with
  | nil => exact absurd rfl F.ne
  | cons f ns =>
    refine F.fn.okX F.sc (fun vs H Q E ⟨a, ws, e, h, _⟩ => by rw [e]; simp [h]) fun cdv A outer s H vs Q E hr h => ?_
    obtain ⟨a, ws, rfl, hl, ha, hq⟩ := h
    obtain ⟨w1, ws, rfl⟩ : ∃ w1 ws', ws = w1 :: ws' := by
      cases ws with
      | nil => simp at hl
      | cons w1 ws => exact ⟨w1, ws, rfl⟩
    have hm := F.mt
    revert hm
    generalize hb : defBody st = body
    intro hm
    unfold initMt at hm
    split at hm
    · rename_i b p1 i p2 s' p3 cs k p4 p5 p6 ss
      simp only [Bool.and_eq_true, decide_eq_true_eq] at hm
      obtain ⟨g0, rfl, rfl, rfl, g1, g2, hv, hvs, hp⟩ := hm
      let X := cxOf (L2.CX P w) P w K mg base (("self" :: f :: ns).map nm) qual (defScope st) fI cdv A outer s H E
      have hself : PE X (.Name (nm "self") p3) (tVar 0) := pe_var rfl (visB_ok hvs) (by decide +kernel) (by decide +kernel)
      have hcall : PE X (.Call (.Attribute (.Name (nm B) p1) (nm "__init__") p2) [.Name (nm "self") p3, .Constant (.str cs) k p4] [] p5) (tVeI K (tCons (tVar 0) (tCons (tC (.str cs)) tNil))) :=
        pe_lainit (X := X) (show Gl X (nm B) from (of_decide_eq_true g1 : (defScope st).names.lookup (nm B) = some .globalImplicit)) F.mgB F.la (pa_cons hself (pa_cons pe_str pa_nil rfl) rfl) (okN_db g2) (eval_on_line rfl rfl g0) rfl rfl
      obtain ⟨p7, p8, p9, p10, ss', rfl, hp'⟩ := puts_cons hp
      have hvis : ∀ z ∈ f :: ns, Vis X.env.scope (nm z) ∧ okN (nm z) = true := fun z hz => by
        have := List.all_eq_true.mp hv z hz
        rw [Bool.and_eq_true] at this
        exact ⟨visB_ok this.1, this.2⟩
      have h1 : PE X (.Name (nm f) p9) (tVar 1) := pe_var rfl (hvis f (by simp)).1 (okN_db (hvis f (by simp)).2) (okN_cd (hvis f (by simp)).2)
      have h2 : PE X (.Name (nm "self") p7) (tVar 0) := pe_var rfl (visB_ok hvs) (by decide +kernel) (by decide +kernel)
      have hst : PS X (.Assign [.Attribute (.Name (nm "self") p7) (nm f) p8] (.Name (nm f) p9) p10) (tOst K (nm f) (tVar 0) (tVar 1)) := ps_ost h2 h1 rfl
      have hlw : ws.length = ns.length := by simpa using hl
      have hst0 : L2.start (("self" :: f :: ns).map nm) (.ref a :: w1 :: ws) = some (.ref a) :: ([w1] ++ ws).map some := by
        unfold L2.start
        simp [hlw]
      refine ⟨tSeq (tDrop (tVeI K (tCons (tVar 0) (tCons (tC (.str cs)) tNil)))) (tSeq (tOst K (nm f) (tVar 0) (tVar 1)) fun D σ H' => ∃ t, PSs X ss' t ∧ t D σ H'), ?_, ?_⟩
      · refine pss_cons (ps_expr hcall rfl) (pss_cons hst ?_)
        exact ⟨fun pins s2 σ H D I ⟨t, ht, q⟩ => ht.run pins s2 σ H D I q⟩
      · refine ⟨.ref a, rfl, a, C, [.str cs], rfl, by simp, F.oe, ha, ?_⟩
        refine ⟨w1, rfl, .ref a, rfl, a, C, rfl, F.oe, F.no f (by simp), .inl ⟨ha, fun d hd hda => ?_⟩⟩
        refine puts_ok (X := X) (C := C) (ns0 := f :: ns) rfl F.sc.nd F.no F.oe hvis (visB_ok hvs) ns [f] ss' [w1] ws a d rfl rfl hlw hp' F.few (by simp) hst0 upd_same (by rw [upd_ne hda, upd_same]; rfl) (Ne.symm hda) fun H' k1 k2 => ?_
        have e : H' = upd (upd H d (exd d ((((f :: ns).map nm).zip ([w1] ++ ws)).reverse))) a (exo a C (some d)) := by
          funext b
          by_cases hb1 : b = a
          · subst hb1
            rw [upd_same, k1 b (Ne.symm hda), upd_same]
          · by_cases hb2 : b = d
            · subst hb2
              rw [k2, upd_ne hb1, upd_same]
            · rw [k1 b hb2, upd_ne hb1, upd_ne hb2, upd_ne hb1, upd_ne hb2]
        rw [e]
        exact hq d hd hda
    · cases hm
section
variable {X : Cx} {Y : Sx} {Bs : List Nat} {W : WX} {b : Nat} {M : MC} {c : Ctx} {mas : Env → Store → R (List D)}
theorem raise_read {C : String} {ns : List String} {E0 : Ends} {σ : L2.St} {ρ : Env} {H1 : Hp} {μ1 : List Addr} {S1 : Store} {vs : List V} {ds : List D} (cl : ExF Y.ca C) (hno : ∀ f ∈ ns, PySem.W.findIn Y.ca.K (.ref (Y.ca C)) (nm f) = some none)
    (w1 : World Y Bs μ1 H1 S1) (en1 : EnvOk Y μ1 H1 σ ρ) (r1 : RepL Y μ1 H1 vs ds) (hl : ds.length = ns.length) (k : KS Y Bs W μ1 H1 E0 (.err C ns.reverse ds.reverse ρ S1)) (a d : Addr) (ha : H1 a = none) (hd : H1 d = none) (hda : d ≠ a) (oa oa' : HO) (od : HO) :
    W (.ref (Y.ca C)) (some d) σ (upd (del (upd (upd (upd H1 a oa) d od) a oa') a) d (.xd ((ns.map nm).zip vs).reverse)) := by
  have hv := r1.length
  have hs : ∀ b o, H1 b = some o → (upd (del (upd (upd (upd H1 a oa) d od) a oa') a) d (.xd ((ns.map nm).zip vs).reverse)) b = some o := fun b o h => by
    have n1 : b ≠ d := ne_of_none h hd
    have n2 : b ≠ a := ne_of_none h ha
    rw [upd_ne n1, del_ne n2, upd_ne n2, upd_ne n1, upd_ne n2]
    exact h
  refine k μ1 _ σ _ _ (.of_same hs) (w1.same hs) (en1.ext (.of_same hs)) ⟨rfl, cl, fun f hf => hno f (List.mem_reverse.mp hf), .inr ⟨d, _, rfl, upd_same, w1.fresh hd, ?_, ?_⟩⟩
  · rw [List.map_reverse, List.map_reverse, List.map_fst_zip (by rw [List.length_map]; omega)]
  · rw [List.map_reverse, List.map_snd_zip (by rw [List.length_map]; omega)]
    exact (r1.ext (.of_same hs)).reverse
theorem st_raise (G : GoodS Y c b Bs W M X) (hcm : M.calm = true) {C : String} {n : Str} {q p p2 : Pos} {y : Expr} {ys : List Expr} (hC : M.ex C = true) (hT : M.exT C = false) (hn : gnB M.sc C n = true) (hs : allNS (y :: ys) = true) (ha : PA X (y :: ys) (tA Y Bs W mas)) :
    PS X (.Raise (some (.Call (.Name n q) (y :: ys) [] p)) none p2) (tS Y Bs W fun ρ S => if c.deep then (mas ρ S).then ρ fun ds S1 => match exFields (c.ex C) ds with
    | some (ns, fs) => .err C ns fs ρ S1
    | none => .bad
    else .bad) := by
  obtain ⟨rfl, h4, h5⟩ := gnB_of hn
  by_cases hd : c.deep = true
  · obtain ⟨cl, hm, qq, hq, ht, rz⟩ := G.exg C hC
    cases qq with
    | none => rw [ht.mpr rfl] at hT; cases hT
    | some ns =>
      obtain ⟨T, hne, hno, fI, fd, iC, tI, F1, hb⟩ := rz
      have hs' := hs
      unfold allNS at hs'
      rw [List.all_cons, Bool.and_eq_true] at hs'
      refine (ps_raise (G.calm hcm) G.tk (pmk_oex (dvs := []) (ds := []) T iC tI F1 (G.deep hd hcm) hb .nil (passes_call G.tk fun _ _ _ _ h => h.elim) (G.gl h4) hm ha (okN_db h5) (starEach_of hs'.1) (starEach_ns hs'.2).1)).imp ?_
      rintro E0 σ H ⟨μ, ρ, S, w, en, k⟩
      dsimp only at k
      rw [if_pos hd] at k
      refine tS.bind w en k fun ds S1 μ1 H1 vs w1 en1 x1 r1 k1 => ?_
      rw [hq] at k1
      simp only [exFields] at k1
      split at k1
      · rename_i ns' fs' heq
        split at heq
        · rename_i hl
          cases heq
          refine ⟨by rw [r1.length, hl.1]; omega, fun a ha => ⟨a, vs, by rw [List.append_nil], by rw [r1.length]; exact hl.1, upd_same, fun d hd' hda => ?_⟩⟩
          rw [upd_ne hda] at hd'
          refine ⟨rfl, d, _, upd_same, by rw [upd_ne hda, upd_same], hd', ?_⟩
          exact raise_read cl hno w1 en1 r1 hl.1 k1 a d ha hd' hda _ _ _
        · cases heq
      · exact k1.elim
  · exact st_no fun ρ S => if_neg hd
theorem st_raiseT (G : GoodS Y c b Bs W M X) (hcm : M.calm = true) {C : String} {n z : Str} {q p p2 p3 : Pos} {l : List Nat} {j : Nat} (hC : M.ex C = true) (hT : M.exT C = true) (hn : gnB M.sc C n = true) :
    PS X (.Raise (some (.Call (.Name n q) [.Constant (.str z) j p3] [] p)) none p2) (tS Y Bs W fun ρ S => if c.deep then (evs c b (.cons (.str l) .nil) ρ S).then ρ fun ds S1 => match exFields (c.ex C) ds with
    | some (ns, fs) => .err C ns fs ρ S1
    | none => .bad
    else .bad) := by
  obtain ⟨rfl, h4, h5⟩ := gnB_of hn
  by_cases hd : c.deep = true
  · obtain ⟨cl, hm, qq, hq, ht, rz⟩ := G.exg C hC
    cases qq with
    | some ns => exact absurd (ht.mp hT) (by simp)
    | none =>
      have f1 := cl.kC
      have f2 := cl.exC
      have f3 := cl.tyC
      rw [G.hK] at f1 f2 f3
      refine (ps_raise (G.calm hcm) G.tk (pmk_own PySem.F.excBase_ValueError rz hm f1 (raises_own f2 f3) (G.gl h4) (okN_db h5))).imp ?_
      rintro E0 σ H ⟨μ, ρ, S, w, en, k⟩
      dsimp only at k
      rw [if_pos hd] at k
      simp only [evs, ev, R.bind, R.then, hq, exFields] at k
      exact k μ H σ _ _ (.refl _ _) w en ⟨rfl, cl, by simp, .inl ⟨rfl, rfl, rfl⟩⟩
  · exact st_no fun ρ S => if_neg hd
theorem GoodS.tr (G : GoodS Y c b Bs W M X) (hcm : M.calm = true) {W' : WX} {pn : List (Addr × Obj)} {xe : Value → Shared → Prop} (tk : Takes (X.tr pn xe) W') (ps : PassesOwn (model X.prog X.w) X.A X.env xe) : GoodS Y c b Bs W' M (X.tr pn xe) where
  hN := G.hN
  hK := G.hK
  nd := G.nd
  hsc := G.hsc
  calm := G.calm
  exs := G.exs
  cx := G.cx
  exn := fun z hz => by rw [G.toGood.bare hcm] at hz; cases hz
  isxK := G.isxK
  hu := G.hu
  hb := G.hb
  tk := tk
  bi := G.bi
  con := G.con
  cls := G.cls
  bcl := G.bcl
  isaN := G.isaN
  isaI := G.isaI
  call := fun f hf => by
    obtain ⟨k, a, fd, ps, h⟩ := (G.call f hf).get
    exact ⟨k, a, fd, ps, h⟩
  fld := G.fld
  meth := fun h C m f hf => by
    obtain ⟨k, a, fd, ps, h⟩ := (G.meth h C m f hf).get
    exact ⟨k, a, fd, ps, h⟩
  make := fun h C hC => by
    obtain ⟨h1, h2, h3⟩ := G.make h C hC
    exact ⟨h1, h2, h3⟩
  hfn := fun f hf => by
    obtain ⟨k, a, fd, ps, h⟩ := (G.hfn f hf).get
    exact ⟨k, a, fd, ps, h⟩
  loc := G.loc
  kind := G.kind
  stk := G.stk
  frm := G.frm
  exg := G.exg
  deep := G.deep
  exm := G.exm
  pass := fun _ => ps
def Sx.with (Y : Sx) (e : Option ExS) : Sx := ⟨Y.ca, Y.hid, e⟩
theorem GoodS.hot (G : GoodS Y c b Bs W M X) {a : Addr} {oe : Obj} {pn : List (Addr × Obj)} {e : Option ExS} {c' : Ctx} (hc : c' = { c with exc := c'.exc }) (he : ∀ z, e = some z → c'.exc = some (z.C, z.ns, z.ds) ∧ z.at_ = a ∧ Zc z.cls z.dd oe ∧ ∃ vs, oe.data = .fields vs) :
    GoodS (Y.with e) c' b Bs noW (M.hot (e.map ExS.slot)) (X.suite a ((a, oe) :: pn)) where
  hN := G.hN
  hK := G.hK
  nd := G.nd
  hsc := G.hsc
  calm := fun h => by cases h
  exs := rfl
  cx := fun h => by cases h
  exn := fun z hz => by
    obtain ⟨h1, h2, h3, h4⟩ := he z hz
    exact ⟨h1, oe, by rw [h2]; exact List.mem_cons_self, h3, h4⟩
  isxK := by rw [hc]; exact G.isxK
  hu := G.hu
  hb := G.hb
  tk := by
    rintro u s' ⟨_, _, _, _, _, _, _, _, _, _, _, _, _, _, _, _, h⟩
    exact h
  bi := G.bi
  con := by rw [hc]; exact G.con
  cls := G.cls
  bcl := G.bcl
  isaN := G.isaN
  isaI := by rw [hc]; exact G.isaI
  call := fun f hf => by cases hf
  fld := by rw [hc]; exact G.fld
  meth := fun h => by cases h
  make := fun h => by cases h
  hfn := fun f hf => by
    rw [hc]
    obtain ⟨k, a, fd, ps, h1, h2, h3⟩ := (G.hfn f hf).get
    exact ⟨k, a, fd, ps, h1, ⟨h2.dp, h2.un⟩, h3⟩
  loc := G.loc
  kind := G.kind
  stk := G.stk
  frm := G.frm
  exg := by rw [hc]; exact G.exg
  deep := fun _ h => by cases h
  exm := by rw [hc]; exact G.exm
  pass := fun h => by cases h
theorem KS.calmed {Y' : Sx} {μ : List Addr} {H : Hp} {E0 : Ends} {r : RS} (h1 : Y'.ca = Y.ca) (h2 : Y'.hid = Y.hid) (hx : Y'.exs = Y.exs) (k : KS Y Bs W μ H E0 r.calm) : KS Y' Bs noW μ H E0 r := by
  have h3 : Y' = Y := by
    cases Y; cases Y'
    simp only at h1 h2 hx
    subst h1 h2 hx
    rfl
  subst h3
  cases r with
  | ok f S => cases f <;> exact k
  | err C ns ds ρ S => exact k.elim
  | bad => exact k.elim
section
variable {m1 m2 mels : Env → Store → RS} {xs zs ss : List Stmt} {y : Stmt} {n : Str} {p p2 p3 : Pos} {C : String}
theorem st_try (G : GoodS Y c b Bs W M X) (hcm : M.calm = true) (hC : M.ex C = true) (hn : gnB M.sc C n = true) {h : String → List String → List D → Env → Store → RS}
    (h1 : ∀ (W' : WX) (pn : List (Addr × Obj)) (xe : Value → Shared → Prop), GoodS Y c b Bs W' M (X.tr pn xe) → PSs (X.tr pn xe) xs (tS Y Bs W' m1)) (h2 : PSs X zs (tS Y Bs W mels))
    (h3 : ∀ (a : Addr) (oe : Obj) (pn : List (Addr × Obj)), GoodS Y c b Bs noW (M.hot none) (X.suite a ((a, oe) :: pn)) → PSs (X.suite a ((a, oe) :: pn)) (y :: ss) (tS Y Bs noW m2)) (hh : ∀ Z ns ds ρ S, h Z ns ds ρ S = m2 ρ S) :
    PS X (.Try xs [.ExceptHandler (some (.Name n p)) none (y :: ss) p2] zs [] p3) (tS Y Bs W fun ρ S => RS.tried (m1 ρ S) (fun Z => c.isx Z C) none h mels) := by
  obtain ⟨rfl, h4, h5⟩ := gnB_of hn
  obtain ⟨cl, hm, _⟩ := G.exg C hC
  have hx := G.toGood.bare hcm
  have base := ps_try_onlyE (X := X) (x := nm C) (c := .ref (Y.ca C)) (np := p) (pos := p3) (pos' := p2) (tb := fun W' => tS Y Bs W' m1) (ts := fun a cls d => tS Y Bs noW m2) (Wout := W) h2 G.stk G.frm ⟨G.gl h4, okN_db h5, .inl hm⟩ G.tk (fun W' pn xe tk ps => h1 W' pn xe (G.tr hcm tk ps))
    (fun a oe cls d pn hz hv => by
      have g := G.hot (a := a) (oe := oe) (pn := pn) (e := none) (c' := { c with exc := c.exc }) rfl (fun z hz => by cases hz)
      have e : Y.with none = Y := by cases Y; simp only at hx; subst hx; rfl
      rw [e] at g
      exact h3 a oe pn g)
  refine base.imp ?_
  rintro E0 σ H ⟨μ, ρ, S, w, en, k⟩
  refine ⟨μ, ρ, S, w, en, ?_⟩
  replace k : KS Y Bs W μ H E0 (RS.tried (m1 ρ S) (fun Z => c.isx Z C) none h mels) := k
  revert k
  cases m1 ρ S with
  | ok f S1 =>
    cases f with
    | nx ρ1 => exact fun k μ' H' σ' x w' en' => ⟨μ', ρ1, S1, w', en', KS.mono x k⟩
    | rt d => exact fun k => k
    | bk ρ1 => exact fun k => k
    | ct ρ1 => exact fun k => k
  | err Z ns ds ρ1 S1 =>
    intro k μ' H' σ' cls dd x w' en' ex
    have k' := KS.mono x k
    clear k
    unfold RS.tried at k'
    dsimp only at k'
    cases hi : c.isx Z C with
    | none => rw [hi] at k'; exact k'.elim
    | some t =>
      rw [hi] at k'
      refine ⟨t, by rw [ex.cls_]; exact G.exm Z C t hi hC, fun ht a na => ?_, fun ht => ?_⟩
      · subst ht
        refine ⟨μ', ρ1, S1, w', en', ?_⟩
        rw [← hh Z ns ds]
        exact KS.calmed rfl rfl rfl k'
      · subst ht
        exact k' μ' H' σ' cls dd (.refl _ _) w' en' ex
  | bad => exact fun k => k
theorem st_tryN (G : GoodS Y c b Bs W M X) (hcm : M.calm = true) {hd : ExceptHandler} {hds : List ExceptHandler}
    (h1 : ∀ (W' : WX) (pn : List (Addr × Obj)) (xe : Value → Shared → Prop), GoodS Y c b Bs W' M (X.tr pn xe) → PSs (X.tr pn xe) xs (tS Y Bs W' m1)) (h2 : PSs X zs (tS Y Bs W mels)) :
    PS X (.Try xs (hd :: hds) zs [] p3) (tS Y Bs W fun ρ S => RS.tried (m1 ρ S) (fun _ => none) none (fun _ _ _ _ _ => .bad) mels) := by
  have tk : Takes (X.tr X.pn fun _ _ => False) noW := fun u s' ⟨a, B, sI, pins, σ, H, cls, d, e, I, nb, up, sky, na, os, ag, w⟩ => w.elim
  have base := ps_try_thru (h₀ := hd) (hs := hds) (pos := p3) (h1 noW X.pn (fun _ _ => False) (G.tr hcm tk PassesOwn.never)) h2
  refine base.imp ?_
  rintro E0 σ H ⟨μ, ρ, S, w, en, k⟩
  refine ⟨μ, ρ, S, w, en, ?_⟩
  replace k : KS Y Bs W μ H E0 (RS.tried (m1 ρ S) (fun _ => none) none (fun _ _ _ _ _ => .bad) mels) := k
  revert k
  cases m1 ρ S with
  | ok f S1 =>
    cases f with
    | nx ρ1 => exact fun k μ' H' σ' x w' en' => ⟨μ', ρ1, S1, w', en', KS.mono x k⟩
    | rt d => exact fun k => k
    | bk ρ1 => exact fun k => k
    | ct ρ1 => exact fun k => k
  | err Z ns ds ρ1 S1 => exact fun k => k.elim
  | bad => exact fun k => k
theorem EnvOk.other {Y' : Sx} {μ : List Addr} {H : Hp} {σ : L2.St} {ρ : Env} (h1 : Y'.ca = Y.ca) (h2 : Y'.hid = Y.hid) (h3 : ∀ z, Y'.exs = some z → σ[z.slot]? = some (some (.ref z.at_)) ∧ ExcAt Y' μ H z.C z.ns z.ds z.cls z.dd) (en : EnvOk Y μ H σ ρ) : EnvOk Y' μ H σ ρ :=
  ⟨en.len, fun i d q => by
    obtain ⟨v, a, r⟩ := en.at_ i d q
    exact ⟨v, a, r.move (.refl _ _) (.other h1 h2)⟩, h3⟩
theorem st_tryAs (G : GoodS Y c b Bs W M X) (hcm : M.calm = true) (hC : M.ex C = true) (hn : gnB M.sc C n = true) {i : Nat} {en : Str} (hi : M.N[i]? = some en) (hln : M.sc.names.lookup en = some .local) {h : String → List String → List D → Env → Store → RS}
    (h1 : ∀ (W' : WX) (pn : List (Addr × Obj)) (xe : Value → Shared → Prop), GoodS Y c b Bs W' M (X.tr pn xe) → PSs (X.tr pn xe) xs (tS Y Bs W' m1))
    (h3 : ∀ (a : Addr) (oe : Obj) (pn : List (Addr × Obj)) (z : ExS), z.slot = i → GoodS (Y.with (some z)) { c with exc := some (z.C, z.ns, z.ds) } b Bs noW (M.hot (some i)) (X.suite a ((a, oe) :: pn)) → PSs (X.suite a ((a, oe) :: pn)) (y :: ss) (tS (Y.with (some z)) Bs noW (h z.C z.ns z.ds))) :
    PS X (.Try xs [.ExceptHandler (some (.Name n p)) (some en) (y :: ss) p2] [] [] p3) (tS Y Bs W fun ρ S => RS.tried (m1 ρ S) (fun Z => c.isx Z C) (some i) h fun ρ1 S1 => .ok (.nx ρ1) S1) := by
  obtain ⟨rfl, h4, h5⟩ := gnB_of hn
  obtain ⟨cl, hm, _⟩ := G.exg C hC
  have hx := G.toGood.bare hcm
  have hkind : X.env.kindOf en = some .local := by
    unfold Env.kindOf
    rw [G.hsc]
    exact hln
  have base := ps_try_as (X := X) (x := nm C) (c := .ref (Y.ca C)) (n := en) (i := i) (np := p) (pos := p3) (pos' := p2) (tb := fun W' => tS Y Bs W' m1)
    (ts := fun a cls d E0 σ H => ∃ z : ExS, z.slot = i ∧ z.at_ = a ∧ z.cls = cls ∧ z.dd = d ∧ tS (Y.with (some z)) Bs noW (h z.C z.ns z.ds) E0 σ H) (Wout := W) G.stk G.frm G.nd (by rw [G.hN]; exact hi) hkind ⟨G.gl h4, okN_db h5, .inl hm⟩ G.tk (fun W' pn xe tk ps => h1 W' pn xe (G.tr hcm tk ps))
    (fun a oe cls d pn hz hv => ⟨fun pins s σ H E0 I ⟨z, e1, e2, e3, e4, q⟩ => by
      have g := G.hot (a := a) (oe := oe) (pn := pn) (e := some z) (c' := { c with exc := some (z.C, z.ns, z.ds) }) rfl (fun z' hz' => by
        obtain rfl := Option.some.inj hz'
        exact ⟨rfl, e2, by rw [e3, e4]; exact hz, hv⟩)
      rw [Option.map_some, e1] at g
      exact (h3 a oe pn z e1 g).run pins s σ H E0 I q⟩)
  refine base.imp ?_
  rintro E0 σ H ⟨μ, ρ, S, w, en0, k⟩
  refine ⟨μ, ρ, S, w, en0, ?_⟩
  replace k : KS Y Bs W μ H E0 (RS.tried (m1 ρ S) (fun Z => c.isx Z C) (some i) h fun ρ1 S1 => .ok (.nx ρ1) S1) := k
  revert k
  cases m1 ρ S with
  | ok f S1 =>
    cases f with
    | nx ρ1 => exact fun k => k
    | rt d => exact fun k => k
    | bk ρ1 => exact fun k => k
    | ct ρ1 => exact fun k => k
  | err Z ns ds ρ1 S1 =>
    intro k μ' H' σ' cls dd x w' en' ex
    have k' := KS.mono x k
    clear k
    unfold RS.tried at k'
    dsimp only at k'
    cases hi' : c.isx Z C with
    | none => rw [hi'] at k'; exact k'.elim
    | some t =>
      rw [hi'] at k'
      refine ⟨t, by rw [ex.cls_]; exact G.exm Z C t hi' hC, fun ht a na => ?_, fun ht => ?_⟩
      · subst ht
        dsimp only at k'
        split at k'
        · rename_i hlt
          have hlt' : i < σ'.length := by rw [← en'.len]; exact hlt
          refine ⟨⟨i, a, Z, ns, ds, cls, dd⟩, rfl, rfl, rfl, rfl, μ', ρ1.set i none, S1, World.other (Y := Y) (Y' := Y.with _) rfl rfl w', ?_, ?_⟩
          · have e1 := en'.drop (x := some (.ref a)) i (Sx.free_none hx i)
            refine EnvOk.other (Y := Y) (Y' := Y.with _) rfl rfl (fun z hz => ?_) e1
            obtain rfl := Option.some.inj hz
            exact ⟨List.getElem?_set_self hlt', ex.move (.refl _ _) (Up.other (Y := Y) (Y' := Y.with _) rfl rfl)⟩
          · have back : ∀ {μ2 : List Addr} {H2 : Hp} {σ2 : L2.St} {ρ2 : Env}, EnvOk (Y.with (some ⟨i, a, Z, ns, ds, cls, dd⟩)) μ2 H2 σ2 ρ2 → EnvOk Y μ2 H2 (σ2.set i none) (ρ2.set i none) := fun e2 =>
              (EnvOk.other (Y := Y.with (some ⟨i, a, Z, ns, ds, cls, dd⟩)) (Y' := Y) rfl rfl (fun z hz => by rw [hx] at hz; cases hz) e2).drop i (Sx.free_none hx i)
            revert k'
            cases h Z ns ds (ρ1.set i none) S1 with
            | ok f S2 =>
              cases f with
              | nx ρ2 => exact fun k' μ2 H2 σ2 x2 w2 e2 => k' μ2 H2 _ x2 (World.other (Y := Y.with (some ⟨i, a, Z, ns, ds, cls, dd⟩)) (Y' := Y) rfl rfl w2) (back e2)
              | rt d => exact fun k' μ2 H2 v x2 w2 r2 => k' μ2 H2 v x2 (World.other (Y := Y.with (some ⟨i, a, Z, ns, ds, cls, dd⟩)) (Y' := Y) rfl rfl w2) (r2.move (.refl _ _) (Up.other (Y := Y.with (some ⟨i, a, Z, ns, ds, cls, dd⟩)) (Y' := Y) rfl rfl))
              | bk ρ2 => exact fun k' μ2 H2 σ2 x2 w2 e2 => k' μ2 H2 _ x2 (World.other (Y := Y.with (some ⟨i, a, Z, ns, ds, cls, dd⟩)) (Y' := Y) rfl rfl w2) (back e2)
              | ct ρ2 => exact fun k' μ2 H2 σ2 x2 w2 e2 => k' μ2 H2 _ x2 (World.other (Y := Y.with (some ⟨i, a, Z, ns, ds, cls, dd⟩)) (Y' := Y) rfl rfl w2) (back e2)
            | err _ _ _ _ _ => exact fun k' => k'.elim
            | bad => exact fun k' => k'
        · exact k'.elim
      · subst ht
        exact k' μ' H' σ' cls dd (.refl _ _) w' en' ex
  | bad => exact fun k => k
end
end
end CL
namespace CL
open PySem PySem.Spec PyProof.Rows L2
theorem name_of {M : MC} {i : Nat} {t : Expr} (h : (Tg.one i).mt M t = true) : ∃ n p, t = .Name n p ∧ M.N[i]? = some n ∧ M.exi ≠ some i ∧ locB M.sc n = true := by
  unfold Tg.mt at h
  cases t with
  | Name n p =>
    simp only [Bool.and_eq_true, decide_eq_true_eq] at h
    exact ⟨n, p, rfl, h⟩
  | _ => cases h
theorem one_lc {Y : Sx} {c : Ctx} {b : Nat} {Bs : List Nat} {W : WX} {M : MC} {X : Cx} (G : GoodS Y c b Bs W M X) {i : Nat} {e : E} {n : Str} {py p : Pos} {x : Expr} (h1 : M.N[i]? = some n) (hfr : M.exi ≠ some i) (h2 : locB M.sc n = true) (h : e.mt M x = true) (hl : e.isLc = true) :
    PS X (.Assign [.Name n py] x p) (tS Y Bs W (setM (.one i) fun ρ S => ev c b e ρ S)) := by
  cases e with
  | lc elt tg it =>
    unfold E.mt at h
    split at h
    · simp only [Bool.and_eq_true] at h
      obtain ⟨g1, g2, g3, g4, g5⟩ := h
      exact st_lc G h1 hfr h2 g1 g2 g4 (It.ok it G.toGood g3) (fun s H C cl fp => pts_nil) (fun s H C cl fp => te_ok (Y := Y) (me := fun ρ S => ev c b elt ρ S) fun Y' hca => (E.ok elt ((G.toGood.hidden hca (G.toGood.bare (compB_calm g1))).blk hca.2 s H _ C cl fp) g5).1) fun σ H Q k => lc_tLc (f := lcF tg fun ρ S => ev c b elt ρ S) (G.toGood.bare (compB_calm g1)) (fun σ ρ => step_F) k
    · cases h
  | newlc elt tg it =>
    unfold E.mt at h
    split at h
    · simp only [Bool.and_eq_true] at h
      obtain ⟨g1, g2, g3, g4, g5⟩ := h
      exact st_lc G h1 hfr h2 g1 g2 g4 (It.ok it G.toGood g3) (fun s H C cl fp => pts_nil) (fun s H C cl fp => te_ok (Y := Y) (me := fun ρ S => ev c b elt ρ S) fun Y' hca => (E.ok elt ((G.toGood.hidden hca (G.toGood.bare (compB_calm g1))).blk hca.2 s H _ C cl fp) g5).1) fun σ H Q k => lc_tLcN (f := lcF tg fun ρ S => ev c b elt ρ S) (G.toGood.bare (compB_calm g1)) (fun σ ρ => step_F) k
    · cases h
  | lcIf elt tg it q =>
    unfold E.mt at h
    split at h
    · simp only [Bool.and_eq_true] at h
      obtain ⟨g1, g2, g3, g4, g5, g6⟩ := h
      exact st_lc G h1 hfr h2 g1 g2 g4 (It.ok it G.toGood g3) (fun s H C cl fp => pts_one (tt_ok (Y := Y) (me := fun ρ S => ev c b q ρ S) fun Y' hca => (E.ok q ((G.toGood.hidden hca (G.toGood.bare (compB_calm g1))).blk hca.2 s H _ C cl fp) g5).2)) (fun s H C cl fp => te_ok (Y := Y) (me := fun ρ S => ev c b elt ρ S) fun Y' hca => (E.ok elt ((G.toGood.hidden hca (G.toGood.bare (compB_calm g1))).blk hca.2 s H _ C cl fp) g6).1)
        fun σ H Q k => lc_tLc (f := lcFI tg (fun ρ S => ev c b q ρ S) fun ρ S => ev c b elt ρ S) (G.toGood.bare (compB_calm g1)) (fun σ ρ => step_FI) k
    · cases h
  | newlcIf elt tg it q =>
    unfold E.mt at h
    split at h
    · simp only [Bool.and_eq_true] at h
      obtain ⟨g1, g2, g3, g4, g5, g6⟩ := h
      exact st_lc G h1 hfr h2 g1 g2 g4 (It.ok it G.toGood g3) (fun s H C cl fp => pts_one (tt_ok (Y := Y) (me := fun ρ S => ev c b q ρ S) fun Y' hca => (E.ok q ((G.toGood.hidden hca (G.toGood.bare (compB_calm g1))).blk hca.2 s H _ C cl fp) g5).2)) (fun s H C cl fp => te_ok (Y := Y) (me := fun ρ S => ev c b elt ρ S) fun Y' hca => (E.ok elt ((G.toGood.hidden hca (G.toGood.bare (compB_calm g1))).blk hca.2 s H _ C cl fp) g6).1)
        fun σ H Q k => lc_tLcN (f := lcFI tg (fun ρ S => ev c b q ρ S) fun ρ S => ev c b elt ρ S) (G.toGood.bare (compB_calm g1)) (fun σ ρ => step_FI) k
    · cases h
  | _ => cases hl
mutual
theorem St.ok : ∀ (s : St) {Y : Sx} {c : Ctx} {b : Nat} {Bs : List Nat} {W : WX} {M : MC} {X : Cx} {x : Stmt}, GoodS Y c b Bs W M X → s.mt M x = true → PS X x (tS Y Bs W fun ρ S => exS b s c ρ S)
  | .no, Y, c, b, Bs, W, M, X, x, G, h => st_no fun _ _ => rfl
  | .set tg e, Y, c, b, Bs, W, M, X, x, G, h => by
    unfold St.mt at h
    split at h
    · rename_i t x p
      simp only [Bool.and_eq_true] at h
      obtain ⟨h1, h2, h3⟩ := h
      cases tg with
      | many is =>
        simp only [Bool.and_eq_true, Bool.not_eq_true'] at h3
        exact st_set G h1 (swaps_of h3.1) (stores_of h3.2) (E.ok e G.toGood h2).1
      | one i =>
        simp only [Bool.or_eq_true] at h3
        obtain ⟨n, py, rfl, a1, a0, a2⟩ := name_of h1
        by_cases hn : notComp x = true
        · exact st_set G h1 (swaps_of hn) (by cases x <;> rfl) (E.ok e G.toGood h2).1
        · exact one_lc G a1 a0 a2 h2 (h3.resolve_left hn)
    · cases h
  | .par i j a e, Y, c, b, Bs, W, M, X, x, G, h => by
    unfold St.mt at h
    split at h
    · simp only [Bool.and_eq_true] at h
      obtain ⟨h1, h2, h3, h4⟩ := h
      have q := h2
      unfold parB at q
      simp only [Bool.and_eq_true] at q
      have hm := (fun ρ S => par_eq (b := b) (c := c) i j a e ρ S)
      simp only [hm]
      exact st_par G h2 h1 (Es.ok (.cons a (.cons e .nil)) G.toGood (by simp only [Es.mt, Bool.and_eq_true]; exact ⟨q.2.2.2.2.2.2.2.1, h3, q.2.2.2.2.2.2.2.2.1, h4, rfl⟩)).args
    · cases h
  | .setIdx a i v, Y, c, b, Bs, W, M, X, x, G, h => by
    unfold St.mt at h
    split at h
    · simp only [Bool.and_eq_true] at h
      exact st_setIdx G h.1 h.2.1 (E.ok a G.toGood h.2.2.1).1 (E.ok i G.toGood h.2.2.2.1).1 (E.ok v G.toGood h.2.2.2.2).1
    · cases h
  | .setFld a f v, Y, c, b, Bs, W, M, X, x, G, h => by
    unfold St.mt at h
    split at h
    · simp only [Bool.and_eq_true, decide_eq_true_eq] at h
      obtain ⟨rfl, h1, h2, h3⟩ := h
      exact st_setFld G h1 (E.ok a G.toGood h2).1 (E.ok v G.toGood h3).1
    · cases h
  | .aug i e, Y, c, b, Bs, W, M, X, x, G, h => by
    unfold St.mt at h
    split at h
    · simp only [Bool.and_eq_true, decide_eq_true_eq] at h
      exact st_aug G h.1 h.2.1 h.2.2.1 (E.ok e G.toGood h.2.2.2).1
    · cases h
  | .ex e, Y, c, b, Bs, W, M, X, x, G, h => by
    unfold St.mt at h
    split at h
    · simp only [Bool.and_eq_true] at h
      exact st_ex h.1 (E.ok e G.toGood h.2).1
    · cases h
  | .ite q a d, Y, c, b, Bs, W, M, X, x, G, h => by
    unfold St.mt at h
    split at h
    · simp only [Bool.and_eq_true] at h
      exact st_ite (E.ok q G.toGood h.1).2 (Ss.ok a G h.2.1) (Ss.ok d G h.2.2)
    · cases h
  | .for_ tg it body, Y, c, b, Bs, W, M, X, x, G, h => by
    unfold St.mt at h
    split at h
    · simp only [Bool.and_eq_true] at h
      exact st_for G h.1 h.2.1 h.2.2.1 (It.ok it G.toGood h.2.2.2.1) (Ss.ok body G h.2.2.2.2)
    · cases h
  | .whl q body, Y, c, b, Bs, W, M, X, x, G, h => by
    unfold St.mt at h
    split at h
    · simp only [Bool.and_eq_true] at h
      exact st_whl G h.1 c.fuel (E.ok q G.toGood h.2.1).2 (Ss.ok body G h.2.2)
    · cases h
  | .ret e, Y, c, b, Bs, W, M, X, x, G, h => by
    unfold St.mt at h
    split at h
    · exact st_ret (E.ok e G.toGood h).1
    · cases h
  | .ret0, Y, c, b, Bs, W, M, X, x, G, h => by
    unfold St.mt at h
    split at h
    · exact st_ret0
    · cases h
  | .brk, Y, c, b, Bs, W, M, X, x, G, h => by
    unfold St.mt at h
    split at h
    · exact st_brk
    · cases h
  | .cont, Y, c, b, Bs, W, M, X, x, G, h => by
    unfold St.mt at h
    split at h
    · exact st_cont
    · cases h
  | .pass, Y, c, b, Bs, W, M, X, x, G, h => by
    unfold St.mt at h
    split at h
    · exact st_pass
    · cases h
  | .raise C es, Y, c, b, Bs, W, M, X, x, G, h => by
    unfold St.mt at h
    split at h
    · rename_i n q y ys p p2
      simp only [Bool.and_eq_true] at h
      obtain ⟨h1, h2, h3, h4, h5⟩ := h
      by_cases hT : M.exT C = true
      · rw [hT] at h5
        simp only [Bool.not_true, Bool.false_or] at h5
        split at h5
        · exact st_raiseT G h1 h2 hT h3
        · cases h5
      · have hT' : M.exT C = false := by simpa using hT
        have ih := Es.ok es G.toGood h4
        exact st_raise G h1 h2 hT' h3 ih.ns ih.args
    · cases h
  | .try_ body C as hd els, Y, c, b, Bs, W, M, X, x, G, h => by
    unfold St.mt at h
    split at h
    · rename_i xs n np nmo y ys p2 zs p3
      simp only [Bool.and_eq_true] at h
      obtain ⟨h1, h2, h3, h4, h5, h6⟩ := h
      split at h6
      · exact st_try (h := fun X ns ds ρ1 S1 => exs b hd c ρ1 S1) G h1 h2 h3 (fun W' pn xe G' => Ss.ok body G' h4) (Ss.ok els G h5) (fun a oe pn G' => Ss.ok hd G' h6) fun _ _ _ _ _ => rfl
      · rename_i i en
        simp only [Bool.and_eq_true, decide_eq_true_eq, List.isEmpty_iff] at h6
        obtain ⟨rfl, h7, h8, h9⟩ := h6
        have he : els = .nil := by
          cases els with
          | nil => rfl
          | cons _ _ => simp [Ss.mt] at h5
        subst he
        exact st_tryAs (h := fun X ns ds ρ1 S1 => exs b hd { c with exc := some (X, ns, ds) } ρ1 S1) G h1 h2 h3 h7 h8 (fun W' pn xe G' => Ss.ok body G' h4) (fun a oe pn z hz G' => Ss.ok hd G' h9)
      · cases h6
    · cases h
  | .tryN body els, Y, c, b, Bs, W, M, X, x, G, h => by
    unfold St.mt at h
    split at h
    · simp only [Bool.and_eq_true] at h
      exact st_tryN G h.1 (fun W' pn xe G' => Ss.ok body G' h.2.1) (Ss.ok els G h.2.2)
    · cases h
theorem Ss.ok : ∀ (ss : Ss) {Y : Sx} {c : Ctx} {b : Nat} {Bs : List Nat} {W : WX} {M : MC} {X : Cx} {xs : List Stmt}, GoodS Y c b Bs W M X → ss.mt M xs = true → PSs X xs (tS Y Bs W fun ρ S => exs b ss c ρ S)
  | .nil, Y, c, b, Bs, W, M, X, xs, G, h => by
    unfold Ss.mt at h
    rw [List.isEmpty_iff] at h
    subst h
    exact ss_nil
  | .cons s ss, Y, c, b, Bs, W, M, X, xs, G, h => by
    cases xs with
    | nil => simp [Ss.mt] at h
    | cons x xs =>
      simp only [Ss.mt, Bool.and_eq_true] at h
      exact ss_cons (St.ok s G h.1) (Ss.ok ss G h.2)
end
end CL
namespace CL
open PySem PySem.Spec PyProof.Rows L2
section
variable {Y : Sx} {μ : List Addr} {H : Hp} {Bs : List Nat} {S : Store}
theorem fin_read {W : WX} {μ0 : List Addr} {H0 : Hp} {keep give : Bool} {n : Nat} {v : V} {d : D} {Q : VK} {Bs' : List Nat} (hk : keep = true ∧ Bs' = Bs ∨ keep = false ∧ Bs' = n :: Bs) (hn : n = μ0.length) (hb : ∀ q ∈ Bs, q ≤ n) (e : Ext μ0 H0 μ H) (w : World Y Bs' μ H S) (r : Rep Y μ H v d)
    (k : KR Y Bs (Rep Y) μ0 H0 [] Q W (fin keep give n S d)) : Q v H := by
  rcases hk with ⟨rfl, rfl⟩ | ⟨rfl, rfl⟩
  · simp only [fin, if_true] at k
    exact k μ H v e w r
  · simp only [fin, Bool.false_eq_true, if_false] at k
    have w1 := w.cut hb
    have e1 : Ext μ0 H0 (μ.take n) H := by rw [hn]; exact e.cut
    split at k
    · exact k.elim
    · split at k
      · rename_i hl
        exact k (μ.take n) H v e1 w1 (res_rep w 8 v d r hl)
      · exact k.elim
end
theorem ExcAt.cut {Y : Sx} {μ : List Addr} {H : Hp} {C : String} {ns : List String} {ds : List D} {cls : Value} {dd : Option Addr} {n : Nat} (x : ExcAt Y μ H C ns ds cls dd) (h : D.limL n ds = true) : ExcAt Y (μ.take n) H C ns ds cls dd :=
  ⟨x.cls_, x.cl, x.no, x.flds.imp id fun ⟨a, fs, e1, e2, f, e3, r⟩ => ⟨a, fs, e1, e2, f.cut, e3, r.cut h⟩⟩
theorem start_ok {Y : Sx} (hx : Y.exs = none) {μ : List Addr} {H : Hp} {vs : List V} {ds : List D} {N : List Str} {d : Fn} (r : RepL Y μ H vs ds) (hN : N.length = d.names.length) (hl : ds.length = d.np) (hnp : d.np ≤ d.names.length) : EnvOk Y μ H (L2.start N vs) (d.start ds) := by
  have hv := r.length
  refine ⟨?_, fun i x h => ?_, fun z hz => by rw [hx] at hz; cases hz⟩
  · unfold L2.start Fn.start
    simp only [List.length_append, List.length_map, List.length_replicate]
    omega
  · unfold Fn.start at h
    have hi : i < ds.length := by
      refine Decidable.byContradiction fun q => ?_
      rw [List.getElem?_append_right (by simp; omega), List.getElem?_replicate] at h
      split at h <;> cases h
    rw [List.getElem?_append_left (by simpa using hi), List.getElem?_map, Option.map_eq_some_iff] at h
    obtain ⟨y, hy, e⟩ := h
    cases e
    obtain ⟨v, hv', rv⟩ := r.get hy
    refine ⟨v, ?_, rv⟩
    unfold L2.start
    rw [List.getElem?_append_left (by rw [List.length_map]; omega), List.getElem?_map, hv']
    rfl
structure DefAt (T : Text) (K : PySem.W.Frag) (M0 : MC) (x q : Str) (d : Fn) (st : Stmt) (a : Addr) (fd : FuncData) : Prop where
  fn : Fun K x q st a fd
  sc : FnScope (d.names.map nm) ((d.names.map nm).take d.np) (defScope st)
  np : d.np ≤ d.names.length
  bd : Binds K fd ((d.names.map nm).take d.np) []
  mt : d.body.mt { M0 with N := d.names.map nm, sc := defScope st } (defBody st) = true
structure HDefAt (T : Text) (K : PySem.W.Frag) (mg : Str → Option Value) (M0 : MC) (f : String) (d : Fn) (st : Stmt) (a : Addr) (fd : FuncData) : Prop where
  fn : Fun K (nm f) (nm f) st a fd
  mg : mg (nm f) = some (.ref a)
  sc : FnScope (d.names.map nm) ((d.names.map nm).take d.np) (defScope st)
  np : d.np ≤ d.names.length
  bd : Binds K fd ((d.names.map nm).take d.np) []
  mt : d.body.mt (({ M0 with N := d.names.map nm, sc := defScope st, hfn := fun _ => false } : MC).hot (some 0)) (defBody st) = true
structure TextOk (T : Text) (P : Program) (w : PySem.World) (K : PySem.W.Frag) (mg : Str → Option Value) (base : Heap) (ca : CA) (M0 : MC) : Prop where
  hK : ca.K = K
  mc : M0.calm = true ∧ M0.exi = none
  isxK : ∀ Y : Sx, Y.ca = ca → ∀ Z C k, T.isx Z C = some k → (isB C = true ∨ M0.cl C = true) → PySem.W.kitOne K (.ref (ca Z)) (clsVal Y C) = some k
  exg : ∀ C, M0.ex C = true → ExF ca C ∧ mg (nm C) = some (.ref (ca C)) ∧ ∃ q, T.ex C = some q ∧ (M0.exT C = true ↔ q = none) ∧ RaiseOk ca P w K mg base C q
  exm : ∀ Z C k, T.isx Z C = some k → M0.ex C = true → PySem.W.exmOne K (.ref (ca Z)) (.ref (ca C)) = some k
  fns : ∀ f, M0.fn f = true → ∃ d st a fd, T.fns f = some d ∧ DefAt T K M0 (nm f) (nm f) d st a fd ∧ mg (nm f) = some (.ref a)
  hfns : ∀ f, M0.hfn f = true → ∃ d st a fd, T.fns f = some d ∧ HDefAt T K mg M0 f d st a fd
  flds : ∀ C f, T.flds C f = true → Cls K (ca C) ∧ NoAttr K (ca C) (nm f)
  meths : ∀ C m f, T.meth C m = some f → ∃ d st a fd x q, T.fns f = some d ∧ DefAt T K M0 x q d st a fd ∧ Cls K (ca C) ∧ Meth K (ca C) (nm m) a
  makes : ∀ C, M0.oc C = true → mg (nm C) = some (.ref (ca C)) ∧ PySem.W.keepIn K (.ref (ca C)) = true ∧ ∀ cl f, T.cls C = some cl → cl.init = some f → ∃ d st a fd x q, T.fns f = some d ∧ DefAt T K M0 x q d st a fd ∧ Mk K (ca C) a
  bi : ∀ g ∈ bis, mg (nm g) = none
  con : ∀ g, M0.con g = true → ∃ d u v, T.con g = some d ∧ mg (nm g) = some u ∧ RelV v u ∧ ∀ Z μ H, Rep Z μ H v d
  cls : ∀ C, M0.cl C = true → isB C = false → mg (nm C) = some (.ref (ca C))
  bcl : ∀ C, isB C = true → mg (nm C) = none
  isaN : ∀ C, M0.cl C = true → isB C = false → ∀ T ∈ basT, PySem.W.kitOne K (.type T) (.ref (ca C)) = some false
  isaI : ∀ Y : Sx, Y.ca = ca → ∀ Z, (∃ C k, T.isa Z C = some k) → ∀ (H : Hp) (a dx : Addr) (fs : List (Str × V)), H a = some (.ins (ca Z) dx fs) → ∃ t, TyX K H (.ref a) t ∧ ∀ C k, T.isa Z C = some k → (isB C = true ∨ M0.cl C = true) → PySem.W.kitOne K t (clsVal Y C) = some k
section
variable {T : Text} {P : Program} {w : PySem.World} {K : PySem.W.Frag} {mg : Str → Option Value} {base : Heap} {ca : CA} {M0 : MC}
theorem hfn_level (X0 : TextOk T P w K mg base ca M0) : ∀ (n : Nat) (f : String), M0.hfn f = true → ∀ d st a fd, T.fns f = some d → HDefAt T K mg M0 f d st a fd → FnE P w K mg base n a fd ((d.names.map nm).take d.np) (spE ca ((callsN T n).hcall f))
  | 0, f, hf, d, st, a, fd, hT, dA => by
    have no : ∀ p vs H Q E, ¬ spE ca ((callsN T 0).hcall f) p vs H Q E := by
      rintro p vs H Q E ⟨Y, _, z, b, Bs, μ, S, _, _, _, _, _, _, _, k⟩
      exact k
    exact ⟨fun p vs H Q E h => absurd h (no p vs H Q E), fun A outer s H args us vs Q E p _ _ _ _ _ h => absurd h (no p vs H Q E)⟩
  | n + 1, f, hf, d, st, a, fd, hT, dA => by
    have one : ∀ p vs H Q E, spE ca ((callsN T (n + 1)).hcall f) p vs H Q E → d.np = 1 ∧ 0 < d.names.length := by
      rintro p vs H Q E ⟨Y, _, z, b, Bs, μ, S, _, _, _, _, _, _, _, k⟩
      simp only [callsN, hT] at k
      split at k
      · assumption
      · exact k.elim
    have len : ∀ p vs H Q E, spE ca ((callsN T (n + 1)).hcall f) p vs H Q E → vs.length = ((d.names.map nm).take d.np).length := by
      intro p vs H Q E h
      obtain ⟨o1, o2⟩ := one p vs H Q E h
      obtain ⟨Y, _, z, b, Bs, μ, S, rfl, _⟩ := h
      rw [List.length_take, List.length_map, o1]
      simp
      omega
    refine funE dA.fn dA.sc len fun cdv A outer s H vs Q E p hr h => ?_
    obtain ⟨o1, o2⟩ := one p vs H Q E h
    obtain ⟨Y, hca, z, b, Bs, μ, S, rfl, hp, hZ, hv, hb, wo, ex, k⟩ := h
    obtain ⟨pa, po⟩ := p
    simp only at hp hZ hv
    subst hp
    simp only [callsN, hT, if_pos (And.intro o1 o2)] at k
    let z' : ExS := { z with slot := 0 }
    let Y' : Sx := ⟨Y.ca, Y.hid, some z'⟩
    have wo1 : World Y' Bs μ H S := World.other (Y := Y) (Y' := Y') rfl rfl wo
    have ex1 : ExcAt Y' μ H z.C z.ns z.ds z.cls z.dd := ex.move (.refl _ _) (Up.other (Y := Y) (Y' := Y') rfl rfl)
    have en : EnvOk Y' μ H (L2.start (d.names.map nm) [V.ref z.at_]) (List.replicate d.names.length none) := by
      refine ⟨?_, fun i x hi => ?_, fun y hy => ?_⟩
      · unfold L2.start
        simp
        omega
      · rw [List.getElem?_replicate] at hi
        split at hi <;> cases hi
      · cases hy
        exact ⟨rfl, ex1⟩
    have X1 : ∀ (b' : Nat) (Bs' : List Nat), (∀ q ∈ Bs', q ≤ b') → GoodS Y' { ctxOf T (callsN T n) (decide (2 ≤ n)) with exc := some (z.C, z.ns, z.ds) } b' Bs' noW (({ M0 with N := d.names.map nm, sc := defScope st, hfn := fun _ => false } : MC).hot (some 0)) (L2H.cxH (L2.CX P w) P w K mg base (d.names.map nm) (nm f) (defScope st) a cdv A outer s H E (z.at_, po)) := by
      intro b' Bs' hb'
      have hu : (A.deeper (envOfC (nm f) (defScope st) s.heap.objs.size a cdv)).units + 64 < cLine := by have := hr.un; omega
      exact { hN := rfl, hK := by show Y.ca.K = K; rw [hca]; exact X0.hK, nd := dA.sc.nd, hsc := rfl, calm := fun h => (by cases h), exs := rfl, cx := fun h => (by cases h), exn := fun y hy => (by cases hy; exact ⟨rfl, po, List.mem_cons_self, hZ, hv⟩), isxK := fun Z C k h1 h2 => (by have := X0.isxK Y' hca Z C k h1 h2; rw [← hca] at this; exact this),
              hu := hu, hb := hb', tk := fun u s' h => (by obtain ⟨_, _, _, _, _, _, _, _, _, _, _, _, _, _, _, _, h⟩ := h; exact h.elim), bi := X0.bi, con := X0.con, cls := by show ∀ C, _ → _ → mg (nm C) = some (.ref (Y.ca C)); rw [hca]; exact X0.cls, bcl := X0.bcl, isaN := by show ∀ C, _ → _ → ∀ T ∈ basT, PySem.W.kitOne K (.type T) (.ref (Y.ca C)) = some false; rw [hca]; exact X0.isaN,
              isaI := fun Z q => (by have := X0.isaI Y' hca Z q; rw [← hca] at this; exact this), hfn := fun f' hf' => (by cases hf'), call := fun f' hf' => (by cases hf'), fld := fun C f' hf' => (by have := X0.flds C f' hf'; rw [← hca] at this; exact this), meth := fun h => (by cases h), make := fun h => (by cases h), loc := fun x hx => ⟨locB_ok hx, .inl rfl⟩, kind := dA.sc.kind, stk := rfl, frm := rfl, exg := by show ∀ C, _ → ExF Y.ca C ∧ mg (nm C) = some (.ref (Y.ca C)) ∧ _; rw [hca]; exact X0.exg,
              deep := fun _ h => (by cases h), exm := by show ∀ Z C k, _ → _ → PySem.W.exmOne K (.ref (Y.ca Z)) (.ref (Y.ca C)) = some k; rw [hca]; exact X0.exm, pass := fun h => (by cases h) }
    unfold runFn at k
    have main : ∀ (b' : Nat) (Bs' : List Nat), (d.keep = true ∧ Bs' = Bs ∧ b' = b ∨ d.keep = false ∧ Bs' = S.length :: Bs ∧ b' = S.length) → ∃ t, PSs (L2H.cxH (L2.CX P w) P w K mg base (d.names.map nm) (nm f) (defScope st) a cdv A outer s H E (z.at_, po)) (defBody st) t ∧ t { nx := fun _ H' => Q .non H', rt := Q } (L2.start (d.names.map nm) [V.ref z.at_]) H := by
      intro b' Bs' hk
      have hb' : ∀ q ∈ Bs', q ≤ b' := by
        rcases hk with ⟨_, rfl, rfl⟩ | ⟨_, rfl, rfl⟩
        · exact hb
        · intro q hq
          rcases List.mem_cons.mp hq with e | e
          · omega
          · exact wo.bs q e
      have wo' : World Y' Bs' μ H S := by
        rcases hk with ⟨_, rfl, rfl⟩ | ⟨_, rfl, rfl⟩
        · exact wo1
        · exact wo1.mark
      have hif : (if d.keep then b else S.length) = b' := by
        rcases hk with ⟨h1, _, rfl⟩ | ⟨h1, _, rfl⟩
        · rw [h1]; rfl
        · rw [h1]; rfl
      have hk2 : d.keep = true ∧ Bs' = Bs ∨ d.keep = false ∧ Bs' = S.length :: Bs := by
        rcases hk with ⟨h1, h2, _⟩ | ⟨h1, h2, _⟩
        · exact .inl ⟨h1, h2⟩
        · exact .inr ⟨h1, h2⟩
      refine ⟨_, Ss.ok d.body (X1 b' Bs' hb') dA.mt, μ, List.replicate d.names.length none, S, wo', en, ?_⟩
      rw [hif] at k
      show KS Y' Bs' _ μ H _ (exs b' d.body { ctxOf T (callsN T n) (decide (2 ≤ n)) with exc := some (z.C, z.ns, z.ds) } (List.replicate d.names.length none) S)
      revert k
      have back : ∀ {μ' : List Addr} {H' : Hp} {v : V} {dd : D}, Rep Y' μ' H' v dd → Rep Y μ' H' v dd := fun r => r.move (.refl _ _) (Up.other (Y := Y') (Y' := Y) rfl rfl)
      have backW : ∀ {Bs : List Nat} {μ' : List Addr} {H' : Hp} {S' : Store}, World Y' Bs μ' H' S' → World Y Bs μ' H' S' := fun w => World.other (Y := Y') (Y' := Y) rfl rfl w
      have calmed : ∀ {r : R D}, KR Y Bs (Rep Y) μ H [] Q (fun cls d _ H' => E cls d H') r.calm → KR Y Bs (Rep Y) μ H [] Q noW r ∨ False := by
        intro r k
        cases r with
        | ok a S => exact .inl k
        | err C ns ds S => exact .inr k
        | bad => exact .inr k
      cases exs b' d.body { ctxOf T (callsN T n) (decide (2 ≤ n)) with exc := some (z.C, z.ns, z.ds) } (List.replicate d.names.length none) S with
      | ok fl S' =>
        cases fl with
        | nx ρ' =>
          intro k μ' H' σ' x w' _
          rcases calmed k with k | k
          · exact fin_read hk2 wo.len.symm wo.bs x (backW w') .non k
          · exact k.elim
        | rt dd =>
          intro k μ' H' v x w' rv
          rcases calmed k with k | k
          · exact fin_read hk2 wo.len.symm wo.bs x (backW w') (back rv) k
          · exact k.elim
        | bk ρ' => exact fun k => k.elim
        | ct ρ' => exact fun k => k.elim
      | err C ns fs ρ' S' =>
        intro k
        simp only at k
        rcases hk2 with ⟨h1, rfl⟩ | ⟨h1, rfl⟩
        · rw [h1] at k
          exact k.elim
        · rw [h1] at k
          simp only [Bool.false_eq_true, if_false] at k
          split at k
          · exact k.elim
          · exact k.elim
      | bad => exact fun k => k
    cases hk : d.keep with
    | true => exact main b Bs (.inl ⟨hk, rfl, rfl⟩)
    | false => exact main S.length (S.length :: Bs) (.inr ⟨hk, rfl, rfl⟩)
def Upto (T : Text) (P : Program) (w : PySem.World) (K : PySem.W.Frag) (mg : Str → Option Value) (base : Heap) (ca : CA) (M0 : MC) (n : Nat) : Prop :=
  ∀ m, m ≤ n → ∀ (f : String) (x q : Str) d st a fd, T.fns f = some d → DefAt T K M0 x q d st a fd → FnOk P w K mg base (L2.CX P w) m a fd ((d.names.map nm).take d.np) (spI ca (callN T m f))
theorem fn_zero (f : String) (x q : Str) (d : Fn) (st : Stmt) (a : Addr) (fd : FuncData) (hT : T.fns f = some d) (dA : DefAt T K M0 x q d st a fd) : FnOk P w K mg base (L2.CX P w) 0 a fd ((d.names.map nm).take d.np) (spI ca (callN T 0 f)) := by
    have no : ∀ vs H Q E, ¬ spI ca (callN T 0 f) vs H Q E := by
      rintro vs H Q E ⟨Y, _, _, g, b, Bs, μ, S, ds, _, _, _, k⟩
      exact k
    exact ⟨fun vs H Q E h => absurd h (no vs H Q E), fun A outer s H args us vs Q E _ _ _ _ h => absurd h (no vs H Q E)⟩
theorem fn_step (X0 : TextOk T P w K mg base ca M0) (n : Nat) (ih : Upto T P w K mg base ca M0 n) (f : String) (x q : Str) (d : Fn) (st : Stmt) (a : Addr) (fd : FuncData) (hT : T.fns f = some d) (dA : DefAt T K M0 x q d st a fd) : FnOk P w K mg base (L2.CX P w) (n + 1) a fd ((d.names.map nm).take d.np) (spI ca (callN T (n + 1) f)) := by
    have len : ∀ vs H Q E, spI ca (callN T (n + 1) f) vs H Q E → vs.length = ((d.names.map nm).take d.np).length := by
      rintro vs H Q E ⟨Y, _, _, g, b, Bs, μ, S, ds, _, _, r, k⟩
      simp only [callN, callsN, hT] at k
      split at k
      · rename_i hl
        rw [r.length, hl, List.length_take, List.length_map]
        have := dA.np
        omega
      · exact k.elim
    refine dA.fn.okX dA.sc len fun cdv A outer s H vs Q E hr h => ?_
    obtain ⟨Y, hca, hx, g, b, Bs, μ, S, ds, hb, wo, r, k⟩ := h
    simp only [callN, callsN, hT] at k
    split at k
    · rename_i hl
      have hNl : (d.names.map nm).length = d.names.length := List.length_map _
      have en := start_ok hx (N := d.names.map nm) r hNl hl dA.np
      have X1 : ∀ (b' : Nat) (Bs' : List Nat), (∀ q ∈ Bs', q ≤ b') → GoodS Y (ctxN T n) b' Bs' (fun cls d _ H => E cls d H) { M0 with N := d.names.map nm, sc := defScope st } (cxOf (L2.CX P w) P w K mg base (d.names.map nm) q (defScope st) a cdv A outer s H E) := by
        intro b' Bs' hb'
        have hu : (A.deeper (envOfC q (defScope st) s.heap.objs.size a cdv)).units + 64 < cLine := hr.units
        exact { hN := rfl, hK := by rw [hca]; exact X0.hK, nd := dA.sc.nd, hsc := rfl, calm := fun _ => rfl, exs := by rw [hx]; exact X0.mc.2, cx := fun _ => X0.mc.2, exn := fun z hz => (by rw [hx] at hz; cases hz), isxK := by rw [hca]; exact X0.isxK Y hca, hu := hu, hb := hb', tk := takes_of rfl rfl rfl rfl, bi := X0.bi, con := X0.con, cls := by rw [hca]; exact X0.cls, bcl := X0.bcl, isaN := by rw [hca]; exact X0.isaN,
                isaI := by rw [hca]; exact X0.isaI Y hca,
                hfn := fun f' hf' => by
                  obtain ⟨d', st', a', fd', hT', dA'⟩ := X0.hfns f' hf'
                  rw [hca]
                  exact ⟨n, a', fd', _, hfn_level X0 n f' hf' d' st' a' fd' hT' dA', L2H.roomH_of hr, dA'.mg, dA'.fn.kp, dA'.bd⟩
                call := fun f' hf' => by
                  obtain ⟨d', st', a', fd', hT', dA', hmg⟩ := X0.fns f' hf'
                  rw [hca]
                  exact ⟨n, a', fd', _, ih n (Nat.le_refl _) f' _ _ d' st' a' fd' hT' dA', hr, hmg, dA'.fn.kp, dA'.bd⟩
                fld := fun C f' hf' => by
                  rw [hca]
                  exact X0.flds C f' hf'
                meth := fun _ C m f' hf' => by
                  obtain ⟨d', st', a', fd', x', q', hT', dA', h1, h2⟩ := X0.meths C m f' hf'
                  rw [hca]
                  exact ⟨n, a', fd', _, ih n (Nat.le_refl _) f' _ _ d' st' a' fd' hT' dA', hr, h1, h2, dA'.bd⟩
                make := fun _ C hC => by
                  obtain ⟨h1, h2, h3⟩ := X0.makes C hC
                  rw [hca]
                  refine ⟨h1, h2, ?_⟩
                  cases n with
                  | zero => exact .inl fun _ _ _ => rfl
                  | succ m =>
                    show (∀ ds b S, makeD T (callsN T m).call C ds b S = .bad) ∨ _
                    cases hcl : T.cls C with
                    | none => exact .inl fun ds b S => by unfold makeD; rw [hcl]
                    | some cl =>
                      cases hin : cl.init with
                      | none => exact .inl fun ds b S => by unfold makeD; rw [hcl]; simp only [hin]
                      | some f' =>
                        obtain ⟨d', st', a', fd', x', q', hT', dA', h4⟩ := h3 cl f' hcl hin
                        exact .inr ⟨m, a', fd', _, cl.kind, (callN T m f'), ih m (Nat.le_succ _) f' _ _ d' st' a' fd' hT' dA', hr, h4, dA'.bd, fun ds b S => by
                          show makeD T (callsN T m).call C ds b S = _
                          unfold makeD
                          rw [hcl]
                          simp only [hin]⟩
                loc := fun x hx => ⟨locB_ok hx, .inl rfl⟩, kind := dA.sc.kind, stk := rfl, frm := rfl, exg := by rw [hca]; exact X0.exg, deep := fun h _ => hr.mono (of_decide_eq_true h), exm := by rw [hca]; exact X0.exm, pass := fun _ => passes_of rfl }
      unfold runFn at k
      have main : ∀ (b' : Nat) (Bs' : List Nat), (d.keep = true ∧ Bs' = Bs ∧ b' = b ∨ d.keep = false ∧ Bs' = S.length :: Bs ∧ b' = S.length) → ∃ t, PSs (cxOf (L2.CX P w) P w K mg base (d.names.map nm) q (defScope st) a cdv A outer s H E) (defBody st) t ∧ t { nx := fun _ H' => Q .non H', rt := Q } (L2.start (d.names.map nm) vs) H := by
        intro b' Bs' hk
        have hb' : ∀ q ∈ Bs', q ≤ b' := by
          rcases hk with ⟨_, rfl, rfl⟩ | ⟨_, rfl, rfl⟩
          · exact hb
          · intro q hq
            rcases List.mem_cons.mp hq with e | e
            · omega
            · exact wo.bs q e
        have wo' : World Y Bs' μ H S := by
          rcases hk with ⟨_, rfl, rfl⟩ | ⟨_, rfl, rfl⟩
          · exact wo
          · exact wo.mark
        have hif : (if d.keep then b else S.length) = b' := by
          rcases hk with ⟨h1, _, rfl⟩ | ⟨h1, _, rfl⟩
          · rw [h1]; rfl
          · rw [h1]; rfl
        have hk2 : d.keep = true ∧ Bs' = Bs ∨ d.keep = false ∧ Bs' = S.length :: Bs := by
          rcases hk with ⟨h1, h2, _⟩ | ⟨h1, h2, _⟩
          · exact .inl ⟨h1, h2⟩
          · exact .inr ⟨h1, h2⟩
        refine ⟨_, Ss.ok d.body (X1 b' Bs' hb') dA.mt, μ, d.start ds, S, wo', en, ?_⟩
        rw [hif] at k
        show KS Y Bs' _ μ H _ (exs b' d.body (ctxN T n) (d.start ds) S)
        revert k
        cases exs b' d.body (ctxN T n) (d.start ds) S with
        | ok fl S' =>
          cases fl with
          | nx ρ' => exact fun k μ' H' σ' x w' _ => fin_read hk2 wo.len.symm wo.bs x w' .non k
          | rt dd => exact fun k μ' H' v x w' rv => fin_read hk2 wo.len.symm wo.bs x w' rv k
          | bk ρ' => exact fun k => k.elim
          | ct ρ' => exact fun k => k.elim
        | err C ns fs ρ' S' =>
          intro k μ' H' σ' cls dd x w' _ ex
          simp only at k
          rcases hk2 with ⟨h1, rfl⟩ | ⟨h1, rfl⟩
          · rw [h1] at k
            exact k μ' H' cls dd x w' ex
          · rw [h1] at k
            simp only [Bool.false_eq_true, if_false] at k
            split at k
            · rename_i hlim
              have e1 : Ext μ H (μ'.take S.length) H' := by rw [← wo.len]; exact x.cut
              exact k (μ'.take S.length) H' cls dd e1 (w'.cut wo.bs) (ex.cut hlim)
            · exact k.elim
        | bad => exact fun k => k
      cases hk : d.keep with
      | true => exact main b Bs (.inl ⟨hk, rfl, rfl⟩)
      | false => exact main S.length (S.length :: Bs) (.inr ⟨hk, rfl, rfl⟩)
    · exact k.elim
theorem fn_upto (X0 : TextOk T P w K mg base ca M0) : ∀ n, Upto T P w K mg base ca M0 n
  | 0, m, hm, f, x, q, d, st, a, fd, hT, dA => by
    have : m = 0 := by omega
    subst this
    exact fn_zero f x q d st a fd hT dA
  | n + 1, m, hm, f, x, q, d, st, a, fd, hT, dA => by
    by_cases h : m = n + 1
    · subst h
      exact fn_step X0 n (fn_upto X0 n) f x q d st a fd hT dA
    · exact fn_upto X0 n m (by omega) f x q d st a fd hT dA
theorem fn_level (X0 : TextOk T P w K mg base ca M0) (n : Nat) (f : String) (x q : Str) (d : Fn) (st : Stmt) (a : Addr) (fd : FuncData) (hT : T.fns f = some d) (dA : DefAt T K M0 x q d st a fd) : FnOk P w K mg base (L2.CX P w) n a fd ((d.names.map nm).take d.np) (spI ca (callN T n f)) :=
  fn_upto X0 n n (Nat.le_refl _) f x q d st a fd hT dA
end
end CL
namespace CL
open PySem PySem.Spec PyProof.Rows L2
namespace LT
def mc (L : LT) : MC where
  N := []
  sc := { kind := .function, names := [], isGenerator := false, isCoroutine := false }
  fn := fun f => (L.fns.lookup f).isSome
  hfn := fun f => (L.hfns.lookup f).isSome && (L.fns.lookup f).isNone
  cl := fun C => (L.exs.lookup C).isSome
  con := fun g => (L.cons.lookup g).isSome
  ex := fun C => (L.exs.lookup C).isSome
  exT := fun C => match L.exs.lookup C with
    | some e => e.1.isNone
    | none => false
  oc := fun C => (L.ocs.lookup C).isSome
def ca (K : PySem.W.Frag) : CA := ⟨C_ K, K⟩
theorem def_of {L : LT} {K : PySem.W.Frag} (c : L.seen K = L.due) {d : He.DefD} (hd : d ∈ L.defs) : ∃ fd, FunD K d.name d.qual d.params d.body d.scope (d.dvs K) (d.kws K) (He.fAd K d.at_) fd := by
  have c1 : (okK L K && L.defs.all (fun d => d.ok K)) = true := congrArg Prod.fst c
  have c2 : (L.defs.map fun d => He.fnW K d.at_) = L.defs.map He.DefD.val := congrArg Prod.snd c
  rw [Bool.and_eq_true] at c1
  refine He.DefD.funD ?_ (List.all_eq_true.mp c1.2 d hd)
  obtain ⟨i, hi⟩ := List.getElem?_of_mem hd
  have := congrArg (fun l => l[i]?) c2
  simp only [List.getElem?_map, hi, Option.map_some, Option.some.injEq] at this
  exact this
theorem funOf {K : PySem.W.Frag} {x qual : Str} {st : Stmt} {f : Addr} {fd : FuncData} (F : FunD K x qual (defArgs st) (defBody st) (defScope st) [] [] f fd) : Fun K x qual st f fd := by
  obtain ⟨oc, od, dV, kV, doc, pm, an, cdv, ct, osl, e, lk, hcd, hD, _⟩ := F.ex
  rcases hD with ⟨_, rfl⟩ | ⟨q, _⟩
  · exact ⟨⟨oc, od, kV, doc, pm, an, cdv, ct, osl, e, lk, hcd⟩, F.kp⟩
  · exact absurd rfl q
def BindsOk (x qual : Str) (st : Stmt) (ps : List Str) : Prop := ∀ (kV doc pm : Value) (an : Option Addr) (cdv ct : Value) (us : List Value), us.length = ps.length → bindArgs (PySem.W.fnOf x qual (defArgs st) (defBody st) (defScope st) .none kV doc pm an cdv ct) ⟨us, []⟩ = pure (ps.zip us)
structure FnFine (L : LT) (f : String × Fn × Nat) : Prop where
  sc : FnScope (f.2.1.names.map nm) ((f.2.1.names.map nm).take f.2.1.np) (defScope (L.at_ f.2.2))
  np : f.2.1.np ≤ f.2.1.names.length
  bd : BindsOk (nm f.1) (nm f.1) (L.at_ f.2.2) ((f.2.1.names.map nm).take f.2.1.np)
  mt : f.2.1.body.mt { L.mc with N := f.2.1.names.map nm, sc := defScope (L.at_ f.2.2) } (defBody (L.at_ f.2.2)) = true
structure HFnFine (L : LT) (f : String × Fn × Nat) : Prop where
  sc : FnScope (f.2.1.names.map nm) ((f.2.1.names.map nm).take f.2.1.np) (defScope (L.at_ f.2.2))
  np : f.2.1.np ≤ f.2.1.names.length
  bd : BindsOk (nm f.1) (nm f.1) (L.at_ f.2.2) ((f.2.1.names.map nm).take f.2.1.np)
  mt : f.2.1.body.mt (({ L.mc with N := f.2.1.names.map nm, sc := defScope (L.at_ f.2.2), hfn := fun _ => false } : MC).hot (some 0)) (defBody (L.at_ f.2.2)) = true
structure ExFine (L : LT) (C : String) (ns : List String) (i : Nat) : Prop where
  sc : FnScope (("self" :: ns).map nm) (("self" :: ns).map nm) (defScope (initOf (L.at_ i)))
  bd : BindsOk (nm "__init__") (nm (C ++ ".__init__")) (initOf (L.at_ i)) (("self" :: ns).map nm)
  mt : initMt L.base ns (defScope (initOf (L.at_ i))) (defBody (initOf (L.at_ i))) = true
  ne : ns ≠ []
  few : ns.length < 20
structure MFnFine (L : LT) (e : String × Fn × Nat × String) : Prop where
  sc : FnScope (e.2.1.names.map nm) ((e.2.1.names.map nm).take e.2.1.np) (defScope (L.mst e.1))
  np : e.2.1.np ≤ e.2.1.names.length
  bd : BindsOk (nm e.2.2.2) (nm e.1) (L.mst e.1) ((e.2.1.names.map nm).take e.2.1.np)
  mt : e.2.1.body.mt { L.mc with N := e.2.1.names.map nm, sc := defScope (L.mst e.1) } (defBody (L.mst e.1)) = true
def prOk (L : LT) (p : String × String × String) : Bool := (match L.mfns.lookup p.2.2 with
  | some e => decide (e.2.2 = p.2.1)
  | none => false) && ((L.fns ++ L.hfns).lookup p.2.2).isNone
structure Fine (L : LT) : Prop where
  mfns : ∀ e ∈ L.mfns, MFnFine L e
  prs : L.pairs.all L.prOk = true
  fns : ∀ f ∈ L.fns, FnFine L f
  hfns : ∀ f ∈ L.hfns, HFnFine L f
  exs : ∀ C ns i ss, (C, some ns, i, ss) ∈ L.exs → ExFine L C ns i
  cls : ∀ e ∈ L.exs, isB e.1 = false
theorem lookup_mem {β : Type} {k : String} {v : β} : ∀ {l : List (String × β)}, l.lookup k = some v → (k, v) ∈ l
  | [], h => by cases h
  | (a, b) :: l, h => by
    rw [List.lookup] at h
    split at h
    · rename_i q
      rw [beq_iff_eq] at q
      cases h
      rw [q]; exact List.mem_cons_self
    · exact List.mem_cons_of_mem _ (lookup_mem h)
theorem isO_ok {a b : Option (Option Value)} (h : isO a b = true) : a = b := of_decide_eq_true h
theorem exf_ok {K : PySem.W.Frag} {C : String} (h : exfB K (C_ K C) = true) : ExF (ca K) C := by
  unfold exfB at h
  simp only [Bool.and_eq_true, decide_eq_true_eq] at h
  obtain ⟨h1, h2, h3, h4, h5, h6, h7, h8, h9, h10, h11⟩ := h
  exact ⟨isO_ok h1, isO_ok h2, h3, h4, h5, isO_ok h6, isO_ok h7, h8, h9, h10, h11⟩
theorem oex_ok {K : PySem.W.Frag} {C : Addr} (h : oexB K C = true) : ∃ nm q N bs bm sn sub ab col dd k0 k1 k2 k3 k5, K.lookup C = some (excClassObj nm q C N bs bm true sn sub ab col dd k0 k1 k2 k3 k5 "ValueError.__new__") ∧ PySem.HandSPX.refsVE bm = true := by
  unfold oexB at h
  split at h
  · rename_i t dd cd sl ho
    split at h
    · rename_i C' bm k0 k1 k2 k3 n k5 hm hs
      simp only [Bool.and_eq_true, decide_eq_true_eq, Bool.not_eq_true'] at h
      obtain ⟨rfl, rfl, rfl, hdel, hdct, hr⟩ := h
      obtain ⟨nm, bs, mro, ns, qn, hd, sn, sub, ab, col, del⟩ := cd
      dsimp only at hm hdel hdct
      subst hm hdel hdct
      have hsl : sl = #[k0, k1, k2, k3, some (.builtin "ValueError.__new__"), k5] := by
        obtain ⟨l⟩ := sl
        simp only at hs
        rw [hs]
      subst hsl
      exact ⟨nm, qn, ns, bs, bm, sn, sub, ab, col, dd, k0, k1, k2, k3, k5, ho, hr⟩
    · cases h
  · cases h
theorem la_ok {K : PySem.W.Frag} {L : Addr} (h : laB K L = true) : LaF K L := by
  unfold laB at h
  simp only [Bool.and_eq_true] at h
  obtain ⟨h1, h2, h3⟩ := h
  refine ⟨h1, isO_ok h2, ?_⟩
  split at h3
  · rename_i n hn
    rw [hn, of_decide_eq_true h3]
  · cases h3
section
variable {L : LT} {P : Program} {w : PySem.World} {K : PySem.W.Frag} {mg : Str → Option Value} {h : Heap}
theorem con_ok (X : K.In h) (G : h.Ns mainGlobals mg) {x : String} {d : D} (c : conB K x d = true) : ∃ u v, mg (nm x) = some u ∧ RelV v u ∧ ∀ Z μ H, Rep Z μ H v d := by
  unfold conB at c
  split at c
  · split at c
    · rename_i i j t e
      have := of_decide_eq_true c
      subst this
      exact ⟨_, .int j, PySem.W.mg_of X G e, ⟨t, rfl⟩, fun _ _ _ => .int j⟩
    · cases c
  · split at c
    · rename_i y t e
      have := of_decide_eq_true c
      subst this
      exact ⟨_, .str _, PySem.W.mg_of X G e, ⟨t, rfl⟩, fun _ _ _ => .str _⟩
    · cases c
  · cases c
theorem glo_ok (X : K.In h) (G : h.Ns mainGlobals mg) {x : String} (c : gloB K x = true) : mg (nm x) = some (.ref (C_ K x)) := PySem.W.mg_of X G (isO_ok c)
theorem def_at (F : Fine L) (X : K.In h) (G : h.Ns mainGlobals mg) (c : L.seen K = L.due) {f : String} {d : Fn} {i : Nat} (hf : L.fns.lookup f = some (d, i)) :
    ∃ fd, (DefAt L.text K L.mc (nm f) (nm f) d (L.at_ i) (C_ K f) fd ∧ mg (nm f) = some (.ref (C_ K f))) ∧ ∀ (s : Shared) (us : List Value), us.length = ((d.names.map nm).take d.np).length → BindsTo s fd ⟨us, []⟩ (((d.names.map nm).take d.np).zip us) := by
  have hm := lookup_mem hf
  have ff := F.fns _ hm
  have hd : (⟨(nm f, none), nm f, nm f, defArgs (L.at_ i), defBody (L.at_ i), defScope (L.at_ i), [], []⟩ : He.DefD) ∈ L.defs := List.mem_append_left _ (List.mem_append_left _ (List.mem_map.mpr ⟨_, List.mem_append_left _ hm, rfl⟩))
  obtain ⟨fd, fu⟩ := def_of c hd
  have c1 : (okK L K && L.defs.all (fun d => d.ok K)) = true := congrArg Prod.fst c
  unfold okK at c1
  simp only [Bool.and_eq_true] at c1
  have g := List.all_eq_true.mp c1.1.1 _ (List.mem_append_left _ hm)
  exact ⟨fd, ⟨⟨funOf fu, ff.sc, ff.np, fu.bindsN ff.bd, ff.mt⟩, glo_ok X G g⟩, fun s us hl => fu.bindsA ff.bd s us hl⟩
theorem look_app {β : Type} {k : String} : ∀ {l m : List (String × β)} {v : β}, l.lookup k = some v → (l ++ m).lookup k = some v
  | [], _, _, h => by cases h
  | (a, b) :: l, m, v, h => by
    rw [List.cons_append, List.lookup]
    rw [List.lookup] at h
    split
    · rename_i q
      rw [q] at h
      exact h
    · rename_i q
      rw [q] at h
      exact look_app h
theorem look_app2 {β : Type} {k : String} : ∀ {l m : List (String × β)} {v : β}, l.lookup k = none → m.lookup k = some v → (l ++ m).lookup k = some v
  | [], _, _, _, h => h
  | (a, b) :: l, m, v, h, h2 => by
    rw [List.cons_append, List.lookup]
    rw [List.lookup] at h
    split
    · rename_i q
      rw [q] at h
      cases h
    · rename_i q
      rw [q] at h
      exact look_app2 h h2
theorem hdef_at (F : Fine L) (X : K.In h) (G : h.Ns mainGlobals mg) (c : L.seen K = L.due) {f : String} {d : Fn} {i : Nat} (hf : L.hfns.lookup f = some (d, i)) : ∃ fd, HDefAt L.text K mg L.mc f d (L.at_ i) (C_ K f) fd := by
  have hm := lookup_mem hf
  have ff := F.hfns _ hm
  have hd : (⟨(nm f, none), nm f, nm f, defArgs (L.at_ i), defBody (L.at_ i), defScope (L.at_ i), [], []⟩ : He.DefD) ∈ L.defs := List.mem_append_left _ (List.mem_append_left _ (List.mem_map.mpr ⟨_, List.mem_append_right _ hm, rfl⟩))
  obtain ⟨fd, fu⟩ := def_of c hd
  have c1 : (okK L K && L.defs.all (fun d => d.ok K)) = true := congrArg Prod.fst c
  unfold okK at c1
  simp only [Bool.and_eq_true] at c1
  have g := List.all_eq_true.mp c1.1.1 _ (List.mem_append_right _ hm)
  exact ⟨fd, ⟨funOf fu, glo_ok X G g, ff.sc, ff.np, fu.bindsN ff.bd, ff.mt⟩⟩
theorem look_map {k : String} : ∀ {l : List (String × Fn × Nat × String)} {v : Fn × Nat × String}, l.lookup k = some v → (l.map fun e => (e.1, e.2.1, (0 : Nat))).lookup k = some (v.1, 0)
  | [], _, h => by cases h
  | (a, b) :: l, v, h => by
    rw [List.lookup] at h
    rw [List.map_cons, List.lookup]
    split at h
    · rename_i q
      rw [show (k == ((a, b) : String × Fn × Nat × String).1) = true from q]
      cases h
      rfl
    · rename_i q
      rw [show (k == ((a, b) : String × Fn × Nat × String).1) = false from q]
      exact look_map h
theorem look_none2 {β : Type} {k : String} : ∀ {l m : List (String × β)}, (l ++ m).lookup k = none → l.lookup k = none ∧ m.lookup k = none
  | [], _, h => ⟨rfl, h⟩
  | (a, b) :: l, m, h => by
    rw [List.cons_append, List.lookup] at h
    cases q : k == a with
    | true => rw [q] at h; cases h
    | false =>
      rw [q] at h
      obtain ⟨h1, h2⟩ := look_none2 h
      exact ⟨by rw [List.lookup, q]; exact h1, h2⟩
theorem mdef_at (F : Fine L) (c : L.seen K = L.due) {p : String × String × String} (hp : p ∈ L.pairs) :
    ∃ d fd, L.text.fns p.2.2 = some d ∧ DefAt L.text K L.mc (nm p.2.1) (nm p.2.2) d (L.mst p.2.2) (He.ma K (C_ K p.1) (nm p.2.1)) fd := by
  have h := List.all_eq_true.mp F.prs p hp
  unfold prOk at h
  rw [Bool.and_eq_true] at h
  obtain ⟨h1, h2⟩ := h
  cases he : L.mfns.lookup p.2.2 with
  | none => rw [he] at h1; cases h1
  | some e =>
    rw [he] at h1
    have h1 := of_decide_eq_true h1
    have ff := F.mfns _ (lookup_mem he)
    have hd : (⟨(nm p.1, some (nm p.2.1)), nm p.2.1, nm p.2.2, defArgs (L.mst p.2.2), defBody (L.mst p.2.2), defScope (L.mst p.2.2), [], []⟩ : He.DefD) ∈ L.defs := List.mem_append_right _ (List.mem_map.mpr ⟨_, hp, rfl⟩)
    obtain ⟨fd, fu⟩ := def_of c hd
    obtain ⟨n1, n2⟩ := look_none2 (Option.isNone_iff_eq_none.mp h2)
    have bd := ff.bd
    simp only [h1] at bd
    exact ⟨e.1, fd, by simp only [text, mfs, look_app2 n1 (look_app2 n2 (look_map he)), Option.map_some], ⟨funOf fu, ff.sc, ff.np, fu.bindsN bd, ff.mt⟩⟩
theorem text_ok (F : Fine L) (X : K.In h) (G : h.Ns mainGlobals mg) (c : L.seen K = L.due) (base : Heap) : TextOk L.text P w K mg base (ca K) L.mc := by
  have c1 : (okK L K && L.defs.all (fun d => d.ok K)) = true := congrArg Prod.fst c
  unfold okK at c1
  simp only [Bool.and_eq_true, Bool.or_eq_true] at c1
  obtain ⟨⟨k1, k2, k3, k4, k5, k6, k7⟩, _⟩ := c1
  have ex1 : ∀ e ∈ L.exs, exB L K e = true := fun e he => List.all_eq_true.mp k4 e he
  have nb : ∀ x ∈ bis ++ bTy, mg (nm x) = none := fun x hx => PySem.W.mg_none_of X G (isO_ok (List.all_eq_true.mp k2 x hx))
  refine { hK := rfl, mc := ⟨rfl, rfl⟩, isxK := ?_, exg := ?_, exm := ?_, fns := ?_, hfns := ?_, flds := ?_, meths := ?_, makes := ?_, bi := fun g hg => nb g (List.mem_append_left _ hg), con := ?_, cls := ?_, bcl := fun C hC => nb C (List.mem_append_right _ (isB_mem hC)), isaN := ?_, isaI := ?_ }
  · intro Y hY Z C k hk hC
    simp only [text] at hk
    split at hk
    · rename_i e he
      split at hk
      · rename_i hq
        simp only [Option.some.injEq] at hk
        subst hk
        have hb := ex1 _ (lookup_mem he)
        unfold exB at hb
        simp only [Bool.and_eq_true] at hb
        obtain ⟨_, _, _, b1, b2⟩ := hb
        unfold clsVal
        rw [hY]
        by_cases hB : isB C = true
        · rw [if_pos hB]
          exact of_decide_eq_true (List.all_eq_true.mp b1 C (isB_mem hB))
        · rw [if_neg hB]
          have hB' : isB C = false := by simpa using hB
          rw [hB', Bool.false_or] at hq
          obtain ⟨e', he'⟩ := Option.isSome_iff_exists.mp hq
          have := List.all_eq_true.mp b2 _ (lookup_mem he')
          rw [Bool.and_eq_true] at this
          exact of_decide_eq_true this.1
      · cases hk
    · cases hk
  · intro C hC
    obtain ⟨e, he⟩ := Option.isSome_iff_exists.mp (show (L.exs.lookup C).isSome = true from hC)
    have hm := lookup_mem he
    have hb := ex1 _ hm
    unfold exB at hb
    simp only [Bool.and_eq_true] at hb
    obtain ⟨b1, b2, b3, _⟩ := hb
    have hbase : laB K (C_ K L.base) = true ∧ gloB K L.base = true := by
      rcases k5 with q | q
      · rw [List.isEmpty_iff] at q
        rw [q] at hm; cases hm
      · exact q
    refine ⟨exf_ok b2, glo_ok X G b1, e.1, by simp only [text, he, Option.map_some], ?_, ?_⟩
    · simp only [mc, he]
      cases e.1 <;> simp
    · obtain ⟨q, i, ss⟩ := e
      cases q with
      | none => exact b3
      | some ns =>
        simp only [Bool.and_eq_true] at b3
        obtain ⟨b4, b5, b6, b7, b8⟩ := b3
        have ef := F.exs C ns i ss hm
        have cl := exf_ok b2
        have hno : ∀ f ∈ ns, PySem.W.findIn K (.ref (C_ K C)) (nm f) = some none := fun f hf => isO_ok (List.all_eq_true.mp b8 f hf)
        have oe : OexC K (C_ K C) := ⟨oex_ok b4, isO_ok b5, cl.exC, cl.tyC, cl.kC⟩
        have hd : (⟨(nm C, some (nm "__init__")), nm "__init__", nm (C ++ ".__init__"), defArgs (initOf (L.at_ i)), defBody (initOf (L.at_ i)), defScope (initOf (L.at_ i)), [], []⟩ : He.DefD) ∈ L.defs :=
          List.mem_append_left _ (List.mem_append_right _ (List.mem_map.mpr ⟨_, List.mem_filter.mpr ⟨hm, rfl⟩, rfl⟩))
        obtain ⟨fd, fu⟩ := def_of c hd
        have ini : InitF K mg L.base (C_ K C) (C_ K L.base) ns (initOf (L.at_ i)) (He.ma K (C_ K C) "__init__") fd (nm (C ++ ".__init__")) :=
          ⟨funOf fu, isO_ok b6, of_decide_eq_true b7, oe, hno, glo_ok X G hbase.2, la_ok hbase.1, ef.sc, fu.bindsN ef.bd, ef.mt, ef.ne, ef.few⟩
        exact ⟨oe, ef.ne, hno, _, fd, isO_ok b6, of_decide_eq_true b7, init_ok ini, fu.bindsN ef.bd⟩
  · intro Z C k hk hC
    simp only [text] at hk
    split at hk
    · rename_i e he
      split at hk
      · simp only [Option.some.injEq] at hk
        subst hk
        have hb := ex1 _ (lookup_mem he)
        unfold exB at hb
        simp only [Bool.and_eq_true] at hb
        obtain ⟨_, _, _, b1, b2⟩ := hb
        obtain ⟨e', he'⟩ := Option.isSome_iff_exists.mp (show (L.exs.lookup C).isSome = true from hC)
        have := List.all_eq_true.mp b2 _ (lookup_mem he')
        rw [Bool.and_eq_true] at this
        exact of_decide_eq_true this.2
      · cases hk
    · cases hk
  · intro f hf
    obtain ⟨⟨d, i⟩, he⟩ := Option.isSome_iff_exists.mp (show (L.fns.lookup f).isSome = true from hf)
    obtain ⟨fd, ⟨dA, hg⟩, _⟩ := def_at F X G c he
    exact ⟨d, _, _, fd, by simp only [text, look_app he, Option.map_some], dA, hg⟩
  · intro f hf
    have hf' : ((L.hfns.lookup f).isSome && (L.fns.lookup f).isNone) = true := hf
    rw [Bool.and_eq_true] at hf'
    obtain ⟨⟨d, i⟩, he⟩ := Option.isSome_iff_exists.mp hf'.1
    obtain ⟨fd, dA⟩ := hdef_at F X G c he
    exact ⟨d, _, _, fd, by simp only [text, look_app2 (Option.isNone_iff_eq_none.mp hf'.2) (look_app he), Option.map_some], dA⟩
  · intro C f hf
    simp only [text] at hf
    split at hf
    · rename_i e he
      have hb := List.all_eq_true.mp k7 _ (lookup_mem he)
      unfold ocB at hb
      simp only [Bool.and_eq_true] at hb
      have hb2 := List.all_eq_true.mp hb.2.2.2.2.1 f (by simpa using hf)
      exact ⟨He.cls_ok hb.1, He.noat_ok hb2⟩
    · cases hf
  · intro C m f hf
    simp only [text] at hf
    split at hf
    · rename_i e he
      have hm := lookup_mem he
      have hb := List.all_eq_true.mp k7 _ hm
      unfold ocB at hb
      simp only [Bool.and_eq_true] at hb
      have hmf := lookup_mem hf
      obtain ⟨d, fd, hT, dA⟩ := mdef_at F c (p := (C, m, f)) (List.mem_flatMap.mpr ⟨_, hm, List.mem_append_right _ (List.mem_map.mpr ⟨_, hmf, rfl⟩)⟩)
      exact ⟨d, _, _, fd, _, _, hT, dA, He.cls_ok hb.1, He.meth_ok (List.all_eq_true.mp hb.2.2.2.2.2 _ hmf)⟩
    · cases hf
  · intro C hC
    obtain ⟨e, he⟩ := Option.isSome_iff_exists.mp (show (L.ocs.lookup C).isSome = true from hC)
    have hm := lookup_mem he
    have hb := List.all_eq_true.mp k7 _ hm
    unfold ocB at hb
    simp only [Bool.and_eq_true] at hb
    refine ⟨glo_ok X G hb.2.1, hb.2.2.1, fun cl f hcl hin => ?_⟩
    simp only [text, he, Option.map_some, Option.some.injEq] at hcl
    subst hcl
    have hin' : e.2.1 = some f := hin
    obtain ⟨d, fd, hT, dA⟩ := mdef_at F c (p := (C, "__init__", f)) (List.mem_flatMap.mpr ⟨_, hm, List.mem_append_left _ (by simp only [hin']; exact List.mem_singleton.mpr rfl)⟩)
    have hk := hb.2.2.2.1
    rw [hin'] at hk
    exact ⟨d, _, _, fd, _, _, hT, dA, He.mkr_ok hk⟩
  · intro g hg
    obtain ⟨d, he⟩ := Option.isSome_iff_exists.mp (show (L.cons.lookup g).isSome = true from hg)
    obtain ⟨u, v, h1, h2, h3⟩ := con_ok X G (List.all_eq_true.mp k3 _ (lookup_mem he))
    exact ⟨d, u, v, he, h1, h2, h3⟩
  · intro C hC _
    obtain ⟨e, he⟩ := Option.isSome_iff_exists.mp (show (L.exs.lookup C).isSome = true from hC)
    have hb := ex1 _ (lookup_mem he)
    unfold exB at hb
    simp only [Bool.and_eq_true] at hb
    exact glo_ok X G hb.1
  · intro C hC _ T hT
    obtain ⟨e, he⟩ := Option.isSome_iff_exists.mp (show (L.exs.lookup C).isSome = true from hC)
    exact of_decide_eq_true (List.all_eq_true.mp (List.all_eq_true.mp k6 _ (lookup_mem he)) T hT)
  · rintro Y _ Z ⟨C, k, q⟩
    cases q
end
end LT
theorem law_sp {T : Text} {ca : CA} {n N : Nat} (ht : ∀ ns : List Int, ns.length ≤ n → callN T N "law" false [.scr ns] 0 [] = .ok (.bl true) []) {K : PySem.W.Frag} (hK : ca.K = K) (H : Hp) (a : Addr) (ns : List Int) (hn : ns.length ≤ n) (hO : Only H) (hS : SqL K H a (ns.map V.int)) :
    spI ca (callN T N "law") [.ref a] H (fun v _ => v = .bl true) fun _ _ _ => False := by
  refine ⟨⟨ca, fun _ => False, none⟩, rfl, rfl, false, 0, [], [], [], [.scr ns], by simp, ⟨rfl, List.nodup_nil, by simp, by simp, by simp, fun a z => z.elim, by simp⟩, .cons (.scr ?_) .nil, ?_⟩
  · rcases hS with hS | hS
    · rcases hS with hS | ⟨o, hS⟩
      · rcases hO a with z | ⟨o, xs, z⟩
        · rw [z] at hS; cases hS
        · rw [z] at hS; cases hS
      · exact .inl ⟨o, hS, by simp, fun z => z⟩
    · refine .inr ?_
      subst hK
      exact hS
  · rw [ht ns hn]
    intro μ' H' v _ _ r
    cases r
    rfl
theorem no_cx {P : Program} {w : PySem.World} (H : Hp) (s : Shared) (e : Value) (s' : Shared) (h : L2.CX P w [] H s (fun _ _ _ => False) e s') : False := by
  obtain ⟨_, _, _, _, _, _, _, _, _, _, _, _, h⟩ := h
  exact h
theorem law_walk {l : PySem.W.OpenLaw} {q : Program} {loose : List Str} {XP : (Str → Option Value) → Heap → Prop} {d : DefRec} {L : LT} {N n m : Nat} {x : String} {dl : Fn} {il : Nat}
    (F : L.Fine) (hn : l.most = some n) (hn2 : n ≤ sizeLine) (hdf : d.params.defaults = []) (hname : d.name = nm "law") (hr : Room N callerA) (hl : L.fns.lookup "law" = some (dl, il)) (hps : (dl.names.map nm).take dl.np = [nm x])
    (ht : ∀ ns : List Int, ns.length ≤ n → callN L.text N "law" false [.scr ns] 0 [] = .ok (.bl true) []) :
    PySem.W.WalkO q loose XP (L.hook m).says l.row.toRowW d [] (fun f vs => PySem.call f vs) := by
  refine Att.attach_call hn hdf fun w s₀ s₁ mg mb fa o pm cd doc a vs ns G Y ho hd hcd hmg hobj hints hlen hg => ?_
  obtain ⟨K, KX, c⟩ := Y
  obtain ⟨fd, ⟨dA, hdm⟩, hb⟩ := L.def_at F KX G.T.g c hl
  rw [hname] at hmg
  have e := hmg.symm.trans hdm
  cases e
  rw [hps] at hb
  refine law_call (CX := L2.CX l.prog w) (k := N) (sp := spI (LT.ca K) (callN L.text N "law")) KX G.T.g G.T.b G.T.builtins G.T.nolimit hg hobj hints (Nat.le_trans hlen hn2) hr (fun base _ _ => ?_) (fun s u => hb s [u] rfl) (fun H hO hS => law_sp ht rfl H a ns hlen hO hS) fun H e s' h => no_cx H s₁ e s' h
  have := fn_level (LT.text_ok (P := l.prog) (w := w) F KX G.T.g c base) N "law" _ _ dl _ _ fd (by show ((L.fns ++ (L.hfns ++ L.mfs)).lookup "law").map _ = _; rw [LT.look_app hl]; rfl) dA
  rw [hps] at this
  exact this
end CL
namespace CL
theorem call_eq {T : Text} {n : Nat} {f : String} {d : Fn} {g : Bool} {args : List D} {b : Nat} {S : Store} (hT : T.fns f = some d) (hl : args.length = d.np) : callN T (n + 1) f g args b S = runFn (ctxN T n) d g (d.start args) b S := by
  simp only [callN, callsN, hT, hl, if_true]
theorem lcL_run {f : D → Env → Store → R (Option D)} {w : Walk} {ρ : Env} (P : Store → Prop) (Rx : D → Prop) (hw : w.held = []) : ∀ {items : List D} {S : Store}, P S →
    (∀ d ∈ items, ∀ S, P S → ∃ x S', f d ρ S = .ok (some x) S' ∧ P S' ∧ Rx x) → ∃ xs S', lcL f w ρ items S = .ok xs S' ∧ P S' ∧ (∀ x ∈ xs, Rx x) ∧ xs.length = items.length
  | [], S, hP, _ => ⟨[], S, by simp [lcL, Walk.still, hw], hP, by simp, rfl⟩
  | d :: ds, S, hP, h => by
    have st : w.still S = true := by simp [Walk.still, hw]
    obtain ⟨x, S', h1, h2, h3⟩ := h d List.mem_cons_self S hP
    obtain ⟨xs, S'', h4, h5, h6, h7⟩ := lcL_run (f := f) (ρ := ρ) P Rx hw (items := ds) h2 fun e he => h e (List.mem_cons_of_mem _ he)
    refine ⟨x :: xs, S'', by simp only [lcL, st, if_true, h1, h4], h5, ?_, by simp [h7]⟩
    intro y hy
    rcases List.mem_cons.mp hy with e | e
    · rw [e]; exact h3
    · exact h6 y e
def fnRes (keep give : Bool) (n : Nat) : RS → R D
  | .ok (.nx _) S' => fin keep give n S' .non
  | .ok (.rt d) S' => fin keep give n S' d
  | .err C ns ds _ S' => if keep then .err C ns ds S' else if D.limL n ds then .err C ns ds (S'.take n) else .bad
  | _ => .bad
theorem run_res {c : Ctx} {f : Fn} {give : Bool} {ρ : Env} {b : Nat} {S : Store} : runFn c f give ρ b S = fnRes f.keep give S.length (exs (if f.keep then b else S.length) f.body c ρ S) := by
  unfold runFn fnRes
  rfl
theorem datL_signs {n : Nat} (hn : 0 < n) : ∀ l : List Nat, D.datL n (l.map fun ch => D.str [ch]) = true
  | [] => rfl
  | l :: ls => by simp [D.datL, D.dat, hn, datL_signs hn ls]
theorem eqv_nil (ds : List D) : D.eqv (.lst ds) (.lst []) = ds.isEmpty := by
  cases ds <;> simp [D.eqv, D.eqvL]
theorem lim_of {n : Nat} (h : n ≤ 1000) : n ≤ LIM := by unfold LIM; omega
theorem eq_signs (S : Store) (l : List Nat) : cmpD .eq (vw S (.lst (l.map fun ch => D.str [ch]))) (vw S (.lst [])) = some l.isEmpty := by
  show eqD (.lst (l.map fun ch => D.str [ch])) (.lst []) = _
  have hd : D.dat dp (.lst (l.map fun ch => D.str [ch])) = true := by rw [D.dat]; exact datL_signs (by decide) _
  have h2 : D.dat dp (.lst []) = true := rfl
  unfold eqD
  rw [if_pos (by rw [hd, h2]; rfl), eqv_nil]
  cases l <;> rfl
end CL
namespace CL
open PySem PySem.Spec PyProof.Rows L2
namespace K21
theorem fine_is_name : LT.FnFine L ("is_name", P_is_name, 23) := ⟨⟨rfl, rfl, rfl, by decide +kernel, rfl, by decide +kernel, by decide +kernel⟩, by decide +kernel, fun _ _ _ _ _ _ us hl => match us, hl with | [_], _ => rfl, by decide +kernel⟩
theorem fine_lane_number : LT.FnFine L ("lane_number", P_lane_number, 24) := ⟨⟨rfl, rfl, rfl, by decide +kernel, rfl, by decide +kernel, by decide +kernel⟩, by decide +kernel, fun _ _ _ _ _ _ us hl => match us, hl with | [_, _], _ => rfl, by decide +kernel⟩
theorem fine_kind_of : LT.FnFine L ("kind_of", P_kind_of, 25) := ⟨⟨rfl, rfl, rfl, by decide +kernel, rfl, by decide +kernel, by decide +kernel⟩, by decide +kernel, fun _ _ _ _ _ _ us hl => match us, hl with | [_, _], _ => rfl, by decide +kernel⟩
theorem fine_way_of : LT.FnFine L ("way_of", P_way_of, 26) := ⟨⟨rfl, rfl, rfl, by decide +kernel, rfl, by decide +kernel, by decide +kernel⟩, by decide +kernel, fun _ _ _ _ _ _ us hl => match us, hl with | [_, _], _ => rfl, by decide +kernel⟩
theorem fine_lane_at : LT.FnFine L ("lane_at", P_lane_at, 30) := ⟨⟨rfl, rfl, rfl, by decide +kernel, rfl, by decide +kernel, by decide +kernel⟩, by decide +kernel, fun _ _ _ _ _ _ us hl => match us, hl with | [_, _, _], _ => rfl, by decide +kernel⟩
theorem fine_card_of : LT.FnFine L ("card_of", P_card_of, 31) := ⟨⟨rfl, rfl, rfl, by decide +kernel, rfl, by decide +kernel, by decide +kernel⟩, by decide +kernel, fun _ _ _ _ _ _ us hl => match us, hl with | [_, _], _ => rfl, by decide +kernel⟩
theorem fine_lane_of : LT.FnFine L ("lane_of", P_lane_of, 32) := ⟨⟨rfl, rfl, rfl, by decide +kernel, rfl, by decide +kernel, by decide +kernel⟩, by decide +kernel, fun _ _ _ _ _ _ us hl => match us, hl with | [_, _, _], _ => rfl, by decide +kernel⟩
theorem fine_cards_in : LT.FnFine L ("cards_in", P_cards_in, 33) := ⟨⟨rfl, rfl, rfl, by decide +kernel, rfl, by decide +kernel, by decide +kernel⟩, by decide +kernel, fun _ _ _ _ _ _ us hl => match us, hl with | [_, _, _], _ => rfl, by decide +kernel⟩
theorem fine_many_of : LT.FnFine L ("many_of", P_many_of, 34) := ⟨⟨rfl, rfl, rfl, by decide +kernel, rfl, by decide +kernel, by decide +kernel⟩, by decide +kernel, fun _ _ _ _ _ _ us hl => match us, hl with | [_, _, _, _], _ => rfl, by decide +kernel⟩
theorem fine_is_out : LT.FnFine L ("is_out", P_is_out, 35) := ⟨⟨rfl, rfl, rfl, by decide +kernel, rfl, by decide +kernel, by decide +kernel⟩, by decide +kernel, fun _ _ _ _ _ _ us hl => match us, hl with | [_, _], _ => rfl, by decide +kernel⟩
theorem fine_out_names : LT.FnFine L ("out_names", P_out_names, 36) := ⟨⟨rfl, rfl, rfl, by decide +kernel, rfl, by decide +kernel, by decide +kernel⟩, by decide +kernel, fun _ _ _ _ _ _ us hl => match us, hl with | [_, _], _ => rfl, by decide +kernel⟩
theorem fine_with_card : LT.FnFine L ("with_card", P_with_card, 37) := ⟨⟨rfl, rfl, rfl, by decide +kernel, rfl, by decide +kernel, by decide +kernel⟩, by decide +kernel, fun _ _ _ _ _ _ us hl => match us, hl with | [_, _], _ => rfl, by decide +kernel⟩
theorem fine_bound_of : LT.FnFine L ("bound_of", P_bound_of, 38) := ⟨⟨rfl, rfl, rfl, by decide +kernel, rfl, by decide +kernel, by decide +kernel⟩, by decide +kernel, fun _ _ _ _ _ _ us hl => match us, hl with | [_, _, _], _ => rfl, by decide +kernel⟩
theorem fine_hold_room : LT.FnFine L ("hold_room", P_hold_room, 40) := ⟨⟨rfl, rfl, rfl, by decide +kernel, rfl, by decide +kernel, by decide +kernel⟩, by decide +kernel, fun _ _ _ _ _ _ us hl => match us, hl with | [_, _, _, _], _ => rfl, by decide +kernel⟩
theorem fine_hold_waits : LT.FnFine L ("hold_waits", P_hold_waits, 41) := ⟨⟨rfl, rfl, rfl, by decide +kernel, rfl, by decide +kernel, by decide +kernel⟩, by decide +kernel, fun _ _ _ _ _ _ us hl => match us, hl with | [_, _, _, _], _ => rfl, by decide +kernel⟩
theorem fine_hold_free : LT.FnFine L ("hold_free", P_hold_free, 42) := ⟨⟨rfl, rfl, rfl, by decide +kernel, rfl, by decide +kernel, by decide +kernel⟩, by decide +kernel, fun _ _ _ _ _ _ us hl => match us, hl with | [_, _], _ => rfl, by decide +kernel⟩
theorem fine_pulled : LT.FnFine L ("pulled", P_pulled, 43) := ⟨⟨rfl, rfl, rfl, by decide +kernel, rfl, by decide +kernel, by decide +kernel⟩, by decide +kernel, fun _ _ _ _ _ _ us hl => match us, hl with | [_, _, _], _ => rfl, by decide +kernel⟩
theorem fine_put_back : LT.FnFine L ("put_back", P_put_back, 44) := ⟨⟨rfl, rfl, rfl, by decide +kernel, rfl, by decide +kernel, by decide +kernel⟩, by decide +kernel, fun _ _ _ _ _ _ us hl => match us, hl with | [_, _, _], _ => rfl, by decide +kernel⟩
theorem fine_with_wait : LT.FnFine L ("with_wait", P_with_wait, 46) := ⟨⟨rfl, rfl, rfl, by decide +kernel, rfl, by decide +kernel, by decide +kernel⟩, by decide +kernel, fun _ _ _ _ _ _ us hl => match us, hl with | [_, _, _, _, _], _ => rfl, by decide +kernel⟩
theorem fine_without_waits : LT.FnFine L ("without_waits", P_without_waits, 47) := ⟨⟨rfl, rfl, rfl, by decide +kernel, rfl, by decide +kernel, by decide +kernel⟩, by decide +kernel, fun _ _ _ _ _ _ us hl => match us, hl with | [_, _, _], _ => rfl, by decide +kernel⟩
theorem fine_number_in : LT.FnFine L ("number_in", P_number_in, 61) := ⟨⟨rfl, rfl, rfl, by decide +kernel, rfl, by decide +kernel, by decide +kernel⟩, by decide +kernel, fun _ _ _ _ _ _ us hl => match us, hl with | [_, _], _ => rfl, by decide +kernel⟩
theorem fine_bound_in : LT.FnFine L ("bound_in", P_bound_in, 62) := ⟨⟨rfl, rfl, rfl, by decide +kernel, rfl, by decide +kernel, by decide +kernel⟩, by decide +kernel, fun _ _ _ _ _ _ us hl => match us, hl with | [_], _ => rfl, by decide +kernel⟩
theorem fine_of_one : LT.FnFine L ("of_one", P_of_one, 64) := ⟨⟨rfl, rfl, rfl, by decide +kernel, rfl, by decide +kernel, by decide +kernel⟩, by decide +kernel, fun _ _ _ _ _ _ us hl => match us, hl with | [_, _], _ => rfl, by decide +kernel⟩
theorem fine_of_two : LT.FnFine L ("of_two", P_of_two, 65) := ⟨⟨rfl, rfl, rfl, by decide +kernel, rfl, by decide +kernel, by decide +kernel⟩, by decide +kernel, fun _ _ _ _ _ _ us hl => match us, hl with | [_, _, _], _ => rfl, by decide +kernel⟩
theorem fine_deed_of : LT.FnFine L ("deed_of", P_deed_of, 66) := ⟨⟨rfl, rfl, rfl, by decide +kernel, rfl, by decide +kernel, by decide +kernel⟩, by decide +kernel, fun _ _ _ _ _ _ us hl => match us, hl with | [_], _ => rfl, by decide +kernel⟩
theorem fine_read_deed : LT.FnFine L ("read_deed", P_read_deed, 67) := ⟨⟨rfl, rfl, rfl, by decide +kernel, rfl, by decide +kernel, by decide +kernel⟩, by decide +kernel, fun _ _ _ _ _ _ us hl => match us, hl with | [_], _ => rfl, by decide +kernel⟩
theorem fine__law_digits : LT.FnFine L ("_law_digits", Ulaw_digits, 69) := ⟨⟨rfl, rfl, rfl, by decide +kernel, rfl, by decide +kernel, by decide +kernel⟩, by decide +kernel, fun _ _ _ _ _ _ us hl => match us, hl with | [_, _], _ => rfl, by decide +kernel⟩
theorem fine__law_take : LT.FnFine L ("_law_take", Ulaw_take, 70) := ⟨⟨rfl, rfl, rfl, by decide +kernel, rfl, by decide +kernel, by decide +kernel⟩, by decide +kernel, fun _ _ _ _ _ _ us hl => match us, hl with | [_, _], _ => rfl, by decide +kernel⟩
theorem fine__law_words : LT.FnFine L ("_law_words", f__law_words, 71) := ⟨⟨rfl, rfl, rfl, by decide +kernel, rfl, by decide +kernel, by decide +kernel⟩, by decide +kernel, fun _ _ _ _ _ _ us hl => match us, hl with | [_, _], _ => rfl, by decide +kernel⟩
theorem fine__law_is_name : LT.FnFine L ("_law_is_name", f__law_is_name, 72) := ⟨⟨rfl, rfl, rfl, by decide +kernel, rfl, by decide +kernel, by decide +kernel⟩, by decide +kernel, fun _ _ _ _ _ _ us hl => match us, hl with | [_], _ => rfl, by decide +kernel⟩
theorem fine__law_is_bound : LT.FnFine L ("_law_is_bound", f__law_is_bound, 73) := ⟨⟨rfl, rfl, rfl, by decide +kernel, rfl, by decide +kernel, by decide +kernel⟩, by decide +kernel, fun _ _ _ _ _ _ us hl => match us, hl with | [_], _ => rfl, by decide +kernel⟩
theorem fine__law_is_deed : LT.FnFine L ("_law_is_deed", f__law_is_deed, 74) := ⟨⟨rfl, rfl, rfl, by decide +kernel, rfl, by decide +kernel, by decide +kernel⟩, by decide +kernel, fun _ _ _ _ _ _ us hl => match us, hl with | [_], _ => rfl, by decide +kernel⟩
theorem fine__law_text : LT.FnFine L ("_law_text", f__law_text, 75) := ⟨⟨rfl, rfl, rfl, by decide +kernel, rfl, by decide +kernel, by decide +kernel⟩, by decide +kernel, fun _ _ _ _ _ _ us hl => match us, hl with | [_], _ => rfl, by decide +kernel⟩
theorem fine__law_word : LT.FnFine L ("_law_word", f__law_word, 76) := ⟨⟨rfl, rfl, rfl, by decide +kernel, rfl, by decide +kernel, by decide +kernel⟩, by decide +kernel, fun _ _ _ _ _ _ us hl => match us, hl with | [_], _ => rfl, by decide +kernel⟩
theorem fine__law_bent : LT.FnFine L ("_law_bent", f__law_bent, 77) := ⟨⟨rfl, rfl, rfl, by decide +kernel, rfl, by decide +kernel, by decide +kernel⟩, by decide +kernel, fun _ _ _ _ _ _ us hl => match us, hl with | [_, _], _ => rfl, by decide +kernel⟩
theorem fine__law_told : LT.FnFine L ("_law_told", f__law_told, 78) := ⟨⟨rfl, rfl, rfl, by decide +kernel, rfl, by decide +kernel, by decide +kernel⟩, by decide +kernel, fun _ _ _ _ _ _ us hl => match us, hl with | [_], _ => rfl, by decide +kernel⟩
theorem fine_law : LT.FnFine L ("law", f_law, 79) := ⟨⟨rfl, rfl, rfl, by decide +kernel, rfl, by decide +kernel, by decide +kernel⟩, by decide +kernel, fun _ _ _ _ _ _ us hl => match us, hl with | [_], _ => rfl, by decide +kernel⟩
theorem exf_NoText : LT.ExFine L "NoText" ["row"] 4 := ⟨⟨rfl, rfl, rfl, by decide +kernel, rfl, by decide +kernel, by decide +kernel⟩, fun _ _ _ _ _ _ us hl => match us, hl with | [_, _], _ => rfl, by decide +kernel, by decide, by decide⟩
theorem exf_NoCard : LT.ExFine L "NoCard" ["card"] 5 := ⟨⟨rfl, rfl, rfl, by decide +kernel, rfl, by decide +kernel, by decide +kernel⟩, fun _ _ _ _ _ _ us hl => match us, hl with | [_, _], _ => rfl, by decide +kernel, by decide, by decide⟩
theorem exf_NoKind : LT.ExFine L "NoKind" ["kind"] 6 := ⟨⟨rfl, rfl, rfl, by decide +kernel, rfl, by decide +kernel, by decide +kernel⟩, fun _ _ _ _ _ _ us hl => match us, hl with | [_, _], _ => rfl, by decide +kernel, by decide, by decide⟩
theorem exf_NoLane : LT.ExFine L "NoLane" ["lane"] 7 := ⟨⟨rfl, rfl, rfl, by decide +kernel, rfl, by decide +kernel, by decide +kernel⟩, fun _ _ _ _ _ _ us hl => match us, hl with | [_, _], _ => rfl, by decide +kernel, by decide, by decide⟩
theorem exf_NoWait : LT.ExFine L "NoWait" ["card"] 8 := ⟨⟨rfl, rfl, rfl, by decide +kernel, rfl, by decide +kernel, by decide +kernel⟩, fun _ _ _ _ _ _ us hl => match us, hl with | [_, _], _ => rfl, by decide +kernel, by decide, by decide⟩
theorem exf_Twice : LT.ExFine L "Twice" ["card"] 9 := ⟨⟨rfl, rfl, rfl, by decide +kernel, rfl, by decide +kernel, by decide +kernel⟩, fun _ _ _ _ _ _ us hl => match us, hl with | [_, _], _ => rfl, by decide +kernel, by decide, by decide⟩
theorem exf_Out : LT.ExFine L "Out" ["card"] 10 := ⟨⟨rfl, rfl, rfl, by decide +kernel, rfl, by decide +kernel, by decide +kernel⟩, fun _ _ _ _ _ _ us hl => match us, hl with | [_, _], _ => rfl, by decide +kernel, by decide, by decide⟩
theorem exf_Blocked : LT.ExFine L "Blocked" ["card"] 11 := ⟨⟨rfl, rfl, rfl, by decide +kernel, rfl, by decide +kernel, by decide +kernel⟩, fun _ _ _ _ _ _ us hl => match us, hl with | [_, _], _ => rfl, by decide +kernel, by decide, by decide⟩
theorem exf_Free : LT.ExFine L "Free" ["card"] 12 := ⟨⟨rfl, rfl, rfl, by decide +kernel, rfl, by decide +kernel, by decide +kernel⟩, fun _ _ _ _ _ _ us hl => match us, hl with | [_, _], _ => rfl, by decide +kernel, by decide, by decide⟩
theorem exf_InYard : LT.ExFine L "InYard" ["card"] 13 := ⟨⟨rfl, rfl, rfl, by decide +kernel, rfl, by decide +kernel, by decide +kernel⟩, fun _ _ _ _ _ _ us hl => match us, hl with | [_, _], _ => rfl, by decide +kernel, by decide, by decide⟩
theorem exf_Past : LT.ExFine L "Past" ["card"] 14 := ⟨⟨rfl, rfl, rfl, by decide +kernel, rfl, by decide +kernel, by decide +kernel⟩, fun _ _ _ _ _ _ us hl => match us, hl with | [_, _], _ => rfl, by decide +kernel, by decide, by decide⟩
theorem exf_Waits : LT.ExFine L "Waits" ["card", "other"] 15 := ⟨⟨rfl, rfl, rfl, by decide +kernel, rfl, by decide +kernel, by decide +kernel⟩, fun _ _ _ _ _ _ us hl => match us, hl with | [_, _, _], _ => rfl, by decide +kernel, by decide, by decide⟩
theorem exf_Full : LT.ExFine L "Full" ["lane", "bound"] 16 := ⟨⟨rfl, rfl, rfl, by decide +kernel, rfl, by decide +kernel, by decide +kernel⟩, fun _ _ _ _ _ _ us hl => match us, hl with | [_, _, _], _ => rfl, by decide +kernel, by decide, by decide⟩
theorem exf_KindFull : LT.ExFine L "KindFull" ["lane", "kind", "bound"] 17 := ⟨⟨rfl, rfl, rfl, by decide +kernel, rfl, by decide +kernel, by decide +kernel⟩, fun _ _ _ _ _ _ us hl => match us, hl with | [_, _, _, _], _ => rfl, by decide +kernel, by decide, by decide⟩
theorem exf_Low : LT.ExFine L "Low" ["lane", "many"] 18 := ⟨⟨rfl, rfl, rfl, by decide +kernel, rfl, by decide +kernel, by decide +kernel⟩, fun _ _ _ _ _ _ us hl => match us, hl with | [_, _, _], _ => rfl, by decide +kernel, by decide, by decide⟩
theorem fine_Deed_done : LT.MFnFine L ("Deed.done", m_Deed_done, 49, "done") := ⟨⟨rfl, rfl, rfl, by decide +kernel, rfl, by decide +kernel, by decide +kernel⟩, by decide +kernel, fun _ _ _ _ _ _ us hl => match us, hl with | [_, _, _], _ => rfl, by decide +kernel⟩
theorem fine_Deed_written : LT.MFnFine L ("Deed.written", M_Deed_written, 49, "written") := ⟨⟨rfl, rfl, rfl, by decide +kernel, rfl, by decide +kernel, by decide +kernel⟩, by decide +kernel, fun _ _ _ _ _ _ us hl => match us, hl with | [_], _ => rfl, by decide +kernel⟩
theorem fine_Add___init__ : LT.MFnFine L ("Add.__init__", M_Add___init__, 50, "__init__") := ⟨⟨rfl, rfl, rfl, by decide +kernel, rfl, by decide +kernel, by decide +kernel⟩, by decide +kernel, fun _ _ _ _ _ _ us hl => match us, hl with | [_, _, _], _ => rfl, by decide +kernel⟩
theorem fine_Add_done : LT.MFnFine L ("Add.done", M_Add_done, 50, "done") := ⟨⟨rfl, rfl, rfl, by decide +kernel, rfl, by decide +kernel, by decide +kernel⟩, by decide +kernel, fun _ _ _ _ _ _ us hl => match us, hl with | [_, _, _], _ => rfl, by decide +kernel⟩
theorem fine_Add_written : LT.MFnFine L ("Add.written", M_Add_written, 50, "written") := ⟨⟨rfl, rfl, rfl, by decide +kernel, rfl, by decide +kernel, by decide +kernel⟩, by decide +kernel, fun _ _ _ _ _ _ us hl => match us, hl with | [_], _ => rfl, by decide +kernel⟩
theorem fine_OfCard___init__ : LT.MFnFine L ("OfCard.__init__", M_OfCard___init__, 51, "__init__") := ⟨⟨rfl, rfl, rfl, by decide +kernel, rfl, by decide +kernel, by decide +kernel⟩, by decide +kernel, fun _ _ _ _ _ _ us hl => match us, hl with | [_, _], _ => rfl, by decide +kernel⟩
theorem fine_OfCard_word : LT.MFnFine L ("OfCard.word", M_Deed_written, 51, "word") := ⟨⟨rfl, rfl, rfl, by decide +kernel, rfl, by decide +kernel, by decide +kernel⟩, by decide +kernel, fun _ _ _ _ _ _ us hl => match us, hl with | [_], _ => rfl, by decide +kernel⟩
theorem fine_OfCard_written : LT.MFnFine L ("OfCard.written", M_OfCard_written, 51, "written") := ⟨⟨rfl, rfl, rfl, by decide +kernel, rfl, by decide +kernel, by decide +kernel⟩, by decide +kernel, fun _ _ _ _ _ _ us hl => match us, hl with | [_], _ => rfl, by decide +kernel⟩
theorem fine_Pull_done : LT.MFnFine L ("Pull.done", M_Pull_done, 52, "done") := ⟨⟨rfl, rfl, rfl, by decide +kernel, rfl, by decide +kernel, by decide +kernel⟩, by decide +kernel, fun _ _ _ _ _ _ us hl => match us, hl with | [_, _, _], _ => rfl, by decide +kernel⟩
theorem fine_Pull_word : LT.MFnFine L ("Pull.word", M_Pull_word, 52, "word") := ⟨⟨rfl, rfl, rfl, by decide +kernel, rfl, by decide +kernel, by decide +kernel⟩, by decide +kernel, fun _ _ _ _ _ _ us hl => match us, hl with | [_], _ => rfl, by decide +kernel⟩
theorem fine_Back_done : LT.MFnFine L ("Back.done", M_Back_done, 53, "done") := ⟨⟨rfl, rfl, rfl, by decide +kernel, rfl, by decide +kernel, by decide +kernel⟩, by decide +kernel, fun _ _ _ _ _ _ us hl => match us, hl with | [_, _, _], _ => rfl, by decide +kernel⟩
theorem fine_Back_word : LT.MFnFine L ("Back.word", M_Back_word, 53, "word") := ⟨⟨rfl, rfl, rfl, by decide +kernel, rfl, by decide +kernel, by decide +kernel⟩, by decide +kernel, fun _ _ _ _ _ _ us hl => match us, hl with | [_], _ => rfl, by decide +kernel⟩
theorem fine_Block_done : LT.MFnFine L ("Block.done", M_Block_done, 54, "done") := ⟨⟨rfl, rfl, rfl, by decide +kernel, rfl, by decide +kernel, by decide +kernel⟩, by decide +kernel, fun _ _ _ _ _ _ us hl => match us, hl with | [_, _, _], _ => rfl, by decide +kernel⟩
theorem fine_Block_word : LT.MFnFine L ("Block.word", M_Block_word, 54, "word") := ⟨⟨rfl, rfl, rfl, by decide +kernel, rfl, by decide +kernel, by decide +kernel⟩, by decide +kernel, fun _ _ _ _ _ _ us hl => match us, hl with | [_], _ => rfl, by decide +kernel⟩
theorem fine_Clear_done : LT.MFnFine L ("Clear.done", M_Clear_done, 55, "done") := ⟨⟨rfl, rfl, rfl, by decide +kernel, rfl, by decide +kernel, by decide +kernel⟩, by decide +kernel, fun _ _ _ _ _ _ us hl => match us, hl with | [_, _, _], _ => rfl, by decide +kernel⟩
theorem fine_Clear_word : LT.MFnFine L ("Clear.word", M_Clear_word, 55, "word") := ⟨⟨rfl, rfl, rfl, by decide +kernel, rfl, by decide +kernel, by decide +kernel⟩, by decide +kernel, fun _ _ _ _ _ _ us hl => match us, hl with | [_], _ => rfl, by decide +kernel⟩
theorem fine_Wait___init__ : LT.MFnFine L ("Wait.__init__", M_Wait___init__, 56, "__init__") := ⟨⟨rfl, rfl, rfl, by decide +kernel, rfl, by decide +kernel, by decide +kernel⟩, by decide +kernel, fun _ _ _ _ _ _ us hl => match us, hl with | [_, _, _, _], _ => rfl, by decide +kernel⟩
theorem fine_Wait_done : LT.MFnFine L ("Wait.done", M_Wait_done, 56, "done") := ⟨⟨rfl, rfl, rfl, by decide +kernel, rfl, by decide +kernel, by decide +kernel⟩, by decide +kernel, fun _ _ _ _ _ _ us hl => match us, hl with | [_, _, _], _ => rfl, by decide +kernel⟩
theorem fine_Wait_written : LT.MFnFine L ("Wait.written", M_Wait_written, 56, "written") := ⟨⟨rfl, rfl, rfl, by decide +kernel, rfl, by decide +kernel, by decide +kernel⟩, by decide +kernel, fun _ _ _ _ _ _ us hl => match us, hl with | [_], _ => rfl, by decide +kernel⟩
theorem fine_Let___init__ : LT.MFnFine L ("Let.__init__", M_Let___init__, 57, "__init__") := ⟨⟨rfl, rfl, rfl, by decide +kernel, rfl, by decide +kernel, by decide +kernel⟩, by decide +kernel, fun _ _ _ _ _ _ us hl => match us, hl with | [_, _, _], _ => rfl, by decide +kernel⟩
theorem fine_Let_done : LT.MFnFine L ("Let.done", M_Let_done, 57, "done") := ⟨⟨rfl, rfl, rfl, by decide +kernel, rfl, by decide +kernel, by decide +kernel⟩, by decide +kernel, fun _ _ _ _ _ _ us hl => match us, hl with | [_, _, _], _ => rfl, by decide +kernel⟩
theorem fine_Let_written : LT.MFnFine L ("Let.written", M_Let_written, 57, "written") := ⟨⟨rfl, rfl, rfl, by decide +kernel, rfl, by decide +kernel, by decide +kernel⟩, by decide +kernel, fun _ _ _ _ _ _ us hl => match us, hl with | [_], _ => rfl, by decide +kernel⟩
theorem fine_Bound___init__ : LT.MFnFine L ("Bound.__init__", M_Bound___init__, 58, "__init__") := ⟨⟨rfl, rfl, rfl, by decide +kernel, rfl, by decide +kernel, by decide +kernel⟩, by decide +kernel, fun _ _ _ _ _ _ us hl => match us, hl with | [_, _, _], _ => rfl, by decide +kernel⟩
theorem fine_Bound_done : LT.MFnFine L ("Bound.done", M_Bound_done, 58, "done") := ⟨⟨rfl, rfl, rfl, by decide +kernel, rfl, by decide +kernel, by decide +kernel⟩, by decide +kernel, fun _ _ _ _ _ _ us hl => match us, hl with | [_, _, _], _ => rfl, by decide +kernel⟩
theorem fine_Bound_written : LT.MFnFine L ("Bound.written", M_Bound_written, 58, "written") := ⟨⟨rfl, rfl, rfl, by decide +kernel, rfl, by decide +kernel, by decide +kernel⟩, by decide +kernel, fun _ _ _ _ _ _ us hl => match us, hl with | [_], _ => rfl, by decide +kernel⟩
theorem fine : L.Fine where
  mfns := by
    intro e he
    simp only [L, List.mem_cons, List.not_mem_nil, or_false] at he
    rcases he with rfl | rfl | rfl | rfl | rfl | rfl | rfl | rfl | rfl | rfl | rfl | rfl | rfl | rfl | rfl | rfl | rfl | rfl | rfl | rfl | rfl | rfl | rfl | rfl | rfl
    · exact fine_Deed_done
    · exact fine_Deed_written
    · exact fine_Add___init__
    · exact fine_Add_done
    · exact fine_Add_written
    · exact fine_OfCard___init__
    · exact fine_OfCard_word
    · exact fine_OfCard_written
    · exact fine_Pull_done
    · exact fine_Pull_word
    · exact fine_Back_done
    · exact fine_Back_word
    · exact fine_Block_done
    · exact fine_Block_word
    · exact fine_Clear_done
    · exact fine_Clear_word
    · exact fine_Wait___init__
    · exact fine_Wait_done
    · exact fine_Wait_written
    · exact fine_Let___init__
    · exact fine_Let_done
    · exact fine_Let_written
    · exact fine_Bound___init__
    · exact fine_Bound_done
    · exact fine_Bound_written
  prs := by decide +kernel
  fns := by
    intro f hf
    simp only [L, List.mem_cons, List.not_mem_nil, or_false] at hf
    rcases hf with rfl | rfl | rfl | rfl | rfl | rfl | rfl | rfl | rfl | rfl | rfl | rfl | rfl | rfl | rfl | rfl | rfl | rfl | rfl | rfl | rfl | rfl | rfl | rfl | rfl | rfl | rfl | rfl | rfl | rfl | rfl | rfl | rfl | rfl | rfl | rfl | rfl
    · exact fine_is_name
    · exact fine_lane_number
    · exact fine_kind_of
    · exact fine_way_of
    · exact fine_lane_at
    · exact fine_card_of
    · exact fine_lane_of
    · exact fine_cards_in
    · exact fine_many_of
    · exact fine_is_out
    · exact fine_out_names
    · exact fine_with_card
    · exact fine_bound_of
    · exact fine_hold_room
    · exact fine_hold_waits
    · exact fine_hold_free
    · exact fine_pulled
    · exact fine_put_back
    · exact fine_with_wait
    · exact fine_without_waits
    · exact fine_number_in
    · exact fine_bound_in
    · exact fine_of_one
    · exact fine_of_two
    · exact fine_deed_of
    · exact fine_read_deed
    · exact fine__law_digits
    · exact fine__law_take
    · exact fine__law_words
    · exact fine__law_is_name
    · exact fine__law_is_bound
    · exact fine__law_is_deed
    · exact fine__law_text
    · exact fine__law_word
    · exact fine__law_bent
    · exact fine__law_told
    · exact fine_law
  hfns := by
    intro f hf
    cases hf
  exs := by
    intro C ns i ss h
    simp only [L, List.mem_cons, List.not_mem_nil, or_false, Prod.mk.injEq, Option.some.injEq, reduceCtorEq, and_false, false_and, false_or] at h
    rcases h with ⟨rfl, rfl, rfl, rfl⟩ | ⟨rfl, rfl, rfl, rfl⟩ | ⟨rfl, rfl, rfl, rfl⟩ | ⟨rfl, rfl, rfl, rfl⟩ | ⟨rfl, rfl, rfl, rfl⟩ | ⟨rfl, rfl, rfl, rfl⟩ | ⟨rfl, rfl, rfl, rfl⟩ | ⟨rfl, rfl, rfl, rfl⟩ | ⟨rfl, rfl, rfl, rfl⟩ | ⟨rfl, rfl, rfl, rfl⟩ | ⟨rfl, rfl, rfl, rfl⟩ | ⟨rfl, rfl, rfl, rfl⟩ | ⟨rfl, rfl, rfl, rfl⟩ | ⟨rfl, rfl, rfl, rfl⟩ | ⟨rfl, rfl, rfl, rfl⟩
    · exact exf_NoText
    · exact exf_NoCard
    · exact exf_NoKind
    · exact exf_NoLane
    · exact exf_NoWait
    · exact exf_Twice
    · exact exf_Out
    · exact exf_Blocked
    · exact exf_Free
    · exact exf_InYard
    · exact exf_Past
    · exact exf_Waits
    · exact exf_Full
    · exact exf_KindFull
    · exact exf_Low
  cls := by decide +kernel
end K21
end CL
namespace CL
open PySem PySem.Spec PyProof.Rows L2
section
variable {c : Ctx} {b : Nat} {ρ : Env} {S S1 : Store} {d e : D}
@[simp] theorem vw_str (S : Store) (l : List Nat) : vw S (.str l) = .str l := (rfl)
@[simp] theorem vw_int (S : Store) (i : Int) : vw S (.int i) = .int i := (rfl)
@[simp] theorem vw_bool (S : Store) (t : Bool) : vw S (.bl t) = .bl t := (rfl)
@[simp] theorem vw_tup (S : Store) (ds : List D) : vw S (.tup ds) = .tup ds := (rfl)
@[simp] theorem vw_lst (S : Store) (ds : List D) : vw S (.lst ds) = .lst ds := (rfl)
@[simp] theorem vw_way (S : Store) (ds : List D) : vw S (.way ds) = .way ds := (rfl)
@[simp] theorem vw_non (S : Store) : vw S .non = .non := (rfl)
@[simp] theorem vw_scr (S : Store) (ns : List Int) : vw S (.scr ns) = .scr ns := (rfl)
@[simp] theorem of_some {α : Type} (S : Store) (a : α) : R.of S (some a) = .ok a S := (rfl)
@[simp] theorem rbind_ok {α β : Type} (a : α) (S : Store) (f : α → Store → R β) : (R.ok a S).bind f = f a S := (rfl)
@[simp] theorem rbind_err {α β : Type} (C : String) (ns : List String) (ds : List D) (S : Store) (f : α → Store → R β) : (R.err C ns ds S).bind f = .err C ns ds S := (rfl)
@[simp] theorem beq_cast (m n : Nat) : ((m : Int) == (n : Int)) = (m == n) := by
  rw [Bool.eq_iff_iff, beq_iff_eq, beq_iff_eq]
  omega
def kv2 (d : D) (r : R D) (k : Store → D → D → R D) : R D := r.bind fun e S2 => k S2 d e
def ev2 (r : R D) (c : Ctx) (b : Nat) (y : E) (ρ : Env) (k : Store → D → D → R D) : R D := r.bind fun d S1 => kv2 d (ev c b y ρ S1) k
@[simp] theorem kv2_ok (d e : D) (S : Store) (k : Store → D → D → R D) : kv2 d (.ok e S) k = k S d e := (rfl)
@[simp] theorem kv2_err (d : D) (C : String) (ns : List String) (ds : List D) (S : Store) (k : Store → D → D → R D) : kv2 d (.err C ns ds S) k = .err C ns ds S := (rfl)
@[simp] theorem ev2_ok (d : D) (S : Store) (c : Ctx) (b : Nat) (y : E) (ρ : Env) (k : Store → D → D → R D) : ev2 (.ok d S) c b y ρ k = kv2 d (ev c b y ρ S) k := (rfl)
@[simp] theorem ev2_err (C : String) (ns : List String) (ds : List D) (S : Store) (c : Ctx) (b : Nat) (y : E) (ρ : Env) (k : Store → D → D → R D) : ev2 (.err C ns ds S) c b y ρ k = .err C ns ds S := (rfl)
def kbop (o : BO) (S : Store) (d e : D) : R D := R.of S (bop o (vw S d) (vw S e))
def kcmp (o : CO) (S : Store) (d e : D) : R D := R.of S ((cmpD o (vw S d) (vw S e)).map .bl)
def kidx (S : Store) (d e : D) : R D := R.of S (idxD (vw S d) (vw S e))
def kslo (S : Store) (d e : D) : R D := match e with | .int i => R.of S (slD (some i) none (vw S d)) | _ => .bad
def kshi (S : Store) (d e : D) : R D := match e with | .int i => R.of S (slD none (some i) (vw S d)) | _ => .bad
def kncat (S : Store) (d e : D) : R D := match bop .add (vw S d) (vw S e) with | some (.lst ds) => .ok (.ref S.length) (S ++ [.lst ds]) | _ => .bad
@[simp] theorem kbop_eq (o : BO) (S : Store) (d e : D) : kbop o S d e = R.of S (bop o (vw S d) (vw S e)) := (rfl)
@[simp] theorem kcmp_eq (o : CO) (S : Store) (d e : D) : kcmp o S d e = R.of S ((cmpD o (vw S d) (vw S e)).map .bl) := (rfl)
@[simp] theorem kidx_eq (S : Store) (d e : D) : kidx S d e = R.of S (idxD (vw S d) (vw S e)) := (rfl)
@[simp] theorem kslo_eq (S : Store) (d : D) (i : Int) : kslo S d (.int i) = R.of S (slD (some i) none (vw S d)) := (rfl)
@[simp] theorem kshi_eq (S : Store) (d : D) (i : Int) : kshi S d (.int i) = R.of S (slD none (some i) (vw S d)) := (rfl)
@[simp] theorem ev_bop (o : BO) (x y : E) : ev c b (.bop o x y) ρ S = ev2 (ev c b x ρ S) c b y ρ (kbop o) := by simp only [ev]; rfl
@[simp] theorem ev_cmp (o : CO) (x y : E) : ev c b (.cmp o x y) ρ S = ev2 (ev c b x ρ S) c b y ρ (kcmp o) := by simp only [ev]; rfl
@[simp] theorem ev_idx (x y : E) : ev c b (.idx x y) ρ S = ev2 (ev c b x ρ S) c b y ρ kidx := by simp only [ev]; rfl
def kstep (S : Store) (d e : D) : R D := R.of S (stepD (vw S d) e)
@[simp] theorem kstep_eq (S : Store) (d e : D) : kstep S d e = R.of S (stepD (vw S d) e) := (rfl)
@[simp] theorem ev_step (x y : E) : ev c b (.step x y) ρ S = ev2 (ev c b x ρ S) c b y ρ kstep := by simp only [ev]; rfl
@[simp] theorem ev_slLo (x y : E) : ev c b (.slLo x y) ρ S = ev2 (ev c b x ρ S) c b y ρ kslo := by simp only [ev]; rfl
@[simp] theorem ev_slHi (x y : E) : ev c b (.slHi x y) ρ S = ev2 (ev c b x ρ S) c b y ρ kshi := by simp only [ev]; rfl
@[simp] theorem ev_ncat (x y : E) : ev c b (.ncat x y) ρ S = ev2 (ev c b x ρ S) c b y ρ kncat := by simp only [ev]; rfl
def ev1 (r : R D) (k : Store → D → R D) : R D := r.bind fun d S1 => k S1 d
@[simp] theorem ev1_ok (d : D) (S : Store) (k : Store → D → R D) : ev1 (.ok d S) k = k S d := (rfl)
@[simp] theorem ev1_err (C : String) (ns : List String) (ds : List D) (S : Store) (k : Store → D → R D) : ev1 (.err C ns ds S) k = .err C ns ds S := (rfl)
def kneg (S : Store) (d : D) : R D := match d with | .int i => .ok (.int (-i)) S | _ => .bad
def knot (S : Store) (d : D) : R D := R.of S ((truD (vw S d)).map fun k => .bl (!k))
def kisi (c : Ctx) (cs : List String) (S : Store) (d : D) : R D := R.of S ((isaAny c (vw S d) cs).map .bl)
def klset (S : Store) (d : D) : R D := R.of S (lsetD (vw S d))
def kisset (S : Store) (d : D) : R D := R.of S (isetD (vw S d))
def ksset (S : Store) (d : D) : R D := R.of S (ssetD (vw S d))
def ksall (S : Store) (d : D) : R D := R.of S (slD none none (vw S d))
def knlist (S : Store) (d : D) : R D := match seqD (vw S d) with | some ds => .ok (.ref S.length) (S ++ [.lst ds]) | none => .bad
@[simp] theorem kneg_eq (S : Store) (i : Int) : kneg S (.int i) = .ok (.int (-i)) S := (rfl)
@[simp] theorem knot_eq (S : Store) (d : D) : knot S d = R.of S ((truD (vw S d)).map fun k => .bl (!k)) := (rfl)
@[simp] theorem kisi_eq (c : Ctx) (cs : List String) (S : Store) (d : D) : kisi c cs S d = R.of S ((isaAny c (vw S d) cs).map .bl) := (rfl)
@[simp] theorem klset_eq (S : Store) (d : D) : klset S d = R.of S (lsetD (vw S d)) := (rfl)
@[simp] theorem kisset_eq (S : Store) (d : D) : kisset S d = R.of S (isetD (vw S d)) := (rfl)
@[simp] theorem ksset_eq (S : Store) (d : D) : ksset S d = R.of S (ssetD (vw S d)) := (rfl)
@[simp] theorem ksall_eq (S : Store) (d : D) : ksall S d = R.of S (slD none none (vw S d)) := (rfl)
@[simp] theorem ev_neg (x : E) : ev c b (.neg x) ρ S = ev1 (ev c b x ρ S) kneg := by simp only [ev]; rfl
@[simp] theorem ev_not (x : E) : ev c b (.not x) ρ S = ev1 (ev c b x ρ S) knot := by simp only [ev]; rfl
@[simp] theorem ev_isi (x : E) (cs : List String) (t : Bool) : ev c b (.isi x cs t) ρ S = ev1 (ev c b x ρ S) (kisi c cs) := by simp only [ev]; rfl
@[simp] theorem ev_lset (x : E) : ev c b (.lset x) ρ S = ev1 (ev c b x ρ S) klset := by simp only [ev]; rfl
@[simp] theorem ev_isset (x : E) : ev c b (.isset x) ρ S = ev1 (ev c b x ρ S) kisset := by simp only [ev]; rfl
@[simp] theorem ev_sset (x : E) : ev c b (.sset x) ρ S = ev1 (ev c b x ρ S) ksset := by simp only [ev]; rfl
@[simp] theorem ev_slAll (x : E) : ev c b (.slAll x) ρ S = ev1 (ev c b x ρ S) ksall := by simp only [ev]; rfl
@[simp] theorem ev_nlist (x : E) : ev c b (.nlist x) ρ S = ev1 (ev c b x ρ S) knlist := by simp only [ev]; rfl
@[simp] theorem ev_non : ev c b .non ρ S = .ok .non S := by simp only [ev]
@[simp] theorem ev_bl (t : Bool) : ev c b (.bl t) ρ S = .ok (.bl t) S := by simp only [ev]
@[simp] theorem ev_int (i : Int) : ev c b (.int i) ρ S = .ok (.int i) S := by simp only [ev]
@[simp] theorem ev_str (l : List Nat) : ev c b (.str l) ρ S = .ok (.str l) S := by simp only [ev]
@[simp] theorem ev_gcon (x : String) : ev c b (.gcon x) ρ S = R.of S (c.con x) := by simp only [ev]
@[simp] theorem ctxN_con (T : Text) (n : Nat) (g : String) : (ctxN T n).con g = T.con g := (rfl)
@[simp] theorem ctxN_call (T : Text) (n : Nat) (f : String) (g : Bool) (ds : List D) (b : Nat) (S : Store) : (ctxN T n).call f g ds b S = callN T n f g ds b S := (rfl)
def slotR (S : Store) : Option (Option D) → R D
  | some (some d) => .ok d S
  | _ => .bad
@[simp] theorem slotR_ok (S : Store) (d : D) : slotR S (some (some d)) = .ok d S := (rfl)
@[simp] theorem ev_var (i : Nat) : ev c b (.var i) ρ S = slotR S ρ[i]? := by
  simp only [ev]
  cases ρ[i]? with
  | none => rfl
  | some o => cases o <;> rfl
def cons2 (d : D) (r : R (List D)) : R (List D) := r.bind fun ds S2 => .ok (d :: ds) S2
def cons1 (r : R D) (c : Ctx) (b : Nat) (es : Es) (ρ : Env) : R (List D) := r.bind fun d S1 => cons2 d (evs c b es ρ S1)
@[simp] theorem cons2_ok (d : D) (ds : List D) (S : Store) : cons2 d (.ok ds S) = .ok (d :: ds) S := (rfl)
@[simp] theorem cons1_ok (d : D) (S : Store) (c : Ctx) (b : Nat) (es : Es) (ρ : Env) : cons1 (.ok d S) c b es ρ = cons2 d (evs c b es ρ S) := (rfl)
@[simp] theorem cons2_err (d : D) (C : String) (ns : List String) (ds : List D) (S : Store) : cons2 d (.err C ns ds S) = .err C ns ds S := (rfl)
@[simp] theorem cons1_err (C : String) (ns : List String) (ds : List D) (S : Store) (c : Ctx) (b : Nat) (es : Es) (ρ : Env) : cons1 (.err C ns ds S) c b es ρ = .err C ns ds S := (rfl)
@[simp] theorem evs_nil : evs c b .nil ρ S = .ok [] S := by simp only [evs]
@[simp] theorem evs_cons (e : E) (es : Es) : evs c b (.cons e es) ρ S = cons1 (ev c b e ρ S) c b es ρ := by simp only [evs]; rfl
def evk (r : R (List D)) (k : Store → List D → R D) : R D := r.bind fun ds S1 => k S1 ds
@[simp] theorem evk_ok (ds : List D) (S : Store) (k : Store → List D → R D) : evk (.ok ds S) k = k S ds := (rfl)
@[simp] theorem evk_err (C : String) (ns : List String) (ds : List D) (S : Store) (k : Store → List D → R D) : evk (.err C ns ds S) k = .err C ns ds S := (rfl)
def ktup (S : Store) (ds : List D) : R D := .ok (.tup ds) S
def klst (S : Store) (ds : List D) : R D := .ok (.lst ds) S
def knewl (S : Store) (ds : List D) : R D := .ok (.ref S.length) (S ++ [.lst ds])
def kbi (f : FB) (S : Store) (ds : List D) : R D := R.of S (fbD f (ds.map (vw S)))
def kcall (c : Ctx) (b : Nat) (f : String) (g : Bool) (S : Store) (ds : List D) : R D := c.call f g ds b S
@[simp] theorem ktup_eq (S : Store) (ds : List D) : ktup S ds = .ok (.tup ds) S := (rfl)
@[simp] theorem klst_eq (S : Store) (ds : List D) : klst S ds = .ok (.lst ds) S := (rfl)
@[simp] theorem knewl_eq (S : Store) (ds : List D) : knewl S ds = .ok (.ref S.length) (S ++ [.lst ds]) := (rfl)
@[simp] theorem kbi_eq (f : FB) (S : Store) (ds : List D) : kbi f S ds = R.of S (fbD f (ds.map (vw S))) := (rfl)
@[simp] theorem kcall_eq (T : Text) (n b : Nat) (f : String) (g : Bool) (S : Store) (ds : List D) : kcall (ctxN T n) b f g S ds = callN T n f g ds b S := (rfl)
@[simp] theorem ev_tup (es : Es) : ev c b (.tup es) ρ S = evk (evs c b es ρ S) ktup := by simp only [ev]; rfl
@[simp] theorem ev_lst (es : Es) : ev c b (.lst es) ρ S = evk (evs c b es ρ S) klst := by simp only [ev]; rfl
@[simp] theorem ev_newl (es : Es) : ev c b (.newl es) ρ S = evk (evs c b es ρ S) knewl := by simp only [ev]; rfl
@[simp] theorem ev_bi (f : FB) (es : Es) : ev c b (.bi f es) ρ S = evk (evs c b es ρ S) (kbi f) := by simp only [ev]; rfl
@[simp] theorem ev_call (f : String) (g : Bool) (es : Es) : ev c b (.call f g es) ρ S = evk (evs c b es ρ S) (kcall c b f g) := by simp only [ev]; rfl
def ifeB (t : Option Bool) (c : Ctx) (b : Nat) (x y : E) (ρ : Env) (S : Store) : R D := match t with
  | some true => ev c b x ρ S
  | some false => ev c b y ρ S
  | none => .bad
def ifeR (r : R D) (c : Ctx) (b : Nat) (x y : E) (ρ : Env) : R D := r.bind fun d S1 => ifeB (truD (vw S1 d)) c b x y ρ S1
@[simp] theorem ifeR_ok (d : D) (S : Store) (c : Ctx) (b : Nat) (x y : E) (ρ : Env) : ifeR (.ok d S) c b x y ρ = ifeB (truD (vw S d)) c b x y ρ S := (rfl)
@[simp] theorem ifeB_t (c : Ctx) (b : Nat) (x y : E) (ρ : Env) (S : Store) : ifeB (some true) c b x y ρ S = ev c b x ρ S := (rfl)
@[simp] theorem ifeB_f (c : Ctx) (b : Nat) (x y : E) (ρ : Env) (S : Store) : ifeB (some false) c b x y ρ S = ev c b y ρ S := (rfl)
@[simp] theorem ev_ife (q x y : E) : ev c b (.ife q x y) ρ S = ifeR (ev c b q ρ S) c b x y ρ := by simp only [ev]; rfl
def andB (t : Option Bool) (d : D) (c : Ctx) (b : Nat) (es : Es) (ρ : Env) (S : Store) : R D := match t with
  | some true => evAnd c b es ρ S
  | some false => .ok d S
  | none => .bad
def andR (r : R D) (c : Ctx) (b : Nat) (es : Es) (ρ : Env) : R D := r.bind fun d S1 => andB (truD (vw S1 d)) d c b es ρ S1
@[simp] theorem andR_ok (d : D) (S : Store) (c : Ctx) (b : Nat) (es : Es) (ρ : Env) : andR (.ok d S) c b es ρ = andB (truD (vw S d)) d c b es ρ S := (rfl)
@[simp] theorem andR_err (C : String) (ns : List String) (ds : List D) (S : Store) (c : Ctx) (b : Nat) (es : Es) (ρ : Env) : andR (.err C ns ds S) c b es ρ = .err C ns ds S := (rfl)
@[simp] theorem andB_t (d : D) (c : Ctx) (b : Nat) (es : Es) (ρ : Env) (S : Store) : andB (some true) d c b es ρ S = evAnd c b es ρ S := (rfl)
@[simp] theorem andB_f (d : D) (c : Ctx) (b : Nat) (es : Es) (ρ : Env) (S : Store) : andB (some false) d c b es ρ S = .ok d S := (rfl)
def orB (t : Option Bool) (d : D) (c : Ctx) (b : Nat) (es : Es) (ρ : Env) (S : Store) : R D := match t with
  | some false => evOr c b es ρ S
  | some true => .ok d S
  | none => .bad
def orR (r : R D) (c : Ctx) (b : Nat) (es : Es) (ρ : Env) : R D := r.bind fun d S1 => orB (truD (vw S1 d)) d c b es ρ S1
@[simp] theorem orR_ok (d : D) (S : Store) (c : Ctx) (b : Nat) (es : Es) (ρ : Env) : orR (.ok d S) c b es ρ = orB (truD (vw S d)) d c b es ρ S := (rfl)
@[simp] theorem orR_err (C : String) (ns : List String) (ds : List D) (S : Store) (c : Ctx) (b : Nat) (es : Es) (ρ : Env) : orR (.err C ns ds S) c b es ρ = .err C ns ds S := (rfl)
@[simp] theorem orB_t (d : D) (c : Ctx) (b : Nat) (es : Es) (ρ : Env) (S : Store) : orB (some true) d c b es ρ S = .ok d S := (rfl)
@[simp] theorem orB_f (d : D) (c : Ctx) (b : Nat) (es : Es) (ρ : Env) (S : Store) : orB (some false) d c b es ρ S = evOr c b es ρ S := (rfl)
@[simp] theorem ev_and (es : Es) : ev c b (.and es) ρ S = evAnd c b es ρ S := by simp only [ev]
@[simp] theorem ev_or (es : Es) : ev c b (.or es) ρ S = evOr c b es ρ S := by simp only [ev]
@[simp] theorem and_one (e : E) : evAnd c b (.cons e .nil) ρ S = ev c b e ρ S := by simp only [evAnd]
@[simp] theorem or_one (e : E) : evOr c b (.cons e .nil) ρ S = ev c b e ρ S := by simp only [evOr]
@[simp] theorem and_two (e e2 : E) (es : Es) : evAnd c b (.cons e (.cons e2 es)) ρ S = andR (ev c b e ρ S) c b (.cons e2 es) ρ := by simp only [evAnd]; rfl
@[simp] theorem or_two (e e2 : E) (es : Es) : evOr c b (.cons e (.cons e2 es)) ρ S = orR (ev c b e ρ S) c b (.cons e2 es) ρ := by simp only [evOr]; rfl
def chB (t : Option Bool) (e : D) (c : Ctx) (b : Nat) (p : CO) (z : E) (ρ : Env) (S : Store) : R D := match t with
  | some true => kv2 e (ev c b z ρ S) (kcmp p)
  | some false => .ok (.bl false) S
  | none => .bad
def ch2 (d : D) (r : R D) (c : Ctx) (b : Nat) (o p : CO) (z : E) (ρ : Env) : R D := r.bind fun e S2 => chB (cmpD o (vw S2 d) (vw S2 e)) e c b p z ρ S2
def ch1 (r : R D) (c : Ctx) (b : Nat) (o p : CO) (y z : E) (ρ : Env) : R D := r.bind fun d S1 => ch2 d (ev c b y ρ S1) c b o p z ρ
@[simp] theorem ch1_ok (d : D) (S : Store) (c : Ctx) (b : Nat) (o p : CO) (y z : E) (ρ : Env) : ch1 (.ok d S) c b o p y z ρ = ch2 d (ev c b y ρ S) c b o p z ρ := (rfl)
@[simp] theorem ch2_ok (d e : D) (S : Store) (c : Ctx) (b : Nat) (o p : CO) (z : E) (ρ : Env) : ch2 d (.ok e S) c b o p z ρ = chB (cmpD o (vw S d) (vw S e)) e c b p z ρ S := (rfl)
@[simp] theorem chB_t (e : D) (c : Ctx) (b : Nat) (p : CO) (z : E) (ρ : Env) (S : Store) : chB (some true) e c b p z ρ S = kv2 e (ev c b z ρ S) (kcmp p) := (rfl)
@[simp] theorem chB_f (e : D) (c : Ctx) (b : Nat) (p : CO) (z : E) (ρ : Env) (S : Store) : chB (some false) e c b p z ρ S = .ok (.bl false) S := (rfl)
@[simp] theorem ev_chain (o p : CO) (x y z : E) : ev c b (.chain o p x y z) ρ S = ch1 (ev c b x ρ S) c b o p y z ρ := by
  simp only [ev, ch1]
  congr 1
def walkR (r : R D) : R Walk := r.bind fun d S1 => R.of S1 (walkD S1 d)
@[simp] theorem walkR_ok (d : D) (S : Store) : walkR (.ok d S) = R.of S (walkD S d) := (rfl)
@[simp] theorem it_val (e : E) : evIt c b (.val e) ρ S = walkR (ev c b e ρ S) := by simp only [evIt]; rfl
def enumR (r : R D) : R Walk := r.bind fun d S1 => R.of S1 (enumD S1 d)
@[simp] theorem enumR_ok (d : D) (S : Store) : enumR (.ok d S) = R.of S (enumD S d) := (rfl)
@[simp] theorem it_enum (e : E) : evIt c b (.enum e) ρ S = enumR (ev c b e ρ S) := by simp only [evIt]; rfl
def rangeR (r : R (List D)) : R Walk := r.bind fun ds S1 => R.of S1 ((ranges ds).map fun l => ⟨l, []⟩)
@[simp] theorem rangeR_ok (ds : List D) (S : Store) : rangeR (.ok ds S) = R.of S ((ranges ds).map fun l => ⟨l, []⟩) := (rfl)
@[simp] theorem it_range (es : Es) : evIt c b (.range es) ρ S = rangeR (evs c b es ρ S) := by simp only [evIt]; rfl
def zip2 (d : D) (r : R D) : R Walk := r.bind fun e S2 => R.of S2 (zipE S2 d e)
def zip1 (r : R D) (c : Ctx) (b : Nat) (y : E) (ρ : Env) : R Walk := r.bind fun d S1 => zip2 d (ev c b y ρ S1)
@[simp] theorem zip2_ok (d e : D) (S : Store) : zip2 d (.ok e S) = R.of S (zipE S d e) := (rfl)
@[simp] theorem zipE_lst (S : Store) (l : List D) (e : D) : zipE S (.lst l) e = zipD S (.lst l) e := (rfl)
@[simp] theorem zipE_tup (S : Store) (l : List D) (e : D) : zipE S (.tup l) e = zipD S (.tup l) e := (rfl)
@[simp] theorem zipE_way (S : Store) (l : List D) (e : D) : zipE S (.way l) e = zipD S (.way l) e := (rfl)
@[simp] theorem zipE_ref (S : Store) (i : Nat) (e : D) : zipE S (.ref i) e = zipD S (.ref i) e := (rfl)
@[simp] theorem zipE_scr (S : Store) (l : List Int) (e : D) : zipE S (.scr l) e = zipD S (.scr l) e := (rfl)
@[simp] theorem zip1_ok (d : D) (S : Store) (c : Ctx) (b : Nat) (y : E) (ρ : Env) : zip1 (.ok d S) c b y ρ = zip2 d (ev c b y ρ S) := (rfl)
@[simp] theorem it_zip (x y : E) : evIt c b (.zip x y) ρ S = zip1 (ev c b x ρ S) c b y ρ := by simp only [evIt]; rfl
def lcOne (c : Ctx) (b : Nat) (elt : E) (tg : Tg) (d : D) (ρ : Env) (S : Store) : R (Option D) := match asg tg d ρ with
  | some ρ' => (ev c b elt ρ' S).bind fun x S' => .ok (some x) S'
  | none => .bad
def lcTwo (c : Ctx) (b : Nat) (elt q : E) (tg : Tg) (d : D) (ρ : Env) (S : Store) : R (Option D) := match asg tg d ρ with
  | some ρ' => (ev c b q ρ' S).bind fun k S' => match truD (vw S' k) with
    | some true => (ev c b elt ρ' S').bind fun x S' => .ok (some x) S'
    | some false => .ok none S'
    | none => .bad
  | none => .bad
def lcAll (f : D → Env → Store → R (Option D)) (tg : Tg) (ρ : Env) (w : Walk) (S : Store) : R (List D) := lcR f w (wipeE ρ tg.slots) S
def lcW (r : R Walk) (f : D → Env → Store → R (Option D)) (tg : Tg) (ρ : Env) : R (List D) := r.bind fun w S1 => lcAll f tg ρ w S1
@[simp] theorem lcW_ok (w : Walk) (S : Store) (f : D → Env → Store → R (Option D)) (tg : Tg) (ρ : Env) : lcW (.ok w S) f tg ρ = lcAll f tg ρ w S := (rfl)
@[simp] theorem ev_lc (elt : E) (tg : Tg) (it : It) : ev c b (.lc elt tg it) ρ S = evk (lcW (evIt c b it ρ S) (lcOne c b elt tg) tg ρ) klst := by
  simp only [ev]
  cases evIt c b it ρ S <;> rfl
@[simp] theorem ev_lcIf (elt : E) (tg : Tg) (it : It) (q : E) : ev c b (.lcIf elt tg it q) ρ S = evk (lcW (evIt c b it ρ S) (lcTwo c b elt q tg) tg ρ) klst := by
  simp only [ev]
  cases evIt c b it ρ S <;> rfl
@[simp] theorem ev_newlc (elt : E) (tg : Tg) (it : It) : ev c b (.newlc elt tg it) ρ S = evk (lcW (evIt c b it ρ S) (lcOne c b elt tg) tg ρ) knewl := by
  simp only [ev]
  cases evIt c b it ρ S <;> rfl
@[simp] theorem ev_newlcIf (elt : E) (tg : Tg) (it : It) (q : E) : ev c b (.newlcIf elt tg it q) ρ S = evk (lcW (evIt c b it ρ S) (lcTwo c b elt q tg) tg ρ) knewl := by
  simp only [ev]
  cases evIt c b it ρ S <;> rfl
def seqR (r : RS) (b : Nat) (ss : Ss) (c : Ctx) : RS := r.then fun ρ1 S1 => exs b ss c ρ1 S1
@[simp] theorem seqR_nx (ρ : Env) (S : Store) (b : Nat) (ss : Ss) (c : Ctx) : seqR (.ok (.nx ρ) S) b ss c = exs b ss c ρ S := (rfl)
@[simp] theorem seqR_rt (d : D) (S : Store) (b : Nat) (ss : Ss) (c : Ctx) : seqR (.ok (.rt d) S) b ss c = .ok (.rt d) S := (rfl)
@[simp] theorem seqR_bk (ρ : Env) (S : Store) (b : Nat) (ss : Ss) (c : Ctx) : seqR (.ok (.bk ρ) S) b ss c = .ok (.bk ρ) S := (rfl)
@[simp] theorem seqR_ct (ρ : Env) (S : Store) (b : Nat) (ss : Ss) (c : Ctx) : seqR (.ok (.ct ρ) S) b ss c = .ok (.ct ρ) S := (rfl)
@[simp] theorem seqR_err (C : String) (ns : List String) (ds : List D) (ρ : Env) (S : Store) (b : Nat) (ss : Ss) (c : Ctx) : seqR (.err C ns ds ρ S) b ss c = .err C ns ds ρ S := (rfl)
@[simp] theorem exs_nil : exs b .nil c ρ S = .ok (.nx ρ) S := by simp only [exs]
@[simp] theorem exs_cons (s : St) (ss : Ss) : exs b (.cons s ss) c ρ S = seqR (exS b s c ρ S) b ss c := by simp only [exs]; rfl
def thenK (r : R D) (ρ : Env) (k : Env → Store → D → RS) : RS := r.then ρ fun d S1 => k ρ S1 d
@[simp] theorem thenK_ok (d : D) (S : Store) (ρ : Env) (k : Env → Store → D → RS) : thenK (.ok d S) ρ k = k ρ S d := (rfl)
@[simp] theorem thenK_err (C : String) (ns : List String) (ds : List D) (S : Store) (ρ : Env) (k : Env → Store → D → RS) : thenK (.err C ns ds S) ρ k = .err C ns ds ρ S := (rfl)
def kset (t : Tg) (ρ : Env) (S : Store) (d : D) : RS := match asg t d ρ with | some ρ' => .ok (.nx ρ') S | none => .bad
def kret (ρ : Env) (S : Store) (d : D) : RS := .ok (.rt d) S
def kex (ρ : Env) (S : Store) (d : D) : RS := .ok (.nx ρ) S
def iteB (t : Option Bool) (b : Nat) (x y : Ss) (c : Ctx) (ρ : Env) (S : Store) : RS := match t with
  | some true => exs b x c ρ S
  | some false => exs b y c ρ S
  | none => .bad
def kite (b : Nat) (x y : Ss) (c : Ctx) (ρ : Env) (S : Store) (d : D) : RS := iteB (truD (vw S d)) b x y c ρ S
@[simp] theorem kset_one (i : Nat) (ρ : Env) (S : Store) (d : D) : kset (.one i) ρ S d = .ok (.nx (ρ.set i (some d))) S := (rfl)
@[simp] theorem kret_eq (ρ : Env) (S : Store) (d : D) : kret ρ S d = .ok (.rt d) S := (rfl)
@[simp] theorem kex_eq (ρ : Env) (S : Store) (d : D) : kex ρ S d = .ok (.nx ρ) S := (rfl)
@[simp] theorem kite_eq (b : Nat) (x y : Ss) (c : Ctx) (ρ : Env) (S : Store) (d : D) : kite b x y c ρ S d = iteB (truD (vw S d)) b x y c ρ S := (rfl)
@[simp] theorem iteB_t (b : Nat) (x y : Ss) (c : Ctx) (ρ : Env) (S : Store) : iteB (some true) b x y c ρ S = exs b x c ρ S := (rfl)
@[simp] theorem iteB_f (b : Nat) (x y : Ss) (c : Ctx) (ρ : Env) (S : Store) : iteB (some false) b x y c ρ S = exs b y c ρ S := (rfl)
@[simp] theorem x_set (t : Tg) (e : E) : exS b (.set t e) c ρ S = thenK (ev c b e ρ S) ρ (kset t) := by simp only [exS]; rfl
def par1 (d : D) (r : R D) (ρ : Env) (i j : Nat) : RS := r.then ρ fun e S2 => .ok (.nx ((ρ.set i (some d)).set j (some e))) S2
def par2 (r : R D) (c : Ctx) (b : Nat) (y : E) (ρ : Env) (i j : Nat) : RS := r.then ρ fun d S1 => par1 d (ev c b y ρ S1) ρ i j
@[simp] theorem par1_ok (d e : D) (S : Store) (ρ : Env) (i j : Nat) : par1 d (.ok e S) ρ i j = .ok (.nx ((ρ.set i (some d)).set j (some e))) S := (rfl)
@[simp] theorem par2_ok (d : D) (S : Store) (c : Ctx) (b : Nat) (y : E) (ρ : Env) (i j : Nat) : par2 (.ok d S) c b y ρ i j = par1 d (ev c b y ρ S) ρ i j := (rfl)
@[simp] theorem x_par (i j : Nat) (x y : E) : exS b (.par i j x y) c ρ S = par2 (ev c b x ρ S) c b y ρ i j := by simp only [exS]; rfl
@[simp] theorem x_ret (e : E) : exS b (.ret e) c ρ S = thenK (ev c b e ρ S) ρ kret := by simp only [exS]; rfl
@[simp] theorem x_ret0 : exS b .ret0 c ρ S = .ok (.rt .non) S := by simp only [exS]
@[simp] theorem x_pass : exS b .pass c ρ S = .ok (.nx ρ) S := by simp only [exS]
@[simp] theorem x_brk : exS b .brk c ρ S = .ok (.bk ρ) S := by simp only [exS]
@[simp] theorem x_cont : exS b .cont c ρ S = .ok (.ct ρ) S := by simp only [exS]
@[simp] theorem x_ex (e : E) : exS b (.ex e) c ρ S = thenK (ev c b e ρ S) ρ kex := by simp only [exS]; rfl
@[simp] theorem x_ite (q : E) (x y : Ss) : exS b (.ite q x y) c ρ S = thenK (ev c b q ρ S) ρ (kite b x y c) := by simp only [exS]; rfl
def forS (b : Nat) (t : Tg) (body : Ss) (c : Ctx) (w : Walk) (items : List D) (ρ : Env) (S : Store) : RS := forL (fun ρ S => exs b body c ρ S) t w items ρ S
def forR (r : R Walk) (b : Nat) (t : Tg) (body : Ss) (c : Ctx) (ρ : Env) : RS := r.then ρ fun w S1 => forS b t body c w w.items ρ S1
@[simp] theorem forR_ok (w : Walk) (S : Store) (b : Nat) (t : Tg) (body : Ss) (c : Ctx) (ρ : Env) : forR (.ok w S) b t body c ρ = forS b t body c w w.items ρ S := (rfl)
@[simp] theorem x_for (t : Tg) (it : It) (body : Ss) : exS b (.for_ t it body) c ρ S = forR (evIt c b it ρ S) b t body c ρ := by simp only [exS]; rfl
def raiseR (r : R (List D)) (C : String) (c : Ctx) (ρ : Env) : RS := if c.deep then r.then ρ fun ds S1 => match exFields (c.ex C) ds with
    | some (ns, fs) => .err C ns fs ρ S1
    | none => .bad
    else .bad
@[simp] theorem x_raise (C : String) (es : Es) : exS b (.raise C es) c ρ S = raiseR (evs c b es ρ S) C c ρ := by simp only [exS]; rfl
end
def foldE {α : Type} (f : α → D → α ⊕ D) : α → List D → α ⊕ D
  | a, [] => .inl a
  | a, d :: ds => match f a d with
    | .inl a' => foldE f a' ds
    | .inr r => .inr r
def ForEnd {α : Type} (P : α → Env → Store → Prop) (Z : D → Store → Prop) (F : RS) : α ⊕ D → Prop
  | .inl a => ∃ ρ S, F = .ok (.nx ρ) S ∧ P a ρ S
  | .inr r => ∃ S, F = .ok (.rt r) S ∧ Z r S
def Turn {α : Type} (P : α → Env → Store → Prop) (Z : D → Store → Prop) (b : Nat) (body : Ss) (c : Ctx) (ρ1 : Env) (S : Store) : α ⊕ D → Prop
  | .inl a => ∃ ρ2 S2, (exs b body c ρ1 S = .ok (.nx ρ2) S2 ∨ exs b body c ρ1 S = .ok (.ct ρ2) S2) ∧ P a ρ2 S2
  | .inr r => ∃ S2, exs b body c ρ1 S = .ok (.rt r) S2 ∧ Z r S2
theorem forS_fold {α : Type} {b : Nat} {t : Tg} {body : Ss} {c : Ctx} {w : Walk} (hw : w.held = []) (P : α → Env → Store → Prop) (Z : D → Store → Prop) (f : α → D → α ⊕ D) :
    ∀ (items : List D) (a : α) (ρ : Env) (S : Store), P a ρ S →
    (∀ d ∈ items, ∀ a ρ S, P a ρ S → ∃ ρ1, asg t d ρ = some ρ1 ∧ Turn P Z b body c ρ1 S (f a d)) → ForEnd P Z (forS b t body c w items ρ S) (foldE f a items)
  | [], a, ρ, S, hP, _ => by
    have st : w.still S = true := by simp [Walk.still, hw]
    exact ⟨ρ, S, by simp [forS, forL, st], hP⟩
  | d :: ds, a, ρ, S, hP, h => by
    have st : w.still S = true := by simp [Walk.still, hw]
    obtain ⟨ρ1, h1, h2⟩ := h d List.mem_cons_self a ρ S hP
    rw [foldE]
    generalize hf : f a d = s at h2
    cases s with
    | inl a' =>
      obtain ⟨ρ2, S2, h3, h4⟩ := h2
      have := forS_fold hw P Z f ds a' ρ2 S2 h4 fun x hx => h x (List.mem_cons_of_mem _ hx)
      have e : forS b t body c w (d :: ds) ρ S = forS b t body c w ds ρ2 S2 := by
        rcases h3 with h3 | h3 <;> simp only [forS, forL, st, if_true, h1, h3]
      rw [e]
      exact this
    | inr r =>
      obtain ⟨S2, h3, h4⟩ := h2
      exact ⟨S2, by simp only [forS, forL, st, if_true, h1, h3], h4⟩
end CL
namespace CL
open PySem PySem.Spec PyProof.Rows L2
theorem limL_all {n : Nat} : ∀ {ds : List D}, D.limL n ds = true ↔ ∀ d ∈ ds, d.lim n = true
  | [] => by simp [D.limL]
  | d :: ds => by rw [D.limL, Bool.and_eq_true, limL_all]; simp
theorem map_same {α : Type} {f : α → α} {l : List α} (h : ∀ x ∈ l, f x = x) : l.map f = l := by
  rw [List.map_congr_left (g := id) (by simpa using h), List.map_id]
theorem res_flat (n : Nat) (S : Store) : ∀ (k : Nat) (d : D), d.lim 0 = true → res n S k d = d
  | 0, d, _ => by cases d <;> rfl
  | k + 1, d, h => by
    have key : ∀ ds : List D, D.limL 0 ds = true → ds.map (res n S k) = ds := fun ds hd => map_same fun x hx => res_flat n S k x (limL_all.mp hd x hx)
    cases d with
    | tup ds => show D.tup (ds.map (res n S k)) = _; rw [key ds (by rw [D.lim] at h; exact h)]
    | lst ds => show D.lst (ds.map (res n S k)) = _; rw [key ds (by rw [D.lim] at h; exact h)]
    | way ds => show D.way (ds.map (res n S k)) = _; rw [key ds (by rw [D.lim] at h; exact h)]
    | ins C ns ds => show D.ins C ns (ds.map (res n S k)) = _; rw [key ds (by rw [D.lim] at h; exact h)]
    | ref i => simp [D.lim] at h
    | _ => rfl
@[simp] theorem fnRes_rt (keep give : Bool) (n : Nat) (d : D) (S : Store) : fnRes keep give n (.ok (.rt d) S) = fin keep give n S d := (rfl)
@[simp] theorem fnRes_nx (keep give : Bool) (n : Nat) (ρ : Env) (S : Store) : fnRes keep give n (.ok (.nx ρ) S) = fin keep give n S .non := (rfl)
@[simp] theorem fin_keep (give : Bool) (n : Nat) (d : D) (S : Store) : fin true give n S d = .ok d S := (rfl)
@[simp] theorem fin_flat (n : Nat) (d : D) (S : Store) (h : d.lim 0 = true) : fin false false n S d = .ok d (S.take n) := by
  unfold fin
  simp only [Bool.false_eq_true, if_false, res_flat n S 8 d h]
  rw [if_pos (D.lim_mono (Nat.zero_le n) d h)]
@[simp] theorem fnRes_err (give : Bool) (n : Nat) (C : String) (ns : List String) (ds : List D) (ρ : Env) (S : Store) (h : D.limL 0 ds = true) : fnRes false give n (.err C ns ds ρ S) = .err C ns ds (S.take n) := by
  unfold fnRes
  simp only [Bool.false_eq_true, if_false]
  rw [if_pos (D.limL_mono (Nat.zero_le n) ds h)]
@[simp] theorem lim_str (n : Nat) (l : List Nat) : D.lim n (.str l) = true := (rfl)
@[simp] theorem lim_int (n : Nat) (i : Int) : D.lim n (.int i) = true := (rfl)
@[simp] theorem lim_bl (n : Nat) (t : Bool) : D.lim n (.bl t) = true := (rfl)
@[simp] theorem lim_non (n : Nat) : D.lim n .non = true := (rfl)
@[simp] theorem lim_tup (n : Nat) (ds : List D) : D.lim n (.tup ds) = D.limL n ds := by rw [D.lim]
@[simp] theorem lim_lst (n : Nat) (ds : List D) : D.lim n (.lst ds) = D.limL n ds := by rw [D.lim]
@[simp] theorem lim_way (n : Nat) (ds : List D) : D.lim n (.way ds) = D.limL n ds := by rw [D.lim]
@[simp] theorem limL_nil (n : Nat) : D.limL n [] = true := (rfl)
@[simp] theorem limL_cons (n : Nat) (d : D) (ds : List D) : D.limL n (d :: ds) = (d.lim n && D.limL n ds) := (rfl)
@[simp] theorem limL_str (n : Nat) (ls : List (List Nat)) : D.limL n (ls.map .str) = true := limL_all.mpr fun d hd => by
  obtain ⟨l, _, rfl⟩ := List.mem_map.mp hd
  rfl
@[simp] theorem limL_int (n : Nat) (ls : List Int) : D.limL n (ls.map .int) = true := limL_all.mpr fun d hd => by
  obtain ⟨l, _, rfl⟩ := List.mem_map.mp hd
  rfl
def hold (S : Store) (i : Nat) (v : Int) : Store := S.set i (.lst [.int v])
section
variable {S X : Store} {i j n : Nat} {v w : Int}
@[simp] theorem hold_len : (hold S i v).length = S.length := by simp [hold]
@[simp high] theorem hold_get (h : i < S.length) : (hold S i v)[i]? = some (.lst [.int v]) := by simp [hold, h]
theorem hold_ne (h : i ≠ j) : (hold S i v)[j]? = S[j]? := by simp [hold, h]
@[simp] theorem hold_top : i < S.length → (hold S i v)[S.length]? = none := fun _ => by simp
@[simp] theorem hold_app (h : i < S.length) : hold S i v ++ X = hold (S ++ X) i v := by simp [hold, List.set_append_left, h]
@[simp] theorem hold_set : (hold S i v).set i (.lst [.int w]) = hold S i w := by simp [hold]
@[simp] theorem hold_take (h : i < n) : (hold S i v).take n = hold (S.take n) i v := by
  unfold hold
  rw [List.take_set]
@[simp] theorem hold_take_len : (hold S i v).take S.length = hold S i v := by
  rw [List.take_of_length_le (by simp)]
@[simp] theorem vw_hold (h : i < S.length) : vw (hold S i v) (.ref i) = .lst [.int v] := by
  simp only [vw, hold_get h]
end
@[simp] theorem truD_bl (t : Bool) : truD (.bl t) = some t := (rfl)
@[simp] theorem idx_lst (ds : List D) (i : Int) : idxD (.lst ds) (.int i) = atD ds i := (rfl)
@[simp] theorem idx_tup (ds : List D) (i : Int) : idxD (.tup ds) (.int i) = atD ds i := (rfl)
@[simp] theorem idx_way (ds : List D) (i : Int) : idxD (.way ds) (.int i) = atD ds i := (rfl)
@[simp] theorem at_pos {α : Type} (l : List α) (i : Int) (h : 0 ≤ i) : atD l i = l[i.toNat]? := by simp [atD, h]
@[simp] theorem bop_add_int (a b : Int) : bop .add (.int a) (.int b) = some (.int (a + b)) := (rfl)
@[simp] theorem bop_sub_int (a b : Int) : bop .sub (.int a) (.int b) = some (.int (a - b)) := (rfl)
@[simp] theorem cmp_lt_int (a b : Int) : cmpD .lt (.int a) (.int b) = some (decide (a < b)) := (rfl)
@[simp] theorem cmp_gt_int (a b : Int) : cmpD .gt (.int a) (.int b) = some (decide (b < a)) := (rfl)
@[simp] theorem cmp_le_int (a b : Int) : cmpD .le (.int a) (.int b) = some (decide (a ≤ b)) := by
  show some (!decide (b < a)) = _
  rw [← decide_not]
  congr 2
  rw [Int.not_lt]
@[simp] theorem cmp_ge_int (a b : Int) : cmpD .ge (.int a) (.int b) = some (decide (b ≤ a)) := by
  show some (!decide (a < b)) = _
  rw [← decide_not]
  congr 2
  rw [Int.not_lt]
@[simp] theorem cmp_eq_int (a b : Int) : cmpD .eq (.int a) (.int b) = some (a == b) := by
  simp [cmpD, eqD, D.dat, D.eqv]
@[simp] theorem cmp_ne_int (a b : Int) : cmpD .ne (.int a) (.int b) = some (!(a == b)) := by
  simp [cmpD, eqD, D.dat, D.eqv]
@[simp] theorem cmp_eq_str (l m : List Nat) : cmpD .eq (.str l) (.str m) = some (l == m) := by
  simp [cmpD, eqD, D.dat, D.eqv]
@[simp] theorem cmp_ne_str (l m : List Nat) : cmpD .ne (.str l) (.str m) = some (!(l == m)) := by
  simp [cmpD, eqD, D.dat, D.eqv]
theorem cat_few {a b : Nat} (h : a ≤ 1000) (h2 : b ≤ 1000) : catOk a b = true := decide_eq_true (show a + b ≤ 10000000 by omega)
theorem bop_add_str (a b : List Nat) (h : a.length ≤ 1000) (h2 : b.length ≤ 1000) : bop .add (.str a) (.str b) = some (.str (a ++ b)) := by
  simp only [bop, cat_few h h2, if_true]
theorem bop_add_lst (a b : List D) (h : a.length ≤ 1000) (h2 : b.length ≤ 1000) : bop .add (.lst a) (.lst b) = some (.lst (a ++ b)) := by
  simp only [bop, cat_few h h2, if_true]
theorem at_in {α : Type} (l : List α) (i : Int) (h : 0 ≤ i) (h2 : i < l.length) : ∃ x, atD l i = some x ∧ x ∈ l ∧ l[i.toNat]? = some x := by
  unfold atD
  rw [if_pos h]
  have : i.toNat < l.length := by omega
  exact ⟨l[i.toNat], List.getElem?_eq_getElem this, List.getElem_mem this, List.getElem?_eq_getElem this⟩
def bmX (d : D) (r : R (List D)) (m : MB) (S1 : Store) (b : Nat) : R D := r.bind fun ds S2 => if kindD (vw S1 d) = kindD (vw S2 d) then bmD m d ds b S2 else .bad
def bmR (r : R D) (c : Ctx) (b : Nat) (m : MB) (es : Es) (ρ : Env) : R D := r.bind fun d S1 => if (mbId m (kindD (vw S1 d))).isSome then bmX d (evs c b es ρ S1) m S1 b else .bad
@[simp] theorem bmR_ok (d : D) (S : Store) (c : Ctx) (b : Nat) (m : MB) (es : Es) (ρ : Env) : bmR (.ok d S) c b m es ρ = if (mbId m (kindD (vw S d))).isSome then bmX d (evs c b es ρ S) m S b else .bad := (rfl)
@[simp] theorem bmX_ok (d : D) (ds : List D) (S1 S2 : Store) (m : MB) (b : Nat) : bmX d (.ok ds S2) m S1 b = if kindD (vw S1 d) = kindD (vw S2 d) then bmD m d ds b S2 else .bad := (rfl)
@[simp] theorem ev_bm {c : Ctx} {b : Nat} {ρ : Env} {S : Store} (m : MB) (x : E) (es : Es) : ev c b (.bm m x es) ρ S = bmR (ev c b x ρ S) c b m es ρ := by simp only [ev]; rfl
def six3 (w d : D) (r : R D) (b : Nat) (ρ : Env) : RS := r.then ρ fun k S3 => match d with
  | .ref n => match storeK b n k w S3 with
    | some S4 => .ok (.nx ρ) S4
    | none => .bad
  | _ => .bad
def six2 (w : D) (r : R D) (c : Ctx) (b : Nat) (i : E) (ρ : Env) : RS := r.then ρ fun d S2 => six3 w d (ev c b i ρ S2) b ρ
def six1 (r : R D) (c : Ctx) (b : Nat) (x i : E) (ρ : Env) : RS := r.then ρ fun w S1 => six2 w (ev c b x ρ S1) c b i ρ
@[simp] theorem six1_ok (w : D) (S : Store) (c : Ctx) (b : Nat) (x i : E) (ρ : Env) : six1 (.ok w S) c b x i ρ = six2 w (ev c b x ρ S) c b i ρ := (rfl)
@[simp] theorem six2_ok (w d : D) (S : Store) (c : Ctx) (b : Nat) (i : E) (ρ : Env) : six2 w (.ok d S) c b i ρ = six3 w d (ev c b i ρ S) b ρ := (rfl)
@[simp] theorem six3_ok (w k : D) (n : Nat) (S : Store) (b : Nat) (ρ : Env) : six3 w (.ref n) (.ok k S) b ρ = match storeK b n k w S with | some S4 => .ok (.nx ρ) S4 | none => .bad := (rfl)
@[simp] theorem x_setIdx {c : Ctx} {b : Nat} {ρ : Env} {S : Store} (x i v : E) : exS b (.setIdx x i v) c ρ S = six1 (ev c b v ρ S) c b x i ρ := by simp only [exS]; rfl
end CL
namespace CL
open PySem PySem.Spec PyProof.Rows L2
def one1 (r : R D) : R (Option D) := r.bind fun x S' => .ok (some x) S'
@[simp] theorem one1_ok (x : D) (S : Store) : one1 (.ok x S) = .ok (some x) S := (rfl)
@[simp] theorem lcOne_one (c : Ctx) (b : Nat) (elt : E) (i : Nat) (d : D) (ρ : Env) (S : Store) : lcOne c b elt (.one i) d ρ S = one1 (ev c b elt (ρ.set i (some d)) S) := (rfl)
def two2 (t : Option Bool) (c : Ctx) (b : Nat) (elt : E) (ρ : Env) (S : Store) : R (Option D) := match t with
  | some true => one1 (ev c b elt ρ S)
  | some false => .ok none S
  | none => .bad
def two1 (r : R D) (c : Ctx) (b : Nat) (elt : E) (ρ : Env) : R (Option D) := r.bind fun k S' => two2 (truD (vw S' k)) c b elt ρ S'
@[simp] theorem two1_ok (k : D) (S : Store) (c : Ctx) (b : Nat) (elt : E) (ρ : Env) : two1 (.ok k S) c b elt ρ = two2 (truD (vw S k)) c b elt ρ S := (rfl)
@[simp] theorem two2_t (c : Ctx) (b : Nat) (elt : E) (ρ : Env) (S : Store) : two2 (some true) c b elt ρ S = one1 (ev c b elt ρ S) := (rfl)
@[simp] theorem two2_f (c : Ctx) (b : Nat) (elt : E) (ρ : Env) (S : Store) : two2 (some false) c b elt ρ S = .ok none S := (rfl)
@[simp] theorem lcTwo_one (c : Ctx) (b : Nat) (elt q : E) (i : Nat) (d : D) (ρ : Env) (S : Store) : lcTwo c b elt q (.one i) d ρ S = two1 (ev c b q (ρ.set i (some d)) S) c b elt (ρ.set i (some d)) := (rfl)
section
variable {f : D → Env → Store → R (Option D)} {tg : Tg} {w : Walk} {ρ : Env} {S : Store}
theorem lcAll_run (P : Store → Prop) (Rx : D → Prop) (hw : w.held = []) (hl : w.items.length ≤ LIM) (hP : P S) (h : ∀ d ∈ w.items, ∀ S, P S → ∃ x S', f d (wipeE ρ tg.slots) S = .ok (some x) S' ∧ P S' ∧ Rx x) :
    ∃ xs S', lcAll f tg ρ w S = .ok xs S' ∧ P S' ∧ (∀ x ∈ xs, Rx x) ∧ xs.length = w.items.length := by
  obtain ⟨xs, S', h1, h2, h3, h4⟩ := lcL_run (f := f) (ρ := wipeE ρ tg.slots) P Rx hw (items := w.items) hP h
  exact ⟨xs, S', by simp only [lcAll, lcR, hl, if_true, h1], h2, h3, h4⟩
end
section
variable {f : D → Env → Store → R (Option D)} {tg : Tg} {w : Walk} {ρ : Env} {S : Store} {F : R (List D)}
theorem lcAll_go (hF : lcAll f tg ρ w S = F) (P : Store → Prop) (Rx : D → Prop) (hw : w.held = []) (hl : w.items.length ≤ LIM) (hP : P S) (h : ∀ d ∈ w.items, ∀ S, P S → ∃ x S', f d (wipeE ρ tg.slots) S = .ok (some x) S' ∧ P S' ∧ Rx x) :
    ∃ xs S', F = .ok xs S' ∧ P S' ∧ (∀ x ∈ xs, Rx x) ∧ xs.length = w.items.length := by
  subst hF
  exact lcAll_run P Rx hw hl hP h
theorem lcAll_of {α : Type} (l : List α) (f0 g : α → D) (hF : lcAll f tg ρ w S = F) (hi : w.items = l.map f0) (hw : w.held = []) (hl : l.length ≤ LIM) (h : ∀ a ∈ l, f (f0 a) (wipeE ρ tg.slots) S = .ok (some (g a)) S) : F = .ok (l.map g) S := by
  subst hF
  have key : ∀ l : List α, (∀ a ∈ l, f (f0 a) (wipeE ρ tg.slots) S = .ok (some (g a)) S) → lcL f w (wipeE ρ tg.slots) (l.map f0) S = .ok (l.map g) S := by
    intro l
    have st : w.still S = true := by simp [Walk.still, hw]
    induction l with
    | nil => intro _; simp [lcL, st]
    | cons a l ih =>
      intro h
      have h1 := h a List.mem_cons_self
      simp only [List.map_cons, lcL, st, if_true, h1, ih fun x hx => h x (List.mem_cons_of_mem _ hx)]
  have hl' : w.items.length ≤ LIM := by rw [hi, List.length_map]; exact hl
  simp only [lcAll, lcR, hl', if_true]
  rw [hi]
  exact key l h
theorem lcAll_pass {α : Type} (l : List α) (f0 g : α → D) (p : α → Bool) (hF : lcAll f tg ρ w S = F) (hi : w.items = l.map f0) (hw : w.held = []) (hl : l.length ≤ LIM) (h : ∀ a ∈ l, f (f0 a) (wipeE ρ tg.slots) S = .ok (if p a then some (g a) else none) S) : F = .ok ((l.filter p).map g) S := by
  subst hF
  have key : ∀ l : List α, (∀ a ∈ l, f (f0 a) (wipeE ρ tg.slots) S = .ok (if p a then some (g a) else none) S) → lcL f w (wipeE ρ tg.slots) (l.map f0) S = .ok ((l.filter p).map g) S := by
    intro l
    have st : w.still S = true := by simp [Walk.still, hw]
    induction l with
    | nil => intro _; simp [lcL, st]
    | cons a l ih =>
      intro h
      have h1 := h a List.mem_cons_self
      have h2 := ih fun x hx => h x (List.mem_cons_of_mem _ hx)
      cases hp : p a with
      | true =>
        rw [hp, if_pos rfl] at h1
        simp only [List.map_cons, lcL, st, if_true, h1, h2, List.filter_cons, hp]
      | false =>
        rw [hp, if_neg (by decide)] at h1
        simp only [List.map_cons, lcL, st, if_true, h1, h2, List.filter_cons, hp, Bool.false_eq_true, if_false]
  have hl' : w.items.length ≤ LIM := by rw [hi, List.length_map]; exact hl
  simp only [lcAll, lcR, hl', if_true]
  rw [hi]
  exact key l h
end
theorem forS_go {b : Nat} {t : Tg} {body : Ss} {c : Ctx} {w : Walk} {items : List D} {ρ : Env} {S : Store} {F : RS} (hF : forS b t body c w items ρ S = F) (P : Env → Store → Prop) (hw : w.held = []) (hP : P ρ S)
    (h : ∀ d ∈ items, ∀ ρ S, P ρ S → ∃ ρ1, asg t d ρ = some ρ1 ∧ ∃ ρ2 S2, (exs b body c ρ1 S = .ok (.nx ρ2) S2 ∨ exs b body c ρ1 S = .ok (.ct ρ2) S2) ∧ P ρ2 S2) : ∃ ρ' S', F = .ok (.nx ρ') S' ∧ P ρ' S' := by
  subst hF
  have e : ∀ l : List D, foldE (fun (_ : Unit) _ => .inl ()) () l = .inl () := by
    intro l
    induction l with
    | nil => rfl
    | cons x l ih => exact ih
  have := forS_fold (α := Unit) (w := w) hw (fun _ => P) (fun _ _ => False) (fun _ _ => .inl ()) items () ρ S hP fun d hd _ ρ S hP => h d hd ρ S hP
  rw [e] at this
  exact this
def Goes (P : Env → Store → Prop) (Z : D → Store → Prop) : RS → Prop
  | .ok (.nx ρ) S => P ρ S
  | .ok (.ct ρ) S => P ρ S
  | .ok (.rt d) S => Z d S
  | _ => False
def noZ : D → Store → Prop := fun _ _ => False
theorem for_any {b : Nat} {t : Tg} {body : Ss} {c : Ctx} {w : Walk} (hw : w.held = []) (P : Nat → Env → Store → Prop) (Z : D → Store → Prop) : ∀ (items : List D) (k : Nat) (ρ : Env) (S : Store), P k ρ S →
    (∀ j d ρ S, items[j]? = some d → P (k + j) ρ S → ∃ ρ1, asg t d ρ = some ρ1 ∧ Goes (P (k + j + 1)) Z (exs b body c ρ1 S)) →
    (∃ ρ' S', forS b t body c w items ρ S = .ok (.nx ρ') S' ∧ P (k + items.length) ρ' S') ∨ ∃ r S', forS b t body c w items ρ S = .ok (.rt r) S' ∧ Z r S'
  | [], k, ρ, S, hP, _ => by
    have st : w.still S = true := by simp [Walk.still, hw]
    exact .inl ⟨ρ, S, by simp [forS, forL, st], hP⟩
  | d :: ds, k, ρ, S, hP, h => by
    have st : w.still S = true := by simp [Walk.still, hw]
    obtain ⟨ρ1, h1, h2⟩ := h 0 d ρ S rfl hP
    have on : ∀ ρ2 S2, (exs b body c ρ1 S = .ok (.nx ρ2) S2 ∨ exs b body c ρ1 S = .ok (.ct ρ2) S2) → P (k + 0 + 1) ρ2 S2 → (∃ ρ' S', forS b t body c w (d :: ds) ρ S = .ok (.nx ρ') S' ∧ P (k + (d :: ds).length) ρ' S') ∨ ∃ r S', forS b t body c w (d :: ds) ρ S = .ok (.rt r) S' ∧ Z r S' := by
      intro ρ2 S2 h3 h4
      have ih := for_any (t := t) (body := body) (c := c) (b := b) hw P Z ds (k + 1) ρ2 S2 h4 fun j x ρ S hx hp => by
        have := h (j + 1) x ρ S hx (by rw [show k + (j + 1) = k + 1 + j by omega]; exact hp)
        rw [show k + (j + 1) = k + 1 + j by omega] at this
        exact this
      have e : forS b t body c w (d :: ds) ρ S = forS b t body c w ds ρ2 S2 := by
        rcases h3 with h3 | h3 <;> simp only [forS, forL, st, if_true, h1, h3]
      rw [e, List.length_cons, show k + (ds.length + 1) = k + 1 + ds.length by omega]
      exact ih
    cases hr : exs b body c ρ1 S with
    | ok f S2 =>
      rw [hr] at h2
      cases f with
      | nx ρ2 => exact on ρ2 S2 (.inl hr) h2
      | ct ρ2 => exact on ρ2 S2 (.inr hr) h2
      | rt r => exact .inr ⟨r, S2, by simp only [forS, forL, st, if_true, h1, hr], h2⟩
      | bk _ => exact h2.elim
    | err _ _ _ _ _ => rw [hr] at h2; exact h2.elim
    | bad => rw [hr] at h2; exact h2.elim
theorem for_or {b : Nat} {t : Tg} {body : Ss} {c : Ctx} {w : Walk} {items : List D} {ρ : Env} {S : Store} {F : RS} (hF : forS b t body c w items ρ S = F) (P : Nat → Env → Store → Prop) (Z : D → Store → Prop) (hw : w.held = []) (hP : P 0 ρ S)
    (h : ∀ k d ρ S, items[k]? = some d → P k ρ S → ∃ ρ1, asg t d ρ = some ρ1 ∧ ∀ Q : RS → Prop, (∀ ρ2 S2, P (k + 1) ρ2 S2 → Q (.ok (.nx ρ2) S2)) → (∀ ρ2 S2, P (k + 1) ρ2 S2 → Q (.ok (.ct ρ2) S2)) → (∀ r S2, Z r S2 → Q (.ok (.rt r) S2)) → Q (exs b body c ρ1 S)) :
    (∃ ρ' S', F = .ok (.nx ρ') S' ∧ P items.length ρ' S') ∨ ∃ r S', F = .ok (.rt r) S' ∧ Z r S' := by
  subst hF
  have := for_any (t := t) (body := body) (c := c) (b := b) hw P Z items 0 ρ S hP fun j d ρ S hd hp => by
    rw [Nat.zero_add] at hp ⊢
    obtain ⟨ρ1, h1, h2⟩ := h j d ρ S hd hp
    exact ⟨ρ1, h1, h2 (Goes (P (j + 1)) Z) (fun _ _ z => z) (fun _ _ z => z) fun _ _ z => z⟩
  rwa [Nat.zero_add] at this
theorem for_at {b : Nat} {t : Tg} {body : Ss} {c : Ctx} {w : Walk} {items : List D} {ρ : Env} {S : Store} {F : RS} (hF : forS b t body c w items ρ S = F) (P : Nat → Env → Store → Prop) (hw : w.held = []) (hP : P 0 ρ S)
    (h : ∀ k d ρ S, items[k]? = some d → P k ρ S → ∃ ρ1, asg t d ρ = some ρ1 ∧ ∀ Q : RS → Prop, (∀ ρ2 S2, P (k + 1) ρ2 S2 → Q (.ok (.nx ρ2) S2)) → (∀ ρ2 S2, P (k + 1) ρ2 S2 → Q (.ok (.ct ρ2) S2)) → Q (exs b body c ρ1 S)) : ∃ ρ' S', F = .ok (.nx ρ') S' ∧ P items.length ρ' S' := by
  rcases for_or hF P noZ hw hP (fun k d ρ S hd hp => by
    obtain ⟨ρ1, h1, h2⟩ := h k d ρ S hd hp
    exact ⟨ρ1, h1, fun Q q1 q2 _ => h2 Q q1 q2⟩) with h | ⟨_, _, _, h⟩
  · exact h
  · exact h.elim
@[simp] theorem asg_one (i : Nat) (d : D) (ρ : Env) : asg (.one i) d ρ = some (ρ.set i (some d)) := (rfl)
theorem get_range {n k : Nat} {d : D} (h : ((List.range n).map fun (k : Nat) => D.int k)[k]? = some d) : d = .int k ∧ k < n := by
  rw [List.getElem?_map] at h
  obtain ⟨j, hj, rfl⟩ := Option.map_eq_some_iff.mp h
  obtain ⟨hk, e⟩ := List.getElem?_eq_some_iff.mp hj
  rw [List.length_range] at hk
  rw [List.getElem_range] at e
  exact ⟨by rw [e], hk⟩
def joinL (sep : List Nat) : List (List Nat) → List Nat
  | [] => []
  | x :: xs => x ++ xs.flatMap (sep ++ ·)
theorem join_eq (sep : List Nat) (ls : List (List Nat)) : tD (PySem.Txt.join (sT sep) (ls.map sT)) = .str (joinL sep ls) := by
  have key : ∀ (ls : List (List Nat)) (acc : Array Nat), ((ls.map sT).foldl (fun (acc : Array Nat) (p : Str) => acc ++ (sT sep).cps ++ p.cps) acc).toList = acc.toList ++ ls.flatMap (sep ++ ·) := by
    intro ls
    induction ls with
    | nil => intro acc; simp
    | cons x ls ih =>
      intro acc
      rw [List.map_cons, List.foldl_cons, ih]
      simp [sT]
  cases ls with
  | nil => rfl
  | cons x ls =>
    show D.str _ = D.str _
    congr 1
    exact key ls (sT x).cps
theorem joinL_nil (ls : List (List Nat)) : joinL [] ls = ls.flatten := by
  cases ls with
  | nil => rfl
  | cons x ls => simp [joinL, List.flatten_cons, List.flatMap_def]
theorem txts_strs : ∀ ls : List (List Nat), txts (ls.map .str) = some ls
  | [] => rfl
  | l :: ls => by simp [txts, txts_strs ls]
def Is (T : Text) (x : String) (g : Fn) : Prop := ∃ d, T.fns x = some d ∧ d.np = g.np ∧ d.names.length = g.names.length ∧ d.body = g.body ∧ d.keep = g.keep
theorem call_is {T : Text} {x : String} {g : Fn} {n : Nat} {give : Bool} {args : List D} {b : Nat} {S : Store} (h : Is T x g) (ha : args.length = g.np) :
    callN T (n + 1) x give args b S = fnRes g.keep give S.length (exs (if g.keep then b else S.length) g.body (ctxN T n) (g.start args) S) := by
  obtain ⟨d, h1, h2, h3, h4, h5⟩ := h
  rw [call_eq h1 (ha.trans h2.symm), run_res, h4, h5]
  unfold Fn.start
  rw [h2, h3]
end CL
namespace CL
open PySem PySem.Spec PyProof.Rows L2
def abc : List Nat := [97, 98, 99, 100, 101, 102, 103, 104, 105, 106, 107, 108, 109, 110, 111, 112, 113, 114, 115, 116, 117, 118, 119, 120, 121, 122]
def isNm (l : List Nat) : Bool := decide (1 ≤ l.length) && (decide (l.length ≤ 8) && (!(l == [111, 117, 116]) && (!(l == [121, 97, 114, 100]) && l.all fun ch => decide (ch ∈ abc))))
structure LawT0 (T : Text) : Prop where
  take : Is T "_law_take" Ulaw_take
  digits : Is T "_law_digits" Ulaw_digits
  words : Is T "_law_words" Ulaw_words
theorem mod_in (v m : Int) (h : 0 < m) : 0 ≤ v % m ∧ v % m < m := ⟨Int.emod_nonneg _ (by omega), Int.emod_lt_of_pos _ h⟩
section
variable {T : Text}
theorem take_sp0 (L : LawT0 T) (n i b : Nat) (S : Store) (v m : Int) (hi : i < S.length) (hm : 0 < m) (hm2 : m ≤ 1000000) : callN T (n + 1) "_law_take" false [.ref i, .int m] b (hold S i v) = .ok (.int (v % m)) (hold S i (v / m)) := by
  rw [call_is L.take rfl]
  have : m < 2 ^ 4000 := Int.lt_of_le_of_lt hm2 (by decide +kernel)
  simp [Ulaw_take, Fn.start, hi, bop, hm, this, storeK, putOk]
theorem digits_sp0 (L : LawT0 T) (n : Nat) (ns : List Int) (k : Nat) (b : Nat) (S : Store) : ∃ v, callN T (n + 1) "_law_digits" false [.scr ns, .int k] b S = .ok (.ref S.length) (hold (S ++ [.lst []]) S.length v) := by
  have hh : ∀ v : Int, hold (S ++ [.lst []]) S.length v = S ++ [.lst [.int v]] := fun v => by simp [hold]
  simp only [hh]
  rw [call_is L.digits rfl]
  obtain ⟨cell, hc⟩ : ∃ cell : Int, ev (ctxN T n) b (.ife (.cmp .lt (.var 1) (.bi .len (.cons (.var 0) .nil))) (.idx (.var 0) (.var 1)) (.int 0)) [some (.scr ns), some (.int k), none, none, none, none] S = .ok (.int cell) S := by
    by_cases h : k < ns.length
    · exact ⟨ns[k], by simp [fbD, lenD, cmpD, ltD, truD, idxD, h]⟩
    · exact ⟨0, by simp [fbD, lenD, cmpD, ltD, truD, idxD, h]⟩
  show ∃ v : Int, fnRes true false S.length (exs b Ulaw_digits.body (ctxN T n) [some (.scr ns), some (.int k), none, none, none, none] S) = R.ok (D.ref S.length) (S ++ [Cell.lst [D.int v]])
  unfold Ulaw_digits
  dsimp only
  rw [exs_cons, x_set, hc]
  by_cases h : cell < 10 ^ 18
  · have h' : ¬ (1000000000000000000 : Int) ≤ cell := by omega
    have h2 : decide (cell < 1000000000000000000) = true := by simpa using h
    simp [bop, cmpD, ltD, h2, ranges]
    generalize hF : forS _ _ _ _ _ _ _ _ = F
    obtain ⟨ρ', S', rfl, rfl, t, m, x, _, _, rfl⟩ := forS_go hF (fun ρ S' => S' = S ∧ ∃ (t m : Int) (x : Option D), 0 ≤ m ∧ m < 2147483647 ∧ ρ = [some (.scr ns), some (.int k), some (.int cell), some (.int t), some (.int m), x]) rfl ⟨rfl, _, _, _, Int.emod_nonneg _ (by decide), Int.emod_lt_of_pos _ (by decide), rfl⟩ (by
      rintro d hd ρ S' ⟨rfl, t, m, x, h1, h2, rfl⟩
      obtain ⟨j, rfl⟩ : ∃ j : Int, d = .int j := by
        simp only [List.mem_map] at hd
        obtain ⟨j, _, rfl⟩ := hd
        exact ⟨j, rfl⟩
      have hm : m.natAbs < 18446744073709551616 := by omega
      exact ⟨_, asg_one _ _ _, [some (.scr ns), some (.int k), some (.int cell), some (.int (t * 2147483587 + (m * m + 48271 * m + j) % 2147483629 * 69621 % 2147483587)), some (.int ((m * m + 48271 * m + j) % 2147483629)), some (.int j)], _, .inl (by simp [bop, hm]), rfl, _, _, _, Int.emod_nonneg _ (by decide), Int.lt_trans (Int.emod_lt_of_pos _ (by decide)) (by decide), rfl⟩)
    exact ⟨t, by simp⟩
  · have h2 : decide (cell < 1000000000000000000) = false := by simpa using h
    refine ⟨cell - 10 ^ 18, ?_⟩
    simp [bop, cmpD, ltD, h2]
end
end CL
namespace CL
open PySem PySem.Spec PyProof.Rows L2
def low : List Nat := [97, 98, 99, 100, 101, 102, 103, 104, 105, 106, 107, 108, 109]
def wordsL (ah be rot : List Nat) (many : Nat) : List (List Nat) := ((rot.map fun s => ah ++ [s] ++ be) ++ (rot.map fun s => ah ++ [s] ++ be ++ [122])).take many
theorem words_ok (ah be rot : List Nat) (many : Nat) (h1 : ∀ x ∈ ah, x ∈ low) (h2 : ∀ x ∈ be, x ∈ low) (h3 : ah.length + be.length ≤ 6) (hr : rot.Perm abc) :
    (wordsL ah be rot many).length = min many 52 ∧ (wordsL ah be rot many).Nodup ∧ ∀ l ∈ wordsL ah be rot many, isNm l = true := by
  have hl : rot.length = 26 := hr.length_eq
  have hnd : rot.Nodup := hr.nodup_iff.mpr (by decide)
  have hm : ∀ x, x ∈ rot ↔ x ∈ abc := fun x => hr.mem_iff
  have low_le : ∀ x ∈ low, x ≤ 109 := by decide
  have low_abc : ∀ x ∈ low, x ∈ abc := by decide
  have cnt : ∀ l : List Nat, (∀ x ∈ l, x ∈ low) → l.countP (fun x => decide (109 < x)) = 0 := fun l hl => by
    rw [List.countP_eq_zero]
    intro x hx
    have := low_le x (hl x hx)
    simp; omega
  have nm : ∀ s ∈ rot, ∀ z : List Nat, (z = [] ∨ z = [122]) → isNm (ah ++ [s] ++ be ++ z) = true := by
    intro s hs z hz
    have ha : ∀ x ∈ ah ++ [s] ++ be ++ z, x ∈ abc := by
      intro x hx
      simp only [List.mem_append, List.mem_singleton] at hx
      rcases hx with ((hx | rfl) | hx) | hx
      · exact low_abc x (h1 x hx)
      · exact (hm x).mp hs
      · exact low_abc x (h2 x hx)
      · rcases hz with rfl | rfl
        · cases hx
        · rw [List.mem_singleton.mp hx]; decide
    have n1 : ah ++ [s] ++ be ++ z ≠ [111, 117, 116] := by
      intro e
      rcases hz with rfl | rfl
      · have := congrArg (List.countP fun x => decide (109 < x)) e
        simp only [List.countP_append, cnt ah h1, cnt be h2, List.append_nil] at this
        have h4 : List.countP (fun x => decide (109 < x)) [s] ≤ 1 := List.countP_le_length
        have h5 : List.countP (fun x => decide (109 < x)) [111, 117, 116] = 3 := by decide
        omega
      · have := congrArg List.getLast? e
        rw [List.getLast?_concat] at this
        cases this
    have n2 : ah ++ [s] ++ be ++ z ≠ [121, 97, 114, 100] := by
      intro e
      rcases hz with rfl | rfl
      · have := congrArg (List.countP fun x => decide (109 < x)) e
        simp only [List.countP_append, cnt ah h1, cnt be h2, List.append_nil] at this
        have h4 : List.countP (fun x => decide (109 < x)) [s] ≤ 1 := List.countP_le_length
        have h5 : List.countP (fun x => decide (109 < x)) [121, 97, 114, 100] = 2 := by decide
        omega
      · have := congrArg List.getLast? e
        rw [List.getLast?_concat] at this
        cases this
    have hz2 : z.length ≤ 1 := by rcases hz with rfl | rfl <;> simp
    unfold isNm
    simp only [Bool.and_eq_true, decide_eq_true_eq, Bool.not_eq_true', beq_eq_false_iff_ne, List.all_eq_true]
    refine ⟨?_, ?_, n1, n2, ha⟩
    · simp only [List.length_append, List.length_singleton]; omega
    · simp only [List.length_append, List.length_singleton]; omega
  refine ⟨?_, ?_, ?_⟩
  · simp [wordsL, hl]
  · refine (List.nodup_append.mpr ⟨?_, ?_, ?_⟩).sublist (List.take_sublist _ _)
    · exact List.Pairwise.map _ (fun a b hab e => hab (by simpa using e)) hnd
    · exact List.Pairwise.map _ (fun a b hab e => hab (by simpa using e)) hnd
    · intro x hx y hy e
      simp only [List.mem_map] at hx hy
      obtain ⟨s, _, rfl⟩ := hx
      obtain ⟨t, _, rfl⟩ := hy
      have := congrArg List.length e
      simp only [List.length_append, List.length_singleton] at this
      omega
  · intro l hl
    have := List.mem_of_mem_take hl
    simp only [List.mem_append, List.mem_map] at this
    rcases this with ⟨s, hs, rfl⟩ | ⟨s, hs, rfl⟩
    · simpa using nm s hs [] (.inl rfl)
    · simpa using nm s hs [122] (.inr rfl)
theorem cut_lo (l : List Nat) (i : Int) (h : 0 ≤ i) (h2 : i ≤ l.length) : cutL l (some i) none = l.drop i.toNat := by
  unfold cutL clipI
  have : ¬ i < 0 := by omega
  simp only [this, if_false]
  rw [Nat.min_eq_left (by omega), List.take_of_length_le (by simp)]
theorem cut_hi {α : Type} (l : List α) (i : Int) (h : 0 ≤ i) : cutL l none (some i) = l.take i.toNat := by
  unfold cutL clipI
  have : ¬ i < 0 := by omega
  simp only [this, if_false, List.drop_zero, Nat.sub_zero]
  by_cases q : i.toNat ≤ l.length
  · rw [Nat.min_eq_left q]
  · rw [Nat.min_eq_right (by omega), List.take_of_length_le (by omega), List.take_of_length_le (by omega)]
theorem join_ones (w : List Nat) (h : w.length ≤ 1000) : mbD .join (.str []) [.lst (w.map fun ch => .str [ch])] = some (.str w) := by
  have t : txts (w.map fun ch => .str [ch]) = some (w.map fun ch => [ch]) := by
    rw [← txts_strs, List.map_map]
    rfl
  have fl : (w.map fun ch => [ch]).flatten = w := by
    clear t h
    induction w with
    | nil => rfl
    | cons x w ih => simp [ih]
  have sm : ((w.map fun ch => [ch]).map List.length).sum = w.length := by
    clear t fl h
    induction w with
    | nil => rfl
    | cons x w ih => simp at ih ⊢; omega
  simp only [mbD, t]
  rw [if_pos (by rw [sm, List.length_nil, Nat.mul_zero]; exact lim_of (by omega)), join_eq, joinL_nil, fl]
section
variable {T : Text}
theorem words_sp0 (L : LawT0 T) (n i b : Nat) (S : Store) (v : Int) (many : Nat) (hi : i < S.length) : ∃ (ls : List (List Nat)) (v' : Int), callN T (n + 2) "_law_words" false [.ref i, .int many] b (hold S i v) = .ok (.lst (ls.map .str)) (hold S i v') ∧ ls.length = min many 52 ∧ ls.Nodup ∧ ∀ l ∈ ls, isNm l = true := by
  have k7 := mod_in v 7 (by decide)
  suffices H : ∀ Q : R D → Prop, (∀ (ah be rot : List Nat) (v' : Int), (∀ x ∈ ah, x ∈ low) → (∀ x ∈ be, x ∈ low) → ah.length + be.length ≤ 6 → rot.Perm abc → Q (.ok (.lst ((wordsL ah be rot many).map .str)) (hold S i v'))) → Q (callN T (n + 2) "_law_words" false [.ref i, .int many] b (hold S i v)) from
    H (fun r => ∃ (ls : List (List Nat)) (v' : Int), r = .ok (.lst (ls.map .str)) (hold S i v') ∧ ls.length = min many 52 ∧ ls.Nodup ∧ ∀ l ∈ ls, isNm l = true) fun ah be rot v' h1 h2 h3 h4 => ⟨_, v', rfl, words_ok ah be rot many h1 h2 h3 h4⟩
  intro Q hQ
  rw [call_is L.words rfl]
  have r1 : -10000000 ≤ 1 + v % 7 ∧ 1 + v % 7 ≤ 10000000 := by omega
  simp [Ulaw_words, Fn.start, take_sp0 L, hi, bop, ranges, kindD, mbId, r1]
  generalize hF : lcAll _ _ _ _ _ = F
  obtain ⟨xs, _, rfl, ⟨v1, rfl⟩, g1, g2⟩ := lcAll_go hF (fun S' => ∃ x, S' = hold S i x) (fun d => ∃ ch, d = .str [ch] ∧ ch ∈ low) rfl (lim_of (by simp; omega)) ⟨_, rfl⟩ (by
    rintro d hd _ ⟨x, rfl⟩
    have h13 := mod_in x 13 (by decide)
    obtain ⟨ch, c1, c2, _⟩ := at_in low (x % 13) h13.1 h13.2
    unfold low at c1
    exact ⟨.str [ch], hold S i (x / 13), by simp [take_sp0 L, hi, idxD, LIM, -at_pos, c1, Tg.slots, wipeE], ⟨_, rfl⟩, ch, rfl, c2⟩)
  simp only [List.length_map, List.length_range] at g2
  obtain ⟨w, rfl, hw⟩ : ∃ w : List Nat, xs = w.map (fun ch => .str [ch]) ∧ ∀ ch ∈ w, ch ∈ low := by
    clear hF g2
    induction xs with
    | nil => exact ⟨[], rfl, by simp⟩
    | cons x xs ih =>
      obtain ⟨w, rfl, h⟩ := ih fun y hy => g1 y (List.mem_cons_of_mem _ hy)
      obtain ⟨ch, rfl, hc⟩ := g1 x List.mem_cons_self
      exact ⟨ch :: w, rfl, by simpa using ⟨hc, h⟩⟩
  simp only [List.length_map] at g2
  have hwl : 1 ≤ w.length ∧ w.length ≤ 7 := by omega
  have hL : w.length ≤ 10000000 := by omega
  have hL2 : w.length ≤ 1000 := by omega
  have mj := join_ones w (by omega)
  have w1 : (0 : Int) < w.length := by omega
  have w2 : (w.length : Int) ≤ 1000000 := by omega
  have m1 := mod_in v1 w.length w1
  have m2 := mod_in (v1 / w.length) 26 (by decide)
  have ca : cutL w none (some (v1 % w.length)) = w.take (v1 % w.length).toNat := cut_hi _ _ m1.1
  have cb : cutL w (some (v1 % w.length + 1)) none = w.drop (v1 % w.length + 1).toNat := cut_lo _ _ (by omega) (by omega)
  have cc : cutL abc (some (v1 / w.length % 26)) none = abc.drop (v1 / w.length % 26).toNat := cut_lo _ _ m2.1 (by have : abc.length = 26 := rfl; omega)
  have cd : cutL abc none (some (v1 / w.length % 26)) = abc.take (v1 / w.length % 26).toNat := cut_hi _ _ m2.1
  have tk := fun x b => take_sp0 L n i b S x w.length hi w1 w2
  have hp : (abc.drop (v1 / w.length % 26).toNat ++ abc.take (v1 / w.length % 26).toNat).Perm abc := List.perm_append_comm.trans (by rw [List.take_append_drop])
  obtain ⟨rot, hrot⟩ : ∃ rot, rot = abc.drop (v1 / w.length % 26).toNat ++ abc.take (v1 / w.length % 26).toNat := ⟨_, rfl⟩
  have rt : bop .add (.str (abc.drop (v1 / w.length % 26).toNat)) (.str (abc.take (v1 / w.length % 26).toNat)) = some (.str rot) := by
    have a1 : (abc.drop (v1 / w.length % 26).toNat).length ≤ 1000 := by rw [List.length_drop]; have : abc.length = 26 := rfl; omega
    have a2 : (abc.take (v1 / w.length % 26).toNat).length ≤ 1000 := by rw [List.length_take]; have : abc.length = 26 := rfl; omega
    rw [bop_add_str _ _ a1 a2, hrot]
  rw [← hrot] at hp
  clear hrot
  have ha : ∀ x ∈ w.take (v1 % w.length).toNat, x ∈ low := fun x hx => hw x (List.mem_of_mem_take hx)
  have hb : ∀ x ∈ w.drop (v1 % w.length + 1).toNat, x ∈ low := fun x hx => hw x (List.mem_of_mem_drop hx)
  have hab : (w.take (v1 % w.length).toNat).length + (w.drop (v1 % w.length + 1).toNat).length ≤ 6 := by
    rw [List.length_take, List.length_drop]; omega
  unfold abc at cc cd rt
  simp [bmD, MB.writes, mj, tk, kindD, vw, hL, fbD, lenD, take_sp0 L, hi, w1, w2, slD, ca, cb, cc, cd, LIM, rt, walkD]
  generalize (v1 / w.length / 26) = v2 at *
  generalize w.take (v1 % w.length).toNat = ah at *
  generalize w.drop (v1 % w.length + 1).toNat = be at *
  have hrl : rot.length = 26 := hp.length_eq
  generalize hF : lcAll _ _ _ _ _ = F
  have e := lcAll_of rot (fun c => .str [c]) (fun c => .str (ah ++ [c] ++ be)) hF rfl rfl (lim_of (by omega)) (by
    intro s _
    simp [wipeE, Tg.slots, bop_add_str, (show ah.length ≤ 1000 by omega), (show ah.length + 1 ≤ 1000 by omega), (show be.length ≤ 1000 by omega)])
  clear hF
  subst e
  simp [walkD, listD]
  generalize hF : lcAll _ _ _ _ _ = F
  have e := lcAll_of rot (fun c => .str (ah ++ [c] ++ be)) (fun c => .str (ah ++ [c] ++ be ++ [122])) hF (by simp) rfl (lim_of (by omega)) (by
    intro s _
    simp [wipeE, Tg.slots, bop_add_str, (show ah.length + (be.length + 1) ≤ 1000 by omega)])
  clear hF
  subst e
  simp [bop_add_lst, hrl, slD]
  have fe : cutL (List.map (fun c => D.str (ah ++ c :: be)) rot ++ List.map (fun c => D.str (ah ++ c :: (be ++ [122]))) rot) none (some (many : Int)) = (wordsL ah be rot many).map .str := by
    rw [cut_hi _ _ (Int.natCast_nonneg _), Int.toNat_natCast]
    simp [wordsL, List.map_take, Function.comp_def]
  rw [fe]
  simpa using hQ ah be rot v2 ha hb hab hp
end
end CL
namespace CL
open PySem PySem.Spec PyProof.Rows L2
abbrev Lane := List Nat × Int
abbrev Kind := List Nat × List Int × List Int
structure Plan where
  lanes : List Lane
  kinds : List Kind
def laneD (l : Lane) : D := .tup [.str l.1, .int l.2]
def kndD (k : Kind) : D := .tup [.str k.1, .way (k.2.1.map .int), .tup (k.2.2.map .int)]
def planD (p : Plan) : D := .tup [.tup (p.lanes.map laneD), .tup (p.kinds.map kndD)]
@[simp] theorem lim_lanes (n : Nat) (l : List Lane) : D.limL n (l.map laneD) = true := limL_all.mpr fun d hd => by
  obtain ⟨x, _, rfl⟩ := List.mem_map.mp hd
  simp [laneD]
@[simp] theorem lim_kinds (n : Nat) (l : List Kind) : D.limL n (l.map kndD) = true := limL_all.mpr fun d hd => by
  obtain ⟨x, _, rfl⟩ := List.mem_map.mp hd
  simp [kndD]
@[simp] theorem lim_plan (n : Nat) (p : Plan) : D.lim n (planD p) = true := by simp [planD]
def bdOk (i : Int) : Prop := 1 ≤ i ∧ i ≤ 99
structure KindOk (n : Nat) (k : Kind) : Prop where
  nm : isNm k.1 = true
  ne : k.2.1 ≠ []
  up : k.2.1.Pairwise (· < ·)
  lo : ∀ x ∈ k.2.1, 0 ≤ x ∧ x < n
  len : k.2.2.length = k.2.1.length
  bd : ∀ x ∈ k.2.2, bdOk x
structure PlanOk (p : Plan) : Prop where
  l1 : 1 ≤ p.lanes.length
  l2 : p.lanes.length ≤ 6
  ln : (p.lanes.map (·.1)).Nodup
  lm : ∀ l ∈ p.lanes, isNm l.1 = true ∧ bdOk l.2
  k1 : 1 ≤ p.kinds.length
  k2 : p.kinds.length ≤ 6
  kn : (p.kinds.map (·.1)).Nodup
  km : ∀ k ∈ p.kinds, KindOk p.lanes.length k
end CL
namespace CL
open PySem PySem.Spec PyProof.Rows L2
mutual
def D.small : D → Bool
  | .non => true
  | .bl _ => true
  | .int _ => true
  | .str l => decide (l.length ≤ 1000)
  | .tup ds => decide (ds.length ≤ 1000) && D.smallL ds
  | .lst ds => decide (ds.length ≤ 1000) && D.smallL ds
  | .way ds => decide (ds.length ≤ 1000) && D.smallL ds
  | _ => false
def D.smallL : List D → Bool
  | [] => true
  | d :: ds => d.small && D.smallL ds
end
def nmD : D → Bool
  | .str l => isNm l
  | _ => false
section
variable {T : Text}
theorem small_str {d : D} (h : d.small = true) (c : Ctx) (S : Store) : (∃ l, d = .str l ∧ l.length ≤ 1000) ∨ (isaAny c (vw S d) ["str"] = some false ∧ nmD d = false) := by
  cases d with
  | str l => exact .inl ⟨l, rfl, by simpa [D.small] using h⟩
  | ref i => simp [D.small] at h
  | _ => first | exact .inr ⟨rfl, rfl⟩ | simp [D.small] at h
end
end CL
namespace CL
open PySem PySem.Spec PyProof.Rows L2
def ctxX (T : Text) (n : Nat) (x : String × List String × List D) : Ctx := { ctxN T n with exc := some x }
def tryR (r : RS) (C : String) (as : Option Nat) (h els : Ss) (c : Ctx) (b : Nat) : RS := RS.tried r (fun X => c.isx X C) as (fun X ns ds ρ1 S1 => exs b h (match as with | some _ => { c with exc := some (X, ns, ds) } | none => c) ρ1 S1) (fun ρ1 S1 => exs b els c ρ1 S1)
def calmR (i : Nat) (r : RS) : RS := r.calm.forget i
section
variable {T : Text} {n b : Nat} {ρ : Env} {S : Store} {c : Ctx}
@[simp] theorem x_try (body : Ss) (C : String) (as : Option Nat) (h els : Ss) : exS b (.try_ body C as h els) c ρ S = tryR (exs b body c ρ S) C as h els c b := by simp only [exS]; rfl
def tryNR (r : RS) (els : Ss) (c : Ctx) (b : Nat) : RS := RS.tried r (fun _ => none) none (fun _ _ _ _ _ => .bad) (fun ρ1 S1 => exs b els c ρ1 S1)
@[simp] theorem x_tryN (body els : Ss) : exS b (.tryN body els) c ρ S = tryNR (exs b body c ρ S) els c b := by simp only [exS]; rfl
@[simp] theorem tryNR_ok (f : Fl) (els : Ss) : tryNR (.ok f S) els c b = seqR (.ok f S) b els c := (rfl)
@[simp] theorem tryR_ok (f : Fl) (C : String) (as : Option Nat) (h els : Ss) : tryR (.ok f S) C as h els c b = seqR (.ok f S) b els c := (rfl)
theorem tryR_as {X : String} {ns : List String} {ds : List D} {C : String} {i : Nat} (h els : Ss) (hx : T.isx X C = some true) (hi : i < ρ.length) : tryR (.err X ns ds ρ S) C (some i) h els (ctxN T n) b = calmR i (exs b h (ctxX T n (X, ns, ds)) (ρ.set i none) S) := by
  have hx' : (ctxN T n).isx X C = some true := hx
  simp only [tryR, RS.tried, hx', hi, if_true]
  rfl
@[simp] theorem calmR_nx (i : Nat) : calmR i (.ok (.nx ρ) S) = .ok (.nx (ρ.set i none)) S := (rfl)
@[simp] theorem calmR_rt (i : Nat) (d : D) : calmR i (.ok (.rt d) S) = .ok (.rt d) S := (rfl)
@[simp] theorem ctxX_con (x : String × List String × List D) (g : String) : (ctxX T n x).con g = T.con g := (rfl)
@[simp] theorem kcallX_eq (x : String × List String × List D) (f : String) (g : Bool) (ds : List D) : kcall (ctxX T n x) b f g S ds = callN T n f g ds b S := (rfl)
theorem isxAnyX (x : String × List String × List D) (X : String) : ∀ cs : List String, isxAny (ctxX T n x) X cs = isxAny (ctxN T n) X cs
  | [] => rfl
  | C :: r => by
    have e : (ctxX T n x).isx X C = (ctxN T n).isx X C := rfl
    rw [isxAny, isxAny, e, isxAnyX x X r]
@[simp] theorem ev_xis (x : String × List String × List D) (cs : List String) (t : Bool) : ev (ctxX T n x) b (.xis cs t) ρ S = R.of S ((isxAny (ctxN T n) x.1 cs).map .bl) := by
  simp only [ev, ctxX]
  rw [← isxAnyX x]
  rfl
@[simp] theorem ev_xfld (x : String × List String × List D) (f : String) : ev (ctxX T n x) b (.xfld f) ρ S = R.of S (fldD f x.2.1 x.2.2) := by
  simp only [ev, ctxX]
theorem raise_one {C f : String} (hn : 2 ≤ n) (hx : T.ex C = some (some [f])) (d : D) : raiseR (.ok [d] S) C (ctxN T n) ρ = .err C [f] [d] ρ S := by
  have hd : (ctxN T n).deep = true := by simp only [ctxN, ctxOf]; exact decide_eq_true hn
  have he : (ctxN T n).ex C = some (some [f]) := hx
  simp [raiseR, hd, R.then, he, exFields]
end
theorem for_find {α : Type} {b : Nat} {t : Tg} {body : Ss} {c : Ctx} {w : Walk} {S : Store} (l : List α) (f0 g : α → D) (p : α → Bool) (P : Env → Prop) (hw : w.held = []) : ∀ {ρ : Env} {F : RS}, forS b t body c w (l.map f0) ρ S = F → P ρ →
    (∀ a ∈ l, ∀ ρ, P ρ → ∃ ρ1, asg t (f0 a) ρ = some ρ1 ∧ ∀ Q : RS → Prop, (∀ ρ2, P ρ2 → p a = false → Q (.ok (.nx ρ2) S)) → (p a = true → Q (.ok (.rt (g a)) S)) → Q (exs b body c ρ1 S)) →
    (∃ a, l.find? p = some a ∧ F = .ok (.rt (g a)) S) ∨ (l.find? p = none ∧ ∃ ρ', F = .ok (.nx ρ') S ∧ P ρ') := by
  induction l with
  | nil =>
    intro ρ F hF hP _
    have st : w.still S = true := by simp [Walk.still, hw]
    exact .inr ⟨rfl, ρ, by rw [← hF]; simp [forS, forL, st], hP⟩
  | cons a l ih =>
    intro ρ F hF hP h
    have st : w.still S = true := by simp [Walk.still, hw]
    obtain ⟨ρ1, h1, h2⟩ := h a List.mem_cons_self ρ hP
    rw [List.find?_cons]
    refine h2 (fun r => exs b body c ρ1 S = r → _) (fun ρ2 hp hq e => ?_) (fun hq e => ?_) rfl
    · rw [hq]
      refine ih ?_ hp fun x hx => h x (List.mem_cons_of_mem _ hx)
      rw [← hF]
      simp only [forS, List.map_cons, forL, st, if_true, h1, e]
    · rw [hq]
      refine .inl ⟨a, rfl, ?_⟩
      rw [← hF]
      simp only [forS, List.map_cons, forL, st, if_true, h1, e]
theorem nm_len {l : List Nat} (h : isNm l = true) : l.length ≤ 8 := by
  unfold isNm at h
  simp only [Bool.and_eq_true, decide_eq_true_eq] at h
  exact h.2.1
@[simp] theorem ev_hcallX {T : Text} {n b : Nat} {ρ : Env} {S : Store} (x : String × List String × List D) (f : String) : ev (ctxX T n x) b (.hcall f) ρ S = (callsN T n).hcall f x b S := by
  simp only [ev]
  rfl
end CL
namespace CL
open PySem PySem.Spec PyProof.Rows L2
def kindAt (p : Plan) (l : List Nat) : Option Kind := p.kinds.find? fun k => k.1 == l
section
variable {T : Text}
def wayD (k : Kind) : D := .way (k.2.1.map .int)
end
end CL
namespace CL
open PySem PySem.Spec PyProof.Rows L2
@[simp] theorem vw_plan (S : Store) (p : Plan) : vw S (planD p) = planD p := (rfl)
@[simp] theorem vw_lane (S : Store) (l : Lane) : vw S (laneD l) = laneD l := (rfl)
@[simp] theorem vw_kind (S : Store) (k : Kind) : vw S (kndD k) = kndD k := (rfl)
@[simp] theorem idx_plan0 (p : Plan) : idxD (planD p) (.int 0) = some (.tup (p.lanes.map laneD)) := (rfl)
@[simp] theorem idx_plan1 (p : Plan) : idxD (planD p) (.int 1) = some (.tup (p.kinds.map kndD)) := (rfl)
@[simp] theorem idx_lane0 (l : Lane) : idxD (laneD l) (.int 0) = some (.str l.1) := (rfl)
@[simp] theorem idx_lane1 (l : Lane) : idxD (laneD l) (.int 1) = some (.int l.2) := (rfl)
@[simp] theorem idx_kind0 (k : Kind) : idxD (kndD k) (.int 0) = some (.str k.1) := (rfl)
@[simp] theorem idx_kind1 (k : Kind) : idxD (kndD k) (.int 1) = some (.way (k.2.1.map .int)) := (rfl)
@[simp] theorem idx_kind2 (k : Kind) : idxD (kndD k) (.int 2) = some (.tup (k.2.2.map .int)) := (rfl)
theorem datL_all {n : Nat} (hn : 0 < n) : ∀ {ds : List D}, (∀ d ∈ ds, d.dat (n - 1) = true) → D.datL n ds = true
  | [], _ => rfl
  | d :: ds, h => by
    simp only [D.datL, hn, decide_true, Bool.true_and, Bool.and_eq_true]
    exact ⟨h d List.mem_cons_self, datL_all hn fun e he => h e (List.mem_cons_of_mem _ he)⟩
theorem datL_map {α : Type} {n : Nat} (hn : 0 < n) (f : α → D) (l : List α) (h : ∀ a, (f a).dat (n - 1) = true) : D.datL n (l.map f) = true := datL_all hn fun d hd => by
  obtain ⟨a, _, rfl⟩ := List.mem_map.mp hd
  exact h a
@[simp] theorem datL_nil (n : Nat) : D.datL n [] = true := (rfl)
@[simp] theorem datL_cons (n : Nat) (d : D) (ds : List D) : D.datL (n + 1) (d :: ds) = (d.dat n && D.datL (n + 1) ds) := by
  simp [D.datL]
@[simp] theorem dat_str (n : Nat) (l : List Nat) : D.dat n (.str l) = true := by simp [D.dat]
@[simp] theorem dat_int (n : Nat) (i : Int) : D.dat n (.int i) = true := by simp [D.dat]
@[simp] theorem dat_bl (n : Nat) (t : Bool) : D.dat n (.bl t) = true := by simp [D.dat]
@[simp] theorem dat_non (n : Nat) : D.dat n .non = true := by simp [D.dat]
@[simp] theorem dat_tup (n : Nat) (ds : List D) : D.dat n (.tup ds) = D.datL n ds := by rw [D.dat]
@[simp] theorem dat_lst (n : Nat) (ds : List D) : D.dat n (.lst ds) = D.datL n ds := by rw [D.dat]
@[simp] theorem dat_way (n : Nat) (ds : List D) : D.dat n (.way ds) = D.datL n ds := by rw [D.dat]
@[simp] theorem datL_ints (n : Nat) (l : List Int) : D.datL (n + 1) (l.map .int) = true := datL_map (Nat.succ_pos _) _ _ fun _ => dat_int _ _
@[simp] theorem datL_txts (n : Nat) (l : List (List Nat)) : D.datL (n + 1) (l.map .str) = true := datL_map (Nat.succ_pos _) _ _ fun _ => dat_str _ _
@[simp] theorem dat_lane (n : Nat) (l : Lane) : D.dat (n + 1) (laneD l) = true := by simp [laneD]
@[simp] theorem dat_kind (n : Nat) (k : Kind) : D.dat (n + 2) (kndD k) = true := by simp [kndD]
theorem find_kind {l : List Kind} (hn : (l.map (·.1)).Nodup) {a : Kind} (h : a ∈ l) : (l.find? fun x => x.1 == a.1) = some a := by
  induction l with
  | nil => cases h
  | cons x l ih =>
    rw [List.map_cons, List.nodup_cons] at hn
    rw [List.find?_cons]
    rcases List.mem_cons.mp h with rfl | h
    · simp
    · have hm : a.1 ∈ l.map (·.1) := List.mem_map_of_mem h
      have hne : (x.1 == a.1) = false := by
        rw [beq_eq_false_iff_ne]
        intro e
        rw [e] at hn
        exact hn.1 hm
      simp only [hne]
      exact ih hn.2 h
theorem kindAt_some {p : Plan} (hp : PlanOk p) {a : Kind} (h : a ∈ p.kinds) : kindAt p a.1 = some a := find_kind hp.kn h
end CL
namespace CL
open PySem PySem.Spec PyProof.Rows L2
section
variable {c : Ctx} {b : Nat} {ρ : Env} {S S1 : Store} {d e : D}
def kway (S : Store) (ds : List D) : R D := .ok (.way ds) S
@[simp] theorem kway_eq (S : Store) (ds : List D) : kway S ds = .ok (.way ds) S := (rfl)
@[simp] theorem ev_wtup (es : Es) : ev c b (.wtup es) ρ S = evk (evs c b es ρ S) kway := by simp only [ev]; rfl
def krev (S : Store) (d : D) : R D := R.of S (revD (vw S d))
def krev1 (S : Store) (d : D) : R D := R.of S (rev1D (vw S d))
@[simp] theorem krev_eq (S : Store) (d : D) : krev S d = R.of S (revD (vw S d)) := (rfl)
@[simp] theorem krev1_eq (S : Store) (d : D) : krev1 S d = R.of S (rev1D (vw S d)) := (rfl)
@[simp] theorem ev_rev (x : E) : ev c b (.rev x) ρ S = ev1 (ev c b x ρ S) krev := by simp only [ev]; rfl
@[simp] theorem ev_rev1 (x : E) : ev c b (.rev1 x) ρ S = ev1 (ev c b x ρ S) krev1 := by simp only [ev]; rfl
@[simp] theorem revD_lst (ds : List D) : revD (.lst ds) = some (.lst ds.reverse) := (rfl)
@[simp] theorem rev1D_lst (ds : List D) : rev1D (.lst ds) = some (.lst (ds.drop 1).reverse) := (rfl)
def klrange (S : Store) (ds : List D) : R D := R.of S (lrangeD ds)
@[simp] theorem klrange_eq (S : Store) (ds : List D) : klrange S ds = R.of S (lrangeD ds) := (rfl)
@[simp] theorem ev_lrange (es : Es) : ev c b (.lrange es) ρ S = evk (evs c b es ρ S) klrange := by simp only [ev]; rfl
def sl3 (d : D) (i : Int) (r : R D) : R D := r.bind fun f S3 => match f with | .int j => R.of S3 (slD (some i) (some j) (vw S3 d)) | _ => .bad
def sl2 (d : D) (r : R D) (c : Ctx) (b : Nat) (hi : E) (ρ : Env) : R D := r.bind fun e S2 => match e with | .int i => sl3 d i (ev c b hi ρ S2) | _ => .bad
def sl1 (r : R D) (c : Ctx) (b : Nat) (lo hi : E) (ρ : Env) : R D := r.bind fun d S1 => sl2 d (ev c b lo ρ S1) c b hi ρ
@[simp] theorem sl3_ok (d : D) (i j : Int) (S : Store) : sl3 d i (.ok (.int j) S) = R.of S (slD (some i) (some j) (vw S d)) := (rfl)
@[simp] theorem sl2_ok (d : D) (i : Int) (S : Store) (c : Ctx) (b : Nat) (hi : E) (ρ : Env) : sl2 d (.ok (.int i) S) c b hi ρ = sl3 d i (ev c b hi ρ S) := (rfl)
@[simp] theorem sl1_ok (d : D) (S : Store) (c : Ctx) (b : Nat) (lo hi : E) (ρ : Env) : sl1 (.ok d S) c b lo hi ρ = sl2 d (ev c b lo ρ S) c b hi ρ := (rfl)
@[simp] theorem ev_sl (x lo hi : E) : ev c b (.sl x lo hi) ρ S = sl1 (ev c b x ρ S) c b lo hi ρ := by
  first
    | (simp only [ev, sl1, sl2, sl3]; done)
    | (simp only [ev, sl1, sl2, sl3]
       cases ev c b x ρ S with
       | ok d S1 =>
         simp only [CL.R.bind]
         cases ev c b lo ρ S1 with
         | ok e S2 =>
           cases e with
           | int i =>
             simp only
             cases ev c b hi ρ S2 with
             | ok f S3 => cases f <;> rfl
             | err _ _ _ _ => rfl
             | bad => rfl
           | _ => rfl
         | err _ _ _ _ => rfl
         | bad => rfl
       | err _ _ _ _ => rfl
       | bad => rfl)
@[simp] theorem bop_mod (a m : Int) (h : 0 < m) : bop .mod (.int a) (.int m) = some (.int (a % m)) := if_pos h
def dic2 (k : D) (r : R D) : R D := r.calm.bind fun v S2 => dic1R k v S2
def dic1' (r : R D) (c : Ctx) (b : Nat) (y : E) (ρ : Env) : R D := r.calm.bind fun k S1 => dic2 k (ev c b y ρ S1)
@[simp] theorem dic2_ok (k v : D) (S : Store) : dic2 k (.ok v S) = dic1R k v S := (rfl)
@[simp] theorem dic1_ok (k : D) (S : Store) (c : Ctx) (b : Nat) (y : E) (ρ : Env) : dic1' (.ok k S) c b y ρ = dic2 k (ev c b y ρ S) := (rfl)
@[simp] theorem ev_dic1 (x y : E) : ev c b (.dic1 x y) ρ S = dic1' (ev c b x ρ S) c b y ρ := by simp only [ev]; rfl
def knsplit (z : Nat) (S : Store) (d : D) : R D := nsplitR z d S
@[simp] theorem knsplit_eq (z : Nat) (S : Store) (d : D) : knsplit z S d = nsplitR z d S := (rfl)
@[simp] theorem ev_nsplit (x : E) (z : Nat) : ev c b (.nsplit x z) ρ S = ev1 (ev c b x ρ S) (knsplit z) := by simp only [ev]; rfl
@[simp] theorem ev_dicS (l : List (List Nat × List Nat)) : ev c b (.dicS l) ρ S = .ok (.ref S.length) (S ++ [.dic false (conPairs l).1 (conPairs l).2]) := by simp only [ev]
def kdicU (l : List (List Nat × List Nat)) (S : Store) (d : D) : R D := dicUR l d S
@[simp] theorem kdicU_eq (l : List (List Nat × List Nat)) (S : Store) (d : D) : kdicU l S d = dicUR l d S := (rfl)
@[simp] theorem ev_dicU (x : E) (l : List (List Nat × List Nat)) : ev c b (.dicU x l) ρ S = ev1 (ev c b x ρ S) (kdicU l) := by simp only [ev]; rfl
def kdictP (S : Store) (d : D) : R D := dictPR (vw S d) S
@[simp] theorem kdictP_eq (S : Store) (d : D) : kdictP S d = dictPR (vw S d) S := (rfl)
@[simp] theorem ev_dictP (x : E) : ev c b (.dictP x) ρ S = ev1 (ev c b x ρ S) kdictP := by simp only [ev]; rfl
def ksdic (S : Store) (d : D) : R D := R.of S (sdicD (vw S d))
@[simp] theorem ksdic_eq (S : Store) (d : D) : ksdic S d = R.of S (sdicD (vw S d)) := (rfl)
@[simp] theorem ev_sdic (x : E) : ev c b (.sdic x) ρ S = ev1 (ev c b x ρ S) ksdic := by simp only [ev]; rfl
def kfld (c : Ctx) (f : String) (S : Store) (d : D) : R D := R.of S (fldOf c S f d)
@[simp] theorem kfld_eq (c : Ctx) (f : String) (S : Store) (d : D) : kfld c f S d = R.of S (fldOf c S f d) := (rfl)
@[simp] theorem ev_fld (x : E) (f : String) : ev c b (.fld x f) ρ S = ev1 (ev c b x ρ S) (kfld c f) := by simp only [ev]; rfl
theorem fldOf_ins (T : Text) (n : Nat) (S : Store) (f C : String) (ns : List String) (ds : List D) : fldOf (ctxN T n) S f (.ins C ns ds) = if T.flds C f then fldD f ns ds else none := (rfl)
def kmcall (c : Ctx) (b : Nat) (f : String) (g : Bool) (d : D) (S : Store) (ds : List D) : R D := c.call f g (d :: ds) b S
@[simp] theorem kmcall_eq (T : Text) (n b : Nat) (f : String) (g : Bool) (d : D) (S : Store) (ds : List D) : kmcall (ctxN T n) b f g d S ds = callN T n f g (d :: ds) b S := (rfl)
def methB (o : Option String) (d : D) (c : Ctx) (b : Nat) (g : Bool) (es : Es) (ρ : Env) (S : Store) : R D := match o with
  | some f => evk (evs c b es ρ S) (kmcall c b f g d)
  | none => .bad
def methR (r : R D) (c : Ctx) (b : Nat) (m : String) (g : Bool) (es : Es) (ρ : Env) : R D := r.bind fun d S1 => methB (methOf c S1 m d) d c b g es ρ S1
@[simp] theorem methB_some (f : String) (d : D) (c : Ctx) (b : Nat) (g : Bool) (es : Es) (ρ : Env) (S : Store) : methB (some f) d c b g es ρ S = evk (evs c b es ρ S) (kmcall c b f g d) := (rfl)
@[simp] theorem methR_ok (d : D) (S : Store) (c : Ctx) (b : Nat) (m : String) (g : Bool) (es : Es) (ρ : Env) : methR (.ok d S) c b m g es ρ = methB (methOf c S m d) d c b g es ρ S := (rfl)
@[simp] theorem methR_err (C : String) (ns : List String) (ds : List D) (S : Store) (c : Ctx) (b : Nat) (m : String) (g : Bool) (es : Es) (ρ : Env) : methR (.err C ns ds S) c b m g es ρ = .err C ns ds S := (rfl)
@[simp] theorem ev_meth (x : E) (m : String) (g : Bool) (es : Es) : ev c b (.meth x m g es) ρ S = methR (ev c b x ρ S) c b m g es ρ := by
  simp only [ev, methR]
  cases ev c b x ρ S with
  | ok d S1 =>
    show (match methOf c S1 m d with | some f => _ | none => _) = methB (methOf c S1 m d) d c b g es ρ S1
    cases methOf c S1 m d <;> rfl
  | err _ _ _ _ => rfl
  | bad => rfl
theorem methOf_ins (T : Text) (n : Nat) (S : Store) (m C : String) (ns : List String) (ds : List D) : methOf (ctxN T n) S m (.ins C ns ds) = if ns.contains m then none else T.meth C m := (rfl)
def makeN (T : Text) (n : Nat) (C : String) (ds : List D) (b : Nat) (S : Store) : R D := (callsN T n).made C ds b S
def kmake (c : Ctx) (b : Nat) (C : String) (S : Store) (ds : List D) : R D := c.make C ds b S
@[simp] theorem kmake_eq (T : Text) (n b : Nat) (C : String) (S : Store) (ds : List D) : kmake (ctxN T n) b C S ds = makeN T n C ds b S := (rfl)
@[simp] theorem ev_make (C : String) (es : Es) : ev c b (.make C es) ρ S = evk (evs c b es ρ S) (kmake c b C) := by simp only [ev]; rfl
theorem makeN_eq {T : Text} {C : String} {kind : Nat} {f : String} (h : T.cls C = some ⟨kind, some f⟩) (n : Nat) (ds : List D) (b : Nat) (S : Store) : makeN T (n + 1) C ds b S = makeK C kind (callN T n f) ds b S := by
  show makeD T (callsN T n).call C ds b S = _
  unfold makeD
  rw [h]
theorem make_fields {T : Text} {C : String} {f : String} (h : T.cls C = some ⟨0, some f⟩) (n : Nat) (ds : List D) (b : Nat) (S : Store) (ns : List String) (hl : D.limL S.length ds = true) (es : List D) (he : D.limL S.length es = true)
    (hi : callN T n f false (.ref S.length :: ds) S.length (S ++ [.ins C [] []]) = .ok .non (S ++ [.ins C ns es])) : makeN T (n + 1) C ds b S = .ok (.ins C ns es) S := by
  rw [makeN_eq h]
  have e0 : (if (0 : Nat) = 1 then b else S.length) = S.length := if_neg (by decide)
  unfold makeK
  rw [e0, hi]
  simp [he]
def kfldset (c : Ctx) (b : Nat) (f : String) (w : D) (ρ : Env) (S : Store) (d : D) : RS := match d with
  | .ref n => match S[n]? with
    | some (.ins C ns ds) => if c.fldOk C f && (putOk b n w && decide (ns.length < 900)) then .ok (.nx ρ) (S.set n (.ins C (putD f w ns ds).1 (putD f w ns ds).2)) else .bad
    | _ => .bad
  | _ => .bad
def ksetf (c : Ctx) (b : Nat) (x : E) (f : String) (ρ : Env) (S : Store) (w : D) : RS := thenK (ev c b x ρ S) ρ (kfldset c b f w)
@[simp] theorem ksetf_eq (c : Ctx) (b : Nat) (x : E) (f : String) (ρ : Env) (S : Store) (w : D) : ksetf c b x f ρ S w = thenK (ev c b x ρ S) ρ (kfldset c b f w) := (rfl)
@[simp] theorem x_setFld (x : E) (f : String) (v : E) : exS b (.setFld x f v) c ρ S = thenK (ev c b v ρ S) ρ (ksetf c b x f) := by
  simp only [exS]
  cases ev c b v ρ S with
  | ok w S1 =>
    show (ev c b x ρ S1).then ρ _ = thenK (ev c b x ρ S1) ρ _
    cases ev c b x ρ S1 with
    | ok d S2 => cases d <;> rfl
    | err _ _ _ _ => rfl
    | bad => rfl
  | err _ _ _ _ => rfl
  | bad => rfl
theorem fld_set (T : Text) (n b : Nat) {f C : String} {w : D} {ρ : Env} {S : Store} {i : Nat} {ns : List String} {ds : List D} (h : S[i]? = some (.ins C ns ds)) (hf : T.flds C f = true) (hp : putOk b i w = true) (hn : ns.length < 900) :
    kfldset (ctxN T n) b f w ρ S (.ref i) = .ok (.nx ρ) (S.set i (.ins C (putD f w ns ds).1 (putD f w ns ds).2)) := by
  unfold kfldset
  simp only [h]
  have : ((ctxN T n).fldOk C f && (putOk b i w && decide (ns.length < 900))) = true := by
    rw [show (ctxN T n).fldOk C f = true from hf, hp, decide_eq_true hn]
    rfl
  rw [if_pos this]
end
end CL
namespace CL
open PySem PySem.Spec PyProof.Rows L2
def lcQ {α : Type} (l : List α) (F : α → Store → R (Option D)) (S : Store) : R (List D) := if l.length ≤ LIM then go l S else .bad
where go : List α → Store → R (List D)
  | [], S => .ok [] S
  | a :: l, S => match F a S with
    | .ok none S1 => go l S1
    | .ok (some x) S1 => match go l S1 with
      | .ok xs S2 => .ok (x :: xs) S2
      | _ => .bad
    | _ => .bad
section
variable {α : Type} {tg : Tg} {ρ : Env} {S : Store}
theorem lcAll_q (f : D → Env → Store → R (Option D)) (l : List α) (f0 : α → D) : lcAll f tg ρ ⟨l.map f0, []⟩ S = lcQ l (fun a S' => f (f0 a) (wipeE ρ tg.slots) S') S := by
  unfold lcAll lcR lcQ
  simp only [List.length_map]
  split
  · have st : ∀ S, (Walk.mk (l.map f0) []).still S = true := fun S => rfl
    generalize (Walk.mk (l.map f0) []) = w at st
    generalize wipeE ρ tg.slots = ρ'
    induction l generalizing S with
    | nil => simp [lcL, st, lcQ.go]
    | cons a l ih =>
      rename_i hl
      have ih' := fun S => ih (S := S) (by rw [List.length_cons] at hl; omega)
      simp only [List.map_cons, lcL, st, if_true, lcQ.go]
      cases f (f0 a) ρ' S with
      | ok o S1 =>
        cases o with
        | none => exact ih' S1
        | some x =>
          simp only
          rw [ih' S1]
          all_goals (cases lcQ.go (fun a S' => f (f0 a) ρ' S') l S1 <;> rfl)
      | err C ns es S1 => rfl
      | bad => rfl
  · rfl
@[simp] theorem lcQ_map (l : List α) (g : α → D) (hl : l.length ≤ LIM) : lcQ l (fun a S' => .ok (some (g a)) S') S = .ok (l.map g) S := by
  unfold lcQ
  rw [if_pos hl]
  clear hl
  induction l with
  | nil => rfl
  | cons a l ih => simp only [lcQ.go, ih, List.map_cons]
@[simp] theorem lcQ_if (l : List α) (g : α → D) (p : α → Prop) [DecidablePred p] (hl : l.length ≤ LIM) : lcQ l (fun a S' => if p a then .ok (some (g a)) S' else .ok none S') S = .ok ((l.filter fun a => decide (p a)).map g) S := by
  unfold lcQ
  rw [if_pos hl]
  clear hl
  induction l with
  | nil => rfl
  | cons a l ih =>
    by_cases h : p a
    · simp only [lcQ.go, if_pos h, ih, List.filter_cons, h, decide_true, if_true, List.map_cons]
    · simp only [lcQ.go, if_neg h, ih, List.filter_cons, h, decide_false, Bool.false_eq_true, if_false]
@[simp] theorem lcQ_ifn (l : List α) (g : α → D) (p : α → Prop) [DecidablePred p] (hl : l.length ≤ LIM) : lcQ l (fun a S' => if p a then .ok none S' else .ok (some (g a)) S') S = .ok ((l.filter fun a => !decide (p a)).map g) S := by
  unfold lcQ
  rw [if_pos hl]
  clear hl
  induction l with
  | nil => rfl
  | cons a l ih =>
    by_cases h : p a
    · simp [lcQ.go, h, ih]
    · simp [lcQ.go, h, ih]
theorem lcQ_in (l : List α) (F G : α → Store → R (Option D)) (h : ∀ a, a ∈ l → ∀ S', F a S' = G a S') : lcQ l F S = lcQ l G S := by
  have key : ∀ (l : List α) (S : Store), (∀ a, a ∈ l → ∀ S', F a S' = G a S') → lcQ.go F l S = lcQ.go G l S := by
    intro l
    induction l with
    | nil => intro S _; rfl
    | cons a l ih =>
      intro S h
      simp only [lcQ.go, h a List.mem_cons_self, fun S => ih S fun b hb => h b (List.mem_cons_of_mem _ hb)]
  unfold lcQ
  rw [key l S h]
end
@[simp] theorem two2_if (t : Bool) (c : Ctx) (b : Nat) (elt : E) (ρ : Env) (S : Store) : two2 (some t) c b elt ρ S = if t = true then one1 (ev c b elt ρ S) else .ok none S := by
  cases t <;> rfl
theorem lim_ok {n : Nat} (h : n ≤ 1000) : n ≤ LIM := by unfold LIM; omega
end CL
namespace CL
open PySem PySem.Spec PyProof.Rows L2
structure Card where
  name : List Nat
  kind : List Nat
  place : Int
  blocked : Bool
  deriving DecidableEq
structure Wt where
  card : List Nat
  lane : Int
  other : List Nat
  deriving DecidableEq
structure Stand where
  bounds : List Int
  cards : List Card
  waits : List Wt
def cardD (c : Card) : D := .tup [.str c.name, .str c.kind, .int c.place, .bl c.blocked]
def waitD (w : Wt) : D := .tup [.str w.card, .int w.lane, .str w.other]
def standD (s : Stand) : D := .tup [.tup (s.bounds.map .int), .tup (s.cards.map cardD), .tup (s.waits.map waitD)]
section
variable {S : Store} {n : Nat} {c : Card} {w : Wt} {s : Stand}
@[simp] theorem vw_card : vw S (cardD c) = cardD c := (rfl)
@[simp] theorem vw_wait : vw S (waitD w) = waitD w := (rfl)
@[simp] theorem vw_stand : vw S (standD s) = standD s := (rfl)
@[simp] theorem idx_card0 : idxD (cardD c) (.int 0) = some (.str c.name) := (rfl)
@[simp] theorem idx_card1 : idxD (cardD c) (.int 1) = some (.str c.kind) := (rfl)
@[simp] theorem idx_card2 : idxD (cardD c) (.int 2) = some (.int c.place) := (rfl)
@[simp] theorem idx_card3 : idxD (cardD c) (.int 3) = some (.bl c.blocked) := (rfl)
@[simp] theorem idx_wait0 : idxD (waitD w) (.int 0) = some (.str w.card) := (rfl)
@[simp] theorem idx_wait1 : idxD (waitD w) (.int 1) = some (.int w.lane) := (rfl)
@[simp] theorem idx_wait2 : idxD (waitD w) (.int 2) = some (.str w.other) := (rfl)
@[simp] theorem idx_stand0 : idxD (standD s) (.int 0) = some (.tup (s.bounds.map .int)) := (rfl)
@[simp] theorem idx_stand1 : idxD (standD s) (.int 1) = some (.tup (s.cards.map cardD)) := (rfl)
@[simp] theorem idx_stand2 : idxD (standD s) (.int 2) = some (.tup (s.waits.map waitD)) := (rfl)
@[simp] theorem lim_card : (cardD c).lim n = true := by simp [cardD]
@[simp] theorem lim_wait : (waitD w).lim n = true := by simp [waitD]
@[simp] theorem lim_cards (l : List Card) : D.limL n (l.map cardD) = true := limL_all.mpr fun d hd => by
  obtain ⟨x, _, rfl⟩ := List.mem_map.mp hd
  exact lim_card
@[simp] theorem lim_waits (l : List Wt) : D.limL n (l.map waitD) = true := limL_all.mpr fun d hd => by
  obtain ⟨x, _, rfl⟩ := List.mem_map.mp hd
  exact lim_wait
@[simp] theorem lim_stand : (standD s).lim n = true := by simp [standD]
@[simp] theorem dat_card : D.dat (n + 1) (cardD c) = true := by simp [cardD]
@[simp] theorem dat_wait : D.dat (n + 1) (waitD w) = true := by simp [waitD]
@[simp] theorem datL_cards (l : List Card) : D.datL (n + 2) (l.map cardD) = true := datL_map (Nat.succ_pos _) _ _ fun _ => dat_card
@[simp] theorem datL_waits (l : List Wt) : D.datL (n + 2) (l.map waitD) = true := datL_map (Nat.succ_pos _) _ _ fun _ => dat_wait
@[simp] theorem dat_stand : D.dat (n + 3) (standD s) = true := by simp [standD]
@[simp] theorem walk_tupD (ds : List D) : walkD S (.tup ds) = some ⟨ds, []⟩ := (rfl)
@[simp] theorem walk_lstD (ds : List D) : walkD S (.lst ds) = some ⟨ds, []⟩ := (rfl)
@[simp] theorem walk_wayD (ds : List D) : walkD S (.way ds) = some ⟨ds, []⟩ := (rfl)
@[simp] theorem len_tup (ds : List D) : lenD (.tup ds) = some ds.length := (rfl)
@[simp] theorem len_lst (ds : List D) : lenD (.lst ds) = some ds.length := (rfl)
@[simp] theorem len_way (ds : List D) : lenD (.way ds) = some ds.length := (rfl)
@[simp] theorem fb_len (d : D) : fbD .len [d] = (lenD d).map fun (n : Nat) => D.int n := (rfl)
@[simp] theorem fb_tuple (ds : List D) : fbD .tuple [.lst ds] = some (.tup ds) := (rfl)
@[simp] theorem fb_tuple2 (ds : List D) : fbD .tuple [.tup ds] = some (.tup ds) := (rfl)
@[simp] theorem fb_list (ds : List D) : fbD .list [.lst ds] = some (.lst ds) := (rfl)
@[simp] theorem fb_list2 (ds : List D) : fbD .list [.tup ds] = some (.lst ds) := (rfl)
end
def laneOf (p : Plan) (k : Kind) (pl : Int) : Int := if pl = 0 then -1 else if (k.2.1.length : Int) < pl then p.lanes.length else k.2.1.getD (pl - 1).toNat 0
def cardLane (p : Plan) (c : Card) : Int := match kindAt p c.kind with
  | some k => laneOf p k c.place
  | none => -2
def isOut (p : Plan) (c : Card) : Bool := match kindAt p c.kind with
  | some k => decide ((k.2.1.length : Int) < c.place)
  | none => false
def cardsIn (p : Plan) (s : Stand) (lane : Int) : List (List Nat) := (s.cards.filter fun c => decide (cardLane p c = lane)).map (·.name)
def manyOf (p : Plan) (s : Stand) (lane : Int) (k : Kind) : Nat := (s.cards.filter fun c => decide (c.kind = k.1 ∧ laneOf p k c.place = lane)).length
def outNames (p : Plan) (s : Stand) : List (List Nat) := (s.cards.filter (isOut p)).map (·.name)
structure Fits (p : Plan) (c : Card) : Prop where
  kind : ∃ k, kindAt p c.kind = some k
  pos : 0 ≤ c.place
section
variable {T : Text}
@[simp] theorem len_wayD (k : Kind) : lenD (wayD k) = some k.2.1.length := by simp [wayD]
@[simp] theorem vw_wayD (S : Store) (k : Kind) : vw S (wayD k) = wayD k := (rfl)
@[simp] theorem lim_wayD (n : Nat) (k : Kind) : (wayD k).lim n = true := by simp [wayD]
@[simp] theorem limL_mapD {α : Type} (n : Nat) (f : α → D) (l : List α) (h : ∀ a, a ∈ l → (f a).lim n = true) : D.limL n (l.map f) = true := limL_all.mpr fun d hd => by
  obtain ⟨x, hx, rfl⟩ := List.mem_map.mp hd
  exact h x hx
@[simp] theorem wipe_one (ρ : Env) (i : Nat) : wipeE ρ (Tg.slots (.one i)) = ρ.set i none := (rfl)
end
end CL
namespace CL
open PySem PySem.Spec PyProof.Rows L2
structure CardOk (p : Plan) (c : Card) : Prop where
  nm : isNm c.name = true
  kind : ∃ k, kindAt p c.kind = some k ∧ c.place ≤ k.2.1.length + 1
  pos : 0 ≤ c.place
  bl : c.blocked = true → isOut p c = false
theorem CardOk.fits {p : Plan} {c : Card} (h : CardOk p c) : Fits p c := ⟨let ⟨k, e, _⟩ := h.kind; ⟨k, e⟩, h.pos⟩
def wLt (v w : Wt) : Prop := ltD (waitD v) (waitD w) = some true
structure StandOk (p : Plan) (s : Stand) : Prop where
  bl : s.bounds.length = p.lanes.length
  bd : ∀ x ∈ s.bounds, bdOk x
  cl : s.cards.length ≤ 30
  cn : (s.cards.map (·.name)).Pairwise (· < ·)
  cm : ∀ c ∈ s.cards, CardOk p c
  wl : s.waits.length ≤ 60
  wp : s.waits.Pairwise wLt
  wm : ∀ w ∈ s.waits, w.card ∈ s.cards.map (·.name) ∧ w.other ∈ s.cards.map (·.name) ∧ 0 ≤ w.lane ∧ w.lane ≤ p.lanes.length
  bh : ∀ (i : Nat) (x : Int), s.bounds[i]? = some x → ((cardsIn p s i).length : Int) ≤ x
  kh : ∀ k ∈ p.kinds, ∀ z ∈ k.2.1.zip k.2.2, (manyOf p s z.1 k : Int) ≤ z.2
  wh : ∀ w ∈ s.waits, ∀ c ∈ s.cards, c.name = w.card → w.other ∉ outNames p s → cardLane p c < w.lane
theorem StandOk.fits {p : Plan} {s : Stand} (h : StandOk p s) : ∀ c ∈ s.cards, Fits p c := fun c hc => (h.cm c hc).fits
section
variable {T : Text}
@[simp] theorem isa_card (c : Ctx) (x : Card) : isaAny c (cardD x) ["tuple"] = some true := (rfl)
@[simp] theorem isa_wait (c : Ctx) (x : Wt) : isaAny c (waitD x) ["tuple"] = some true := (rfl)
@[simp] theorem isa_stand (c : Ctx) (x : Stand) : isaAny c (standD x) ["tuple"] = some true := (rfl)
@[simp] theorem isa_tup (c : Ctx) (x : List D) : isaAny c (.tup x) ["tuple"] = some true := (rfl)
@[simp] theorem isa_strD (c : Ctx) (x : List Nat) : isaAny c (.str x) ["str"] = some true := (rfl)
@[simp] theorem isa_blD (c : Ctx) (x : Bool) : isaAny c (.bl x) ["bool"] = some true := (rfl)
@[simp] theorem len_card (x : Card) : lenD (cardD x) = some 4 := (rfl)
@[simp] theorem len_wait (x : Wt) : lenD (waitD x) = some 3 := (rfl)
@[simp] theorem len_stand (x : Stand) : lenD (standD x) = some 3 := (rfl)
theorem bls_mapD {α : Type} (g : α → Bool) : ∀ l : List α, bls (l.map fun a => .bl (g a)) = some (l.map g)
  | [] => rfl
  | a :: l => by simp [bls, bls_mapD g l]
@[simp] theorem fb_all {α : Type} (g : α → Bool) (l : List α) : fbD .all [.lst (l.map fun a => .bl (g a))] = some (.bl (l.all g)) := by
  show (bls _).map _ = _
  rw [bls_mapD]
  simp [List.all_map]
@[simp] theorem all_yes {α : Type} (l : List α) : (l.all fun _ => true) = true := List.all_eq_true.mpr fun _ _ => rfl
end
end CL
namespace CL
open PySem PySem.Spec PyProof.Rows L2
section
variable {T : Text}
def boundAt (k : Kind) (lane : Int) : Int := k.2.2.getD (k.2.1.idxOf lane) 0
def laneMany (p : Plan) (cs : List Card) (lane : Int) : Nat := (cs.filter fun c => decide (cardLane p c = lane)).length
def kindMany (p : Plan) (cs : List Card) (lane : Int) (kn : List Nat) : Nat := (cs.filter fun c => decide (cardLane p c = lane ∧ c.kind = kn)).length
def fullT : List Nat := [70, 117, 108, 108]
def kindFullT : List Nat := [75, 105, 110, 100, 70, 117, 108, 108]
def roomOf (p : Plan) (bs : List Int) (cs : List Card) (k : Kind) (lane : Int) : List Nat :=
  if ¬ (0 ≤ lane ∧ lane < p.lanes.length) then [] else
  if bs.getD lane.toNat 0 ≤ laneMany p cs lane then fullT else
  if boundAt k lane ≤ kindMany p cs lane k.1 then kindFullT else []
end
end CL
namespace CL
open PySem PySem.Spec PyProof.Rows L2
mutual
inductive Like : D → D → Prop
  | non : Like .non .non
  | bl (b : Bool) : Like (.bl b) (.bl b)
  | int (i : Int) : Like (.int i) (.int i)
  | str (l : List Nat) : Like (.str l) (.str l)
  | tt {ds es : List D} : LikeL ds es → Like (.tup ds) (.tup es)
  | tw {ds es : List D} : LikeL ds es → Like (.tup ds) (.way es)
  | wt {ds es : List D} : LikeL ds es → Like (.way ds) (.tup es)
  | ww {ds es : List D} : LikeL ds es → Like (.way ds) (.way es)
  | ll {ds es : List D} : LikeL ds es → Like (.lst ds) (.lst es)
inductive LikeL : List D → List D → Prop
  | nil : LikeL [] []
  | cons {d e : D} {ds es : List D} : Like d e → LikeL ds es → LikeL (d :: ds) (e :: es)
end
theorem LikeL.len : ∀ {ds es : List D}, LikeL ds es → ds.length = es.length
  | _, _, .nil => rfl
  | _, _, .cons _ t => by rw [List.length_cons, List.length_cons, LikeL.len t]
theorem LikeL.zip : ∀ {ds es : List D}, LikeL ds es → ∀ z ∈ ds.zip es, Like z.1 z.2
  | _, _, .nil, z, hz => by cases hz
  | _, _, .cons h t, z, hz => by
    rw [List.zip_cons_cons] at hz
    rcases List.mem_cons.mp hz with rfl | hz
    · exact h
    · exact LikeL.zip t z hz
mutual
theorem Like.refl : ∀ (n : Nat) (d : D), d.dat n = true → Like d d
  | _, .non, _ => .non
  | _, .bl b, _ => .bl b
  | _, .int i, _ => .int i
  | _, .str l, _ => .str l
  | n, .tup ds, h => .tt (LikeL.refl n ds (by rw [D.dat] at h; exact h))
  | n, .lst ds, h => .ll (LikeL.refl n ds (by rw [D.dat] at h; exact h))
  | n, .way ds, h => .ww (LikeL.refl n ds (by rw [D.dat] at h; exact h))
  | _, .dic _ _ _, h => by simp [D.dat] at h
  | _, .ins _ _ _, h => by simp [D.dat] at h
  | _, .exn _ _ _, h => by simp [D.dat] at h
  | _, .ref _, h => by simp [D.dat] at h
  | _, .scr _, h => by simp [D.dat] at h
theorem LikeL.refl : ∀ (n : Nat) (ds : List D), D.datL n ds = true → LikeL ds ds
  | _, [], _ => .nil
  | n, d :: ds, h => by
    simp only [D.datL, Bool.and_eq_true] at h
    exact .cons (Like.refl (n - 1) d h.2.1) (LikeL.refl n ds h.2.2)
end
@[simp] theorem cmp_eq_bl (a b : Bool) : cmpD .eq (.bl a) (.bl b) = some (a == b) := by
  simp [cmpD, eqD, D.dat, D.eqv]
@[simp] theorem cmp_ne_bl (a b : Bool) : cmpD .ne (.bl a) (.bl b) = some (!(a == b)) := by
  simp [cmpD, eqD, D.dat, D.eqv]
@[simp] theorem fb_all_map {α : Type} (g : α → Bool) (l : List α) : fbD .all [.lst (l.map fun a => .bl (g a))] = some (.bl (l.all g)) := fb_all g l
end CL
namespace CL
open PySem PySem.Spec PyProof.Rows L2
theorem same_kind {p : Plan} (hp : PlanOk p) {k k' : Kind} (h : k ∈ p.kinds) (h' : k' ∈ p.kinds) (e : k.1 = k'.1) : k = k' := by
  have a := kindAt_some hp h
  have b := kindAt_some hp h'
  rw [e, b] at a
  exact (Option.some.inj a).symm
structure Keeps (p : Plan) (bs : List Int) (cs : List Card) : Prop where
  cm : ∀ c ∈ cs, CardOk p c
  lm : ∀ (j : Nat) (x : Int), bs[j]? = some x → (laneMany p cs j : Int) ≤ x
  km : ∀ k ∈ p.kinds, ∀ lane ∈ k.2.1, (kindMany p cs lane k.1 : Int) ≤ boundAt k lane
theorem boundAt_pos {p : Plan} (hp : PlanOk p) {k : Kind} (hk : k ∈ p.kinds) {lane : Int} (hm : lane ∈ k.2.1) : 1 ≤ boundAt k lane := by
  have ko := hp.km k hk
  have lt : k.2.1.idxOf lane < k.2.2.length := by
    rw [ko.len]
    exact List.idxOf_lt_length_iff.mpr hm
  unfold boundAt
  rw [List.getD_eq_getElem?_getD, List.getElem?_eq_getElem lt]
  exact (ko.bd _ (List.getElem_mem lt)).1
theorem Keeps.nil {p : Plan} (hp : PlanOk p) {bs : List Int} (hb : ∀ x ∈ bs, bdOk x) : Keeps p bs [] where
  cm := by simp
  lm := fun j x h => by
    have := (hb x (List.mem_of_getElem? h)).1
    simp [laneMany]
    omega
  km := fun k hk lane hm => by
    have := boundAt_pos hp hk hm
    simp [kindMany]
    omega
theorem laneMany_snoc (p : Plan) (cs : List Card) (c : Card) (lane : Int) : laneMany p (cs ++ [c]) lane = laneMany p cs lane + if cardLane p c = lane then 1 else 0 := by
  unfold laneMany
  rw [List.filter_append, List.length_append]
  by_cases h : cardLane p c = lane <;> simp [h]
theorem kindMany_snoc (p : Plan) (cs : List Card) (c : Card) (lane : Int) (kn : List Nat) : kindMany p (cs ++ [c]) lane kn = kindMany p cs lane kn + if cardLane p c = lane ∧ c.kind = kn then 1 else 0 := by
  unfold kindMany
  rw [List.filter_append, List.length_append]
  by_cases h : cardLane p c = lane ∧ c.kind = kn
  · simp [h]
  · rw [if_neg h]
    have : List.filter (fun c => decide (cardLane p c = lane ∧ c.kind = kn)) [c] = [] := by simpa using h
    rw [this]
    rfl
theorem room_nil {p : Plan} {bs : List Int} {cs : List Card} {k : Kind} {lane : Int} (h : roomOf p bs cs k lane = []) : (0 ≤ lane ∧ lane < p.lanes.length) → (laneMany p cs lane : Int) < bs.getD lane.toNat 0 ∧ (kindMany p cs lane k.1 : Int) < boundAt k lane := by
  intro q
  unfold roomOf at h
  rw [if_neg (by simpa using q)] at h
  split at h
  · cases h
  · split at h
    · cases h
    · omega
theorem Keeps.snoc {p : Plan} (hp : PlanOk p) {bs : List Int} (hb : bs.length = p.lanes.length) {cs : List Card} (h : Keeps p bs cs) {c : Card} (hc : CardOk p c) {k : Kind} (hk : k ∈ p.kinds) (ek : c.kind = k.1) (hr : roomOf p bs cs k (cardLane p c) = []) : Keeps p bs (cs ++ [c]) where
  cm := fun d hd => by
    rcases List.mem_append.mp hd with hd | hd
    · exact h.cm d hd
    · rw [List.mem_singleton.mp hd]; exact hc
  lm := fun j x e => by
    rw [laneMany_snoc]
    have q := h.lm j x e
    by_cases z : cardLane p c = j
    · rw [if_pos z]
      have lt : j < bs.length := (List.getElem?_eq_some_iff.mp e).1
      have r := (room_nil hr (by rw [z]; omega)).1
      rw [z, show ((j : Nat) : Int).toNat = j by omega, List.getD_eq_getElem?_getD, e] at r
      simp only [Option.getD_some] at r
      omega
    · rw [if_neg z]
      omega
  km := fun k' hk' lane hm => by
    rw [kindMany_snoc]
    have q := h.km k' hk' lane hm
    by_cases z : cardLane p c = lane ∧ c.kind = k'.1
    · rw [if_pos z]
      have e := same_kind hp hk hk' (ek.symm.trans z.2)
      subst e
      have lo := (hp.km k hk).lo lane hm
      have r := (room_nil hr (by rw [z.1]; exact lo)).2
      rw [z.1] at r
      omega
    · rw [if_neg z]
      omega
theorem manyOf_eq {p : Plan} (hp : PlanOk p) {s : Stand} {k : Kind} (hk : k ∈ p.kinds) (lane : Int) : manyOf p s lane k = kindMany p s.cards lane k.1 := by
  unfold manyOf kindMany
  congr 1
  refine List.filter_congr fun c _ => ?_
  rw [decide_eq_decide]
  constructor
  · rintro ⟨e, q⟩
    refine ⟨?_, e⟩
    unfold cardLane
    rw [e, kindAt_some hp hk]
    exact q
  · rintro ⟨q, e⟩
    refine ⟨e, ?_⟩
    unfold cardLane at q
    rw [e, kindAt_some hp hk] at q
    exact q
end CL
namespace CL
open PySem PySem.Spec PyProof.Rows L2
@[simp] theorem fb_int_bl (t : Bool) : fbD .int [.bl t] = some (.int (if t then 1 else 0)) := (rfl)
end CL
namespace CL
open PySem PySem.Spec PyProof.Rows L2
def isxT (T : Text) (X : String) : List String → Option Bool
  | [] => some false
  | C :: r => match T.isx X C with
    | some true => some true
    | some false => isxT T X r
    | none => none
end CL
namespace CL
open PySem PySem.Spec PyProof.Rows L2
theorem Keeps.sub {p : Plan} {bs : List Int} {cs ds : List Card} (h : Keeps p bs cs) (sb : ds.Sublist cs) : Keeps p bs ds where
  cm := fun c hc => h.cm c (sb.subset hc)
  lm := fun j x e => by
    have := h.lm j x e
    have q := (sb.filter fun c => decide (cardLane p c = (j : Int))).length_le
    unfold laneMany at this ⊢
    omega
  km := fun k hk lane hm => by
    have := h.km k hk lane hm
    have q := (sb.filter fun c => decide (cardLane p c = lane ∧ c.kind = k.1)).length_le
    unfold kindMany at this ⊢
    omega
theorem StandOk.keeps {p : Plan} (hp : PlanOk p) {s : Stand} (h : StandOk p s) : Keeps p s.bounds s.cards where
  cm := h.cm
  lm := fun j x e => by
    have := h.bh j x e
    unfold cardsIn at this
    rw [List.length_map] at this
    exact this
  km := fun k hk lane hm => by
    have ko := hp.km k hk
    have lt : k.2.1.idxOf lane < k.2.1.length := List.idxOf_lt_length_iff.mpr hm
    have lt2 : k.2.1.idxOf lane < k.2.2.length := by rw [ko.len]; exact lt
    have hz : (lane, boundAt k lane) ∈ k.2.1.zip k.2.2 := by
      refine List.mem_of_getElem? (i := k.2.1.idxOf lane) ?_
      rw [List.getElem?_zip_eq_some]
      refine ⟨?_, ?_⟩
      · rw [List.getElem?_eq_getElem lt, List.getElem_idxOf lt]
      · unfold boundAt
        rw [List.getD_eq_getElem?_getD, List.getElem?_eq_getElem lt2]
        rfl
    have := h.kh k hk _ hz
    rw [manyOf_eq hp hk] at this
    exact this
end CL
namespace CL
open PySem PySem.Spec PyProof.Rows L2
abbrev Refusal := String × List String × List D
def told {α : Type} (f : α → D) (r : Except Refusal α) (S : Store) : R D := match r with
  | .ok a => .ok (f a) S
  | .error e => .err e.1 e.2.1 e.2.2 S
@[simp] theorem told_ok {α : Type} (f : α → D) (a : α) (S : Store) : told f (.ok a) S = .ok (f a) S := (rfl)
@[simp] theorem told_err {α : Type} (f : α → D) (e : Refusal) (S : Store) : told f (.error e) S = .err e.1 e.2.1 e.2.2 S := (rfl)
end CL
namespace CL
open PySem PySem.Spec PyProof.Rows L2
inductive Told : Refusal → Prop
  | noCard (l : List Nat) : Told ("NoCard", ["card"], [.str l])
  | out (l : List Nat) : Told ("Out", ["card"], [.str l])
  | blocked (l : List Nat) : Told ("Blocked", ["card"], [.str l])
  | inYard (l : List Nat) : Told ("InYard", ["card"], [.str l])
  | waits (l m : List Nat) : Told ("Waits", ["other", "card"], [.str m, .str l])
  | full (l : List Nat) (x : Int) : Told ("Full", ["bound", "lane"], [.int x, .str l])
  | kindFull (l m : List Nat) (x : Int) : Told ("KindFull", ["bound", "kind", "lane"], [.int x, .str m, .str l])
def names7 : List String := ["NoCard", "Out", "Blocked", "Waits", "Full", "KindFull", "InYard"]
structure RefT (T : Text) : Prop where
  refusal : Is T "_law_refusal" Ulaw_refusal
  isx : ∀ X ∈ names7, ∀ C ∈ names7, T.isx X C = some (X == C)
  value : ∀ X ∈ names7, T.isx X "ValueError" = some true
  lane : ∀ X ∈ names7, T.isx X "LaneError" = some true
section
variable {T : Text}
theorem RefT.one (R : RefT T) {X : String} (h : X ∈ names7) {C : String} (hC : C ∈ names7) : isxT T X [C] = some (X == C) := by
  unfold isxT
  rw [R.isx X h C hC]
  cases (X == C) <;> rfl
theorem RefT.all (R : RefT T) (X : String) (h : X ∈ names7) : isxT T X ["NoCard"] = some (X == "NoCard") ∧ isxT T X ["Out"] = some (X == "Out") ∧ isxT T X ["Blocked"] = some (X == "Blocked") ∧ isxT T X ["Waits"] = some (X == "Waits") ∧
    isxT T X ["Full"] = some (X == "Full") ∧ isxT T X ["KindFull"] = some (X == "KindFull") ∧ isxT T X ["InYard"] = some (X == "InYard") ∧ isxT T X ["ValueError"] = some true := by
  refine ⟨R.one h (by decide), R.one h (by decide), R.one h (by decide), R.one h (by decide), R.one h (by decide), R.one h (by decide), R.one h (by decide), ?_⟩
  unfold isxT
  rw [R.value X h]
end
end CL
namespace CL
open PySem PySem.Spec PyProof.Rows L2
theorem short_str {l : List Nat} (h : l.length ≤ 1000) : (D.str l).small = true := by
  simp only [D.small, decide_eq_true_eq]
  exact h
end CL
namespace CL
open PySem PySem.Spec PyProof.Rows L2
def names5 : List String := ["NoCard", "NoLane", "Past", "TooMany", "NoWait"]
structure RefW (T : Text) : Prop where
  refusal : Is T "_law_wait_refusal" Ulaw_wait_refusal
  isx : ∀ X ∈ names5, ∀ C ∈ names5, T.isx X C = some (X == C)
  value : ∀ X ∈ names5, T.isx X "ValueError" = some true
  lane : ∀ X ∈ names5, T.isx X "LaneError" = some true
section
variable {T : Text}
theorem RefW.one (R : RefW T) {X : String} (h : X ∈ names5) {C : String} (hC : C ∈ names5) : isxT T X [C] = some (X == C) := by
  unfold isxT
  rw [R.isx X h C hC]
  cases (X == C) <;> rfl
theorem RefW.all (R : RefW T) (X : String) (h : X ∈ names5) : isxT T X ["NoCard"] = some (X == "NoCard") ∧ isxT T X ["NoLane"] = some (X == "NoLane") ∧ isxT T X ["Past"] = some (X == "Past") ∧ isxT T X ["TooMany"] = some (X == "TooMany") ∧
    isxT T X ["NoWait"] = some (X == "NoWait") ∧ isxT T X ["ValueError"] = some true := by
  refine ⟨R.one h (by decide), R.one h (by decide), R.one h (by decide), R.one h (by decide), R.one h (by decide), ?_⟩
  unfold isxT
  rw [R.value X h]
end
end CL
namespace CL
open PySem PySem.Spec PyProof.Rows L2
theorem draw_at {T : Text} (L : LawT0 T) {α : Type} (l : List α) (f : α → D) (hn : 0 < l.length) (hl : l.length ≤ 1000000) (n i b : Nat) (S : Store) (v : Int) (hi : i < S.length) : ∃ a ∈ l, ∃ v' x, callN T (n + 1) "_law_take" false [.ref i, .int (l.length : Nat)] b (hold S i v) = .ok (.int x) (hold S i v') ∧ atD (l.map f) x = some (f a) := by
  have t1 := take_sp0 L n i b S v (l.length : Nat) hi (by omega) (by omega)
  have p1 := Int.emod_nonneg v (show (l.length : Int) ≠ 0 by omega)
  have p2 := Int.emod_lt_of_pos v (show 0 < (l.length : Int) by omega)
  have lt : (v % (l.length : Int)).toNat < l.length := by omega
  refine ⟨l[(v % (l.length : Int)).toNat], List.getElem_mem lt, _, _, t1, ?_⟩
  rw [at_pos _ _ p1, List.getElem?_map, List.getElem?_eq_getElem lt]
  rfl
end CL
namespace CL
open PySem PySem.Spec PyProof.Rows L2
inductive Deed where
  | add (card kind : List Nat) | pull (card : List Nat) | back (card : List Nat) | block (card : List Nat) | clear (card : List Nat)
  | wait (card lane other : List Nat) | lets (card other : List Nat) | bound (lane : List Nat) (x : Int)
  deriving DecidableEq
def outT : List Nat := [111, 117, 116]
def deedD : Deed → D
  | .add l k => .ins "Add" ["card", "kind"] [.str l, .str k]
  | .pull l => .ins "Pull" ["card"] [.str l]
  | .back l => .ins "Back" ["card"] [.str l]
  | .block l => .ins "Block" ["card"] [.str l]
  | .clear l => .ins "Clear" ["card"] [.str l]
  | .wait l k m => .ins "Wait" ["card", "lane", "other"] [.str l, .str k, .str m]
  | .lets l m => .ins "Let" ["card", "other"] [.str l, .str m]
  | .bound l x => .ins "Bound" ["lane", "bound"] [.str l, .int x]
def Deed.cls : Deed → String
  | .add _ _ => "Add" | .pull _ => "Pull" | .back _ => "Back" | .block _ => "Block" | .clear _ => "Clear" | .wait _ _ _ => "Wait" | .lets _ _ => "Let" | .bound _ _ => "Bound"
def Deed.fn : Deed → String
  | .add _ _ => "Add.done" | .pull _ => "Pull.done" | .back _ => "Back.done" | .block _ => "Block.done" | .clear _ => "Clear.done" | .wait _ _ _ => "Wait.done" | .lets _ _ => "Let.done" | .bound _ _ => "Bound.done"
@[simp] theorem lim_deed (n : Nat) (d : Deed) : (deedD d).lim n = true := by cases d <;> simp [deedD, D.lim]
@[simp] theorem vw_deed (S : Store) (d : Deed) : vw S (deedD d) = deedD d := by cases d <;> rfl
end CL
namespace CL
open PySem PySem.Spec PyProof.Rows L2
def deedT : Deed → D
  | .add l k => .tup [.str [97, 100, 100], .str l, .str k]
  | .pull l => .tup [.str [112, 117, 108, 108], .str l]
  | .back l => .tup [.str [98, 97, 99, 107], .str l]
  | .block l => .tup [.str [98, 108, 111, 99, 107], .str l]
  | .clear l => .tup [.str [99, 108, 101, 97, 114], .str l]
  | .wait l k m => .tup [.str [119, 97, 105, 116], .str l, .str k, .str m]
  | .lets l m => .tup [.str [108, 101, 116], .str l, .str m]
  | .bound l x => .tup [.str [98, 111, 117, 110, 100], .str l, .int x]
@[simp] theorem lim_deedT (n : Nat) (d : Deed) : (deedT d).lim n = true := by cases d <;> simp [deedT]
@[simp] theorem vw_deedT (S : Store) (d : Deed) : vw S (deedT d) = deedT d := by cases d <;> rfl
def names15 : List String := ["NoCard", "Out", "Blocked", "InYard", "Past", "NoWait", "Twice", "Free", "TooMany", "NoKind", "NoLane", "Waits", "Full", "KindFull", "Low"]
inductive ToldA : Refusal → Prop
  | noCard (l : List Nat) : ToldA ("NoCard", ["card"], [.str l])
  | out (l : List Nat) : ToldA ("Out", ["card"], [.str l])
  | blocked (l : List Nat) : ToldA ("Blocked", ["card"], [.str l])
  | inYard (l : List Nat) : ToldA ("InYard", ["card"], [.str l])
  | past (l : List Nat) : ToldA ("Past", ["card"], [.str l])
  | noWait (l : List Nat) : ToldA ("NoWait", ["card"], [.str l])
  | twice (l : List Nat) : ToldA ("Twice", ["card"], [.str l])
  | free (l : List Nat) : ToldA ("Free", ["card"], [.str l])
  | tooMany : ToldA ("TooMany", [], [])
  | noKind (k : List Nat) : ToldA ("NoKind", ["kind"], [.str k])
  | noLane (l : List Nat) : ToldA ("NoLane", ["lane"], [.str l])
  | waits (l m : List Nat) : ToldA ("Waits", ["other", "card"], [.str m, .str l])
  | full (l : List Nat) (x : Int) : ToldA ("Full", ["bound", "lane"], [.int x, .str l])
  | kindFull (l m : List Nat) (x : Int) : ToldA ("KindFull", ["bound", "kind", "lane"], [.int x, .str m, .str l])
  | low (l : List Nat) (x : Int) : ToldA ("Low", ["many", "lane"], [.int x, .str l])
theorem Told.all {e : Refusal} (h : Told e) : ToldA e := by cases h <;> constructor
structure RefA (T : Text) : Prop where
  refusal : Is T "_law_any_refusal" Ulaw_any_refusal
  isx : ∀ X ∈ names15, ∀ C ∈ names15, T.isx X C = some (X == C)
  value : ∀ X ∈ names15, T.isx X "ValueError" = some true
  lane : ∀ X ∈ names15, T.isx X "LaneError" = some true
theorem ToldA.lim {e : Refusal} (h : ToldA e) : D.limL 0 e.2.2 = true := by cases h <;> rfl
section
variable {T : Text}
theorem RefA.one (R : RefA T) {X : String} (h : X ∈ names15) {C : String} (hC : C ∈ names15) : isxT T X [C] = some (X == C) := by
  unfold isxT
  rw [R.isx X h C hC]
  cases (X == C) <;> rfl
theorem RefA.all (R : RefA T) (X : String) (h : X ∈ names15) : isxT T X ["NoCard"] = some (X == "NoCard") ∧ isxT T X ["Out"] = some (X == "Out") ∧ isxT T X ["Blocked"] = some (X == "Blocked") ∧ isxT T X ["InYard"] = some (X == "InYard") ∧ isxT T X ["Past"] = some (X == "Past") ∧ isxT T X ["NoWait"] = some (X == "NoWait") ∧ isxT T X ["Twice"] = some (X == "Twice") ∧ isxT T X ["Free"] = some (X == "Free") ∧ isxT T X ["TooMany"] = some (X == "TooMany") ∧ isxT T X ["NoKind"] = some (X == "NoKind") ∧ isxT T X ["NoLane"] = some (X == "NoLane") ∧ isxT T X ["Waits"] = some (X == "Waits") ∧ isxT T X ["Full"] = some (X == "Full") ∧ isxT T X ["KindFull"] = some (X == "KindFull") ∧ isxT T X ["Low"] = some (X == "Low") ∧ isxT T X ["ValueError"] = some true := by
  refine ⟨R.one h (by decide), R.one h (by decide), R.one h (by decide), R.one h (by decide), R.one h (by decide), R.one h (by decide), R.one h (by decide), R.one h (by decide), R.one h (by decide), R.one h (by decide), R.one h (by decide), R.one h (by decide), R.one h (by decide), R.one h (by decide), R.one h (by decide), ?_⟩
  unfold isxT
  rw [R.value X h]
def Deed.ok : Deed → Prop
  | .add l _ => isNm l = true
  | .bound _ x => bdOk x
  | _ => True
end
end CL
namespace CL
open PySem PySem.Spec PyProof.Rows L2
section
variable {T : Text}
theorem fld_set_last (n b : Nat) {f C : String} {w : D} {ρ : Env} {S : Store} {ns : List String} {ds : List D} (hf : T.flds C f = true) (hp : putOk b S.length w = true) (hn : ns.length < 900) :
    kfldset (ctxN T n) b f w ρ (S ++ [.ins C ns ds]) (.ref S.length) = .ok (.nx ρ) (S ++ [.ins C (putD f w ns ds).1 (putD f w ns ds).2]) := by
  rw [fld_set T n b (C := C) (ns := ns) (ds := ds) (by simp) hf hp hn]
  congr 1
  simp
theorem take_one (S : Store) (c : Cell) : (S ++ [c]).take (S.length + 1) = S ++ [c] := List.take_of_length_le (by simp)
theorem init_one {i : String} {g : Fn} (h : Is T i g) (f : String) (hb : g.body = .cons (.setFld (.var 0) f (.var 1)) .nil) (h1 : g.np = 2) (h2 : g.names.length = 2) (h3 : g.keep = false) {C : String} (hf : T.flds C f = true) (n : Nat) (x : D) (hx : x.lim 0 = true) (S : Store) :
    callN T (n + 1) i false [.ref S.length, x] S.length (S ++ [.ins C [] []]) = .ok .non (S ++ [.ins C [f] [x]]) := by
  rw [call_is h (by rw [h1]; rfl), hb, h3]
  have e := fun b ρ => fld_set_last (T := T) n b (f := f) (C := C) (w := x) (ρ := ρ) (S := S) (ns := []) (ds := []) hf (by simp [putOk, hx]) (by decide)
  simp [Fn.start, h1, h2, e, putD, take_one]
theorem init_two {i : String} {g : Fn} (h : Is T i g) (f1 f2 : String) (ne : f1 ≠ f2) (hb : g.body = .cons (.setFld (.var 0) f1 (.var 1)) (.cons (.setFld (.var 0) f2 (.var 2)) .nil)) (h1 : g.np = 3) (h2 : g.names.length = 3) (h3 : g.keep = false) {C : String} (hf1 : T.flds C f1 = true) (hf2 : T.flds C f2 = true) (n : Nat) (x y : D) (hx : x.lim 0 = true) (hy : y.lim 0 = true) (S : Store) :
    callN T (n + 1) i false [.ref S.length, x, y] S.length (S ++ [.ins C [] []]) = .ok .non (S ++ [.ins C [f1, f2] [x, y]]) := by
  rw [call_is h (by rw [h1]; rfl), hb, h3]
  have e := fun b ρ => fld_set_last (T := T) n b (f := f1) (C := C) (w := x) (ρ := ρ) (S := S) (ns := []) (ds := []) hf1 (by simp [putOk, hx]) (by decide)
  have e2 := fun b ρ => fld_set_last (T := T) n b (f := f2) (C := C) (w := y) (ρ := ρ) (S := S) (ns := [f1]) (ds := [x]) hf2 (by simp [putOk, hy]) (by simp)
  simp only [putD] at e e2
  simp [Fn.start, h1, h2, e, e2, ne, take_one]
theorem init_three {i : String} {g : Fn} (h : Is T i g) (f1 f2 f3 : String) (ne : f1 ≠ f2) (ne2 : f1 ≠ f3) (ne3 : f2 ≠ f3) (hb : g.body = .cons (.setFld (.var 0) f1 (.var 1)) (.cons (.setFld (.var 0) f2 (.var 2)) (.cons (.setFld (.var 0) f3 (.var 3)) .nil))) (h1 : g.np = 4) (h2 : g.names.length = 4) (h3 : g.keep = false) {C : String} (hf1 : T.flds C f1 = true) (hf2 : T.flds C f2 = true) (hf3 : T.flds C f3 = true) (n : Nat) (x y z : D) (hx : x.lim 0 = true) (hy : y.lim 0 = true) (hz : z.lim 0 = true) (S : Store) :
    callN T (n + 1) i false [.ref S.length, x, y, z] S.length (S ++ [.ins C [] []]) = .ok .non (S ++ [.ins C [f1, f2, f3] [x, y, z]]) := by
  rw [call_is h (by rw [h1]; rfl), hb, h3]
  have e := fun b ρ => fld_set_last (T := T) n b (f := f1) (C := C) (w := x) (ρ := ρ) (S := S) (ns := []) (ds := []) hf1 (by simp [putOk, hx]) (by decide)
  have e2 := fun b ρ => fld_set_last (T := T) n b (f := f2) (C := C) (w := y) (ρ := ρ) (S := S) (ns := [f1]) (ds := [x]) hf2 (by simp [putOk, hy]) (by simp)
  have e3 := fun b ρ => fld_set_last (T := T) n b (f := f3) (C := C) (w := z) (ρ := ρ) (S := S) (ns := [f1, f2]) (ds := [x, y]) hf3 (by simp [putOk, hz]) (by simp)
  simp only [putD, if_neg ne] at e e2
  simp only [putD, if_neg ne2, if_neg ne3] at e3
  simp [Fn.start, h1, h2, e, e2, e3, ne, take_one]
structure ObjT (T : Text) : Prop where
  add_i : Is T "Add.__init__" M_Add___init__
  one_i : Is T "OfCard.__init__" M_OfCard___init__
  wait_i : Is T "Wait.__init__" M_Wait___init__
  let_i : Is T "Let.__init__" M_Let___init__
  bound_i : Is T "Bound.__init__" M_Bound___init__
  add_c : T.cls "Add" = some ⟨0, some "Add.__init__"⟩
  pull_c : T.cls "Pull" = some ⟨0, some "OfCard.__init__"⟩
  back_c : T.cls "Back" = some ⟨0, some "OfCard.__init__"⟩
  block_c : T.cls "Block" = some ⟨0, some "OfCard.__init__"⟩
  clear_c : T.cls "Clear" = some ⟨0, some "OfCard.__init__"⟩
  wait_c : T.cls "Wait" = some ⟨0, some "Wait.__init__"⟩
  let_c : T.cls "Let" = some ⟨0, some "Let.__init__"⟩
  bound_c : T.cls "Bound" = some ⟨0, some "Bound.__init__"⟩
  fAdd : T.flds "Add" "card" = true ∧ T.flds "Add" "kind" = true
  fOne : T.flds "Pull" "card" = true ∧ T.flds "Back" "card" = true ∧ T.flds "Block" "card" = true ∧ T.flds "Clear" "card" = true
  fWait : T.flds "Wait" "card" = true ∧ T.flds "Wait" "lane" = true ∧ T.flds "Wait" "other" = true
  fLet : T.flds "Let" "card" = true ∧ T.flds "Let" "other" = true
  fBound : T.flds "Bound" "lane" = true ∧ T.flds "Bound" "bound" = true
theorem make_add (O : ObjT T) (n : Nat) (l k : List Nat) (b : Nat) (S : Store) : makeN T (n + 2) "Add" [.str l, .str k] b S = .ok (deedD (.add l k)) S :=
  make_fields O.add_c (n + 1) _ b S ["card", "kind"] rfl _ rfl (init_two O.add_i "card" "kind" (by decide) rfl rfl rfl rfl O.fAdd.1 O.fAdd.2 n _ _ rfl rfl S)
theorem make_pull (O : ObjT T) (n : Nat) (l : List Nat) (b : Nat) (S : Store) : makeN T (n + 2) "Pull" [.str l] b S = .ok (deedD (.pull l)) S :=
  make_fields O.pull_c (n + 1) _ b S ["card"] rfl _ rfl (init_one O.one_i "card" rfl rfl rfl rfl O.fOne.1 n _ rfl S)
theorem make_back (O : ObjT T) (n : Nat) (l : List Nat) (b : Nat) (S : Store) : makeN T (n + 2) "Back" [.str l] b S = .ok (deedD (.back l)) S :=
  make_fields O.back_c (n + 1) _ b S ["card"] rfl _ rfl (init_one O.one_i "card" rfl rfl rfl rfl O.fOne.2.1 n _ rfl S)
theorem make_block (O : ObjT T) (n : Nat) (l : List Nat) (b : Nat) (S : Store) : makeN T (n + 2) "Block" [.str l] b S = .ok (deedD (.block l)) S :=
  make_fields O.block_c (n + 1) _ b S ["card"] rfl _ rfl (init_one O.one_i "card" rfl rfl rfl rfl O.fOne.2.2.1 n _ rfl S)
theorem make_clear (O : ObjT T) (n : Nat) (l : List Nat) (b : Nat) (S : Store) : makeN T (n + 2) "Clear" [.str l] b S = .ok (deedD (.clear l)) S :=
  make_fields O.clear_c (n + 1) _ b S ["card"] rfl _ rfl (init_one O.one_i "card" rfl rfl rfl rfl O.fOne.2.2.2 n _ rfl S)
theorem make_wait (O : ObjT T) (n : Nat) (l k m : List Nat) (b : Nat) (S : Store) : makeN T (n + 2) "Wait" [.str l, .str k, .str m] b S = .ok (deedD (.wait l k m)) S :=
  make_fields O.wait_c (n + 1) _ b S ["card", "lane", "other"] rfl _ rfl (init_three O.wait_i "card" "lane" "other" (by decide) (by decide) (by decide) rfl rfl rfl rfl O.fWait.1 O.fWait.2.1 O.fWait.2.2 n _ _ _ rfl rfl rfl S)
theorem make_let (O : ObjT T) (n : Nat) (l m : List Nat) (b : Nat) (S : Store) : makeN T (n + 2) "Let" [.str l, .str m] b S = .ok (deedD (.lets l m)) S :=
  make_fields O.let_c (n + 1) _ b S ["card", "other"] rfl _ rfl (init_two O.let_i "card" "other" (by decide) rfl rfl rfl rfl O.fLet.1 O.fLet.2 n _ _ rfl rfl S)
theorem make_bound (O : ObjT T) (n : Nat) (l : List Nat) (x : Int) (b : Nat) (S : Store) : makeN T (n + 2) "Bound" [.str l, .int x] b S = .ok (deedD (.bound l x)) S :=
  make_fields O.bound_c (n + 1) _ b S ["lane", "bound"] rfl _ rfl (init_two O.bound_i "lane" "bound" (by decide) rfl rfl rfl rfl O.fBound.1 O.fBound.2 n _ _ rfl rfl S)
end
end CL
namespace CL
open PySem PySem.Spec PyProof.Rows L2
theorem idx_str (l : List Nat) (i : Int) (h : l.length ≤ 1000) : idxD (.str l) (.int i) = (atD l i).map fun c => D.str [c] := if_pos (by unfold LIM; omega)
theorem sl_str (l : List Nat) (lo hi : Option Int) (h : l.length ≤ 1000) : slD lo hi (.str l) = some (.str (cutL l lo hi)) := if_pos (by unfold LIM; omega)
theorem len_str (l : List Nat) (h : l.length ≤ 1000) : lenD (.str l) = some l.length := if_pos (by unfold LIM; omega)
end CL
namespace CL
open PySem PySem.Spec PyProof.Rows L2
def cardOr (o : Option Card) : D := match o with
  | some c => cardD c
  | none => .non
@[simp] theorem vw_cardOr (S : Store) (o : Option Card) : vw S (cardOr o) = cardOr o := by cases o <;> rfl
@[simp] theorem lim_cardOr (n : Nat) (o : Option Card) : (cardOr o).lim n = true := by cases o <;> simp [cardOr]
end CL
namespace CL
open PySem PySem.Spec PyProof.Rows L2
def whlS (b : Nat) (q : E) (body : Ss) (c : Ctx) (ρ : Env) (S : Store) : RS := whlL (fun ρ S => ev c b q ρ S) (fun ρ S => exs b body c ρ S) c.fuel ρ S
@[simp] theorem x_whl {c : Ctx} {b : Nat} {ρ : Env} {S : Store} (q : E) (body : Ss) : exS b (.whl q body) c ρ S = whlS b q body c ρ S := by simp only [exS]; rfl
end CL
namespace CL
open PySem PySem.Spec PyProof.Rows L2
def wordIs (d : D) : Option (List Nat) := match d with
  | .str l => some l
  | _ => none
end CL
namespace CL
open PySem PySem.Spec PyProof.Rows L2
theorem cut_le {α : Type} (l : List α) (lo hi : Option Int) : (cutL l lo hi).length ≤ l.length := by
  unfold cutL
  rw [List.length_take, List.length_drop]
  omega
end CL
namespace CL
open PySem PySem.Spec PyProof.Rows L2
structure NameT1 (T : Text) : Prop where
  is_name : Is T "is_name" P_is_name
  letters : T.con "LETTERS" = some (.str [97, 98, 99, 100, 101, 102, 103, 104, 105, 106, 107, 108, 109, 110, 111, 112, 113, 114, 115, 116, 117, 118, 119, 120, 121, 122])
  signs : T.con "MOST_SIGNS" = some (.int 8)
def deedW : Deed → List (List Nat)
  | .add l k => [[97, 100, 100], l, k]
  | .pull l => [[112, 117, 108, 108], l]
  | .back l => [[98, 97, 99, 107], l]
  | .block l => [[98, 108, 111, 99, 107], l]
  | .clear l => [[99, 108, 101, 97, 114], l]
  | .wait l k m => [[119, 97, 105, 116], l, k, m]
  | .lets l m => [[108, 101, 116], l, m]
  | .bound l x => [[98, 111, 117, 110, 100], l, strI x]
def deedS (d : Deed) : List Nat := joinL [32] (deedW d)
def Deed.read : Deed → Prop
  | .add l k => isNm l = true ∧ isNm k = true
  | .pull l => isNm l = true
  | .back l => isNm l = true
  | .block l => isNm l = true
  | .clear l => isNm l = true
  | .wait l k m => isNm l = true ∧ (k = outT ∨ isNm k = true) ∧ isNm m = true
  | .lets l m => isNm l = true ∧ isNm m = true
  | .bound l x => isNm l = true ∧ 1 ≤ x ∧ x ≤ 99
def figs : List Nat := [48, 49, 50, 51, 52, 53, 54, 55, 56, 57]
theorem num_facts : ∀ n < 100, 1 ≤ n → ((strI (n : Nat)).length == 1 || (strI (n : Nat)).length == 2) = true ∧ ((strI (n : Nat)).all fun c => decide (c ∈ figs)) = true ∧ (strI (n : Nat)).head? ≠ some 48 ∧ intText? ⟨(strI (n : Nat)).toArray⟩ = some (n : Int) := by decide +kernel
theorem str99 : strI 99 = [57, 57] := by decide +kernel
theorem nm_sign {l : List Nat} (h : isNm l = true) : 32 ∉ l := by
  intro m
  unfold isNm at h
  simp only [Bool.and_eq_true, List.all_eq_true, decide_eq_true_eq] at h
  have := h.2.2.2.2 32 m
  exact absurd this (by decide)
theorem split_joinL (ls : List (List Nat)) (h : ls ≠ []) (hs : ∀ l ∈ ls, 32 ∉ l) (hl : (joinL [32] ls).length ≤ 1000) : mbD .split (.str (joinL [32] ls)) [.str [32]] = some (.lst (ls.map .str)) := by
  have e := join_eq [32] ls
  have e2 : sT (joinL [32] ls) = Txt.join (sT [32]) (ls.map sT) := by
    have e3 : (Txt.join (sT [32]) (ls.map sT)).cps.toList = joinL [32] ls := by
      unfold tD at e
      simpa only [D.str.injEq] using e
    rw [← e3]
    rfl
  have sp := TL.split_join (y := sT [32]) (s := 32) (S := []) rfl (by decide +kernel) (parts := ls.map sT) (by simpa using h) (fun p hp => by
    obtain ⟨l, hl, rfl⟩ := List.mem_map.mp hp
    exact hs l hl)
  show (if (joinL [32] ls).length ≤ LIM then some (D.lst ((Txt.split (sT (joinL [32] ls)) (sT [32])).map tD)) else none) = _
  rw [if_pos (by unfold LIM; omega), e2, sp, List.map_map]
  rfl
theorem deedW_sign {d : Deed} (h : d.read) : ∀ l ∈ deedW d, 32 ∉ l := by
  have no : 32 ∉ outT := by decide
  have num : ∀ x : Int, 1 ≤ x → x ≤ 99 → 32 ∉ strI x := fun x h1 h2 m => by
    obtain ⟨n, rfl⟩ : ∃ n : Nat, x = n := ⟨x.toNat, by omega⟩
    obtain ⟨_, a, _⟩ := num_facts n (by omega) (by omega)
    have := List.all_eq_true.mp a 32 m
    exact absurd this (by decide)
  intro l hl
  cases d with
  | add a b =>
    simp only [deedW, List.mem_cons, List.not_mem_nil, or_false] at hl
    rcases hl with rfl | rfl | rfl
    · decide
    · exact nm_sign h.1
    · exact nm_sign h.2
  | wait a b c =>
    simp only [deedW, List.mem_cons, List.not_mem_nil, or_false] at hl
    rcases hl with rfl | rfl | rfl | rfl
    · decide
    · exact nm_sign h.1
    · rcases h.2.1 with rfl | q
      · exact no
      · exact nm_sign q
    · exact nm_sign h.2.2
  | lets a b =>
    simp only [deedW, List.mem_cons, List.not_mem_nil, or_false] at hl
    rcases hl with rfl | rfl | rfl
    · decide
    · exact nm_sign h.1
    · exact nm_sign h.2
  | bound a x =>
    simp only [deedW, List.mem_cons, List.not_mem_nil, or_false] at hl
    rcases hl with rfl | rfl | rfl
    · decide
    · exact nm_sign h.1
    · exact num x h.2.1 h.2.2
  | _ =>
    simp only [deedW, List.mem_cons, List.not_mem_nil, or_false] at hl
    rcases hl with rfl | rfl
    · decide
    · exact nm_sign h
theorem deedS_len {d : Deed} (h : d.read) : (deedS d).length ≤ 100 := by
  have no : outT.length = 3 := rfl
  have num : ∀ x : Int, 1 ≤ x → x ≤ 99 → (strI x).length ≤ 2 := fun x h1 h2 => by
    obtain ⟨n, rfl⟩ : ∃ n : Nat, x = n := ⟨x.toNat, by omega⟩
    obtain ⟨a, _⟩ := num_facts n (by omega) (by omega)
    simp at a
    omega
  cases d with
  | add a b => have := nm_len h.1; have := nm_len h.2; simp [deedS, deedW, joinL]; omega
  | wait a b c =>
    have := nm_len h.1; have := nm_len h.2.2
    have : b.length ≤ 8 := by
      rcases h.2.1 with rfl | q
      · decide
      · exact nm_len q
    simp [deedS, deedW, joinL]; omega
  | lets a b => have := nm_len h.1; have := nm_len h.2; simp [deedS, deedW, joinL]; omega
  | bound a x => have := nm_len h.1; have := num x h.2.1 h.2.2; simp [deedS, deedW, joinL]; omega
  | _ => have := nm_len h; simp [deedS, deedW, joinL]; omega
section
variable {T : Text}
theorem is_name_sp1 (L : NameT1 T) (n : Nat) (d : D) (b : Nat) (S : Store) (h : d.small = true) : callN T (n + 1) "is_name" false [d] b S = .ok (.bl (nmD d)) S := by
  rw [call_is L.is_name rfl]
  rcases small_str h (ctxN T n) S with ⟨l, rfl, hl⟩ | ⟨e, e2⟩
  · have hL : l.length ≤ LIM := lim_of hl
    have key : ∀ b, lcAll (lcTwo (ctxN T n) b (.var 1) (.cmp .notIn (.var 1) (.gcon "LETTERS")) (.one 1)) (.one 1) [some (.str l), none] ⟨l.map fun c => .str [c], []⟩ S = .ok ((l.filter fun ch => !decide (ch ∈ abc)).map fun c => .str [c]) S := fun b =>
      lcAll_pass l (fun c => .str [c]) (fun c => .str [c]) (fun ch => !decide (ch ∈ abc)) rfl rfl rfl hL fun ch _ => by
        by_cases hc : ch ∈ abc
        · have hc' := hc
          unfold abc at hc'
          simp [Tg.slots, wipeE, L.letters, cmpD, inD, hc, hc']
        · have hc' := hc
          unfold abc at hc'
          simp [Tg.slots, wipeE, L.letters, cmpD, inD, hc, hc']
    have e0 : ((l.filter fun ch => !decide (ch ∈ abc)).map fun c => D.str [c]).isEmpty = l.all fun ch => decide (ch ∈ abc) := by
      rw [Bool.eq_iff_iff]
      simp [List.isEmpty_iff]
    have e1 : cmpD .eq (vw S (.lst ((l.filter fun ch => !decide (ch ∈ abc)).map fun c => D.str [c]))) (vw S (.lst [])) = some (l.all fun ch => decide (ch ∈ abc)) := by
      rw [eq_signs, ← e0]
      simp
    simp only [vw_lst] at e1
    have nmE : nmD (.str l) = (decide (1 ≤ (l.length : Int)) && (decide ((l.length : Int) ≤ 8) && (!(l == [111, 117, 116]) && (!(l == [121, 97, 114, 100]) && l.all fun ch => decide (ch ∈ abc))))) := by
      have d1 : decide (1 ≤ l.length) = decide (1 ≤ (l.length : Int)) := by rw [decide_eq_decide]; omega
      have d2 : decide (l.length ≤ 8) = decide ((l.length : Int) ≤ 8) := by rw [decide_eq_decide]; omega
      show (decide (1 ≤ l.length) && (decide (l.length ≤ 8) && _)) = _
      rw [d1, d2]
    rw [nmE]
    by_cases h1 : 1 ≤ (l.length : Int)
    · by_cases h2 : (l.length : Int) ≤ 8
      · cases h3 : l == [111, 117, 116] with
        | true => simp [P_is_name, Fn.start, isaAny, isaD, fbD, lenD, hL, L.signs, walkD, h1, h2, h3]
        | false =>
          cases h4 : l == [121, 97, 114, 100] with
          | true => simp [P_is_name, Fn.start, isaAny, isaD, fbD, lenD, hL, L.signs, walkD, h1, h2, h3, h4]
          | false => simp [P_is_name, Fn.start, isaAny, isaD, fbD, lenD, hL, L.signs, walkD, h1, h2, h3, h4, key, e1]
      · simp [P_is_name, Fn.start, isaAny, isaD, fbD, lenD, hL, L.signs, walkD, h1, h2]
    · simp [P_is_name, Fn.start, isaAny, isaD, fbD, lenD, hL, L.signs, walkD, h1]
  · rw [e2]
    simp [P_is_name, Fn.start, e]
structure WriteT (T : Text) : Prop where
  add_ : Is T "Add.written" M_Add_written
  one_ : Is T "OfCard.written" M_OfCard_written
  wait_ : Is T "Wait.written" M_Wait_written
  let_ : Is T "Let.written" M_Let_written
  bound_ : Is T "Bound.written" M_Bound_written
  pullw : Is T "Pull.word" M_Pull_word
  backw : Is T "Back.word" M_Back_word
  blockw : Is T "Block.word" M_Block_word
  clearw : Is T "Clear.word" M_Clear_word
  m1 : T.meth "Add" "written" = some "Add.written" ∧ T.meth "Wait" "written" = some "Wait.written" ∧ T.meth "Let" "written" = some "Let.written" ∧ T.meth "Bound" "written" = some "Bound.written"
  m2 : T.meth "Pull" "written" = some "OfCard.written" ∧ T.meth "Back" "written" = some "OfCard.written" ∧ T.meth "Block" "written" = some "OfCard.written" ∧ T.meth "Clear" "written" = some "OfCard.written"
  m3 : T.meth "Pull" "word" = some "Pull.word" ∧ T.meth "Back" "word" = some "Back.word" ∧ T.meth "Block" "word" = some "Block.word" ∧ T.meth "Clear" "word" = some "Clear.word"
  fAdd : T.flds "Add" "card" = true ∧ T.flds "Add" "kind" = true
  fOne : T.flds "Pull" "card" = true ∧ T.flds "Back" "card" = true ∧ T.flds "Block" "card" = true ∧ T.flds "Clear" "card" = true
  fWait : T.flds "Wait" "card" = true ∧ T.flds "Wait" "lane" = true ∧ T.flds "Wait" "other" = true
  fLet : T.flds "Let" "card" = true ∧ T.flds "Let" "other" = true
  fBound : T.flds "Bound" "lane" = true ∧ T.flds "Bound" "bound" = true
def Deed.wfn : Deed → String
  | .add _ _ => "Add.written" | .wait _ _ _ => "Wait.written" | .lets _ _ => "Let.written" | .bound _ _ => "Bound.written" | _ => "OfCard.written"
theorem meth_written (L : WriteT T) (n : Nat) (S : Store) (d : Deed) : methOf (ctxN T n) S "written" (deedD d) = some d.wfn := by
  obtain ⟨a1, a2, a3, a4⟩ := L.m1
  obtain ⟨b1, b2, b3, b4⟩ := L.m2
  cases d with
  | add _ _ => exact a1
  | wait _ _ _ => exact a2
  | lets _ _ => exact a3
  | bound _ _ => exact a4
  | pull _ => exact b1
  | back _ => exact b2
  | block _ => exact b3
  | clear _ => exact b4
theorem written_sp (L : WriteT T) (n : Nat) (d : Deed) (h : d.read) (b : Nat) (S : Store) : callN T (n + 2) d.wfn false [deedD d] b S = .ok (.str (deedS d)) S := by
  have big : ∀ l : List Nat, isNm l = true → l.length ≤ 8 := fun l h => nm_len h
  cases d with
  | add l k =>
    obtain ⟨f1, f2⟩ := L.fAdd
    have h1 := big _ h.1
    have h2 := big _ h.2
    rw [show (Deed.add l k).wfn = "Add.written" from rfl, call_is L.add_ rfl]
    simp [M_Add_written, Fn.start, deedD, fldOf_ins, f1, f2, fldD, bop_add_str, (show l.length ≤ 1000 by omega), (show l.length + 1 ≤ 1000 by omega), (show k.length ≤ 1000 by omega), (show 4 + (l.length + 1) ≤ 1000 by omega), deedS, deedW, joinL, (show l.length + 1 + 4 ≤ 1000 by omega), (show l.length + 4 ≤ 1000 by omega), (show l.length + 4 + 1 ≤ 1000 by omega)]
  | pull l =>
    have h1 := big _ h
    have m := L.m3.1
    have e : ∀ b S, callN T (n + 1) "Pull.word" false [.ins "Pull" ["card"] [.str l]] b S = .ok (.str [112, 117, 108, 108]) S := fun b S => by
      rw [call_is L.pullw rfl]
      simp [M_Pull_word, Fn.start]
    rw [show (Deed.pull l).wfn = "OfCard.written" from rfl, call_is L.one_ rfl]
    simp [M_OfCard_written, Fn.start, deedD, methOf_ins, m, e, fldOf_ins, L.fOne.1, fldD, bop_add_str, (show l.length ≤ 1000 by omega), deedS, deedW, joinL]
  | back l =>
    have h1 := big _ h
    have m := L.m3.2.1
    have e : ∀ b S, callN T (n + 1) "Back.word" false [.ins "Back" ["card"] [.str l]] b S = .ok (.str [98, 97, 99, 107]) S := fun b S => by
      rw [call_is L.backw rfl]
      simp [M_Back_word, Fn.start]
    rw [show (Deed.back l).wfn = "OfCard.written" from rfl, call_is L.one_ rfl]
    simp [M_OfCard_written, Fn.start, deedD, methOf_ins, m, e, fldOf_ins, L.fOne.2.1, fldD, bop_add_str, (show l.length ≤ 1000 by omega), deedS, deedW, joinL]
  | block l =>
    have h1 := big _ h
    have m := L.m3.2.2.1
    have e : ∀ b S, callN T (n + 1) "Block.word" false [.ins "Block" ["card"] [.str l]] b S = .ok (.str [98, 108, 111, 99, 107]) S := fun b S => by
      rw [call_is L.blockw rfl]
      simp [M_Block_word, Fn.start]
    rw [show (Deed.block l).wfn = "OfCard.written" from rfl, call_is L.one_ rfl]
    simp [M_OfCard_written, Fn.start, deedD, methOf_ins, m, e, fldOf_ins, L.fOne.2.2.1, fldD, bop_add_str, (show l.length ≤ 1000 by omega), deedS, deedW, joinL]
  | clear l =>
    have h1 := big _ h
    have m := L.m3.2.2.2
    have e : ∀ b S, callN T (n + 1) "Clear.word" false [.ins "Clear" ["card"] [.str l]] b S = .ok (.str [99, 108, 101, 97, 114]) S := fun b S => by
      rw [call_is L.clearw rfl]
      simp [M_Clear_word, Fn.start]
    rw [show (Deed.clear l).wfn = "OfCard.written" from rfl, call_is L.one_ rfl]
    simp [M_OfCard_written, Fn.start, deedD, methOf_ins, m, e, fldOf_ins, L.fOne.2.2.2, fldD, bop_add_str, (show l.length ≤ 1000 by omega), deedS, deedW, joinL]
  | wait l k m =>
    obtain ⟨f1, f2, f3⟩ := L.fWait
    have hl := deedS_len (d := .wait l k m) h
    have j : mbD .join (.str [32]) [.lst ([[119, 97, 105, 116], l, k, m].map .str)] = some (.str (deedS (.wait l k m))) := by
      simp only [mbD, txts_strs]
      have h1 := big _ h.1
      have h2 := big _ h.2.2
      have h3 : k.length ≤ 8 := by
        rcases h.2.1 with rfl | q
        · decide
        · exact big _ q
      rw [if_pos (by unfold LIM; simp; omega), join_eq]
      rfl
    simp only [List.map_cons, List.map_nil] at j
    rw [show (Deed.wait l k m).wfn = "Wait.written" from rfl, call_is L.wait_ rfl]
    simp [M_Wait_written, Fn.start, deedD, fldOf_ins, f1, f2, f3, fldD, kindD, mbId, bmD, MB.writes, j]
  | lets l m =>
    obtain ⟨f1, f2⟩ := L.fLet
    have h1 := big _ h.1
    have h2 := big _ h.2
    rw [show (Deed.lets l m).wfn = "Let.written" from rfl, call_is L.let_ rfl]
    simp [M_Let_written, Fn.start, deedD, fldOf_ins, f1, f2, fldD, bop_add_str, (show l.length ≤ 1000 by omega), (show l.length + 1 ≤ 1000 by omega), (show m.length ≤ 1000 by omega), (show 4 + (l.length + 1) ≤ 1000 by omega), deedS, deedW, joinL, (show l.length + 1 + 4 ≤ 1000 by omega), (show l.length + 4 ≤ 1000 by omega), (show l.length + 4 + 1 ≤ 1000 by omega)]
  | bound l x =>
    obtain ⟨f1, f2⟩ := L.fBound
    have h1 := big _ h.1
    have sx : fbD .str [.int x] = some (.str (strI x)) := by
      show (if x.natAbs < 2 ^ 1000 then some (D.str (strI x)) else none) = _
      have h2 := h.2
      have : x.natAbs ≤ 99 := by omega
      exact if_pos (Nat.lt_of_le_of_lt this (by decide +kernel))
    have lx : (strI x).length ≤ 2 := by
      obtain ⟨n, rfl⟩ : ∃ n : Nat, x = n := ⟨x.toNat, by have := h.2; omega⟩
      obtain ⟨a, _⟩ := num_facts n (by have := h.2; omega) (by have := h.2; omega)
      simp at a
      omega
    rw [show (Deed.bound l x).wfn = "Bound.written" from rfl, call_is L.bound_ rfl]
    simp [M_Bound_written, Fn.start, deedD, fldOf_ins, f1, f2, fldD, sx, bop_add_str, (show l.length ≤ 1000 by omega), (show l.length + 1 ≤ 1000 by omega), (show (strI x).length ≤ 1000 by omega), (show 6 + (l.length + 1) ≤ 1000 by omega), deedS, deedW, joinL, (show l.length + 1 + 6 ≤ 1000 by omega), (show l.length + 6 ≤ 1000 by omega), (show l.length + 6 + 1 ≤ 1000 by omega)]
end
end CL
namespace CL
open PySem PySem.Spec PyProof.Rows L2
structure ReadT (T : Text) : Prop where
  name : NameT1 T
  num : Is T "number_in" P_number_in
  bound : Is T "bound_in" P_bound_in
  one : Is T "of_one" P_of_one
  two : Is T "of_two" P_of_two
  deed : Is T "deed_of" P_deed_of
  read : Is T "read_deed" P_read_deed
  figs : T.con "FIGURES" = some (.str [48, 49, 50, 51, 52, 53, 54, 55, 56, 57])
  most : T.con "MOST_BOUND" = some (.int 99)
  obj : ObjT T
theorem nmD_str {l : List Nat} (h : isNm l = true) : nmD (.str l) = true := h
section
variable {T : Text}
theorem number_in_sp (L : ReadT T) (n : Nat) (x : Int) (h1 : 1 ≤ x) (h2 : x ≤ 99) (b : Nat) (S : Store) : callN T (n + 1) "number_in" false [.str (strI x), .int 99] b S = .ok (.int x) S := by
  rw [call_is L.num rfl]
  obtain ⟨m, rfl⟩ : ∃ m : Nat, x = m := ⟨x.toNat, by omega⟩
  obtain ⟨a1, a2, a3, a4⟩ := num_facts m (by omega) (by omega)
  have st : fbD .str [.int 99] = some (.str (strI 99)) := by
    show (if (99 : Int).natAbs < 2 ^ 1000 then some (D.str (strI 99)) else none) = _
    exact if_pos (by decide +kernel)
  rw [str99] at st
  generalize strI (m : Int) = w at a1 a2 a3 a4
  have wl : 1 ≤ w.length ∧ w.length ≤ 2 := by simp at a1; omega
  have it : fbD .int [.str w] = some (.int m) := by
    show (if w.length ≤ 640 then (intText? ⟨w.toArray⟩).map D.int else none) = _
    rw [if_pos (by omega), a4]
    rfl
  obtain ⟨c, cs, rfl⟩ : ∃ c cs, w = c :: cs := by
    cases w with
    | nil => simp at wl
    | cons c cs => exact ⟨c, cs, rfl⟩
  have c48 : ¬ c = 48 := by simpa using a3
  have c48' : ((c : Nat) == 48) = false := by simpa using c48
  have wk : walkD S (.str (c :: cs)) = some ⟨(c :: cs).map fun c => .str [c], []⟩ := rfl
  have lw := len_str (c :: cs) (by omega)
  have l2 : lenD (.str [57, 57]) = some 2 := rfl
  have i0 : idxD (.str (c :: cs)) (.int 0) = some (.str [c]) := by
    rw [idx_str _ _ (by omega)]
    rfl
  have key : ∀ ρ : Env, ρ[0]? = some (some (.str (c :: cs))) → lcQ (c :: cs) (fun a S' => lcTwo (ctxN T n) S.length (.var 2) (.cmp .notIn (.var 2) (.gcon "FIGURES")) (.one 2) (.str [a]) [some (.str (c :: cs)), some (.int 99), none] S') S = .ok [] S := fun ρ _ => by
    rw [lcQ_in (c :: cs) _ (fun a S' => if a ∉ figs then .ok (some (.str [a])) S' else .ok none S') fun a ha S' => by
      have am : a ∈ figs := by
        have := List.all_eq_true.mp a2 a ha
        simpa using this
      have am' := am
      unfold figs at am'
      simp [L.figs, cmpD, inD, am, am']]
    rw [lcQ_if _ _ _ (lim_ok (by omega))]
    have : ((c :: cs).filter fun a => decide (a ∉ figs)) = [] := by
      rw [List.filter_eq_nil_iff]
      intro a ha
      have := List.all_eq_true.mp a2 a ha
      simpa using this
    rw [this]
    rfl
  have key2 := key [some (.str (c :: cs)), some (.int 99), none] rfl
  have nn : cmpD .ne (.lst []) (.lst []) = some false := rfl
  simp [P_number_in, Fn.start, -List.map_cons, wk]
  rw [lcAll_q]
  simp only [wipe_one]
  rw [show (List.set (List.map some [D.str (c :: cs), D.int 99] ++ [none]) 2 none) = [some (D.str (c :: cs)), some (D.int 99), none] from rfl, key2]
  have m99 : ¬ ((99 : Int) < m) := by omega
  have l2' : ¬ ((2 : Int) < ((c :: cs).length : Nat)) := by omega
  simp only [List.length_cons] at lw l2' wl
  have l2'' : ¬ ((2 : Int) < (cs.length : Int) + 1) := by omega
  simp [nn, i0, c48, c48', lw, st, l2, it, m99, l2'']
theorem bound_in_sp (L : ReadT T) (n : Nat) (x : Int) (h1 : 1 ≤ x) (h2 : x ≤ 99) (b : Nat) (S : Store) : callN T (n + 2) "bound_in" false [.str (strI x)] b S = .ok (.int x) S := by
  rw [call_is L.bound rfl]
  have e := number_in_sp L n x h1 h2 S.length S
  have x0 : ¬ x = 0 := by omega
  have x0' : (x == 0) = false := by simpa using x0
  simp [P_bound_in, Fn.start, L.most, e, x0, x0']
theorem read_deed_sp (L : ReadT T) (n : Nat) (d : Deed) (h : d.read) (b : Nat) (S : Store) : callN T (n + 5) "read_deed" false [.str (deedS d)] b S = .ok (deedD d) S := by
  have fi : fin false false S.length S (deedD d) = .ok (deedD d) S := by
    cases d <;> simp [deedD, fin, res, D.lim]
  have nmS : ∀ (m : Nat) (l : List Nat) (b : Nat) (S : Store), isNm l = true → callN T (m + 1) "is_name" false [.str l] b S = .ok (.bl true) S := fun m l b S hl => by
    have := is_name_sp1 L.name m (.str l) b S (short_str (by have := nm_len hl; omega))
    rw [this, nmD_str hl]
  have sp := split_joinL (deedW d) (by cases d <;> simp [deedW]) (deedW_sign h) (by have := deedS_len h; unfold deedS at this; omega)
  have isn : cmpD .is (deedD d) .non = some false := by cases d <;> rfl
  have name1 : ∃ w0 l rest, deedW d = w0 :: l :: rest ∧ isNm l = true := by
    cases d with
    | add l k => exact ⟨_, _, _, rfl, h.1⟩
    | wait l k m => exact ⟨_, _, _, rfl, h.1⟩
    | lets l m => exact ⟨_, _, _, rfl, h.1⟩
    | bound l x => exact ⟨_, _, _, rfl, h.1⟩
    | pull l => exact ⟨_, _, _, rfl, h⟩
    | back l => exact ⟨_, _, _, rfl, h⟩
    | block l => exact ⟨_, _, _, rfl, h⟩
    | clear l => exact ⟨_, _, _, rfl, h⟩
  have od : callN T (n + 4) "deed_of" false [.lst ((deedW d).map .str)] S.length S = .ok (deedD d) S := by
    have fd : ∀ d : Deed, fin false false S.length S (deedD d) = .ok (deedD d) S := fun d => by cases d <;> simp [deedD, fin, res, D.lim]
    rw [call_is L.deed rfl]
    cases d with
    | pull l =>
      have e : callN T (n + 3) "of_one" false [.str [112, 117, 108, 108], .str l] S.length S = .ok (deedD (.pull l)) S := by
        rw [call_is L.one rfl]
        simp [P_of_one, Fn.start, make_pull L.obj n]
        try exact fd _
      simp [P_deed_of, Fn.start, deedW, e]
      try exact fd _
    | back l =>
      have e : callN T (n + 3) "of_one" false [.str [98, 97, 99, 107], .str l] S.length S = .ok (deedD (.back l)) S := by
        rw [call_is L.one rfl]
        simp [P_of_one, Fn.start, make_back L.obj n]
        try exact fd _
      simp [P_deed_of, Fn.start, deedW, e]
      try exact fd _
    | block l =>
      have e : callN T (n + 3) "of_one" false [.str [98, 108, 111, 99, 107], .str l] S.length S = .ok (deedD (.block l)) S := by
        rw [call_is L.one rfl]
        simp [P_of_one, Fn.start, make_block L.obj n]
        try exact fd _
      simp [P_deed_of, Fn.start, deedW, e]
      try exact fd _
    | clear l =>
      have e : callN T (n + 3) "of_one" false [.str [99, 108, 101, 97, 114], .str l] S.length S = .ok (deedD (.clear l)) S := by
        rw [call_is L.one rfl]
        simp [P_of_one, Fn.start, make_clear L.obj n]
        try exact fd _
      simp [P_deed_of, Fn.start, deedW, e]
      try exact fd _
    | add l k =>
      have e1 := fun S => nmS (n + 1) k S.length S h.2
      have e : callN T (n + 3) "of_two" false [.str [97, 100, 100], .str l, .str k] S.length S = .ok (deedD (.add l k)) S := by
        rw [call_is L.two rfl]
        simp [P_of_two, Fn.start, e1, make_add L.obj n]
        try exact fd _
      simp [P_deed_of, Fn.start, deedW, e]
      try exact fd _
    | lets l k =>
      have e1 := fun S => nmS (n + 1) k S.length S h.2
      have e : callN T (n + 3) "of_two" false [.str [108, 101, 116], .str l, .str k] S.length S = .ok (deedD (.lets l k)) S := by
        rw [call_is L.two rfl]
        simp [P_of_two, Fn.start, e1, make_let L.obj n]
        try exact fd _
      simp [P_deed_of, Fn.start, deedW, e]
      try exact fd _
    | bound l x =>
      have e1 := fun b S => bound_in_sp L n x h.2.1 h.2.2 b S
      have ni : cmpD .isNot (.int x) .non = some true := rfl
      have e : callN T (n + 3) "of_two" false [.str [98, 111, 117, 110, 100], .str l, .str (strI x)] S.length S = .ok (deedD (.bound l x)) S := by
        rw [call_is L.two rfl]
        simp [P_of_two, Fn.start, e1, ni, make_bound L.obj n]
        try exact fd _
      simp [P_deed_of, Fn.start, deedW, e]
      try exact fd _
    | wait l k m =>
      have e1 := fun S => nmS (n + 2) m S.length S h.2.2
      rcases h.2.1 with rfl | q
      · simp [P_deed_of, Fn.start, deedW, e1, outT, make_wait L.obj (n + 1)]
        try exact fd _
      · have e2 := fun S => nmS (n + 2) k S.length S q
        by_cases c : k = outT
        · subst c
          simp [P_deed_of, Fn.start, deedW, e1, outT, make_wait L.obj (n + 1)]
          try exact fd _
        · have c' : (k == [111, 117, 116]) = false := by simpa [outT] using c
          simp [P_deed_of, Fn.start, deedW, e1, e2, c', make_wait L.obj (n + 1)]
          try exact fd _
  rw [call_is L.read rfl]
  obtain ⟨w0, l, rest, hw, hl⟩ := name1
  have e3 := nmS (n + 3) l S.length S hl
  unfold deedS
  have is1 : isaAny (ctxN T (n + 4)) (.str (joinL [32] (deedW d))) ["str"] = some true := rfl
  generalize joinL [32] (deedW d) = tx at sp is1
  rw [hw] at sp od
  have r0 : ¬ ((rest.length : Int) + 1 + 1 < 2) := by omega
  simp only [List.map_cons] at sp od
  simp [P_read_deed, Fn.start, is1, kindD, mbId, bmD, MB.writes, sp, r0, e3, od, isn]
  try exact fi
end
end CL
namespace CL
open PySem PySem.Spec PyProof.Rows L2
theorem num_le {x : Int} (h : bdOk x) : (strI x).length ≤ 2 := by
  obtain ⟨h1, h2⟩ := h
  obtain ⟨n, rfl⟩ : ∃ n : Nat, x = n := ⟨x.toNat, by omega⟩
  obtain ⟨a, _⟩ := num_facts n (by omega) (by omega)
  simp at a
  omega
theorem num_no {x : Int} (h : bdOk x) {c : Nat} (hc : c ∉ figs) : c ∉ strI x := fun m => by
  obtain ⟨h1, h2⟩ := h
  obtain ⟨n, rfl⟩ : ∃ n : Nat, x = n := ⟨x.toNat, by omega⟩
  obtain ⟨_, a, _⟩ := num_facts n (by omega) (by omega)
  have := List.all_eq_true.mp a c m
  exact hc (by simpa using this)
theorem fb_num {x : Int} (h : bdOk x) : fbD .str [.int x] = some (.str (strI x)) := by
  show (if x.natAbs < 2 ^ 1000 then some (D.str (strI x)) else none) = _
  obtain ⟨h1, h2⟩ := h
  have : x.natAbs ≤ 99 := by omega
  exact if_pos (Nat.lt_of_le_of_lt this (by decide +kernel))
theorem joinL_len (sep : List Nat) (hs : sep.length ≤ 1) (m : Nat) : ∀ ls : List (List Nat), (∀ w ∈ ls, w.length ≤ m) → (joinL sep ls).length ≤ (m + 1) * ls.length := by
  have key : ∀ ls : List (List Nat), (∀ w ∈ ls, w.length ≤ m) → (ls.flatMap (sep ++ ·)).length ≤ (m + 1) * ls.length := by
    intro ls
    induction ls with
    | nil => intro _; simp
    | cons a ls ih =>
      intro h
      have h1 := ih fun w hw => h w (List.mem_cons_of_mem _ hw)
      have h2 := h a List.mem_cons_self
      rw [List.flatMap_cons, List.length_append, List.length_append, List.length_cons, Nat.mul_succ]
      omega
  intro ls h
  cases ls with
  | nil => simp [joinL]
  | cons a ls =>
    have h1 := key ls fun w hw => h w (List.mem_cons_of_mem _ hw)
    have h2 := h a List.mem_cons_self
    rw [joinL, List.length_append, List.length_cons, Nat.mul_succ]
    omega
theorem join_sp (c : Nat) (ls : List (List Nat)) (h1 : ∀ w ∈ ls, w.length ≤ 1000) (h2 : ls.length ≤ 1000) : mbD .join (.str [c]) [.lst (ls.map .str)] = some (.str (joinL [c] ls)) := by
  have sm : ∀ ls : List (List Nat), (∀ w ∈ ls, w.length ≤ 1000) → (ls.map List.length).sum ≤ 1000 * ls.length := by
    intro ls
    induction ls with
    | nil => intro _; simp
    | cons a ls ih =>
      intro hh
      have := ih fun w hw => hh w (List.mem_cons_of_mem _ hw)
      have := hh a List.mem_cons_self
      simp only [List.map_cons, List.sum_cons, List.length_cons]
      omega
  have := sm _ h1
  simp only [mbD, txts_strs]
  rw [if_pos (by unfold LIM; simp only [List.length_singleton]; omega), join_eq]
end CL
namespace CL
open PySem PySem.Spec PyProof.Rows L2
theorem cut_loG {α : Type} (l : List α) (i : Int) (h : 0 ≤ i) (h2 : i ≤ l.length) : cutL l (some i) none = l.drop i.toNat := by
  unfold cutL clipI
  have : ¬ i < 0 := by omega
  simp only [this, if_false]
  rw [Nat.min_eq_left (by omega), List.take_of_length_le (by simp)]
theorem nmS {T : Text} (L : NameT1 T) (n : Nat) {l : List Nat} (hl : isNm l = true) (b : Nat) (S : Store) : callN T (n + 1) "is_name" false [.str l] b S = .ok (.bl true) S := by
  have := is_name_sp1 L n (.str l) b S (short_str (by have := nm_len hl; omega))
  rw [this]
  show R.ok (D.bl (isNm l)) S = _
  rw [hl]
end CL
namespace CL
open PySem PySem.Spec PyProof.Rows L2
@[simp] theorem ev_newdKR {c : Ctx} {b : Nat} {ρ : Env} {S : Store} : ev c b .newdK ρ S = .ok (.ref S.length) (S ++ [.dic false [] []]) := by simp only [ev]
def refsD (n : Nat) (k : Nat) : List D := (List.range k).map fun i => D.ref (n + i)
def hS (S : Store) (ks : List (List Nat)) (got : List (List (List Nat))) : Store := S ++ Cell.dic false (ks.map .str) (refsD (S.length + 1) ks.length) :: got.map fun g => Cell.lst (g.map .str)
def inL (p : Plan) (s : Stand) : List (List Nat) := (s.cards.map (·.name)).filter fun l => decide (l ∉ outNames p s)
end CL
namespace CL
open PySem PySem.Spec PyProof.Rows L2
theorem eq_nil_dat {ds : List D} (h : (D.lst ds).dat dp = true) : cmpD .eq (.lst ds) (.lst []) = some ds.isEmpty := by
  show eqD _ _ = _
  unfold eqD
  rw [h]
  show some (D.eqvL ds []) = _
  cases ds <;> rfl
theorem ne_nil_dat {ds : List D} (h : (D.lst ds).dat dp = true) : cmpD .ne (.lst ds) (.lst []) = some (!ds.isEmpty) := by
  show (eqD _ _).map (!·) = _
  have := eq_nil_dat h
  have e : eqD (.lst ds) (.lst []) = some ds.isEmpty := this
  rw [e]
  rfl
end CL
namespace CL
open PySem PySem.Spec PyProof.Rows L2
def cutW (c : Nat) : List Nat → List (List Nat)
  | [] => [[]]
  | x :: w => if x = c then [] :: cutW c w else match cutW c w with
    | a :: r => (x :: a) :: r
    | [] => [[x]]
theorem cutW_ne (c : Nat) : ∀ w, cutW c w ≠ []
  | [] => by simp [cutW]
  | x :: w => by
    unfold cutW
    split
    · simp
    · split <;> simp
theorem cutW_no (c : Nat) : ∀ w, ∀ a ∈ cutW c w, c ∉ a
  | [] => by simp [cutW]
  | x :: w => by
    intro a ha
    have ih := cutW_no c w
    unfold cutW at ha
    split at ha
    · rcases List.mem_cons.mp ha with rfl | h
      · simp
      · exact ih a h
    · rename_i hx
      split at ha
      · rename_i b r e
        rw [e] at ih
        rcases List.mem_cons.mp ha with rfl | h
        · rw [List.mem_cons, not_or]
          exact ⟨fun z => hx z.symm, ih b List.mem_cons_self⟩
        · exact ih a (List.mem_cons_of_mem _ h)
      · rw [List.mem_singleton.mp ha, List.mem_singleton]
        exact fun z => hx z.symm
theorem cutW_join (c : Nat) : ∀ w, joinL [c] (cutW c w) = w
  | [] => rfl
  | x :: w => by
    have ih := cutW_join c w
    have ne := cutW_ne c w
    unfold cutW
    split
    · rename_i hx
      subst hx
      cases e : cutW x w with
      | nil => exact absurd e ne
      | cons a r =>
        rw [e] at ih
        rw [← ih]
        simp [joinL]
    · split
      · rename_i b r e
        rw [e] at ih
        rw [← ih]
        simp [joinL]
      · rename_i e
        exact absurd e ne
theorem cutW_len (c : Nat) : ∀ w, ∀ a ∈ cutW c w, a.length ≤ w.length
  | [] => by simp [cutW]
  | x :: w => by
    intro a ha
    have ih := cutW_len c w
    unfold cutW at ha
    rw [List.length_cons]
    split at ha
    · rcases List.mem_cons.mp ha with rfl | h
      · simp
      · have := ih a h; omega
    · split at ha
      · rename_i b r e
        rw [e] at ih
        rcases List.mem_cons.mp ha with rfl | h
        · have := ih b List.mem_cons_self
          rw [List.length_cons]; omega
        · have := ih a (List.mem_cons_of_mem _ h); omega
      · rw [List.mem_singleton.mp ha]; simp
theorem cutW_many (c : Nat) : ∀ w, (cutW c w).length ≤ w.length + 1
  | [] => by simp [cutW]
  | x :: w => by
    have ih := cutW_many c w
    unfold cutW
    rw [List.length_cons]
    split
    · rw [List.length_cons]; omega
    · split
      · rename_i b r e
        rw [e, List.length_cons] at ih
        rw [List.length_cons]; omega
      · simp
theorem split_cut (w : List Nat) (hl : w.length ≤ 1000) : mbD .split (.str w) [.str [32]] = some (.lst ((cutW 32 w).map .str)) := by
  have := split_joinL (cutW 32 w) (cutW_ne 32 w) (cutW_no 32 w) (by rw [cutW_join]; exact hl)
  rwa [cutW_join] at this
def isBd (w : List Nat) : Bool := decide (0 < w.length ∧ w.length < 3) && (decide (w.head? ≠ some 48) && w.all fun c => decide (c ∈ figs))
theorem bd_one : ∀ c ∈ figs, c ≠ 48 → (1 ≤ c - 48 ∧ c - 48 ≤ 99) ∧ strI ((c - 48 : Nat) : Int) = [c] := by decide +kernel
theorem bd_two : ∀ c ∈ figs, ∀ d ∈ figs, c ≠ 48 → (1 ≤ (c - 48) * 10 + (d - 48) ∧ (c - 48) * 10 + (d - 48) ≤ 99) ∧ strI (((c - 48) * 10 + (d - 48) : Nat) : Int) = [c, d] := by decide +kernel
theorem isBd_num {w : List Nat} (h : isBd w = true) : ∃ x : Int, 1 ≤ x ∧ x ≤ 99 ∧ strI x = w := by
  unfold isBd at h
  simp only [Bool.and_eq_true, decide_eq_true_eq, List.all_eq_true] at h
  obtain ⟨⟨h1, h2⟩, h3, h4⟩ := h
  match w, h1, h2, h3, h4 with
  | [c], _, _, h3, h4 =>
    obtain ⟨⟨a, b⟩, e⟩ := bd_one c (h4 c (by simp)) (by simpa using h3)
    exact ⟨_, by omega, by omega, e⟩
  | [c, d], _, _, h3, h4 =>
    obtain ⟨⟨a, b⟩, e⟩ := bd_two c (h4 c (by simp)) d (h4 d (by simp)) (by simpa using h3)
    exact ⟨_, by omega, by omega, e⟩
  | _ :: _ :: _ :: _, _, h2, _, _ => simp at h2; omega
def isDeedL : List (List Nat) → Bool
  | [w, a] => (w == [112, 117, 108, 108] || (w == [98, 97, 99, 107] || (w == [98, 108, 111, 99, 107] || w == [99, 108, 101, 97, 114]))) && isNm a
  | [w, a, k] => isNm a && ((w == [97, 100, 100] && isNm k) || ((w == [108, 101, 116] && isNm k) || (w == [98, 111, 117, 110, 100] && isBd k)))
  | [w, a, k, m] => w == [119, 97, 105, 116] && (isNm a && ((k == [111, 117, 116] || isNm k) && isNm m))
  | _ => false
theorem deed_of_words {ws : List (List Nat)} (h : isDeedL ws = true) : ∃ d : Deed, d.read ∧ deedW d = ws := by
  unfold isDeedL at h
  split at h
  · rename_i w a
    simp only [Bool.and_eq_true, Bool.or_eq_true, beq_iff_eq] at h
    obtain ⟨h1, h2⟩ := h
    rcases h1 with rfl | rfl | rfl | rfl
    · exact ⟨.pull a, h2, rfl⟩
    · exact ⟨.back a, h2, rfl⟩
    · exact ⟨.block a, h2, rfl⟩
    · exact ⟨.clear a, h2, rfl⟩
  · rename_i w a k
    simp only [Bool.and_eq_true, Bool.or_eq_true, beq_iff_eq] at h
    obtain ⟨h1, ⟨rfl, h2⟩ | ⟨rfl, h2⟩ | ⟨rfl, h2⟩⟩ := h
    · exact ⟨.add a k, ⟨h1, h2⟩, rfl⟩
    · exact ⟨.lets a k, ⟨h1, h2⟩, rfl⟩
    · obtain ⟨x, x1, x2, rfl⟩ := isBd_num h2
      exact ⟨.bound a x, ⟨h1, x1, x2⟩, rfl⟩
  · rename_i w a k m
    simp only [Bool.and_eq_true, Bool.or_eq_true, beq_iff_eq] at h
    obtain ⟨rfl, h1, h2, h3⟩ := h
    exact ⟨.wait a k m, ⟨h1, h2, h3⟩, rfl⟩
  · cases h
section
variable {T : Text}
theorem nmB (L : NameT1 T) (n : Nat) (a : List Nat) (hl : a.length ≤ 1000) (b : Nat) (S : Store) : callN T (n + 1) "is_name" false [.str a] b S = .ok (.bl (isNm a)) S := is_name_sp1 L n (.str a) b S (short_str hl)
theorem number_any (L : ReadT T) (n : Nat) (w : List Nat) (hl : w.length ≤ 1000) (h : isBd w = false) (b : Nat) (S : Store) : callN T (n + 1) "number_in" false [.str w, .int 99] b S = .ok (if w = [48] then .int 0 else .non) S := by
  rw [call_is L.num rfl]
  have st : fbD .str [.int 99] = some (.str (strI 99)) := by
    show (if (99 : Int).natAbs < 2 ^ 1000 then some (D.str (strI 99)) else none) = _
    exact if_pos (by decide +kernel)
  rw [str99] at st
  have wk : walkD S (.str w) = some ⟨w.map fun c => .str [c], []⟩ := rfl
  have key : lcQ w (fun a S' => lcTwo (ctxN T n) S.length (.var 2) (.cmp .notIn (.var 2) (.gcon "FIGURES")) (.one 2) (.str [a]) [some (.str w), some (.int 99), none] S') S = .ok ((w.filter fun a => decide (a ∉ figs)).map fun a => .str [a]) S := by
    rw [lcQ_in w _ (fun a S' => if a ∉ figs then .ok (some (.str [a])) S' else .ok none S') fun a ha S' => by
      by_cases am : a ∈ figs
      · have am' := am
        unfold figs at am'
        simp [L.figs, cmpD, inD, am, am']
      · have am' := am
        unfold figs at am'
        simp [L.figs, cmpD, inD, am, am']]
    rw [lcQ_if _ _ _ (lim_ok (by omega))]
  have nn : ∀ F : List Nat, cmpD .ne (.lst (F.map fun a => D.str [a])) (.lst []) = some (!F.isEmpty) := fun F => by
    cases F with
    | nil => rfl
    | cons a F => exact ne_nil_dat (ds := (a :: F).map fun a => D.str [a]) (datL_map (by decide) _ _ fun _ => rfl)
  by_cases w0 : w = []
  · subst w0
    simp [P_number_in, Fn.start]
  have w0' : (w == []) = false := beq_eq_false_iff_ne.mpr w0
  obtain ⟨c, cs, rfl⟩ : ∃ c cs, w = c :: cs := by
    cases w with
    | nil => exact absurd rfl w0
    | cons c cs => exact ⟨c, cs, rfl⟩
  have lw := len_str (c :: cs) (by omega)
  have l2 : lenD (.str [57, 57]) = some 2 := rfl
  have i0 : idxD (.str (c :: cs)) (.int 0) = some (.str [c]) := by
    rw [idx_str _ _ (by omega)]
    rfl
  have nn' := nn ((c :: cs).filter fun a => decide (a ∉ figs))
  have cases : (((c :: cs).filter fun a => decide (a ∉ figs)).isEmpty = false ∧ c :: cs ≠ [48]) ∨ (((c :: cs).filter fun a => decide (a ∉ figs)).isEmpty = true ∧ c = 48 ∧ cs = []) ∨ (((c :: cs).filter fun a => decide (a ∉ figs)).isEmpty = true ∧ c = 48 ∧ cs ≠ []) ∨ (((c :: cs).filter fun a => decide (a ∉ figs)).isEmpty = true ∧ c ≠ 48 ∧ 2 < (c :: cs).length) := by
    cases hF : ((c :: cs).filter fun a => decide (a ∉ figs)) with
    | cons a F =>
      refine .inl ⟨rfl, fun z => ?_⟩
      rw [z] at hF
      have : (([48] : List Nat).filter fun a => decide (a ∉ figs)) = [] := by decide
      rw [this] at hF
      cases hF
    | nil =>
      rw [List.filter_eq_nil_iff] at hF
      have all : ∀ a ∈ c :: cs, a ∈ figs := fun a ha => by have := hF a ha; simpa using this
      by_cases c48 : c = 48
      · by_cases cn : cs = []
        · exact .inr (.inl ⟨rfl, c48, cn⟩)
        · exact .inr (.inr (.inl ⟨rfl, c48, cn⟩))
      · refine .inr (.inr (.inr ⟨rfl, c48, ?_⟩))
        by_cases hl2 : 2 < (c :: cs).length
        · exact hl2
        · exfalso
          have : isBd (c :: cs) = true := by
            unfold isBd
            simp only [Bool.and_eq_true, decide_eq_true_eq, List.all_eq_true]
            refine ⟨⟨by simp, by omega⟩, by simpa using c48, all⟩
          rw [this] at h
          cases h
  generalize hr : (if c :: cs = [48] then D.int 0 else D.non) = r0
  simp [P_number_in, Fn.start, -List.map_cons, wk]
  rw [lcAll_q]
  simp only [wipe_one]
  rw [show (List.set (List.map some [D.str (c :: cs), D.int 99] ++ [none]) 2 none) = [some (D.str (c :: cs)), some (D.int 99), none] from rfl, key]
  generalize ((c :: cs).filter fun a => decide (a ∉ figs)) = F at nn' cases ⊢
  simp only [List.length_cons] at lw cases
  rcases cases with ⟨q1, q2⟩ | ⟨q1, rfl, rfl⟩ | ⟨q1, rfl, q3⟩ | ⟨q1, q2, q3⟩
  · rw [if_neg q2] at hr
    subst hr
    simp [nn', q1]
  · have it : fbD .int [.str [48]] = some (.int 0) := by
      show (if ([48] : List Nat).length ≤ 640 then (intText? ⟨([48] : List Nat).toArray⟩).map D.int else none) = _
      have i48 : intText? ⟨([48] : List Nat).toArray⟩ = some 0 := by decide +kernel
      rw [if_pos (by decide), i48]
      rfl
    rw [if_pos rfl] at hr
    subst hr
    simp [nn', q1, i0, lw, st, l2, it]
  · have q4 : ¬ (48 :: cs = [48]) := by simpa using q3
    have q5 : cs.isEmpty = false := by simpa using q3
    rw [if_neg q4] at hr
    subst hr
    simp [nn', q1, i0, q5]
  · have q4 : ¬ (c :: cs = [48]) := by simp [q2]
    have q5 : (2 : Int) < (cs.length : Int) + 1 := by omega
    have q6 : (c == 48) = false := by simpa using q2
    rw [if_neg q4] at hr
    subst hr
    simp [nn', q1, i0, q2, q6, lw, st, l2, q5]
theorem bound_none (L : ReadT T) (n : Nat) (w : List Nat) (hl : w.length ≤ 1000) (h : isBd w = false) (b : Nat) (S : Store) : callN T (n + 2) "bound_in" false [.str w] b S = .ok .non S := by
  rw [call_is L.bound rfl]
  have e := number_any L n w hl h S.length S
  have ce : cmpD .eq .non (.int 0) = some false := rfl
  by_cases q : w = [48]
  · rw [if_pos q] at e
    simp [P_bound_in, Fn.start, L.most, e]
  · rw [if_neg q] at e
    simp [P_bound_in, Fn.start, L.most, e, ce]
theorem deed_none (L : ReadT T) (n : Nat) (ws : List (List Nat)) (hl : ∀ w ∈ ws, w.length ≤ 1000) (h2 : 2 ≤ ws.length) (hm : ws.length ≤ 1001) (hn : isNm (ws[1]?.getD []) = true) (h : isDeedL ws = false) (b : Nat) (S : Store) :
    callN T (n + 4) "deed_of" false [.lst (ws.map .str)] b S = .ok .non S := by
  rw [call_is L.deed rfl]
  match ws, h2, hn, h, hl, hm with
  | [w, a], _, hn, h, hl, _ =>
    have hn' : isNm a = true := hn
    simp only [isDeedL, hn', Bool.and_true, Bool.or_eq_false_iff] at h
    obtain ⟨g1, g2, g3, g4⟩ := h
    have e : callN T (n + 3) "of_one" false [.str w, .str a] S.length S = .ok .non S := by
      rw [call_is L.one rfl]
      simp [P_of_one, Fn.start, g1, g2, g3, g4]
    simp [P_deed_of, Fn.start, e]
  | [w, a, k], _, hn, h, hl, _ =>
    have hn' : isNm a = true := hn
    simp only [isDeedL, hn', Bool.true_and, Bool.or_eq_false_iff] at h
    obtain ⟨g1, g2, g3⟩ := h
    have hk := hl k (by simp)
    have e1 := fun S => nmB L.name (n + 1) k hk S.length S
    have e : callN T (n + 3) "of_two" false [.str w, .str a, .str k] S.length S = .ok .non S := by
      rw [call_is L.two rfl]
      have b3 : w = [98, 111, 117, 110, 100] → isBd k = false := fun z => by
        rw [z] at g3; simpa using g3
      by_cases w1 : w = [97, 100, 100]
      · subst w1
        have kn : isNm k = false := by simpa using g1
        rw [kn] at e1
        simp [P_of_two, Fn.start, e1]
      · by_cases w2 : w = [108, 101, 116]
        · subst w2
          have kn : isNm k = false := by simpa using g2
          rw [kn] at e1
          simp [P_of_two, Fn.start, e1]
        · by_cases w3 : w = [98, 111, 117, 110, 100]
          · subst w3
            have e2 := fun b S => bound_none L n k hk (b3 rfl) b S
            have ni : cmpD .isNot .non .non = some false := rfl
            simp [P_of_two, Fn.start, e2, ni]
          · have w1' := beq_eq_false_iff_ne.mpr w1
            have w2' := beq_eq_false_iff_ne.mpr w2
            have w3' := beq_eq_false_iff_ne.mpr w3
            simp [P_of_two, Fn.start, w1', w2', w3']
    simp [P_deed_of, Fn.start, e]
  | [w, a, k, m], _, hn, h, hl, _ =>
    have hn' : isNm a = true := hn
    simp only [isDeedL, hn', Bool.true_and] at h
    have e1 := fun S => nmB L.name (n + 2) m (hl m (by simp)) S.length S
    have e2 := fun S => nmB L.name (n + 2) k (hl k (by simp)) S.length S
    by_cases w1 : w = [119, 97, 105, 116]
    · subst w1
      by_cases mn : isNm m = true
      · rw [mn] at h e1
        simp at h
        obtain ⟨k1, k2⟩ := h
        have k1' := beq_eq_false_iff_ne.mpr k1
        rw [k2] at e2
        simp [P_deed_of, Fn.start, e1, e2, k1']
      · have mn' : isNm m = false := by simpa using mn
        rw [mn'] at e1
        simp [P_deed_of, Fn.start, e1]
    · have w1' := beq_eq_false_iff_ne.mpr w1
      simp [P_deed_of, Fn.start, w1']
  | w :: a :: k :: m :: o :: r, _, hn, h, hl, hm =>
    have q1 : ¬ ((r.length : Int) + 1 + 1 + 1 + 1 + 1 = 2) := by omega
    have q2 : ¬ ((r.length : Int) + 1 + 1 + 1 + 1 + 1 = 3) := by omega
    have q3 : ¬ ((r.length : Int) + 1 + 1 + 1 + 1 + 1 = 4) := by omega
    have q1' := beq_eq_false_iff_ne.mpr q1
    have q2' := beq_eq_false_iff_ne.mpr q2
    have q3' := beq_eq_false_iff_ne.mpr q3
    simp [P_deed_of, Fn.start, q1', q2', q3']
theorem read_no (L : ReadT T) (hx : T.ex "NoText" = some (some ["row"])) (n : Nat) (w : List Nat) (hl : w.length ≤ 1000) (h : isDeedL (cutW 32 w) = false) (b : Nat) (S : Store) : callN T (n + 5) "read_deed" false [.str w] b S = .err "NoText" ["row"] [.int 0] S := by
  rw [call_is L.read rfl]
  have sp := split_cut w hl
  have ne := cutW_ne 32 w
  have ln := cutW_len 32 w
  have mn := cutW_many 32 w
  have is1 : isaAny (ctxN T (n + 4)) (.str w) ["str"] = some true := rfl
  have ra := fun ρ => raise_one (T := T) (n := n + 4) (by omega) hx (.int 0) (ρ := ρ) (S := S)
  rcases hw : cutW 32 w with _ | ⟨x, _ | ⟨a, r⟩⟩
  · exact absurd hw ne
  · rw [hw] at sp
    simp [P_read_deed, Fn.start, is1, kindD, mbId, bmD, MB.writes, sp, ra]
  · rw [hw] at sp ln h mn
    have e1 := nmB L.name (n + 3) a (by have := ln a (by simp); omega) S.length S
    have r0 : ¬ ((r.length : Int) + 1 + 1 < 2) := by omega
    by_cases an : isNm a = true
    · have od := deed_none L n (x :: a :: r) (fun w hw => by have := ln w hw; omega) (by simp) (by omega) an h S.length S
      simp only [List.map_cons] at sp od
      have ii : cmpD .is .non .non = some true := rfl
      rw [an] at e1
      simp [P_read_deed, Fn.start, is1, kindD, mbId, bmD, MB.writes, sp, r0, e1, od, ii, ra]
    · have an' : isNm a = false := by simpa using an
      rw [an'] at e1
      simp only [List.map_cons] at sp
      simp [P_read_deed, Fn.start, is1, kindD, mbId, bmD, MB.writes, sp, r0, e1, ra]
end
end CL
namespace CL
namespace K21
open PySem PySem.Spec PyProof.Rows L2
theorem T0 : LawT0 L.text := ⟨⟨_, rfl, rfl, rfl, rfl, rfl⟩, ⟨_, rfl, rfl, rfl, rfl, rfl⟩, ⟨_, rfl, rfl, rfl, rfl, rfl⟩⟩
theorem objT : ObjT L.text where
  add_i := ⟨_, rfl, rfl, rfl, rfl, rfl⟩
  one_i := ⟨_, rfl, rfl, rfl, rfl, rfl⟩
  wait_i := ⟨_, rfl, rfl, rfl, rfl, rfl⟩
  let_i := ⟨_, rfl, rfl, rfl, rfl, rfl⟩
  bound_i := ⟨_, rfl, rfl, rfl, rfl, rfl⟩
  add_c := rfl
  pull_c := rfl
  back_c := rfl
  block_c := rfl
  clear_c := rfl
  wait_c := rfl
  let_c := rfl
  bound_c := rfl
  fAdd := ⟨rfl, rfl⟩
  fOne := ⟨rfl, rfl, rfl, rfl⟩
  fWait := ⟨rfl, rfl, rfl⟩
  fLet := ⟨rfl, rfl⟩
  fBound := ⟨rfl, rfl⟩
theorem writeT : WriteT L.text where
  add_ := ⟨_, rfl, rfl, rfl, rfl, rfl⟩
  one_ := ⟨_, rfl, rfl, rfl, rfl, rfl⟩
  wait_ := ⟨_, rfl, rfl, rfl, rfl, rfl⟩
  let_ := ⟨_, rfl, rfl, rfl, rfl, rfl⟩
  bound_ := ⟨_, rfl, rfl, rfl, rfl, rfl⟩
  pullw := ⟨_, rfl, rfl, rfl, rfl, rfl⟩
  backw := ⟨_, rfl, rfl, rfl, rfl, rfl⟩
  blockw := ⟨_, rfl, rfl, rfl, rfl, rfl⟩
  clearw := ⟨_, rfl, rfl, rfl, rfl, rfl⟩
  m1 := ⟨rfl, rfl, rfl, rfl⟩
  m2 := ⟨rfl, rfl, rfl, rfl⟩
  m3 := ⟨rfl, rfl, rfl, rfl⟩
  fAdd := ⟨rfl, rfl⟩
  fOne := ⟨rfl, rfl, rfl, rfl⟩
  fWait := ⟨rfl, rfl, rfl⟩
  fLet := ⟨rfl, rfl⟩
  fBound := ⟨rfl, rfl⟩
theorem readT : ReadT L.text where
  name := ⟨⟨_, rfl, rfl, rfl, rfl, rfl⟩, rfl, rfl⟩
  num := ⟨_, rfl, rfl, rfl, rfl, rfl⟩
  bound := ⟨_, rfl, rfl, rfl, rfl, rfl⟩
  one := ⟨_, rfl, rfl, rfl, rfl, rfl⟩
  two := ⟨_, rfl, rfl, rfl, rfl, rfl⟩
  deed := ⟨_, rfl, rfl, rfl, rfl, rfl⟩
  read := ⟨_, rfl, rfl, rfl, rfl, rfl⟩
  figs := rfl
  most := rfl
  obj := objT
theorem textIs : Is L.text "_law_text" f__law_text := ⟨_, rfl, rfl, rfl, rfl, rfl⟩
theorem wordIs : Is L.text "_law_word" f__law_word := ⟨_, rfl, rfl, rfl, rfl, rfl⟩
theorem bentIs : Is L.text "_law_bent" f__law_bent := ⟨_, rfl, rfl, rfl, rfl, rfl⟩
theorem lnameIs : Is L.text "_law_is_name" f__law_is_name := ⟨_, rfl, rfl, rfl, rfl, rfl⟩
theorem lboundIs : Is L.text "_law_is_bound" f__law_is_bound := ⟨_, rfl, rfl, rfl, rfl, rfl⟩
theorem ldeedIs : Is L.text "_law_is_deed" f__law_is_deed := ⟨_, rfl, rfl, rfl, rfl, rfl⟩
theorem toldIs : Is L.text "_law_told" f__law_told := ⟨_, rfl, rfl, rfl, rfl, rfl⟩
def Wok (ls : List (List Nat)) : Prop := (∀ w ∈ ls, w.length ≤ 9) ∧ ls.length ≤ 5
theorem joinW {ls : List (List Nat)} (h : Wok ls) : (joinL [32] ls).length ≤ 50 := by
  have h1 := joinL_len [32] (by decide) 9 ls h.1
  have h2 := h.2
  have : (9 + 1) * ls.length ≤ 50 := by omega
  omega
theorem join_W {ls : List (List Nat)} (h : Wok ls) (b : Nat) (S : Store) : bmD .join (.str [32]) [.lst (ls.map .str)] b S = .ok (.str (joinL [32] ls)) S := by
  show R.of S (mbD .join (.str [32]) [.lst (ls.map .str)]) = _
  rw [join_sp 32 ls (fun w hw => by have := h.1 w hw; omega) (by have := h.2; omega)]
  rfl
theorem text_sp (n i b : Nat) (S : Store) (v : Int) (hi : i < S.length) : ∃ (ls : List (List Nat)) (v' : Int), (∀ w ∈ ls, w.length ≤ 8 ∧ 32 ∉ w) ∧ 2 ≤ ls.length ∧ ls.length ≤ 4 ∧ callN L.text (n + 3) "_law_text" false [.ref i] b (hold S i v) = .ok (.str (joinL [32] ls)) (hold S i v') := by
  suffices H : ∀ Q : R D → Prop, (∀ (ls : List (List Nat)) (v' : Int), (∀ w ∈ ls, w.length ≤ 8 ∧ 32 ∉ w) → 2 ≤ ls.length → ls.length ≤ 4 → Q (.ok (.str (joinL [32] ls)) (hold S i v'))) → Q (callN L.text (n + 3) "_law_text" false [.ref i] b (hold S i v)) from
    H (fun r => ∃ (ls : List (List Nat)) (v' : Int), (∀ w ∈ ls, w.length ≤ 8 ∧ 32 ∉ w) ∧ 2 ≤ ls.length ∧ ls.length ≤ 4 ∧ r = .ok (.str (joinL [32] ls)) (hold S i v')) fun ls v' h1 h2 h3 => ⟨ls, v', h1, h2, h3, rfl⟩
  intro Q hQ
  obtain ⟨nsL, v1, e1, n1, _, n3⟩ := words_sp0 T0 n i S.length S v 3 hi
  have e1' : callN L.text (n + 2) "_law_words" false [.ref i, .int 3] S.length (hold S i v) = .ok (.lst (nsL.map .str)) (hold S i v1) := e1
  match nsL, n1, n3, e1' with
  | [a0, a1, a2], _, n3, e1' =>
    have good : ∀ l : List Nat, isNm l = true → l.length ≤ 8 ∧ 32 ∉ l := fun l h => ⟨(nm_len h), nm_sign h⟩
    have g0 := good a0 (n3 a0 (by simp))
    have g1 := good a1 (n3 a1 (by simp))
    have g2 := good a2 (n3 a2 (by simp))
    have t2 := take_sp0 T0 (n + 1) i S.length S v1 99 hi (by decide) (by decide)
    have p2 := mod_in v1 99 (by decide)
    have hb : bdOk (1 + v1 % 99) := ⟨by omega, by omega⟩
    have fn := fb_num hb
    have gn : (strI (1 + v1 % 99)).length ≤ 8 ∧ 32 ∉ strI (1 + v1 % 99) := ⟨by have := num_le hb; omega, num_no hb (by decide)⟩
    have t3 := take_sp0 T0 (n + 1) i S.length S (v1 / 99) 2 hi (by decide) (by decide)
    obtain ⟨g, hg, gg⟩ : ∃ g : List Nat, atD [D.str a1, .str [111, 117, 116]] (v1 / 99 % 2) = some (.str g) ∧ g.length ≤ 8 ∧ 32 ∉ g := by
      have : v1 / 99 % 2 = 0 ∨ v1 / 99 % 2 = 1 := by omega
      rcases this with c | c <;> rw [c]
      · exact ⟨a1, rfl, g1⟩
      · exact ⟨[111, 117, 116], rfl, by decide, by decide⟩
    have t4 := take_sp0 T0 (n + 1) i S.length S (v1 / 99 / 2) 8 hi (by decide) (by decide)
    generalize strI (1 + v1 % 99) = nn at fn gn
    generalize v1 / 99 / 2 / 8 = v5 at t4
    have hs : slD none (some 2) (.lst [.str a0, .str a1, .str a2]) = some (.lst [.str a0, .str a1]) := rfl
    obtain ⟨ls, hl, k1, k2, k3⟩ : ∃ ls : List (List Nat), atD [D.lst [.str [97, 100, 100], .str a0, .str a1], .lst [.str [108, 101, 116], .str a0, .str a1], .lst [.str [98, 111, 117, 110, 100], .str a0, .str nn], .lst [.str [119, 97, 105, 116], .str a0, .str g, .str a2], .lst [.str [112, 117, 108, 108], .str a0], .lst [.str [98, 97, 99, 107], .str a0], .lst [.str [98, 108, 111, 99, 107], .str a0], .lst [.str [99, 108, 101, 97, 114], .str a0]] (v1 / 99 / 2 % 8) = some (.lst (ls.map .str)) ∧ (∀ w ∈ ls, w.length ≤ 8 ∧ 32 ∉ w) ∧ 2 ≤ ls.length ∧ ls.length ≤ 4 := by
      have al : ∀ (c : List Nat) (r : List (List Nat)), (c.length ≤ 8 ∧ 32 ∉ c) → (∀ w ∈ r, w.length ≤ 8 ∧ 32 ∉ w) → ∀ w ∈ c :: r, w.length ≤ 8 ∧ 32 ∉ w := fun c r h1 h2 w hw => by
        rcases List.mem_cons.mp hw with rfl | h
        · exact h1
        · exact h2 w h
      have nl : ∀ w ∈ ([] : List (List Nat)), w.length ≤ 8 ∧ 32 ∉ w := fun _ h => nomatch h
      have : v1 / 99 / 2 % 8 = 0 ∨ v1 / 99 / 2 % 8 = 1 ∨ v1 / 99 / 2 % 8 = 2 ∨ v1 / 99 / 2 % 8 = 3 ∨ v1 / 99 / 2 % 8 = 4 ∨ v1 / 99 / 2 % 8 = 5 ∨ v1 / 99 / 2 % 8 = 6 ∨ v1 / 99 / 2 % 8 = 7 := by omega
      rcases this with c | c | c | c | c | c | c | c <;> rw [c]
      · exact ⟨[_, _, _], rfl, al _ _ (by decide) (al _ _ g0 (al _ _ g1 nl)), by simp, by simp⟩
      · exact ⟨[_, _, _], rfl, al _ _ (by decide) (al _ _ g0 (al _ _ g1 nl)), by simp, by simp⟩
      · exact ⟨[_, _, _], rfl, al _ _ (by decide) (al _ _ g0 (al _ _ gn nl)), by simp, by simp⟩
      · exact ⟨[_, _, _, _], rfl, al _ _ (by decide) (al _ _ g0 (al _ _ gg (al _ _ g2 nl))), by simp, by simp⟩
      · exact ⟨[_, _], rfl, al _ _ (by decide) (al _ _ g0 nl), by simp, by simp⟩
      · exact ⟨[_, _], rfl, al _ _ (by decide) (al _ _ g0 nl), by simp, by simp⟩
      · exact ⟨[_, _], rfl, al _ _ (by decide) (al _ _ g0 nl), by simp, by simp⟩
      · exact ⟨[_, _], rfl, al _ _ (by decide) (al _ _ g0 nl), by simp, by simp⟩
    have jn := fun b S => join_W (ls := ls) ⟨fun w hw => by have := (k1 w hw).1; omega, by omega⟩ b S
    have i0 : atD [D.str a0, D.str a1, D.str a2] 0 = some (.str a0) := rfl
    have i1 : atD [D.str a0, D.str a1, D.str a2] 1 = some (.str a1) := rfl
    have i2 : atD [D.str a0, D.str a1, D.str a2] 2 = some (.str a2) := rfl
    rw [call_is textIs rfl]
    simp [f__law_text, i0, i1, i2, Fn.start, e1', t2, fn, t3, hg, hs, t4, bop_add_lst, hl, kindD, mbId, jn, -at_pos]
    exact hQ ls v5 k1 k2 k3
def oddW : List (List Nat) := [[97, 100, 100], [112, 117, 108, 108], [98, 97, 99, 107], [98, 108, 111, 99, 107], [99, 108, 101, 97, 114], [119, 97, 105, 116], [108, 101, 116], [98, 111, 117, 110, 100], [111, 117, 116], [121, 97, 114, 100], [97], [97, 98, 99, 100, 101, 102, 103, 104, 105], [65], [], [48], [49], [57, 57], [49, 48, 48], [48, 49], [45, 49], [43, 49], [49, 46, 48], [49, 95, 48], [80, 117, 108, 108], [112, 117, 108, 108, 115], [116, 101, 108, 108], [53], [120], [97, 49]]
theorem word_sp (n i b : Nat) (S : Store) (v : Int) (hi : i < S.length) : ∃ (w : List Nat) (v' : Int), w.length ≤ 9 ∧ callN L.text (n + 2) "_law_word" false [.ref i] b (hold S i v) = .ok (.str w) (hold S i v') := by
  suffices H : ∀ Q : R D → Prop, (∀ (w : List Nat) (v' : Int), w.length ≤ 9 → Q (.ok (.str w) (hold S i v'))) → Q (callN L.text (n + 2) "_law_word" false [.ref i] b (hold S i v)) from
    H (fun r => ∃ (w : List Nat) (v' : Int), w.length ≤ 9 ∧ r = .ok (.str w) (hold S i v')) fun w v' h => ⟨w, v', h, rfl⟩
  intro Q hQ
  obtain ⟨w, hw, v', x, e1, e2⟩ := draw_at T0 oddW D.str (by decide) (by decide) n i S.length S v hi
  have e1' : callN L.text (n + 1) "_law_take" false [.ref i, .int 29] S.length (hold S i v) = .ok (.int x) (hold S i v') := e1
  have e2' : atD [D.str [97, 100, 100], .str [112, 117, 108, 108], .str [98, 97, 99, 107], .str [98, 108, 111, 99, 107], .str [99, 108, 101, 97, 114], .str [119, 97, 105, 116], .str [108, 101, 116], .str [98, 111, 117, 110, 100], .str [111, 117, 116], .str [121, 97, 114, 100], .str [97], .str [97, 98, 99, 100, 101, 102, 103, 104, 105], .str [65], .str [], .str [48], .str [49], .str [57, 57], .str [49, 48, 48], .str [48, 49], .str [45, 49], .str [43, 49], .str [49, 46, 48], .str [49, 95, 48], .str [80, 117, 108, 108], .str [112, 117, 108, 108, 115], .str [116, 101, 108, 108], .str [53], .str [120], .str [97, 49]] x = some (.str w) := e2
  have hl : w.length ≤ 9 := (show ∀ w ∈ oddW, w.length ≤ 9 by decide) w hw
  rw [call_is wordIs rfl]
  simp [f__law_word, Fn.start, bop_add_lst, lenD, e1', e2', -at_pos]
  exact hQ w v' hl
def b0 : St := (.set (.one 2) (.nsplit (.var 1) 32))
def b1 : St := (.set (.one 3) (.call "_law_take" false (.cons (.var 0) (.cons (.bi .len (.cons (.var 2) .nil)) .nil))))
def b2 : St := (.set (.one 4) (.call "_law_take" false (.cons (.var 0) (.cons (.bop .add (.bi .len (.cons (.var 1) .nil)) (.int 1)) .nil))))
def b3 : St := (.set (.one 5) (.call "_law_take" false (.cons (.var 0) (.cons (.int 10) .nil))))
def b4 : St := (.ite (.cmp .eq (.var 5) (.int 0)) (.cons (.ex (.bm .popAt (.var 2) (.cons (.var 3) .nil))) .nil) .nil)
def b5 : St := (.ite (.cmp .eq (.var 5) (.int 1)) (.cons (.ex (.bm .insert (.var 2) (.cons (.var 3) (.cons (.idx (.var 2) (.var 3)) .nil)))) .nil) .nil)
def b6 : St := (.ite (.cmp .eq (.var 5) (.int 2)) (.cons (.ex (.bm .insert (.var 2) (.cons (.bop .add (.var 3) (.int 1)) (.cons (.bm .popAt (.var 2) (.cons (.var 3) .nil)) .nil)))) .nil) .nil)
def b7 : St := (.ite (.cmp .eq (.var 5) (.int 3)) (.cons (.setIdx (.var 2) (.var 3) (.call "_law_word" false (.cons (.var 0) .nil))) .nil) .nil)
def b8 : St := (.ite (.cmp .eq (.var 5) (.int 4)) (.cons (.ex (.bm .insert (.var 2) (.cons (.var 3) (.cons (.call "_law_word" false (.cons (.var 0) .nil)) .nil)))) .nil) .nil)
def b9 : St := (.set (.one 6) (.idx (.str [32, 97, 48, 58, 10, 65]) (.call "_law_take" false (.cons (.var 0) (.cons (.int 6) .nil)))))
def b10 : St := (.ite (.or (.cons (.cmp .eq (.var 5) (.int 5)) (.cons (.cmp .eq (.var 5) (.int 6)) .nil))) (.cons (.ret (.bop .add (.bop .add (.slHi (.var 1) (.var 4)) (.var 6)) (.slLo (.var 1) (.bop .sub (.bop .add (.var 4) (.var 5)) (.int 5))))) .nil) .nil)
def b11 : St := (.ite (.cmp .eq (.var 5) (.int 7)) (.cons (.ret (.idx (.lst (.cons (.bop .add (.str [32]) (.var 1)) (.cons (.bop .add (.var 1) (.str [32])) .nil))) (.call "_law_take" false (.cons (.var 0) (.cons (.int 2) .nil))))) .nil) .nil)
def b12 : St := (.ret (.bm .join (.str [32]) (.cons (.var 2) .nil)))
theorem bent_body : f__law_bent.body = .cons b0 (.cons b1 (.cons b2 (.cons b3 (.cons b4 (.cons b5 (.cons b6 (.cons b7 (.cons b8 (.cons b9 (.cons b10 (.cons b11 (.cons b12 (.nil))))))))))))) := rfl
theorem exs_step {b : Nat} {s : CL.St} {ss : Ss} {c : Ctx} {ρ ρ' : Env} {S S' : Store} (h : exS b s c ρ S = .ok (.nx ρ') S') : exs b (.cons s ss) c ρ S = exs b ss c ρ' S' := by
  rw [exs_cons, h, seqR_nx]
theorem erase_map {α β : Type} (f : α → β) : ∀ (l : List α) (k : Nat), (l.map f).eraseIdx k = (l.eraseIdx k).map f
  | [], _ => rfl
  | _ :: _, 0 => rfl
  | a :: l, k + 1 => by simp [List.eraseIdx, erase_map f l k]
theorem cut_le {α : Type} (l : List α) (lo hi : Option Int) : (cutL l lo hi).length ≤ l.length := by
  unfold cutL
  rw [List.length_take, List.length_drop]
  omega
@[reducible] def EB (i j : Nat) (tx : List Nat) (a s w : Int) (x6 : Option D) : Env := [some (.ref i), some (.str tx), some (.ref j), some (.int a), some (.int s), some (.int w), x6]
def M (S : Store) (i : Nat) (v : Int) (ls : List (List Nat)) : Store := hold (S ++ [.lst (ls.map .str)]) i v
section
variable {S : Store} {i n : Nat} {v : Int} {ls : List (List Nat)} {tx : List Nat} {a s w : Int} {x6 : Option D}
theorem M_get (hi : i < S.length) : (M S i v ls)[S.length]? = some (.lst (ls.map .str)) := by
  unfold M
  rw [hold_ne (by omega)]
  simp
theorem M_vw (hi : i < S.length) : vw (M S i v ls) (.ref S.length) = .lst (ls.map .str) := by
  simp only [vw, M_get hi]
theorem M_set (hi : i < S.length) (ls' : List (List Nat)) : (M S i v ls).set S.length (.lst (ls'.map .str)) = M S i v ls' := by
  unfold M hold
  rw [List.set_comm _ _ (by omega)]
  simp
theorem M_take (hi : i < S.length) : (M S i v ls).take S.length = hold S i v := by
  unfold M
  rw [hold_take hi]
  simp
theorem M_draw (hi : i < S.length) (m : Int) (hm : 0 < m) (hm2 : m ≤ 1000000) (b : Nat) : callN L.text (n + 1) "_law_take" false [.ref i, .int m] b (M S i v ls) = .ok (.int (v % m)) (M S i (v / m) ls) := by
  unfold M
  exact take_sp0 T0 n i b (S ++ [.lst (ls.map .str)]) v m (by simp; omega) hm hm2
theorem M_word (hi : i < S.length) (b : Nat) : ∃ (x : List Nat) (v' : Int), x.length ≤ 9 ∧ callN L.text (n + 2) "_law_word" false [.ref i] b (M S i v ls) = .ok (.str x) (M S i v' ls) := by
  have hi' : i < (S ++ [Cell.lst (ls.map D.str)]).length := by simp; omega
  have h := word_sp n i b (S ++ [Cell.lst (ls.map D.str)]) v hi'
  have e : ∀ v, M S i v ls = hold (S ++ [Cell.lst (ls.map D.str)]) i v := fun _ => rfl
  obtain ⟨x, v', h1, h2⟩ := h
  refine ⟨x, v', h1, ?_⟩
  rw [e, e]
  exact h2
theorem M_pop (hi : i < S.length) {k : Nat} (hk : k < ls.length) (hl : ls.length ≤ 1000) : bmD .popAt (.ref S.length) [.int (k : Int)] S.length (M S i v ls) = .ok (.str ls[k]) (M S i v (ls.eraseIdx k)) := by
  unfold bmD
  have hw : MB.writes .popAt = true := rfl
  simp only [hw, if_true, M_get hi]
  have at1 : atD (ls.map D.str) (k : Int) = some (.str ls[k]) := by
    rw [at_pos _ _ (by omega)]
    simp [hk]
  have c : mcD .popAt (ls.map .str) [.int (k : Int)] ([D.int (k : Int)].map (vw (M S i v ls))) = some (.str ls[k], (ls.eraseIdx k).map .str) := by
    have r : remAt (ls.map D.str) (k : Int) = some (.str ls[k], (ls.eraseIdx k).map .str) := by
      unfold remAt
      rw [at1]
      simp only
      rw [if_pos (by omega), Int.toNat_natCast, erase_map]
    have lm : (ls.map D.str).length ≤ LIM := by rw [List.length_map]; exact lim_ok hl
    simp only [mcD, lm, if_true, r]
  rw [c]
  simp only
  rw [if_pos (by simp [D.lim, D.limL]), M_set hi]
theorem M_ins (hi : i < S.length) (k : Nat) (hk : k ≤ 1000) (hl : ls.length ≤ 1000) (x : List Nat) : bmD .insert (.ref S.length) [.int (k : Int), .str x] S.length (M S i v ls) = .ok .non (M S i v (ls.take k ++ x :: ls.drop k)) := by
  unfold bmD
  have hw : MB.writes .insert = true := rfl
  simp only [hw, if_true, M_get hi]
  have c : mcD .insert (ls.map .str) [.int (k : Int), .str x] ([D.int (k : Int), .str x].map (vw (M S i v ls))) = some (.non, (ls.take k ++ x :: ls.drop k).map .str) := by
    show (if _ then _ else _) = _
    rw [if_pos ⟨by rw [List.length_map]; unfold LIM; omega, by omega, by have : (1000 : Int) < 2 ^ 63 := by decide
                                                                         omega⟩]
    simp [List.map_take, List.map_drop]
  rw [c]
  simp only
  rw [if_pos (by simp [D.lim, D.limL]), M_set hi]
theorem M_at (hi : i < S.length) {k : Nat} (hk : k < ls.length) : idxD (vw (M S i v ls) (.ref S.length)) (.int (k : Int)) = some (.str ls[k]) := by
  rw [M_vw hi]
  show atD (ls.map D.str) (k : Int) = _
  rw [at_pos _ _ (by omega)]
  simp [hk]
theorem M_store (hi : i < S.length) {k : Nat} (hk : k < ls.length) (x : List Nat) : storeK S.length S.length (.int (k : Int)) (.str x) (M S i v ls) = some (M S i v (ls.set k x)) := by
  unfold storeK
  have at1 : atD (ls.map D.str) (k : Int) = some (.str ls[k]) := by
    rw [at_pos _ _ (by omega)]
    simp [hk]
  simp only [M_get hi, at1]
  rw [if_pos (by simp [putOk, D.lim])]
  have : (ls.map D.str).set (if (0 : Int) ≤ (k : Int) then (k : Int).toNat else ((k : Int) + (ls.map D.str).length).toNat) (.str x) = (ls.set k x).map .str := by
    rw [if_pos (by omega), Int.toNat_natCast, List.map_set]
  rw [this, M_set hi]
theorem skip (k : Int) (B : Ss) (b : Nat) (c : Ctx) (St : Store) (h : w ≠ k) : exS b (.ite (.cmp .eq (.var 5) (.int k)) B .nil) c (EB i S.length tx a s w x6) St = .ok (.nx (EB i S.length tx a s w x6)) St := by
  have : (w == k) = false := beq_eq_false_iff_ne.mpr h
  simp [EB, this]
theorem n4 (b : Nat) (c : Ctx) (St : Store) (h : w ≠ 0) : exS b b4 c (EB i S.length tx a s w x6) St = .ok (.nx (EB i S.length tx a s w x6)) St := skip 0 _ b c St h
theorem n5 (b : Nat) (c : Ctx) (St : Store) (h : w ≠ 1) : exS b b5 c (EB i S.length tx a s w x6) St = .ok (.nx (EB i S.length tx a s w x6)) St := skip 1 _ b c St h
theorem n6 (b : Nat) (c : Ctx) (St : Store) (h : w ≠ 2) : exS b b6 c (EB i S.length tx a s w x6) St = .ok (.nx (EB i S.length tx a s w x6)) St := skip 2 _ b c St h
theorem n7 (b : Nat) (c : Ctx) (St : Store) (h : w ≠ 3) : exS b b7 c (EB i S.length tx a s w x6) St = .ok (.nx (EB i S.length tx a s w x6)) St := skip 3 _ b c St h
theorem n8 (b : Nat) (c : Ctx) (St : Store) (h : w ≠ 4) : exS b b8 c (EB i S.length tx a s w x6) St = .ok (.nx (EB i S.length tx a s w x6)) St := skip 4 _ b c St h
theorem b4_yes (hi : i < S.length) {k : Nat} (hk : k < ls.length) (hl : ls.length ≤ 1000) : exS S.length b4 (ctxN L.text (n + 2)) (EB i S.length tx (k : Int) s 0 x6) (M S i v ls) = .ok (.nx (EB i S.length tx (k : Int) s 0 x6)) (M S i v (ls.eraseIdx k)) := by
  have e := M_pop (v := v) hi hk hl
  simp [b4, EB, M_vw hi, kindD, mbId, e]
theorem b5_yes (hi : i < S.length) {k : Nat} (hk : k < ls.length) (hl : ls.length ≤ 1000) : exS S.length b5 (ctxN L.text (n + 2)) (EB i S.length tx (k : Int) s 1 x6) (M S i v ls) = .ok (.nx (EB i S.length tx (k : Int) s 1 x6)) (M S i v (ls.take k ++ ls[k] :: ls.drop k)) := by
  have e := M_ins (v := v) hi k (by omega) hl ls[k]
  have g := M_at (v := v) hi hk
  rw [M_vw hi] at g
  simp [b5, EB, M_vw hi, kindD, mbId, e, g]
theorem b6_yes (hi : i < S.length) {k : Nat} (hk : k < ls.length) (hl : ls.length ≤ 900) : exS S.length b6 (ctxN L.text (n + 2)) (EB i S.length tx (k : Int) s 2 x6) (M S i v ls) = .ok (.nx (EB i S.length tx (k : Int) s 2 x6)) (M S i v ((ls.eraseIdx k).take (k + 1) ++ ls[k] :: (ls.eraseIdx k).drop (k + 1))) := by
  have e1 := M_pop (v := v) hi hk (by omega)
  have e2 := M_ins (ls := ls.eraseIdx k) (v := v) hi (k + 1) (by omega) (by have := List.length_eraseIdx_le ls k; omega) ls[k]
  have c : ((k : Int) + 1) = ((k + 1 : Nat) : Int) := by omega
  simp [b6, EB, M_vw hi, kindD, mbId, e1]
  rw [c, e2]
  simp
theorem b7_yes (hi : i < S.length) {k : Nat} (hk : k < ls.length) : ∃ (x : List Nat) (v' : Int), x.length ≤ 9 ∧ exS S.length b7 (ctxN L.text (n + 2)) (EB i S.length tx (k : Int) s 3 x6) (M S i v ls) = .ok (.nx (EB i S.length tx (k : Int) s 3 x6)) (M S i v' (ls.set k x)) := by
  obtain ⟨x, v', h1, h2⟩ := M_word (n := n) (v := v) (ls := ls) hi S.length
  have e := M_store (v := v') hi hk x
  refine ⟨x, v', h1, ?_⟩
  simp [b7, EB, h2, e]
theorem b8_yes (hi : i < S.length) {k : Nat} (hk : k < ls.length) (hl : ls.length ≤ 1000) : ∃ (x : List Nat) (v' : Int), x.length ≤ 9 ∧ exS S.length b8 (ctxN L.text (n + 2)) (EB i S.length tx (k : Int) s 4 x6) (M S i v ls) = .ok (.nx (EB i S.length tx (k : Int) s 4 x6)) (M S i v' (ls.take k ++ x :: ls.drop k)) := by
  obtain ⟨x, v', h1, h2⟩ := M_word (n := n) (v := v) (ls := ls) hi S.length
  have e := M_ins (v := v') hi k (by omega) hl x
  refine ⟨x, v', h1, ?_⟩
  simp [b8, EB, M_vw hi, kindD, mbId, h2, e]
theorem mid_ok (hi : i < S.length) (h9 : ∀ x ∈ ls, x.length ≤ 9) (h4 : ls.length ≤ 4) {k : Nat} (hk : k < ls.length) (w : Int) : ∃ (ls' : List (List Nat)) (v' : Int), Wok ls' ∧ ∀ rest : Ss, exs S.length (.cons b4 (.cons b5 (.cons b6 (.cons b7 (.cons b8 rest))))) (ctxN L.text (n + 2)) (EB i S.length tx (k : Int) s w x6) (M S i v ls) = exs S.length rest (ctxN L.text (n + 2)) (EB i S.length tx (k : Int) s w x6) (M S i v' ls') := by
  have k9 := h9 ls[k] (List.getElem_mem hk)
  have ins : ∀ (r : List (List Nat)) (j : Nat) (x : List Nat), (∀ y ∈ r, y.length ≤ 9) → r.length ≤ 4 → x.length ≤ 9 → Wok (r.take j ++ x :: r.drop j) := fun r j x h1 h2 h3 => by
    refine ⟨fun y hy => ?_, ?_⟩
    · rcases List.mem_append.mp hy with h | h
      · exact h1 y (List.mem_of_mem_take h)
      · rcases List.mem_cons.mp h with rfl | h
        · exact h3
        · exact h1 y (List.mem_of_mem_drop h)
    · rw [List.length_append, List.length_cons, List.length_take, List.length_drop]
      omega
  by_cases w0 : w = 0
  · subst w0
    refine ⟨ls.eraseIdx k, v, ⟨fun y hy => h9 y (List.mem_of_mem_eraseIdx hy), by have := List.length_eraseIdx_le ls k; omega⟩, fun rest => ?_⟩
    rw [exs_step (b4_yes hi hk (by omega)), exs_step (n5 _ _ _ (by decide)), exs_step (n6 _ _ _ (by decide)), exs_step (n7 _ _ _ (by decide)), exs_step (n8 _ _ _ (by decide))]
  by_cases w1 : w = 1
  · subst w1
    refine ⟨_, v, ins ls k ls[k] h9 h4 k9, fun rest => ?_⟩
    rw [exs_step (n4 _ _ _ (by decide)), exs_step (b5_yes hi hk (by omega)), exs_step (n6 _ _ _ (by decide)), exs_step (n7 _ _ _ (by decide)), exs_step (n8 _ _ _ (by decide))]
  by_cases w2 : w = 2
  · subst w2
    refine ⟨_, v, ins (ls.eraseIdx k) (k + 1) ls[k] (fun y hy => h9 y (List.mem_of_mem_eraseIdx hy)) (by have := List.length_eraseIdx_le ls k; omega) k9, fun rest => ?_⟩
    rw [exs_step (n4 _ _ _ (by decide)), exs_step (n5 _ _ _ (by decide)), exs_step (b6_yes hi hk (by omega)), exs_step (n7 _ _ _ (by decide)), exs_step (n8 _ _ _ (by decide))]
  by_cases w3 : w = 3
  · subst w3
    obtain ⟨x, v', x9, e⟩ := b7_yes (n := n) (tx := tx) (s := s) (x6 := x6) (v := v) hi hk
    refine ⟨ls.set k x, v', ⟨fun y hy => ?_, by rw [List.length_set]; omega⟩, fun rest => ?_⟩
    · rcases List.mem_or_eq_of_mem_set hy with h | h
      · exact h9 y h
      · rw [h]; exact x9
    · rw [exs_step (n4 _ _ _ (by decide)), exs_step (n5 _ _ _ (by decide)), exs_step (n6 _ _ _ (by decide)), exs_step e, exs_step (n8 _ _ _ (by decide))]
  by_cases w4 : w = 4
  · subst w4
    obtain ⟨x, v', x9, e⟩ := b8_yes (n := n) (tx := tx) (s := s) (x6 := x6) (v := v) hi hk (by omega)
    refine ⟨_, v', ins ls k x h9 h4 x9, fun rest => ?_⟩
    rw [exs_step (n4 _ _ _ (by decide)), exs_step (n5 _ _ _ (by decide)), exs_step (n6 _ _ _ (by decide)), exs_step (n7 _ _ _ (by decide)), exs_step e]
  refine ⟨ls, v, ⟨h9, by omega⟩, fun rest => ?_⟩
  rw [exs_step (n4 _ _ _ w0), exs_step (n5 _ _ _ w1), exs_step (n6 _ _ _ w2), exs_step (n7 _ _ _ w3), exs_step (n8 _ _ _ w4)]
end
section
variable {S : Store} {i : Nat}
theorem bent_sp (n : Nat) (hi : i < S.length) (v : Int) (ls : List (List Nat)) (h8 : ∀ w ∈ ls, w.length ≤ 8 ∧ 32 ∉ w) (h2 : 2 ≤ ls.length) (h4 : ls.length ≤ 4) (b : Nat) :
    ∃ (w : List Nat) (v' : Int), w.length ≤ 200 ∧ callN L.text (n + 3) "_law_bent" false [.ref i, .str (joinL [32] ls)] b (hold S i v) = .ok (.str w) (hold S i v') := by
  have h9 : ∀ x ∈ ls, x.length ≤ 9 := fun x hx => by have := (h8 x hx).1; omega
  have tl := joinW (ls := ls) ⟨h9, by omega⟩
  have sp := split_joinL ls (fun z => by rw [z] at h2; simp at h2) (fun w hw => (h8 w hw).2) (by omega)
  generalize joinL [32] ls = tx at tl sp
  have lt := len_str tx (by omega)
  have ll : lenD (.lst (ls.map D.str)) = some ls.length := by simp [lenD]
  have e0 : hold S i v ++ [Cell.lst (ls.map D.str)] = M S i v ls := by unfold M; rw [hold_app hi]
  have hl0 : (hold S i v).length = S.length := by simp [hold]
  have p1 := Int.emod_nonneg v (show (ls.length : Int) ≠ 0 by omega)
  have p2 := Int.emod_lt_of_pos v (show 0 < (ls.length : Int) by omega)
  obtain ⟨k, hk⟩ : ∃ k : Nat, v % (ls.length : Int) = k := ⟨(v % (ls.length : Int)).toNat, by omega⟩
  have kl : k < ls.length := by omega
  have d1 := M_draw (n := n + 1) (v := v) (ls := ls) hi (ls.length : Int) (by omega) (by omega) S.length
  rw [hk] at d1
  generalize v / (ls.length : Int) = v1 at d1
  have d2 := M_draw (n := n + 1) (v := v1) (ls := ls) hi ((tx.length : Int) + 1) (by omega) (by omega) S.length
  have q1 := Int.emod_nonneg v1 (show (tx.length : Int) + 1 ≠ 0 by omega)
  have q2 := Int.emod_lt_of_pos v1 (show 0 < (tx.length : Int) + 1 by omega)
  generalize v1 % ((tx.length : Int) + 1) = sp0 at d2 q1 q2
  generalize v1 / ((tx.length : Int) + 1) = v2 at d2
  have d3 := M_draw (n := n + 1) (v := v2) (ls := ls) hi 10 (by decide) (by decide) S.length
  generalize v2 % 10 = w at d3
  generalize v2 / 10 = v3 at d3
  obtain ⟨ls', v4, hW, hm⟩ := mid_ok (n := n) (tx := tx) (s := sp0) (x6 := none) (v := v3) hi h9 h4 kl w
  have jl := joinW hW
  have jn := join_W hW
  have d4 := M_draw (n := n + 1) (v := v4) (ls := ls') hi 6 (by decide) (by decide) S.length
  have m6 := mod_in v4 6 (by decide)
  obtain ⟨c, hc⟩ : ∃ c : Nat, idxD (.str [32, 97, 48, 58, 10, 65]) (.int (v4 % 6)) = some (.str [c]) := by
    have : v4 % 6 = 0 ∨ v4 % 6 = 1 ∨ v4 % 6 = 2 ∨ v4 % 6 = 3 ∨ v4 % 6 = 4 ∨ v4 % 6 = 5 := by omega
    rcases this with c | c | c | c | c | c <;> rw [c] <;> exact ⟨_, rfl⟩
  generalize v4 % 6 = y6 at d4 hc
  generalize v4 / 6 = v5 at d4
  have d5 := M_draw (n := n + 1) (v := v5) (ls := ls') hi 2 (by decide) (by decide) S.length
  have u0 : exS S.length b0 (ctxN L.text (n + 2)) [some (.ref i), some (.str tx), none, none, none, none, none] (hold S i v) = .ok (.nx [some (.ref i), some (.str tx), some (.ref S.length), none, none, none, none]) (M S i v ls) := by
    simp [b0, nsplitR, sp, hl0]
    rw [← e0]
  have u1 : exS S.length b1 (ctxN L.text (n + 2)) [some (.ref i), some (.str tx), some (.ref S.length), none, none, none, none] (M S i v ls) = .ok (.nx [some (.ref i), some (.str tx), some (.ref S.length), some (.int (k : Int)), none, none, none]) (M S i v1 ls) := by
    simp [b1, M_vw hi, ll, d1]
  have u2 : exS S.length b2 (ctxN L.text (n + 2)) [some (.ref i), some (.str tx), some (.ref S.length), some (.int (k : Int)), none, none, none] (M S i v1 ls) = .ok (.nx [some (.ref i), some (.str tx), some (.ref S.length), some (.int (k : Int)), some (.int sp0), none, none]) (M S i v2 ls) := by
    simp [b2, lt, d2]
  have u3 : exS S.length b3 (ctxN L.text (n + 2)) [some (.ref i), some (.str tx), some (.ref S.length), some (.int (k : Int)), some (.int sp0), none, none] (M S i v2 ls) = .ok (.nx (EB i S.length tx (k : Int) sp0 w none)) (M S i v3 ls) := by
    simp [b3, EB, d3]
  have u9 : exS S.length b9 (ctxN L.text (n + 2)) (EB i S.length tx (k : Int) sp0 w none) (M S i v4 ls') = .ok (.nx (EB i S.length tx (k : Int) sp0 w (some (.str [c])))) (M S i v5 ls') := by
    simp [b9, EB, d4, hc]
  have rest : ∃ (x : List Nat) (v' : Int), x.length ≤ 200 ∧ exs S.length (.cons b10 (.cons b11 (.cons b12 .nil))) (ctxN L.text (n + 2)) (EB i S.length tx (k : Int) sp0 w (some (.str [c]))) (M S i v5 ls') = .ok (.rt (.str x)) (M S i v' ls') := by
    have hlim : tx.length ≤ LIM := lim_ok (by omega)
    have s1 : slD none (some sp0) (.str tx) = some (.str (cutL tx none (some sp0))) := if_pos hlim
    have s2 : ∀ z, slD (some z) none (.str tx) = some (.str (cutL tx (some z) none)) := fun z => if_pos hlim
    have c1 := cut_le tx none (some sp0)
    have c2 := fun z => cut_le tx (some z) none
    have a1 := bop_add_str (cutL tx none (some sp0)) [c] (by omega) (by simp)
    have a2 := fun z => bop_add_str (cutL tx none (some sp0) ++ [c]) (cutL tx (some z) none) (by rw [List.length_append, List.length_singleton]; omega) (by have := c2 z; omega)
    by_cases w5 : w = 5
    · subst w5
      have z5 : sp0 + 5 - 5 = sp0 := by omega
      refine ⟨cutL tx none (some sp0) ++ [c] ++ cutL tx (some sp0) none, v5, by have := c2 sp0; rw [List.length_append, List.length_append, List.length_singleton]; omega, ?_⟩
      simp [b10, EB, s1, a1, s2, a2, z5, -List.append_assoc]
    by_cases w6 : w = 6
    · subst w6
      refine ⟨cutL tx none (some sp0) ++ [c] ++ cutL tx (some (sp0 + 6 - 5)) none, v5, by have := c2 (sp0 + 6 - 5); rw [List.length_append, List.length_append, List.length_singleton]; omega, ?_⟩
      simp [b10, EB, s1, a1, s2, a2, -List.append_assoc]
    have w5' : (w == 5) = false := beq_eq_false_iff_ne.mpr w5
    have w6' : (w == 6) = false := beq_eq_false_iff_ne.mpr w6
    have u10 : exS S.length b10 (ctxN L.text (n + 2)) (EB i S.length tx (k : Int) sp0 w (some (.str [c]))) (M S i v5 ls') = .ok (.nx (EB i S.length tx (k : Int) sp0 w (some (.str [c])))) (M S i v5 ls') := by
      simp [b10, EB, w5', w6']
    rw [exs_step u10]
    by_cases w7 : w = 7
    · subst w7
      have a3 := bop_add_str [32] tx (by simp) (by omega)
      have a4 := bop_add_str tx [32] (by omega) (by simp)
      obtain ⟨x, hx, xl⟩ : ∃ x : List Nat, atD [D.str ([32] ++ tx), .str (tx ++ [32])] (v5 % 2) = some (.str x) ∧ x.length ≤ 200 := by
        have : v5 % 2 = 0 ∨ v5 % 2 = 1 := by omega
        rcases this with c | c <;> rw [c]
        · exact ⟨_, rfl, by simp; omega⟩
        · exact ⟨_, rfl, by simp; omega⟩
      generalize [32] ++ tx = xa at a3 hx
      generalize tx ++ [32] = xb at a4 hx
      refine ⟨x, v5 / 2, xl, ?_⟩
      simp [b11, EB, a3, a4, d5, hx, -at_pos]
    have w7' : (w == 7) = false := beq_eq_false_iff_ne.mpr w7
    have u11 : exS S.length b11 (ctxN L.text (n + 2)) (EB i S.length tx (k : Int) sp0 w (some (.str [c]))) (M S i v5 ls') = .ok (.nx (EB i S.length tx (k : Int) sp0 w (some (.str [c])))) (M S i v5 ls') := by
      simp [b11, EB, w7']
    rw [exs_step u11]
    have jr : ∀ b, bmD .join (.str [32]) [.ref S.length] b (M S i v5 ls') = .ok (.str (joinL [32] ls')) (M S i v5 ls') := fun b => by
      show R.of _ (mbD .join (.str [32]) [vw (M S i v5 ls') (.ref S.length)]) = _
      rw [M_vw hi, join_sp 32 ls' (fun w hw => by have := hW.1 w hw; omega) (by have := hW.2; omega)]
      rfl
    refine ⟨joinL [32] ls', v5, by omega, ?_⟩
    simp [b12, EB, kindD, mbId, jr]
  obtain ⟨x, v', xl, rr⟩ := rest
  refine ⟨x, v', xl, ?_⟩
  have hb : exs S.length f__law_bent.body (ctxN L.text (n + 2)) [some (.ref i), some (.str tx), none, none, none, none, none] (hold S i v) = .ok (.rt (.str x)) (M S i v' ls') := by
    rw [bent_body, exs_step u0, exs_step u1, exs_step u2, exs_step u3, hm, exs_step u9, rr]
  rw [call_is bentIs rfl]
  have hst : Fn.start f__law_bent [.ref i, .str tx] = [some (.ref i), some (.str tx), none, none, none, none, none] := rfl
  rw [hst, hl0, show f__law_bent.keep = false from rfl, if_neg (by decide), hb]
  simp [M_take hi]
end
def i0 : St := (.set (.one 1) (.bm .split (.var 0) (.cons (.str [32]) .nil)))
def i1 : St := (.set (.one 2) (.dicS [([97, 100, 100], [110, 110]), ([112, 117, 108, 108], [110]), ([98, 97, 99, 107], [110]), ([98, 108, 111, 99, 107], [110]), ([99, 108, 101, 97, 114], [110])]))
def i2 : St := (.ex (.dicU (.var 2) [([119, 97, 105, 116], [110, 108, 110]), ([108, 101, 116], [110, 110]), ([98, 111, 117, 110, 100], [110, 98])]))
def i3 : St := (.ite (.or (.cons (.cmp .notIn (.idx (.var 1) (.int 0)) (.var 2)) (.cons (.cmp .ne (.bi .len (.cons (.var 1) .nil)) (.bop .add (.int 1) (.bi .len (.cons (.idx (.var 2) (.idx (.var 1) (.int 0))) .nil)))) .nil))) (.cons (.ret (.bl false)) .nil) .nil)
def i4 : St := (.for_ (.many [3, 4]) (.zip (.idx (.var 2) (.idx (.var 1) (.int 0))) (.slLo (.var 1) (.int 1))) (.cons (.set (.one 5) (.or (.cons (.call "_law_is_name" false (.cons (.var 4) .nil)) (.cons (.cmp .eq (.tup (.cons (.var 3) (.cons (.var 4) .nil))) (.tup (.cons (.str [108]) (.cons (.str [111, 117, 116]) .nil)))) .nil)))) (.cons (.ite (.cmp .eq (.var 3) (.str [98])) (.cons (.set (.one 5) (.call "_law_is_bound" false (.cons (.var 4) .nil))) .nil) .nil) (.cons (.ite (.not (.var 5)) (.cons (.ret (.bl false)) .nil) .nil) .nil))))
def i5 : St := (.ret (.bl true))
theorem deed_body : f__law_is_deed.body = .cons i0 (.cons i1 (.cons i2 (.cons i3 (.cons i4 (.cons i5 (.nil)))))) := rfl
def KS : List D := [.str [97, 100, 100], .str [112, 117, 108, 108], .str [98, 97, 99, 107], .str [98, 108, 111, 99, 107], .str [99, 108, 101, 97, 114], .str [119, 97, 105, 116], .str [108, 101, 116], .str [98, 111, 117, 110, 100]]
def VS : List D := [.str [110, 110], .str [110], .str [110], .str [110], .str [110], .str [110, 108, 110], .str [110, 110], .str [110, 98]]
def K5 : List D := [.str [97, 100, 100], .str [112, 117, 108, 108], .str [98, 97, 99, 107], .str [98, 108, 111, 99, 107], .str [99, 108, 101, 97, 114]]
def V5 : List D := [.str [110, 110], .str [110], .str [110], .str [110], .str [110]]
def formOf (w : List Nat) : Option (List Nat) := if w = [97, 100, 100] then some [110, 110] else if w = [112, 117, 108, 108] then some [110] else if w = [98, 97, 99, 107] then some [110] else if w = [98, 108, 111, 99, 107] then some [110] else if w = [99, 108, 101, 97, 114] then some [110] else if w = [119, 97, 105, 116] then some [110, 108, 110] else if w = [108, 101, 116] then some [110, 110] else if w = [98, 111, 117, 110, 100] then some [110, 98] else none
theorem con5 : conPairs [([97, 100, 100], [110, 110]), ([112, 117, 108, 108], [110]), ([98, 97, 99, 107], [110]), ([98, 108, 111, 99, 107], [110]), ([99, 108, 101, 97, 114], [110])] = (K5, V5) := rfl
theorem con8 : putsD ((conPairs [([119, 97, 105, 116], [110, 108, 110]), ([108, 101, 116], [110, 110]), ([98, 111, 117, 110, 100], [110, 98])]).1.zip (conPairs [([119, 97, 105, 116], [110, 108, 110]), ([108, 101, 116], [110, 110]), ([98, 111, 117, 110, 100], [110, 98])]).2) (K5, V5) = (KS, VS) := rfl
theorem eqv_str (a b : List Nat) : D.eqv (.str a) (.str b) = decide (a = b) := by
  unfold D.eqv
  by_cases h : a = b
  · simp [h]
  · simp [h]
theorem dec_beq (a b : List Nat) : decide (a = b) = (b == a) := by
  by_cases h : a = b
  · subst h; simp
  · have : (b == a) = false := beq_eq_false_iff_ne.mpr fun z => h z.symm
    simp [h, this]
theorem look_str (k : List Nat) (v : D) (ks vs : List D) (w : List Nat) : lookD (.str w) (.str k :: ks) (v :: vs) = if w = k then some v else lookD (.str w) ks vs := by
  show (if D.eqv (.str k) (.str w) = true then some v else _) = _
  rw [eqv_str]
  by_cases h : k = w
  · rw [if_pos (by simpa using h), if_pos h.symm]
  · rw [if_neg (by simpa using h), if_neg fun z => h z.symm]
theorem form_look (w : List Nat) : lookD (.str w) KS VS = (formOf w).map D.str := by
  unfold KS VS formOf
  simp only [look_str]
  repeat' split
  all_goals rfl
def fit (p : Nat × List Nat) : Bool := if p.1 = 98 then isBd p.2 else (isNm p.2 || (p.1 == 108 && p.2 == [111, 117, 116]))
theorem deed_form (w0 : List Nat) (rest : List (List Nat)) : isDeedL (w0 :: rest) = match formOf w0 with
    | none => false
    | some f => decide (rest.length = f.length) && (f.zip rest).all fit := by
  unfold formOf
  by_cases h0 : w0 = [97, 100, 100]
  · subst h0
    match rest with
    | [] => rfl
    | [a] => simp [isDeedL, fit]
    | [a, b] => simp [isDeedL, fit]
    | [a, b, c] => simp [isDeedL, fit, Bool.or_comm]
    | a :: b :: c :: d :: r => simp [isDeedL]
  by_cases h1 : w0 = [112, 117, 108, 108]
  · subst h1
    match rest with
    | [] => rfl
    | [a] => simp [isDeedL, fit]
    | [a, b] => simp [isDeedL, fit]
    | [a, b, c] => simp [isDeedL, fit, Bool.or_comm]
    | a :: b :: c :: d :: r => simp [isDeedL]
  by_cases h2 : w0 = [98, 97, 99, 107]
  · subst h2
    match rest with
    | [] => rfl
    | [a] => simp [isDeedL, fit]
    | [a, b] => simp [isDeedL, fit]
    | [a, b, c] => simp [isDeedL, fit, Bool.or_comm]
    | a :: b :: c :: d :: r => simp [isDeedL]
  by_cases h3 : w0 = [98, 108, 111, 99, 107]
  · subst h3
    match rest with
    | [] => rfl
    | [a] => simp [isDeedL, fit]
    | [a, b] => simp [isDeedL, fit]
    | [a, b, c] => simp [isDeedL, fit, Bool.or_comm]
    | a :: b :: c :: d :: r => simp [isDeedL]
  by_cases h4 : w0 = [99, 108, 101, 97, 114]
  · subst h4
    match rest with
    | [] => rfl
    | [a] => simp [isDeedL, fit]
    | [a, b] => simp [isDeedL, fit]
    | [a, b, c] => simp [isDeedL, fit, Bool.or_comm]
    | a :: b :: c :: d :: r => simp [isDeedL]
  by_cases h5 : w0 = [119, 97, 105, 116]
  · subst h5
    match rest with
    | [] => rfl
    | [a] => simp [isDeedL, fit]
    | [a, b] => simp [isDeedL, fit]
    | [a, b, c] => simp [isDeedL, fit, Bool.or_comm]
    | a :: b :: c :: d :: r => simp [isDeedL]
  by_cases h6 : w0 = [108, 101, 116]
  · subst h6
    match rest with
    | [] => rfl
    | [a] => simp [isDeedL, fit]
    | [a, b] => simp [isDeedL, fit]
    | [a, b, c] => simp [isDeedL, fit, Bool.or_comm]
    | a :: b :: c :: d :: r => simp [isDeedL]
  by_cases h7 : w0 = [98, 111, 117, 110, 100]
  · subst h7
    match rest with
    | [] => rfl
    | [a] => simp [isDeedL, fit]
    | [a, b] => simp [isDeedL, fit]
    | [a, b, c] => simp [isDeedL, fit, Bool.or_comm]
    | a :: b :: c :: d :: r => simp [isDeedL]
  rw [if_neg h0, if_neg h1, if_neg h2, if_neg h3, if_neg h4, if_neg h5, if_neg h6, if_neg h7]
  match rest with
  | [] => rfl
  | [a] => simp [isDeedL, h1, h2, h3, h4]
  | [a, b] => simp [isDeedL, h0, h6, h7]
  | [a, b, c] => simp [isDeedL, h5]
  | a :: b :: c :: d :: r => rfl
theorem lname_sp (n : Nat) (w : List Nat) (hl : w.length ≤ 1000) (b : Nat) (S : Store) : callN L.text (n + 1) "_law_is_name" false [.str w] b S = .ok (.bl (isNm w)) S := by
  have wk : ∀ S, walkD S (.str w) = some ⟨w.map fun c => .str [c], []⟩ := fun _ => rfl
  have lw := len_str w hl
  have al := fb_all_map (fun a => decide (a ∈ abc)) w
  rw [call_is lnameIs rfl]
  have nmE : isNm w = (decide (1 ≤ (w.length : Int)) && (decide ((w.length : Int) ≤ 8) && (!(w == [111, 117, 116]) && (!(w == [121, 97, 114, 100]) && w.all fun ch => decide (ch ∈ abc))))) := by
    have d1 : decide (1 ≤ w.length) = decide (1 ≤ (w.length : Int)) := by rw [decide_eq_decide]; omega
    have d2 : decide (w.length ≤ 8) = decide ((w.length : Int) ≤ 8) := by rw [decide_eq_decide]; omega
    show (decide (1 ≤ w.length) && (decide (w.length ≤ 8) && _)) = _
    rw [d1, d2]
  rw [nmE]
  have tin : cmpD .isIn (.str w) (.tup [.str [111, 117, 116], .str [121, 97, 114, 100]]) = some (w == [111, 117, 116] || w == [121, 97, 114, 100]) := by
    simp [cmpD, inD, eqv_str, D.dat, D.datL]
    exact ⟨by decide, by rw [dec_beq, dec_beq]⟩
  by_cases h1 : 1 ≤ (w.length : Int)
  · have h1' : ¬ ((w.length : Int) < 1) := by omega
    by_cases h2 : (w.length : Int) ≤ 8
    · have h2' : ¬ (8 < (w.length : Int)) := by omega
      cases h3 : w == [111, 117, 116] with
      | true =>
        rw [h3, Bool.true_or] at tin
        simp [f__law_is_name, Fn.start, lw, h1, h1', h2, h2', tin]
      | false =>
        rw [h3, Bool.false_or] at tin
        cases h4 : w == [121, 97, 114, 100] with
        | true =>
          rw [h4] at tin
          simp [f__law_is_name, Fn.start, lw, h1, h1', h2, h2', tin]
        | false =>
          rw [h4] at tin
          simp [f__law_is_name, Fn.start, lw, h1, h1', h2, h2', tin, wk, lcAll_q]
          rw [lcQ_in w _ (fun a S' => .ok (some (.bl (decide (a ∈ abc)))) S') fun a ha S' => by
            by_cases am : a ∈ abc
            · have am' := am
              unfold abc at am'
              simp [cmpD, inD, am, am']
            · have am' := am
              unfold abc at am'
              simp [cmpD, inD, am, am']]
          rw [lcQ_map _ _ (lim_ok (by omega))]
          simp [al]
    · have h2' : 8 < (w.length : Int) := by omega
      simp [f__law_is_name, Fn.start, lw, h1, h1', h2, h2']
  · have h1' : (w.length : Int) < 1 := by omega
    simp [f__law_is_name, Fn.start, lw, h1, h1']
theorem lbound_sp (n : Nat) (w : List Nat) (hl : w.length ≤ 1000) (b : Nat) (S : Store) : callN L.text (n + 1) "_law_is_bound" false [.str w] b S = .ok (.bl (isBd w)) S := by
  have wk : ∀ S, walkD S (.str w) = some ⟨w.map fun c => .str [c], []⟩ := fun _ => rfl
  have lw := len_str w hl
  have al := fb_all_map (fun a => decide (a ∈ figs)) w
  rw [call_is lboundIs rfl]
  by_cases w0 : w = []
  · subst w0
    simp [f__law_is_bound, Fn.start, lw, isBd]
  obtain ⟨c, cs, hw⟩ : ∃ c cs, w = c :: cs := by
    cases w with
    | nil => exact absurd rfl w0
    | cons c cs => exact ⟨c, cs, rfl⟩
  have i0 : idxD (.str w) (.int 0) = some (.str [c]) := by
    rw [idx_str _ _ hl, hw]
    rfl
  have l0 : 0 < w.length := by rw [hw]; simp
  by_cases h2 : (w.length : Int) < 3
  · cases h3 : c == 48 with
    | true =>
      have e : isBd w = false := by simp at h3; simp [isBd, hw, h3]
      rw [e]
      simp [f__law_is_bound, Fn.start, lw, i0, h2, l0, h3]
    | false =>
      have h3' : c ≠ 48 := by simpa using h3
      have e : isBd w = w.all fun a => decide (a ∈ figs) := by
        unfold isBd
        rw [show decide (0 < w.length ∧ w.length < 3) = true from decide_eq_true ⟨by omega, by omega⟩, show decide (w.head? ≠ some 48) = true from decide_eq_true (by rw [hw]; simpa using h3'), Bool.true_and, Bool.true_and]
      rw [e]
      simp [f__law_is_bound, Fn.start, lw, i0, h2, l0, h3, wk, lcAll_q]
      rw [lcQ_in w _ (fun a S' => .ok (some (.bl (decide (a ∈ figs)))) S') fun a ha S' => by
          by_cases am : a ∈ figs
          · have am' := am
            unfold figs at am'
            simp [cmpD, inD, am, am']
          · have am' := am
            unfold figs at am'
            simp [cmpD, inD, am, am']]
      rw [lcQ_map _ _ (lim_ok (by omega))]
      simp [al]
  · have e : isBd w = false := by
      have h4 : ¬ (w.length < 3) := by omega
      simp [isBd, h4]
    rw [e]
    simp [f__law_is_bound, Fn.start, lw, i0, h2, l0]
theorem fit_eq (p : Nat × List Nat) : cmpD .eq (.tup [.str [p.1], .str p.2]) (.tup [.str [108], .str [111, 117, 116]]) = some (p.1 == 108 && p.2 == [111, 117, 116]) := by
  simp [cmpD, eqD, D.dat, D.datL, D.eqv, D.eqvL, eqv_str]
  decide
theorem pairs_form : ∀ (f : List Nat) (rest : List (List Nat)), pairs (f.map fun c => .str [c]) (rest.map .str) = (f.zip rest).map fun p => .tup [.str [p.1], .str p.2]
  | [], _ => rfl
  | _ :: _, [] => rfl
  | c :: f, a :: rest => by
    show D.tup [.str [c], .str a] :: pairs _ _ = _
    rw [pairs_form f rest]
    rfl
theorem form_len {w f : List Nat} (h : formOf w = some f) : f.length ≤ 3 := by
  unfold formOf at h
  repeat' split at h
  all_goals first | (cases h; decide) | cases h
theorem ldeed_sp (n : Nat) (w : List Nat) (hl : w.length ≤ 900) (b : Nat) (S : Store) : callN L.text (n + 2) "_law_is_deed" false [.str w] b S = .ok (.bl (isDeedL (cutW 32 w))) S := by
  have sp := split_cut w (by omega)
  have ln := cutW_len 32 w
  have mn := cutW_many 32 w
  have ne := cutW_ne 32 w
  cases hw : cutW 32 w with
  | nil => exact absurd hw ne
  | cons w0 rest =>
    rw [hw] at sp ln mn
    rw [deed_form w0 rest]
    have d5 := con5
    have d8 := con8
    have look := form_look w0
    have u0 : exS S.length i0 (ctxN L.text (n + 1)) [some (.str w), none, none, none, none, none] S = .ok (.nx [some (.str w), some (.lst ((w0 :: rest).map .str)), none, none, none, none]) S := by
      simp [i0, kindD, mbId, bmD, MB.writes, sp]
    have u1 : exS S.length i1 (ctxN L.text (n + 1)) [some (.str w), some (.lst ((w0 :: rest).map .str)), none, none, none, none] S = .ok (.nx [some (.str w), some (.lst ((w0 :: rest).map .str)), some (.ref S.length), none, none, none]) (S ++ [.dic false K5 V5]) := by
      simp [i1, d5]
    have u2 : exS S.length i2 (ctxN L.text (n + 1)) [some (.str w), some (.lst ((w0 :: rest).map .str)), some (.ref S.length), none, none, none] (S ++ [.dic false K5 V5]) = .ok (.nx [some (.str w), some (.lst ((w0 :: rest).map .str)), some (.ref S.length), none, none, none]) (S ++ [.dic false KS VS]) := by
      have k5 : K5.length + 3 ≤ 1000 := by decide
      simp [i2, dicUR, d8, k5]
    have vd : vw (S ++ [.dic false KS VS]) (.ref S.length) = .dic false KS VS := by simp [vw]
    have tk : (S ++ [Cell.dic false KS VS]).take S.length = S := by simp
    generalize S ++ [Cell.dic false KS VS] = S2 at u2 vd tk
    have w00 : idxD (.lst ((w0 :: rest).map .str)) (.int 0) = some (.str w0) := rfl
    have nin : cmpD .notIn (.str w0) (.dic false KS VS) = some (!(formOf w0).isSome) := by
      show (inD (.str w0) (.dic false KS VS)).map (!·) = _
      have : inD (.str w0) (.dic false KS VS) = some (lookD (.str w0) KS VS).isSome := rfl
      rw [this, look, Option.isSome_map]
      rfl
    have gix : idxD (.dic false KS VS) (.str w0) = (formOf w0).map .str := look
    have lw : lenD (.lst ((w0 :: rest).map D.str)) = some (rest.length + 1) := by simp [lenD]
    have sl1 : slD (some 1) none (.lst ((w0 :: rest).map .str)) = some (.lst (rest.map .str)) := by
      show some (D.lst (cutL ((w0 :: rest).map D.str) (some 1) none)) = _
      rw [cut_loG _ _ (by decide) (by simp; omega)]
      rfl
    have finish : ∀ (k : Bool) (ρ : Env), exs S.length f__law_is_deed.body (ctxN L.text (n + 1)) [some (.str w), none, none, none, none, none] S = .ok (.rt (.bl k)) S2 → callN L.text (n + 2) "_law_is_deed" false [.str w] b S = .ok (.bl k) S := fun k ρ h => by
      rw [call_is ldeedIs rfl]
      have hst : Fn.start f__law_is_deed [.str w] = [some (.str w), none, none, none, none, none] := rfl
      rw [hst, show f__law_is_deed.keep = false from rfl, if_neg (by decide), h]
      simp [tk]
    generalize hWS : (w0 :: rest).map D.str = WS at u0 u1 u2 w00 lw sl1
    have nwf : ∀ k : Bool, exs S.length (.cons i3 (.cons i4 (.cons i5 .nil))) (ctxN L.text (n + 1)) [some (.str w), some (.lst WS), some (.ref S.length), none, none, none] S2 = .ok (.rt (.bl k)) S2 → callN L.text (n + 2) "_law_is_deed" false [.str w] b S = .ok (.bl k) S := fun k h => finish k [] (by
      rw [deed_body, exs_step u0, exs_step u1, exs_step u2, h])
    cases hf : formOf w0 with
    | none =>
      rw [hf] at nin gix
      refine nwf false ?_
      simp [i3, w00, vd, nin]
    | some f =>
      rw [hf] at nin gix
      have fl := form_len hf
      have lf := len_str f (by omega)
      refine nwf (decide (rest.length = f.length) && (f.zip rest).all fit) ?_
      by_cases q : rest.length = f.length
      · have q' : ((rest.length : Int) + 1 == 1 + (f.length : Int)) = true := by
          rw [q, Int.add_comm]; simp
        have u3 : exS S.length i3 (ctxN L.text (n + 1)) [some (.str w), some (.lst WS), some (.ref S.length), none, none, none] S2 = .ok (.nx [some (.str w), some (.lst WS), some (.ref S.length), none, none, none]) S2 := by
          simp [i3, w00, vd, nin, gix, lw, lf, q']
        rw [exs_step u3]
        have wf : walkD S2 (.str f) = some ⟨f.map fun c => .str [c], []⟩ := rfl
        have wr : walkD S2 (.lst (rest.map .str)) = some ⟨rest.map .str, []⟩ := rfl
        have pf := pairs_form f rest
        rw [show decide (rest.length = f.length) = true from decide_eq_true q, Bool.true_and]
        have zd : zipE S2 (.str f) (.lst (rest.map .str)) = some ⟨(f.zip rest).map fun p => D.tup [.str [p.1], .str p.2], []⟩ := by
          show some (Walk.mk (pairs (f.map fun c => D.str [c]) (rest.map .str)) []) = _
          rw [pf]
        simp [i4, w00, vd, gix, sl1, zd]
        generalize hF : forS _ _ _ _ _ _ _ _ = F
        rcases for_find (t := .many [3, 4]) (f.zip rest) (fun p => D.tup [.str [p.1], .str p.2]) (fun _ => D.bl false) (fun p => !fit p) (fun ρ => ∃ x3 x4 x5, ρ = [some (.str w), some (.lst WS), some (.ref S.length), x3, x4, x5]) rfl hF ⟨_, _, _, rfl⟩ (by
          rintro p hp _ ⟨x3, x4, x5, rfl⟩
          refine ⟨[some (.str w), some (.lst WS), some (.ref S.length), some (.str [p.1]), some (.str p.2), x5], rfl, fun Q h1 h2 => ?_⟩
          have pl : p.2.length ≤ 1000 := by
            have := ln p.2 (List.mem_cons_of_mem _ (List.of_mem_zip (a := p.1) (b := p.2) hp).2)
            omega
          have e1 := fun b => lname_sp n p.2 pl b S2
          have e2 := fun b => lbound_sp n p.2 pl b S2
          have e3 := fit_eq p
          by_cases c : p.1 = 98
          · have c' : (p.1 == 98) = true := by simpa using c
            cases hb : isBd p.2 with
            | true =>
              rw [hb] at e2
              cases hn : isNm p.2 with
              | true =>
                rw [hn] at e1
                simp [e1, e2, c']
                exact h1 _ ⟨_, _, _, rfl⟩ (by simp [fit, c, hb])
              | false =>
                rw [hn] at e1
                simp [e1, e2, e3, c']
                exact h1 _ ⟨_, _, _, rfl⟩ (by simp [fit, c, hb])
            | false =>
              rw [hb] at e2
              cases hn : isNm p.2 with
              | true =>
                rw [hn] at e1
                simp [e1, e2, c']
                exact h2 (by simp [fit, c, hb])
              | false =>
                rw [hn] at e1
                simp [e1, e2, e3, c']
                exact h2 (by simp [fit, c, hb])
          · have c' : (p.1 == 98) = false := beq_eq_false_iff_ne.mpr c
            cases hn : isNm p.2 with
            | true =>
              rw [hn] at e1
              simp [e1, c']
              exact h1 _ ⟨_, _, _, rfl⟩ (by simp [fit, c, hn])
            | false =>
              rw [hn] at e1
              cases ho : (p.1 == 108 && p.2 == [111, 117, 116]) with
              | true =>
                rw [ho] at e3
                simp [e1, e3, c']
                exact h1 _ ⟨_, _, _, rfl⟩ (by unfold fit; rw [if_neg c, hn, ho]; rfl)
              | false =>
                rw [ho] at e3
                simp [e1, e3, c']
                exact h2 (by unfold fit; rw [if_neg c, hn, ho]; rfl)) with ⟨a, ha, rfl⟩ | ⟨hn, ρ', rfl, x3, x4, x5, rfl⟩
        · have : (f.zip rest).all fit = false := by
            rw [List.all_eq_false]
            have h1 := List.find?_some ha
            exact ⟨a, List.mem_of_find?_eq_some ha, by simpa using h1⟩
          rw [this]
          rfl
        · have : (f.zip rest).all fit = true := by
            rw [List.all_eq_true]
            intro x hx
            have := List.find?_eq_none.mp hn x hx
            simpa using this
          rw [this]
          simp [i5]
      · have q' : ((rest.length : Int) + 1 == 1 + (f.length : Int)) = false := beq_eq_false_iff_ne.mpr (by omega)
        rw [show decide (rest.length = f.length) = false from decide_eq_false q]
        simp [i3, w00, vd, nin, gix, lw, lf, q']
theorem told_yes (n : Nat) (d : Deed) (h : d.read) (b : Nat) (S : Store) : callN L.text (n + 6) "_law_told" false [.str (deedS d)] b S = .ok (.str (deedS d)) S := by
  have e1 := fun b S => read_deed_sp readT n d h b S
  have e2 := fun b S => written_sp writeT (n + 3) d h b S
  have mw := fun S => meth_written writeT (n + 5) S d
  rw [call_is toldIs rfl]
  simp [f__law_told, Fn.start, e1, e2, mw]
theorem told_err (n : Nat) (d : D) (b : Nat) (S : Store) (h : ∀ b S, callN L.text (n + 5) "read_deed" false [d] b S = .err "NoText" ["row"] [.int 0] S) : callN L.text (n + 6) "_law_told" false [d] b S = .ok (.bl true) S := by
  rw [call_is toldIs rfl]
  have isL : L.text.isx "NoText" "LaneError" = some true := rfl
  have i1 : isxAny (ctxN L.text (n + 5)) "NoText" ["NoText"] = some true := rfl
  have i2 : isxAny (ctxN L.text (n + 5)) "NoText" ["ValueError"] = some true := rfl
  have i3 : isxAny (ctxN L.text (n + 5)) "NoText" ["NoCard", "NoKind", "NoLane", "NoRow"] = some false := rfl
  simp [f__law_told, Fn.start, h, tryR_as _ _ isL, i1, i2, i3, fldD]
theorem read_odd (n : Nat) (d : D) (hd : isaAny (ctxN L.text (n + 4)) d ["str"] = some false) (hv : ∀ S, vw S d = d) (b : Nat) (S : Store) : callN L.text (n + 5) "read_deed" false [d] b S = .err "NoText" ["row"] [.int 0] S := by
  rw [call_is readT.read rfl]
  have ra := fun ρ => raise_one (T := L.text) (n := n + 4) (by omega) (C := "NoText") (f := "row") rfl (.int 0) (ρ := ρ) (S := S)
  simp [P_read_deed, Fn.start, hd, hv, ra]
theorem nox : L.text.ex "NoText" = some (some ["row"]) := rfl
theorem law_true (ns : List Int) (h : ns.length ≤ 63) : callN L.text 12 "law" false [.scr ns] 0 [] = .ok (.bl true) [] := by
  rw [call_eq (d := f_law) rfl rfl, run_res]
  obtain ⟨m, hm, hm2⟩ : ∃ m : Nat, (if (ns.length : Int) < 40 then (ns.length : Int) else 40) = m ∧ m ≤ 40 := by
    split
    · exact ⟨ns.length, rfl, by omega⟩
    · exact ⟨40, rfl, by omega⟩
  have r1 : -10000000 ≤ (m : Int) + 1 ∧ (m : Int) + 1 ≤ 10000000 := by omega
  simp [f_law, Fn.start, fbD, lenD, hm, ranges, r1]
  generalize hF : forS _ _ _ _ _ _ _ _ = F
  obtain ⟨ρ', S, rfl, x1, x2, x3, x4, rfl⟩ := for_at hF (fun _ ρ _ => ∃ a b c d, ρ = [some (.scr ns), a, b, c, d]) rfl ⟨_, _, _, _, rfl⟩ (by
    rintro j d ρ S hd ⟨x1, x2, x3, x4, rfl⟩
    obtain ⟨rfl, hk⟩ := get_range hd
    refine ⟨_, asg_one _ _ _, fun Q hn _ => ?_⟩
    obtain ⟨v, e1⟩ := digits_sp0 T0 10 ns j 0 S
    have il : S.length < (S ++ [Cell.lst []]).length := by simp
    obtain ⟨ls, v1, k1, k2, k3, e2⟩ := text_sp 8 S.length 0 (S ++ [.lst []]) v il
    obtain ⟨w, v2, wl, e3⟩ := bent_sp 8 il v1 ls k1 k2 k3 0
    have e4 := ldeed_sp 9 w (by omega) 0 (hold (S ++ [.lst []]) S.length v2)
    have e1' : callN L.text 11 "_law_digits" false [.scr ns, .int (j : Int)] 0 S = .ok (.ref S.length) (hold (S ++ [.lst []]) S.length v) := e1
    have e2' : callN L.text 11 "_law_text" false [.ref S.length] 0 (hold (S ++ [.lst []]) S.length v) = .ok (.str (joinL [32] ls)) (hold (S ++ [.lst []]) S.length v1) := e2
    have e3' : callN L.text 11 "_law_bent" false [.ref S.length, .str (joinL [32] ls)] 0 (hold (S ++ [.lst []]) S.length v1) = .ok (.str w) (hold (S ++ [.lst []]) S.length v2) := e3
    have e4' : callN L.text 11 "_law_is_deed" false [.str w] 0 (hold (S ++ [.lst []]) S.length v2) = .ok (.bl (isDeedL (cutW 32 w))) (hold (S ++ [.lst []]) S.length v2) := e4
    cases hq : isDeedL (cutW 32 w) with
    | true =>
      rw [hq] at e4'
      obtain ⟨d, d1, d2⟩ := deed_of_words hq
      have ws : w = deedS d := by
        have := cutW_join 32 w
        rw [← d2] at this
        exact this.symm
      have e5 := told_yes 5 d d1 0 (hold (S ++ [.lst []]) S.length v2)
      rw [← ws] at e5
      have nw : cmpD .ne (.str w) (.str w) = some false := by simp
      simp [e1', e2', e3', e4', e5, nw]
      exact hn _ _ ⟨_, _, _, _, rfl⟩
    | false =>
      rw [hq] at e4'
      have e5 := told_err 5 (.str w) 0 (hold (S ++ [.lst []]) S.length v2) fun b S => read_no readT nox 5 w (by omega) hq b S
      have ib : cmpD .isNot (.bl true) (.bl true) = some false := rfl
      simp [e1', e2', e3', e4', e5, ib]
      exact hn _ _ ⟨_, _, _, _, rfl⟩)
  have odd : ∀ d ∈ [D.non, .int 0, .bl true, .tup [], .lst [.str [112, 117, 108, 108, 32, 97]], .str [], .str [112, 117, 108, 108], .str [111, 117, 116], .str [112, 117, 108, 108, 32, 111, 117, 116], .str [119, 97, 105, 116, 32, 97, 32, 121, 97, 114, 100, 32, 98], .str [97, 100, 100, 32, 97, 32, 111, 117, 116]], ∀ b S, callN L.text 11 "_law_told" false [d] b S = .ok (.bl true) S := by
    have st : ∀ w : List Nat, w.length ≤ 1000 → isDeedL (cutW 32 w) = false → ∀ b S, callN L.text 11 "_law_told" false [.str w] b S = .ok (.bl true) S := fun w h1 h2 b S => told_err 5 (.str w) b S fun b S => read_no readT nox 5 w h1 h2 b S
    intro d hd b S
    simp only [List.mem_cons, List.not_mem_nil, or_false] at hd
    rcases hd with rfl | rfl | rfl | rfl | rfl | rfl | rfl | rfl | rfl | rfl | rfl
    · exact told_err 5 _ b S fun b S => read_odd 5 _ rfl (fun _ => rfl) b S
    · exact told_err 5 _ b S fun b S => read_odd 5 _ rfl (fun _ => rfl) b S
    · exact told_err 5 _ b S fun b S => read_odd 5 _ rfl (fun _ => rfl) b S
    · exact told_err 5 _ b S fun b S => read_odd 5 _ rfl (fun _ => rfl) b S
    · exact told_err 5 _ b S fun b S => read_odd 5 _ rfl (fun _ => rfl) b S
    · exact st _ (by decide) (by decide) b S
    · exact st _ (by decide) (by decide) b S
    · exact st _ (by decide) (by decide) b S
    · exact st _ (by decide) (by decide) b S
    · exact st _ (by decide) (by decide) b S
    · exact st _ (by decide) (by decide) b S
  simp
  generalize hG : forS _ _ _ _ _ _ _ _ = G
  obtain ⟨ρ', S', rfl, ⟨y1, y2, y3, y4, rfl⟩, rfl⟩ := for_at hG (fun _ ρ S' => (∃ a b c d, ρ = [some (.scr ns), a, b, c, d]) ∧ S' = S) rfl ⟨⟨_, _, _, _, rfl⟩, rfl⟩ (by
    rintro j d ρ S' hd ⟨⟨y1, y2, y3, y4, rfl⟩, rfl⟩
    have e := odd d (List.mem_of_getElem? hd) 0 S'
    have ib : cmpD .isNot (.bl true) (.bl true) = some false := rfl
    refine ⟨_, asg_one _ _ _, fun Q hn _ => ?_⟩
    simp [e, ib]
    exact hn _ _ ⟨⟨_, _, _, _, rfl⟩, rfl⟩)
  simp
end K21
end CL
open PySem PySem.W PySem.Calls PyProof.Rows
set_option maxHeartbeats 0 in
theorem PySem.Challenge.cw_cardlanes_k21_no_deed_texts_holds : PySem.Challenge.rw_cardlanes_k21_no_deed_texts.Holds := by
  w_on; o_law
  refine HandSHeadRun.head_any (r := CL.K21.row) (q := view CL.K21.row.prog [79]) (H := CL.K21.L.hook 1600) (ob := CL.K21.L.ob 1600) (M := 12000) (loose := CL.K21.others) (d := HandSHeadRun.topDef CL.K21.row.prog 79) (kwd := []) (CL.LT.ob_eq CL.K21.L 1600)
    (by kernel_rfl) (fun s => by kernel_rfl) CL.K21.run (by kernel_rfl) (by kernel_rfl) (by kernel_rfl) (by rfl) (by first | assumption | decide +kernel) (by decide +kernel) ⟨rfl, rfl, rfl, rfl, rfl, by decide +kernel⟩ ?hw ?hc
  case hw => w_witness2
  case hc =>
    exact CL.law_walk (l := PySem.Challenge.rw_cardlanes_k21_no_deed_texts) (dl := CL.K21.f_law) (il := 79) (N := 12) (n := 63) (x := "_law_script") CL.K21.fine rfl (by decide) (by kernel_rfl) (by kernel_rfl) ⟨rfl, by decide, by decide⟩ rfl rfl CL.K21.law_true
