import PyProof.Rows.All
import Wide.All
import OpenK.AllK
import Wide.FinOn
import HandS.ForMost
import HandS.Walk
import HandS.Wide
import HandS.TupAny
import HandS.Deep
import HandS.Style
import HandS.More
import HandS.IsInst
import HandS.RaiseMore
import HandS.WideBits
import HandS.SortInts
import HandS.List
import HandS.Text
import HandS.Dict
import HandS.FStr
import HandS.Codes
import HandS.Defaults
import HandS.Small
import HandS.EndBits
import PySem.Challenge.RW_ringclear_k15_names_and_amounts_of_anyth
set_option Elab.async false
set_option linter.all false
set_option maxRecDepth 100000
/-! # Mp: a small interpreter over trees -/
namespace Mp
open PySem L2

/-- who may change a node: its one holder; nobody while this frame runs; nobody ever -/
inductive Fl where
  | own | bor | frz
  deriving DecidableEq, Repr

inductive D where
  | non
  | bl (b : Bool)
  | int (i : Int)
  | str (x : Str)
  | tup (ds : List D)
  | lst (f : Fl) (ds : List D)
  | dic (f : Fl) (ks : List Key) (ds : List D)
  | ins (f : Fl) (c : Nat) (ns : List Str) (ds : List D)
  /-- the law's script -/
  | scr (ns : List Int)

instance : Inhabited D := ⟨.non⟩
abbrev Env := List (Option D)

def Fl.fz : Fl → Fl
  | .own => .frz
  | f => f
def Fl.br : Fl → Fl
  | .own => .bor
  | f => f

mutual
def D.fz : D → D
  | .tup ds => .tup (fzs ds)
  | .lst f ds => .lst f.fz (fzs ds)
  | .dic f ks ds => .dic f.fz ks (fzs ds)
  | .ins f c ns ds => .ins f.fz c ns (fzs ds)
  | .non => .non
  | .bl b => .bl b
  | .int i => .int i
  | .str x => .str x
  | .scr ns => .scr ns
def fzs : List D → List D
  | [] => []
  | d :: ds => d.fz :: fzs ds
end
mutual
def D.br : D → D
  | .tup ds => .tup (brs ds)
  | .lst f ds => .lst f.br (brs ds)
  | .dic f ks ds => .dic f.br ks (brs ds)
  | .ins f c ns ds => .ins f.br c ns (brs ds)
  | .non => .non
  | .bl b => .bl b
  | .int i => .int i
  | .str x => .str x
  | .scr ns => .scr ns
def brs : List D → List D
  | [] => []
  | d :: ds => d.br :: brs ds
end
/-- no node is its holder's own: it may stand in several places -/
def Fl.sh : Fl → Bool
  | .own => false
  | _ => true
def Fl.nb : Fl → Bool
  | .bor => false
  | _ => true
mutual
def D.sh : D → Bool
  | .tup ds => shs ds
  | .lst f ds => f.sh && shs ds
  | .dic f _ ds => f.sh && shs ds
  | .ins f _ _ ds => f.sh && shs ds
  | _ => true
def shs : List D → Bool
  | [] => true
  | d :: ds => d.sh && shs ds
end
/-! no node is borrowed: it may leave the frame -/
mutual
def D.nb : D → Bool
  | .tup ds => nbs ds
  | .lst f ds => f.nb && nbs ds
  | .dic f _ ds => f.nb && nbs ds
  | .ins f _ _ ds => f.nb && nbs ds
  | _ => true
def nbs : List D → Bool
  | [] => true
  | d :: ds => d.nb && nbs ds
end
@[simp] theorem fzs_eq (ds : List D) : fzs ds = ds.map D.fz := by induction ds with
  | nil => simp [fzs]
  | cons d ds ih => simp [fzs, ih]
@[simp] theorem brs_eq (ds : List D) : brs ds = ds.map D.br := by induction ds with
  | nil => simp [brs]
  | cons d ds ih => simp [brs, ih]
@[simp] theorem shs_eq (ds : List D) : shs ds = ds.all D.sh := by induction ds with
  | nil => simp [shs]
  | cons d ds ih => simp [shs, ih]
@[simp] theorem nbs_eq (ds : List D) : nbs ds = ds.all D.nb := by induction ds with
  | nil => simp [nbs]
  | cons d ds ih => simp [nbs, ih]

/-! as data without flags; none where there is an instance in it -/
mutual
def D.py : D → Option PyData
  | .non => some .none
  | .bl b => some (.bool b)
  | .int i => some (.int i)
  | .str x => some (.str x)
  | .tup ds => (pys ds).map .tuple
  | .lst _ ds => (pys ds).map .list
  | .dic _ ks ds => (pys ds).map fun ps => .dict ((ks.map fun k => match k with | .inl i => PyData.int i | .inr x => PyData.str x).zip ps)
  | .ins _ _ _ _ => none
  | .scr _ => none
def pys : List D → Option (List PyData)
  | [] => some []
  | d :: ds => match d.py, pys ds with
    | some p, some ps => some (p :: ps)
    | _, _ => none
end

/-! ### small operations -/
abbrev lim : Nat := 1000000
def kD : Key → D
  | .inl i => .int i
  | .inr x => .str x
def D.key? : D → Option Key
  | .int i => some (.inl i)
  | .str x => some (.inr x)
  | _ => none
def lookD : List Key → List D → Key → Option D
  | k :: ks, d :: ds, j => if k = j then some d else lookD ks ds j
  | _, _, _ => none
def putD : List Key → List D → Key → D → List Key × List D
  | k :: ks, d :: ds, j, x => if k = j then (k :: ks, x :: ds) else
    let r := putD ks ds j x
    (k :: r.1, d :: r.2)
  | _, _, j, x => ([j], [x])
def fldD : List Str → List D → Str → Option D
  | n :: ns, d :: ds, j => if n = j then some d else fldD ns ds j
  | _, _, _ => none
def putF' : List Str → List D → Str → D → List Str × List D
  | n :: ns, d :: ds, j, x => if n = j then (n :: ns, x :: ds) else
    let r := putF' ns ds j x
    (n :: r.1, d :: r.2)
  | _, _, j, x => ([j], [x])

inductive Bop where
  | add | sub | mul | fdiv | mod | pow
  deriving DecidableEq, Repr
inductive Cop where
  | eq | ne | lt | le | gt | ge | is | isnot | inn | notin
  deriving DecidableEq, Repr
/-- built-in functions and types that are called -/
inductive Bi where
  | len | abs | min | max | sum | any | all | divmod | int | str | repr | list | tuple | dict | sorted
  | isin (ts : List String)
  deriving DecidableEq, Repr
/-- methods of built-in types that change nothing -/
inductive Bm where
  | join | split | startswith | upper | index | count | get | items | values
  deriving DecidableEq, Repr

/-- the children of an operand that go into something new: pl: the operand has a holder -/
def kids (pl : Bool) (ds : List D) : Option (List D) := if pl && !(shs ds) then none else some ds

def mulOk (i j : Int) : Bool := (i.natAbs < 2 ^ 64 || j.natAbs < 2 ^ 64) || (i.natAbs < 2 ^ 5000 && j.natAbs < 2 ^ 5000)
def binD (pa pb : Bool) : Bop → D → D → Option D
  | .add, .int i, .int j => some (.int (i + j))
  | .add, .str x, .str y => if x.length + y.length ≤ lim then some (.str (x ++ y)) else none
  | .add, .lst _ xs, .lst _ ys => if xs.length + ys.length ≤ lim then (kids pa xs).bind fun a => (kids pb ys).bind fun b => some (.lst .own (a ++ b)) else none
  | .add, .tup xs, .tup ys => if xs.length + ys.length ≤ lim then (kids pa xs).bind fun a => (kids pb ys).bind fun b => some (.tup (a ++ b)) else none
  | .sub, .int i, .int j => some (.int (i - j))
  | .mul, .int i, .int j => if mulOk i j then some (.int (i * j)) else none
  | .mul, .lst _ xs, .int k => if xs.length * k.toNat ≤ lim ∧ -1000000 ≤ k ∧ k ≤ 1000000 then (kids pa xs).bind fun a => some (.lst .own (List.replicate k.toNat (a.map D.fz)).flatten) else none
  | .fdiv, .int i, .int j => if 0 < j ∧ j < 2 ^ 9000 then some (.int (i / j)) else none
  | .mod, .int i, .int j => if 0 < j then some (.int (i % j)) else none
  | .pow, .int i, .int j => if 0 ≤ j ∧ j ≤ 1000000 ∧ i.natAbs < 2 ^ 64 then some (.int (i ^ j.toNat)) else none
  | _, _, _ => none

/-- what is no object -/
def D.sc : D → Option V
  | .non => some .non
  | .bl b => some (.bl b)
  | .int i => some (.int i)
  | .str x => some (.str x)
  | _ => none
def scs : List D → Option (List V)
  | [] => some []
  | d :: ds => match d.sc, scs ds with
    | some v, some vs => some (v :: vs)
    | _, _ => none
def eqP (a b : D) : Option Bool := match a.py, b.py with
  | some p, some q => if SeqAt.shaped p && SeqAt.shaped q then some (PyData.eqv p q) else none
  | _, _ => none
/-- == without flags, dicts and instances aside -/
def eqD (a b : D) : Option Bool := match a.sc, b.sc with
  | some x, some y => if scal x y then some (decide (x = y)) else eqP a b
  | _, _ => eqP a b
/-- in a list: of flat things, else by data -/
def inP (x : D) (ds : List D) : Option Bool := match x.py, pys ds with
  | some p, some qs => if SeqAt.shaped p && SeqAt.shaped (.list qs) then some (qs.any fun q => PyData.eqv q p) else none
  | _, _ => none
def inL (x : D) (ds : List D) : Option Bool := match x.sc, scs ds with
  | some v, some vs => some (inV v vs)
  | _, _ => inP x ds
def inD (x : D) (c : D) : Option Bool := match c with
  | .str z => match x with
    | .str y => if y.length = 1 then some (decide (y.cps.getD 0 0 ∈ z.cps.toList)) else some (!(Builtin.Str.occurrences z y 0 z.length 1).isEmpty)
    | _ => none
  | .dic _ ks _ => x.key?.map fun k => ks.any fun j => decide (j = k)
  | .lst _ ds => inL x ds
  | .tup ds => match x.sc, scs ds with
    | some v, some vs => some (inV v vs)
    | _, _ => none
  | _ => none
def isNon : D → Bool
  | .non => true
  | _ => false
def cmpD : Cop → D → D → Option Bool
  | .eq, a, b => eqD a b
  | .ne, a, b => (eqD a b).map not
  | .lt, .int i, .int j => some (decide (i < j))
  | .le, .int i, .int j => some (decide (i ≤ j))
  | .gt, .int i, .int j => some (decide (j < i))
  | .ge, .int i, .int j => some (decide (j ≤ i))
  | .lt, .str x, .str y => some (decide (x.cps.toList < y.cps.toList))
  | .is, a, .non => some (isNon a)
  | .isnot, a, .non => some (!isNon a)
  | .inn, a, b => inD a b
  | .notin, a, b => (inD a b).map not
  | _, _, _ => none

/-- x[i] -/
def getD (x i : D) : Option D := match x, i with
  | .lst _ ds, .int i => atI ds i
  | .tup ds, .int i => atI ds i
  | .str z, .int i => if z.length ≤ lim then (atI z.cps.toList i).map fun c => .str ⟨#[c]⟩ else none
  | .scr ns, .int i => (atI ns i).map .int
  | .dic _ ks ds, k => k.key?.bind fun k => lookD ks ds k
  | _, _ => none
def cutL {α : Type} (xs : List α) (lo hi : Option Int) : List α := (xs.drop (HT.sIx xs.length 0 lo)).take (HT.sIx xs.length xs.length hi - HT.sIx xs.length 0 lo)
/-- x[lo:hi] -/
def cutD (pl : Bool) (x : D) (lo hi : Option Int) : Option D := match x with
  | .lst _ ds => (kids pl ds).bind fun ds => some (.lst .own (cutL ds lo hi))
  | .tup ds => (kids pl ds).bind fun ds => some (.tup (cutL ds lo hi))
  | .str z => if z.length ≤ lim then some (.str (cutS z lo hi)) else none
  | _ => none
def revD (pl : Bool) : D → Option D
  | .lst _ ds => (kids pl ds).map fun ds => .lst .own ds.reverse
  | _ => none
/-- the attributes that instances of the classes have -/
def classFields : Nat → List Str
  | 0 => ["own_given", "own_notes", "own_fallen"]
  | 1 => ["through", "rows"]
  | 2 => ["ledgers"]
  | _ => []
def fieldD (x : D) (n : Str) : Option D := match x with
  | .ins _ c ns ds => if n ∈ classFields c then fldD ns ds n else none
  | _ => none

def intsD : List D → Option (List Int)
  | [] => some []
  | .int i :: r => (intsD r).map (i :: ·)
  | _ => none
def blsD : List D → Option (List Bool)
  | [] => some []
  | .bl i :: r => (blsD r).map (i :: ·)
  | _ => none
def strsD : List D → Option (List Str)
  | [] => some []
  | .str i :: r => (strsD r).map (i :: ·)
  | _ => none
def pairsD : List D → Option (List (Key × D))
  | [] => some []
  | .tup [k, d] :: r => match k.key?, pairsD r with
    | some k, some r => some ((k, d) :: r)
    | _, _ => none
  | _ => none
def mergeD (ps : List (Key × D)) : List Key × List D := ps.foldl (fun a p => putD a.1 a.2 p.1 p.2) ([], [])
def minL : List Int → Option Int
  | [] => none
  | i :: r => some (r.foldl min i)
def maxL : List Int → Option Int
  | [] => none
  | i :: r => some (r.foldl max i)
def txtI (i : Int) : Option Str := if i.natAbs.log2 < 1920 then some (toString i) else none
def tyOf : D → Option String
  | .non => some "NoneType"
  | .bl _ => some "bool"
  | .int _ => some "int"
  | .str _ => some "str"
  | .tup _ => some "tuple"
  | .lst _ _ => some "list"
  | .dic _ _ _ => some "dict"
  | _ => none
/-- whether a thing of type a is one of b -/
def isOne (a b : String) : Option Bool := if b ∈ ["str", "int", "bool", "list", "dict", "tuple"] then some (a == b || (a == "bool" && b == "int")) else none
def isAny (a : String) : List String → Option Bool
  | [] => some false
  | b :: bs => match isOne a b, isAny a bs with
    | some p, some q => some (p || q)
    | _, _ => none
def insertI (i : Int) : List Int → List Int
  | [] => [i]
  | j :: r => if i ≤ j then i :: j :: r else j :: insertI i r
def sortI (l : List Int) : List Int := l.foldr insertI []
def insertS (i : Str) : List Str → List Str
  | [] => [i]
  | j :: r => if j.cps.toList < i.cps.toList then j :: insertS i r else i :: j :: r
def sortS (l : List Str) : List Str := l.foldr insertS []

/-- dicts are shown where they hold flat things alone and are not within others -/
def repOk (d : D) (p : PyData) : Bool := match d with
  | .dic _ _ ds => (scs ds).isSome
  | _ => !p.hasDict
/-- built-in functions; ps: which operands have a holder -/
def biD (b : Bi) (ps : List Bool) (ds : List D) : Option D := match b, ds with
  | .len, [.str x] => if x.length ≤ lim then some (.int x.length) else none
  | .len, [.lst _ xs] => some (.int xs.length)
  | .len, [.tup xs] => some (.int xs.length)
  | .len, [.dic _ ks _] => some (.int ks.length)
  | .len, [.scr ns] => some (.int ns.length)
  | .abs, [.int i] => some (.int (if i < 0 then -i else i))
  | .min, [.int i, .int j] => some (.int (if j < i then j else i))
  | .max, [.int i, .int j] => some (.int (if j > i then j else i))
  | .min, [.lst _ xs] => (intsD xs).bind fun l => (minL l).map .int
  | .max, [.lst _ xs] => (intsD xs).bind fun l => (maxL l).map .int
  | .sum, [.lst _ xs] => (intsD xs).map fun l => .int l.sum
  | .any, [.lst _ xs] => (blsD xs).map fun l => .bl (l.any id)
  | .all, [.lst _ xs] => (blsD xs).map fun l => .bl (l.all id)
  | .divmod, [.int i, .int j] => if 0 < j ∧ j < 2 ^ 9000 then some (.tup [.int (i / j), .int (i % j)]) else none
  | .int, [.int i] => some (.int i)
  | .int, [.bl b] => some (.int (if b then 1 else 0))
  | .int, [.str x] => if x.length ≤ 640 then (PySem.intText? x).map .int else none
  | .str, [.int i] => (txtI i).map .str
  | .str, [.str x] => some (.str x)
  | .repr, [d] => d.py.bind fun p => if p.showable && decide (p.depth ≤ 60) && decide (p.shown.length ≤ lim) && repOk d p then some (.str p.shown) else none
  | .list, [.lst _ xs] => (kids (ps.getD 0 false) xs).map (.lst .own)
  | .list, [.tup xs] => (kids (ps.getD 0 false) xs).map (.lst .own)
  | .list, [.dic _ ks _] => some (.lst .own (ks.map kD))
  | .tuple, [.lst _ xs] => (kids (ps.getD 0 false) xs).map .tup
  | .tuple, [.tup xs] => (kids (ps.getD 0 false) xs).map .tup
  | .dict, [.dic _ ks xs] => (kids (ps.getD 0 false) xs).map (.dic .own ks)
  | .dict, [.lst _ xs] => (kids (ps.getD 0 false) xs).bind fun xs => (pairsD xs).bind fun l => if decide (l.map (·.1)).Nodup then some (.dic .own (l.map (·.1)) (l.map (·.2)))
      else if shs (l.map (·.2)) then some (.dic .own (mergeD l).1 (mergeD l).2) else none
  | .sorted, [.lst _ xs] => (intsD xs).map fun l => .lst .own ((sortI l).map .int)
  | .isin ts, [d] => (tyOf d).bind fun a => (isAny a ts).map .bl
  | _, _ => none
def bmD (m : Bm) (ps : List Bool) (ds : List D) : Option D := match m, ds with
  | .join, [.str s, .lst _ xs] => (strsD xs).bind fun l => if (l.map (·.length)).sum + l.length * s.length ≤ lim then some (.str (Txt.join s l)) else none
  | .split, [.str a, .str b] => if b.length ≠ 0 ∧ a.length ≤ lim then some (.lst .own ((Txt.split a b).map .str)) else none
  | .startswith, [.str a, .str b] => some (.bl (Txt.startswith a b))
  | .upper, [.str a] => if a.length ≤ lim then some (.str (Txt.upper a)) else none
  | .index, [.lst _ xs, d] => match d.sc, scs xs with
    | some v, some vs => (vs.findIdx? fun z => eqV z v).map fun (j : Nat) => .int j
    | _, _ => none
  | .get, [.dic _ ks xs, k] => k.key?.bind fun k => match lookD ks xs k with
    | some x => if x.sh then some x else none
    | none => some .non
  | .get, [.dic _ ks xs, k, d] => k.key?.bind fun k => match lookD ks xs k with
    | some x => if x.sh then some x else none
    | none => if d.sh then some d else none
  | _, _ => none

/-! ### the language -/
/-- what is asked of operands alone -/
inductive Op where
  | neg | bin (o : Bop) | cmp (o : Cop) | sub | slc (l h : Bool) | rev | fld (x : Str) | bi (b : Bi) | bm (m : Bm) | isc (c : Nat) | fst
/-- what mutates a place -/
inductive Mm where
  | append | extend | reverse | clear | pop0 | pop | insert
  deriving DecidableEq, Repr
mutual
inductive ME where
  | var (i : Nat) | mv (i : Nat)
  /-- freeze what a part tells; a name: at its place -/
  | fr (a : ME) | fz (i : Nat)
  /-- asked while all names' things are lent out -/
  | bw (a : ME)
  | kn | kb (b : Bool) | ki (i : Int) | ks (s : Str)
  /-- a module's constant -/
  | gl (x : Str) (d : D)
  | op (o : Op) (es : MEs)
  | not (a : ME)
  | chn (o o' : Cop) (a b c : ME)
  | and (a b : ME) | or (a b : ME)
  | ite (c a b : ME)
  | lst (es : MEs) | tup (es : MEs) | dic (es : MKs)
  | call (f : Nat) (es : MEs)
  /-- o.m(..), m the method f of o's class c -/
  | meth (c : Nat) (m : Str) (f : Nat) (es : MEs)
  | mk (c f : Nat) (es : MEs)
  /-- an argument that the callee may change: a name's; something new -/
  | io (i : Nat) | it (e : ME)
  /-- x.pop(..), and what it gives -/
  | pop (i : Nat) (p : MPs) (es : MEs)
  | lc (own : List Nat) (t : MT) (it : MI) (cs : MEs) (e : ME)
  | dc (own : List Nat) (t : MT) (it : MI) (k e : ME)
inductive MEs where
  | nil | cons (e : ME) (es : MEs)
inductive MKs where
  | nil | cons (k e : ME) (r : MKs)
inductive MI where
  | seq (e : ME) | rng (a b : ME) | rng3 (a b c : ME) | enm (e : ME) (s : Int) | zip (es : MEs) | items (e : ME) | vals (e : ME)
inductive MT where
  | nm (i : Nat) | tp (ts : MTs) | st (i : Nat) (p : MPs) (k : ME)
inductive MTs where
  | nil | cons (t : MT) (ts : MTs)
/-- the way from a name to a part -/
inductive MPs where
  | nil | key (k : ME) (p : MPs) | fld (x : Str) (p : MPs)
end

mutual
inductive MS where
  | asg (t : MT) (e : ME)
  | aug (i : Nat) (o : Bop) (e : ME)
  | augs (i : Nat) (p : MPs) (k : ME) (o : Bop) (e : ME)
  | setf (i : Nat) (p : MPs) (x : Str) (e : ME)
  | mut (i : Nat) (p : MPs) (m : Mm) (es : MEs)
  /-- the same of something new, which is dropped -/
  | mutt (e : ME) (m : Mm) (es : MEs)
  | ex (e : ME)
  | ret (e : ME) | retn
  | ife (c : ME) (a b : MSs)
  | for_ (t : MT) (it : MI) (b : MSs)
  | while_ (c : ME) (b : MSs)
  | pass | brk | cont
  | raise
  | try_ (b : MSs)
  /-- slots forgotten; a place frozen -/
  | kill (is : List Nat) | frz (i : Nat) (p : MPs)
inductive MSs where
  | nil | cons (s : MS) (r : MSs)
end
structure Fn where
  np : Nat
  ns : Nat
  io : List Bool
  /-- what it tells may be changed by whoever asked -/
  ro : Bool
  body : MSs

mutual
/-- a part of something that a name holds -/
def ME.pl : ME → Bool
  | .var _ => true
  | .op (.fld _) es => es.pl1
  | .op .sub es => es.pl1
  | _ => false
def MEs.pl1 : MEs → Bool
  | .cons e _ => e.pl
  | .nil => false
end
mutual
/-- nothing that stands is changed by it -/
def ME.still : ME → Bool
  | .mv _ | .fz _ | .io _ | .pop _ _ _ => false
  | .it e => e.still
  | .fr a => a.still && !a.pl
  | .bw a => a.still
  | .op _ es => es.still
  | .not a => a.still
  | .chn _ _ a b c => a.still && b.still && c.still
  | .and a b => a.still && b.still
  | .or a b => a.still && b.still
  | .ite c a b => c.still && a.still && b.still
  | .lst es => es.still
  | .tup es => es.still
  | .dic es => es.still
  | .call _ es => es.still
  | .meth _ _ _ es => es.still
  | .mk _ _ es => es.still
  | .lc _ _ it cs e => it.still && cs.still && e.still
  | .dc _ _ it k e => it.still && k.still && e.still
  | .var _ | .kn | .kb _ | .ki _ | .ks _ | .gl _ _ => true
def MEs.still : MEs → Bool
  | .nil => true
  | .cons e es => e.still && es.still
def MKs.still : MKs → Bool
  | .nil => true
  | .cons k e r => k.still && e.still && r.still
def MI.still : MI → Bool
  | .seq e => e.still
  | .rng a b => a.still && b.still
  | .rng3 a b c => a.still && b.still && c.still
  | .enm e _ => e.still
  | .zip es => es.still
  | .items e => e.still
  | .vals e => e.still
end
def MEs.pls : MEs → List Bool
  | .nil => []
  | .cons e es => e.pl :: es.pls

/-- the parts of an f-string -/
def fstr : List D → Option Str
  | [] => some Str.empty
  | .str x :: r => (fstr r).map (x ++ ·)
  | .int i :: r => (txtI i).bind fun x => (fstr r).map (x ++ ·)
  | _ => none

/-- an operation by the values of its operands; ps: which have a holder -/
def opD (o : Op) (ps : List Bool) (ds : List D) : Option D := match o, ds with
  | .neg, [.int i] => some (.int (-i))
  | .bin o, [a, b] => binD (ps.getD 0 false) (ps.getD 1 false) o a b
  | .cmp o, [a, b] => (cmpD o a b).map .bl
  | .sub, [a, i] => getD a i
  | .slc false false, [a] => cutD (ps.getD 0 false) a none none
  | .slc true false, [a, .int l] => cutD (ps.getD 0 false) a (some l) none
  | .slc false true, [a, .int h] => cutD (ps.getD 0 false) a none (some h)
  | .slc true true, [a, .int l, .int h] => cutD (ps.getD 0 false) a (some l) (some h)
  | .rev, [a] => revD (ps.getD 0 false) a
  | .fld x, [a] => fieldD a x
  | .bi b, ds => biD b ps ds
  | .bm m, ds => bmD m ps ds
  | .isc c, [.ins _ c' _ _] => if c' = c then some (.bl true) else none
  | .fst, ds => (fstr ds).bind fun x => if x.length ≤ lim then some (.str x) else none
  | _, _ => none
def insOf : D → Option Nat
  | .ins _ c _ _ => some c
  | _ => none
end Mp
set_option Elab.async false
set_option linter.all false
set_option maxRecDepth 100000
/-! # Mp: the interpreter -/
namespace Mp
open PySem L2

/-- what the interpreter asks of the defs: f, which arguments it may change, the arguments: the value, the changed ones -/
abbrev Call := Nat → List Bool → List D → Option (D × List D)

inductive Ar where
  /-- a value that holds nothing; a part of what a name holds, lent; a name's thing, lent; handed in and out: a name's, something new -/
  | val (d : D) | prt (d : D) | late (i : Nat) | io (i : Nat) | it (d : D)
def gI (ρ : Env) (i : Nat) : Option D := (ρ[i]?).bind id
def Ar.get (ρ : Env) : Ar → Option D
  | .val d => some d
  | .prt d => some d.br
  | .late i => (gI ρ i).map D.br
  | .io i => gI ρ i
  | .it d => some d
def getAll (ρ : Env) : List Ar → Option (List D)
  | [] => some []
  | c :: r => match c.get ρ, getAll ρ r with
    | some d, some ds => some (d :: ds)
    | _, _ => none
def Ar.flag : Ar → Bool
  | .io _ => true
  | .it _ => true
  | _ => false
/-- where the changed arguments go -/
def ios : List Ar → List (Option Nat)
  | [] => []
  | .io i :: r => some i :: ios r
  | .it _ :: r => none :: ios r
  | _ :: r => ios r
def lates : List Ar → List Nat
  | [] => []
  | .late i :: r => i :: lates r
  | _ :: r => lates r
def setAll : Env → List (Option Nat) → List D → Option Env
  | ρ, [], [] => some ρ
  | ρ, some i :: is, d :: ds => setAll (ρ.set i (some d)) is ds
  | ρ, none :: is, _ :: ds => setAll ρ is ds
  | _, _, _ => none
def Ar.isPrt : Ar → Bool
  | .prt _ => true
  | _ => false
def caOk (cs : List Ar) : Bool := decide ((ios cs).filterMap id).Nodup && (((ios cs).filterMap id).all fun i => !(lates cs).contains i) && (((ios cs).filterMap id).isEmpty || !cs.any Ar.isPrt)
/-- a call with its arguments ready; more ahead of them -/
def doCall (cl : Call) (f : Nat) (pre : List Bool) (preD : List D) (cs : List Ar) (ρ : Env) : Option (D × List D × Env) :=
  if caOk cs then (getAll ρ cs).bind fun ds => (cl f (pre ++ cs.map Ar.flag) (preD ++ ds)).bind fun r =>
    (setAll ρ (ios cs) (r.2.drop (pre.filter id).length)).map fun ρ' => (r.1, r.2.take (pre.filter id).length, ρ')
  else none
/-- an instance of c that has no attribute m -/
def isRecv (c : Nat) (m : Str) : D → Bool
  | .ins _ c' ns _ => c' == c && !ns.contains m
  | _ => false
def wipeE (ρ : Env) : List Nat → Env
  | [] => ρ
  | i :: is => (wipeE ρ is).set i none
def backE (ρ0 ρ : Env) : List Nat → Env
  | [] => ρ
  | i :: is => (backE ρ0 ρ is).set i ((ρ0[i]?).bind id)
def brE (ρ : Env) : Env := ρ.map fun d => d.map D.br
def nums (a : Int) (n : Nat) : List D := (List.range n).map fun (k : Nat) => .int (a + (k : Int))
def asBl : D → Option Bool
  | .bl b => some b
  | _ => none

/-- == of two instances of one class -/
def ownEq : Op → List D → Option Nat
  | .cmp .eq, [.ins _ c _ _, .ins _ c' _ _] => if c = c' then some (10000 + c) else none
  | _, _ => none
/-- an operation by values, or an own method that it asks -/
def opV (cl : Call) (o : Op) (ps : List Bool) (ds : List D) : Option D := match ownEq o ds with
  | some f => (cl f [false, false] (ds.map D.br)).bind fun r => (asBl r.1).map D.bl
  | none => opD o ps ds
/-- one of the turns of a comprehension -/
def lcL (f : D → Env → Option (Option D × Env)) : List D → Env → List D → Option (List D × Env)
  | [], ρ, acc => some (acc, ρ)
  | x :: xs, ρ, acc => match f x ρ with
    | some (some d, ρ') => if acc.length < lim then lcL f xs ρ' (acc ++ [d]) else none
    | some (none, ρ') => lcL f xs ρ' acc
    | none => none
def dcL (f : D → Env → Option (Key × D × Env)) : List D → Env → List Key → List D → Option (List Key × List D × Env)
  | [], ρ, ks, ds => some (ks, ds, ρ)
  | x :: xs, ρ, ks, ds => match f x ρ with
    | some (k, d, ρ') => if ks.length < lim then dcL f xs ρ' (putD ks ds k d).1 (putD ks ds k d).2 else none
    | none => none
/-- what an iterable gives -/
def itemsOf (pl : Bool) : D → Option (List D)
  | .lst f ds => if pl && !(f.sh && shs ds) then none else some (fzs ds)
  | .tup ds => if pl && !(shs ds) then none else some (fzs ds)
  | .str z => some (z.cps.toList.map fun c => .str ⟨#[c]⟩)
  | _ => none
def zipD : List D → List D → List D
  | a :: r, b :: s => .tup [a, b] :: zipD r s
  | _, _ => []
def enumD (s : Int) : List D → List D
  | [] => []
  | d :: r => .tup [.int s, d] :: enumD (s + 1) r
def small (i : Int) : Bool := -1000000000000000000 ≤ i ∧ i ≤ 1000000000000000000
def pairsOf : List Key → List D → List D
  | k :: ks, d :: ds => .tup [kD k, d] :: pairsOf ks ds
  | _, _ => []

/-- .. to be kept: what a name holds must be shareable -/
def adj (pl : Bool) (r : Option (D × Env)) : Option (D × Env) := r.bind fun r => if pl && !r.1.sh then none else some r

/-! ### parts of a tree -/
inductive Sel where
  | key (k : Key) | fld (x : Str)
def getS (d : D) : Sel → Option D
  | .key k => match d, k with
    | .lst .own ds, .inl i => atI ds i
    | .dic .own ks ds, k => lookD ks ds k
    | _, _ => none
  | .fld x => match d with
    | .ins .own c ns ds => if x ∈ classFields c then fldD ns ds x else none
    | _ => none
def setS (d : D) (x : D) : Sel → Option D
  | .key k => match d, k with
    | .lst .own ds, .inl i => (ixN ds.length i).map fun j => .lst .own (ds.set j x)
    | .dic .own ks ds, k => if ks.length < lim then some (.dic .own (putD ks ds k x).1 (putD ks ds k x).2) else none
    | _, _ => none
  | .fld n => match d with
    | .ins .own c ns ds => if n ∈ classFields c then some (.ins .own c (putF' ns ds n x).1 (putF' ns ds n x).2) else none
    | _ => none
/-- change a part, all on the way being its holder's own -/
def modP (f : D → Option D) : List Sel → D → Option D
  | [], d => f d
  | s :: p, d => (getS d s).bind fun x => (modP f p x).bind fun y => setS d y s
def getP : List Sel → D → Option D
  | [], d => some d
  | s :: p, d => (getS d s).bind (getP p)
/-- what pop gives, and what is left -/
def popD (es : List D) (d : D) : Option (D × D) := match es, d with
  | [], .lst .own xs => (xs[xs.length - 1]?).map fun x => (x, .lst .own xs.dropLast)
  | [.int i], .lst .own xs => (ixN xs.length i).bind fun j => (xs[j]?).map fun x => (x, .lst .own (xs.eraseIdx j))
  | _, _ => none
def selOf : D → Option Sel
  | d => d.key?.map .key

mutual
/-- the value of an expression; of a part that a name holds: as it stands there -/
def ev (cl : Call) : ME → Env → Option (D × Env)
  | .var i, ρ => (gI ρ i).map fun d => (d, ρ)
  | .mv i, ρ => (gI ρ i).map fun d => (d, ρ.set i none)
  | .fz i, ρ => (gI ρ i).map fun d => (d.fz, ρ.set i (some d.fz))
  | .fr a, ρ => if a.pl then none else (ev cl a ρ).map fun r => (r.1.fz, r.2)
  | .bw a, ρ => if a.still then (ev cl a (brE ρ)).bind fun r => if r.1.nb then some (r.1, ρ) else none else none
  | .kn, ρ => some (.non, ρ)
  | .kb b, ρ => some (.bl b, ρ)
  | .ki i, ρ => some (.int i, ρ)
  | .ks s, ρ => some (.str s, ρ)
  | .gl _ d, ρ => some (d, ρ)
  | .op o es, ρ => (evPs cl es ρ).bind fun r => (opV cl o es.pls r.1).map fun d => (d, r.2)
  | .not a, ρ => (ev cl a ρ).bind fun r => (asBl r.1).map fun b => (.bl (!b), r.2)
  | .chn o o' a b c, ρ => (ev cl a ρ).bind fun r => if r.1.sc.isSome then (ev cl b r.2).bind fun s => if s.1.sc.isSome then (cmpD o r.1 s.1).bind fun k =>
      if k then (ev cl c s.2).bind fun t => if t.1.sc.isSome then (cmpD o' s.1 t.1).map fun d => (.bl d, t.2) else none
      else some (.bl false, s.2) else none else none
  | .and a b, ρ => (ev cl a ρ).bind fun r => (asBl r.1).bind fun k => if k then (ev cl b r.2).bind fun s => (asBl s.1).map fun j => (.bl j, s.2) else some (.bl false, r.2)
  | .or a b, ρ => (ev cl a ρ).bind fun r => (asBl r.1).bind fun k => if k then some (.bl true, r.2) else (ev cl b r.2).bind fun s => (asBl s.1).map fun j => (.bl j, s.2)
  | .ite c a b, ρ => (ev cl c ρ).bind fun r => (asBl r.1).bind fun k => if k then adj a.pl (ev cl a r.2) else adj b.pl (ev cl b r.2)
  | .lst es, ρ => (evAs cl es ρ).bind fun r => if r.1.length ≤ lim then some (.lst .own r.1, r.2) else none
  | .tup es, ρ => (evAs cl es ρ).bind fun r => if r.1.length ≤ lim then some (.tup r.1, r.2) else none
  | .dic es, ρ => (evKs cl es ρ).bind fun r => if r.1.length ≤ 15 then (if decide (r.1.map (·.1)).Nodup then some (.dic .own (r.1.map (·.1)) (r.1.map (·.2)), r.2) else if shs (r.1.map (·.2)) then some (.dic .own (mergeD r.1).1 (mergeD r.1).2, r.2) else none) else none
  | .call f es, ρ => (evC cl es ρ).bind fun r => (doCall cl f [] [] r.1 r.2).map fun t => (t.1, t.2.2)
  | .meth c m f es, ρ => if recvOk cl c m es ρ then (evC cl es ρ).bind fun r => (doCall cl f [] [] r.1 r.2).map fun t => (t.1, t.2.2) else none
  | .mk c f es, ρ => (evC cl es ρ).bind fun r => (doCall cl f [true] [.ins .own c [] []] r.1 r.2).bind fun t => match t with
    | (.non, [d], ρ') => some (d, ρ')
    | _ => none
  | .io _, _ => none
  | .it _, _ => none
  | .pop i p es, ρ => (evPath cl p ρ).bind fun l => (evAs cl es ρ).bind fun r => if l.isEmpty || es.still then (gI r.2 i).bind fun t =>
      (getP l t).bind fun d => (popD r.1 d).bind fun x => (modP (fun _ => some x.2) l t).map fun t' => (x.1, r.2.set i (some t')) else none
  | .lc own t it cs e, ρ => (evI cl it ρ).bind fun r => (lcL (fun x ρ' => (bindT cl t x (wipeE ρ' own)).bind fun ρ2 => (evCs cl cs ρ2).bind fun c =>
      if c.1 then (adj e.pl (ev cl e c.2)).map fun d => (some d.1, d.2) else some (none, c.2)) r.1 r.2 []).map fun l => (.lst .own l.1, backE r.2 l.2 own)
  | .dc own t it k e, ρ => (evI cl it ρ).bind fun r => (dcL (fun x ρ' => (bindT cl t x (wipeE ρ' own)).bind fun ρ2 => (ev cl k ρ2).bind fun kd => kd.1.key?.bind fun key =>
      (adj e.pl (ev cl e kd.2)).map fun d => (key, d.1, d.2)) r.1 r.2 [] []).map fun l => (.dic .own l.1 l.2.1, backE r.2 l.2.2 own)
def evAs (cl : Call) : MEs → Env → Option (List D × Env)
  | .nil, ρ => some ([], ρ)
  | .cons e es, ρ => (adj e.pl (ev cl e ρ)).bind fun r => (evAs cl es r.2).map fun s => (r.1 :: s.1, s.2)
def evKs (cl : Call) : MKs → Env → Option (List (Key × D) × Env)
  | .nil, ρ => some ([], ρ)
  | .cons k e es, ρ => (ev cl k ρ).bind fun q => q.1.key?.bind fun key => (adj e.pl (ev cl e q.2)).bind fun r => (evKs cl es r.2).map fun s => ((key, r.1) :: s.1, s.2)
/-- operands -/
def evPs (cl : Call) : MEs → Env → Option (List D × Env)
  | .nil, ρ => some ([], ρ)
  | .cons e es, ρ => (ev cl e ρ).bind fun r => if !e.pl || r.1.sh || es.still then (evPs cl es r.2).map fun s => (r.1 :: s.1, s.2) else none
/-- arguments -/
def evC (cl : Call) : MEs → Env → Option (List Ar × Env)
  | .nil, ρ => some ([], ρ)
  | .cons (.io i) es, ρ => (gI ρ i).bind fun _ => (evC cl es ρ).map fun s => (.io i :: s.1, s.2)
  | .cons (.it e) es, ρ => (adj e.pl (ev cl e ρ)).bind fun r => (evC cl es r.2).map fun s => (.it r.1 :: s.1, s.2)
  | .cons (.var i) es, ρ => (gI ρ i).bind fun _ => (evC cl es ρ).map fun s => (.late i :: s.1, s.2)
  | .cons e es, ρ => (ev cl e ρ).bind fun r => if !e.pl then (evC cl es r.2).map fun s => (.val r.1.fz :: s.1, s.2) else if r.1.sh then (evC cl es r.2).map fun s => (.val r.1 :: s.1, s.2)
      else if es.still then (evC cl es r.2).map fun s => (.prt r.1 :: s.1, s.2) else none
/-- the receiver is an instance of c that has no attribute m -/
def recvOk (cl : Call) (c : Nat) (m : Str) : MEs → Env → Bool
  | .nil, _ => false
  | .cons (.io i) _, ρ => ((gI ρ i).map (isRecv c m)).getD false
  | .cons (.var i) _, ρ => ((gI ρ i).map (isRecv c m)).getD false
  | .cons (.it e) _, ρ => ((ev cl e ρ).map fun r => isRecv c m r.1).getD false
  | .cons e _, ρ => ((ev cl e ρ).map fun r => isRecv c m r.1).getD false
def evCs (cl : Call) : MEs → Env → Option (Bool × Env)
  | .nil, ρ => some (true, ρ)
  | .cons e es, ρ => (ev cl e ρ).bind fun r => (asBl r.1).bind fun b => if b then evCs cl es r.2 else some (false, r.2)
def evI (cl : Call) : MI → Env → Option (List D × Env)
  | .seq e, ρ => (ev cl e ρ).bind fun r => (itemsOf e.pl r.1).map fun l => (l, r.2)
  | .rng a b, ρ => (ev cl a ρ).bind fun r => (ev cl b r.2).bind fun s => match r.1, s.1 with
    | .int i, .int j => if small i && small j then some (nums i (j - i).toNat, s.2) else none
    | _, _ => none
  | .rng3 a b c, ρ => (ev cl a ρ).bind fun r => (ev cl b r.2).bind fun s => (ev cl c s.2).bind fun t => match r.1, s.1, t.1 with
    | .int i, .int j, .int k => if small i && small j && decide (k = -1) then some ((List.range (i - j).toNat).map fun (n : Nat) => .int (i - (n : Int)), t.2) else none
    | _, _, _ => none
  | .enm e s, ρ => (ev cl e ρ).bind fun r => match r.1 with
    | .lst f ds => (itemsOf e.pl (.lst f ds)).map fun l => (enumD s l, r.2)
    | _ => none
  | .zip es, ρ => (evPs cl es ρ).bind fun r => match r.1 with
    | [x, y] => match y with
      | .lst g ys => (itemsOf (es.pls.getD 0 false) x).bind fun xs => (itemsOf (es.pls.getD 1 false) (.lst g ys)).map fun ys => (zipD xs ys, r.2)
      | _ => none
    | _ => none
  | .items e, ρ => (ev cl e ρ).bind fun r => match r.1 with
    | .dic f ks ds => if e.pl && !(f.sh && shs ds) then none else some (pairsOf ks (fzs ds), r.2)
    | _ => none
  | .vals e, ρ => (ev cl e ρ).bind fun r => match r.1 with
    | .dic f ks ds => if e.pl && !(f.sh && shs ds) then none else some (fzs ds, r.2)
    | _ => none
def evPath (cl : Call) : MPs → Env → Option (List Sel)
  | .nil, _ => some []
  | .key k p, ρ => if k.still then (ev cl k ρ).bind fun r => r.1.key?.bind fun key => (evPath cl p ρ).map fun l => .key key :: l else none
  | .fld x p, ρ => (evPath cl p ρ).map fun l => .fld x :: l
def bindT (cl : Call) : MT → D → Env → Option Env
  | .nm i, d, ρ => some (ρ.set i (some d))
  | .tp ts, d, ρ => match d with
    | .tup ds => bindTs cl ts ds ρ
    | _ => none
  | .st i p k, d, ρ => if k.still then (evPath cl p ρ).bind fun l => (ev cl k ρ).bind fun r => r.1.key?.bind fun key => (gI ρ i).bind fun t =>
      (modP (fun x => setS x d (.key key)) l t).map fun t' => ρ.set i (some t') else none
def bindTs (cl : Call) : MTs → List D → Env → Option Env
  | .nil, [], ρ => some ρ
  | .cons t ts, d :: ds, ρ => (bindT cl t d ρ).bind fun ρ' => bindTs cl ts ds ρ'
  | _, _, _ => none
end

inductive Fw where
  | nx (ρ : Env) | rt (d : D) (ρ : Env) | bk (ρ : Env) | ct (ρ : Env)
def forL (f : D → Env → Option Fw) : List D → Env → Option Fw
  | [], ρ => some (.nx ρ)
  | x :: xs, ρ => match f x ρ with
    | some (.nx ρ') => forL f xs ρ'
    | some (.ct ρ') => forL f xs ρ'
    | some (.bk ρ') => some (.nx ρ')
    | r => r
def whileL (c : Env → Option (Bool × Env)) (f : Env → Option Fw) : Nat → Env → Option Fw
  | 0, _ => none
  | n + 1, ρ => (c ρ).bind fun b => if b.1 then match f b.2 with
      | some (.nx ρ') => whileL c f n ρ'
      | some (.ct ρ') => whileL c f n ρ'
      | some (.bk ρ') => some (.nx ρ')
      | r => r
    else some (.nx b.2)
abbrev fuel : Nat := 1000000
def mutD (m : Mm) (ds : List D) (x : D) : Option D := match m, ds, x with
  | .append, [d], .lst .own xs => if xs.length < lim then some (.lst .own (xs ++ [d])) else none
  | .extend, [.lst _ ys], .lst .own xs => if xs.length + ys.length ≤ lim then some (.lst .own (xs ++ ys)) else none
  | .reverse, [], .lst .own xs => some (.lst .own xs.reverse)
  | .clear, [], .lst .own _ => some (.lst .own [])
  | .pop0, [], .lst .own xs => if xs = [] then none else some (.lst .own xs.dropLast)
  | .pop, [.int i], .lst .own xs => (ixN xs.length i).map fun j => .lst .own (xs.eraseIdx j)
  | .insert, [.int i, d], .lst .own xs => if 0 ≤ i ∧ small i ∧ xs.length < lim then some (.lst .own (xs.take i.toNat ++ [d] ++ xs.drop i.toNat)) else none
  | _, _, _ => none

mutual
def xs (cl : Call) : MS → Env → Option Fw
  | .asg t e, ρ => (adj e.pl (ev cl e ρ)).bind fun r => (bindT cl t r.1 r.2).map .nx
  | .aug i o e, ρ => (gI ρ i).bind fun x => (adj e.pl (ev cl e ρ)).bind fun r => match x, r.1 with
    | .int a, .int b => (binD false false o (.int a) (.int b)).map fun d => .nx (r.2.set i (some d))
    | _, _ => none
  | .augs i p k o e, ρ => if k.still && e.still then (evPath cl p ρ).bind fun l => (ev cl k ρ).bind fun q => q.1.key?.bind fun key => (gI ρ i).bind fun t => (ev cl e ρ).bind fun r =>
      (modP (fun x => (getS x (.key key)).bind fun y => match y, r.1 with
        | .int a, .int b => (binD false false o (.int a) (.int b)).bind fun d => setS x d (.key key)
        | _, _ => none) l t).map fun t' => .nx (ρ.set i (some t')) else none
  | .setf i p x e, ρ => (adj e.pl (ev cl e ρ)).bind fun r => (evPath cl p r.2).bind fun l => (gI r.2 i).bind fun t => (modP (fun o => setS o r.1 (.fld x)) l t).map fun t' => .nx (r.2.set i (some t'))
  | .mut i p m es, ρ => (evPath cl p ρ).bind fun l => (evAs cl es ρ).bind fun r => if l.isEmpty || es.still then (gI r.2 i).bind fun t => (modP (mutD m r.1) l t).map fun t' => .nx (r.2.set i (some t')) else none
  | .mutt e m es, ρ => if e.pl then none else (ev cl e ρ).bind fun r => (evAs cl es r.2).bind fun q => (mutD m q.1 r.1).map fun _ => .nx q.2
  | .ex e, ρ => (ev cl e ρ).map fun r => .nx r.2
  | .ret e, ρ => (adj e.pl (ev cl e ρ)).map fun r => .rt r.1 r.2
  | .retn, ρ => some (.rt .non ρ)
  | .ife c a b, ρ => (ev cl c ρ).bind fun r => (asBl r.1).bind fun k => if k then xss cl a r.2 else xss cl b r.2
  | .for_ t it b, ρ => (evI cl it ρ).bind fun r => forL (fun x ρ' => (bindT cl t x ρ').bind fun ρ2 => xss cl b ρ2) r.1 r.2
  | .while_ c b, ρ => whileL (fun ρ' => (ev cl c ρ').bind fun r => (asBl r.1).map fun k => (k, r.2)) (fun ρ' => xss cl b ρ') fuel ρ
  | .pass, ρ => some (.nx ρ)
  | .brk, ρ => some (.bk ρ)
  | .cont, ρ => some (.ct ρ)
  | .raise, _ => none
  | .try_ b, ρ => xss cl b ρ
  | .kill is, ρ => some (.nx (wipeE ρ is))
  | .frz i p, ρ => (evPath cl p ρ).bind fun l => (gI ρ i).bind fun t => (modP (fun d => some d.fz) l t).map fun t' => .nx (ρ.set i (some t'))
def xss (cl : Call) : MSs → Env → Option Fw
  | .nil, ρ => some (.nx ρ)
  | .cons s r, ρ => (xs cl s ρ).bind fun f => match f with
    | .nx ρ' => xss cl r ρ'
    | f => some f
end

/-- what the changed arguments are at the end -/
def outs (ρ : Env) : Nat → List Bool → Option (List D)
  | _, [] => some []
  | i, false :: r => outs ρ (i + 1) r
  | i, true :: r => match gI ρ i, outs ρ (i + 1) r with
    | some d, some ds => some (d :: ds)
    | _, _ => none
def finish (fd : Fn) (r : Option Fw) : Option (D × List D) := match r with
  | some (.rt d ρ) => (outs ρ 0 fd.io).bind fun os => if d.nb && nbs os then some (if fd.ro then d else d.fz, os) else none
  | some (.nx ρ) => (outs ρ 0 fd.io).bind fun os => if nbs os then some (.non, os) else none
  | _ => none
/-- no argument but those that may be changed is anybody's own -/
def argsOk : List Bool → List D → Bool
  | false :: r, d :: ds => d.sh && argsOk r ds
  | true :: r, _ :: ds => argsOk r ds
  | [], [] => true
  | _, _ => false
def callT (T : Nat → Option Fn) : Nat → Call
  | 0 => fun _ _ _ => none
  | n + 1 => fun f io ds => (T f).bind fun fd => if fd.io = io ∧ ds.length = fd.np ∧ argsOk io ds = true then
      finish fd (xss (callT T n) fd.body (ds.map some ++ List.replicate (fd.ns - fd.np) none)) else none
end Mp
set_option Elab.async false
set_option linter.all false
set_option maxRecDepth 100000
/-! # Mp: what a tree stands for -/
namespace Mp
open PySem L2

/-- frozen for good; lent out while the frame runs -/
structure Wd where
  K : PySem.W.Frag
  CA : Nat → Option Addr
  Fz : Addr → Prop
  B : Addr → Prop
abbrev Wd.wz (w : Wd) (Z : Addr → Prop) : Wd := { w with Fz := Z }
abbrev Wd.wb (w : Wd) (Z : Addr → Prop) : Wd := { w with B := Z }
structure Wd.Le (w w' : Wd) : Prop where
  k : w'.K = w.K
  c : w'.CA = w.CA
  z : ∀ a, w.Fz a → w'.Fz a
  b : ∀ a, w.B a → w'.B a
theorem Wd.Le.refl (w : Wd) : w.Le w := ⟨rfl, rfl, fun _ h => h, fun _ h => h⟩
theorem Wd.Le.wz {w : Wd} {Z : Addr → Prop} (h : ∀ a, w.Fz a → Z a) : w.Le (w.wz Z) := ⟨rfl, rfl, h, fun _ h => h⟩
theorem Wd.Le.wb {w : Wd} {Z : Addr → Prop} (h : ∀ a, w.B a → Z a) : w.Le (w.wb Z) := ⟨rfl, rfl, fun _ h => h, h⟩
theorem Wd.Le.trans {w w' w'' : Wd} (h : w.Le w') (h' : w'.Le w'') : w.Le w'' := ⟨h'.k.trans h.k, h'.c.trans h.c, fun a q => h'.z a (h.z a q), fun a q => h'.b a (h.b a q)⟩

/-- the node at a, its children holding G, holds F -/
def At (w : Wd) (f : Fl) (a : Addr) (G F : List Addr) : Prop := match f with
  | .own => F = a :: G
  | .frz => w.Fz a ∧ G = [] ∧ F = []
  | .bor => w.B a ∧ G = [] ∧ F = []
/-- a script in the written part -/
def KList (K : PySem.W.Frag) (a : Addr) (xs : List V) : Prop :=
  ∃ (o : Obj) (its : Array Value) (n : Nat), K.lookup a = some o ∧ o.cls = .type "list" ∧ o.dict = none ∧ o.data = .seq its n ∧ its.size ≤ sizeLine ∧ Vals xs its.toList

mutual
def Rep (w : Wd) (H : Hp) : D → V → List Addr → Prop
  | .non, v, F => v = .non ∧ F = []
  | .bl b, v, F => v = .bl b ∧ F = []
  | .int i, v, F => v = .int i ∧ F = []
  | .str x, v, F => v = .str x ∧ F = []
  | .scr ns, v, F => F = [] ∧ ∃ a, v = .ref a ∧ ((Rd H a (.lst (ns.map V.int)) ∧ w.Fz a) ∨ KList w.K a (ns.map V.int))
  | .tup ds, v, F => ∃ a vs, v = .ref a ∧ w.Fz a ∧ H a = some (.tup vs) ∧ Reps w H ds vs F
  | .lst f ds, v, F => ∃ a vs G, v = .ref a ∧ H a = some (.lst vs) ∧ At w f a G F ∧ Reps w H ds vs G
  | .dic f ks ds, v, F => ∃ a vs G, v = .ref a ∧ (ks.length = ds.length ∧ ks.Nodup) ∧ (if f = .own then H a = some (.dK (ks.zip vs)) else Rd H a (.dK (ks.zip vs))) ∧ At w f a G F ∧ Reps w H ds vs G
  | .ins f c ns ds, v, F => ∃ a dx vs G, v = .ref a ∧ (ns.length = ds.length ∧ ns.Nodup) ∧ (∃ C, w.CA c = some C ∧ H a = some (.ins C dx (ns.zip vs))) ∧ At w f a G F ∧ Reps w H ds vs G
def Reps (w : Wd) (H : Hp) : List D → List V → List Addr → Prop
  | [], vs, F => vs = [] ∧ F = []
  | d :: ds, vs, F => ∃ v vr F1 F2, vs = v :: vr ∧ F = F1 ++ F2 ∧ Rep w H d v F1 ∧ Reps w H ds vr F2
end

theorem Reps.len {w : Wd} {H : Hp} : ∀ {ds : List D} {vs : List V} {F : List Addr}, Reps w H ds vs F → vs.length = ds.length
  | [], _, _, h => by unfold Reps at h; rw [h.1]; rfl
  | d :: ds, _, _, h => by
    unfold Reps at h
    obtain ⟨v, vr, F1, F2, rfl, rfl, _, h⟩ := h
    simp [Reps.len h]
theorem Reps.nil {w : Wd} {H : Hp} : Reps w H [] [] [] := by unfold Reps; exact ⟨rfl, rfl⟩
theorem Reps.cons {w : Wd} {H : Hp} {d : D} {ds : List D} {v : V} {vs : List V} {F G : List Addr} (h : Rep w H d v F) (t : Reps w H ds vs G) : Reps w H (d :: ds) (v :: vs) (F ++ G) := by
  unfold Reps; exact ⟨v, vs, F, G, rfl, rfl, h, t⟩
theorem Reps.uncons {w : Wd} {H : Hp} {d : D} {ds : List D} {vs : List V} {F : List Addr} (h : Reps w H (d :: ds) vs F) : ∃ v vr F1 F2, vs = v :: vr ∧ F = F1 ++ F2 ∧ Rep w H d v F1 ∧ Reps w H ds vr F2 := by
  unfold Reps at h; exact h
theorem Reps.unnil {w : Wd} {H : Hp} {vs : List V} {F : List Addr} (h : Reps w H [] vs F) : vs = [] ∧ F = [] := by unfold Reps at h; exact h

theorem At.mono {w w' : Wd} (l : w.Le w') {f : Fl} {a : Addr} {G F : List Addr} (h : At w f a G F) : At w' f a G F := by
  cases f with
  | own => exact h
  | frz => exact ⟨l.z _ h.1, h.2⟩
  | bor => exact ⟨l.b _ h.1, h.2⟩
/-- a tracked node is in F, or frozen, or lent -/
theorem At.mem {w : Wd} {f : Fl} {a : Addr} {G F : List Addr} (h : At w f a G F) : a ∈ F ∨ w.Fz a ∨ w.B a := by
  cases f with
  | own => left; rw [show F = a :: G from h]; exact List.mem_cons_self
  | frz => exact .inr (.inl h.1)
  | bor => exact .inr (.inr h.1)
theorem At.sub {w : Wd} {f : Fl} {a : Addr} {G F : List Addr} (h : At w f a G F) : ∀ b ∈ G, b ∈ F := by
  intro b hb
  cases f with
  | own => rw [show F = a :: G from h]; exact List.mem_cons_of_mem _ hb
  | frz => rw [h.2.1] at hb; cases hb
  | bor => rw [h.2.1] at hb; cases hb

/-- a tree stands while what it holds, what is frozen and what is lent stands -/
structure Stays (w : Wd) (F : List Addr) (H H' : Hp) : Prop where
  own : ∀ a ∈ F, H' a = H a
  z : ∀ a, w.Fz a → H' a = H a
  b : ∀ a, w.B a → H' a = H a
theorem Stays.sub {w : Wd} {F G : List Addr} {H H' : Hp} (s : Stays w F H H') (h : ∀ a ∈ G, a ∈ F) : Stays w G H H' := ⟨fun a q => s.own a (h a q), s.z, s.b⟩
theorem Stays.at {w : Wd} {F G : List Addr} {H H' : Hp} (s : Stays w F H H') {f : Fl} {a : Addr} (h : At w f a G F) : H' a = H a := by
  rcases h.mem with q | q | q
  · exact s.own a q
  · exact s.z a q
  · exact s.b a q
theorem Rd.same {H H' : Hp} {a : Addr} {u : HO} (e : H' a = H a) (h : Rd H a u) : Rd H' a u := by
  unfold Rd; rw [e]; exact h

mutual
theorem Rep.stays {w w' : Wd} {H H' : Hp} (l : w.Le w') : ∀ {d : D} {v : V} {F : List Addr}, Rep w H d v F → Stays w F H H' → Rep w' H' d v F
  | .non, _, _, h, _ => by unfold Rep at h ⊢; exact h
  | .bl _, _, _, h, _ => by unfold Rep at h ⊢; exact h
  | .int _, _, _, h, _ => by unfold Rep at h ⊢; exact h
  | .str _, _, _, h, _ => by unfold Rep at h ⊢; exact h
  | .scr _, _, _, h, s => by
    unfold Rep at h ⊢
    obtain ⟨e, a, rfl, h⟩ := h
    refine ⟨e, a, rfl, ?_⟩
    rcases h with ⟨h, z⟩ | h
    · exact .inl ⟨Rd.same (s.z a z) h, l.z a z⟩
    · rw [l.k]; exact .inr h
  | .tup ds, _, _, h, s => by
    unfold Rep at h ⊢
    obtain ⟨a, vs, rfl, z, e, h⟩ := h
    exact ⟨a, vs, rfl, l.z a z, (s.z a z).trans e, Reps.stays l h s⟩
  | .lst f ds, _, _, h, s => by
    unfold Rep at h ⊢
    obtain ⟨a, vs, G, rfl, e, t, h⟩ := h
    exact ⟨a, vs, G, rfl, (s.at t).trans e, t.mono l, Reps.stays l h (s.sub t.sub)⟩
  | .dic f ks ds, _, _, h, s => by
    unfold Rep at h ⊢
    obtain ⟨a, vs, G, rfl, n, e, t, h⟩ := h
    refine ⟨a, vs, G, rfl, n, ?_, t.mono l, Reps.stays l h (s.sub t.sub)⟩
    split
    · rename_i q; rw [if_pos q] at e; exact (s.at t).trans e
    · rename_i q; rw [if_neg q] at e; exact Rd.same (s.at t) e
  | .ins f c ns ds, _, _, h, s => by
    unfold Rep at h ⊢
    obtain ⟨a, dx, vs, G, rfl, n, e, t, h⟩ := h
    obtain ⟨C, e1, e⟩ := e
    exact ⟨a, dx, vs, G, rfl, n, ⟨C, by rw [l.c]; exact e1, (s.at t).trans e⟩, t.mono l, Reps.stays l h (s.sub t.sub)⟩
theorem Reps.stays {w w' : Wd} {H H' : Hp} (l : w.Le w') : ∀ {ds : List D} {vs : List V} {F : List Addr}, Reps w H ds vs F → Stays w F H H' → Reps w' H' ds vs F
  | [], _, _, h, _ => by unfold Reps at h ⊢; exact h
  | d :: ds, _, _, h, s => by
    obtain ⟨v, vr, F1, F2, rfl, rfl, h1, h2⟩ := h.uncons
    exact .cons (Rep.stays l h1 (s.sub fun a q => List.mem_append_left _ q)) (Reps.stays l h2 (s.sub fun a q => List.mem_append_right _ q))
end

/-! what is held is tracked -/
mutual
theorem Rep.live {w : Wd} {H : Hp} : ∀ {d : D} {v : V} {F : List Addr}, Rep w H d v F → ∀ a ∈ F, H a ≠ none
  | .non, _, _, h, b, hb => by unfold Rep at h; rw [h.2] at hb; cases hb
  | .bl _, _, _, h, b, hb => by unfold Rep at h; rw [h.2] at hb; cases hb
  | .int _, _, _, h, b, hb => by unfold Rep at h; rw [h.2] at hb; cases hb
  | .str _, _, _, h, b, hb => by unfold Rep at h; rw [h.2] at hb; cases hb
  | .scr _, _, _, h, b, hb => by unfold Rep at h; rw [h.1] at hb; cases hb
  | .tup ds, _, _, h, b, hb => by
    unfold Rep at h
    obtain ⟨a, vs, rfl, z, e, h⟩ := h
    exact Reps.live h b hb
  | .lst f ds, _, _, h, b, hb => by
    unfold Rep at h
    obtain ⟨a, vs, G, rfl, e, t, h⟩ := h
    cases f with
    | own =>
      rw [show _ = a :: G from t] at hb
      rcases List.mem_cons.mp hb with rfl | hb
      · rw [e]; simp
      · exact Reps.live h b hb
    | frz => rw [t.2.2] at hb; cases hb
    | bor => rw [t.2.2] at hb; cases hb
  | .dic f ks ds, _, _, h, b, hb => by
    unfold Rep at h
    obtain ⟨a, vs, G, rfl, n, e, t, h⟩ := h
    cases f with
    | own =>
      rw [if_pos rfl] at e
      rw [show _ = a :: G from t] at hb
      rcases List.mem_cons.mp hb with rfl | hb
      · rw [e]; simp
      · exact Reps.live h b hb
    | frz => rw [t.2.2] at hb; cases hb
    | bor => rw [t.2.2] at hb; cases hb
  | .ins f c ns ds, _, _, h, b, hb => by
    unfold Rep at h
    obtain ⟨a, dx, vs, G, rfl, n, ⟨C, e1, e⟩, t, h⟩ := h
    cases f with
    | own =>
      rw [show _ = a :: G from t] at hb
      rcases List.mem_cons.mp hb with rfl | hb
      · rw [e]; simp
      · exact Reps.live h b hb
    | frz => rw [t.2.2] at hb; cases hb
    | bor => rw [t.2.2] at hb; cases hb
theorem Reps.live {w : Wd} {H : Hp} : ∀ {ds : List D} {vs : List V} {F : List Addr}, Reps w H ds vs F → ∀ a ∈ F, H a ≠ none
  | [], _, _, h, b, hb => by rw [h.unnil.2] at hb; cases hb
  | d :: ds, _, _, h, b, hb => by
    obtain ⟨v, vr, F1, F2, rfl, rfl, h1, h2⟩ := h.uncons
    rcases List.mem_append.mp hb with hb | hb
    · exact Rep.live h1 b hb
    · exact Reps.live h2 b hb
end

/-! what is shared holds nothing -/
mutual
theorem Rep.sh {w : Wd} {H : Hp} : ∀ {d : D} {v : V} {F : List Addr}, Rep w H d v F → d.sh = true → F = []
  | .non, _, _, h, _ => by unfold Rep at h; exact h.2
  | .bl _, _, _, h, _ => by unfold Rep at h; exact h.2
  | .int _, _, _, h, _ => by unfold Rep at h; exact h.2
  | .str _, _, _, h, _ => by unfold Rep at h; exact h.2
  | .scr _, _, _, h, _ => by unfold Rep at h; exact h.1
  | .tup ds, _, _, h, s => by
    unfold Rep at h
    obtain ⟨a, vs, rfl, z, e, h⟩ := h
    exact Reps.sh h (by simpa [D.sh] using s)
  | .lst f ds, _, _, h, s => by
    unfold Rep at h
    obtain ⟨a, vs, G, rfl, e, t, h⟩ := h
    cases f with
    | own => simp [D.sh, Fl.sh] at s
    | frz => exact t.2.2
    | bor => exact t.2.2
  | .dic f ks ds, _, _, h, s => by
    unfold Rep at h
    obtain ⟨a, vs, G, rfl, n, e, t, h⟩ := h
    cases f with
    | own => simp [D.sh, Fl.sh] at s
    | frz => exact t.2.2
    | bor => exact t.2.2
  | .ins f c ns ds, _, _, h, s => by
    unfold Rep at h
    obtain ⟨a, dx, vs, G, rfl, n, e, t, h⟩ := h
    cases f with
    | own => simp [D.sh, Fl.sh] at s
    | frz => exact t.2.2
    | bor => exact t.2.2
theorem Reps.sh {w : Wd} {H : Hp} : ∀ {ds : List D} {vs : List V} {F : List Addr}, Reps w H ds vs F → shs ds = true → F = []
  | [], _, _, h, _ => h.unnil.2
  | d :: ds, _, _, h, s => by
    obtain ⟨v, vr, F1, F2, rfl, rfl, h1, h2⟩ := h.uncons
    unfold shs at s
    rw [Bool.and_eq_true] at s
    rw [Rep.sh h1 s.1, Reps.sh h2 s.2]; rfl
end

/-! frozen, lent -/
mutual
theorem Rep.fz {w : Wd} {H : Hp} {Z : Addr → Prop} (hz : ∀ a, w.Fz a → Z a) : ∀ {d : D} {v : V} {F : List Addr}, Rep w H d v F → (∀ a ∈ F, Z a) → Rep (w.wz Z) H d.fz v []
  | .non, _, _, h, _ => by unfold Rep at h; unfold D.fz Rep; exact ⟨h.1, rfl⟩
  | .bl _, _, _, h, _ => by unfold Rep at h; unfold D.fz Rep; exact ⟨h.1, rfl⟩
  | .int _, _, _, h, _ => by unfold Rep at h; unfold D.fz Rep; exact ⟨h.1, rfl⟩
  | .str _, _, _, h, _ => by unfold Rep at h; unfold D.fz Rep; exact ⟨h.1, rfl⟩
  | .scr _, _, _, h, _ => by
    unfold Rep at h; unfold D.fz Rep
    obtain ⟨e, a, rfl, h⟩ := h
    exact ⟨rfl, a, rfl, h.imp (fun h => ⟨h.1, hz a h.2⟩) fun h => h⟩
  | .tup ds, _, _, h, s => by
    unfold Rep at h; unfold D.fz Rep
    obtain ⟨a, vs, rfl, z, e, h⟩ := h
    exact ⟨a, vs, rfl, hz a z, e, Reps.fz hz h s⟩
  | .lst f ds, _, _, h, s => by
    unfold Rep at h; unfold D.fz Rep
    obtain ⟨a, vs, G, rfl, e, t, h⟩ := h
    refine ⟨a, vs, [], rfl, e, ?_, Reps.fz hz h fun b hb => s b (t.sub b hb)⟩
    cases f with
    | own => exact ⟨s a (by rw [show _ = a :: G from t]; exact List.mem_cons_self), rfl, rfl⟩
    | frz => exact ⟨hz a t.1, rfl, rfl⟩
    | bor => exact ⟨t.1, rfl, rfl⟩
  | .dic f ks ds, _, _, h, s => by
    unfold Rep at h; unfold D.fz Rep
    obtain ⟨a, vs, G, rfl, n, e, t, h⟩ := h
    refine ⟨a, vs, [], rfl, by simpa using n, ?_, ?_, Reps.fz hz h fun b hb => s b (t.sub b hb)⟩
    · cases f with
      | own => rw [if_pos rfl] at e; rw [if_neg (by simp [Fl.fz])]; exact .inl e
      | frz => rw [if_neg (by simp)] at e; rw [if_neg (by simp [Fl.fz])]; exact e
      | bor => rw [if_neg (by simp)] at e; rw [if_neg (by simp [Fl.fz])]; exact e
    · cases f with
      | own => exact ⟨s a (by rw [show _ = a :: G from t]; exact List.mem_cons_self), rfl, rfl⟩
      | frz => exact ⟨hz a t.1, rfl, rfl⟩
      | bor => exact ⟨t.1, rfl, rfl⟩
  | .ins f c ns ds, _, _, h, s => by
    unfold Rep at h; unfold D.fz Rep
    obtain ⟨a, dx, vs, G, rfl, n, e, t, h⟩ := h
    refine ⟨a, dx, vs, [], rfl, by simpa using n, e, ?_, Reps.fz hz h fun b hb => s b (t.sub b hb)⟩
    cases f with
    | own => exact ⟨s a (by rw [show _ = a :: G from t]; exact List.mem_cons_self), rfl, rfl⟩
    | frz => exact ⟨hz a t.1, rfl, rfl⟩
    | bor => exact ⟨t.1, rfl, rfl⟩
theorem Reps.fz {w : Wd} {H : Hp} {Z : Addr → Prop} (hz : ∀ a, w.Fz a → Z a) : ∀ {ds : List D} {vs : List V} {F : List Addr}, Reps w H ds vs F → (∀ a ∈ F, Z a) → Reps (w.wz Z) H (fzs ds) vs []
  | [], _, _, h, _ => by rw [h.unnil.1]; unfold fzs; exact .nil
  | d :: ds, _, _, h, s => by
    obtain ⟨v, vr, F1, F2, rfl, rfl, h1, h2⟩ := h.uncons
    unfold fzs
    exact .cons (F := []) (G := []) (Rep.fz hz h1 fun a q => s a (List.mem_append_left _ q)) (Reps.fz hz h2 fun a q => s a (List.mem_append_right _ q))
end
mutual
theorem Rep.br {w : Wd} {H : Hp} {Z : Addr → Prop} (hz : ∀ a, w.B a → Z a) : ∀ {d : D} {v : V} {F : List Addr}, Rep w H d v F → (∀ a ∈ F, Z a) → Rep (w.wb Z) H d.br v []
  | .non, _, _, h, _ => by unfold Rep at h; unfold D.br Rep; exact ⟨h.1, rfl⟩
  | .bl _, _, _, h, _ => by unfold Rep at h; unfold D.br Rep; exact ⟨h.1, rfl⟩
  | .int _, _, _, h, _ => by unfold Rep at h; unfold D.br Rep; exact ⟨h.1, rfl⟩
  | .str _, _, _, h, _ => by unfold Rep at h; unfold D.br Rep; exact ⟨h.1, rfl⟩
  | .scr _, _, _, h, _ => by
    unfold Rep at h; unfold D.br Rep
    exact ⟨rfl, h.2⟩
  | .tup ds, _, _, h, s => by
    unfold Rep at h; unfold D.br Rep
    obtain ⟨a, vs, rfl, z, e, h⟩ := h
    exact ⟨a, vs, rfl, z, e, Reps.br hz h s⟩
  | .lst f ds, _, _, h, s => by
    unfold Rep at h; unfold D.br Rep
    obtain ⟨a, vs, G, rfl, e, t, h⟩ := h
    refine ⟨a, vs, [], rfl, e, ?_, Reps.br hz h fun b hb => s b (t.sub b hb)⟩
    cases f with
    | own => exact ⟨s a (by rw [show _ = a :: G from t]; exact List.mem_cons_self), rfl, rfl⟩
    | frz => exact ⟨t.1, rfl, rfl⟩
    | bor => exact ⟨hz a t.1, rfl, rfl⟩
  | .dic f ks ds, _, _, h, s => by
    unfold Rep at h; unfold D.br Rep
    obtain ⟨a, vs, G, rfl, n, e, t, h⟩ := h
    refine ⟨a, vs, [], rfl, by simpa using n, ?_, ?_, Reps.br hz h fun b hb => s b (t.sub b hb)⟩
    · cases f with
      | own => rw [if_pos rfl] at e; rw [if_neg (by simp [Fl.br])]; exact .inl e
      | frz => rw [if_neg (by simp)] at e; rw [if_neg (by simp [Fl.br])]; exact e
      | bor => rw [if_neg (by simp)] at e; rw [if_neg (by simp [Fl.br])]; exact e
    · cases f with
      | own => exact ⟨s a (by rw [show _ = a :: G from t]; exact List.mem_cons_self), rfl, rfl⟩
      | frz => exact ⟨t.1, rfl, rfl⟩
      | bor => exact ⟨hz a t.1, rfl, rfl⟩
  | .ins f c ns ds, _, _, h, s => by
    unfold Rep at h; unfold D.br Rep
    obtain ⟨a, dx, vs, G, rfl, n, e, t, h⟩ := h
    refine ⟨a, dx, vs, [], rfl, by simpa using n, e, ?_, Reps.br hz h fun b hb => s b (t.sub b hb)⟩
    cases f with
    | own => exact ⟨s a (by rw [show _ = a :: G from t]; exact List.mem_cons_self), rfl, rfl⟩
    | frz => exact ⟨t.1, rfl, rfl⟩
    | bor => exact ⟨hz a t.1, rfl, rfl⟩
theorem Reps.br {w : Wd} {H : Hp} {Z : Addr → Prop} (hz : ∀ a, w.B a → Z a) : ∀ {ds : List D} {vs : List V} {F : List Addr}, Reps w H ds vs F → (∀ a ∈ F, Z a) → Reps (w.wb Z) H (brs ds) vs []
  | [], _, _, h, _ => by rw [h.unnil.1]; unfold brs; exact .nil
  | d :: ds, _, _, h, s => by
    obtain ⟨v, vr, F1, F2, rfl, rfl, h1, h2⟩ := h.uncons
    unfold brs
    exact .cons (F := []) (G := []) (Rep.br hz h1 fun a q => s a (List.mem_append_left _ q)) (Reps.br hz h2 fun a q => s a (List.mem_append_right _ q))
end
/-! where nothing is lent, what is lent matters not -/
mutual
theorem Rep.nb {w : Wd} {H : Hp} (B : Addr → Prop) : ∀ {d : D} {v : V} {F : List Addr}, Rep w H d v F → d.nb = true → Rep (w.wb B) H d v F
  | .non, _, _, h, _ => by unfold Rep at h ⊢; exact h
  | .bl _, _, _, h, _ => by unfold Rep at h ⊢; exact h
  | .int _, _, _, h, _ => by unfold Rep at h ⊢; exact h
  | .str _, _, _, h, _ => by unfold Rep at h ⊢; exact h
  | .scr _, _, _, h, _ => by unfold Rep at h ⊢; exact h
  | .tup ds, _, _, h, s => by
    unfold Rep at h ⊢
    obtain ⟨a, vs, rfl, z, e, h⟩ := h
    exact ⟨a, vs, rfl, z, e, Reps.nb B h (by simpa [D.nb] using s)⟩
  | .lst f ds, _, _, h, s => by
    unfold Rep at h ⊢
    obtain ⟨a, vs, G, rfl, e, t, h⟩ := h
    unfold D.nb at s
    rw [Bool.and_eq_true] at s
    refine ⟨a, vs, G, rfl, e, ?_, Reps.nb B h s.2⟩
    cases f with
    | own => exact t
    | frz => exact t
    | bor => cases s.1
  | .dic f ks ds, _, _, h, s => by
    unfold Rep at h ⊢
    obtain ⟨a, vs, G, rfl, n, e, t, h⟩ := h
    unfold D.nb at s
    rw [Bool.and_eq_true] at s
    refine ⟨a, vs, G, rfl, n, e, ?_, Reps.nb B h s.2⟩
    cases f with
    | own => exact t
    | frz => exact t
    | bor => cases s.1
  | .ins f c ns ds, _, _, h, s => by
    unfold Rep at h ⊢
    obtain ⟨a, dx, vs, G, rfl, n, e, t, h⟩ := h
    unfold D.nb at s
    rw [Bool.and_eq_true] at s
    refine ⟨a, dx, vs, G, rfl, n, e, ?_, Reps.nb B h s.2⟩
    cases f with
    | own => exact t
    | frz => exact t
    | bor => cases s.1
theorem Reps.nb {w : Wd} {H : Hp} (B : Addr → Prop) : ∀ {ds : List D} {vs : List V} {F : List Addr}, Reps w H ds vs F → nbs ds = true → Reps (w.wb B) H ds vs F
  | [], _, _, h, _ => by rw [h.unnil.1, h.unnil.2]; exact .nil
  | d :: ds, _, _, h, s => by
    obtain ⟨v, vr, F1, F2, rfl, rfl, h1, h2⟩ := h.uncons
    unfold nbs at s
    rw [Bool.and_eq_true] at s
    exact .cons (Rep.nb B h1 s.1) (Reps.nb B h2 s.2)
end
end Mp
set_option Elab.async false
set_option linter.all false
set_option maxRecDepth 100000
/-! # Mp: names and what they hold; what an evaluation leaves -/
namespace Mp
open PySem L2

def REnv (w : Wd) (H : Hp) : St → Env → List Addr → Prop
  | [], [], F => F = []
  | _ :: σ, none :: ρ, F => REnv w H σ ρ F
  | some v :: σ, some d :: ρ, F => ∃ F1 F2, F = F1 ++ F2 ∧ Rep w H d v F1 ∧ REnv w H σ ρ F2
  | _, _, _ => False

section
variable {w : Wd} {H : Hp}
theorem REnv.stays {w' : Wd} {H' : Hp} (l : w.Le w') : ∀ {σ : St} {ρ : Env} {F : List Addr}, REnv w H σ ρ F → Stays w F H H' → REnv w' H' σ ρ F
  | [], [], _, h, _ => h
  | [], _ :: _, _, h, _ => by unfold REnv at h; cases h
  | _ :: _, [], _, h, _ => by unfold REnv at h; cases h
  | s :: σ, none :: ρ, _, h, st => by
    unfold REnv at h ⊢
    exact REnv.stays l (σ := σ) (ρ := ρ) h st
  | none :: σ, some d :: ρ, _, h, _ => by unfold REnv at h; cases h
  | some v :: σ, some d :: ρ, _, h, st => by
    unfold REnv at h ⊢
    obtain ⟨F1, F2, rfl, h1, h2⟩ := h
    exact ⟨F1, F2, rfl, h1.stays l (st.sub fun a q => List.mem_append_left _ q), h2.stays l (st.sub fun a q => List.mem_append_right _ q)⟩
theorem REnv.len : ∀ {σ : St} {ρ : Env} {F : List Addr}, REnv w H σ ρ F → σ.length = ρ.length
  | [], [], _, _ => rfl
  | [], _ :: _, _, h => by unfold REnv at h; cases h
  | _ :: _, [], _, h => by unfold REnv at h; cases h
  | s :: σ, none :: ρ, _, h => by
    unfold REnv at h
    simp [REnv.len (σ := σ) (ρ := ρ) h]
  | none :: σ, some d :: ρ, _, h => by unfold REnv at h; cases h
  | some v :: σ, some d :: ρ, _, h => by
    unfold REnv at h
    obtain ⟨F1, F2, rfl, h1, h2⟩ := h
    simp [h2.len]
theorem REnv.live : ∀ {σ : St} {ρ : Env} {F : List Addr}, REnv w H σ ρ F → ∀ a ∈ F, H a ≠ none
  | [], [], _, h, a, q => by unfold REnv at h; rw [h] at q; cases q
  | [], _ :: _, _, h, _, _ => by unfold REnv at h; cases h
  | _ :: _, [], _, h, _, _ => by unfold REnv at h; cases h
  | s :: σ, none :: ρ, _, h, a, q => by
    unfold REnv at h
    exact REnv.live (σ := σ) (ρ := ρ) h a q
  | none :: σ, some d :: ρ, _, h, _, _ => by unfold REnv at h; cases h
  | some v :: σ, some d :: ρ, _, h, a, q => by
    unfold REnv at h
    obtain ⟨F1, F2, rfl, h1, h2⟩ := h
    rcases List.mem_append.mp q with q | q
    · exact h1.live a q
    · exact h2.live a q
theorem gI_zero {x : Option D} {ρ : Env} : gI (x :: ρ) 0 = x := by cases x <;> rfl
theorem gI_succ {x : Option D} {ρ : Env} {i : Nat} : gI (x :: ρ) (i + 1) = gI ρ i := rfl
/-- a name's thing taken out -/
theorem REnv.take : ∀ {σ : St} {ρ : Env} {F : List Addr} {i : Nat} {d : D}, REnv w H σ ρ F → gI ρ i = some d →
    ∃ v F1 F2, σ[i]? = some (some v) ∧ Rep w H d v F1 ∧ REnv w H σ (ρ.set i none) F2 ∧ F.Perm (F1 ++ F2)
  | [], [], _, i, d, _, e => by simp [gI] at e
  | [], _ :: _, _, _, _, h, _ => by unfold REnv at h; cases h
  | _ :: _, [], _, _, _, h, _ => by unfold REnv at h; cases h
  | s :: σ, none :: ρ, F, 0, d, h, e => by rw [gI_zero] at e; cases e
  | s :: σ, none :: ρ, F, i + 1, d, h, e => by
    unfold REnv at h
    rw [gI_succ] at e
    obtain ⟨v, F1, F2, a, b, c, p⟩ := REnv.take h e
    exact ⟨v, F1, F2, by simpa using a, b, by rw [List.set_cons_succ]; unfold REnv; exact c, p⟩
  | none :: σ, some d :: ρ, _, _, _, h, _ => by unfold REnv at h; cases h
  | some v :: σ, some d' :: ρ, F, 0, d, h, e => by
    unfold REnv at h
    obtain ⟨F1, F2, rfl, h1, h2⟩ := h
    rw [gI_zero] at e; cases e
    exact ⟨v, F1, F2, rfl, h1, by rw [List.set_cons_zero]; unfold REnv; exact h2, List.Perm.refl _⟩
  | some v :: σ, some d' :: ρ, F, i + 1, d, h, e => by
    unfold REnv at h
    obtain ⟨G1, G2, rfl, h1, h2⟩ := h
    rw [gI_succ] at e
    obtain ⟨u, F1, F2, a, b, c, p⟩ := REnv.take h2 e
    refine ⟨u, F1, G1 ++ F2, by simpa using a, b, ?_, ?_⟩
    · rw [List.set_cons_succ]; unfold REnv; exact ⟨G1, F2, rfl, h1, c⟩
    · exact (List.Perm.append_left G1 p).trans (by rw [← List.append_assoc, ← List.append_assoc]; exact List.Perm.append_right F2 List.perm_append_comm)
/-- .. and put back, another one at the same place -/
theorem REnv.put : ∀ {σ : St} {ρ : Env} {F F1 : List Addr} {i : Nat} {d : D} {v : V}, REnv w H σ ρ F → gI ρ i = none → σ[i]? = some (some v) → Rep w H d v F1 →
    ∃ F', REnv w H σ (ρ.set i (some d)) F' ∧ F'.Perm (F1 ++ F)
  | [], _, _, _, i, _, _, _, _, e, _ => by simp at e
  | _ :: _, [], _, _, _, _, _, h, _, _, _ => by unfold REnv at h; cases h
  | s :: σ, none :: ρ, F, F1, 0, d, v, h, e, e2, r => by
    unfold REnv at h
    simp at e2; subst e2
    exact ⟨F1 ++ F, by rw [List.set_cons_zero]; unfold REnv; exact ⟨F1, F, rfl, r, h⟩, List.Perm.refl _⟩
  | s :: σ, none :: ρ, F, F1, i + 1, d, v, h, e, e2, r => by
    unfold REnv at h
    obtain ⟨F', a, p⟩ := REnv.put (i := i) h (by rwa [gI_succ] at e) (by simpa using e2) r
    exact ⟨F', by rw [List.set_cons_succ]; unfold REnv; exact a, p⟩
  | none :: σ, some d :: ρ, _, _, _, _, _, h, _, _, _ => by unfold REnv at h; cases h
  | some u :: σ, some d' :: ρ, F, F1, 0, d, v, h, e, e2, r => by rw [gI_zero] at e; cases e
  | some u :: σ, some d' :: ρ, F, F1, i + 1, d, v, h, e, e2, r => by
    unfold REnv at h
    obtain ⟨G1, G2, rfl, h1, h2⟩ := h
    obtain ⟨F', a, p⟩ := REnv.put (i := i) h2 (by rwa [gI_succ] at e) (by simpa using e2) r
    refine ⟨G1 ++ F', by rw [List.set_cons_succ]; unfold REnv; exact ⟨G1, F', rfl, h1, a⟩, ?_⟩
    exact (List.Perm.append_left G1 p).trans (by rw [← List.append_assoc, ← List.append_assoc]; exact List.Perm.append_right G2 List.perm_append_comm)
theorem gI_set_none {ρ : Env} {i : Nat} : gI (ρ.set i none) i = none := by
  unfold gI
  rw [List.getElem?_set_self']
  cases ρ[i]? <;> rfl
theorem gI_ne {ρ : Env} {i j : Nat} {x : Option D} (h : j ≠ i) : gI (ρ.set i x) j = gI ρ j := by
  unfold gI
  rw [List.getElem?_set_ne (Ne.symm h)]
/-- forgotten -/
theorem REnv.drop : ∀ {σ : St} {ρ : Env} {F : List Addr} {i : Nat}, REnv w H σ ρ F → ∃ F2, REnv w H σ (ρ.set i none) F2 ∧ F2.Sublist F
  | [], [], _, i, h => ⟨_, h, List.Sublist.refl _⟩
  | [], _ :: _, _, _, h => by unfold REnv at h; cases h
  | _ :: _, [], _, _, h => by unfold REnv at h; cases h
  | s :: σ, none :: ρ, F, 0, h => ⟨F, h, List.Sublist.refl _⟩
  | s :: σ, none :: ρ, F, i + 1, h => by
    unfold REnv at h
    obtain ⟨F2, a, b⟩ := REnv.drop (i := i) h
    exact ⟨F2, by rw [List.set_cons_succ]; unfold REnv; exact a, b⟩
  | none :: σ, some d :: ρ, _, _, h => by unfold REnv at h; cases h
  | some v :: σ, some d' :: ρ, F, 0, h => by
    unfold REnv at h
    obtain ⟨F1, F2, rfl, h1, h2⟩ := h
    exact ⟨F2, by rw [List.set_cons_zero]; unfold REnv; exact h2, List.sublist_append_right _ _⟩
  | some v :: σ, some d' :: ρ, F, i + 1, h => by
    unfold REnv at h
    obtain ⟨G1, G2, rfl, h1, h2⟩ := h
    obtain ⟨F2, a, b⟩ := REnv.drop (i := i) h2
    exact ⟨G1 ++ F2, by rw [List.set_cons_succ]; unfold REnv; exact ⟨G1, F2, rfl, h1, a⟩, List.Sublist.append_left b _⟩
/-- stored anew -/
theorem REnv.store : ∀ {σ : St} {ρ : Env} {F F1 : List Addr} {i : Nat} {d : D} {v : V}, REnv w H σ ρ F → i < ρ.length → Rep w H d v F1 →
    ∃ F2 F', REnv w H (σ.set i (some v)) (ρ.set i (some d)) F' ∧ F2.Sublist F ∧ F'.Perm (F1 ++ F2)
  | [], [], _, _, i, _, _, _, e, _ => by simp at e
  | [], _ :: _, _, _, _, _, _, h, _, _ => by unfold REnv at h; cases h
  | _ :: _, [], _, _, _, _, _, h, _, _ => by unfold REnv at h; cases h
  | s :: σ, none :: ρ, F, F1, 0, d, v, h, e, r => by
    unfold REnv at h
    exact ⟨F, F1 ++ F, by rw [List.set_cons_zero, List.set_cons_zero]; unfold REnv; exact ⟨F1, F, rfl, r, h⟩, List.Sublist.refl _, List.Perm.refl _⟩
  | s :: σ, none :: ρ, F, F1, i + 1, d, v, h, e, r => by
    unfold REnv at h
    obtain ⟨F2, F', a, b, p⟩ := REnv.store (i := i) h (by simpa using e) r
    exact ⟨F2, F', by rw [List.set_cons_succ, List.set_cons_succ]; unfold REnv; exact a, b, p⟩
  | none :: σ, some d :: ρ, _, _, _, _, _, h, _, _ => by unfold REnv at h; cases h
  | some u :: σ, some d' :: ρ, F, F1, 0, d, v, h, e, r => by
    unfold REnv at h
    obtain ⟨G1, G2, rfl, h1, h2⟩ := h
    exact ⟨G2, F1 ++ G2, by rw [List.set_cons_zero, List.set_cons_zero]; unfold REnv; exact ⟨F1, G2, rfl, r, h2⟩, List.sublist_append_right _ _, List.Perm.refl _⟩
  | some u :: σ, some d' :: ρ, F, F1, i + 1, d, v, h, e, r => by
    unfold REnv at h
    obtain ⟨G1, G2, rfl, h1, h2⟩ := h
    obtain ⟨F2, F', a, b, p⟩ := REnv.store (i := i) h2 (by simpa using e) r
    refine ⟨G1 ++ F2, G1 ++ F', by rw [List.set_cons_succ, List.set_cons_succ]; unfold REnv; exact ⟨G1, F', rfl, h1, a⟩, List.Sublist.append_left b _, ?_⟩
    exact (List.Perm.append_left G1 p).trans (by rw [← List.append_assoc, ← List.append_assoc]; exact List.Perm.append_right F2 List.perm_append_comm)
/-- all lent out -/
theorem REnv.br {Z : Addr → Prop} (hz : ∀ a, w.B a → Z a) : ∀ {σ : St} {ρ : Env} {F : List Addr}, REnv w H σ ρ F → (∀ a ∈ F, Z a) → REnv (w.wb Z) H σ (brE ρ) []
  | [], [], _, h, _ => by unfold brE REnv; rfl
  | [], _ :: _, _, h, _ => by unfold REnv at h; cases h
  | _ :: _, [], _, h, _ => by unfold REnv at h; cases h
  | s :: σ, none :: ρ, F, h, q => by
    unfold REnv at h
    show REnv _ _ (s :: σ) (none :: brE ρ) []
    unfold REnv
    exact REnv.br hz h q
  | none :: σ, some d :: ρ, _, h, _ => by unfold REnv at h; cases h
  | some v :: σ, some d' :: ρ, F, h, q => by
    unfold REnv at h
    obtain ⟨F1, F2, rfl, h1, h2⟩ := h
    show REnv _ _ (some v :: σ) (some d'.br :: brE ρ) []
    unfold REnv
    exact ⟨[], [], rfl, h1.br hz fun a p => q a (List.mem_append_left _ p), REnv.br hz h2 fun a p => q a (List.mem_append_right _ p)⟩
theorem REnv.get {σ : St} {ρ : Env} {F : List Addr} {i : Nat} {d : D} (h : REnv w H σ ρ F) (e : gI ρ i = some d) : ∃ v F1, σ[i]? = some (some v) ∧ Rep w H d v F1 ∧ ∀ a ∈ F1, a ∈ F := by
  obtain ⟨v, F1, F2, a, b, _, p⟩ := h.take e
  exact ⟨v, F1, a, b, fun a q => p.mem_iff.mpr (List.mem_append_left _ q)⟩
end

/-- the frame's state: w frozen and lent, P what nobody here may touch, F what the names hold -/
structure Sim (w : Wd) (P : Addr → Prop) (σ : St) (ρ : Env) (H : Hp) (F : List Addr) : Prop where
  env : REnv w H σ ρ F
  nd : F.Nodup
  dis : ∀ a ∈ F, ¬ w.Fz a ∧ ¬ P a
  bp : ∀ a, w.B a → P a
  liv : ∀ a, w.Fz a ∨ P a → H a ≠ none

/-- behind an evaluation: K what is held now -/
structure Aft (Fz P : Addr → Prop) (F : List Addr) (H : Hp) (Z : Addr → Prop) (H' : Hp) (K : List Addr) : Prop where
  fr : ∀ a, Fz a ∨ P a → H' a = H a
  mono : ∀ a, Fz a → Z a
  grow : ∀ a, Z a → Fz a ∨ a ∈ F ∨ H a = none
  liv : ∀ a, Z a → H' a ≠ none
  new : ∀ a ∈ K, (a ∈ F ∨ H a = none) ∧ ¬ Z a
  nd : K.Nodup
  keep : ∀ a, H a ≠ none → H' a ≠ none

section
variable {Fz P : Addr → Prop} {F : List Addr} {H H1 H2 : Hp} {Z Z1 Z2 : Addr → Prop} {G K K' : List Addr} {w : Wd} {σ : St} {ρ ρ' : Env}
theorem Sim.aft (s : Sim w P σ ρ H F) : Aft w.Fz P F H w.Fz H F :=
  ⟨fun _ _ => rfl, fun _ h => h, fun _ h => .inl h, fun a h => s.liv a (.inl h), fun a h => ⟨.inl h, (s.dis a h).1⟩, s.nd, fun _ h => h⟩
theorem Aft.sub (a : Aft Fz P F H Z H1 K) (h : ∀ x ∈ K', x ∈ K) (n : K'.Nodup) : Aft Fz P F H Z H1 K' :=
  ⟨a.fr, a.mono, a.grow, a.liv, fun x q => a.new x (h x q), n, a.keep⟩
theorem Aft.perm (a : Aft Fz P F H Z H1 K) (p : K'.Perm K) : Aft Fz P F H Z H1 K' := a.sub (fun x q => p.mem_iff.mp q) (p.nodup_iff.mpr a.nd)
theorem Aft.sublist (a : Aft Fz P F H Z H1 K) (p : K'.Sublist K) : Aft Fz P F H Z H1 K' := a.sub (fun x q => p.subset q) (a.nd.sublist p)
/-- one behind another, G being kept meanwhile -/
theorem Aft.trans {F1 : List Addr} (a : Aft Fz P F H Z1 H1 (G ++ F1)) (hg : ∀ x ∈ G, H1 x ≠ none) (b : Aft Z1 (fun x => P x ∨ x ∈ G) F1 H1 Z2 H2 K) :
    Aft Fz P F H Z2 H2 (G ++ K) := by
  have ng : ∀ x ∈ G, x ∉ F1 := fun x q r => (List.nodup_append.mp a.nd).2.2 x q x r rfl
  refine ⟨fun x q => ?_, fun x q => b.mono x (a.mono x q), fun x q => ?_, b.liv, fun x q => ?_, ?_, fun x q => b.keep x (a.keep x q)⟩
  · rcases q with q | q
    · exact (b.fr x (.inl (a.mono x q))).trans (a.fr x (.inl q))
    · exact (b.fr x (.inr (.inl q))).trans (a.fr x (.inr q))
  · rcases b.grow x q with q | q | q
    · exact a.grow x q
    · exact .inr ((a.new x (List.mem_append_right _ q)).1)
    · refine .inr (.inr ?_)
      cases e : H x with
      | none => rfl
      | some o => exact absurd q (a.keep x (by rw [e]; simp))
  · rcases List.mem_append.mp q with q | q
    · refine ⟨(a.new x (List.mem_append_left _ q)).1, fun z => ?_⟩
      rcases b.grow x z with z | z | z
      · exact (a.new x (List.mem_append_left _ q)).2 z
      · exact ng x q z
      · exact hg x q z
    · refine ⟨?_, (b.new x q).2⟩
      rcases (b.new x q).1 with z | z
      · exact (a.new x (List.mem_append_right _ z)).1
      · refine .inr ?_
        cases e : H x with
        | none => rfl
        | some o => exact absurd z (a.keep x (by rw [e]; simp))
  · refine List.nodup_append.mpr ⟨(List.nodup_append.mp a.nd).1, b.nd, fun x q y r e => ?_⟩
    subst e
    rcases (b.new x r).1 with z | z
    · exact ng x q z
    · exact hg x q z
/-- the state behind it, G being kept -/
theorem Aft.sim {F' : List Addr} (a : Aft w.Fz P F H Z H1 (G ++ F')) (s : Sim w P σ ρ H F) (hg : ∀ x ∈ G, H1 x ≠ none) (e : REnv (w.wz Z) H1 σ ρ' F') : Sim (w.wz Z) (fun x => P x ∨ x ∈ G) σ ρ' H1 F' := by
  refine ⟨e, (List.nodup_append.mp a.nd).2.1, fun x q => ⟨(a.new x (List.mem_append_right _ q)).2, ?_⟩, fun x q => .inl (s.bp x q), fun x q => ?_⟩
  · rintro (z | z)
    · rcases (a.new x (List.mem_append_right _ q)).1 with r | r
      · exact (s.dis x r).2 z
      · exact s.liv x (.inr z) r
    · exact (List.nodup_append.mp a.nd).2.2 x z x q rfl
  · rcases q with q | q | q
    · exact a.liv x q
    · exact a.keep x (s.liv x (.inr q))
    · exact hg x q
/-- what is kept stays -/
theorem Aft.stays {F1 : List Addr} (b : Aft Z1 (fun x => P x ∨ x ∈ G) F1 H1 Z2 H2 K) (hb : ∀ x, w.B x → P x) : Stays (w.wz Z1) G H1 H2 :=
  ⟨fun x q => b.fr x (.inr (.inr q)), fun x q => b.fr x (.inl q), fun x q => b.fr x (.inr (.inl (hb x q)))⟩
end

/-! ### expressions -/
structure EPost (w : Wd) (P : Addr → Prop) (σ : St) (ρ : Env) (H : Hp) (F : List Addr) (pl still : Bool) (d : D) (ρ' : Env) (v : V) (H' : Hp) (Z : Addr → Prop) (G F' : List Addr) : Prop where
  aft : Aft w.Fz P F H Z H' ((if pl then [] else G) ++ F')
  env : REnv (w.wz Z) H' σ ρ' F'
  rep : Rep (w.wz Z) H' d v G
  pl : pl = true → ∀ a ∈ G, a ∈ F'
  still : still = true → ρ' = ρ ∧ F' = F ∧ ∀ a, H a ≠ none → H' a = H a

/-- what all is about: the written part and the classes -/
structure Wd.In (w : Wd) (K : PySem.W.Frag) (CA : Nat → Option Addr) : Prop where
  k : w.K = K
  c : w.CA = CA

/-- what an expression tells, by a function f of the names -/
def tG (K : PySem.W.Frag) (CA : Nat → Option Addr) (pl still : Bool) (f : Env → Option (D × Env)) : TE := fun σ H Q =>
  ∃ w P ρ F d ρ', w.In K CA ∧ Sim w P σ ρ H F ∧ f ρ = some (d, ρ') ∧ ∀ v H' Z G F', EPost w P σ ρ H F pl still d ρ' v H' Z G F' → Q v H'
end Mp
set_option Elab.async false
set_option linter.all false
set_option maxRecDepth 100000
/-! # Mp: expressions and their operands -/
namespace Mp
open PySem L2

theorem PE.imp {X : Cx} {e : Expr} {t t' : TE} (h : PE X e t) (q : ∀ σ H Q, t' σ H Q → t σ H Q) : PE X e t' := ⟨fun pins s σ H Q I hw => h.run pins s σ H Q I (q σ H Q hw)⟩
theorem PT.imp {X : Cx} {e : Expr} {t t' : TT} (h : PT X e t) (q : ∀ σ H Q, t' σ H Q → t σ H Q) : PT X e t' := ⟨fun pins s σ H Q I hw => h.run pins s σ H Q I (q σ H Q hw)⟩
theorem PW.imp {X : Cx} {e : Expr} {t t' : TT} (h : PW X e t) (q : ∀ σ H Q, t' σ H Q → t σ H Q) : PW X e t' := ⟨fun wh pins s σ H Q I hw => h.run wh pins s σ H Q I (q σ H Q hw)⟩
theorem PA.imp {X : Cx} {e : List Expr} {t t' : TA} (h : PA X e t) (q : ∀ σ H Q, t' σ H Q → t σ H Q) : PA X e t' := ⟨fun pos pins s σ H Q I hw => h.run pos pins s σ H Q I (q σ H Q hw)⟩
theorem PS.imp {X : Cx} {e : Stmt} {t t' : TS} (h : PS X e t) (q : ∀ D σ H, t' D σ H → t D σ H) : PS X e t' := ⟨fun pins s σ H D I hw => h.run pins s σ H D I (q D σ H hw)⟩
theorem PSs.imp {X : Cx} {e : List Stmt} {t t' : TS} (h : PSs X e t) (q : ∀ D σ H, t' D σ H → t D σ H) : PSs X e t' := ⟨fun pins s σ H D I hw => h.run pins s σ H D I (q D σ H hw)⟩

/-! ### lists of operands -/
def RepL (w : Wd) (H : Hp) : List D → List V → List (List Addr) → Prop
  | [], [], [] => True
  | d :: ds, v :: vs, G :: Gs => Rep w H d v G ∧ RepL w H ds vs Gs
  | _, _, _ => False
def owned : List Bool → List (List Addr) → List Addr
  | p :: ps, G :: Gs => (if p then [] else G) ++ owned ps Gs
  | _, _ => []
def lentOk (F : List Addr) : List Bool → List (List Addr) → Prop
  | p :: ps, G :: Gs => (p = true → ∀ a ∈ G, a ∈ F) ∧ lentOk F ps Gs
  | _, _ => True
theorem RepL.stays {w w' : Wd} {H H' : Hp} (l : w.Le w') : ∀ {ds : List D} {vs : List V} {Gs : List (List Addr)}, RepL w H ds vs Gs → (∀ G ∈ Gs, Stays w G H H') → RepL w' H' ds vs Gs
  | [], [], [], _, _ => trivial
  | d :: ds, v :: vs, G :: Gs, h, s => ⟨h.1.stays l (s G List.mem_cons_self), RepL.stays l h.2 fun G q => s G (List.mem_cons_of_mem _ q)⟩
  | [], [], _ :: _, h, _ => h.elim
  | [], _ :: _, _, h, _ => h.elim
  | _ :: _, [], _, h, _ => h.elim
  | _ :: _, _ :: _, [], h, _ => h.elim
theorem RepL.live {w : Wd} {H : Hp} : ∀ {ds : List D} {vs : List V} {Gs : List (List Addr)}, RepL w H ds vs Gs → ∀ G ∈ Gs, ∀ a ∈ G, H a ≠ none
  | [], [], [], _, _, q, _, _ => by cases q
  | d :: ds, v :: vs, G :: Gs, h, G', q, a, r => by
    rcases List.mem_cons.mp q with rfl | q
    · exact h.1.live a r
    · exact RepL.live h.2 G' q a r
  | [], [], _ :: _, h, _, _, _, _ => h.elim
  | [], _ :: _, _, h, _, _, _, _ => h.elim
  | _ :: _, [], _, h, _, _, _, _ => h.elim
  | _ :: _, _ :: _, [], h, _, _, _, _ => h.elim
theorem mem_owned : ∀ {ps : List Bool} {Gs : List (List Addr)} {a : Addr}, a ∈ owned ps Gs → ∃ G ∈ Gs, a ∈ G
  | p :: ps, G :: Gs, a, h => by
    unfold owned at h
    rcases List.mem_append.mp h with h | h
    · refine ⟨G, List.mem_cons_self, ?_⟩
      split at h
      · cases h
      · exact h
    · obtain ⟨G', q, r⟩ := mem_owned h
      exact ⟨G', List.mem_cons_of_mem _ q, r⟩
  | [], _, _, h => by unfold owned at h; cases h
  | _ :: _, [], _, h => by unfold owned at h; cases h
theorem lentOk.mono {F F' : List Addr} (h : ∀ a ∈ F, a ∈ F') : ∀ {ps : List Bool} {Gs : List (List Addr)}, lentOk F ps Gs → lentOk F' ps Gs
  | p :: ps, G :: Gs, q => ⟨fun e a r => h a (q.1 e a r), lentOk.mono h q.2⟩
  | [], _, _ => by unfold lentOk; trivial
  | _ :: _, [], _ => by unfold lentOk; trivial

structure LPost (w : Wd) (P : Addr → Prop) (σ : St) (ρ : Env) (H : Hp) (F : List Addr) (pls : List Bool) (still : Bool) (ds : List D) (ρ' : Env) (vs : List V) (H' : Hp) (Z : Addr → Prop) (Gs : List (List Addr)) (F' : List Addr) : Prop where
  aft : Aft w.Fz P F H Z H' (owned pls Gs ++ F')
  env : REnv (w.wz Z) H' σ ρ' F'
  rep : RepL (w.wz Z) H' ds vs Gs
  lent : lentOk F' pls Gs
  still : still = true → ρ' = ρ ∧ F' = F ∧ ∀ a, H a ≠ none → H' a = H a

section
variable (cl : Call) (K : PySem.W.Frag) (CA : Nat → Option Addr)
abbrev tE (m : ME) : TE := tG K CA m.pl m.still (ev cl m)
/-- operands; W: what is known of what they tell -/
def tP (W : List D → Prop) (ms : MEs) : TA := fun σ H Q =>
  ∃ w P ρ F ds ρ', w.In K CA ∧ Sim w P σ ρ H F ∧ evPs cl ms ρ = some (ds, ρ') ∧ W ds ∧ ∀ vs H' Z Gs F', LPost w P σ ρ H F ms.pls ms.still ds ρ' vs H' Z Gs F' → Q vs H'
/-- x stands for something, as W tells of the first one -/
def Known (W : List D → Prop) (x : V) (H : Hp) : Prop := ∃ w d G ds, Wd.In w K CA ∧ Rep w H d x G ∧ W (d :: ds)
end
variable {cl : Call} {K : PySem.W.Frag} {CA : Nat → Option Addr}

theorem Wd.In.wz {w : Wd} (h : w.In K CA) (Z : Addr → Prop) : (w.wz Z).In K CA := ⟨h.k, h.c⟩
theorem tP_nil {W : List D → Prop} {σ : St} {H : Hp} {Q : List V → Hp → Prop} (h : tP cl K CA W .nil σ H Q) : Q [] H := by
  obtain ⟨w, P, ρ, F, ds, ρ', hw, s, e, _, k⟩ := h
  simp only [evPs, Option.some.injEq, Prod.mk.injEq] at e
  obtain ⟨rfl, rfl⟩ := e
  exact k [] H w.Fz [] F ⟨by simpa [owned] using s.aft, s.env, trivial, by unfold lentOk; trivial, fun _ => ⟨rfl, rfl, fun _ _ => rfl⟩⟩
theorem tP_consW {W : List D → Prop} {m : ME} {ms : MEs} {σ : St} {H : Hp} {Q : List V → Hp → Prop} (h : tP cl K CA W (.cons m ms) σ H Q) :
    tE cl K CA m σ H fun x H1 => ∃ d, (∃ w G, Wd.In w K CA ∧ Rep w H1 d x G) ∧ (∃ ρ ρ', ev cl m ρ = some (d, ρ')) ∧ tP cl K CA (fun ds => W (d :: ds)) ms σ H1 fun xs H2 => Q (x :: xs) H2 := by
  obtain ⟨w, P, ρ, F, ds, ρ', hw, s, e, hW, k⟩ := h
  simp only [evPs, Option.bind_eq_some_iff] at e
  obtain ⟨⟨d, ρ1⟩, e1, e⟩ := e
  by_cases hc : (!m.pl || d.sh || ms.still) = true
  · rw [if_pos hc] at e
    simp only [Option.map_eq_some_iff] at e
    obtain ⟨⟨ds1, ρ2⟩, e2, e⟩ := e
    simp only [Prod.mk.injEq] at e
    obtain ⟨rfl, rfl⟩ := e
    refine ⟨w, P, ρ, F, d, ρ1, hw, s, e1, fun v H1 Z1 G F1 p => ?_⟩
    have hl : ∀ x ∈ (if m.pl then [] else G), H1 x ≠ none := fun x q => by
      split at q
      · cases q
      · exact p.rep.live x q
    have s1 := p.aft.sim s hl p.env
    refine ⟨d, ⟨w.wz Z1, G, hw.wz _, p.rep⟩, ⟨ρ, ρ1, e1⟩, w.wz Z1, _, ρ1, F1, ds1, ρ2, hw.wz _, s1, e2, hW, fun vs H2 Z2 Gs F2 p2 => ?_⟩
    -- the first operand stands
    have st : Stays (w.wz Z1) G H1 H2 := by
      have b := p2.aft.stays (w := w.wz Z1) (P := P) (G := if m.pl then [] else G) s.bp
      cases hp : m.pl with
      | false => rw [hp] at b; simpa using b
      | true =>
        rw [hp] at hc b
        cases hs : d.sh with
        | true =>
          have e0 : G = [] := p.rep.sh hs
          rw [e0]; simpa using b
        | false =>
          rw [hs] at hc
          have hst : ms.still = true := by simpa using hc
          obtain ⟨_, _, kk⟩ := p2.still hst
          exact ⟨fun a q => kk a (p.rep.live a q), b.z, b.b⟩
    refine k (v :: vs) H2 Z2 (G :: Gs) F2 ⟨?_, ?_, ?_, ?_, ?_⟩
    · have t := p.aft.trans hl p2.aft
      simpa [owned, MEs.pls, List.append_assoc] using t
    · exact p2.env
    · exact ⟨p.rep.stays (Wd.Le.wz p2.aft.mono) st, p2.rep⟩
    · refine ⟨fun hp a q => ?_, p2.lent⟩
      have hp : m.pl = true := hp
      cases hs : d.sh with
      | true => rw [p.rep.sh hs] at q; cases q
      | false =>
        rw [hp, hs] at hc
        have hst : ms.still = true := by simpa using hc
        obtain ⟨_, f, _⟩ := p2.still hst
        rw [f]; exact p.pl hp a q
    · intro hst
      simp only [MEs.still, Bool.and_eq_true] at hst
      obtain ⟨a1, a2, a3⟩ := p.still hst.1
      obtain ⟨b1, b2, b3⟩ := p2.still hst.2
      exact ⟨b1.trans a1, b2.trans a2, fun a q => (b3 a (by rw [a3 a q]; exact q)).trans (a3 a q)⟩
  · rw [if_neg hc] at e; cases e

theorem tG_mono {pl st : Bool} {f : Env → Option (D × Env)} {σ : St} {H : Hp} {Q Q' : VK} (h : tG K CA pl st f σ H Q) (q : ∀ v H, Q v H → Q' v H) : tG K CA pl st f σ H Q' := by
  obtain ⟨w, P, ρ, F, d, ρ', hw, s, e, k⟩ := h
  exact ⟨w, P, ρ, F, d, ρ', hw, s, e, fun v H' Z G F' p => q _ _ (k v H' Z G F' p)⟩
theorem tP_W {W : List D → Prop} {ms : MEs} {σ : St} {H : Hp} {Q : List V → Hp → Prop} (h : tP cl K CA W ms σ H Q) : ∃ ds, W ds := by
  obtain ⟨_, _, _, _, ds, _, _, _, _, hW, _⟩ := h
  exact ⟨ds, hW⟩
theorem tP_mono {W W' : List D → Prop} {ms : MEs} {σ : St} {H : Hp} {Q Q' : List V → Hp → Prop} (h : tP cl K CA W ms σ H Q) (hw : ∀ ds, W ds → W' ds) (q : ∀ v H, Q v H → Q' v H) : tP cl K CA W' ms σ H Q' := by
  obtain ⟨w, P, ρ, F, ds, ρ', h1, h2, h3, h4, k⟩ := h
  exact ⟨w, P, ρ, F, ds, ρ', h1, h2, h3, hw _ h4, fun vs H' Z Gs F' p => q _ _ (k vs H' Z Gs F' p)⟩
theorem tP_consK {W : List D → Prop} {m : ME} {ms : MEs} {σ : St} {H : Hp} {Q : List V → Hp → Prop} (h : tP cl K CA W (.cons m ms) σ H Q) :
    tE cl K CA m σ H fun x H1 => Known K CA W x H1 ∧ tP cl K CA (fun _ => True) ms σ H1 fun xs H2 => Q (x :: xs) H2 :=
  tG_mono (tP_consW h) fun _ _ ⟨d, ⟨w, G, hw, r⟩, _, q⟩ => ⟨let ⟨ds, hd⟩ := tP_W q; ⟨w, d, G, ds, hw, r, hd⟩, tP_mono q (fun _ _ => trivial) fun _ _ h => h⟩
theorem tP_cons {W : List D → Prop} {m : ME} {ms : MEs} {σ : St} {H : Hp} {Q : List V → Hp → Prop} (h : tP cl K CA W (.cons m ms) σ H Q) :
    tE cl K CA m σ H fun x H1 => tP cl K CA (fun _ => True) ms σ H1 fun xs H2 => Q (x :: xs) H2 := tG_mono (tP_consK h) fun _ _ q => q.2

/-! ### operations by values -/
structure VCtx (w : Wd) (H : Hp) (ds : List D) (vs : List V) (pls : List Bool) (Gs : List (List Addr)) : Prop where
  rep : RepL w H ds vs Gs
  zl : ∀ a, w.Fz a → H a ≠ none
  bl : ∀ a, w.B a → H a ≠ none
  nz : ∀ a ∈ owned pls Gs, ¬ w.Fz a
  nd : (owned pls Gs).Nodup
structure VPost (w : Wd) (H : Hp) (pls : List Bool) (Gs : List (List Addr)) (pl : Bool) (d : D) (v : V) (H' : Hp) (Z : Addr → Prop) (G : List Addr) : Prop where
  aft : Aft w.Fz (fun a => H a ≠ none) (owned pls Gs) H Z H' (if pl then [] else G)
  rep : Rep (w.wz Z) H' d v G
  pl : pl = true → ∀ a ∈ G, a ∈ Gs.headD []
def rV (cl : Call) (K : PySem.W.Frag) (CA : Nat → Option Addr) (o : Op) (pls : List Bool) (pl : Bool) (vs : List V) (H : Hp) (Q : VK) : Prop :=
  ∃ w ds Gs d, w.In K CA ∧ VCtx w H ds vs pls Gs ∧ opV cl o pls ds = some d ∧ ∀ v H' Z G, VPost w H pls Gs pl d v H' Z G → Q v H'

theorem pl_op {o : Op} {ms : MEs} (h : (ME.op o ms).pl = true) : ms.pl1 = true := by
  cases o <;> simp only [ME.pl] at h <;> first | exact h | cases h
theorem pls_head {ms : MEs} (h : ms.pl1 = true) : ∃ r, ms.pls = true :: r := by
  cases ms with
  | nil => cases h
  | cons m ms => exact ⟨_, by rw [MEs.pls]; rw [show m.pl = true from h]⟩

theorem op_glue {o : Op} {ms : MEs} {σ : St} {H : Hp} {Q : VK} (h : tE cl K CA (.op o ms) σ H Q) :
    tP cl K CA (fun ds => (opV cl o ms.pls ds).isSome = true) ms σ H fun vs H1 => rV cl K CA o ms.pls (ME.op o ms).pl vs H1 Q := by
  obtain ⟨w, P, ρ, F, d, ρ', hw, s, e, k⟩ := h
  simp only [ev, Option.bind_eq_some_iff] at e
  obtain ⟨⟨ds, ρ1⟩, e1, e⟩ := e
  simp only [Option.map_eq_some_iff] at e
  obtain ⟨d', e2, e⟩ := e
  simp only [Prod.mk.injEq] at e
  obtain ⟨rfl, rfl⟩ := e
  refine ⟨w, P, ρ, F, ds, ρ1, hw, s, e1, (show (opV cl o ms.pls ds).isSome = true by rw [e2]; rfl), fun vs H1 Z1 Gs F1 p => ?_⟩
  have ho : ∀ x ∈ owned ms.pls Gs, H1 x ≠ none := fun x q => by
    obtain ⟨G, q1, q2⟩ := mem_owned q
    exact p.rep.live G q1 x q2
  have s1 := p.aft.sim s ho p.env
  refine ⟨w.wz Z1, ds, Gs, d', hw.wz _, ⟨p.rep, fun a q => s1.liv a (.inl q), fun a q => s1.liv a (.inr (s1.bp a q)), fun a q => (p.aft.new a (List.mem_append_left _ q)).2, (List.nodup_append.mp p.aft.nd).1⟩, e2, fun v H2 Z2 G q => ?_⟩
  -- from the operation's end to the expression's
  have hF1 : ∀ x ∈ F1, H1 x ≠ none := s1.env.live
  have hdis : ∀ x ∈ F1, x ∉ owned ms.pls Gs := fun x q r => (List.nodup_append.mp p.aft.nd).2.2 x r x q rfl
  have hf1z : ∀ x ∈ F1, ¬ Z2 x := fun x q1 z => by
    rcases q.aft.grow x z with z | z | z
    · exact (s1.dis x q1).1 z
    · exact hdis x q1 z
    · exact hF1 x q1 z
  have hK : ∀ x ∈ (if (ME.op o ms).pl = true then [] else G), x ∉ F1 := fun x q1 r => by
    rcases (q.aft.new x q1).1 with z | z
    · exact hdis x r z
    · exact hF1 x r z
  refine k v H2 Z2 G F1 ⟨⟨fun x hx => ?_, fun x hx => q.aft.mono x (p.aft.mono x hx), fun x hx => ?_, q.aft.liv, fun x hx => ?_, ?_, fun x hx => q.aft.keep x (p.aft.keep x hx)⟩, ?_, q.rep, ?_, ?_⟩
  · have l1 : H1 x ≠ none := by
      rw [p.aft.fr x hx]
      exact s.liv x hx
    exact (q.aft.fr x (.inr l1)).trans (p.aft.fr x hx)
  · rcases q.aft.grow x hx with z | z | z
    · exact p.aft.grow x z
    · exact .inr ((p.aft.new x (List.mem_append_left _ z)).1)
    · refine .inr (.inr ?_)
      cases e : H x with
      | none => rfl
      | some o => exact absurd z (p.aft.keep x (by rw [e]; simp))
  · rcases List.mem_append.mp hx with hx | hx
    · refine ⟨?_, (q.aft.new x hx).2⟩
      rcases (q.aft.new x hx).1 with z | z
      · exact (p.aft.new x (List.mem_append_left _ z)).1
      · refine .inr ?_
        cases e : H x with
        | none => rfl
        | some o => exact absurd z (p.aft.keep x (by rw [e]; simp))
    · exact ⟨(p.aft.new x (List.mem_append_right _ hx)).1, hf1z x hx⟩
  · exact List.nodup_append.mpr ⟨q.aft.nd, s1.nd, fun x q1 y q2 e => hK x q1 (e ▸ q2)⟩
  · refine s1.env.stays (Wd.Le.wz q.aft.mono) ⟨fun a r => q.aft.fr a (.inr (hF1 a r)), fun a r => q.aft.fr a (.inl r), fun a r => q.aft.fr a (.inr (s1.liv a (.inr (s1.bp a r))))⟩
  · intro hp a r
    have z := q.pl hp a r
    obtain ⟨rest, er⟩ := pls_head (pl_op hp)
    cases Gs with
    | nil => cases z
    | cons G0 Gs =>
      have l := p.lent
      rw [er] at l
      exact l.1 rfl a z
  · intro hst
    have hst : ms.still = true := hst
    obtain ⟨a1, a2, a3⟩ := p.still hst
    exact ⟨a1, a2, fun a r => (q.aft.fr a (.inr (by rw [a3 a r]; exact r))).trans (a3 a r)⟩
end Mp
set_option Elab.async false
set_option linter.all false
set_option maxRecDepth 100000
/-! # Mp: operators by values -/
namespace Mp
open PySem L2

theorem lim_line {n : Nat} (h : n ≤ lim) : n ≤ sizeLine := by rw [sizeLine_eq]; unfold lim at h; omega
theorem lim_lt {n : Nat} (h : n < lim) : n < sizeLine := by rw [sizeLine_eq]; unfold lim at h; omega
theorem RepL.two {w : Wd} {H : Hp} {ds : List D} {x y : V} {Gs : List (List Addr)} (h : RepL w H ds [x, y] Gs) : ∃ d e F G, ds = [d, e] ∧ Gs = [F, G] ∧ Rep w H d x F ∧ Rep w H e y G := by
  match ds, Gs, h with
  | [d, e], [F, G], h => exact ⟨d, e, F, G, rfl, rfl, h.1, h.2.1⟩
  | [], _, h => exact h.elim
  | [_], [], h => exact h.elim
  | [_], _ :: _, h => exact h.2.elim
  | _ :: _ :: _, [], h => exact h.elim
  | _ :: _ :: _, [_], h => exact h.2.elim
  | _ :: _ :: _ :: _, _ :: _ :: _, h => exact h.2.2.elim
  | [_, _], _ :: _ :: _ :: _, h => exact h.2.2.elim
theorem RepL.one {w : Wd} {H : Hp} {ds : List D} {x : V} {Gs : List (List Addr)} (h : RepL w H ds [x] Gs) : ∃ d F, ds = [d] ∧ Gs = [F] ∧ Rep w H d x F := by
  match ds, Gs, h with
  | [d], [F], h => exact ⟨d, F, rfl, rfl, h.1⟩
  | [], _, h => exact h.elim
  | _ :: _, [], h => exact h.elim
  | _ :: _ :: _, _ :: _, h => exact h.2.elim
  | [_], _ :: _ :: _, h => exact h.2.elim
section
variable {w : Wd} {H : Hp} {v : V} {F : List Addr} {pls : List Bool} {Gs : List (List Addr)} {ds : List D} {vs : List V}
theorem Rep.int_inv {i : Int} (h : Rep w H (.int i) v F) : v = .int i ∧ F = [] := by unfold Rep at h; exact h
theorem Rep.str_inv {i : Str} (h : Rep w H (.str i) v F) : v = .str i ∧ F = [] := by unfold Rep at h; exact h
theorem Rep.bl_inv {i : Bool} (h : Rep w H (.bl i) v F) : v = .bl i ∧ F = [] := by unfold Rep at h; exact h
theorem Rep.non_inv (h : Rep w H .non v F) : v = .non ∧ F = [] := by unfold Rep at h; exact h
theorem Rep.int_mk {i : Int} : Rep w H (.int i) (.int i) [] := by unfold Rep; exact ⟨rfl, rfl⟩
theorem Rep.str_mk {i : Str} : Rep w H (.str i) (.str i) [] := by unfold Rep; exact ⟨rfl, rfl⟩
theorem Rep.bl_mk {i : Bool} : Rep w H (.bl i) (.bl i) [] := by unfold Rep; exact ⟨rfl, rfl⟩
theorem Rep.non_mk : Rep w H .non .non [] := by unfold Rep; exact ⟨rfl, rfl⟩
theorem Rep.lst_inv {f : Fl} {xs : List D} (h : Rep w H (.lst f xs) v F) : ∃ a us G, v = .ref a ∧ H a = some (.lst us) ∧ At w f a G F ∧ Reps w H xs us G := by unfold Rep at h; exact h
theorem Rep.tup_inv {xs : List D} (h : Rep w H (.tup xs) v F) : ∃ a us, v = .ref a ∧ w.Fz a ∧ H a = some (.tup us) ∧ Reps w H xs us F := by unfold Rep at h; exact h
theorem Rep.dic_inv {f : Fl} {ks : List Key} {xs : List D} (h : Rep w H (.dic f ks xs) v F) : ∃ a us G, v = .ref a ∧ (ks.length = xs.length ∧ ks.Nodup) ∧ (if f = .own then H a = some (.dK (ks.zip us)) else Rd H a (.dK (ks.zip us))) ∧ At w f a G F ∧ Reps w H xs us G := by unfold Rep at h; exact h
theorem Rep.ins_inv {f : Fl} {c : Nat} {ns : List Str} {xs : List D} (h : Rep w H (.ins f c ns xs) v F) : ∃ a dx us G, v = .ref a ∧ (ns.length = xs.length ∧ ns.Nodup) ∧ (∃ C, w.CA c = some C ∧ H a = some (.ins C dx (ns.zip us))) ∧ At w f a G F ∧ Reps w H xs us G := by unfold Rep at h; exact h
theorem Rep.scr_inv {ns : List Int} (h : Rep w H (.scr ns) v F) : F = [] ∧ ∃ a, v = .ref a ∧ SqL w.K H a (ns.map V.int) := by
  unfold Rep at h
  obtain ⟨e, a, rfl, h⟩ := h
  exact ⟨e, a, rfl, h.imp (fun h => h.1) fun h => h⟩
/-- a new list, its children F -/
theorem Rep.lst_mk {p : Addr} {xs : List D} {us : List V} (e : H p = some (.lst us)) (h : Reps w H xs us F) : Rep w H (.lst .own xs) (.ref p) (p :: F) := by
  unfold Rep; exact ⟨p, us, F, rfl, e, rfl, h⟩
theorem Rep.dic_mk {p : Addr} {ks : List Key} {xs : List D} {us : List V} (e : H p = some (.dK (ks.zip us))) (l : ks.length = xs.length) (nd : ks.Nodup) (h : Reps w H xs us F) : Rep w H (.dic .own ks xs) (.ref p) (p :: F) := by
  unfold Rep; exact ⟨p, us, F, rfl, ⟨l, nd⟩, by rw [if_pos rfl]; exact e, rfl, h⟩
theorem Rep.tup_mk {p : Addr} {xs : List D} {us : List V} (z : w.Fz p) (e : H p = some (.tup us)) (h : Reps w H xs us F) : Rep w H (.tup xs) (.ref p) F := by
  unfold Rep; exact ⟨p, us, rfl, z, e, h⟩

theorem VCtx.owned_live (c : VCtx w H ds vs pls Gs) : ∀ a ∈ owned pls Gs, H a ≠ none := fun a q => by
  obtain ⟨G, q1, q2⟩ := mem_owned q
  exact c.rep.live G q1 a q2
/-- nothing new -/
theorem VPost.same (c : VCtx w H ds vs pls Gs) {d : D} {v : V} {G : List Addr} (r : Rep w H d v G) (h : G.Sublist (owned pls Gs)) : VPost w H pls Gs false d v H w.Fz G :=
  ⟨⟨fun _ _ => rfl, fun _ h => h, fun _ h => .inl h, c.zl, fun a q => ⟨.inl (h.subset q), c.nz a (h.subset q)⟩, c.nd.sublist h, fun _ h => h⟩, r, fun e => by cases e⟩
theorem VPost.imm (c : VCtx w H ds vs pls Gs) {d : D} {v : V} (r : Rep w H d v []) : VPost w H pls Gs false d v H w.Fz [] := .same c r (List.nil_sublist _)
/-- a stay under a new object -/
theorem stays_upd {p : Addr} {o : HO} {G : List Addr} (hp : H p = none) (zl : ∀ a, w.Fz a → H a ≠ none) (bl : ∀ a, w.B a → H a ≠ none) (gl : ∀ a ∈ G, H a ≠ none) : Stays w G H (upd H p o) := by
  have ne : ∀ a, H a ≠ none → a ≠ p := fun a h e => h (e ▸ hp)
  exact ⟨fun a q => upd_ne (ne a (gl a q)), fun a q => upd_ne (ne a (zl a q)), fun a q => upd_ne (ne a (bl a q))⟩
theorem VCtx.stays (c : VCtx w H ds vs pls Gs) {p : Addr} {o : HO} {G : List Addr} (hp : H p = none) (gl : ∀ a ∈ G, H a ≠ none) : Stays w G H (upd H p o) := stays_upd hp c.zl c.bl gl
/-- a new object at p -/
theorem VPost.alloc (c : VCtx w H ds vs pls Gs) {p : Addr} {o : HO} {d : D} {G : List Addr} (hp : H p = none) (h : G.Sublist (owned pls Gs)) (r : Rep w (upd H p o) d (.ref p) (p :: G)) :
    VPost w H pls Gs false d (.ref p) (upd H p o) w.Fz (p :: G) := by
  have ne : ∀ a, H a ≠ none → a ≠ p := fun a h e => h (e ▸ hp)
  refine ⟨⟨fun a q => upd_ne (ne a (q.elim (c.zl a) fun h => h)), fun _ h => h, fun _ h => .inl h, fun a q => by rw [upd_ne (ne a (c.zl a q))]; exact c.zl a q, fun a q => ?_, ?_, fun a q => by rw [upd_ne (ne a q)]; exact q⟩, r, fun e => by cases e⟩
  · rcases List.mem_cons.mp q with rfl | q
    · exact ⟨.inr hp, fun z => c.zl _ z hp⟩
    · exact ⟨.inl (h.subset q), c.nz a (h.subset q)⟩
  · refine List.nodup_cons.mpr ⟨fun q => ?_, c.nd.sublist h⟩
    exact c.owned_live p (h.subset q) hp
/-- a new tuple at p -/
theorem VPost.allocT (c : VCtx w H ds vs pls Gs) {p : Addr} {o : HO} {d : D} {G : List Addr} (hp : H p = none) (h : G.Sublist (owned pls Gs)) (r : Rep (w.wz fun a => w.Fz a ∨ a = p) (upd H p o) d (.ref p) G) :
    VPost w H pls Gs false d (.ref p) (upd H p o) (fun a => w.Fz a ∨ a = p) G := by
  have ne : ∀ a, H a ≠ none → a ≠ p := fun a h e => h (e ▸ hp)
  refine ⟨⟨fun a q => upd_ne (ne a (q.elim (c.zl a) fun h => h)), fun _ h => .inl h, fun a h => h.elim .inl fun e => .inr (.inr (by rw [show a = p from e]; exact hp)), fun a q => ?_, fun a q => ?_, c.nd.sublist h, fun a q => by rw [upd_ne (ne a q)]; exact q⟩, r, fun e => by cases e⟩
  · rcases q with q | rfl
    · rw [upd_ne (ne a (c.zl a q))]; exact c.zl a q
    · rw [upd_same]; simp
  · refine ⟨.inl (h.subset q), ?_⟩
    rintro (z | rfl)
    · exact c.nz a (h.subset q) z
    · exact c.owned_live _ (h.subset q) hp
/-- the children of an operand -/
theorem kids_eq {pl : Bool} {xs ys : List D} (h : kids pl xs = some ys) : ys = xs ∧ (pl = true → shs xs = true) := by
  unfold kids at h
  cases pl with
  | false => simp at h; exact ⟨h.symm, fun e => by cases e⟩
  | true =>
    cases e : shs xs with
    | false => rw [e] at h; simp at h
    | true => rw [e] at h; simp at h; exact ⟨h.symm, fun _ => rfl⟩
theorem kids_lst {pl : Bool} {f : Fl} {xs ys : List D} {G : List Addr} (h : kids pl xs = some ys) (r : Rep w H (.lst f xs) v G) :
    ys = xs ∧ ∃ a us Gc, v = .ref a ∧ H a = some (.lst us) ∧ Reps w H xs us Gc ∧ Gc.Sublist (if pl then [] else G) := by
  obtain ⟨e, hs⟩ := kids_eq h
  obtain ⟨a, us, Gc, rfl, ea, t, rs⟩ := r.lst_inv
  refine ⟨e, a, us, Gc, rfl, ea, rs, ?_⟩
  cases pl with
  | true =>
    rw [rs.sh (hs rfl)]
    exact List.nil_sublist _
  | false =>
    show Gc.Sublist G
    cases f with
    | own => rw [show G = a :: Gc from t]; exact List.sublist_cons_self _ _
    | frz => rw [t.2.1]; exact List.nil_sublist _
    | bor => rw [t.2.1]; exact List.nil_sublist _
theorem kids_tup {pl : Bool} {xs ys : List D} {G : List Addr} (h : kids pl xs = some ys) (r : Rep w H (.tup xs) v G) :
    ys = xs ∧ ∃ a us, v = .ref a ∧ w.Fz a ∧ H a = some (.tup us) ∧ Reps w H xs us G ∧ G.Sublist (if pl then [] else G) := by
  obtain ⟨e, hs⟩ := kids_eq h
  obtain ⟨a, us, rfl, z, ea, rs⟩ := r.tup_inv
  refine ⟨e, a, us, rfl, z, ea, rs, ?_⟩
  cases pl with
  | true =>
    rw [rs.sh (hs rfl)]
    exact List.nil_sublist _
  | false => exact List.Sublist.refl _
theorem Reps.append {xs ys : List D} {us ws : List V} {F G : List Addr} (h : Reps w H xs us F) (k : Reps w H ys ws G) : Reps w H (xs ++ ys) (us ++ ws) (F ++ G) := by
  induction xs generalizing us F with
  | nil => rw [h.unnil.1, h.unnil.2]; exact k
  | cons d xs ih =>
    obtain ⟨v, vr, F1, F2, rfl, rfl, h1, h2⟩ := h.uncons
    rw [List.cons_append, List.cons_append, List.append_assoc]
    exact .cons h1 (ih h2)
theorem owned2 {p q : Bool} {F G : List Addr} : owned [p, q] [F, G] = (if p then [] else F) ++ (if q then [] else G) := by simp [owned]
theorem owned1 {p : Bool} {F : List Addr} : owned [p] [F] = (if p then [] else F) := by simp [owned]
end

def bopOf : Bop → Operator
  | .add => .Add | .sub => .Sub | .mul => .Mult | .fdiv => .FloorDiv | .mod => .Mod | .pow => .Pow

variable {cl : Call} {K : PySem.W.Frag} {CA : Nat → Option Addr} {X : Cx}
theorem natAbs_log {i : Int} {n : Nat} (h : i.natAbs < 2 ^ n) (hn : 0 < n) : i.natAbs.log2 < n := PySem.Flt.log2_lt_of hn h

theorem or_add {p q : Bool} : OpR X (binaryOp .Add) (fun x y H Q => rV cl X.K CA (.bin .add) [p, q] false [x, y] H Q) := by
  intro pins s σ H x y v u Q I rx ry h
  obtain ⟨w, ds, Gs, d, hw, c, e, k⟩ := h
  obtain ⟨d1, d2, F, G, rfl, rfl, r1, r2⟩ := c.rep.two
  have e : binD p q .add d1 d2 = some d := e
  unfold binD at e
  split at e <;> first | (cases ‹Bop.add = _›; done) | skip
  · obtain ⟨rfl, rfl⟩ := r1.int_inv
    obtain ⟨rfl, rfl⟩ := r2.int_inv
    cases e
    exact op_add pins s σ H _ _ v u Q I rx ry ⟨_, _, rfl, rfl, k _ _ _ _ (.imm c .int_mk)⟩
  · obtain ⟨rfl, rfl⟩ := r1.str_inv
    obtain ⟨rfl, rfl⟩ := r2.str_inv
    split at e
    · rename_i hl
      cases e
      exact op_add_str pins s σ H _ _ v u Q I rx ry ⟨_, _, rfl, rfl, lim_line hl, k _ _ _ _ (.imm c .str_mk)⟩
    · cases e
  · split at e
    · rename_i hl
      simp only [Option.bind_eq_some_iff] at e
      obtain ⟨a1, e1, a2, e2, e⟩ := e
      cases e
      obtain ⟨rfl, a, us, G1, rfl, h1, rs1, s1⟩ := kids_lst e1 r1
      obtain ⟨rfl, b, ws, G2, rfl, h2, rs2, s2⟩ := kids_lst e2 r2
      refine op_cat pins s σ H _ _ v u Q I rx ry ⟨a, b, us, ws, rfl, rfl, h1, h2, ?_, fun l hlf => k _ _ _ _ (.alloc c hlf (G := G1 ++ G2) (by rw [owned2]; exact s1.append s2) (.lst_mk upd_same ?_))⟩
      · rw [rs1.len, rs2.len]; exact lim_line hl
      · refine (rs1.append rs2).stays (Wd.Le.refl w) (c.stays hlf fun z hz => ?_)
        rcases List.mem_append.mp hz with hz | hz
        · exact rs1.live z hz
        · exact rs2.live z hz
    · cases e
  · split at e
    · rename_i hl
      simp only [Option.bind_eq_some_iff] at e
      obtain ⟨a1, e1, a2, e2, e⟩ := e
      cases e
      obtain ⟨rfl, a, us, rfl, z1, h1, rs1, s1⟩ := kids_tup e1 r1
      obtain ⟨rfl, b, ws, rfl, z2, h2, rs2, s2⟩ := kids_tup e2 r2
      have rs := rs1.append rs2
      have so : (F ++ G).Sublist (owned [p, q] [F, G]) := by rw [owned2]; exact s1.append s2
      refine op_catA pins s σ H _ _ v u Q I rx ry ⟨a, b, us, ws, rfl, rfl, SqT.of h1, SqT.of h2, by rw [rs1.len, rs2.len]; exact lim_line hl, fun e0 => ?_, fun _ e0 => ?_, fun _ _ l hlf => ?_⟩
      · subst e0
        exact k _ _ _ _ (.same c (.tup_mk z2 h2 (by simpa using rs)) so)
      · subst e0
        exact k _ _ _ _ (.same c (.tup_mk z1 h1 (by simpa using rs)) so)
      · refine k _ _ _ _ (.allocT c hlf so (.tup_mk (.inr rfl) upd_same (rs.stays (Wd.Le.wz fun _ h => .inl h) (c.stays hlf fun z hz => ?_))))
        exact rs.live z hz
    · cases e
  · cases e
theorem or_int {p q : Bool} {o : Bop} {f : Value → Value → Sem Value} {C : Int → Int → Prop} {g : Int → Int → Int} (ho : OpR X f (rI C fun i j => .int (g i j)))
    (hb : ∀ d1 d2 d, binD p q o d1 d2 = some d → ∃ i j, d1 = .int i ∧ d2 = .int j ∧ C i j ∧ d = .int (g i j)) :
    OpR X f (fun x y H Q => rV cl X.K CA (.bin o) [p, q] false [x, y] H Q) := by
  intro pins s σ H x y v u Q I rx ry h
  obtain ⟨w, ds, Gs, d, hw, c, e, k⟩ := h
  obtain ⟨d1, d2, F, G, rfl, rfl, r1, r2⟩ := c.rep.two
  obtain ⟨i, j, rfl, rfl, hc, rfl⟩ := hb d1 d2 d e
  obtain ⟨rfl, rfl⟩ := r1.int_inv
  obtain ⟨rfl, rfl⟩ := r2.int_inv
  exact ho pins s σ H _ _ v u Q I rx ry ⟨_, _, rfl, rfl, hc, k _ _ _ _ (.imm c .int_mk)⟩
theorem op_sub' : OpR X (binaryOp .Sub) (rI (fun _ _ => True) fun i j => .int (i - j)) := by
  intro pins s σ H x y v u Q I rx ry h
  obtain ⟨i, j, e1, e2, _, q⟩ := h
  exact op_sub pins s σ H x y v u Q I rx ry ⟨i, j, e1, e2, q⟩
theorem or_sub {p q : Bool} : OpR X (binaryOp .Sub) (fun x y H Q => rV cl X.K CA (.bin .sub) [p, q] false [x, y] H Q) := by
  refine or_int op_sub' fun d1 d2 d e => ?_
  unfold binD at e
  split at e <;> first | (cases ‹Bop.sub = _›; done) | skip
  · cases e; exact ⟨_, _, rfl, rfl, trivial, rfl⟩
  · cases e
theorem or_mod {p q : Bool} : OpR X (binaryOp .Mod) (fun x y H Q => rV cl X.K CA (.bin .mod) [p, q] false [x, y] H Q) := by
  refine or_int op_mod fun d1 d2 d e => ?_
  unfold binD at e
  split at e <;> first | (cases ‹Bop.mod = _›; done) | skip
  · split at e
    · cases e; exact ⟨_, _, rfl, rfl, by assumption, rfl⟩
    · cases e
  · cases e
theorem or_fdiv {p q : Bool} : OpR X (binaryOp .FloorDiv) (fun x y H Q => rV cl X.K CA (.bin .fdiv) [p, q] false [x, y] H Q) := by
  refine or_int op_fdivW fun d1 d2 d e => ?_
  unfold binD at e
  split at e <;> first | (cases ‹Bop.fdiv = _›; done) | skip
  · split at e
    · rename_i hj
      cases e
      refine ⟨_, _, rfl, rfl, wide_div (b := 9000) hj.1 ?_ (by decide) (Nat.le_refl _), rfl⟩
      have := hj.2
      omega
    · cases e
  · cases e
theorem or_pow {p q : Bool} : OpR X (binaryOp .Pow) (fun x y H Q => rV cl X.K CA (.bin .pow) [p, q] false [x, y] H Q) := by
  refine or_int op_pow fun d1 d2 d e => ?_
  unfold binD at e
  split at e <;> first | (cases ‹Bop.pow = _›; done) | skip
  · split at e
    · rename_i hj
      cases e
      exact ⟨_, _, rfl, rfl, hj, rfl⟩
    · cases e
  · cases e
theorem Reps.flat {w : Wd} {H : Hp} {xs : List D} {us : List V} (h : Reps w H xs us []) : ∀ n : Nat, Reps w H (List.replicate n xs).flatten (List.replicate n us).flatten []
  | 0 => .nil
  | n + 1 => by
    rw [List.replicate_succ, List.replicate_succ, List.flatten_cons, List.flatten_cons]
    exact h.append (Reps.flat h n)
theorem mulOk_CMul {i j : Int} (h : mulOk i j = true) : IntMulOk i j := by
  unfold mulOk at h
  simp only [Bool.or_eq_true, decide_eq_true_eq, Bool.and_eq_true] at h
  rcases h with (h | h) | h
  · exact CMul.ok (.inl (by omega))
  · exact CMul.ok (.inr (by omega))
  · exact CMulW.ok (wide_mul (a := 5000) (b := 5000) h.1 h.2 (by decide) (by decide) (by decide))
theorem op_mulOk : OpR X (binaryOp .Mult) (rI (fun i j => IntMulOk i j) fun i j => .int (i * j)) := opI fun _ _ _ _ _ _ _ hc q => PyProof.Rows.mul_int q hc
theorem or_mul {p q : Bool} : OpR X (binaryOp .Mult) (fun x y H Q => rV cl X.K CA (.bin .mul) [p, q] false [x, y] H Q) := by
  intro pins s σ H x y v u Q I rx ry h
  obtain ⟨w, ds, Gs, d, hw, c, e, k⟩ := h
  obtain ⟨d1, d2, F, G, rfl, rfl, r1, r2⟩ := c.rep.two
  have e : binD p q .mul d1 d2 = some d := e
  unfold binD at e
  split at e <;> first | (cases ‹Bop.mul = _›; done) | skip
  · obtain ⟨rfl, rfl⟩ := r1.int_inv
    obtain ⟨rfl, rfl⟩ := r2.int_inv
    split at e
    · rename_i hm
      cases e
      exact op_mulOk pins s σ H _ _ v u Q I rx ry ⟨_, _, rfl, rfl, mulOk_CMul hm, k _ _ _ _ (.imm c .int_mk)⟩
    · cases e
  · obtain ⟨rfl, rfl⟩ := r2.int_inv
    split at e
    · rename_i hl
      simp only [Option.bind_eq_some_iff] at e
      obtain ⟨a1, e1, e⟩ := e
      cases e
      obtain ⟨rfl, a, us, G1, rfl, h1, rs1, s1⟩ := kids_lst e1 r1
      have so : G1.Sublist (owned [p, q] [F, []]) := by rw [owned2]; exact s1.trans (List.sublist_append_left _ _)
      refine op_rep pins s σ H _ _ v u Q I rx ry ⟨a, _, us, rfl, rfl, h1, by omega, by omega, by rw [rs1.len]; exact lim_line hl.1, fun l hlf => ?_⟩
      have ne : ∀ z, H z ≠ none → z ≠ l := fun z h e => h (e ▸ hlf)
      have gl : ∀ z ∈ G1, H z ≠ none := rs1.live
      have rz : Reps (w.wz fun z => w.Fz z ∨ z ∈ G1) H (fzs _) us [] := rs1.fz (fun _ h => .inl h) fun z hz => .inr hz
      refine k (.ref l) _ (fun z => w.Fz z ∨ z ∈ G1) [l] ⟨⟨fun z hz => upd_ne (ne z (hz.elim (c.zl z) fun h => h)), fun _ h => .inl h, fun z hz => ?_, fun z hz => ?_, fun z hz => ?_, by simp, fun z hz => by rw [upd_ne (ne z hz)]; exact hz⟩, .lst_mk upd_same ?_, fun e => by cases e⟩
      · exact hz.elim .inl fun h => .inr (.inl (so.subset h))
      · have : H z ≠ none := hz.elim (c.zl z) (gl z)
        rw [upd_ne (ne z this)]; exact this
      · obtain rfl := List.mem_singleton.mp hz
        exact ⟨.inr hlf, fun q => q.elim (fun q => c.zl _ q hlf) fun q => gl _ q hlf⟩
      · rw [← fzs_eq]
        refine (rz.flat _).stays (Wd.Le.refl _) ⟨fun z hz => (by cases hz), fun z hz => upd_ne (ne z (hz.elim (c.zl z) (gl z))), fun z hz => upd_ne (ne z (c.bl z hz))⟩
    · cases e
  · cases e
theorem or_bin {p q : Bool} : ∀ o : Bop, OpR X (binaryOp (bopOf o)) (fun x y H Q => rV cl X.K CA (.bin o) [p, q] false [x, y] H Q)
  | .add => or_add
  | .sub => or_sub
  | .mul => or_mul
  | .fdiv => or_fdiv
  | .mod => or_mod
  | .pow => or_pow
end Mp
set_option Elab.async false
set_option linter.all false
set_option maxRecDepth 100000
/-! # Mp: comparisons, subscripts, slices by values -/
namespace Mp
open PySem L2

section
variable {w : Wd} {H : Hp}
mutual
theorem Rep.dp : ∀ {d : D} {v : V} {F : List Addr} {p : PyData}, Rep w H d v F → d.py = some p → p.canLay0 = true → Dp w.K H v p
  | .non, _, _, _, h, e, _ => by simp only [D.py, Option.some.injEq] at e; rw [h.non_inv.1, ← e]; exact .non
  | .bl b, _, _, _, h, e, _ => by simp only [D.py, Option.some.injEq] at e; rw [h.bl_inv.1, ← e]; exact .bl b
  | .int i, _, _, _, h, e, _ => by simp only [D.py, Option.some.injEq] at e; rw [h.int_inv.1, ← e]; exact .int i
  | .str x, _, _, _, h, e, _ => by simp only [D.py, Option.some.injEq] at e; rw [h.str_inv.1, ← e]; exact .str x
  | .scr _, _, _, _, _, e, _ => by simp only [D.py] at e; cases e
  | .ins _ _ _ _, _, _, _, _, e, _ => by simp only [D.py] at e; cases e
  | .dic _ _ _, _, _, _, _, e, c => by
    simp only [D.py, Option.map_eq_some_iff] at e
    obtain ⟨ps, _, rfl⟩ := e
    cases c
  | .tup ds, _, _, _, h, e, c => by
    simp only [D.py, Option.map_eq_some_iff] at e
    obtain ⟨ps, e, rfl⟩ := e
    obtain ⟨a, us, rfl, z, ea, rs⟩ := h.tup_inv
    exact .tup (SqT.of ea) (Reps.dp rs e c)
  | .lst f ds, _, _, _, h, e, c => by
    simp only [D.py, Option.map_eq_some_iff] at e
    obtain ⟨ps, e, rfl⟩ := e
    obtain ⟨a, us, G, rfl, ea, t, rs⟩ := h.lst_inv
    exact .lst (SqL.of ea) (Reps.dp rs e c)
theorem Reps.dp : ∀ {ds : List D} {vs : List V} {F : List Addr} {ps : List PyData}, Reps w H ds vs F → pys ds = some ps → PyData.canLayAll0 ps = true → DpAll w.K H vs ps
  | [], _, _, _, h, e, _ => by simp only [pys, Option.some.injEq] at e; rw [h.unnil.1, ← e]; exact .nil
  | d :: ds, _, _, _, h, e, c => by
    obtain ⟨v, vr, F1, F2, rfl, rfl, h1, h2⟩ := h.uncons
    simp only [pys] at e
    split at e
    · rename_i p ps e1 e2
      cases e
      unfold PyData.canLayAll0 at c
      rw [Bool.and_eq_true] at c
      exact .cons (Rep.dp h1 e1 c.1) (Reps.dp h2 e2 c.2)
    · cases e
end
theorem Rep.sc_inv {d : D} {v x : V} {F : List Addr} (h : Rep w H d v F) (e : d.sc = some x) : v = x ∧ F = [] := by
  cases d <;> simp only [D.sc] at e <;> first | cases e | skip
  · exact h.non_inv
  · exact h.bl_inv
  · exact h.int_inv
  · exact h.str_inv
theorem sc_flat {d : D} {x : V} (e : d.sc = some x) : flatV x = true := by
  cases d <;> simp only [D.sc] at e <;> first | (cases e; done) | (cases e; rfl)
theorem Reps.scs_inv : ∀ {ds : List D} {us xs : List V} {F : List Addr}, Reps w H ds us F → scs ds = some xs → us = xs ∧ xs.all flatV = true
  | [], _, _, _, h, e => by simp only [scs, Option.some.injEq] at e; rw [h.unnil.1, ← e]; exact ⟨rfl, rfl⟩
  | d :: ds, _, _, _, h, e => by
    obtain ⟨v, vr, F1, F2, rfl, rfl, h1, h2⟩ := h.uncons
    simp only [scs] at e
    split at e
    · rename_i x xs e1 e2
      cases e
      obtain ⟨rfl, _⟩ := h1.sc_inv e1
      obtain ⟨rfl, a⟩ := Reps.scs_inv h2 e2
      exact ⟨rfl, by rw [List.all_cons, sc_flat e1, a]; rfl⟩
    · cases e
theorem Rep.non_iff {d : D} {v : V} {F : List Addr} (h : Rep w H d v F) : decide (v = .non) = isNon d := by
  cases d with
  | non => rw [h.non_inv.1]; rfl
  | bl b => rw [h.bl_inv.1]; rfl
  | int b => rw [h.int_inv.1]; rfl
  | str b => rw [h.str_inv.1]; rfl
  | tup ds => obtain ⟨a, us, rfl, _⟩ := h.tup_inv; rfl
  | lst f ds => obtain ⟨a, us, G, rfl, _⟩ := h.lst_inv; rfl
  | dic f ks ds => obtain ⟨a, us, G, rfl, _⟩ := h.dic_inv; rfl
  | ins f c ns ds => obtain ⟨a, dx, us, G, rfl, _⟩ := h.ins_inv; rfl
  | scr ns => obtain ⟨_, a, rfl, _⟩ := h.scr_inv; rfl
/-- a key -/
theorem Rep.key {d : D} {v : V} {F : List Addr} {k : Key} (h : Rep w H d v F) (e : d.key? = some k) : v = kV k ∧ F = [] := by
  cases d <;> simp only [D.key?] at e <;> first | (cases e; done) | skip
  · cases e; exact h.int_inv
  · cases e; exact h.str_inv
theorem Rep.dic_rd {f : Fl} {ks : List Key} {ds : List D} {v : V} {F : List Addr} (h : Rep w H (.dic f ks ds) v F) : ∃ a us G, v = .ref a ∧ (ks.length = ds.length ∧ ks.Nodup) ∧ Rd H a (.dK (ks.zip us)) ∧ At w f a G F ∧ Reps w H ds us G := by
  obtain ⟨a, us, G, rfl, n, e, t, rs⟩ := h.dic_inv
  refine ⟨a, us, G, rfl, n, ?_, t, rs⟩
  split at e
  · exact .inl e
  · exact e
theorem valV_any' (k : Key) : ∀ (ks : List Key) (us : List V), us.length = ks.length → (valV (ks.zip us) k).isSome = ks.any fun j => decide (j = k)
  | [], _, _ => by simp [valV]
  | j :: ks, [], h => by simp at h
  | j :: ks, u :: us, h => by
    rw [List.zip_cons_cons, List.any_cons]
    by_cases e : j = k
    · rw [valV_pos (p := (j, u)) e]; simp [e]
    · rw [valV_neg (p := (j, u)) e, decide_eq_false e, Bool.false_or]
      exact valV_any' k ks us (by simpa using h)
/-- what stands under a key -/
theorem Reps.look {k : Key} : ∀ {ks : List Key} {ds : List D} {us : List V} {F : List Addr} {d : D}, Reps w H ds us F → lookD ks ds k = some d →
    ∃ v G, valV (ks.zip us) k = some v ∧ Rep w H d v G ∧ G.Sublist F
  | [], _, _, _, _, _, e => by simp only [lookD] at e; cases e
  | j :: ks, [], _, _, _, _, e => by simp only [lookD] at e; cases e
  | j :: ks, d' :: ds, _, _, d, h, e => by
    obtain ⟨v, vr, F1, F2, rfl, rfl, h1, h2⟩ := h.uncons
    simp only [lookD] at e
    by_cases q : j = k
    · rw [if_pos q] at e
      cases e
      exact ⟨v, F1, by rw [List.zip_cons_cons, valV_pos (p := (j, v)) q], h1, List.sublist_append_left _ _⟩
    · rw [if_neg q] at e
      obtain ⟨v', G, a, b, c⟩ := Reps.look h2 e
      exact ⟨v', G, by rw [List.zip_cons_cons, valV_neg (p := (j, v)) q]; exact a, b, c.trans (List.sublist_append_right _ _)⟩
/-- what stands at a place -/
theorem Reps.nth : ∀ {ds : List D} {us : List V} {F : List Addr} {i : Nat} {d : D}, Reps w H ds us F → ds[i]? = some d → ∃ v G, us[i]? = some v ∧ Rep w H d v G ∧ G.Sublist F
  | [], _, _, _, _, _, e => by simp at e
  | d' :: ds, _, _, 0, d, h, e => by
    obtain ⟨v, vr, F1, F2, rfl, rfl, h1, h2⟩ := h.uncons
    simp at e; subst e
    exact ⟨v, F1, rfl, h1, List.sublist_append_left _ _⟩
  | d' :: ds, _, _, i + 1, d, h, e => by
    obtain ⟨v, vr, F1, F2, rfl, rfl, h1, h2⟩ := h.uncons
    obtain ⟨v', G, a, b, c⟩ := Reps.nth (i := i) h2 (by simpa using e)
    exact ⟨v', G, by simpa using a, b, c.trans (List.sublist_append_right _ _)⟩
theorem Reps.atI {ds : List D} {us : List V} {F : List Addr} {i : Int} {d : D} (h : Reps w H ds us F) (e : atI ds i = some d) : ∃ v G, L2.atI us i = some v ∧ Rep w H d v G ∧ G.Sublist F := by
  unfold L2.atI at e ⊢
  rw [h.len]
  obtain ⟨j, e1, e2⟩ := Option.bind_eq_some_iff.mp e
  obtain ⟨v, G, a, b, c⟩ := h.nth e2
  exact ⟨v, G, by rw [e1]; exact a, b, c⟩
theorem At.kids {f : Fl} {a : Addr} {G F : List Addr} (t : At w f a G F) : G.Sublist F := by
  cases f with
  | own => rw [show F = a :: G from t]; exact List.sublist_cons_self _ _
  | frz => rw [t.2.1]; exact List.nil_sublist _
  | bor => rw [t.2.1]; exact List.nil_sublist _
end

def copOf : Cop → CmpOp
  | .eq => .Eq | .ne => .NotEq | .lt => .Lt | .le => .LtE | .gt => .Gt | .ge => .GtE | .is => .Is | .isnot => .IsNot | .inn => .In | .notin => .NotIn

variable {cl : Call} {K : PySem.W.Frag} {CA : Nat → Option Addr} {X : Cx}

/-- a comparison that no own method is asked of -/
def rC (K : PySem.W.Frag) (CA : Nat → Option Addr) (o : Cop) (pls : List Bool) (vs : List V) (H : Hp) (Q : VK) : Prop :=
  ∃ w ds Gs b, w.In K CA ∧ VCtx w H ds vs pls Gs ∧ (∃ d e, ds = [d, e] ∧ cmpD o d e = some b) ∧ Q (.bl b) H
theorem or_eqP {pls : List Bool} (hu : X.A.units + 65 < cLine) {w : Wd} {H : Hp} {d e : D} {x y : V} {F G : List Addr} {b : Bool} (hk : w.K = X.K) (r1 : Rep w H d x F) (r2 : Rep w H e y G) (h : eqD d e = some b)
    {pins : List (Addr × Obj)} {s : Shared} {σ : St} {v u : Value} {Q : VK} (I : Inv X pins σ H s) (rx : RelV x v) (ry : RelV y u) (q : Q (.bl b) H) : wpAny (model X.prog X.w) X.A (compareOp .Eq v u) (EP X pins σ Q) X.xe s := by
  have hP : eqP d e = some b → wpAny (model X.prog X.w) X.A (compareOp .Eq v u) (EP X pins σ Q) X.xe s := fun h => by
    unfold eqP at h
    split at h
    · rename_i p p' e1 e2
      split at h
      · rename_i hs
        cases h
        rw [Bool.and_eq_true] at hs
        have a1 := r1.dp e1 (SeqAt.canLay_of_shaped hs.1)
        have a2 := r2.dp e2 (SeqAt.canLay_of_shaped hs.2)
        rw [hk] at a1 a2
        exact op_eqD (by omega) pins s σ H x y v u Q I rx ry ⟨p, p', a1, a2, hs.1, hs.2, q⟩
      · cases h
    · cases h
  unfold eqD at h
  split at h
  · rename_i a c e1 e2
    obtain ⟨rfl, _⟩ := r1.sc_inv e1
    obtain ⟨rfl, _⟩ := r2.sc_inv e2
    split at h
    · rename_i hs
      cases h
      exact op_eq pins s σ H _ _ v u Q I rx ry ⟨hs, q⟩
    · exact hP h
  · exact hP h
theorem or_neP {pls : List Bool} (hu : X.A.units + 65 < cLine) {w : Wd} {H : Hp} {d e : D} {x y : V} {F G : List Addr} {b : Bool} (hk : w.K = X.K) (r1 : Rep w H d x F) (r2 : Rep w H e y G) (h : eqD d e = some b)
    {pins : List (Addr × Obj)} {s : Shared} {σ : St} {v u : Value} {Q : VK} (I : Inv X pins σ H s) (rx : RelV x v) (ry : RelV y u) (q : Q (.bl (!b)) H) : wpAny (model X.prog X.w) X.A (compareOp .NotEq v u) (EP X pins σ Q) X.xe s := by
  have hP : eqP d e = some b → wpAny (model X.prog X.w) X.A (compareOp .NotEq v u) (EP X pins σ Q) X.xe s := fun h => by
    unfold eqP at h
    split at h
    · rename_i p p' e1 e2
      split at h
      · rename_i hs
        cases h
        rw [Bool.and_eq_true] at hs
        have a1 := r1.dp e1 (SeqAt.canLay_of_shaped hs.1)
        have a2 := r2.dp e2 (SeqAt.canLay_of_shaped hs.2)
        rw [hk] at a1 a2
        exact op_neD (by omega) pins s σ H x y v u Q I rx ry ⟨p, p', a1, a2, hs.1, hs.2, q⟩
      · cases h
    · cases h
  unfold eqD at h
  split at h
  · rename_i a c e1 e2
    obtain ⟨rfl, _⟩ := r1.sc_inv e1
    obtain ⟨rfl, _⟩ := r2.sc_inv e2
    split at h
    · rename_i hs
      cases h
      exact op_ne pins s σ H _ _ v u Q I rx ry ⟨hs, q⟩
    · exact hP h
  · exact hP h
theorem str_one {y : Str} (h : y.length = 1) : y = ⟨#[y.cps.getD 0 0]⟩ := by
  obtain ⟨c⟩ := y
  have h : c.size = 1 := h
  have : c = #[c.getD 0 0] := by
    apply Array.ext
    · simpa using h
    · intro i h1 h2
      have : i = 0 := by omega
      subst this
      simp [Array.getD, h]
  exact congrArg Str.mk this
/-- in, not in -/
theorem or_in (hu : X.A.units + 65 < cLine) {w : Wd} {H : Hp} {d e : D} {x y : V} {F G : List Addr} {b : Bool} (hk : w.K = X.K) (r1 : Rep w H d x F) (r2 : Rep w H e y G) (h : inD d e = some b)
    {pins : List (Addr × Obj)} {s : Shared} {σ : St} {v u : Value} {Q : VK} (I : Inv X pins σ H s) (rx : RelV x v) (ry : RelV y u) :
    (Q (.bl b) H → wpAny (model X.prog X.w) X.A (compareOp .In v u) (EP X pins σ Q) X.xe s) ∧ (Q (.bl (!b)) H → wpAny (model X.prog X.w) X.A (compareOp .NotIn v u) (EP X pins σ Q) X.xe s) := by
  cases e with
  | str z =>
    obtain ⟨rfl, rfl⟩ := r2.str_inv
    unfold inD at h
    cases d <;> simp only [] at h <;> first | (cases h; done) | skip
    rename_i y
    obtain ⟨rfl, rfl⟩ := r1.str_inv
    split at h
    · rename_i hl
      cases h
      rw [str_one hl] at rx
      refine ⟨fun q => op_in_sign pins s σ H _ _ v u Q I rx ry ⟨_, z, rfl, rfl, q⟩, fun q => op_notIn_sign pins s σ H _ _ v u Q I rx ry ⟨_, z, rfl, rfl, q⟩⟩
    · cases h
      exact ⟨fun q => op_in_str pins s σ H _ _ v u Q I rx ry ⟨_, _, rfl, rfl, q⟩, fun q => op_notin_str pins s σ H _ _ v u Q I rx ry ⟨_, _, rfl, rfl, q⟩⟩
  | dic f ks ds =>
    unfold inD at h
    obtain ⟨k, e1, e2⟩ := Option.map_eq_some_iff.mp h
    obtain ⟨rfl, _⟩ := r1.key e1
    obtain ⟨a, us, G', rfl, n, er, t, rs⟩ := r2.dic_rd
    cases ry
    have g : DGet H a (kV k) (valV (ks.zip us) k) := .inl ⟨_, _, er, rfl, rfl⟩
    have eb : (valV (ks.zip us) k).isSome = b := by rw [valV_any' k ks us (by rw [rs.len, n.1]), e2]
    refine ⟨fun q => d_in (by omega) I g rx fun s' I' => ⟨.bl _, H, I', rfl, ?_⟩, fun q => d_notIn (by omega) I g rx fun s' I' => ⟨.bl _, H, I', rfl, ?_⟩⟩
    · rw [eb]; exact q
    · rw [eb]; exact q
  | lst f ds =>
    obtain ⟨a, us, G', rfl, ea, t, rs⟩ := r2.lst_inv
    have hP : inP d ds = some b → (Q (.bl b) H → wpAny (model X.prog X.w) X.A (compareOp .In v u) (EP X pins σ Q) X.xe s) ∧ (Q (.bl (!b)) H → wpAny (model X.prog X.w) X.A (compareOp .NotIn v u) (EP X pins σ Q) X.xe s) := fun h => by
      unfold inP at h
      split at h
      · rename_i p qs e1 e2
        split at h
        · rename_i hs
          cases h
          rw [Bool.and_eq_true] at hs
          have a1 := r1.dp e1 (SeqAt.canLay_of_shaped hs.1)
          have a2 := rs.dp e2 (SeqAt.canLay_of_shaped hs.2)
          rw [hk] at a1 a2
          have a3 : Dp X.K H (.ref a) (.list qs) := .lst (SqL.of ea) a2
          exact ⟨fun q => op_inD hu pins s σ H _ _ v u Q I rx ry ⟨p, qs, a1, a3, hs.1, hs.2, q⟩, fun q => op_notInD hu pins s σ H _ _ v u Q I rx ry ⟨p, qs, a1, a3, hs.1, hs.2, q⟩⟩
        · cases h
      · cases h
    unfold inD inL at h
    dsimp only at h
    split at h
    · rename_i a' c e1 e2
      obtain ⟨rfl, _⟩ := r1.sc_inv e1
      obtain ⟨rfl, hf⟩ := rs.scs_inv e2
      cases h
      exact ⟨fun q => op_in_seq pins s σ H _ _ v u Q I rx ry ⟨a, _, rfl, .inl (SqL.of ea), sc_flat e1, hf, q⟩, fun q => op_notIn_seq pins s σ H _ _ v u Q I rx ry ⟨a, _, rfl, .inl (SqL.of ea), sc_flat e1, hf, q⟩⟩
    · exact hP h
  | tup ds =>
    obtain ⟨a, us, rfl, z, ea, rs⟩ := r2.tup_inv
    unfold inD at h
    dsimp only at h
    split at h
    · rename_i a' c e1 e2
      obtain ⟨rfl, _⟩ := r1.sc_inv e1
      obtain ⟨rfl, hf⟩ := rs.scs_inv e2
      cases h
      exact ⟨fun q => op_in_seq pins s σ H _ _ v u Q I rx ry ⟨a, _, rfl, .inr (SqT.of ea), sc_flat e1, hf, q⟩, fun q => op_notIn_seq pins s σ H _ _ v u Q I rx ry ⟨a, _, rfl, .inr (SqT.of ea), sc_flat e1, hf, q⟩⟩
    · cases h
  | non => unfold inD at h; cases h
  | bl _ => unfold inD at h; cases h
  | int _ => unfold inD at h; cases h
  | scr _ => unfold inD at h; cases h
  | ins _ _ _ _ => unfold inD at h; cases h
theorem or_cmp {pls : List Bool} (hu : X.A.units + 65 < cLine) (o : Cop) : OpR X (compareOp (copOf o)) (fun x y H Q => rC X.K CA o pls [x, y] H Q) := by
  intro pins s σ H x y v u Q I rx ry h
  obtain ⟨w, ds, Gs, b, hw, c, ⟨d, e, rfl, hc⟩, q⟩ := h
  obtain ⟨d', e', F, G, e0, rfl, r1, r2⟩ := c.rep.two
  cases e0
  cases o with
  | eq => exact or_eqP (pls := pls) hu hw.k r1 r2 hc I rx ry q
  | ne =>
    simp only [cmpD, Option.map_eq_some_iff] at hc
    obtain ⟨k, hc, rfl⟩ := hc
    exact or_neP (pls := pls) hu hw.k r1 r2 hc I rx ry q
  | inn => exact (or_in hu hw.k r1 r2 hc I rx ry).1 q
  | notin =>
    simp only [cmpD, Option.map_eq_some_iff] at hc
    obtain ⟨k, hc, rfl⟩ := hc
    exact (or_in hu hw.k r1 r2 hc I rx ry).2 q
  | is =>
    cases e <;> simp only [cmpD] at hc <;> first | (cases hc; done) | skip
    cases hc
    obtain ⟨rfl, _⟩ := r2.non_inv
    exact op_isN pins s σ H _ _ v u Q I rx ry ⟨rfl, by rw [r1.non_iff]; exact q⟩
  | isnot =>
    cases e <;> simp only [cmpD] at hc <;> first | (cases hc; done) | skip
    cases hc
    obtain ⟨rfl, _⟩ := r2.non_inv
    exact op_notN pins s σ H _ _ v u Q I rx ry ⟨rfl, by rw [r1.non_iff]; exact q⟩
  | lt =>
    unfold cmpD at hc
    split at hc <;> first | (cases ‹Cop.lt = _›; done) | skip
    · cases hc
      obtain ⟨rfl, _⟩ := r1.int_inv
      obtain ⟨rfl, _⟩ := r2.int_inv
      exact op_lt pins s σ H _ _ v u Q I rx ry ⟨_, _, rfl, rfl, q⟩
    · cases hc
      obtain ⟨rfl, _⟩ := r1.str_inv
      obtain ⟨rfl, _⟩ := r2.str_inv
      exact op_lt_str pins s σ H _ _ v u Q I rx ry ⟨_, _, rfl, rfl, q⟩
    · cases hc
  | le =>
    unfold cmpD at hc
    split at hc <;> first | (cases ‹Cop.le = _›; done) | skip
    · cases hc
      obtain ⟨rfl, _⟩ := r1.int_inv
      obtain ⟨rfl, _⟩ := r2.int_inv
      exact op_le pins s σ H _ _ v u Q I rx ry ⟨_, _, rfl, rfl, q⟩
    · cases hc
  | gt =>
    unfold cmpD at hc
    split at hc <;> first | (cases ‹Cop.gt = _›; done) | skip
    · cases hc
      obtain ⟨rfl, _⟩ := r1.int_inv
      obtain ⟨rfl, _⟩ := r2.int_inv
      exact op_gt pins s σ H _ _ v u Q I rx ry ⟨_, _, rfl, rfl, q⟩
    · cases hc
  | ge =>
    unfold cmpD at hc
    split at hc <;> first | (cases ‹Cop.ge = _›; done) | skip
    · cases hc
      obtain ⟨rfl, _⟩ := r1.int_inv
      obtain ⟨rfl, _⟩ := r2.int_inv
      exact op_ge pins s σ H _ _ v u Q I rx ry ⟨_, _, rfl, rfl, q⟩
    · cases hc

/-! ### subscripts: the part of its operand -/
/-- the post of a part -/
theorem VPost.part {w : Wd} {H : Hp} {ds : List D} {vs : List V} {p : Bool} {ps : List Bool} {G0 : List Addr} {Gs : List (List Addr)} (c : VCtx w H ds vs (p :: ps) (G0 :: Gs)) {d : D} {v : V} {G : List Addr} (r : Rep w H d v G) (h : G.Sublist G0) :
    VPost w H (p :: ps) (G0 :: Gs) p d v H w.Fz G := by
  cases p with
  | true => exact ⟨⟨fun _ _ => rfl, fun _ h => h, fun _ h => .inl h, c.zl, fun a q => (by cases q), List.nodup_nil, fun _ h => h⟩, r, fun _ a q => h.subset q⟩
  | false =>
    refine .same c r (h.trans ?_)
    show G0.Sublist (([] : List Addr) ++ G0 ++ owned ps Gs)
    simp
end Mp
set_option Elab.async false
set_option linter.all false
set_option maxRecDepth 100000
/-! # Mp: built-in functions by values -/
namespace Mp
open PySem L2
variable {cl : Call} {CA : Nat → Option Addr} {X : Cx}

section
variable {w : Wd} {H : Hp}
theorem intsD_inv : ∀ {ds : List D} {us : List V} {F : List Addr} {l : List Int}, Reps w H ds us F → intsD ds = some l → us = l.map V.int
  | [], _, _, _, h, e => by simp only [intsD, Option.some.injEq] at e; rw [h.unnil.1, ← e]; rfl
  | d :: ds, _, _, _, h, e => by
    obtain ⟨v, vr, F1, F2, rfl, rfl, h1, h2⟩ := h.uncons
    cases d <;> simp only [intsD] at e <;> first | (cases e; done) | skip
    obtain ⟨l, e1, rfl⟩ := Option.map_eq_some_iff.mp e
    rw [h1.int_inv.1, intsD_inv h2 e1]; rfl
theorem blsD_inv : ∀ {ds : List D} {us : List V} {F : List Addr} {l : List Bool}, Reps w H ds us F → blsD ds = some l → us = l.map V.bl
  | [], _, _, _, h, e => by simp only [blsD, Option.some.injEq] at e; rw [h.unnil.1, ← e]; rfl
  | d :: ds, _, _, _, h, e => by
    obtain ⟨v, vr, F1, F2, rfl, rfl, h1, h2⟩ := h.uncons
    cases d <;> simp only [blsD] at e <;> first | (cases e; done) | skip
    obtain ⟨l, e1, rfl⟩ := Option.map_eq_some_iff.mp e
    rw [h1.bl_inv.1, blsD_inv h2 e1]; rfl
theorem strsD_inv : ∀ {ds : List D} {us : List V} {F : List Addr} {l : List Str}, Reps w H ds us F → strsD ds = some l → us = l.map V.str
  | [], _, _, _, h, e => by simp only [strsD, Option.some.injEq] at e; rw [h.unnil.1, ← e]; rfl
  | d :: ds, _, _, _, h, e => by
    obtain ⟨v, vr, F1, F2, rfl, rfl, h1, h2⟩ := h.uncons
    cases d <;> simp only [strsD] at e <;> first | (cases e; done) | skip
    obtain ⟨l, e1, rfl⟩ := Option.map_eq_some_iff.mp e
    rw [h1.str_inv.1, strsD_inv h2 e1]; rfl
theorem Reps.ints : ∀ l : List Int, Reps w H (l.map D.int) (l.map V.int) []
  | [] => .nil
  | i :: l => .cons (F := []) (G := []) .int_mk (Reps.ints l)
theorem Reps.strs : ∀ l : List Str, Reps w H (l.map D.str) (l.map V.str) []
  | [] => .nil
  | i :: l => .cons (F := []) (G := []) .str_mk (Reps.strs l)
theorem kD_rep (k : Key) : Rep w H (kD k) (kV k) [] := by
  cases k with
  | inl i => exact .int_mk
  | inr x => exact .str_mk
theorem Reps.keys : ∀ l : List Key, Reps w H (l.map kD) (l.map kV) []
  | [] => .nil
  | k :: l => .cons (F := []) (G := []) (kD_rep k) (Reps.keys l)
/-- pairs -/
theorem pairsD_inv : ∀ {ds : List D} {us : List V} {F : List Addr} {l : List (Key × D)}, Reps w H ds us F → pairsD ds = some l →
    ∃ (ps : List Addr) (ws : List V), us = ps.map V.ref ∧ Paired (fun p (kv : Key × V) => H p = some (.tup [kV kv.1, kv.2])) ps ((l.map (·.1)).zip ws) ∧ Reps w H (l.map (·.2)) ws F
  | [], _, _, _, h, e => by
    simp only [pairsD, Option.some.injEq] at e
    obtain ⟨rfl, rfl⟩ := h.unnil
    rw [← e]
    exact ⟨[], [], rfl, .nil, .nil⟩
  | d :: ds, _, _, _, h, e => by
    obtain ⟨v, vr, F1, F2, rfl, rfl, h1, h2⟩ := h.uncons
    unfold pairsD at e
    split at e <;> first | (cases e; done) | skip
    · cases ‹_ :: _ = []›
    · rename_i k' d' r' hd
      cases hd
      split at e
      · rename_i k r e1 e2
        cases e
        obtain ⟨a, us, rfl, z, ea, rs⟩ := h1.tup_inv
        obtain ⟨v1, vr1, G1, G2, rfl, rfl, k1, k2⟩ := rs.uncons
        obtain ⟨v2, vr2, G3, G4, rfl, rfl, k3, k4⟩ := k2.uncons
        obtain ⟨rfl, rfl⟩ := k4.unnil
        obtain ⟨rfl, rfl⟩ := k1.key e1
        obtain ⟨ps, ws, rfl, p, q⟩ := pairsD_inv h2 e2
        refine ⟨a :: ps, v2 :: ws, rfl, .cons ea p, ?_⟩
        have := Reps.cons k3 q
        simpa using this
      · cases e
end
theorem minL_spec : ∀ (l : List Int) (i : Int), (l.foldl min i = i ∨ l.foldl min i ∈ l) ∧ l.foldl min i ≤ i ∧ ∀ y ∈ l, l.foldl min i ≤ y
  | [], i => ⟨.inl rfl, Int.le_refl _, by simp⟩
  | j :: l, i => by
    obtain ⟨a, b, c⟩ := minL_spec l (min i j)
    simp only [List.foldl_cons]
    refine ⟨?_, by omega, fun y q => ?_⟩
    · rcases a with a | a
      · rw [a]
        by_cases h : i ≤ j
        · left; omega
        · right; rw [show min i j = j by omega]; exact List.mem_cons_self
      · exact .inr (List.mem_cons_of_mem _ a)
    · rcases List.mem_cons.mp q with rfl | q
      · omega
      · exact c y q
theorem maxL_spec : ∀ (l : List Int) (i : Int), (l.foldl max i = i ∨ l.foldl max i ∈ l) ∧ i ≤ l.foldl max i ∧ ∀ y ∈ l, y ≤ l.foldl max i
  | [], i => ⟨.inl rfl, Int.le_refl _, by simp⟩
  | j :: l, i => by
    obtain ⟨a, b, c⟩ := maxL_spec l (max i j)
    simp only [List.foldl_cons]
    refine ⟨?_, by omega, fun y q => ?_⟩
    · rcases a with a | a
      · rw [a]
        by_cases h : j ≤ i
        · left; omega
        · right; rw [show max i j = j by omega]; exact List.mem_cons_self
      · exact .inr (List.mem_cons_of_mem _ a)
    · rcases List.mem_cons.mp q with rfl | q
      · omega
      · exact c y q

/-- a built-in function by values: what is asked of it -/
def rB (K : PySem.W.Frag) (CA : Nat → Option Addr) (f : List D → Option D) (pls : List Bool) (vs : List V) (H : Hp) (Q : VK) : Prop :=
  ∃ w ds Gs d, w.In K CA ∧ VCtx w H ds vs pls Gs ∧ f ds = some d ∧ ∀ v H' Z G, VPost w H pls Gs false d v H' Z G → Q v H'

theorem CallR.or {f : Value} {r r' : List V → Hp → VK → Prop} (h : CallR X f r) (h' : CallR X f r') : CallR X f (fun xs H Q => r xs H Q ∨ r' xs H Q) := by
  intro pins s σ H xs us Q I rx q
  rcases q with q | q
  · exact h pins s σ H xs us Q I rx q
  · exact h' pins s σ H xs us Q I rx q
theorem RepL.one' {w : Wd} {H : Hp} {d : D} {vs : List V} {Gs : List (List Addr)} (h : RepL w H [d] vs Gs) : ∃ x F, vs = [x] ∧ Gs = [F] ∧ Rep w H d x F := by
  match vs, Gs, h with
  | [x], [F], h => exact ⟨x, F, rfl, rfl, h.1⟩
  | [], _, h => exact h.elim
  | _ :: _, [], h => exact h.elim
  | _ :: _ :: _, _ :: _, h => exact h.2.elim
  | [_], _ :: _ :: _, h => exact h.2.elim
theorem RepL.two' {w : Wd} {H : Hp} {d e : D} {vs : List V} {Gs : List (List Addr)} (h : RepL w H [d, e] vs Gs) : ∃ x y F G, vs = [x, y] ∧ Gs = [F, G] ∧ Rep w H d x F ∧ Rep w H e y G := by
  match vs, Gs, h with
  | x :: vs, F :: Gs, h =>
    obtain ⟨y, G, rfl, rfl, r⟩ := RepL.one' h.2
    exact ⟨x, y, F, G, rfl, rfl, h.1, r⟩
  | [], _, h => exact h.elim
  | _ :: _, [], h => exact h.elim
theorem RepL.three' {w : Wd} {H : Hp} {d e f : D} {vs : List V} {Gs : List (List Addr)} (h : RepL w H [d, e, f] vs Gs) : ∃ x y z F G J, vs = [x, y, z] ∧ Gs = [F, G, J] ∧ Rep w H d x F ∧ Rep w H e y G ∧ Rep w H f z J := by
  match vs, Gs, h with
  | x :: vs, F :: Gs, h =>
    obtain ⟨y, z, G, J, rfl, rfl, r, r'⟩ := RepL.two' h.2
    exact ⟨x, y, z, F, G, J, rfl, rfl, h.1, r, r'⟩
  | [], _, h => exact h.elim
  | _ :: _, [], h => exact h.elim

theorem cr_len : CallR X (.builtin "len") (fun vs H Q => ∃ pls, rB X.K CA (biD .len pls) pls vs H Q) := by
  intro pins s σ H xs us Q I r h
  obtain ⟨pls, w, ds, Gs, d, hw, c, e, k⟩ := h
  unfold biD at e
  split at e <;> first | (cases ‹Bi.len = _›; done) | skip
  · obtain ⟨x, F, rfl, rfl, r1⟩ := c.rep.one'
    obtain ⟨rfl, rfl⟩ := r1.str_inv
    split at e
    · rename_i hl
      cases e
      exact call_len_str pins s σ H _ us Q I r ⟨_, rfl, lim_line hl, k _ _ _ _ (.imm c .int_mk)⟩
    · cases e
  · obtain ⟨x, F, rfl, rfl, r1⟩ := c.rep.one'
    obtain ⟨a, ws, G, rfl, ea, t, rs⟩ := r1.lst_inv
    cases e
    exact call_len_seq pins s σ H _ us Q I r ⟨a, ws, rfl, .inl (SqL.of ea), k _ _ _ _ (.imm c (by rw [rs.len]; exact .int_mk))⟩
  · obtain ⟨x, F, rfl, rfl, r1⟩ := c.rep.one'
    obtain ⟨a, ws, rfl, z, ea, rs⟩ := r1.tup_inv
    cases e
    exact call_len_seq pins s σ H _ us Q I r ⟨a, ws, rfl, .inr (SqT.of ea), k _ _ _ _ (.imm c (by rw [rs.len]; exact .int_mk))⟩
  · obtain ⟨x, F, rfl, rfl, r1⟩ := c.rep.one'
    obtain ⟨a, ws, G, rfl, n, er, t, rs⟩ := r1.dic_rd
    cases e
    obtain ⟨u, rfl, ru⟩ := vals1 r
    cases ru
    refine d_len I er fun t s' I' => ⟨.int _, H, I', ⟨t, rfl⟩, k _ _ _ _ (.imm c ?_)⟩
    rw [List.length_zip, rs.len, ← n.1, Nat.min_self]
    exact .int_mk
  · obtain ⟨x, F, rfl, rfl, r1⟩ := c.rep.one'
    obtain ⟨_, a, rfl, hs⟩ := r1.scr_inv
    cases e
    rw [hw.k] at hs
    exact call_len_seq pins s σ H _ us Q I r ⟨a, _, rfl, .inl hs, k _ _ _ _ (.imm c (by rw [List.length_map]; exact .int_mk))⟩
  · cases e
theorem cr_abs : CallR X (.builtin "abs") (fun vs H Q => ∃ pls, rB X.K CA (biD .abs pls) pls vs H Q) := by
  intro pins s σ H xs us Q I r h
  obtain ⟨pls, w, ds, Gs, d, hw, c, e, k⟩ := h
  unfold biD at e
  split at e <;> first | (cases ‹Bi.abs = _›; done) | skip
  · obtain ⟨x, F, rfl, rfl, r1⟩ := c.rep.one'
    obtain ⟨rfl, rfl⟩ := r1.int_inv
    cases e
    exact call_abs pins s σ H _ us Q I r ⟨_, rfl, k _ _ _ _ (.imm c .int_mk)⟩
  · cases e
theorem cr_min' (hc : X.calm = true) : CallR X (.builtin "min") (fun vs H Q => ∃ pls, rB X.K CA (biD .min pls) pls vs H Q) := by
  intro pins s σ H xs us Q I r h
  obtain ⟨pls, w, ds, Gs, d, hw, c, e, k⟩ := h
  unfold biD at e
  split at e <;> first | (cases ‹Bi.min = _›; done) | skip
  · obtain ⟨x, y, F, G, rfl, rfl, r1, r2⟩ := c.rep.two'
    obtain ⟨rfl, rfl⟩ := r1.int_inv
    obtain ⟨rfl, rfl⟩ := r2.int_inv
    cases e
    exact call_min2 hc pins s σ H _ us Q I r ⟨_, _, rfl, k _ _ _ _ (.imm c .int_mk)⟩
  · obtain ⟨x, F, rfl, rfl, r1⟩ := c.rep.one'
    obtain ⟨a, ws, G, rfl, ea, t, rs⟩ := r1.lst_inv
    obtain ⟨l, e1, e2⟩ := Option.bind_eq_some_iff.mp e
    obtain ⟨m, e2, rfl⟩ := Option.map_eq_some_iff.mp e2
    have hu := intsD_inv rs e1
    subst hu
    cases l with
    | nil => cases e2
    | cons i l =>
      cases e2
      refine cr_min hc pins s σ H _ us Q I r ⟨a, i :: l, rfl, SqL.of ea, by simp, fun m hm hl => ?_⟩
      obtain ⟨p1, p2, p3⟩ := minL_spec l i
      have e : m = l.foldl min i := by
        have h1 := hl i List.mem_cons_self
        have h2 : m ≤ l.foldl min i := by
          rcases p1 with q | q
          · rw [q]; exact h1
          · exact hl _ (List.mem_cons_of_mem _ q)
        rcases List.mem_cons.mp hm with rfl | q
        · omega
        · have := p3 m q; omega
      subst e
      exact k _ _ _ _ (.imm c .int_mk)
  · cases e
theorem cr_max' (hc : X.calm = true) : CallR X (.builtin "max") (fun vs H Q => ∃ pls, rB X.K CA (biD .max pls) pls vs H Q) := by
  intro pins s σ H xs us Q I r h
  obtain ⟨pls, w, ds, Gs, d, hw, c, e, k⟩ := h
  unfold biD at e
  split at e <;> first | (cases ‹Bi.max = _›; done) | skip
  · obtain ⟨x, y, F, G, rfl, rfl, r1, r2⟩ := c.rep.two'
    obtain ⟨rfl, rfl⟩ := r1.int_inv
    obtain ⟨rfl, rfl⟩ := r2.int_inv
    cases e
    exact call_max2 hc pins s σ H _ us Q I r ⟨_, _, rfl, k _ _ _ _ (.imm c .int_mk)⟩
  · obtain ⟨x, F, rfl, rfl, r1⟩ := c.rep.one'
    obtain ⟨a, ws, G, rfl, ea, t, rs⟩ := r1.lst_inv
    obtain ⟨l, e1, e2⟩ := Option.bind_eq_some_iff.mp e
    obtain ⟨m, e2, rfl⟩ := Option.map_eq_some_iff.mp e2
    have hu := intsD_inv rs e1
    subst hu
    cases l with
    | nil => cases e2
    | cons i l =>
      cases e2
      refine cr_max hc pins s σ H _ us Q I r ⟨a, i :: l, rfl, SqL.of ea, by simp, fun m hm hl => ?_⟩
      obtain ⟨p1, p2, p3⟩ := maxL_spec l i
      have e : m = l.foldl max i := by
        have h1 := hl i List.mem_cons_self
        have h2 : l.foldl max i ≤ m := by
          rcases p1 with q | q
          · rw [q]; exact h1
          · exact hl _ (List.mem_cons_of_mem _ q)
        rcases List.mem_cons.mp hm with rfl | q
        · omega
        · have := p3 m q; omega
      subst e
      exact k _ _ _ _ (.imm c .int_mk)
  · cases e
theorem cr_sum' (hc : X.calm = true) : CallR X (.builtin "sum") (fun vs H Q => ∃ pls, rB X.K CA (biD .sum pls) pls vs H Q) := by
  intro pins s σ H xs us Q I r h
  obtain ⟨pls, w, ds, Gs, d, hw, c, e, k⟩ := h
  unfold biD at e
  split at e <;> first | (cases ‹Bi.sum = _›; done) | skip
  · obtain ⟨x, F, rfl, rfl, r1⟩ := c.rep.one'
    obtain ⟨a, ws, G, rfl, ea, t, rs⟩ := r1.lst_inv
    obtain ⟨l, e1, rfl⟩ := Option.map_eq_some_iff.mp e
    have hu := intsD_inv rs e1
    subst hu
    exact cr_sum hc pins s σ H _ us Q I r ⟨a, l, rfl, SqL.of ea, k _ _ _ _ (.imm c .int_mk)⟩
  · cases e
theorem cr_any' (hc : X.calm = true) : CallR X (.builtin "any") (fun vs H Q => ∃ pls, rB X.K CA (biD .any pls) pls vs H Q) := by
  intro pins s σ H xs us Q I r h
  obtain ⟨pls, w, ds, Gs, d, hw, c, e, k⟩ := h
  unfold biD at e
  split at e <;> first | (cases ‹Bi.any = _›; done) | skip
  · obtain ⟨x, F, rfl, rfl, r1⟩ := c.rep.one'
    obtain ⟨a, ws, G, rfl, ea, t, rs⟩ := r1.lst_inv
    obtain ⟨l, e1, rfl⟩ := Option.map_eq_some_iff.mp e
    have hu := blsD_inv rs e1
    subst hu
    exact cr_any hc pins s σ H _ us Q I r ⟨a, l, rfl, SqL.of ea, k _ _ _ _ (.imm c .bl_mk)⟩
  · cases e
theorem cr_all' (hc : X.calm = true) : CallR X (.builtin "all") (fun vs H Q => ∃ pls, rB X.K CA (biD .all pls) pls vs H Q) := by
  intro pins s σ H xs us Q I r h
  obtain ⟨pls, w, ds, Gs, d, hw, c, e, k⟩ := h
  unfold biD at e
  split at e <;> first | (cases ‹Bi.all = _›; done) | skip
  · obtain ⟨x, F, rfl, rfl, r1⟩ := c.rep.one'
    obtain ⟨a, ws, G, rfl, ea, t, rs⟩ := r1.lst_inv
    obtain ⟨l, e1, rfl⟩ := Option.map_eq_some_iff.mp e
    have hu := blsD_inv rs e1
    subst hu
    exact cr_all hc pins s σ H _ us Q I r ⟨a, l, rfl, SqL.of ea, k _ _ _ _ (.imm c .bl_mk)⟩
  · cases e
theorem cr_divmod : CallR X (.builtin "divmod") (fun vs H Q => ∃ pls, rB X.K CA (biD .divmod pls) pls vs H Q) := by
  intro pins s σ H xs us Q I r h
  obtain ⟨pls, w, ds, Gs, d, hw, c, e, k⟩ := h
  unfold biD at e
  split at e <;> first | (cases ‹Bi.divmod = _›; done) | skip
  · obtain ⟨x, y, F, G, rfl, rfl, r1, r2⟩ := c.rep.two'
    obtain ⟨rfl, rfl⟩ := r1.int_inv
    obtain ⟨rfl, rfl⟩ := r2.int_inv
    split at e
    · rename_i hj
      cases e
      refine call_divmodW pins s σ H _ us Q I r ⟨_, _, rfl, ⟨hj.1, PyProof.noPylong_of_log2 (natAbs_log (n := 9000) (by have := hj.2; omega) (by decide))⟩, fun p hp => k _ _ _ _ (.allocT c hp (G := []) (List.nil_sublist _) (.tup_mk (.inr rfl) upd_same ?_))⟩
      exact .cons (F := []) (G := []) .int_mk (.cons (F := []) (G := []) .int_mk .nil)
    · cases e
  · cases e
theorem cr_int : CallR X (.type "int") (fun vs H Q => ∃ pls, rB X.K CA (biD .int pls) pls vs H Q) := by
  intro pins s σ H xs us Q I r h
  obtain ⟨pls, w, ds, Gs, d, hw, c, e, k⟩ := h
  unfold biD at e
  split at e <;> first | (cases ‹Bi.int = _›; done) | skip
  · obtain ⟨x, F, rfl, rfl, r1⟩ := c.rep.one'
    obtain ⟨rfl, rfl⟩ := r1.int_inv
    cases e
    exact call_int1 pins s σ H _ us Q I r (.inl ⟨_, rfl, k _ _ _ _ (.imm c .int_mk)⟩)
  · obtain ⟨x, F, rfl, rfl, r1⟩ := c.rep.one'
    obtain ⟨rfl, rfl⟩ := r1.bl_inv
    cases e
    exact call_int1 pins s σ H _ us Q I r (.inr ⟨_, rfl, k _ _ _ _ (.imm c .int_mk)⟩)
  · obtain ⟨x, F, rfl, rfl, r1⟩ := c.rep.one'
    obtain ⟨rfl, rfl⟩ := r1.str_inv
    split at e
    · rename_i hl
      obtain ⟨n, e1, rfl⟩ := Option.map_eq_some_iff.mp e
      exact call_int_str pins s σ H _ us Q I r ⟨_, n, rfl, e1, hl, k _ _ _ _ (.imm c .int_mk)⟩
    · cases e
  · cases e
theorem cr_str : CallR X (.type "str") (fun vs H Q => ∃ pls, rB X.K CA (biD .str pls) pls vs H Q) := by
  intro pins s σ H xs us Q I r h
  obtain ⟨pls, w, ds, Gs, d, hw, c, e, k⟩ := h
  unfold biD at e
  split at e <;> first | (cases ‹Bi.str = _›; done) | skip
  · obtain ⟨x, F, rfl, rfl, r1⟩ := c.rep.one'
    obtain ⟨rfl, rfl⟩ := r1.int_inv
    obtain ⟨z, e1, rfl⟩ := Option.map_eq_some_iff.mp e
    unfold txtI at e1
    split at e1
    · rename_i hl
      cases e1
      exact call_str_int pins s σ H _ us Q I r ⟨_, rfl, hl, k _ _ _ _ (.imm c .str_mk)⟩
    · cases e1
  · obtain ⟨x, F, rfl, rfl, r1⟩ := c.rep.one'
    obtain ⟨rfl, rfl⟩ := r1.str_inv
    cases e
    exact SkE.call_str_str pins s σ H _ us Q I r ⟨_, rfl, k _ _ _ _ (.imm c .str_mk)⟩
  · cases e
theorem kids0 {p : Bool} {pls : List Bool} {F : List Addr} : (if (p :: pls).getD 0 false then [] else F) = (if p then [] else F) := rfl
theorem cr_list (hc : X.calm = true) : CallR X (.type "list") (fun vs H Q => ∃ p, rB X.K CA (biD .list [p]) [p] vs H Q) := by
  intro pins s σ H xs us Q I r h
  obtain ⟨p, w, ds, Gs, d, hw, c, e, k⟩ := h
  unfold biD at e
  split at e <;> first | (cases ‹Bi.list = _›; done) | skip
  · obtain ⟨x, F, rfl, rfl, r1⟩ := c.rep.one'
    obtain ⟨ys, e1, rfl⟩ := Option.map_eq_some_iff.mp e
    obtain ⟨rfl, a, ws, G, rfl, ea, rs, sb⟩ := kids_lst e1 r1
    exact call_list_of pins s σ H _ us Q I r ⟨a, ws, rfl, .inl (SqL.of ea), fun l hl => k _ _ _ _ (.alloc c hl (G := G) (by rw [owned1]; exact sb) (.lst_mk upd_same (rs.stays (Wd.Le.refl _) (c.stays hl rs.live))))⟩
  · obtain ⟨x, F, rfl, rfl, r1⟩ := c.rep.one'
    obtain ⟨ys, e1, rfl⟩ := Option.map_eq_some_iff.mp e
    obtain ⟨rfl, a, ws, rfl, z, ea, rs, sb⟩ := kids_tup e1 r1
    exact call_list_of pins s σ H _ us Q I r ⟨a, ws, rfl, .inr (SqT.of ea), fun l hl => k _ _ _ _ (.alloc c hl (G := F) (by rw [owned1]; exact sb) (.lst_mk upd_same (rs.stays (Wd.Le.refl _) (c.stays hl rs.live))))⟩
  · obtain ⟨x, F, rfl, rfl, r1⟩ := c.rep.one'
    obtain ⟨a, ws, G, rfl, n, er, t, rs⟩ := r1.dic_rd
    cases e
    refine call_listD hc pins s σ H _ us Q I r ⟨a, _, rfl, er, fun l hl => k _ _ _ _ (.alloc c hl (G := []) (List.nil_sublist _) (.lst_mk (us := _) upd_same ?_))⟩
    rw [show (_ : List (Key × V)).map (fun kv => kV kv.1) = ((_ : List (Key × V)).map Prod.fst).map kV by rw [List.map_map]; rfl, List.map_fst_zip (by rw [rs.len, n.1]; exact Nat.le_refl _)]
    exact Reps.keys _
  · cases e
theorem cr_tuple : CallR X (.type "tuple") (fun vs H Q => ∃ p, rB X.K CA (biD .tuple [p]) [p] vs H Q) := by
  intro pins s σ H xs us Q I r h
  obtain ⟨p, w, ds, Gs, d, hw, c, e, k⟩ := h
  unfold biD at e
  split at e <;> first | (cases ‹Bi.tuple = _›; done) | skip
  · obtain ⟨x, F, rfl, rfl, r1⟩ := c.rep.one'
    obtain ⟨ys, e1, rfl⟩ := Option.map_eq_some_iff.mp e
    obtain ⟨rfl, a, ws, G, rfl, ea, rs, sb⟩ := kids_lst e1 r1
    exact call_tuple_of pins s σ H _ us Q I r ⟨a, ws, rfl, .inl ⟨SqL.of ea, fun l hl => k _ _ _ _ (.allocT c hl (G := G) (by rw [owned1]; exact sb) (.tup_mk (.inr rfl) upd_same (rs.stays (Wd.Le.wz fun _ h => .inl h) (c.stays hl rs.live))))⟩⟩
  · obtain ⟨x, F, rfl, rfl, r1⟩ := c.rep.one'
    obtain ⟨ys, e1, rfl⟩ := Option.map_eq_some_iff.mp e
    obtain ⟨rfl, a, ws, rfl, z, ea, rs, sb⟩ := kids_tup e1 r1
    exact call_tuple_of pins s σ H _ us Q I r ⟨a, ws, rfl, .inr ⟨SqT.of ea, k _ _ _ _ (.same c (.tup_mk z ea rs) (by rw [owned1]; exact sb))⟩⟩
  · cases e
theorem mergeK_nodup : ∀ (l kvs : List (Key × V)), ((kvs ++ l).map (·.1)).Nodup → mergeK kvs l = kvs ++ l
  | [], kvs, _ => by simp [mergeK]
  | p :: l, kvs, h => by
    have e : putK kvs p.1 p.2 = kvs ++ [p] := by
      unfold putK
      rw [if_neg]
      simp only [List.any_eq_true, decide_eq_true_eq, not_exists, not_and]
      intro q hq e
      rw [List.map_append, List.nodup_append] at h
      exact h.2.2 q.1 (List.mem_map_of_mem hq) p.1 (by simp) e
    show mergeK (putK kvs p.1 p.2) l = _
    rw [e, mergeK_nodup l (kvs ++ [p]) (by simpa using h)]
    simp
theorem putD_len : ∀ (ks : List Key) (ds : List D) (k : Key) (x : D), ks.length = ds.length → (putD ks ds k x).1.length = (putD ks ds k x).2.length
  | [], [], _, _, _ => rfl
  | [], _ :: _, _, _, h => by simp at h
  | _ :: _, [], _, _, h => by simp at h
  | j :: ks, d :: ds, k, x, h => by
    unfold putD
    split
    · simpa using h
    · simp only [List.length_cons, Nat.add_right_cancel_iff]
      exact putD_len ks ds k x (by simpa using h)
/-- a stored key, by values -/
theorem putK_zip (k : Key) (v : V) : ∀ (ks : List Key) (us : List V) (ds : List D) (x : D), ks.length = us.length → ks.length = ds.length → ks.Nodup →
    ∃ us', putK (ks.zip us) k v = (putD ks ds k x).1.zip us' ∧ us'.length = (putD ks ds k x).1.length ∧
      ∀ {w : Wd} {H : Hp} {F F1 : List Addr}, Reps w H ds us F → Rep w H x v F1 → ∃ F' , Reps w H (putD ks ds k x).2 us' F' ∧ ∃ F0, F0.Sublist F ∧ F'.Perm (F1 ++ F0)
  | [], [], [], x, _, _, _ => by
    refine ⟨[v], rfl, rfl, fun h r => ?_⟩
    rw [h.unnil.2]
    exact ⟨_ ++ [], .cons r .nil, [], List.Sublist.refl _, List.Perm.refl _⟩
  | [], _ :: _, _, _, h, _, _ => by simp at h
  | [], [], _ :: _, _, _, h, _ => by simp at h
  | _ :: _, [], _, _, h, _, _ => by simp at h
  | _ :: _, _ :: _, [], _, _, h, _ => by simp at h
  | j :: ks, u :: us, d :: ds, x, h1, h2, nd => by
    by_cases e : j = k
    · subst e
      refine ⟨v :: us, ?_, ?_, fun h r => ?_⟩
      · unfold putD
        rw [if_pos rfl]
        have nm : ∀ p ∈ ks.zip us, p.1 ≠ j := fun p hp e => (List.nodup_cons.mp nd).1 (e ▸ (List.of_mem_zip (show (p.1, p.2) ∈ ks.zip us from hp)).1)
        unfold putK
        rw [if_pos (by simp)]
        rw [List.zip_cons_cons, List.map_cons, if_pos rfl, List.zip_cons_cons]
        congr 1
        have : ∀ p ∈ ks.zip us, (if p.1 = j then (p.1, v) else p) = p := fun p hp => if_neg (nm p hp)
        exact (List.map_congr_left this).trans (List.map_id _)
      · unfold putD
        rw [if_pos rfl]
        simp at h1 ⊢
        omega
      · obtain ⟨v', vr, G1, G2, e1, rfl, r1, r2⟩ := h.uncons
        cases e1
        unfold putD
        rw [if_pos rfl]
        exact ⟨_ ++ G2, .cons r r2, G2, List.sublist_append_right _ _, List.Perm.refl _⟩
    · obtain ⟨us', a, b, c⟩ := putK_zip k v ks us ds x (by simpa using h1) (by simpa using h2) (List.nodup_cons.mp nd).2
      have ep : putK ((j :: ks).zip (u :: us)) k v = (j, u) :: putK (ks.zip us) k v := by
        unfold putK
        rw [List.zip_cons_cons, List.any_cons, decide_eq_false e, Bool.false_or]
        split
        · rw [List.map_cons, if_neg e]
        · rfl
      refine ⟨u :: us', ?_, ?_, fun h r => ?_⟩
      · unfold putD
        rw [if_neg e, ep, a]
        rfl
      · unfold putD
        rw [if_neg e]
        simp [b]
      · obtain ⟨v', vr, G1, G2, e1, rfl, r1, r2⟩ := h.uncons
        cases e1
        obtain ⟨F', p, F0, q, r'⟩ := c r2 r
        unfold putD
        rw [if_neg e]
        refine ⟨G1 ++ F', .cons r1 p, G1 ++ F0, List.Sublist.append_left q _, ?_⟩
        exact (List.Perm.append_left G1 r').trans (by rw [← List.append_assoc, ← List.append_assoc]; exact List.Perm.append_right F0 List.perm_append_comm)

theorem putD_nodup : ∀ (ks : List Key) (ds : List D) (k : Key) (x : D), ks.length = ds.length → ks.Nodup → (putD ks ds k x).1.Nodup ∧ ∀ j, j ∈ (putD ks ds k x).1 ↔ j ∈ ks ∨ j = k
  | [], [], k, x, _, _ => by simp [putD]
  | [], _ :: _, _, _, h, _ => by simp at h
  | _ :: _, [], _, _, h, _ => by simp at h
  | j :: ks, d :: ds, k, x, h, nd => by
    unfold putD
    by_cases e : j = k
    · rw [if_pos e]
      exact ⟨nd, fun i => ⟨fun q => .inl q, fun q => q.elim id fun q => by rw [q, ← e]; exact List.mem_cons_self⟩⟩
    · rw [if_neg e]
      obtain ⟨a, b⟩ := putD_nodup ks ds k x (by simpa using h) (List.nodup_cons.mp nd).2
      refine ⟨List.nodup_cons.mpr ⟨fun q => ?_, a⟩, fun i => ?_⟩
      · rcases (b j).mp q with q | q
        · exact (List.nodup_cons.mp nd).1 q
        · exact e q
      · simp only [List.mem_cons, b i]
        constructor
        · rintro (q | q | q)
          · exact .inl (.inl q)
          · exact .inl (.inr q)
          · exact .inr q
        · rintro ((q | q) | q)
          · exact .inl q
          · exact .inr (.inl q)
          · exact .inr (.inr q)
/-- the pairs put one behind another: where all is shared -/
theorem mergeD_zip : ∀ (l : List (Key × D)) (ks : List Key) (ds : List D) (us ws : List V) {w : Wd} {H : Hp}, ks.length = ds.length → ks.Nodup → Reps w H ds us [] → Reps w H (l.map (·.2)) ws [] →
    ∃ us', mergeK (ks.zip us) ((l.map (·.1)).zip ws) = (l.foldl (fun a p => putD a.1 a.2 p.1 p.2) (ks, ds)).1.zip us' ∧ Reps w H (l.foldl (fun a p => putD a.1 a.2 p.1 p.2) (ks, ds)).2 us' [] ∧
      (l.foldl (fun a p => putD a.1 a.2 p.1 p.2) (ks, ds)).1.length = (l.foldl (fun a p => putD a.1 a.2 p.1 p.2) (ks, ds)).2.length ∧ (l.foldl (fun a p => putD a.1 a.2 p.1 p.2) (ks, ds)).1.Nodup
  | [], ks, ds, us, ws, w, H, h1, nd, r, _ => ⟨us, by simp [mergeK], r, h1, nd⟩
  | (k, d) :: l, ks, ds, us, ws, w, H, h1, nd, r, rl => by
    obtain ⟨v, wr, F1, F2, rfl, e, r1, r2⟩ := rl.uncons
    obtain ⟨rfl, rfl⟩ : F1 = [] ∧ F2 = [] := by simpa using e.symm
    obtain ⟨us1, a, b, c⟩ := putK_zip k v ks us ds d (by rw [h1, r.len]) h1 nd
    obtain ⟨F', p, F0, q, q'⟩ := c r r1
    have e0 : F' = [] := by
      have : F0 = [] := List.sublist_nil.mp q
      subst this
      simpa using q'
    subst e0
    have hl := putD_len ks ds k d h1
    obtain ⟨us2, x, y⟩ := mergeD_zip l (putD ks ds k d).1 (putD ks ds k d).2 us1 wr hl (putD_nodup ks ds k d h1 nd).1 p r2
    refine ⟨us2, ?_, y⟩
    show mergeK (putK (ks.zip us) k v) _ = _
    rw [a]
    exact x
theorem cr_dict (hc : X.calm = true) : CallR X (.type "dict") (fun vs H Q => ∃ p, rB X.K CA (biD .dict [p]) [p] vs H Q) := by
  intro pins s σ H xs us Q I r h
  obtain ⟨p, w, ds, Gs, d, hw, c, e, k⟩ := h
  unfold biD at e
  split at e <;> first | (cases ‹Bi.dict = _›; done) | skip
  · obtain ⟨x, F, rfl, rfl, r1⟩ := c.rep.one'
    obtain ⟨ys, e1, rfl⟩ := Option.map_eq_some_iff.mp e
    obtain ⟨rfl, hs⟩ := kids_eq e1
    obtain ⟨a, ws, G, rfl, n, er, t, rs⟩ := r1.dic_rd
    have sb : G.Sublist (owned [p] [F]) := by
      rw [owned1]
      cases p with
      | true => rw [rs.sh (hs rfl)]; exact List.nil_sublist _
      | false => exact t.kids
    exact call_dictD pins s σ H _ us Q I r ⟨a, _, rfl, er, fun l hl => k _ _ _ _ (.alloc c hl (G := G) sb (.dic_mk upd_same n.1 n.2 (rs.stays (Wd.Le.refl _) (c.stays hl rs.live))))⟩
  · obtain ⟨x, F, rfl, rfl, r1⟩ := c.rep.one'
    obtain ⟨ys, e1, e2⟩ := Option.bind_eq_some_iff.mp e
    obtain ⟨l, e2, e3⟩ := Option.bind_eq_some_iff.mp e2
    obtain ⟨rfl, a, ws, G, rfl, ea, rs, sb⟩ := kids_lst e1 r1
    obtain ⟨ps, vs, rfl, pr, rl⟩ := pairsD_inv rs e2
    have lk : (l.map (·.1)).length = (l.map (·.2)).length := by simp
    have lv : vs.length = (l.map (·.2)).length := rl.len
    refine call_dictP hc pins s σ H _ us Q I r ⟨a, ps, _, rfl, SqL.of ea, L2.Paired.mapP pr (fun q kv z => SqT.of z), fun o ho => ?_⟩
    split at e3
    · rename_i nd
      have nd := of_decide_eq_true nd
      cases e3
      have em : mergeK [] ((l.map (·.1)).zip vs) = (l.map (·.1)).zip vs := by
        rw [mergeK_nodup]
        · rfl
        · rw [List.nil_append, List.map_fst_zip (by rw [lk, lv]; exact Nat.le_refl _)]
          exact nd
      rw [em]
      exact k _ _ _ _ (.alloc c ho (G := G) (by rw [owned1]; exact sb) (.dic_mk upd_same lk nd (rl.stays (Wd.Le.refl _) (c.stays ho rl.live))))
    · split at e3
      · rename_i hsh
        cases e3
        have e0 : G = [] := rl.sh hsh
        subst e0
        obtain ⟨us', x, y, z, z'⟩ := mergeD_zip l [] [] [] vs rfl List.nodup_nil .nil rl
        have x : mergeK [] ((l.map (·.1)).zip vs) = (mergeD l).1.zip us' := x
        rw [x]
        exact k _ _ _ _ (.alloc c ho (G := []) (List.nil_sublist _) (.dic_mk upd_same z z' (y.stays (Wd.Le.refl _) (c.stays ho fun a q => by cases q))))
      · cases e3
  · cases e
end Mp
set_option Elab.async false
set_option linter.all false
set_option maxRecDepth 100000
/-! # Mp: isinstance, repr, methods of built-in types by values -/
namespace Mp
open PySem L2
variable {cl : Call} {CA : Nat → Option Addr} {X : Cx}

/-! ### isinstance -/
def tys : List String := ["NoneType", "bool", "int", "str", "tuple", "list", "dict"]
theorem kitB_all : ∀ a ∈ tys, ∀ b ∈ (["str", "int", "bool", "list", "dict", "tuple"] : List String), kitB a b = some (a == b || (a == "bool" && b == "int")) := by decide +kernel
theorem tyOf_mem {d : D} {a : String} (h : tyOf d = some a) : a ∈ tys := by
  cases d <;> simp only [tyOf, Option.some.injEq] at h <;> first | (cases h; done) | (subst h; decide)
theorem isOne_kit {a b : String} {r : Bool} (ha : a ∈ tys) (h : isOne a b = some r) : kitB a b = some r := by
  unfold isOne at h
  split at h
  · rename_i hb
    cases h
    exact kitB_all a ha b hb
  · cases h
theorem Rep.tyX {w : Wd} {H : Hp} {d : D} {v : V} {F : List Addr} {a : String} (h : Rep w H d v F) (e : tyOf d = some a) : TyX w.K H v (.type a) := by
  cases d <;> simp only [tyOf, Option.some.injEq] at e <;> first | (cases e; done) | subst e
  · rw [h.non_inv.1]; exact .base .non
  · rw [h.bl_inv.1]; exact .base (.bl _)
  · rw [h.int_inv.1]; exact .base (.int _)
  · rw [h.str_inv.1]; exact .base (.str _)
  · obtain ⟨p, us, rfl, z, ea, _⟩ := h.tup_inv; exact .base (.tup ea)
  · obtain ⟨p, us, G, rfl, ea, _⟩ := h.lst_inv; exact .base (.lst ea)
  · obtain ⟨p, us, G, rfl, n, er, _⟩ := h.dic_rd
    rcases er with er | ⟨o, er⟩
    · exact .base (.dK er)
    · exact .fDict er
/-- isinstance(x, T), one type: the second value is written -/
theorem cr_isin1 {b : String} : CallR X (.builtin "isinstance") (fun vs H Q => ∃ x pls, vs = [x, .ty b] ∧ rB X.K CA (biD (.isin [b]) pls) pls [x] H Q) := by
  intro pins s σ H xs us Q I r h
  obtain ⟨x, pls, rfl, w, ds, Gs, d, hw, c, e, k⟩ := h
  unfold biD at e
  split at e <;> first | (cases ‹Bi.isin _ = _›; done) | skip
  · rename_i ts d0 hts
    cases hts
    obtain ⟨x', F, e0, rfl, r1⟩ := c.rep.one'
    obtain rfl : x = x' := by simpa using e0
    obtain ⟨a, e1, e4⟩ := Option.bind_eq_some_iff.mp e
    obtain ⟨q, e2, rfl⟩ := Option.map_eq_some_iff.mp e4
    have ty := r1.tyX e1
    rw [hw.k] at ty
    have ek : isOne a b = some q := by
      unfold isAny at e2
      split at e2
      · rename_i p q' e3 e4
        unfold isAny at e4
        cases e4
        cases e2
        rw [e3, Bool.or_false]
      · cases e2
    exact call_isi pins s σ H _ us Q I r ⟨x, .ty b, _, _, q, rfl, .ty b, ty, kit_ty (isOne_kit (tyOf_mem e1) ek), k _ _ _ _ (.imm c .bl_mk)⟩
  · cases e
theorem isAny_kit {K : PySem.W.Frag} {a : String} (ha : a ∈ tys) : ∀ {bs : List String} {r : Bool}, isAny a bs = some r → PySem.W.kitAny K (.type a) (bs.map Value.type) = some r
  | [], r, h => by unfold isAny at h; cases h; rfl
  | b :: bs, r, h => by
    unfold isAny at h
    split at h
    · rename_i p q e1 e2
      cases h
      exact kitAny_cons (b := p) (kit_ty (isOne_kit ha e1)) (fun e => by rw [e, Bool.false_or]; exact isAny_kit ha e2) (fun e => by rw [e, Bool.true_or])
    · cases h
theorem clsV_all : ∀ bs : List String, Paired ClsV (bs.map V.ty) (bs.map Value.type)
  | [] => .nil
  | b :: bs => .cons (.ty b) (clsV_all bs)
/-- several: a written tuple of them -/
theorem cr_isinT {bs : List String} : CallR X (.builtin "isinstance") (fun vs H Q => ∃ x tp pls, vs = [x, .ref tp] ∧ H tp = some (.tup (bs.map V.ty)) ∧ rB X.K CA (biD (.isin bs) pls) pls [x] H Q) := by
  intro pins s σ H xs us Q I r h
  obtain ⟨x, tp, pls, rfl, ht, w, ds, Gs, d, hw, c, e, k⟩ := h
  unfold biD at e
  split at e <;> first | (cases ‹Bi.isin _ = _›; done) | skip
  · rename_i ts d0 hts
    cases hts
    obtain ⟨x', F, e0, rfl, r1⟩ := c.rep.one'
    obtain rfl : x = x' := by simpa using e0
    obtain ⟨a, e1, e4⟩ := Option.bind_eq_some_iff.mp e
    obtain ⟨q, e2, rfl⟩ := Option.map_eq_some_iff.mp e4
    have ty := r1.tyX e1
    rw [hw.k] at ty
    exact call_isiT pins s σ H _ us Q I r ⟨x, tp, _, _, _, q, rfl, ht, clsV_all bs, ty, isAny_kit (tyOf_mem e1) e2, k _ _ _ _ (.imm c .bl_mk)⟩
  · cases e

/-! ### repr -/
def kP : Key → PyData
  | .inl i => .int i
  | .inr x => .str x
theorem py_dic {f : Fl} {ks : List Key} {ds : List D} : (D.dic f ks ds).py = (pys ds).map fun ps => .dict ((ks.map kP).zip ps) := by
  simp only [D.py]
  rfl
section
variable {w : Wd} {H : Hp} {pins : List (Addr × Obj)} {σ : St} {s : Shared}
mutual
theorem Rep.reads (I : Inv X pins σ H s) (hk : w.K = X.K) : ∀ {d : D} {v : V} {F : List Addr} {p : PyData} {u : Value}, Rep w H d v F → d.py = some p → p.hasDict = false → RelV v u → ∃ as, Reads s.heap u p as
  | .non, _, _, _, _, h, e, _, r => by simp only [D.py, Option.some.injEq] at e; rw [h.non_inv.1] at r; cases r; rw [← e]; exact ⟨_, .none⟩
  | .bl b, _, _, _, _, h, e, _, r => by simp only [D.py, Option.some.injEq] at e; rw [h.bl_inv.1] at r; cases r; rw [← e]; exact ⟨_, .bool b⟩
  | .int i, _, _, _, _, h, e, _, r => by simp only [D.py, Option.some.injEq] at e; rw [h.int_inv.1] at r; obtain ⟨t, rfl⟩ := r; rw [← e]; exact ⟨_, .int i t⟩
  | .str x, _, _, _, _, h, e, _, r => by simp only [D.py, Option.some.injEq] at e; rw [h.str_inv.1] at r; obtain ⟨t, rfl⟩ := r; rw [← e]; exact ⟨_, .str x t⟩
  | .scr _, _, _, _, _, _, e, _, _ => by simp only [D.py] at e; cases e
  | .ins _ _ _ _, _, _, _, _, _, e, _, _ => by simp only [D.py] at e; cases e
  | .dic _ _ _, _, _, _, _, _, e, c, _ => by
    simp only [D.py, Option.map_eq_some_iff] at e
    obtain ⟨ps, _, rfl⟩ := e
    cases c
  | .tup ds, _, _, _, _, h, e, c, r => by
    simp only [D.py, Option.map_eq_some_iff] at e
    obtain ⟨ps, e, rfl⟩ := e
    obtain ⟨a, us, rfl, z, ea, rs⟩ := h.tup_inv
    cases r
    obtain ⟨its, rv, ⟨o, ho, hc, n, hd⟩, _⟩ := I.tuple (SqT.of ea)
    obtain ⟨as, hr⟩ := Reps.reads I hk rs e c rv
    exact ⟨_, .tuple ho hc hd hr⟩
  | .lst f ds, _, _, _, _, h, e, c, r => by
    simp only [D.py, Option.map_eq_some_iff] at e
    obtain ⟨ps, e, rfl⟩ := e
    obtain ⟨a, us, G, rfl, ea, t, rs⟩ := h.lst_inv
    cases r
    obtain ⟨its, rv, ⟨o, n, ho, hc, _, hd⟩, _⟩ := I.list (SqL.of ea)
    obtain ⟨as, hr⟩ := Reps.reads I hk rs e c rv
    exact ⟨_, .list ho hc hd hr⟩
theorem Reps.reads (I : Inv X pins σ H s) (hk : w.K = X.K) : ∀ {ds : List D} {vs : List V} {F : List Addr} {ps : List PyData} {us : List Value}, Reps w H ds vs F → pys ds = some ps → PyData.hasDictAll ps = false → Vals vs us → ∃ as, ReadsAll s.heap us ps as
  | [], _, _, _, _, h, e, _, r => by simp only [pys, Option.some.injEq] at e; rw [h.unnil.1] at r; cases r; rw [← e]; exact ⟨_, .nil⟩
  | d :: ds, _, _, _, _, h, e, c, r => by
    obtain ⟨v, vr, F1, F2, rfl, rfl, h1, h2⟩ := h.uncons
    simp only [pys] at e
    split at e
    · rename_i p ps e1 e2
      cases e
      unfold PyData.hasDictAll at c
      rw [Bool.or_eq_false_iff] at c
      cases r with
      | cons r1 r2 =>
        obtain ⟨as, q1⟩ := Rep.reads I hk h1 e1 c.1 r1
        obtain ⟨bs, q2⟩ := Reps.reads I hk h2 e2 c.2 r2
        exact ⟨_, .cons q1 q2⟩
    · cases e
end
theorem keys_read {h : Heap} : ∀ (ks : List Key) (vs : List Value), Paired (fun k v => keyIs k v = true) ks vs → ReadsAll h vs (ks.map kP) []
  | [], _, .nil => .nil
  | k :: ks, _, .cons r t => by
    have q := keys_read (h := h) ks _ t
    rcases keyIs_shape r with ⟨i, t', rfl, rfl⟩ | ⟨x, t', rfl, rfl⟩
    · exact .cons (.int i t') q
    · exact .cons (.str x t') q
theorem flat_read {h : Heap} : ∀ {ds : List D} {vs xs : List V} {us : List Value} {ps : List PyData}, scs ds = some xs → pys ds = some ps → vs = xs → Vals vs us → ReadsAll h us ps []
  | [], _, _, _, _, e1, e2, e3, r => by
    simp only [scs, Option.some.injEq] at e1
    simp only [pys, Option.some.injEq] at e2
    subst e1 e2 e3
    cases r
    exact .nil
  | d :: ds, _, _, _, _, e1, e2, e3, r => by
    simp only [scs] at e1
    simp only [pys] at e2
    split at e1
    · rename_i x xs q1 q2
      cases e1
      subst e3
      split at e2
      · rename_i p ps q3 q4
        cases e2
        cases r with
        | cons r1 r2 =>
          have t := flat_read (h := h) q2 q4 rfl r2
          cases d <;> simp only [D.sc, Option.some.injEq] at q1 <;> first | (cases q1; done) | skip
          all_goals (subst q1; simp only [D.py, Option.some.injEq] at q3; subst q3)
          · cases r1; exact .cons .none t
          · cases r1; exact .cons (.bool _) t
          · obtain ⟨t', rfl⟩ := r1; exact .cons (.int _ t') t
          · obtain ⟨t', rfl⟩ := r1; exact .cons (.str _ t') t
      · cases e2
    · cases e1
theorem pairs_split {es : List DictEntry} {kvs : List (Key × Value)} (h : PySem.Pairs (mixKind X.prog X.w) es kvs) : Paired (fun k v => keyIs k v = true) (kvs.map (·.1)) (es.map (·.key)) ∧ es.map (·.val) = kvs.map (·.2) := by
  induction h with
  | nil => exact ⟨.nil, rfl⟩
  | cons a b _ ih => exact ⟨.cons a ih.1, by rw [List.map_cons, List.map_cons, b, ih.2]⟩
theorem kv_split {kvs : List (Key × V)} {vs : List (Key × Value)} (h : KV kvs vs) : kvs.map (·.1) = vs.map (·.1) ∧ Vals (kvs.map (·.2)) (vs.map (·.2)) := by
  unfold KV at h
  induction h with
  | nil => exact ⟨rfl, .nil⟩
  | cons a _ ih => exact ⟨by rw [List.map_cons, List.map_cons, a.1, ih.1], .cons a.2 ih.2⟩
theorem dic_reads (I : Inv X pins σ H s) {f : Fl} {ks : List Key} {ds : List D} {v : V} {F : List Addr} {p : PyData} {u : Value} {xs : List V} (h : Rep w H (.dic f ks ds) v F) (e : (D.dic f ks ds).py = some p) (hx : scs ds = some xs) (r : RelV v u) :
    ∃ a, u = .ref a ∧ Reads s.heap u p [a] ∧ sysModules ∉ [a] := by
  rw [py_dic, Option.map_eq_some_iff] at e
  obtain ⟨ps, e, rfl⟩ := e
  obtain ⟨a, us, G, rfl, n, er, t, rs⟩ := h.dic_rd
  cases r
  obtain ⟨hz, hsys, vs, kv, o, es, ep, ho, hd, hdt, hko, hp, hnd⟩ := dk_rd I.hok er
  obtain ⟨k1, k2⟩ := kv_split kv
  obtain ⟨p1, p2⟩ := pairs_split hp
  have l1 : us.length = ks.length := by rw [rs.len, n.1]
  rw [← k1, List.map_fst_zip (by omega)] at p1
  rw [List.map_snd_zip (by omega)] at k2
  have lps : ps.length = ks.length := by
    have : ∀ (ds : List D) (ps : List PyData), pys ds = some ps → ps.length = ds.length := by
      intro ds
      induction ds with
      | nil => intro ps h; simp only [pys, Option.some.injEq] at h; rw [← h]; rfl
      | cons d ds ih =>
        intro ps h
        simp only [pys] at h
        split at h
        · cases h; simp [ih _ ‹_›]
        · cases h
    rw [this _ _ e, n.1]
  refine ⟨a, rfl, ?_, fun q => ?_⟩
  · have := Reads.dict (kvs := (ks.map kP).zip ps) ho hd.1 hdt (as := []) (bs := []) ?_ ?_
    · exact this
    · rw [List.map_fst_zip (by simp [lps])]
      exact keys_read _ _ p1
    · rw [List.map_snd_zip (by simp [lps]), p2]
      exact flat_read hx e (rs.scs_inv hx).1 k2
  · obtain rfl := List.mem_singleton.mp q
    simp at hsys
end
theorem cr_repr (hg : X.A.guards = some []) (hu : X.A.units + 65 < cLine) : CallR X (.builtin "repr") (fun vs H Q => ∃ pls, rB X.K CA (biD .repr pls) pls vs H Q) := by
  intro pins s σ H xs us Q I r h
  obtain ⟨pls, w, ds, Gs, d, hw, c, e, k⟩ := h
  unfold biD at e
  split at e <;> first | (cases ‹Bi.repr = _›; done) | skip
  · rename_i d0 _
    obtain ⟨x, F, rfl, rfl, r1⟩ := c.rep.one'
    obtain ⟨p, e1, e2⟩ := Option.bind_eq_some_iff.mp e
    split at e2
    · rename_i hc
      cases e2
      simp only [Bool.and_eq_true, decide_eq_true_eq] at hc
      obtain ⟨⟨⟨h1, h2⟩, h3⟩, h4⟩ := hc
      obtain ⟨u, rfl, ru⟩ := vals1 r
      have fin : ∀ h' t tk, (∀ b o, s.heap.get? b = some o → h'.get? b = some o) → EP X pins σ Q (.str p.shown t) { s with heap := h', toks := tk } := fun h' t tk kp =>
        ⟨.str p.shown, H, I.kept (t' := tk) kp, ⟨t, rfl⟩, k _ _ _ _ (.imm c .str_mk)⟩
      have big : ∀ a as, u = .ref a → Reads s.heap u p as → (p.hasDict = true → sysModules ∉ as) → wpAny (model X.prog X.w) X.A (call (.builtin "repr") [u]) (EP X pins σ Q) X.xe s := fun a as eu rd hs => by
        subst eu
        exact repr_of_reads' rd h1 hs hg (by omega) (fun _ _ q => q) (fun h' t tk kp => fin h' t tk kp) (lim_line h3)
      have obj : d0.sc = none → wpAny (model X.prog X.w) X.A (call (.builtin "repr") [u]) (EP X pins σ Q) X.xe s := fun hsc => by
        cases d0 with
        | dic f ks ds =>
          unfold repOk at h4
          obtain ⟨xs, hx⟩ := Option.isSome_iff_exists.mp h4
          obtain ⟨a, eu, rd, hs⟩ := dic_reads I r1 e1 hx ru
          exact big a _ eu rd fun _ => hs
        | tup ds =>
          have hd : p.hasDict = false := by simpa [repOk] using h4
          obtain ⟨as, rd⟩ := Rep.reads I hw.k r1 e1 hd ru
          obtain ⟨a, us, rfl, _⟩ := r1.tup_inv
          cases ru
          exact big a as rfl rd fun q => by rw [hd] at q; cases q
        | lst f ds =>
          have hd : p.hasDict = false := by simpa [repOk] using h4
          obtain ⟨as, rd⟩ := Rep.reads I hw.k r1 e1 hd ru
          obtain ⟨a, us, G, rfl, _⟩ := r1.lst_inv
          cases ru
          exact big a as rfl rd fun q => by rw [hd] at q; cases q
        | non => cases hsc
        | bl _ => cases hsc
        | int _ => cases hsc
        | str _ => cases hsc
        | ins _ _ _ _ => simp only [D.py] at e1; cases e1
        | scr _ => simp only [D.py] at e1; cases e1
      cases d0 with
      | non =>
        simp only [D.py, Option.some.injEq] at e1
        subst e1
        rw [r1.non_inv.1] at ru
        cases ru
        exact PySem.P.repr_of_none (fin _ _ _ fun _ _ q => q)
      | bl b =>
        simp only [D.py, Option.some.injEq] at e1
        subst e1
        rw [r1.bl_inv.1] at ru
        cases ru
        refine PySem.P.repr_of_bool ?_
        have := fin s.heap s.toks (s.toks + 1) fun _ _ q => q
        cases b <;> exact this
      | int i =>
        simp only [D.py, Option.some.injEq] at e1
        subst e1
        rw [r1.int_inv.1] at ru
        obtain ⟨t, rfl⟩ := ru
        exact PySem.P.repr_of_int (by simpa [PyData.showable] using h1) (fin _ _ _ fun _ _ q => q)
      | str z =>
        simp only [D.py, Option.some.injEq] at e1
        subst e1
        rw [r1.str_inv.1] at ru
        obtain ⟨t, rfl⟩ := ru
        exact PySem.P.repr_of_str (fin _ _ _ fun _ _ q => q) (lim_line h3)
      | tup ds => exact obj rfl
      | lst f ds => exact obj rfl
      | dic f ks ds => exact obj rfl
      | ins f c ns ds => exact obj rfl
      | scr ns => exact obj rfl
    · cases e2
  · cases e
end Mp
set_option Elab.async false
set_option linter.all false
set_option maxRecDepth 100000
set_option maxHeartbeats 2000000
/-! # Mp: methods, subscripts, slices, fields, texts by values -/
namespace Mp
open PySem L2
open C8 (InsC call_isC)
variable {X : Cx} {cl : Call} {K : PySem.W.Frag} {CA : Nat → Option Addr}

/-- a method of a built-in type by values -/
def rM (K : PySem.W.Frag) (CA : Nat → Option Addr) (b : Bm) (x : V) (xs : List V) (H : Hp) (Q : VK) : Prop := ∃ pls, rB K CA (bmD b pls) pls (x :: xs) H Q
theorem mr_join : MtR X "str.join" (rM X.K CA .join) := by
  intro pins s σ H x xs v us Q I rx rs h
  obtain ⟨pls, w, ds, Gs, d, hw, c, e, k⟩ := h
  unfold bmD at e
  split at e <;> first | (cases ‹Bm.join = _›; done) | skip
  · obtain ⟨x, y, F, G, e1, rfl, r1, r2⟩ := c.rep.two'
    cases e1
    obtain ⟨rfl, rfl⟩ := r1.str_inv
    obtain ⟨a, ws, G', rfl, ea, t, rs'⟩ := r2.lst_inv
    obtain ⟨l, e1, e2⟩ := Option.bind_eq_some_iff.mp e
    split at e2
    · rename_i hl
      cases e2
      obtain rfl := strsD_inv rs' e1
      exact mt_join pins s σ H _ _ v us Q I rx rs ⟨_, a, l, rfl, rfl, .inl (SqL.of ea), Nat.le_trans hl (by decide), k _ _ _ _ (.imm c .str_mk)⟩
    · cases e2
  · cases e
theorem mr_split : MtR X "str.split" (rM X.K CA .split) := by
  intro pins s σ H x xs v us Q I rx rs h
  obtain ⟨pls, w, ds, Gs, d, hw, c, e, k⟩ := h
  unfold bmD at e
  split at e <;> first | (cases ‹Bm.split = _›; done) | skip
  · obtain ⟨x, y, F, G, e1, rfl, r1, r2⟩ := c.rep.two'
    cases e1
    obtain ⟨rfl, rfl⟩ := r1.str_inv
    obtain ⟨rfl, rfl⟩ := r2.str_inv
    split at e
    · rename_i hl
      cases e
      refine mt_split pins s σ H _ _ v us Q I rx rs ⟨_, _, rfl, rfl, by simpa using hl.1, ?_, fun p hp => k _ _ _ _ (.alloc c hp (List.nil_sublist _) (.lst_mk upd_same ?_))⟩
      · rw [sizeLine_eq]; have := hl.2; unfold lim at this; omega
      · exact Reps.strs _
    · cases e
  · cases e
theorem mr_startswith : MtR X "str.startswith" (rM X.K CA .startswith) := by
  intro pins s σ H x xs v us Q I rx rs h
  obtain ⟨pls, w, ds, Gs, d, hw, c, e, k⟩ := h
  unfold bmD at e
  split at e <;> first | (cases ‹Bm.startswith = _›; done) | skip
  · obtain ⟨x, y, F, G, e1, rfl, r1, r2⟩ := c.rep.two'
    cases e1
    obtain ⟨rfl, rfl⟩ := r1.str_inv
    obtain ⟨rfl, rfl⟩ := r2.str_inv
    cases e
    exact mt_startswith pins s σ H _ _ v us Q I rx rs ⟨_, _, rfl, rfl, k _ _ _ _ (.imm c .bl_mk)⟩
  · cases e
theorem mr_upper : MtR X "str.upper" (rM X.K CA .upper) := by
  intro pins s σ H x xs v us Q I rx rs h
  obtain ⟨pls, w, ds, Gs, d, hw, c, e, k⟩ := h
  unfold bmD at e
  split at e <;> first | (cases ‹Bm.upper = _›; done) | skip
  · obtain ⟨x, F, e1, rfl, r1⟩ := c.rep.one'
    cases e1
    obtain ⟨rfl, rfl⟩ := r1.str_inv
    split at e
    · rename_i hl
      cases e
      exact mt_upper pins s σ H _ _ v us Q I rx rs ⟨_, rfl, rfl, Nat.le_trans hl (by decide), k _ _ _ _ (.imm c .str_mk)⟩
    · cases e
  · cases e
theorem mr_index : MtR X "list.index" (rM X.K CA .index) := by
  intro pins s σ H x xs v us Q I rx rs h
  obtain ⟨pls, w, ds, Gs, d, hw, c, e, k⟩ := h
  unfold bmD at e
  split at e <;> first | (cases ‹Bm.index = _›; done) | skip
  · obtain ⟨x, y, F, G, e1, rfl, r1, r2⟩ := c.rep.two'
    cases e1
    obtain ⟨a, ws, G', rfl, ea, t, rs'⟩ := r1.lst_inv
    split at e
    · rename_i vv vs h1 h2
      obtain ⟨rfl, _⟩ := r2.sc_inv h1
      obtain ⟨rfl, hf⟩ := rs'.scs_inv h2
      obtain ⟨j, e1, e2⟩ := Option.map_eq_some_iff.mp e
      cases e2
      obtain ⟨hj, e3, e4⟩ := List.findIdx?_eq_some_iff_getElem.mp e1
      refine mt_index pins s σ H _ _ v us Q I rx rs ⟨a, _, _, j, _, rfl, rfl, SqL.of ea, sc_flat h1, hf, List.getElem?_eq_getElem hj, e3, fun m z hm hz => ?_, k _ _ _ _ (.imm c .int_mk)⟩
      obtain ⟨hm', e5⟩ := List.getElem?_eq_some_iff.mp hz
      have := e4 m hm
      rw [e5] at this
      simpa using this
    · cases e
  · cases e
/-- the type, the name, the entry of a method -/
def bmT : Bm → String × Str × String
  | .join => ("str", "join", "str.join") | .split => ("str", "split", "str.split") | .startswith => ("str", "startswith", "str.startswith") | .upper => ("str", "upper", "str.upper")
  | .index => ("list", "index", "list.index") | .count => ("list", "count", "list.count") | .get => ("dict", "get", "dict.get") | .items => ("dict", "items", "dict.items") | .values => ("dict", "values", "dict.values")
/-- the methods that are covered -/
def bmOk : Bm → Bool
  | .join => true | .split => true | .startswith => true | .upper => true | .index => true
  | _ => false
theorem bm_attrs {b : Bm} (h : bmOk b = true) : PlainAttrs (bmT b).1 := by
  cases b <;> first | (cases h; done) | exact PySem.F.plainAttrs_str | exact PySem.F.plainAttrs_list
theorem bm_slot {b : Bm} (h : bmOk b = true) : Slot (bmT b).1 (bmT b).2.1 (bmT b).2.2 := by
  cases b <;> first | (cases h; done) | exact PySem.F.slot_str_join | exact PySem.F.slot_str_split | exact PySem.F.slot_str_startswith | exact PySem.F.slot_str_upper | exact PySem.F.slot_list_index
theorem bm_type {b : Bm} (h : bmOk b = true) : typeOf (.builtin (bmT b).2.2) = pure (.type "method_descriptor") := by
  cases b <;> first | (cases h; done) | exact PySem.F.type_str_join | exact PySem.F.type_str_split | exact PySem.F.type_str_startswith | exact PySem.F.type_str_upper | exact PySem.F.type_list_index
theorem bm_mt {b : Bm} (h : bmOk b = true) : MtR X (bmT b).2.2 (rM X.K CA b) := by
  cases b <;> first | (cases h; done) | exact mr_join | exact mr_split | exact mr_startswith | exact mr_upper | exact mr_index
/-- the receiver is of that type -/
theorem bm_ty {b : Bm} {pls : List Bool} {d : D} {ds : List D} {w : Wd} {H : Hp} {x : V} {G : List Addr} (hb : bmOk b = true) (h : (bmD b pls (d :: ds)).isSome = true) (r : Rep w H d x G) : tyV K (bmT b).1 x H := by
  obtain ⟨y, h⟩ := Option.isSome_iff_exists.mp h
  cases b <;> first | (cases hb; done) | skip
  all_goals
    unfold bmD at h
    split at h
  all_goals first | (cases h; done) | skip
  all_goals first | (rename_i q; cases q; done) | skip
  all_goals first
    | (rename_i q1 q2; cases q2; first | (obtain ⟨rfl, rfl⟩ := r.str_inv; rfl) | (obtain ⟨a, ws, G', rfl, ea, t, rs'⟩ := r.lst_inv; exact .inl ⟨rfl, _, SqL.of ea⟩))
    | (rename_i q1 q2; cases q1)

/-! ### subscripts -/
theorem ix_dic (hu : X.A.units + 1 < cLine) : IxR X (fun x y H Q => ∃ a v, x = .ref a ∧ DGet H a y (some v) ∧ Q v H) := by
  intro value slice pins s σ H x y v u Q I rx ry h hs
  obtain ⟨a, z, rfl, g, q⟩ := h
  cases rx
  exact PyProof.Rows.tail_any (dict_typeIs I g) PySem.F.slot_dict_getitem.lookup (d_getItem hu I g ry fun w' s3 I3 rw' => ⟨z, H, I3, rw', q⟩) hs
theorem ix_all (hu : X.A.units + 1 < cLine) {p : Bool} {ps : List Bool} : IxR X (fun x y H Q => rV cl X.K CA .sub (p :: ps) p [x, y] H Q) := by
  intro value slice pins s σ H x y v u Q I rx ry h hs
  obtain ⟨w, ds, Gs, d, hw, c, e, k⟩ := h
  obtain ⟨d1, d2, F, G, rfl, rfl, r1, r2⟩ := c.rep.two
  have e : getD d1 d2 = some d := e
  unfold getD at e
  split at e
  · obtain ⟨rfl, rfl⟩ := r2.int_inv
    obtain ⟨a, us, G1, rfl, ea, t, rs⟩ := r1.lst_inv
    obtain ⟨z, G2, h1, h2, h3⟩ := rs.atI e
    exact ix_list value slice pins s σ H _ _ v u Q I rx ry ⟨a, us, _, z, rfl, rfl, SqL.of ea, h1, k _ _ _ _ (.part c h2 (h3.trans t.kids))⟩ hs
  · obtain ⟨rfl, rfl⟩ := r2.int_inv
    obtain ⟨a, us, rfl, hz, ea, rs⟩ := r1.tup_inv
    obtain ⟨z, G2, h1, h2, h3⟩ := rs.atI e
    exact ix_tup value slice pins s σ H _ _ v u Q I rx ry ⟨a, us, _, z, rfl, rfl, SqT.of ea, h1, k _ _ _ _ (.part c h2 h3)⟩ hs
  · obtain ⟨rfl, rfl⟩ := r2.int_inv
    obtain ⟨rfl, rfl⟩ := r1.str_inv
    split at e
    · rename_i hl
      obtain ⟨c', e1, e2⟩ := Option.map_eq_some_iff.mp e
      cases e2
      exact ix_str value slice pins s σ H _ _ v u Q I rx ry ⟨_, _, c', rfl, rfl, lim_line hl, e1, k _ _ _ _ (.part c .str_mk (List.nil_sublist _))⟩ hs
    · cases e
  · obtain ⟨rfl, rfl⟩ := r2.int_inv
    obtain ⟨_, a, rfl, hq⟩ := r1.scr_inv
    obtain ⟨c', e1, e2⟩ := Option.map_eq_some_iff.mp e
    cases e2
    rw [hw.k] at hq
    refine ix_list value slice pins s σ H _ _ v u Q I rx ry ⟨a, _, _, .int c', rfl, rfl, hq, ?_, k _ _ _ _ (.part c .int_mk (List.nil_sublist _))⟩ hs
    unfold L2.atI at e1 ⊢
    rw [List.length_map]
    obtain ⟨j, e3, e4⟩ := Option.bind_eq_some_iff.mp e1
    rw [e3]
    show (List.map V.int _)[j]? = _
    rw [List.getElem?_map, e4]; rfl
  · obtain ⟨k', e1, e2⟩ := Option.bind_eq_some_iff.mp e
    obtain ⟨rfl, _⟩ := r2.key e1
    obtain ⟨a, us, G1, rfl, n, er, t, rs⟩ := r1.dic_rd
    obtain ⟨z, G2, h1, h2, h3⟩ := rs.look e2
    exact ix_dic hu value slice pins s σ H _ _ v u Q I rx ry ⟨a, z, rfl, .inl ⟨_, k', er, rfl, h1.symm⟩, k _ _ _ _ (.part c h2 (h3.trans t.kids))⟩ hs
  · cases e
/-- no slice -/
def noSl : Expr → Bool
  | .Slice .. => false
  | _ => true
theorem plainIx {b : Expr} (h : noSl b = true) : PlainIx b := by
  intro o i
  cases b <;> first | rfl | (cases h; done)

/-! ### slices -/
theorem cutL_V {lo hi : Option Int} {xs : List D} {us : List V} {w : Wd} {H : Hp} {F : List Addr} (h : Reps w H xs us F) : ∃ G, Reps w H (cutL xs lo hi) (cutV us lo hi) G ∧ G.Sublist F := by
  have ht : ∀ (n : Nat) {xs : List D} {us : List V} {F : List Addr}, Reps w H xs us F → ∃ G, Reps w H (xs.take n) (us.take n) G ∧ G.Sublist F := by
    intro n
    induction n with
    | zero => intro xs us F h; exact ⟨[], by simpa using Reps.nil, List.nil_sublist _⟩
    | succ n ih =>
      intro xs us F h
      cases xs with
      | nil => rw [h.unnil.1]; exact ⟨[], by simpa using Reps.nil, List.nil_sublist _⟩
      | cons d xs =>
        obtain ⟨v, vr, F1, F2, rfl, rfl, h1, h2⟩ := h.uncons
        obtain ⟨G, a, b⟩ := ih h2
        exact ⟨F1 ++ G, by simpa using Reps.cons h1 a, List.Sublist.append_left b _⟩
  have hd : ∀ (n : Nat) {xs : List D} {us : List V} {F : List Addr}, Reps w H xs us F → ∃ G, Reps w H (xs.drop n) (us.drop n) G ∧ G.Sublist F := by
    intro n
    induction n with
    | zero => intro xs us F h; exact ⟨F, by simpa using h, List.Sublist.refl _⟩
    | succ n ih =>
      intro xs us F h
      cases xs with
      | nil => rw [h.unnil.1]; exact ⟨[], by simpa using Reps.nil, List.nil_sublist _⟩
      | cons d xs =>
        obtain ⟨v, vr, F1, F2, rfl, rfl, h1, h2⟩ := h.uncons
        obtain ⟨G, a, b⟩ := ih h2
        exact ⟨G, by simpa using a, b.trans (List.sublist_append_right _ _)⟩
  unfold cutL cutV
  rw [h.len]
  obtain ⟨G1, a1, b1⟩ := hd _ h
  obtain ⟨G2, a2, b2⟩ := ht _ a1
  exact ⟨G2, a2, b2.trans b1⟩
/-- a slice by values -/
theorem sl_all : SlR X (fun x lo hi H Q => ∃ p ps r, rB X.K CA (fun ds => match ds with | d :: _ => cutD p d lo hi | [] => none) (p :: ps) (x :: r) H Q) := by
  intro pins s σ H x v vl vu lo hi sl Q I rx hs pl pu h
  obtain ⟨p, ps, r, w, ds, Gs, d, hw, c, e, k⟩ := h
  match ds, Gs, c.rep with
  | d1 :: ds, F :: Gs, rr =>
    have r1 := rr.1
    have e : cutD p d1 lo hi = some d := e
    have so : ∀ {G : List Addr}, G.Sublist (if p then [] else F) → G.Sublist (owned (p :: ps) (F :: Gs)) := fun h => h.trans (List.sublist_append_left _ _)
    unfold cutD at e
    split at e
    · obtain ⟨ys, e1, e2⟩ := Option.bind_eq_some_iff.mp e
      cases e2
      obtain ⟨rfl, a, us, Gc, rfl, ea, rs, hsub⟩ := kids_lst e1 r1
      obtain ⟨G2, r2, s2⟩ := cutL_V (lo := lo) (hi := hi) rs
      exact sl_list pins s σ H _ v vl vu lo hi sl Q I rx hs pl pu ⟨a, us, rfl, SqL.of ea, fun l hl => k _ _ _ _ (.alloc c hl (so (s2.trans hsub)) (.lst_mk upd_same (r2.stays (Wd.Le.refl w) (c.stays hl r2.live))))⟩
    · obtain ⟨ys, e1, e2⟩ := Option.bind_eq_some_iff.mp e
      cases e2
      obtain ⟨rfl, a, us, rfl, z, ea, rs, hsub⟩ := kids_tup e1 r1
      obtain ⟨G2, r2, s2⟩ := cutL_V (lo := lo) (hi := hi) rs
      refine sl_tupA pins s σ H _ v vl vu lo hi sl Q I rx hs pl pu ⟨a, us, rfl, SqT.of ea, fun hwh => ?_, fun _ l hl => k _ _ _ _ (.allocT c hl (so (s2.trans hsub)) (.tup_mk (.inr rfl) upd_same (r2.stays (Wd.Le.wz fun _ h => .inl h) (c.stays hl r2.live))))⟩
      refine k _ _ _ _ (.same c (.tup_mk z ea ?_) (so hsub))
      rw [rs.len] at hwh
      have : ∀ zs : List D, HT.sIx zs.length 0 lo = 0 ∧ HT.sIx zs.length zs.length hi = zs.length → cutL zs lo hi = zs := fun zs q => by
        unfold cutL
        rw [q.1, q.2]
        simp
      rw [this _ hwh]
      exact rs
    · split at e
      · rename_i hl
        cases e
        obtain ⟨rfl, rfl⟩ := r1.str_inv
        exact sl_str pins s σ H _ v vl vu lo hi sl Q I rx hs pl pu ⟨_, rfl, lim_line hl, k _ _ _ _ (.imm c .str_mk)⟩
      · cases e
    · cases e

/-! ### negation, fields -/
theorem un_all {pls : List Bool} : UnR X (unaryOp .USub) (fun x H Q => rV cl X.K CA .neg pls false [x] H Q) := by
  intro pins s σ H x v Q I rx h
  obtain ⟨w, ds, Gs, d, hw, c, e, k⟩ := h
  obtain ⟨d1, F, rfl, rfl, r1⟩ := c.rep.one
  have e : opD .neg pls [d1] = some d := e
  unfold opD at e
  split at e <;> first | (cases e; done) | skip
  all_goals first | (rename_i q; cases q; done) | (rename_i q1 q2; first | (cases q1; done) | skip)
  rename_i q1 q2
  cases q2
  cases e
  obtain ⟨rfl, rfl⟩ := r1.int_inv
  exact un_neg pins s σ H _ v Q I rx ⟨_, rfl, k _ _ _ _ (.imm c .int_mk)⟩

/-- what is asked of the classes -/
structure ClsOk (K : PySem.W.Frag) (CA : Nat → Option Addr) : Prop where
  cls : ∀ c C, CA c = some C → InsC K C
  fld : ∀ c C f, CA c = some C → f ∈ classFields c → NoAttr K C f
theorem Reps.fld {w : Wd} {H : Hp} {x : Str} : ∀ {ns : List Str} {ds : List D} {us : List V} {F : List Addr} {d : D}, Reps w H ds us F → fldD ns ds x = some d →
    ∃ v G, (ns.zip us).lookup x = some v ∧ Rep w H d v G ∧ G.Sublist F
  | [], _, _, _, _, _, e => by simp only [fldD] at e; cases e
  | j :: ks, [], _, _, _, _, e => by simp only [fldD] at e; cases e
  | j :: ks, d' :: ds, _, _, d, h, e => by
    obtain ⟨v, vr, F1, F2, rfl, rfl, h1, h2⟩ := h.uncons
    simp only [fldD] at e
    by_cases q : j = x
    · rw [if_pos q] at e
      cases e
      subst q
      exact ⟨v, F1, by rw [List.zip_cons_cons, List.lookup_cons, beq_self_eq_true], h1, List.sublist_append_left _ _⟩
    · rw [if_neg q] at e
      obtain ⟨v', G, a, b, c⟩ := Reps.fld h2 e
      exact ⟨v', G, by rw [List.zip_cons_cons, List.lookup_cons, beq_eq_false_iff_ne.mpr (Ne.symm q)]; exact a, b, c.trans (List.sublist_append_right _ _)⟩
/-- e.x of an instance -/
theorem fld_all (cf : ClsOk K CA) {p : Bool} {ps : List Bool} {f : Str} {x : V} {H : Hp} {Q : VK} (h : rV cl K CA (.fld f) (p :: ps) p [x] H Q) :
    ∃ a C dx fs v, x = .ref a ∧ H a = some (.ins C dx fs) ∧ Cls K C ∧ NoAttr K C f ∧ fs.lookup f = some v ∧ Q v H := by
  obtain ⟨w, ds, Gs, d, hw, c, e, k⟩ := h
  obtain ⟨d1, F, rfl, rfl, r1⟩ := c.rep.one
  have e : fieldD d1 f = some d := e
  unfold fieldD at e
  split at e
  · split at e
    · rename_i hf
      obtain ⟨a, dx, us, G, rfl, n, ⟨C, eC, eH⟩, t, rs⟩ := r1.ins_inv
      obtain ⟨v, G2, h1, h2, h3⟩ := rs.fld e
      rw [hw.c] at eC
      exact ⟨a, C, dx, _, v, rfl, eH, (cf.cls _ _ eC).cl, cf.fld _ _ _ eC hf, h1, k _ _ _ _ (.part c h2 (h3.trans t.kids))⟩
    · cases e
  · cases e
/-- isinstance(x, own class), true -/
theorem isc_all (cf : ClsOk X.K CA) {c : Nat} {C : Addr} (hC : CA c = some C) : CallR X (.builtin "isinstance") (fun vs H Q => ∃ x pls, vs = [x, .ref C] ∧ rV cl X.K CA (.isc c) pls false [x] H Q) := by
  intro pins s σ H xs us Q I r h
  obtain ⟨x, pls, rfl, w, ds, Gs, d, hw, cc, e, k⟩ := h
  obtain ⟨d1, F, rfl, rfl, r1⟩ := cc.rep.one
  have e : opD (.isc c) pls [d1] = some d := e
  cases d1 with
  | ins f c' ns ds =>
    have e : (if c' = c then some (D.bl true) else none) = some d := e
    split at e
    · rename_i hc
      cases e
      subst hc
      obtain ⟨a, dx, us, G, rfl, n, ⟨C', eC, eH⟩, t, rs⟩ := r1.ins_inv
      rw [hw.c, hC] at eC
      cases eC
      exact call_isC (cf.cls _ _ hC) pins s σ H _ _ Q I r ⟨a, dx, _, rfl, eH, k _ _ _ _ (.imm cc .bl_mk)⟩
    · cases e
  | _ => cases e

/-! ### xs[::-1] -/
theorem Reps.rev {w : Wd} {H : Hp} {xs : List D} {us : List V} {F : List Addr} (h : Reps w H xs us F) : ∃ G, Reps w H xs.reverse us.reverse G ∧ G.Perm F := by
  induction xs generalizing us F with
  | nil => rw [h.unnil.1, h.unnil.2]; exact ⟨[], .nil, List.Perm.refl _⟩
  | cons d xs ih =>
    obtain ⟨v, vr, F1, F2, rfl, rfl, h1, h2⟩ := h.uncons
    obtain ⟨G, a, b⟩ := ih h2
    refine ⟨G ++ (F1 ++ []), ?_, ?_⟩
    · rw [List.reverse_cons, List.reverse_cons]
      exact a.append (.cons h1 .nil)
    · rw [List.append_nil]
      exact (b.append_right F1).trans List.perm_append_comm
theorem VPost.perm {w : Wd} {H : Hp} {pls : List Bool} {Gs : List (List Addr)} {d : D} {v : V} {H' : Hp} {Z : Addr → Prop} {G : List Addr} (p : VPost w H pls Gs false d v H' Z G) {G' : List Addr} (r : Rep (w.wz Z) H' d v G') (h : G'.Perm G) : VPost w H pls Gs false d v H' Z G' :=
  ⟨by have := p.aft; exact this.perm h, r, fun e => by cases e⟩
theorem rev_all {p : Bool} {ps : List Bool} {x : V} {H : Hp} {Q : VK} (h : rV cl K CA .rev (p :: ps) false [x] H Q) : ∃ a xs, x = .ref a ∧ SqL K H a xs ∧ ∀ p, H p = none → Q (.ref p) (upd H p (.lst xs.reverse)) := by
  obtain ⟨w, ds, Gs, d, hw, c, e, k⟩ := h
  obtain ⟨d1, F, rfl, rfl, r1⟩ := c.rep.one
  have e : revD p d1 = some d := e
  unfold revD at e
  split at e
  · obtain ⟨ys, e1, e2⟩ := Option.map_eq_some_iff.mp e
    cases e2
    obtain ⟨rfl, a, us, Gc, rfl, ea, rs, hsub⟩ := kids_lst e1 r1
    obtain ⟨G2, r2, s2⟩ := rs.rev
    refine ⟨a, us, rfl, SqL.of ea, fun l hl => ?_⟩
    have so : Gc.Sublist (owned (p :: ps) [F]) := hsub.trans (List.sublist_append_left _ _)
    have ne : ∀ z, H z ≠ none → z ≠ l := fun z h e => h (e ▸ hl)
    have mem : ∀ z ∈ G2, z ∈ owned (p :: ps) [F] := fun z hz => so.subset (s2.mem_iff.mp hz)
    refine k (.ref l) _ w.Fz (l :: G2) ⟨⟨fun a q => upd_ne (ne a (q.elim (c.zl a) fun h => h)), fun _ h => h, fun _ h => .inl h, fun a q => by rw [upd_ne (ne a (c.zl a q))]; exact c.zl a q, fun a q => ?_, ?_, fun a q => by rw [upd_ne (ne a q)]; exact q⟩,
      .lst_mk upd_same (r2.stays (Wd.Le.refl w) (c.stays hl r2.live)), fun e => by cases e⟩
    · rcases List.mem_cons.mp q with rfl | q
      · exact ⟨.inr hl, fun z => c.zl _ z hl⟩
      · exact ⟨.inl (mem a q), c.nz a (mem a q)⟩
    · refine List.nodup_cons.mpr ⟨fun q => c.owned_live l (mem l q) hl, ?_⟩
      exact (s2.nodup_iff).mpr (c.nd.sublist so)
  · cases e

/-! ### f-strings -/
def txtV : List V → Option Str
  | [] => some Str.empty
  | .str x :: r => (txtV r).map (x ++ ·)
  | .int i :: r => (txtI i).bind fun x => (txtV r).map (x ++ ·)
  | _ => none
theorem fstr_txt : ∀ {ds : List D} {vs : List V} {Gs : List (List Addr)} {w : Wd} {H : Hp} {x : Str}, RepL w H ds vs Gs → fstr ds = some x → txtV vs = some x
  | [], [], [], _, _, _, _, e => e
  | .str y :: ds, v :: vs, G :: Gs, _, _, _, h, e => by
    obtain ⟨rfl, _⟩ := h.1.str_inv
    simp only [fstr, Option.map_eq_some_iff] at e
    obtain ⟨z, e1, rfl⟩ := e
    simp only [txtV, fstr_txt h.2 e1, Option.map_some]
  | .int y :: ds, v :: vs, G :: Gs, _, _, _, h, e => by
    obtain ⟨rfl, _⟩ := h.1.int_inv
    simp only [fstr, Option.bind_eq_some_iff, Option.map_eq_some_iff] at e
    obtain ⟨t, e0, z, e1, rfl⟩ := e
    simp only [txtV, fstr_txt h.2 e1, e0, Option.map_some, Option.bind_some]
  | .non :: _, _, _, _, _, _, _, e => by simp [fstr] at e
  | .bl _ :: _, _, _, _, _, _, _, e => by simp [fstr] at e
  | .tup _ :: _, _, _, _, _, _, _, e => by simp [fstr] at e
  | .lst _ _ :: _, _, _, _, _, _, _, e => by simp [fstr] at e
  | .dic _ _ _ :: _, _, _, _, _, _, _, e => by simp [fstr] at e
  | .ins _ _ _ _ :: _, _, _, _, _, _, _, e => by simp [fstr] at e
  | .scr _ :: _, _, _, _, _, _, _, e => by simp [fstr] at e
  | _ :: _, [], _, _, _, _, h, _ => h.elim
  | _ :: _, _ :: _, [], _, _, _, h, _ => h.elim
  | [], _ :: _, _, _, _, _, h, _ => h.elim
  | [], [], _ :: _, _, _, _, h, _ => h.elim
/-- the parts of an f-string and the operands -/
inductive FParts (X : Cx) (cl : Call) (CA : Nat → Option Addr) : List Expr → MEs → Prop where
  | nil : FParts X cl CA [] .nil
  | txt {e : Expr} {m : ME} {es : List Expr} {ms : MEs} (h : PE X e (tE cl X.K CA m)) (c : ∃ x, m = .ks x) (r : FParts X cl CA es ms) : FParts X cl CA (e :: es) (.cons m ms)
  | fmt {e : Expr} {m : ME} {es : List Expr} {ms : MEs} (h : PE X e (tFmt (tE cl X.K CA m))) (r : FParts X cl CA es ms) : FParts X cl CA (e :: es) (.cons m ms)
def fW (acc : Str) (ds : List D) : Prop := ∃ x, fstr ds = some x ∧ acc.length + x.length ≤ lim
theorem str_append_assoc (a b c : Str) : a ++ b ++ c = a ++ (b ++ c) := by
  show Str.mk _ = Str.mk _
  congr 1
  exact Array.append_assoc
theorem str_len_append (a b : Str) : (a ++ b).length = a.length + b.length := by
  show (Array.size (a.cps ++ b.cps)) = _
  rw [Array.size_append]; rfl
theorem f_step {ms : MEs} {acc : Str} {σ : St} {H1 : Hp} {Q : VK} {x : V} {d : D} {w : Wd} {G : List Addr} (rr : Rep w H1 d x G)
    (q : tP cl K CA (fun ds => fW acc (d :: ds)) ms σ H1 fun vs H2 => ∀ y, txtV (x :: vs) = some y → Q (.str (acc ++ y)) H2) :
    ∃ y : Str, ((d = .str y ∧ x = .str y) ∨ ∃ i : Int, x = .int i ∧ txtI i = some y) ∧ (acc ++ y).length ≤ lim ∧ y.length ≤ lim ∧ tP cl K CA (fW (acc ++ y)) ms σ H1 fun vs H2 => ∀ z, txtV vs = some z → Q (.str (acc ++ y ++ z)) H2 := by
  obtain ⟨ds, z, e1, e2⟩ := tP_W q
  have key : ∀ y : Str, (∀ ds, fstr (d :: ds) = (fstr ds).map (y ++ ·)) → (∀ vs, txtV (x :: vs) = (txtV vs).map (y ++ ·)) → (acc ++ y).length ≤ lim ∧ y.length ≤ lim ∧ tP cl K CA (fW (acc ++ y)) ms σ H1 fun vs H2 => ∀ z, txtV vs = some z → Q (.str (acc ++ y ++ z)) H2 := by
    intro y h1 h2
    rw [h1] at e1
    obtain ⟨z', e3, rfl⟩ := Option.map_eq_some_iff.mp e1
    rw [str_len_append] at e2
    refine ⟨by rw [str_len_append]; omega, by omega, tP_mono q (fun ds hw => ?_) fun vs H2 k z hz => ?_⟩
    · obtain ⟨z2, e4, e5⟩ := hw
      rw [h1] at e4
      obtain ⟨z3, e6, rfl⟩ := Option.map_eq_some_iff.mp e4
      refine ⟨z3, e6, ?_⟩
      rw [str_len_append] at e5 ⊢
      omega
    · rw [str_append_assoc]
      exact k _ (by rw [h2, hz]; rfl)
  cases d with
  | str y =>
    obtain ⟨rfl, _⟩ := rr.str_inv
    exact ⟨y, .inl ⟨rfl, rfl⟩, key y (fun _ => rfl) fun _ => rfl⟩
  | int i =>
    obtain ⟨rfl, _⟩ := rr.int_inv
    simp only [fstr, Option.bind_eq_some_iff] at e1
    obtain ⟨y, e0, _⟩ := e1
    exact ⟨y, .inr ⟨i, rfl, e0⟩, key y (fun ds => by simp only [fstr, e0, Option.bind_some]) fun vs => by simp only [txtV, e0, Option.bind_some]⟩
  | _ => simp [fstr] at e1
theorem fparts_run {es : List Expr} {ms : MEs} (h : FParts X cl CA es ms) : ∃ ts, PJ X es ts ∧ ∀ (acc : Str) (σ : St) (H : Hp) (Q : VK), tP cl X.K CA (fW acc) ms σ H (fun vs H1 => ∀ y, txtV vs = some y → Q (.str (acc ++ y)) H1) →
    tJs ts acc σ H fun out H1 => Q (.str out) H1 := by
  induction h with
  | nil =>
    refine ⟨[], .nil, fun acc σ H Q h => ?_⟩
    have := tP_nil h Str.empty rfl
    rw [show acc ++ Str.empty = acc from by show Str.mk _ = acc; cases acc; simp [Str.empty]] at this
    exact this
  | @txt e m es ms h c r ih =>
    obtain ⟨ts, pj, ih⟩ := ih
    refine ⟨_, .cons h pj, fun acc σ H Q q => ?_⟩
    refine tG_mono (tP_consW q) fun x H1 ⟨d, ⟨w, G, hw, rr⟩, ⟨ρ, ρ', ee⟩, q1⟩ => ?_
    obtain ⟨y, hy, l1, l2, q2⟩ := f_step rr q1
    obtain ⟨t, rfl⟩ := c
    simp only [ev, Option.some.injEq, Prod.mk.injEq] at ee
    obtain ⟨rfl, _⟩ := ee
    obtain ⟨rfl, _⟩ := rr.str_inv
    rcases hy with ⟨_, e2⟩ | ⟨i, e2, _⟩
    · cases e2
      exact ⟨_, rfl, lim_line l1, ih _ _ _ _ q2⟩
    · cases e2
  | @fmt e m es ms h r ih =>
    obtain ⟨ts, pj, ih⟩ := ih
    refine ⟨_, .cons h pj, fun acc σ H Q q => ?_⟩
    refine tG_mono (tP_consW q) fun x H1 ⟨d, ⟨w, G, hw, rr⟩, _, q1⟩ => ?_
    obtain ⟨y, hy, l1, l2, q2⟩ := f_step rr q1
    rcases hy with ⟨_, rfl⟩ | ⟨i, rfl, hi⟩
    · exact .inl ⟨y, rfl, lim_line l2, y, rfl, lim_line l1, ih _ _ _ _ q2⟩
    · unfold txtI at hi
      split at hi
      · rename_i hl
        cases hi
        exact .inr ⟨i, rfl, hl, _, rfl, lim_line l1, ih _ _ _ _ q2⟩
      · cases hi
theorem opD_fst {ps : List Bool} {ds : List D} : opD .fst ps ds = (fstr ds).bind fun x => if x.length ≤ lim then some (.str x) else none := by
  simp only [opD]
/-- an f-string of two parts or more -/
theorem pe_fst {e1 e2 : Expr} {es : List Expr} {ms : MEs} {pos : Pos} (h : FParts X cl CA (e1 :: e2 :: es) ms) : PE X (.JoinedStr (e1 :: e2 :: es) pos) (tE cl X.K CA (.op .fst ms)) := by
  obtain ⟨ts, pj, k⟩ := fparts_run h
  refine PE.imp (pe_joined pj) fun σ H Q q => k Str.empty σ H Q (tP_mono (op_glue q) (fun ds hd => ?_) fun vs H1 hr y hy => ?_)
  · obtain ⟨d, hd⟩ := Option.isSome_iff_exists.mp hd
    have hd : opD .fst ms.pls ds = some d := hd
    rw [opD_fst] at hd
    obtain ⟨x, e1, e2⟩ := Option.bind_eq_some_iff.mp hd
    split at e2
    · rename_i hl
      exact ⟨x, e1, by show 0 + _ ≤ _; omega⟩
    · cases e2
  · obtain ⟨w, ds, Gs, d, hw, c, e, k⟩ := hr
    have hd : opD .fst ms.pls ds = some d := e
    rw [opD_fst] at hd
    obtain ⟨x, e1, e2⟩ := Option.bind_eq_some_iff.mp hd
    split at e2
    · cases e2
      have := fstr_txt c.rep e1
      rw [hy] at this
      cases this
      rw [show Str.empty ++ y = y from by show Str.mk _ = y; cases y; simp [Str.empty]]
      exact k _ _ _ _ (.imm c .str_mk)
    · cases e2
end Mp
set_option Elab.async false
set_option linter.all false
set_option maxRecDepth 100000
set_option maxHeartbeats 2000000
/-! # Mp: rules of expressions -/
namespace Mp
open PySem L2
variable {X : Cx} {cl : Call} {K : PySem.W.Frag} {CA : Nat → Option Addr}

/-- a name that is seen -/
structure NameOk (X : Cx) (i : Nat) (x : Str) : Prop where
  n : X.N[i]? = some x
  v : Vis X.env.scope x
  d : (x == ("__debug__" : Str)) = false
  c : (x == ("__classdict__" : Str)) = false

theorem r_var {i : Nat} {x : Str} {pos : Pos} (h : NameOk X i x) : PE X (.Name x pos) (tE cl X.K CA (.var i)) := by
  refine PE.imp (pe_var h.n h.v h.d h.c) fun σ H Q q => ?_
  obtain ⟨w, P, ρ, F, d, ρ', hw, s, e, k⟩ := q
  simp only [ev, Option.map_eq_some_iff, Prod.mk.injEq] at e
  obtain ⟨d', e, rfl, rfl⟩ := e
  obtain ⟨v, F1, h1, h2, h3⟩ := s.env.get e
  exact ⟨v, h1, k v H w.Fz F1 F ⟨by simpa [ME.pl] using s.aft, s.env, h2, fun _ => h3, fun _ => ⟨rfl, rfl, fun _ _ => rfl⟩⟩⟩
theorem r_mv {i : Nat} {x : Str} {pos : Pos} (h : NameOk X i x) : PE X (.Name x pos) (tE cl X.K CA (.mv i)) := by
  refine PE.imp (pe_var h.n h.v h.d h.c) fun σ H Q q => ?_
  obtain ⟨w, P, ρ, F, d, ρ', hw, s, e, k⟩ := q
  simp only [ev, Option.map_eq_some_iff, Prod.mk.injEq] at e
  obtain ⟨d', e, rfl, rfl⟩ := e
  obtain ⟨v, F1, F2, h1, h2, h3, h4⟩ := s.env.take e
  exact ⟨v, h1, k v H w.Fz F1 F2 ⟨by simpa [ME.pl] using s.aft.perm h4.symm, h3, h2, fun e => (by cases e), fun e => by cases e⟩⟩
/-- a frozen part of what is held -/
theorem Aft.frz {Fz P : Addr → Prop} {F : List Addr} {H : Hp} {Z : Addr → Prop} {H' : Hp} {G K : List Addr} (a : Aft Fz P F H Z H' (G ++ K)) (hg : ∀ x ∈ G, H' x ≠ none) : Aft Fz P F H (fun x => Z x ∨ x ∈ G) H' K :=
  ⟨a.fr, fun x q => .inl (a.mono x q), fun x q => q.elim (a.grow x) fun q => .inr (a.new x (List.mem_append_left _ q)).1, fun x q => q.elim (a.liv x) (hg x),
    fun x q => ⟨(a.new x (List.mem_append_right _ q)).1, fun z => z.elim (a.new x (List.mem_append_right _ q)).2 fun z => (List.nodup_append.mp a.nd).2.2 x z x q rfl⟩, (List.nodup_append.mp a.nd).2.1, a.keep⟩
theorem r_fz {i : Nat} {x : Str} {pos : Pos} (h : NameOk X i x) : PE X (.Name x pos) (tE cl X.K CA (.fz i)) := by
  refine PE.imp (pe_var h.n h.v h.d h.c) fun σ H Q q => ?_
  obtain ⟨w, P, ρ, F, d, ρ', hw, s, e, k⟩ := q
  simp only [ev, Option.map_eq_some_iff, Prod.mk.injEq] at e
  obtain ⟨d', e, rfl, rfl⟩ := e
  obtain ⟨v, F1, F2, h1, h2, h3, h4⟩ := s.env.take e
  have a1 : Aft w.Fz P F H (fun x => w.Fz x ∨ x ∈ F1) H F2 := (s.aft.perm h4.symm).frz h2.live
  have le : w.Le (w.wz fun x => w.Fz x ∨ x ∈ F1) := Wd.Le.wz fun _ h => .inl h
  have r2 : Rep (w.wz fun x => w.Fz x ∨ x ∈ F1) H d'.fz v [] := h2.fz (fun _ h => .inl h) fun a q => .inr q
  have e3 : REnv (w.wz fun x => w.Fz x ∨ x ∈ F1) H σ (ρ.set i none) F2 := h3.stays le ⟨fun _ _ => rfl, fun _ _ => rfl, fun _ _ => rfl⟩
  obtain ⟨F', e4, p4⟩ := e3.put gI_set_none h1 r2
  rw [List.set_set] at e4
  exact ⟨v, h1, k v H _ [] F' ⟨by simpa [ME.pl] using a1.perm (by simpa using p4), e4, r2, fun e => (by cases e), fun e => by cases e⟩⟩
theorem tE_c {m : ME} {d : D} {v : V} {σ : St} {H : Hp} {Q : VK} (hp : m.pl = false) (he : ∀ ρ, ev cl m ρ = some (d, ρ)) (hr : ∀ w : Wd, Rep w H d v []) (q : tE cl K CA m σ H Q) : Q v H := by
  obtain ⟨w, P, ρ, F, d', ρ', hw, s, e, k⟩ := q
  rw [he] at e
  cases e
  exact k v H w.Fz [] F ⟨by simpa [hp] using s.aft, s.env, hr _, fun _ a q => (by cases q), fun _ => ⟨rfl, rfl, fun _ _ => rfl⟩⟩
theorem r_kn {j pos} : PE X (.Constant .none j pos) (tE cl X.K CA .kn) := PE.imp pe_non fun _ _ _ q => tE_c rfl (fun _ => by simp [ev]) (fun _ => .non_mk) q
theorem r_kb {b j pos} : PE X (.Constant (.bool b) j pos) (tE cl X.K CA (.kb b)) := PE.imp pe_bl fun _ _ _ q => tE_c rfl (fun _ => by simp [ev]) (fun _ => .bl_mk) q
theorem r_ki {i j pos} : PE X (.Constant (.int i) j pos) (tE cl X.K CA (.ki i)) := PE.imp pe_int fun _ _ _ q => tE_c rfl (fun _ => by simp [ev]) (fun _ => .int_mk) q
theorem r_ks {x j pos} : PE X (.Constant (.str x) j pos) (tE cl X.K CA (.ks x)) := PE.imp pe_str fun _ _ _ q => tE_c rfl (fun _ => by simp [ev]) (fun _ => .str_mk) q
theorem sc_rep {d : D} {v : V} (h : d.sc = some v) {w : Wd} {H : Hp} : Rep w H d v [] := by
  cases d <;> simp [D.sc] at h <;> subst h
  · exact .non_mk
  · exact .bl_mk
  · exact .int_mk
  · exact .str_mk
theorem r_gl {x : Str} {d : D} {v : V} {u : Value} {pos : Pos} (hs : d.sc = some v) (hg : Gl X x) (hm : X.mg x = some u) (r : RelV v u) (hd : (x == ("__debug__" : Str)) = false) : PE X (.Name x pos) (tE cl X.K CA (.gl x d)) :=
  PE.imp (pe_glob hg hm r hd) fun _ _ _ q => tE_c rfl (fun _ => by simp [ev]) (fun _ => sc_rep hs) q

theorem r_fr {e : Expr} {a : ME} (hp : a.pl = false) (h : PE X e (tE cl X.K CA a)) : PE X e (tE cl X.K CA (.fr a)) := by
  refine PE.imp h fun σ H Q q => ?_
  obtain ⟨w, P, ρ, F, d, ρ', hw, s, e, k⟩ := q
  simp only [ev, hp, Bool.false_eq_true, if_false, Option.map_eq_some_iff, Prod.mk.injEq] at e
  obtain ⟨⟨d', ρ1⟩, e, rfl, rfl⟩ := e
  refine ⟨w, P, ρ, F, d', ρ1, hw, s, e, fun v H' Z G F' p => ?_⟩
  have a1 := p.aft
  rw [hp] at a1
  have a1 : Aft w.Fz P F H Z H' (G ++ F') := a1
  refine k v H' (fun x => Z x ∨ x ∈ G) [] F' ⟨by simpa [ME.pl] using a1.frz p.rep.live, ?_, ?_, fun e => (by cases e), fun e => ?_⟩
  · exact REnv.stays (w := w.wz Z) (w' := w.wz fun x => Z x ∨ x ∈ G) ⟨rfl, rfl, fun _ h => .inl h, fun _ h => h⟩ p.env ⟨fun _ _ => rfl, fun _ _ => rfl, fun _ _ => rfl⟩
  · exact p.rep.fz (w := w.wz Z) (Z := fun x => Z x ∨ x ∈ G) (fun _ h => .inl h) fun a q => .inr q
  · simp only [ME.still, Bool.and_eq_true] at e
    exact p.still e.1
/-- with all names lent out -/
theorem Sim.lend {w : Wd} {P : Addr → Prop} {σ : St} {ρ : Env} {H : Hp} {F : List Addr} (s : Sim w P σ ρ H F) : Sim (w.wb fun x => w.B x ∨ x ∈ F) (fun x => P x ∨ x ∈ F) σ (brE ρ) H [] :=
  ⟨s.env.br (fun _ h => .inl h) fun a q => .inr q, List.nodup_nil, fun a q => (by cases q), fun a q => q.imp (s.bp a) fun h => h, fun a q => q.elim (fun z => s.liv a (.inl z)) fun q => q.elim (fun z => s.liv a (.inr z)) fun z => s.env.live a z⟩
theorem r_bw {e : Expr} {a : ME} (h : PE X e (tE cl X.K CA a)) : PE X e (tE cl X.K CA (.bw a)) := by
  refine PE.imp h fun σ H Q q => ?_
  obtain ⟨w, P, ρ, F, d, ρ', hw, s, e, k⟩ := q
  simp only [ev] at e
  split at e
  · rename_i hst
    obtain ⟨⟨d1, ρ1⟩, e1, e⟩ := Option.bind_eq_some_iff.mp e
    split at e
    · rename_i hnb
      simp only [Option.some.injEq, Prod.mk.injEq] at e
      obtain ⟨rfl, rfl⟩ := e
      refine ⟨w.wb fun x => w.B x ∨ x ∈ F, fun x => P x ∨ x ∈ F, brE ρ, [], d1, ρ1, ⟨hw.k, hw.c⟩, s.lend, e1, fun v H' Z G F' p => ?_⟩
      obtain ⟨t1, t2, t3⟩ := p.still hst
      subst t2
      have a1 : Aft w.Fz (fun x => P x ∨ x ∈ F) [] H Z H' ((if a.pl then [] else G) ++ []) := p.aft
      rw [List.append_nil] at a1
      have hG : ∀ x ∈ G, x ∈ (if a.pl then [] else G) := fun x hx => by
        cases hp : a.pl with
        | false => exact hx
        | true => exact absurd (p.pl hp x hx) (by simp)
      have rr : Rep (w.wz Z) H' d1 v G := p.rep.nb w.B hnb
      have lv : ∀ x ∈ F, H x ≠ none := s.env.live
      have nz : ∀ x ∈ F, ¬ Z x := fun x hx z => by
        rcases a1.grow x z with q | q | q
        · exact (s.dis x hx).1 q
        · cases q
        · exact lv x hx q
      refine k v H' Z G F ⟨?_, ?_, rr, fun e => (by cases e), fun _ => ⟨rfl, rfl, t3⟩⟩
      · show Aft w.Fz P F H Z H' (G ++ F)
        refine ⟨fun x q => a1.fr x (q.imp (fun h => h) .inl), a1.mono, fun x q => ?_, a1.liv, fun x q => ?_, ?_, a1.keep⟩
        · rcases a1.grow x q with q | q | q
          · exact .inl q
          · cases q
          · exact .inr (.inr q)
        · rcases List.mem_append.mp q with q | q
          · obtain ⟨z1, z2⟩ := a1.new x (hG x q)
            refine ⟨z1.elim (fun z => by cases z) .inr, z2⟩
          · exact ⟨.inl q, nz x q⟩
        · have ndG : G.Nodup := by
            cases hp : a.pl with
            | false => have := a1.nd; rw [hp] at this; exact this
            | true =>
              cases G with
              | nil => exact List.nodup_nil
              | cons g G => exact absurd (p.pl hp g List.mem_cons_self) (by simp)
          refine List.nodup_append.mpr ⟨ndG, s.nd, fun x q y r e => ?_⟩
          subst e
          obtain ⟨z1, z2⟩ := a1.new x (hG x q)
          exact z1.elim (fun z => by cases z) fun z => lv x r z
      · exact REnv.stays (w := w) (Wd.Le.wz a1.mono) s.env ⟨fun x hx => a1.fr x (.inr (.inr hx)), fun x hx => a1.fr x (.inl hx), fun x hx => a1.fr x (.inr (.inl (s.bp x hx)))⟩
    · cases e
  · cases e
end Mp
set_option Elab.async false
set_option linter.all false
set_option maxRecDepth 100000
set_option maxHeartbeats 2000000
/-! # Mp: rules of operators, tests, displays -/
namespace Mp
open PySem L2
open C8 (InsC call_isC)
variable {X : Cx} {cl : Call} {K : PySem.W.Frag} {CA : Nat → Option Addr}

/-! ### one behind another, the first one holding nothing -/
theorem tG_seq {a : ME} {pl st st' : Bool} {f : Env → Option (D × Env)} {g : D → Env → Option (D × Env)} {σ : St} {H : Hp} {Q : VK} (hst : st = true → a.still = true ∧ st' = true)
    (hf : ∀ ρ x, f ρ = some x → ∃ d ρ1, ev cl a ρ = some (d, ρ1) ∧ d.sh = true ∧ g d ρ1 = some x) (h : tG K CA pl st f σ H Q) :
    tE cl K CA a σ H fun v H1 => ∃ d w, Wd.In w K CA ∧ Rep w H1 d v [] ∧ tG K CA pl st' (g d) σ H1 Q := by
  obtain ⟨w, P, ρ, F, d2, ρ2, hw, s, e, k⟩ := h
  obtain ⟨d, ρ1, e1, hs, e2⟩ := hf _ _ e
  refine ⟨w, P, ρ, F, d, ρ1, hw, s, e1, fun v H1 Z1 G F1 p => ?_⟩
  have e0 : G = [] := p.rep.sh hs
  subst e0
  have a1 : Aft w.Fz P F H Z1 H1 ([] ++ F1) := by
    have := p.aft
    cases hp : a.pl <;> rw [hp] at this <;> exact this
  have s1 := a1.sim s (fun x q => by cases q) p.env
  refine ⟨d, w.wz Z1, hw.wz _, p.rep, w.wz Z1, _, ρ1, F1, d2, ρ2, hw.wz _, s1, e2, fun v2 H2 Z2 G2 F2 p2 => ?_⟩
  refine k v2 H2 Z2 G2 F2 ⟨a1.trans (fun x q => by cases q) p2.aft, p2.env, p2.rep, p2.pl, fun hh => ?_⟩
  obtain ⟨h1, h2⟩ := hst hh
  obtain ⟨q1, q2, q3⟩ := p.still h1
  obtain ⟨r1, r2, r3⟩ := p2.still h2
  exact ⟨r1.trans q1, r2.trans q2, fun x q => (r3 x (by rw [q3 x q]; exact q)).trans (q3 x q)⟩
theorem tG_imp {pl st st' : Bool} {f g : Env → Option (D × Env)} {σ : St} {H : Hp} {Q : VK} (h : tG K CA pl st f σ H Q) (hst : st = true → st' = true) (hf : ∀ ρ x, f ρ = some x → g ρ = some x) : tG K CA pl st' g σ H Q := by
  obtain ⟨w, P, ρ, F, d, ρ', hw, s, e, k⟩ := h
  exact ⟨w, P, ρ, F, d, ρ', hw, s, hf _ _ e, fun v H' Z G F' p => k v H' Z G F' ⟨p.aft, p.env, p.rep, p.pl, fun q => p.still (hst q)⟩⟩
theorem tG_some {pl st : Bool} {f : Env → Option (D × Env)} {σ : St} {H : Hp} {Q : VK} (h : tG K CA pl st f σ H Q) : ∃ ρ x, f ρ = some x := by
  obtain ⟨w, P, ρ, F, d, ρ', hw, s, e, k⟩ := h
  exact ⟨ρ, _, e⟩
/-- nothing is done any more -/
theorem tG_end {st : Bool} {d : D} {v : V} {σ : St} {H : Hp} {Q : VK} (hr : ∀ w : Wd, Rep w H d v []) (h : tG K CA false st (fun ρ => some (d, ρ)) σ H Q) : Q v H := by
  obtain ⟨w, P, ρ, F, d', ρ', hw, s, e, k⟩ := h
  cases e
  exact k v H w.Fz [] F ⟨by simpa using s.aft, s.env, hr _, fun e => (by cases e), fun _ => ⟨rfl, rfl, fun _ _ => rfl⟩⟩
theorem tG_adj {a : ME} {st : Bool} {σ : St} {H : Hp} {Q : VK} (hst : st = true → a.still = true) (h : tG K CA false st (fun ρ => adj a.pl (ev cl a ρ)) σ H Q) : tE cl K CA a σ H Q := by
  obtain ⟨w, P, ρ, F, d, ρ', hw, s, e, k⟩ := h
  unfold adj at e
  obtain ⟨⟨d1, ρ1⟩, e1, e2⟩ := Option.bind_eq_some_iff.mp e
  split at e2
  · cases e2
  · rename_i hc
    cases e2
    refine ⟨w, P, ρ, F, _, _, hw, s, e1, fun v H' Z G F' p => k v H' Z G F' ⟨?_, p.env, p.rep, fun e => (by cases e), fun q => p.still (hst q)⟩⟩
    have := p.aft
    cases hp : a.pl with
    | false => rw [hp] at this; exact this
    | true =>
      rw [hp] at this
      rw [hp, Bool.true_and] at hc
      have hs : d.sh = true := by cases h : d.sh <;> simp [h] at hc <;> rfl
      have e0 : G = [] := p.rep.sh hs
      subst e0
      exact this
theorem asBl_eq {d : D} {b : Bool} (h : asBl d = some b) : d = .bl b := by
  cases d <;> simp [asBl] at h
  subst h; rfl

/-! ### tests -/
theorem t_not {a : ME} {σ : St} {H : Hp} {Q : VK} (q : tE cl K CA (.not a) σ H Q) : tE cl K CA a σ H fun x H1 => ∃ c, x = .bl c ∧ Q (.bl (!c)) H1 := by
  refine tG_mono (tG_seq (a := a) (st' := true) (g := fun d ρ => (asBl d).map fun b => (.bl (!b), ρ)) (fun h => ⟨h, rfl⟩) (fun ρ x e => ?_) q) fun v H1 ⟨d, w, hw, r, q1⟩ => ?_
  · simp only [ev] at e
    obtain ⟨⟨d, ρ1⟩, e1, e2⟩ := Option.bind_eq_some_iff.mp e
    obtain ⟨b, e3, e4⟩ := Option.map_eq_some_iff.mp e2
    refine ⟨d, ρ1, e1, by rw [show d = D.bl _ from asBl_eq e3]; rfl, e2⟩
  · obtain ⟨ρ, x, e⟩ := tG_some q1
    obtain ⟨b, e3, e4⟩ := Option.map_eq_some_iff.mp e
    obtain rfl := asBl_eq e3
    obtain ⟨rfl, _⟩ := r.bl_inv
    exact ⟨b, rfl, tG_end (d := .bl (!b)) (fun _ => .bl_mk) q1⟩
theorem t_bl {b : ME} {st : Bool} {σ : St} {H : Hp} {Q : VK} (hst : st = true → b.still = true) (q : tG K CA false st (fun ρ => (ev cl b ρ).bind fun s => (asBl s.1).map fun j => (D.bl j, s.2)) σ H Q) : tE cl K CA b σ H Q := by
  refine tG_mono (tG_seq (a := b) (st' := true) (g := fun d ρ => (asBl d).map fun b => (.bl b, ρ)) (fun h => ⟨hst h, rfl⟩) (fun ρ x e => ?_) q) fun v H1 ⟨d, w, hw, r, q1⟩ => ?_
  · obtain ⟨⟨d, ρ1⟩, e1, e2⟩ := Option.bind_eq_some_iff.mp e
    obtain ⟨b, e3, e4⟩ := Option.map_eq_some_iff.mp e2
    exact ⟨d, ρ1, e1, by rw [show d = D.bl _ from asBl_eq e3]; rfl, e2⟩
  · obtain ⟨ρ, x, e⟩ := tG_some q1
    obtain ⟨b, e3, e4⟩ := Option.map_eq_some_iff.mp e
    obtain rfl := asBl_eq e3
    obtain ⟨rfl, _⟩ := r.bl_inv
    exact tG_end (d := .bl b) (fun _ => .bl_mk) q1
theorem t_and {a b : ME} {σ : St} {H : Hp} {Q : VK} (q : tE cl K CA (.and a b) σ H Q) : tE cl K CA a σ H fun x H1 => ∃ c, x = .bl c ∧ if c = true then tE cl K CA b σ H1 Q else Q (.bl false) H1 := by
  refine tG_mono (tG_seq (a := a) (st' := (ME.and a b).still) (g := fun d ρ => (asBl d).bind fun k => if k then (ev cl b ρ).bind fun s => (asBl s.1).map fun j => (.bl j, s.2) else some (.bl false, ρ)) (fun h => ⟨?_, h⟩) (fun ρ x e => ?_) q) fun v H1 ⟨d, w, hw, r, q1⟩ => ?_
  · simp only [ME.still, Bool.and_eq_true] at h; exact h.1
  · simp only [ev] at e
    obtain ⟨⟨d, ρ1⟩, e1, e2⟩ := Option.bind_eq_some_iff.mp e
    obtain ⟨b, e3, e4⟩ := Option.bind_eq_some_iff.mp e2
    exact ⟨d, ρ1, e1, by rw [show d = D.bl _ from asBl_eq e3]; rfl, e2⟩
  · obtain ⟨ρ, x, e⟩ := tG_some q1
    obtain ⟨c, e3, _⟩ := Option.bind_eq_some_iff.mp e
    obtain rfl := asBl_eq e3
    obtain ⟨rfl, _⟩ := r.bl_inv
    refine ⟨c, rfl, ?_⟩
    cases c with
    | true => exact t_bl (fun h => by simp only [ME.still, Bool.and_eq_true] at h; exact h.2) q1
    | false => exact tG_end (d := .bl false) (fun _ => .bl_mk) q1
theorem t_or {a b : ME} {σ : St} {H : Hp} {Q : VK} (q : tE cl K CA (.or a b) σ H Q) : tE cl K CA a σ H fun x H1 => ∃ c, x = .bl c ∧ if c = true then Q (.bl true) H1 else tE cl K CA b σ H1 Q := by
  refine tG_mono (tG_seq (a := a) (st' := (ME.or a b).still) (g := fun d ρ => (asBl d).bind fun k => if k then some (.bl true, ρ) else (ev cl b ρ).bind fun s => (asBl s.1).map fun j => (.bl j, s.2)) (fun h => ⟨?_, h⟩) (fun ρ x e => ?_) q) fun v H1 ⟨d, w, hw, r, q1⟩ => ?_
  · simp only [ME.still, Bool.and_eq_true] at h; exact h.1
  · simp only [ev] at e
    obtain ⟨⟨d, ρ1⟩, e1, e2⟩ := Option.bind_eq_some_iff.mp e
    obtain ⟨b, e3, e4⟩ := Option.bind_eq_some_iff.mp e2
    exact ⟨d, ρ1, e1, by rw [show d = D.bl _ from asBl_eq e3]; rfl, e2⟩
  · obtain ⟨ρ, x, e⟩ := tG_some q1
    obtain ⟨c, e3, _⟩ := Option.bind_eq_some_iff.mp e
    obtain rfl := asBl_eq e3
    obtain ⟨rfl, _⟩ := r.bl_inv
    refine ⟨c, rfl, ?_⟩
    cases c with
    | false => exact t_bl (fun h => by simp only [ME.still, Bool.and_eq_true] at h; exact h.2) q1
    | true => exact tG_end (d := .bl true) (fun _ => .bl_mk) q1
theorem t_ite {c a b : ME} {σ : St} {H : Hp} {Q : VK} (q : tE cl K CA (.ite c a b) σ H Q) : tE cl K CA c σ H fun x H1 => ∃ k, x = .bl k ∧ if k = true then tE cl K CA a σ H1 Q else tE cl K CA b σ H1 Q := by
  refine tG_mono (tG_seq (a := c) (st' := (ME.ite c a b).still) (g := fun d ρ => (asBl d).bind fun k => if k then adj a.pl (ev cl a ρ) else adj b.pl (ev cl b ρ)) (fun h => ⟨?_, h⟩) (fun ρ x e => ?_) q) fun v H1 ⟨d, w, hw, r, q1⟩ => ?_
  · simp only [ME.still, Bool.and_eq_true] at h; exact h.1.1
  · simp only [ev] at e
    obtain ⟨⟨d, ρ1⟩, e1, e2⟩ := Option.bind_eq_some_iff.mp e
    obtain ⟨b, e3, e4⟩ := Option.bind_eq_some_iff.mp e2
    exact ⟨d, ρ1, e1, by rw [show d = D.bl _ from asBl_eq e3]; rfl, e2⟩
  · obtain ⟨ρ, x, e⟩ := tG_some q1
    obtain ⟨k, e3, _⟩ := Option.bind_eq_some_iff.mp e
    obtain rfl := asBl_eq e3
    obtain ⟨rfl, _⟩ := r.bl_inv
    refine ⟨k, rfl, ?_⟩
    cases k with
    | true => exact tG_adj (fun h => by simp only [ME.still, Bool.and_eq_true] at h; exact h.1.2) q1
    | false => exact tG_adj (fun h => by simp only [ME.still, Bool.and_eq_true] at h; exact h.2) q1

theorem r_not {e : Expr} {a : ME} {pos : Pos} (h : PE X e (tE cl X.K CA a)) : PE X (.UnaryOp .Not e pos) (tE cl X.K CA (.not a)) := PE.imp (pe_not h) fun _ _ _ q => t_not q
theorem r_and {x y : Expr} {rest : List Expr} {a b : ME} {pos : Pos} (h : PE X x (tE cl X.K CA a)) (h' : PE X (.BoolOp .And (y :: rest) pos) (tE cl X.K CA b)) : PE X (.BoolOp .And (x :: y :: rest) pos) (tE cl X.K CA (.and a b)) := PE.imp (pe_and h h') fun _ _ _ q => t_and q
theorem r_or {x y : Expr} {rest : List Expr} {a b : ME} {pos : Pos} (h : PE X x (tE cl X.K CA a)) (h' : PE X (.BoolOp .Or (y :: rest) pos) (tE cl X.K CA b)) : PE X (.BoolOp .Or (x :: y :: rest) pos) (tE cl X.K CA (.or a b)) := PE.imp (pe_or h h') fun _ _ _ q => t_or q
/-- an expression as a test -/
abbrev tT (cl : Call) (K : PySem.W.Frag) (CA : Nat → Option Addr) (m : ME) : TT := tB (tE cl K CA m)
theorem r_ite {c x y : Expr} {k a b : ME} {pos : Pos} (hc : PT X c (tT cl X.K CA k)) (h : PE X x (tE cl X.K CA a)) (h' : PE X y (tE cl X.K CA b)) : PE X (.IfExp c x y pos) (tE cl X.K CA (.ite k a b)) :=
  PE.imp (pe_ifExp hc h h') fun _ _ _ q => tG_mono (t_ite q) fun _ _ q => q
theorem rt_not {e : Expr} {a : ME} {pos : Pos} (h : PT X e (tT cl X.K CA a)) : PT X (.UnaryOp .Not e pos) (tT cl X.K CA (.not a)) :=
  PT.imp (pt_not h) fun _ _ _ q => tG_mono (t_not q) fun _ _ ⟨c, e, d, e2, q⟩ => ⟨c, e, by cases e2; exact q⟩
theorem rw_and {x y : Expr} {rest : List Expr} {a b : ME} {pos : Pos} (h : PT X x (tT cl X.K CA a)) (h' : PW X (.BoolOp .And (y :: rest) pos) (tT cl X.K CA b)) : PW X (.BoolOp .And (x :: y :: rest) pos) (tT cl X.K CA (.and a b)) :=
  PW.imp (pw_and h h') fun _ _ _ q => tG_mono (t_and q) fun _ _ ⟨c, e, q⟩ => ⟨c, e, by
    cases c with
    | true => exact q
    | false => obtain ⟨d, e2, q⟩ := q; cases e2; exact q⟩
theorem rw_or {x y : Expr} {rest : List Expr} {a b : ME} {pos : Pos} (h : PT X x (tT cl X.K CA a)) (h' : PW X (.BoolOp .Or (y :: rest) pos) (tT cl X.K CA b)) : PW X (.BoolOp .Or (x :: y :: rest) pos) (tT cl X.K CA (.or a b)) :=
  PW.imp (pw_or h h') fun _ _ _ q => tG_mono (t_or q) fun _ _ ⟨c, e, q⟩ => ⟨c, e, by
    cases c with
    | false => exact q
    | true => obtain ⟨d, e2, q⟩ := q; cases e2; exact q⟩
theorem rw_one {x : Expr} {a : ME} {op : BoolOp} {pos : Pos} (h : PT X x (tT cl X.K CA a)) : PW X (.BoolOp op [x] pos) (tT cl X.K CA a) := by
  cases op
  · exact pw_and1 h
  · exact pw_or1 h
/-- a plain test -/
def plainT : Expr → Bool
  | .UnaryOp .Not _ _ => false
  | .BoolOp .. => false
  | .IfExp .. => false
  | .Compare .. => false
  | _ => true
theorem rt_val {e : Expr} {m : ME} (he : plainT e = true) (h : PE X e (tE cl X.K CA m)) : PT X e (tT cl X.K CA m) := by
  refine pt_val h fun whole => ?_
  cases e with
  | UnaryOp op x p => cases op <;> first | rfl | (cases he; done)
  | BoolOp _ _ _ => cases he
  | IfExp _ _ _ _ => cases he
  | Compare _ _ _ _ => cases he
  | _ => rfl

/-! ### operators -/
theorem two_glue {o : Op} {a b : ME} {σ : St} {H : Hp} {Q : VK} (q : tE cl K CA (.op o (.cons a (.cons b .nil))) σ H Q) :
    tE cl K CA a σ H fun x H1 => tE cl K CA b σ H1 fun y H2 => rV cl K CA o [a.pl, b.pl] (ME.op o (.cons a (.cons b .nil))).pl [x, y] H2 Q :=
  tG_mono (tP_cons (op_glue q)) fun _ _ q1 => tG_mono (tP_cons q1) fun _ _ q2 => tP_nil q2
theorem one_glue {o : Op} {a : ME} {σ : St} {H : Hp} {Q : VK} (q : tE cl K CA (.op o (.cons a .nil)) σ H Q) :
    tE cl K CA a σ H fun x H1 => rV cl K CA o [a.pl] (ME.op o (.cons a .nil)).pl [x] H1 Q :=
  tG_mono (tP_cons (op_glue q)) fun _ _ q1 => tP_nil q1
section
variable {x y z : Expr} {a b c : ME} {pos : Pos}
theorem r_bin {o : Bop} (h : PE X x (tE cl X.K CA a)) (h' : PE X y (tE cl X.K CA b)) : PE X (.BinOp x (bopOf o) y pos) (tE cl X.K CA (.op (.bin o) (.cons a (.cons b .nil)))) :=
  PE.imp (pe_op (or_bin (cl := cl) o) h h') fun _ _ _ q => two_glue q
theorem r_neg (h : PE X x (tE cl X.K CA a)) : PE X (.UnaryOp .USub x pos) (tE cl X.K CA (.op .neg (.cons a .nil))) :=
  PE.imp (pe_un (un_all (cl := cl) (CA := CA) (pls := [a.pl])) h) fun _ _ _ q => one_glue q
/-- a comparison by values: what is asked of it -/
def CmpR (X : Cx) (cl : Call) (CA : Nat → Option Addr) (o : Cop) : Prop := ∀ p q : Bool, OpR X (compareOp (copOf o)) (fun x y H Q => rV cl X.K CA (.cmp o) [p, q] false [x, y] H Q)
theorem r_cmp {o : Cop} (ho : CmpR X cl CA o) (hm : behindInMarks (copOf o) y = false) (h : PE X x (tE cl X.K CA a)) (h' : PE X y (tE cl X.K CA b)) : PE X (.Compare x [copOf o] [y] pos) (tE cl X.K CA (.op (.cmp o) (.cons a (.cons b .nil)))) :=
  PE.imp (pe_cmpR (ho a.pl b.pl) h h' hm) fun _ _ _ q => two_glue q
theorem rt_cmp {o : Cop} (ho : CmpR X cl CA o) (hm : behindInMarks (copOf o) y = false) (h : PE X x (tE cl X.K CA a)) (h' : PE X y (tE cl X.K CA b)) : PT X (.Compare x [copOf o] [y] pos) (tT cl X.K CA (.op (.cmp o) (.cons a (.cons b .nil)))) :=
  PT.imp (pt_cmpR (ho a.pl b.pl) h h' hm) fun _ _ _ q => two_glue q
/-- scalars need nothing of the heap -/
theorem sc_ctx {K : PySem.W.Frag} {CA : Nat → Option Addr} {d e : D} {x y : V} {H : Hp} {pls : List Bool} (h : d.sc = some x) (h' : e.sc = some y) : ∃ w : Wd, w.In K CA ∧ VCtx w H [d, e] [x, y] pls [[], []] := by
  have no : ∀ a ∈ owned pls [([] : List Addr), []], False := fun a q => by
    obtain ⟨G, q1, q2⟩ := mem_owned q
    simp only [List.mem_cons, List.not_mem_nil, or_false, or_self] at q1
    subst q1; cases q2
  have e0 : owned pls [([] : List Addr), []] = [] := List.eq_nil_iff_forall_not_mem.mpr fun a q => no a q
  exact ⟨⟨K, CA, fun _ => False, fun _ => False⟩, ⟨rfl, rfl⟩, ⟨sc_rep h, sc_rep h', trivial⟩, fun _ h => h.elim, fun _ h => h.elim, fun a q => (no a q).elim, by rw [e0]; exact List.nodup_nil⟩
theorem t_chn {o o' : Cop} {σ : St} {H : Hp} {Q : VK} (q : tE cl K CA (.chn o o' a b c) σ H Q) : tChain (fun x y H Q => rC K CA o [] [x, y] H Q) (fun x y H Q => rC K CA o' [] [x, y] H Q) (tE cl K CA a) (tE cl K CA b) (tE cl K CA c) σ H Q := by
  have st : ∀ {p : Prop}, ((ME.chn o o' a b c).still = true) → (a.still = true → b.still = true → c.still = true → p) → p := fun h k => by
    simp only [ME.still, Bool.and_eq_true] at h
    exact k h.1.1 h.1.2 h.2
  refine tG_mono (tG_seq (a := a) (st' := (ME.chn o o' a b c).still) (g := fun d ρ => if d.sc.isSome then (ev cl b ρ).bind fun s => if s.1.sc.isSome then (cmpD o d s.1).bind fun k =>
      if k then (ev cl c s.2).bind fun t => if t.1.sc.isSome then (cmpD o' s.1 t.1).map fun d => (.bl d, t.2) else none
      else some (.bl false, s.2) else none else none) (fun h => ⟨st h fun x _ _ => x, h⟩) (fun ρ x e => ?_) q) fun x H1 ⟨d, w, hw, r, q1⟩ => ?_
  · simp only [ev] at e
    obtain ⟨⟨d, ρ1⟩, e1, e2⟩ := Option.bind_eq_some_iff.mp e
    refine ⟨d, ρ1, e1, ?_, e2⟩
    split at e2
    · rename_i hs
      obtain ⟨v, hv⟩ := Option.isSome_iff_exists.mp hs
      cases d <;> simp [D.sc] at hv <;> rfl
    · cases e2
  obtain ⟨ρ, xx, e⟩ := tG_some q1
  split at e
  rotate_left
  · cases e
  rename_i hs
  simp only [if_pos hs] at q1
  obtain ⟨x', hx⟩ := Option.isSome_iff_exists.mp hs
  obtain ⟨rfl, _⟩ := r.sc_inv hx
  refine tG_mono (tG_seq (a := b) (st' := (ME.chn o o' a b c).still) (g := fun s ρ => if s.sc.isSome then (cmpD o d s).bind fun k =>
      if k then (ev cl c ρ).bind fun t => if t.1.sc.isSome then (cmpD o' s t.1).map fun d => (.bl d, t.2) else none
      else some (.bl false, ρ) else none) (fun h => ⟨st h fun _ x _ => x, h⟩) (fun ρ x e => ?_) q1) fun y H2 ⟨d2, w2, hw2, r2, q2⟩ => ?_
  · obtain ⟨⟨d, ρ1⟩, e1, e2⟩ := Option.bind_eq_some_iff.mp e
    refine ⟨d, ρ1, e1, ?_, e2⟩
    split at e2
    · rename_i hs
      obtain ⟨v, hv⟩ := Option.isSome_iff_exists.mp hs
      cases d <;> simp [D.sc] at hv <;> rfl
    · cases e2
  obtain ⟨ρ2, xx2, e⟩ := tG_some q2
  split at e
  rotate_left
  · cases e
  rename_i hs2
  simp only [if_pos hs2] at q2
  obtain ⟨y', hy⟩ := Option.isSome_iff_exists.mp hs2
  obtain ⟨rfl, _⟩ := r2.sc_inv hy
  obtain ⟨k, e1, e2⟩ := Option.bind_eq_some_iff.mp e
  simp only [e1, Option.bind_some] at q2
  obtain ⟨w3, hw3, c3⟩ := sc_ctx (K := K) (CA := CA) (H := H2) (pls := []) hx hy
  refine ⟨w3, _, _, k, hw3, c3, ⟨d, d2, rfl, e1⟩, k, rfl, ?_⟩
  cases k with
  | false => exact tG_end (d := .bl false) (fun _ => .bl_mk) q2
  | true =>
    refine tG_mono (tG_seq (a := c) (st' := (ME.chn o o' a b c).still) (g := fun t ρ => if t.sc.isSome then (cmpD o' d2 t).map fun d => (.bl d, ρ) else none) (fun h => ⟨st h fun _ _ x => x, h⟩) (fun ρ x e => ?_) q2) fun z H4 ⟨d4, w4, hw4, r4, q4⟩ => ?_
    · obtain ⟨⟨d, ρ1⟩, e1, e2⟩ := Option.bind_eq_some_iff.mp e
      refine ⟨d, ρ1, e1, ?_, e2⟩
      split at e2
      · rename_i hs
        obtain ⟨v, hv⟩ := Option.isSome_iff_exists.mp hs
        cases d <;> simp [D.sc] at hv <;> rfl
      · cases e2
    obtain ⟨ρ4, xx4, e⟩ := tG_some q4
    split at e
    rotate_left
    · cases e
    rename_i hs4
    simp only [if_pos hs4] at q4
    obtain ⟨z', hz⟩ := Option.isSome_iff_exists.mp hs4
    obtain ⟨rfl, _⟩ := r4.sc_inv hz
    obtain ⟨k2, e3, e4⟩ := Option.map_eq_some_iff.mp e
    simp only [e3, Option.map_some] at q4
    obtain ⟨w5, hw5, c5⟩ := sc_ctx (K := K) (CA := CA) (H := H4) (pls := []) hy hz
    exact ⟨w5, _, _, k2, hw5, c5, ⟨d2, d4, rfl, e3⟩, tG_end (d := .bl k2) (fun _ => .bl_mk) q4⟩
theorem r_chn {o o' : Cop} (hu : X.A.units + 65 < cLine) (hm : lastMarks [copOf o, copOf o'] [y, z] = false) (h : PE X x (tE cl X.K CA a)) (h' : PE X y (tE cl X.K CA b)) (h2 : PE X z (tE cl X.K CA c)) :
    PE X (.Compare x [copOf o, copOf o'] [y, z] pos) (tE cl X.K CA (.chn o o' a b c)) := PE.imp (pe_chain (or_cmp (CA := CA) (pls := []) hu o) (or_cmp (CA := CA) (pls := []) hu o') h h' h2 hm) fun _ _ _ q => t_chn q
theorem rt_chn {o o' : Cop} (hu : X.A.units + 65 < cLine) (hm : lastMarks [copOf o, copOf o'] [y, z] = false) (h : PE X x (tE cl X.K CA a)) (h' : PE X y (tE cl X.K CA b)) (h2 : PE X z (tE cl X.K CA c)) :
    PT X (.Compare x [copOf o, copOf o'] [y, z] pos) (tT cl X.K CA (.chn o o' a b c)) := PT.imp (pt_chain (or_cmp (CA := CA) (pls := []) hu o) (or_cmp (CA := CA) (pls := []) hu o') h h' h2 hm) fun _ _ _ q => t_chn q

/-! ### subscripts, slices, fields -/
theorem r_sub (hu : X.A.units + 65 < cLine) (hs : noSl y = true) (h : PE X x (tE cl X.K CA a)) (h' : PE X y (tE cl X.K CA b)) : PE X (.Subscript x y pos) (tE cl X.K CA (.op .sub (.cons a (.cons b .nil)))) :=
  PE.imp (pe_ix (ix_all (cl := cl) (CA := CA) (p := a.pl) (ps := [b.pl]) (by omega)) h h' (plainIx hs)) fun _ _ _ q => two_glue q
theorem r_fld (cf : ClsOk X.K CA) {f : Str} (hb : attributeBase x f X.env (eval x X.env) = eval x X.env) (h : PE X x (tE cl X.K CA a)) : PE X (.Attribute x f pos) (tE cl X.K CA (.op (.fld f) (.cons a .nil))) :=
  PE.imp (pe_fld h hb) fun _ _ _ q => tG_mono (one_glue q) fun _ _ q => fld_all cf q
theorem r_rev {k : Nat} {p1 p2 p3 : Pos} (h : PE X x (tE cl X.K CA a)) : PE X (.Subscript x (.Slice none none (some (.UnaryOp .USub (.Constant (.int 1) k p1) p2)) p3) pos) (tE cl X.K CA (.op .rev (.cons a .nil))) :=
  PE.imp (pe_revL h) fun _ _ _ q => tG_mono (one_glue q) fun _ _ q => rev_all q
/-- what a slice is asked -/
theorem sl_of {o : Op} {lo hi : Option Int} {p : Bool} {ps : List Bool} {x : V} {r : List V} {H : Hp} {Q : VK} (ho : ∀ ds d, opV cl o (p :: ps) ds = some d → (match ds with | d :: _ => cutD p d lo hi | [] => none) = some d) (h : rV cl K CA o (p :: ps) false (x :: r) H Q) :
    ∃ p ps r, rB K CA (fun ds => match ds with | d :: _ => cutD p d lo hi | [] => none) (p :: ps) (x :: r) H Q := by
  obtain ⟨w, ds, Gs, d, hw, c, e, k⟩ := h
  exact ⟨p, ps, r, w, ds, Gs, d, hw, c, ho ds d e, k⟩
theorem r_slc00 {p2 : Pos} (h : PE X x (tE cl X.K CA a)) : PE X (.Subscript x (.Slice none none none p2) pos) (tE cl X.K CA (.op (.slc false false) (.cons a .nil))) :=
  PE.imp (pe_slice (sl_all (CA := CA)) h po_none po_none) fun _ _ _ q => tG_mono (one_glue q) fun _ _ q => sl_of (fun ds d e => by
    match ds, e with
    | [d1], e => exact e
    | [], e => exact e
    | _ :: _ :: _, e => exact absurd (show none = some d from e) (by simp)) q
theorem slc_int1 {l hh : Bool} {pls : List Bool} {d1 : D} {x : D} (h : (l, hh) = (true, false) ∨ (l, hh) = (false, true)) (e : (opD (.slc l hh) pls [d1, x]).isSome = true) : ∃ i, x = .int i := by
  rcases h with h | h <;> cases h <;> cases x <;> first | exact ⟨_, rfl⟩ | cases e
theorem opD_len1 {l hh : Bool} {pls : List Bool} {ds : List D} (h : (l, hh) = (true, false) ∨ (l, hh) = (false, true)) (e : (opD (.slc l hh) pls ds).isSome = true) : ∃ d x, ds = [d, .int x] := by
  match ds, e with
  | [d1, x], e =>
    obtain ⟨i, rfl⟩ := slc_int1 h e
    exact ⟨d1, i, rfl⟩
  | [], e => rcases h with h | h <;> cases h <;> cases e
  | [_], e => rcases h with h | h <;> cases h <;> cases e
  | _ :: _ :: _ :: _, e => rcases h with h | h <;> cases h <;> simp [opD] at e
theorem slc1_tail {l hh : Bool} {i : Int} {lo hi : Option Int} (hl : (l, hh, lo, hi) = (true, false, some i, none) ∨ (l, hh, lo, hi) = (false, true, none, some i)) {p : Bool} {ps : List Bool} {v : V} {H : Hp} {Q : VK} (q : rV cl K CA (.slc l hh) (p :: ps) false [v, .int i] H Q) :
    ∃ p ps r, rB K CA (fun ds => match ds with | d :: _ => cutD p d lo hi | [] => none) (p :: ps) (v :: r) H Q := by
  obtain ⟨w, ds, Gs, dd, hw, c, e, k⟩ := q
  have e : opD (.slc l hh) (p :: ps) ds = some dd := e
  obtain ⟨d3, x3, e3⟩ := opD_len1 (ds := ds) (l := l) (hh := hh) (by rcases hl with h | h <;> cases h <;> simp) (by rw [e]; rfl)
  subst e3
  obtain ⟨_, _, _, _, e4, _, _, r4⟩ := c.rep.two'
  cases e4
  obtain ⟨e5, _⟩ := r4.int_inv
  cases e5
  refine ⟨p, ps, _, w, _, Gs, dd, hw, c, ?_, k⟩
  rcases hl with h | h <;> cases h <;> exact e
theorem r_slc10 {p2 : Pos} (h : PE X x (tE cl X.K CA a)) (h' : PE X y (tE cl X.K CA b)) : PE X (.Subscript x (.Slice (some y) none none p2) pos) (tE cl X.K CA (.op (.slc true false) (.cons a (.cons b .nil)))) :=
  PE.imp (pe_slice (sl_all (CA := CA)) h (po_some h') po_none) fun _ _ _ q => tG_mono (tP_consW (op_glue q)) fun v H1 ⟨d, _, _, q1⟩ => tG_mono (tP_consW q1) fun v2 H2 ⟨d2, ⟨w, G, hw, r⟩, _, q2⟩ => by
    obtain ⟨ds, hd⟩ := tP_W q2
    obtain ⟨d', i, e⟩ := opD_len1 (.inl rfl) (show (opD (.slc true false) _ (d :: d2 :: ds)).isSome = true from hd)
    cases e
    obtain ⟨rfl, _⟩ := r.int_inv
    exact ⟨i, rfl, slc1_tail (.inl rfl) (tP_nil q2)⟩
theorem r_slc01 {p2 : Pos} (h : PE X x (tE cl X.K CA a)) (h' : PE X y (tE cl X.K CA b)) : PE X (.Subscript x (.Slice none (some y) none p2) pos) (tE cl X.K CA (.op (.slc false true) (.cons a (.cons b .nil)))) :=
  PE.imp (pe_slice (sl_all (CA := CA)) h po_none (po_some h')) fun _ _ _ q => tG_mono (tP_consW (op_glue q)) fun v H1 ⟨d, _, _, q1⟩ => tG_mono (tP_consW q1) fun v2 H2 ⟨d2, ⟨w, G, hw, r⟩, _, q2⟩ => by
    obtain ⟨ds, hd⟩ := tP_W q2
    obtain ⟨d', i, e⟩ := opD_len1 (.inr rfl) (show (opD (.slc false true) _ (d :: d2 :: ds)).isSome = true from hd)
    cases e
    obtain ⟨rfl, _⟩ := r.int_inv
    exact ⟨i, rfl, slc1_tail (.inr rfl) (tP_nil q2)⟩
theorem opD_len2 {pls : List Bool} {ds : List D} (e : (opD (.slc true true) pls ds).isSome = true) : ∃ d x y, ds = [d, .int x, .int y] := by
  match ds, e with
  | [d1, x, y], e => cases x <;> cases y <;> first | exact ⟨_, _, _, rfl⟩ | cases e
  | [], e => simp [opD] at e
  | [_], e => simp [opD] at e
  | [_, _], e => simp [opD] at e
  | _ :: _ :: _ :: _ :: _, e => simp [opD] at e
theorem r_slc11 {p2 : Pos} (h : PE X x (tE cl X.K CA a)) (h' : PE X y (tE cl X.K CA b)) (h2 : PE X z (tE cl X.K CA c)) : PE X (.Subscript x (.Slice (some y) (some z) none p2) pos) (tE cl X.K CA (.op (.slc true true) (.cons a (.cons b (.cons c .nil))))) :=
  PE.imp (pe_slice (sl_all (CA := CA)) h (po_some h') (po_some h2)) fun _ _ _ q => tG_mono (tP_consW (op_glue q)) fun v H1 ⟨d, _, _, q1⟩ => tG_mono (tP_consW q1) fun v2 H2 ⟨d2, ⟨w, G, hw, r⟩, _, q2⟩ => by
    obtain ⟨ds, hd⟩ := tP_W q2
    obtain ⟨d', i, j, e⟩ := opD_len2 (show (opD (.slc true true) _ (d :: d2 :: ds)).isSome = true from hd)
    cases e
    obtain ⟨rfl, _⟩ := r.int_inv
    refine ⟨i, rfl, tG_mono (tP_consW q2) fun v3 H3 ⟨d3, ⟨w3, G3, hw3, r3⟩, _, q3⟩ => ?_⟩
    obtain ⟨ds3, hd3⟩ := tP_W q3
    obtain ⟨_, i2, j2, e⟩ := opD_len2 (show (opD (.slc true true) _ (d :: .int i :: d3 :: ds3)).isSome = true from hd3)
    cases e
    obtain ⟨rfl, _⟩ := r3.int_inv
    refine ⟨j2, rfl, ?_⟩
    obtain ⟨w, ds, Gs, dd, hw, cc, e, k⟩ := tP_nil q3
    have e : opD (.slc true true) [a.pl, b.pl, c.pl] ds = some dd := e
    obtain ⟨d3, x3, y3, e3⟩ := opD_len2 (ds := ds) (by rw [e]; rfl)
    subst e3
    obtain ⟨_, _, _, _, _, _, e4, _, _, r4, r5⟩ := cc.rep.three'
    cases e4
    obtain ⟨e5, _⟩ := r4.int_inv
    cases e5
    obtain ⟨e6, _⟩ := r5.int_inv
    cases e6
    exact ⟨_, _, _, w, _, Gs, dd, hw, cc, e, k⟩
end

/-! ### operand lists, argument lists -/
def noStar : Expr → Bool
  | .Starred .. => false
  | _ => true
theorem starE {e : Expr} {es : List Expr} {env : PySem.Env} (h : noStar e = true) : starEach (e :: es) env = (false, eval e env) :: starEach es env := by
  cases e <;> first | rfl | (cases h; done)
/-- operands and their terms -/
inductive Opds (X : Cx) (cl : Call) (CA : Nat → Option Addr) : List Expr → MEs → Prop where
  | nil : Opds X cl CA [] .nil
  | cons {e : Expr} {m : ME} {es : List Expr} {ms : MEs} (h : PE X e (tE cl X.K CA m)) (s : noStar e = true) (r : Opds X cl CA es ms) : Opds X cl CA (e :: es) (.cons m ms)
theorem Opds.star {es : List Expr} {ms : MEs} (h : Opds X cl CA es ms) : starEach es X.env = es.map fun e => (false, eval e X.env) := by
  induction h with
  | nil => rfl
  | cons h s r ih => rw [starE s, ih]; rfl
theorem Opds.noS {es : List Expr} {ms : MEs} (h : Opds X cl CA es ms) {pos : Pos} : (backTo pos (starEach es X.env)).any (·.1) = false := by
  rw [h.star]
  unfold backTo
  simp
theorem Opds.pa {es : List Expr} {ms : MEs} (h : Opds X cl CA es ms) : ∀ W, PA X es (tP cl X.K CA W ms) := by
  induction h with
  | nil => exact fun W => PA.imp pa_nil fun _ _ _ q => tP_nil q
  | cons h s r ih => exact fun W => PA.imp (pa_cons h (ih fun _ => True) (starE s)) fun _ _ _ q => tP_cons q
end Mp
set_option Elab.async false
set_option linter.all false
set_option maxRecDepth 100000
set_option maxHeartbeats 2000000
/-! # Mp: rules of displays and of built-in calls -/
namespace Mp
open PySem L2
open C8 (InsC call_isC)
variable {X : Cx} {cl : Call} {K : PySem.W.Frag} {CA : Nat → Option Addr}

/-- behind a list of things that are kept -/
structure APost (w : Wd) (P : Addr → Prop) (σ : St) (ρ : Env) (H : Hp) (F : List Addr) (still : Bool) (ds : List D) (ρ' : Env) (vs : List V) (H' : Hp) (Z : Addr → Prop) (G F' : List Addr) : Prop where
  aft : Aft w.Fz P F H Z H' (G ++ F')
  env : REnv (w.wz Z) H' σ ρ' F'
  rep : Reps (w.wz Z) H' ds vs G
  still : still = true → ρ' = ρ ∧ F' = F ∧ ∀ a, H a ≠ none → H' a = H a
/-- things that are kept -/
def tAs (cl : Call) (K : PySem.W.Frag) (CA : Nat → Option Addr) (ms : MEs) : TA := fun σ H Q =>
  ∃ w P ρ F ds ρ', w.In K CA ∧ Sim w P σ ρ H F ∧ evAs cl ms ρ = some (ds, ρ') ∧ ∀ vs H' Z G F', APost w P σ ρ H F ms.still ds ρ' vs H' Z G F' → Q vs H'
theorem tAs_nil {σ : St} {H : Hp} {Q : List V → Hp → Prop} (h : tAs cl K CA .nil σ H Q) : Q [] H := by
  obtain ⟨w, P, ρ, F, ds, ρ', hw, s, e, k⟩ := h
  simp only [evAs, Option.some.injEq, Prod.mk.injEq] at e
  obtain ⟨rfl, rfl⟩ := e
  exact k [] H w.Fz [] F ⟨s.aft, s.env, .nil, fun _ => ⟨rfl, rfl, fun _ _ => rfl⟩⟩
theorem adj_eq {pl : Bool} {r : Option (D × Env)} {x : D × Env} (h : adj pl r = some x) : r = some x ∧ (pl = true → x.1.sh = true) := by
  unfold adj at h
  obtain ⟨y, e1, e2⟩ := Option.bind_eq_some_iff.mp h
  split at e2
  · cases e2
  · rename_i hc
    cases e2
    refine ⟨e1, fun hp => ?_⟩
    rw [hp, Bool.true_and] at hc
    cases h : x.1.sh <;> simp [h] at hc <;> rfl
/-- behind something that is kept -/
theorem EPost.own {w : Wd} {P : Addr → Prop} {σ : St} {ρ : Env} {H : Hp} {F : List Addr} {pl still : Bool} {d : D} {ρ' : Env} {v : V} {H' : Hp} {Z : Addr → Prop} {G F' : List Addr} (p : EPost w P σ ρ H F pl still d ρ' v H' Z G F')
    (h : pl = true → d.sh = true) : Aft w.Fz P F H Z H' (G ++ F') := by
  have a := p.aft
  cases pl with
  | false => exact a
  | true =>
    have e0 : G = [] := p.rep.sh (h rfl)
    subst e0
    exact a
theorem tAs_cons {m : ME} {ms : MEs} {σ : St} {H : Hp} {Q : List V → Hp → Prop} (h : tAs cl K CA (.cons m ms) σ H Q) :
    tE cl K CA m σ H fun x H1 => tAs cl K CA ms σ H1 fun xs H2 => Q (x :: xs) H2 := by
  obtain ⟨w, P, ρ, F, ds, ρ', hw, s, e, k⟩ := h
  simp only [evAs, Option.bind_eq_some_iff] at e
  obtain ⟨⟨d, ρ1⟩, e1, e⟩ := e
  obtain ⟨e1, hsh⟩ := adj_eq e1
  obtain ⟨⟨ds1, ρ2⟩, e2, e⟩ := Option.map_eq_some_iff.mp e
  simp only [Prod.mk.injEq] at e
  obtain ⟨rfl, rfl⟩ := e
  refine ⟨w, P, ρ, F, d, ρ1, hw, s, e1, fun v H1 Z1 G F1 p => ?_⟩
  have a1 := p.own hsh
  have s1 := a1.sim s p.rep.live p.env
  refine ⟨w.wz Z1, _, ρ1, F1, ds1, ρ2, hw.wz _, s1, e2, fun vs H2 Z2 G2 F2 p2 => ?_⟩
  have st : Stays (w.wz Z1) G H1 H2 := p2.aft.stays (w := w) s.bp
  refine k (v :: vs) H2 Z2 (G ++ G2) F2 ⟨by rw [List.append_assoc]; exact a1.trans p.rep.live p2.aft, p2.env, .cons (p.rep.stays (Wd.Le.wz p2.aft.mono) st) p2.rep, fun hst => ?_⟩
  simp only [MEs.still, Bool.and_eq_true] at hst
  obtain ⟨a1, a2, a3⟩ := p.still hst.1
  obtain ⟨b1, b2, b3⟩ := p2.still hst.2
  exact ⟨b1.trans a1, b2.trans a2, fun a q => (b3 a (by rw [a3 a q]; exact q)).trans (a3 a q)⟩
theorem Opds.as {es : List Expr} {ms : MEs} (h : Opds X cl CA es ms) : PA X es (tAs cl X.K CA ms) := by
  induction h with
  | nil => exact PA.imp pa_nil fun _ _ _ q => tAs_nil q
  | cons h s r ih => exact PA.imp (pa_cons h ih (starE s)) fun _ _ _ q => tAs_cons q

/-- a new object p made of what is kept -/
theorem aft_new {Fz P : Addr → Prop} {F : List Addr} {H : Hp} {Z : Addr → Prop} {H' : Hp} {K : List Addr} {p : Addr} {o : HO} (a : Aft Fz P F H Z H' K) (hp : H' p = none) (hl : ∀ x, Fz x ∨ P x → H x ≠ none) (hk : ∀ x ∈ K, H' x ≠ none) : Aft Fz P F H Z (upd H' p o) (p :: K) := by
  have ne : ∀ a, H' a ≠ none → a ≠ p := fun a h e => h (e ▸ hp)
  have hpn : H p = none := by
    cases e : H p with
    | none => rfl
    | some o => exact absurd hp (a.keep p (by rw [e]; simp))
  refine ⟨fun x q => ?_, a.mono, a.grow, fun x q => by rw [upd_ne (ne x (a.liv x q))]; exact a.liv x q, fun x q => ?_, List.nodup_cons.mpr ⟨fun q => hk p q hp, a.nd⟩, fun x q => by rw [upd_ne (ne x (a.keep x q))]; exact a.keep x q⟩
  · have : H' x ≠ none := by rw [a.fr x q]; exact hl x q
    rw [upd_ne (ne x this)]; exact a.fr x q
  · rcases List.mem_cons.mp q with rfl | q
    · exact ⟨.inr hpn, fun z => a.liv _ z hp⟩
    · exact a.new x q
theorem aft_newT {Fz P : Addr → Prop} {F : List Addr} {H : Hp} {Z : Addr → Prop} {H' : Hp} {K : List Addr} {p : Addr} {o : HO} (a : Aft Fz P F H Z H' K) (hp : H' p = none) (hl : ∀ x, Fz x ∨ P x → H x ≠ none) (hk : ∀ x ∈ K, H' x ≠ none) : Aft Fz P F H (fun x => Z x ∨ x = p) (upd H' p o) K := by
  have ne : ∀ a, H' a ≠ none → a ≠ p := fun a h e => h (e ▸ hp)
  have hpn : H p = none := by
    cases e : H p with
    | none => rfl
    | some o => exact absurd hp (a.keep p (by rw [e]; simp))
  refine ⟨fun x q => ?_, fun x q => .inl (a.mono x q), fun x q => q.elim (a.grow x) fun e => .inr (.inr (e ▸ hpn)), fun x q => ?_, fun x q => ⟨(a.new x q).1, fun z => z.elim (a.new x q).2 fun e => hk x q (e ▸ hp)⟩, a.nd, fun x q => by rw [upd_ne (ne x (a.keep x q))]; exact a.keep x q⟩
  · have : H' x ≠ none := by rw [a.fr x q]; exact hl x q
    rw [upd_ne (ne x this)]; exact a.fr x q
  · rcases q with q | rfl
    · rw [upd_ne (ne x (a.liv x q))]; exact a.liv x q
    · rw [upd_same]; simp
section
variable {es : List Expr} {ms : MEs} {pos : Pos}
theorem r_lst (h : Opds X cl CA es ms) : PE X (.List es pos) (tE cl X.K CA (.lst ms)) := by
  refine PE.imp (pe_lst h.as) fun σ H Q q => ?_
  obtain ⟨w, P, ρ, F, d, ρ', hw, s, e, k⟩ := q
  simp only [ev] at e
  obtain ⟨⟨ds, ρ1⟩, e1, e2⟩ := Option.bind_eq_some_iff.mp e
  split at e2
  · rename_i hl
    cases e2
    refine ⟨w, P, ρ, F, ds, ρ1, hw, s, e1, fun vs H' Z G F' p => ⟨by rw [p.rep.len]; exact lim_line hl, fun l hlf => ?_⟩⟩
    have lv : ∀ x ∈ G ++ F', H' x ≠ none := fun x q => (List.mem_append.mp q).elim (p.rep.live x) (p.env.live x)
    have ne : ∀ a, H' a ≠ none → a ≠ l := fun a h e => h (e ▸ hlf)
    have st : ∀ {G : List Addr}, (∀ x ∈ G, H' x ≠ none) → Stays (w.wz Z) G H' (upd H' l (.lst vs)) := fun hg => stays_upd hlf p.aft.liv (fun a q => by rw [p.aft.fr a (.inr (s.bp a q))]; exact s.liv a (.inr (s.bp a q))) hg
    refine k (.ref l) _ Z (l :: G) F' ⟨?_, p.env.stays (Wd.Le.refl _) (st p.env.live), .lst_mk upd_same (p.rep.stays (Wd.Le.refl _) (st p.rep.live)), fun e => (by cases e), fun hst => ?_⟩
    · exact aft_new p.aft hlf s.liv lv
    · obtain ⟨b1, b2, b3⟩ := p.still hst
      refine ⟨b1, b2, fun a q => ?_⟩
      rw [upd_ne (ne a (by rw [b3 a q]; exact q))]
      exact b3 a q
  · cases e2
theorem r_tup {x1 : Nat} (h : Opds X cl CA es ms) : PE X (.Tuple es x1 pos) (tE cl X.K CA (.tup ms)) := by
  refine PE.imp (pe_tup h.as) fun σ H Q q => ?_
  obtain ⟨w, P, ρ, F, d, ρ', hw, s, e, k⟩ := q
  simp only [ev] at e
  obtain ⟨⟨ds, ρ1⟩, e1, e2⟩ := Option.bind_eq_some_iff.mp e
  split at e2
  · rename_i hl
    cases e2
    refine ⟨w, P, ρ, F, ds, ρ1, hw, s, e1, fun vs H' Z G F' p => ⟨by rw [p.rep.len]; exact lim_line hl, fun l hlf => ?_⟩⟩
    have lv : ∀ x ∈ G ++ F', H' x ≠ none := fun x q => (List.mem_append.mp q).elim (p.rep.live x) (p.env.live x)
    have ne : ∀ a, H' a ≠ none → a ≠ l := fun a h e => h (e ▸ hlf)
    have st : ∀ {G : List Addr}, (∀ x ∈ G, H' x ≠ none) → Stays (w.wz Z) G H' (upd H' l (.tup vs)) := fun hg => stays_upd hlf p.aft.liv (fun a q => by rw [p.aft.fr a (.inr (s.bp a q))]; exact s.liv a (.inr (s.bp a q))) hg
    have le : (w.wz Z).Le (w.wz fun x => Z x ∨ x = l) := ⟨rfl, rfl, fun _ h => .inl h, fun _ h => h⟩
    refine k (.ref l) _ (fun x => Z x ∨ x = l) G F' ⟨?_, p.env.stays le (st p.env.live), Rep.tup_mk (w := w.wz fun x => Z x ∨ x = l) (.inr rfl) upd_same (p.rep.stays le (st p.rep.live)), fun e => (by cases e), fun hst => ?_⟩
    · exact aft_newT p.aft hlf s.liv lv
    · obtain ⟨b1, b2, b3⟩ := p.still hst
      refine ⟨b1, b2, fun a q => ?_⟩
      rw [upd_ne (ne a (by rw [b3 a q]; exact q))]
      exact b3 a q
  · cases e2
end

/-! ### calls of built-ins -/
def biName : Bi → Str
  | .len => "len" | .abs => "abs" | .min => "min" | .max => "max" | .sum => "sum" | .any => "any" | .all => "all" | .divmod => "divmod" | .int => "int" | .str => "str" | .repr => "repr"
  | .list => "list" | .tuple => "tuple" | .dict => "dict" | .sorted => "sorted" | .isin _ => "isinstance"
/-- a type or a function -/
def biTy : Bi → Bool
  | .int => true | .str => true | .list => true | .tuple => true | .dict => true
  | _ => false
def biVal (b : Bi) : Value := match b with
  | .len => .builtin "len" | .abs => .builtin "abs" | .min => .builtin "min" | .max => .builtin "max" | .sum => .builtin "sum" | .any => .builtin "any" | .all => .builtin "all" | .divmod => .builtin "divmod" | .repr => .builtin "repr" | .sorted => .builtin "sorted" | .isin _ => .builtin "isinstance"
  | .int => .type "int" | .str => .type "str" | .list => .type "list" | .tuple => .type "tuple" | .dict => .type "dict"
def biOk : Bi → Bool
  | .sorted => false
  | .isin _ => false
  | _ => true
theorem bi_boot (b : Bi) : bootBuiltins (biName b) = some (biVal b) := by
  cases b <;> first | decide +kernel | (show bootBuiltins "isinstance" = some (.builtin "isinstance"); decide +kernel)
theorem bi_main (b : Bi) : biName b ≠ "__name__" ∧ (biName b == ("__debug__" : Str)) = false := by
  cases b <;> first | decide +kernel | (show ("isinstance" : Str) ≠ "__name__" ∧ (("isinstance" : Str) == ("__debug__" : Str)) = false; decide +kernel)
theorem CallR.imp {f : Value} {r r' : List V → Hp → VK → Prop} (h : CallR X f r) (q : ∀ vs H Q, r' vs H Q → r vs H Q) : CallR X f r' := fun pins s σ H xs us Q I rx hr => h pins s σ H xs us Q I rx (q _ _ _ hr)
theorem bi_cr1 (hc : X.calm = true) (hg : X.A.guards = some []) (hu : X.A.units + 65 < cLine) {b : Bi} (hb : biOk b = true) : CallR X (biVal b) (fun vs H Q => ∃ p, rB X.K CA (biD b [p]) [p] vs H Q) := by
  cases b with
  | len => exact CallR.imp (cr_len (CA := CA)) fun _ _ _ ⟨p, h⟩ => ⟨_, h⟩
  | abs => exact CallR.imp (cr_abs (CA := CA)) fun _ _ _ ⟨p, h⟩ => ⟨_, h⟩
  | min => exact CallR.imp (cr_min' (CA := CA) hc) fun _ _ _ ⟨p, h⟩ => ⟨_, h⟩
  | max => exact CallR.imp (cr_max' (CA := CA) hc) fun _ _ _ ⟨p, h⟩ => ⟨_, h⟩
  | sum => exact CallR.imp (cr_sum' (CA := CA) hc) fun _ _ _ ⟨p, h⟩ => ⟨_, h⟩
  | any => exact CallR.imp (cr_any' (CA := CA) hc) fun _ _ _ ⟨p, h⟩ => ⟨_, h⟩
  | all => exact CallR.imp (cr_all' (CA := CA) hc) fun _ _ _ ⟨p, h⟩ => ⟨_, h⟩
  | divmod => exact CallR.imp (cr_divmod (CA := CA)) fun _ _ _ ⟨p, h⟩ => ⟨_, h⟩
  | int => exact CallR.imp (cr_int (CA := CA)) fun _ _ _ ⟨p, h⟩ => ⟨_, h⟩
  | str => exact CallR.imp (cr_str (CA := CA)) fun _ _ _ ⟨p, h⟩ => ⟨_, h⟩
  | repr => exact CallR.imp (cr_repr (CA := CA) hg hu) fun _ _ _ ⟨p, h⟩ => ⟨_, h⟩
  | list => exact cr_list hc
  | tuple => exact cr_tuple
  | dict => exact cr_dict hc
  | sorted => cases hb
  | isin _ => cases hb
def biOk2 : Bi → Bool
  | .min => true | .max => true | .divmod => true
  | _ => false
theorem bi_cr2 (hc : X.calm = true) {b : Bi} (hb : biOk2 b = true) : CallR X (biVal b) (fun vs H Q => ∃ p q, rB X.K CA (biD b [p, q]) [p, q] vs H Q) := by
  cases b with
  | min => exact CallR.imp (cr_min' (CA := CA) hc) fun _ _ _ ⟨p, q, h⟩ => ⟨_, h⟩
  | max => exact CallR.imp (cr_max' (CA := CA) hc) fun _ _ _ ⟨p, q, h⟩ => ⟨_, h⟩
  | divmod => exact CallR.imp (cr_divmod (CA := CA)) fun _ _ _ ⟨p, q, h⟩ => ⟨_, h⟩
  | _ => cases hb
section
variable {e1 e2 : Expr} {a b : ME} {pos p1 : Pos}
theorem Opds.one (h : PE X e1 (tE cl X.K CA a)) (s : noStar e1 = true) : Opds X cl CA [e1] (.cons a .nil) := .cons h s .nil
theorem pe_biCall {f : Bi} {r : List V → Hp → VK → Prop} {es : List Expr} {ms : MEs} {e : Expr} {m : ME} (hc : CallR X (biVal f) r) (hg : Gl X (biName f)) (hm : X.mg (biName f) = none) (h : Opds X cl CA (e :: es) (.cons m ms)) (W : List D → Prop) :
    PE X (.Call (.Name (biName f) p1) (e :: es) [] pos) (tCB r (tP cl X.K CA W (.cons m ms))) := by
  have hv := bi_boot f
  obtain ⟨n1, n2⟩ := bi_main f
  cases h with
  | cons h s hr =>
    cases f <;> first
      | exact pe_callB hc hg hm hv (Opds.pa (.cons h s hr) W) n1 n2 (starE s) hr.noS
      | exact pe_callTy hc hg hm hv (Opds.pa (.cons h s hr) W) n1 n2 (starE s) hr.noS
theorem r_bi1 {f : Bi} (hc : X.calm = true) (hgd : X.A.guards = some []) (hu : X.A.units + 65 < cLine) (hb : biOk f = true) (hg : Gl X (biName f)) (hm : X.mg (biName f) = none) (h : PE X e1 (tE cl X.K CA a)) (s : noStar e1 = true) :
    PE X (.Call (.Name (biName f) p1) [e1] [] pos) (tE cl X.K CA (.op (.bi f) (.cons a .nil))) :=
  PE.imp (pe_biCall (bi_cr1 (CA := CA) hc hgd hu hb) hg hm (Opds.one h s) _) fun _ _ _ q => tP_mono (op_glue q) (fun _ h => h) fun vs H ⟨w, ds, Gs, d, hw, c, e, k⟩ => ⟨a.pl, w, ds, Gs, d, hw, c, e, k⟩
theorem r_bi2 {f : Bi} (hc : X.calm = true) (hb : biOk2 f = true) (hg : Gl X (biName f)) (hm : X.mg (biName f) = none) (h : PE X e1 (tE cl X.K CA a)) (s : noStar e1 = true) (h' : PE X e2 (tE cl X.K CA b)) (s' : noStar e2 = true) :
    PE X (.Call (.Name (biName f) p1) [e1, e2] [] pos) (tE cl X.K CA (.op (.bi f) (.cons a (.cons b .nil)))) :=
  PE.imp (pe_biCall (bi_cr2 (CA := CA) hc hb) hg hm (.cons h s (Opds.one h' s')) _) fun _ _ _ q => tP_mono (op_glue q) (fun _ h => h) fun vs H ⟨w, ds, Gs, d, hw, c, e, k⟩ => ⟨a.pl, b.pl, w, ds, Gs, d, hw, c, e, k⟩
/-- isinstance(x, t), isinstance(x, (t, ..)) -/
theorem r_isin1 {t : String} {x : Str} {p2 : Pos} (hg : Gl X "isinstance") (hm : X.mg "isinstance" = none) (hx : Gl X x) (hmx : X.mg x = none) (hv : bootBuiltins x = some (.type t)) (hn : x ≠ "__name__") (hd : (x == ("__debug__" : Str)) = false) (h : PE X e1 (tE cl X.K CA a)) (s : noStar e1 = true) :
    PE X (.Call (.Name "isinstance" p1) [e1, .Name x p2] [] pos) (tE cl X.K CA (.op (.bi (.isin [t])) (.cons a .nil))) := by
  have ha : PA X [e1, .Name x p2] (tCons (tE cl X.K CA a) (tCons (tC (.ty t)) tNil)) := pa_cons h (pa_cons (pe_bltn hx hmx hv rfl hn hd) pa_nil) (starE s)
  refine PE.imp (pe_callB (cr_isin1 (CA := CA) (b := t)) hg hm (bi_boot (.isin [])) ha (by decide) (by decide) (starE s)) fun σ H Q q => tG_mono (one_glue q) fun v H1 ⟨w, ds, Gs, d, hw, c, e, k⟩ => ?_
  exact ⟨v, [a.pl], rfl, w, ds, Gs, d, hw, c, e, k⟩
/-- isinstance(x, own class), true -/
theorem r_isc (cf : ClsOk X.K CA) {c : Nat} {C : Addr} {x : Str} {p2 : Pos} (hC : CA c = some C) (hg : Gl X "isinstance") (hm : X.mg "isinstance" = none) (hx : Gl X x) (hmx : X.mg x = some (.ref C)) (hd : (x == ("__debug__" : Str)) = false) (h : PE X e1 (tE cl X.K CA a)) (s : noStar e1 = true) :
    PE X (.Call (.Name "isinstance" p1) [e1, .Name x p2] [] pos) (tE cl X.K CA (.op (.isc c) (.cons a .nil))) := by
  have ha : PA X [e1, .Name x p2] (tCons (tE cl X.K CA a) (tCons (tC (.ref C)) tNil)) := pa_cons h (pa_cons (pe_glob hx hmx rfl hd) pa_nil) (starE s)
  refine PE.imp (pe_callB (isc_all (cl := cl) cf hC) hg hm (bi_boot (.isin [])) ha (by decide) (by decide) (starE s)) fun σ H Q q => tG_mono (one_glue q) fun v H1 q1 => ?_
  exact ⟨v, [a.pl], rfl, q1⟩
/-- methods of built-in types -/
theorem r_bm {m : Bm} {es : List Expr} {ms : MEs} {apos : Pos} (hb : bmOk m = true) (hbase : attributeBase e1 (bmT m).2.1 X.env (eval e1 X.env) = eval e1 X.env) (hline : (apos.endLine == pos.line) = true)
    (h : PE X e1 (tE cl X.K CA a)) (h' : Opds X cl CA es ms) (hlen : es.length < 29) : PE X (.Call (.Attribute e1 (bmT m).2.1 apos) es [] pos) (tE cl X.K CA (.op (.bm m) (.cons a ms))) := by
  have key : ∀ {σ : St} {H : Hp} {Q : VK}, tE cl X.K CA (.op (.bm m) (.cons a ms)) σ H Q → tBM X.K (bmT m).1 (rM X.K CA m) (tE cl X.K CA a) (tP cl X.K CA (fun _ => True) ms) σ H Q := fun {σ H Q} q =>
    tG_mono (tP_consK (op_glue q)) fun x H1 ⟨⟨w, d, G, ds, hw, r, hd⟩, q1⟩ => ⟨bm_ty hb (show (bmD m (MEs.cons a ms).pls (d :: ds)).isSome = true from hd) r, tP_mono q1 (fun _ h => h) fun vs H2 ⟨w, ds, Gs, d, hw, c, e, k⟩ => ⟨_, w, ds, Gs, d, hw, c, e, k⟩⟩
  cases h' with
  | nil =>
    refine PE.imp (pe_bm0 (bm_attrs hb) (bm_slot hb) (bm_type hb) (bm_mt (CA := CA) hb) h hbase hline) fun σ H Q q => tG_mono (key q) fun x H1 ⟨t, q⟩ => ⟨t, tP_nil q⟩
  | cons h2 s2 r2 =>
    have all : ∀ {es : List Expr} {ms : MEs}, Opds X cl CA es ms → (backTo pos (starEach es X.env)).all (fun x => !x.1) = true := fun h => by
      rw [h.star]; unfold backTo; simp
    refine PE.imp (pe_bm (bm_attrs hb) (bm_slot hb) (bm_type hb) (bm_mt (CA := CA) hb) h (Opds.pa (.cons h2 s2 r2) _) hbase ?_ hline (starE s2) r2.noS) fun σ H Q q => key q
    rw [all (.cons h2 s2 r2)]
    have : (backToKw pos (keywordEach [] X.env)).all (fun x => x.1.isSome) = true := rfl
    rw [this]
    simp only [List.length_nil, List.isEmpty_nil, if_true, Nat.add_zero, Bool.true_and, decide_eq_true_eq]
    omega
end

/-! ### dict displays -/
theorem r_dnew {pos : Pos} : PE X (.Dict [] [] pos) (tE cl X.K CA (.dic .nil)) := by
  refine PE.imp pe_dnewK fun σ H Q q p hp => ?_
  obtain ⟨w, P, ρ, F, d, ρ', hw, s, e, k⟩ := q
  have e : some (D.dic .own [] [], ρ) = some (d, ρ') := e
  cases e
  have ne : ∀ a, H a ≠ none → a ≠ p := fun a h e => h (e ▸ hp)
  refine k (.ref p) _ w.Fz [p] F ⟨aft_new s.aft hp s.liv s.env.live, s.env.stays (Wd.Le.refl w) (stays_upd hp (fun a q => s.liv a (.inl q)) (fun a q => s.liv a (.inr (s.bp a q))) s.env.live), Rep.dic_mk (ks := []) (us := []) upd_same rfl List.nodup_nil .nil, fun e => (by cases e), fun _ => ⟨rfl, rfl, fun a q => upd_ne (ne a q)⟩⟩
end Mp
set_option Elab.async false
set_option linter.all false
set_option maxRecDepth 100000
set_option maxHeartbeats 2000000
/-! # Mp: dict displays; the arguments of calls -/
namespace Mp
open PySem L2
variable {X : Cx} {cl : Call} {K : PySem.W.Frag} {CA : Nat → Option Addr}

/-- pairs that are kept -/
def tKs (cl : Call) (K : PySem.W.Frag) (CA : Nat → Option Addr) (ms : MKs) (σ : St) (H : Hp) (Q : List (V × V) → Hp → Prop) : Prop :=
  ∃ w P ρ F l ρ', w.In K CA ∧ Sim w P σ ρ H F ∧ evKs cl ms ρ = some (l, ρ') ∧ ∀ vs H' Z G F', APost w P σ ρ H F ms.still (l.map (·.2)) ρ' vs H' Z G F' → Q (((l.map (·.1)).zip vs).map fun kv => (kV kv.1, kv.2)) H'
theorem tKs_nil {σ : St} {H : Hp} {Q : List (V × V) → Hp → Prop} (h : tKs cl K CA .nil σ H Q) : Q [] H := by
  obtain ⟨w, P, ρ, F, ds, ρ', hw, s, e, k⟩ := h
  simp only [evKs, Option.some.injEq, Prod.mk.injEq] at e
  obtain ⟨rfl, rfl⟩ := e
  exact k [] H w.Fz [] F ⟨s.aft, s.env, .nil, fun _ => ⟨rfl, rfl, fun _ _ => rfl⟩⟩
theorem tKs_cons {m e : ME} {ms : MKs} {σ : St} {H : Hp} {Q : List (V × V) → Hp → Prop} (h : tKs cl K CA (.cons m e ms) σ H Q) :
    tE cl K CA m σ H fun x H1 => tE cl K CA e σ H1 fun y H2 => tKs cl K CA ms σ H2 fun ps H3 => Q ((x, y) :: ps) H3 := by
  obtain ⟨w, P, ρ, F, ds, ρ', hw, s, ee, k⟩ := h
  simp only [evKs, Option.bind_eq_some_iff] at ee
  obtain ⟨⟨dk, ρ1⟩, e1, key, ek, ⟨d, ρ2⟩, e2, ee⟩ := ee
  obtain ⟨e2, hsh⟩ := adj_eq e2
  obtain ⟨⟨l, ρ3⟩, e3, ee⟩ := Option.map_eq_some_iff.mp ee
  simp only [Prod.mk.injEq] at ee
  obtain ⟨rfl, rfl⟩ := ee
  refine ⟨w, P, ρ, F, dk, ρ1, hw, s, e1, fun v0 H1 Z1 G0 F1 p => ?_⟩
  obtain ⟨rfl, rfl⟩ := p.rep.key ek
  have a0 : Aft w.Fz P F H Z1 H1 ([] ++ F1) := by
    have := p.aft
    cases hp : m.pl <;> rw [hp] at this <;> exact this
  have s0 := a0.sim s (fun x q => by cases q) p.env
  refine ⟨w.wz Z1, _, ρ1, F1, d, ρ2, hw.wz _, s0, e2, fun v H2 Z2 G F2 p1 => ?_⟩
  have a1 := p1.own hsh
  have s1 := a1.sim s0 p1.rep.live p1.env
  refine ⟨w.wz Z2, _, ρ2, F2, l, ρ3, hw.wz _, s1, e3, fun vs H3 Z3 G3 F3 p2 => ?_⟩
  have st : Stays (w.wz Z2) G H2 H3 := p2.aft.stays (w := w.wz Z1) s0.bp
  refine k (v :: vs) H3 Z3 (G ++ G3) F3 ⟨?_, p2.env, .cons (p1.rep.stays (Wd.Le.wz p2.aft.mono) st) p2.rep, fun hst => ?_⟩
  · rw [List.append_assoc]
    exact a0.trans (fun x q => by cases q) (a1.trans p1.rep.live p2.aft)
  · simp only [MKs.still, Bool.and_eq_true] at hst
    obtain ⟨a1, a2, a3⟩ := p.still hst.1.1
    obtain ⟨b1, b2, b3⟩ := p1.still hst.1.2
    obtain ⟨c1, c2, c3⟩ := p2.still hst.2
    have q1 : ∀ a, H a ≠ none → H2 a = H a := fun a q => (b3 a (by rw [a3 a q]; exact q)).trans (a3 a q)
    exact ⟨c1.trans (b1.trans a1), c2.trans (b2.trans a2), fun a q => (c3 a (by rw [q1 a q]; exact q)).trans (q1 a q)⟩
/-- keys, values and their terms -/
inductive KOpds (X : Cx) (cl : Call) (CA : Nat → Option Addr) : List (Option Expr) → List Expr → MKs → Prop where
  | nil : KOpds X cl CA [] [] .nil
  | cons {k e : Expr} {mk m : ME} {ks : List (Option Expr)} {es : List Expr} {ms : MKs} (hk : PE X k (tE cl X.K CA mk)) (h : PE X e (tE cl X.K CA m)) (r : KOpds X cl CA ks es ms) : KOpds X cl CA (some k :: ks) (e :: es) (.cons mk m ms)
theorem KOpds.run {ks : List (Option Expr)} {es : List Expr} {ms : MKs} (h : KOpds X cl CA ks es ms) (pos : Pos) : ∃ trs, PPs X pos ks es trs ∧ ks.all (·.isSome) = true ∧ ks.length = es.length ∧
    ∀ (σ : St) (H : Hp) (Q : List (V × V) → Hp → Prop), tKs cl X.K CA ms σ H Q → tPairs trs σ H Q := by
  induction h with
  | nil => exact ⟨[], pps_nil, rfl, rfl, fun σ H Q q => tKs_nil q⟩
  | cons hk h r ih =>
    obtain ⟨trs, pp, h1, h2, h3⟩ := ih
    exact ⟨_, pps_cons hk h pp, by simpa using h1, by simpa using h2, fun σ H Q q => tG_mono (tKs_cons q) fun _ _ q => tG_mono q fun _ _ q => h3 _ _ _ q⟩
theorem r_dic {ks : List (Option Expr)} {es : List Expr} {ms : MKs} {pos : Pos} (h : KOpds X cl CA ks es ms) (h0 : ks ≠ []) (h15 : ks.length ≤ 15) : PE X (.Dict ks es pos) (tE cl X.K CA (.dic ms)) := by
  obtain ⟨trs, pp, h1, h2, h3⟩ := h.run pos
  refine PE.imp (pe_disp pp h1 h2 h0 h15) fun σ H Q q p hp => h3 _ _ _ ?_
  obtain ⟨w, P, ρ, F, d, ρ', hw, s, e, k⟩ := q
  simp only [ev] at e
  obtain ⟨⟨l, ρ1⟩, e1, e2⟩ := Option.bind_eq_some_iff.mp e
  have ne : ∀ a, H a ≠ none → a ≠ p := fun a h e => h (e ▸ hp)
  have sp : Sim w (fun x => P x ∨ x = p) σ ρ (upd H p (.dK [])) F := by
    refine ⟨s.env.stays (Wd.Le.refl w) (stays_upd hp (fun a q => s.liv a (.inl q)) (fun a q => s.liv a (.inr (s.bp a q))) s.env.live), s.nd, fun a q => ⟨(s.dis a q).1, fun z => z.elim (s.dis a q).2 fun e => s.env.live a q (e ▸ hp)⟩, fun a q => .inl (s.bp a q), fun a q => ?_⟩
    by_cases ea : a = p
    · subst ea; rw [upd_same]; simp
    · rw [upd_ne ea]
      rcases q with q | q | q
      · exact s.liv a (.inl q)
      · exact s.liv a (.inr q)
      · exact absurd q ea
  refine ⟨w, _, ρ, F, l, ρ1, hw, sp, e1, fun vs H2 Z G F' pst => ?_⟩
  have hP : H2 p = some (.dK []) := by rw [pst.aft.fr p (.inr (.inr rfl)), upd_same]
  have lv : vs.length = (l.map (·.2)).length := pst.rep.len
  have lk : (l.map (·.1)).length = (l.map (·.2)).length := by simp
  split at e2
  rotate_left
  · cases e2
  rename_i hl
  refine ⟨hP, (l.map (·.1)).zip vs, rfl, by have hl : l.length ≤ 15 := hl; rw [List.length_zip]; simp only [List.length_map]; omega, ?_⟩
  -- the heap behind it
  have lvK : ∀ x ∈ G ++ F', x ≠ p := fun x q e => by
    have z := pst.aft.new x q
    rcases z.1 with z1 | z1
    · exact s.env.live x z1 (e ▸ hp)
    · rw [e, upd_same] at z1; cases z1
  have hz : ¬ Z p := fun z => by
    rcases pst.aft.grow p z with q | q | q
    · exact s.liv p (.inl q) hp
    · exact s.env.live p q hp
    · rw [upd_same] at q; cases q
  have hb : ¬ w.B p := fun z => s.liv p (.inr (s.bp p z)) hp
  have st : ∀ {G' : List Addr} {o : HO}, (∀ x ∈ G', x ≠ p) → Stays (w.wz Z) G' H2 (upd H2 p o) := fun hg => ⟨fun x q => upd_ne (hg x q), fun x q => upd_ne fun e => hz (e ▸ q), fun x q => upd_ne fun e => hb (e ▸ q)⟩
  have aft : ∀ {o : HO}, Aft w.Fz P F H Z (upd H2 p o) (p :: (G ++ F')) := fun {o} => by
    refine ⟨fun x q => ?_, pst.aft.mono, fun x q => ?_, fun x q => ?_, fun x q => ?_, ?_, fun x q => ?_⟩
    · have hx : x ≠ p := ne x (s.liv x q)
      rw [upd_ne hx, pst.aft.fr x (q.imp id .inl), upd_ne hx]
    · rcases pst.aft.grow x q with z | z | z
      · exact .inl z
      · exact .inr (.inl z)
      · refine .inr (.inr ?_)
        by_cases ex : x = p
        · exact ex ▸ hp
        · rwa [upd_ne ex] at z
    · rw [upd_ne (fun e : x = p => hz (e ▸ q))]; exact pst.aft.liv x q
    · rcases List.mem_cons.mp q with rfl | q
      · exact ⟨.inr hp, hz⟩
      · obtain ⟨z1, z2⟩ := pst.aft.new x q
        refine ⟨z1.imp id fun z1 => ?_, z2⟩
        rwa [upd_ne (lvK x q)] at z1
    · exact List.nodup_cons.mpr ⟨fun q => lvK p q rfl, pst.aft.nd⟩
    · by_cases ex : x = p
      · subst ex; exact absurd hp q
      · rw [upd_ne ex]
        exact pst.aft.keep x (by rw [upd_ne ex]; exact q)
  have still : ∀ {o : HO}, (ME.dic ms).still = true → ρ1 = ρ ∧ F' = F ∧ ∀ a, H a ≠ none → upd H2 p o a = H a := fun hst => by
    obtain ⟨a1, a2, a3⟩ := pst.still hst
    refine ⟨a1, a2, fun a q => ?_⟩
    rw [upd_ne (ne a q), a3 a (by rw [upd_ne (ne a q)]; exact q), upd_ne (ne a q)]
  split at e2
  · rename_i nd
    have nd := of_decide_eq_true nd
    cases e2
    have em : mergeK [] ((l.map (·.1)).zip vs) = (l.map (·.1)).zip vs := by
      rw [mergeK_nodup]
      · rfl
      · rw [List.nil_append, List.map_fst_zip (by rw [lk, lv]; exact Nat.le_refl _)]
        exact nd
    rw [em]
    refine k (.ref p) _ Z (p :: G) F' ⟨aft, pst.env.stays (Wd.Le.refl _) (st fun x q => lvK x (List.mem_append_right _ q)), Rep.dic_mk (w := w.wz Z) upd_same lk nd (pst.rep.stays (Wd.Le.refl _) (st fun x q => lvK x (List.mem_append_left _ q))), fun e => (by cases e), still⟩
  · split at e2
    · rename_i hsh
      cases e2
      have e0 : G = [] := pst.rep.sh hsh
      subst e0
      obtain ⟨us', x, y, z, z'⟩ := mergeD_zip l [] [] [] vs rfl List.nodup_nil .nil pst.rep
      have x : mergeK [] ((l.map (·.1)).zip vs) = (mergeD l).1.zip us' := x
      rw [x]
      exact k (.ref p) _ Z [p] F' ⟨aft, pst.env.stays (Wd.Le.refl _) (st fun x q => lvK x (List.mem_append_right _ q)), Rep.dic_mk (w := w.wz Z) upd_same z z' (y.stays (Wd.Le.refl _) (st fun x q => by cases q)), fun e => (by cases e), still⟩
    · cases e2
end Mp
set_option Elab.async false
set_option linter.all false
set_option maxRecDepth 100000
set_option maxHeartbeats 2000000
/-! # Mp: the arguments of calls, the call by values -/
namespace Mp
open PySem L2
variable {X : Cx} {cl : Call} {K : PySem.W.Frag} {CA : Nat → Option Addr}

/-- arguments that are ready; Gt: what the new ones among them hold -/
def CArgs (w : Wd) (H : Hp) (σ : St) (F : List Addr) : List Ar → List V → List Addr → Prop
  | [], vs, Gt => vs = [] ∧ Gt = []
  | .val d :: cs, vs, Gt => ∃ v vr, vs = v :: vr ∧ Rep w H d v [] ∧ CArgs w H σ F cs vr Gt
  | .prt d :: cs, vs, Gt => ∃ v vr G, vs = v :: vr ∧ Rep w H d v G ∧ (∀ a ∈ G, a ∈ F) ∧ CArgs w H σ F cs vr Gt
  | .late i :: cs, vs, Gt => ∃ v vr, vs = v :: vr ∧ σ[i]? = some (some v) ∧ CArgs w H σ F cs vr Gt
  | .io i :: cs, vs, Gt => ∃ v vr, vs = v :: vr ∧ σ[i]? = some (some v) ∧ CArgs w H σ F cs vr Gt
  | .it d :: cs, vs, Gt => ∃ v vr G1 G2, vs = v :: vr ∧ Gt = G1 ++ G2 ∧ Rep w H d v G1 ∧ CArgs w H σ F cs vr G2
theorem CArgs.live {w : Wd} {H : Hp} {σ : St} {F : List Addr} : ∀ {cs : List Ar} {vs : List V} {Gt : List Addr}, CArgs w H σ F cs vs Gt → ∀ a ∈ Gt, H a ≠ none
  | [], _, _, h, a, q => by unfold CArgs at h; rw [h.2] at q; cases q
  | .val d :: cs, _, _, h, a, q => by
    unfold CArgs at h
    obtain ⟨v, vr, rfl, _, h⟩ := h
    exact CArgs.live h a q
  | .prt d :: cs, _, _, h, a, q => by
    unfold CArgs at h
    obtain ⟨v, vr, G, rfl, _, _, h⟩ := h
    exact CArgs.live h a q
  | .late i :: cs, _, _, h, a, q => by
    unfold CArgs at h
    obtain ⟨v, vr, rfl, _, h⟩ := h
    exact CArgs.live h a q
  | .io i :: cs, _, _, h, a, q => by
    unfold CArgs at h
    obtain ⟨v, vr, rfl, _, h⟩ := h
    exact CArgs.live h a q
  | .it d :: cs, _, _, h, a, q => by
    unfold CArgs at h
    obtain ⟨v, vr, G1, G2, rfl, rfl, r, h⟩ := h
    rcases List.mem_append.mp q with q | q
    · exact r.live a q
    · exact CArgs.live h a q

structure CAPost (w : Wd) (P : Addr → Prop) (σ : St) (ρ : Env) (H : Hp) (F : List Addr) (still : Bool) (cs : List Ar) (ρ' : Env) (vs : List V) (H' : Hp) (Z : Addr → Prop) (Gt F' : List Addr) : Prop where
  aft : Aft w.Fz P F H Z H' (Gt ++ F')
  env : REnv (w.wz Z) H' σ ρ' F'
  args : CArgs (w.wz Z) H' σ F' cs vs Gt
  still : still = true → ρ' = ρ ∧ F' = F ∧ ∀ a, H a ≠ none → H' a = H a
/-- arguments; W: what is known of them -/
def tCA (cl : Call) (K : PySem.W.Frag) (CA : Nat → Option Addr) (W : Env → Prop) (ms : MEs) : TA := fun σ H Q =>
  ∃ w P ρ F cs ρ', w.In K CA ∧ Sim w P σ ρ H F ∧ evC cl ms ρ = some (cs, ρ') ∧ W ρ ∧ ∀ vs H' Z Gt F', CAPost w P σ ρ H F ms.still cs ρ' vs H' Z Gt F' → Q vs H'
theorem tCA_nil {W : Env → Prop} {σ : St} {H : Hp} {Q : List V → Hp → Prop} (h : tCA cl K CA W .nil σ H Q) : Q [] H := by
  obtain ⟨w, P, ρ, F, ds, ρ', hw, s, e, _, k⟩ := h
  simp only [evC, Option.some.injEq, Prod.mk.injEq] at e
  obtain ⟨rfl, rfl⟩ := e
  exact k [] H w.Fz [] F ⟨s.aft, s.env, by unfold CArgs; exact ⟨rfl, rfl⟩, fun _ => ⟨rfl, rfl, fun _ _ => rfl⟩⟩
/-- a name that is handed over -/
theorem tCA_name {W : Env → Prop} {c : Ar} {m : ME} {i : Nat} {ms : MEs} {σ : St} {H : Hp} {Q : List V → Hp → Prop} (hc : c = .late i ∨ c = .io i) (hm : (m.still && ms.still) = true → ms.still = true)
    (he : ∀ ρ, evC cl (.cons m ms) ρ = (gI ρ i).bind fun _ => (evC cl ms ρ).map fun s => (c :: s.1, s.2))
    (h : tCA cl K CA W (.cons m ms) σ H Q) : ∃ v, σ[i]? = some (some v) ∧ (∃ w d G ρ, Wd.In w K CA ∧ Rep w H d v G ∧ W ρ ∧ gI ρ i = some d) ∧ tCA cl K CA (fun _ => True) ms σ H fun xs H2 => Q (v :: xs) H2 := by
  obtain ⟨w, P, ρ, F, cs, ρ', hw, s, e, hW, k⟩ := h
  rw [he] at e
  obtain ⟨d, e1, e⟩ := Option.bind_eq_some_iff.mp e
  obtain ⟨⟨cs1, ρ1⟩, e2, e⟩ := Option.map_eq_some_iff.mp e
  simp only [Prod.mk.injEq] at e
  obtain ⟨rfl, rfl⟩ := e
  obtain ⟨v, F1, h1, h2, h3⟩ := s.env.get e1
  refine ⟨v, h1, ⟨w, d, F1, ρ, hw, h2, hW, e1⟩, w, P, ρ, F, cs1, ρ1, hw, s, e2, trivial, fun vs H' Z Gt F' p => k (v :: vs) H' Z Gt F' ⟨p.aft, p.env, ?_, fun q => p.still (hm q)⟩⟩
  rcases hc with rfl | rfl
  · unfold CArgs; exact ⟨v, vs, rfl, h1, p.args⟩
  · unfold CArgs; exact ⟨v, vs, rfl, h1, p.args⟩
/-- something new, kept; a value -/
theorem tCA_it {W : Env → Prop} {m : ME} {ms : MEs} {σ : St} {H : Hp} {Q : List V → Hp → Prop} (h : tCA cl K CA W (.cons (.it m) ms) σ H Q) :
    tE cl K CA m σ H fun x H1 => (∃ w d G ρ ρ', Wd.In w K CA ∧ Rep w H1 d x G ∧ W ρ ∧ ev cl m ρ = some (d, ρ')) ∧ tCA cl K CA (fun _ => True) ms σ H1 fun xs H2 => Q (x :: xs) H2 := by
  obtain ⟨w, P, ρ, F, cs, ρ', hw, s, e, hW, k⟩ := h
  simp only [evC, Option.bind_eq_some_iff] at e
  obtain ⟨⟨d, ρ1⟩, e1, e⟩ := e
  obtain ⟨e1, hsh⟩ := adj_eq e1
  obtain ⟨⟨cs1, ρ2⟩, e2, e⟩ := Option.map_eq_some_iff.mp e
  simp only [Prod.mk.injEq] at e
  obtain ⟨rfl, rfl⟩ := e
  refine ⟨w, P, ρ, F, d, ρ1, hw, s, e1, fun v H1 Z1 G F1 p => ?_⟩
  have a1 := p.own hsh
  have s1 := a1.sim s p.rep.live p.env
  refine ⟨⟨w.wz Z1, d, G, ρ, ρ1, hw.wz _, p.rep, hW, e1⟩, w.wz Z1, _, ρ1, F1, cs1, ρ2, hw.wz _, s1, e2, trivial, fun vs H2 Z2 Gt F2 p2 => ?_⟩
  have st : Stays (w.wz Z1) G H1 H2 := p2.aft.stays (w := w) s.bp
  refine k (v :: vs) H2 Z2 (G ++ Gt) F2 ⟨by rw [List.append_assoc]; exact a1.trans p.rep.live p2.aft, p2.env, ?_, fun hst => ?_⟩
  · unfold CArgs
    exact ⟨v, vs, G, Gt, rfl, rfl, p.rep.stays (Wd.Le.wz p2.aft.mono) st, p2.args⟩
  · simp only [MEs.still, ME.still, Bool.and_eq_true] at hst
    obtain ⟨a1, a2, a3⟩ := p.still hst.1
    obtain ⟨b1, b2, b3⟩ := p2.still hst.2
    exact ⟨b1.trans a1, b2.trans a2, fun a q => (b3 a (by rw [a3 a q]; exact q)).trans (a3 a q)⟩
/-- an argument that is neither a name nor handed in and out -/
def ME.arg : ME → Bool
  | .io _ | .it _ | .var _ => false
  | _ => true
theorem tCA_cons {W : Env → Prop} {m : ME} {ms : MEs} {σ : St} {H : Hp} {Q : List V → Hp → Prop} (hm : m.arg = true) (h : tCA cl K CA W (.cons m ms) σ H Q) :
    tE cl K CA m σ H fun x H1 => (∃ w d G ρ ρ', Wd.In w K CA ∧ Rep w H1 d x G ∧ W ρ ∧ ev cl m ρ = some (d, ρ')) ∧ tCA cl K CA (fun _ => True) ms σ H1 fun xs H2 => Q (x :: xs) H2 := by
  obtain ⟨w, P, ρ, F, cs, ρ', hw, s, e, hW, k⟩ := h
  have e : ((ev cl m ρ).bind fun r => if !m.pl then (evC cl ms r.2).map fun s => (.val r.1.fz :: s.1, s.2) else if r.1.sh then (evC cl ms r.2).map fun s => (.val r.1 :: s.1, s.2)
      else if ms.still then (evC cl ms r.2).map fun s => (.prt r.1 :: s.1, s.2) else none) = some (cs, ρ') := by
    cases m <;> first | (cases hm; done) | (simp only [evC] at e; exact e)
  obtain ⟨⟨d, ρ1⟩, e1, e⟩ := Option.bind_eq_some_iff.mp e
  have still : ∀ {F F1 F2 : List Addr} {H H1 H2 : Hp} {ρ ρ1 ρ2 : Env}, (m.still = true → ρ1 = ρ ∧ F1 = F ∧ ∀ a, H a ≠ none → H1 a = H a) → (ms.still = true → ρ2 = ρ1 ∧ F2 = F1 ∧ ∀ a, H1 a ≠ none → H2 a = H1 a) →
      (MEs.cons m ms).still = true → ρ2 = ρ ∧ F2 = F ∧ ∀ a, H a ≠ none → H2 a = H a := fun p p2 hst => by
    simp only [MEs.still, Bool.and_eq_true] at hst
    obtain ⟨a1, a2, a3⟩ := p hst.1
    obtain ⟨b1, b2, b3⟩ := p2 hst.2
    exact ⟨b1.trans a1, b2.trans a2, fun a q => (b3 a (by rw [a3 a q]; exact q)).trans (a3 a q)⟩
  refine ⟨w, P, ρ, F, d, ρ1, hw, s, e1, fun v H1 Z1 G F1 p => ?_⟩
  cases hp : m.pl with
  | false =>
    rw [hp] at e
    obtain ⟨⟨cs1, ρ2⟩, e2, e⟩ := Option.map_eq_some_iff.mp (show (evC cl ms ρ1).map (fun s => (Ar.val d.fz :: s.1, s.2)) = some (cs, ρ') from e)
    simp only [Prod.mk.injEq] at e
    obtain ⟨rfl, rfl⟩ := e
    have a1 : Aft w.Fz P F H Z1 H1 (G ++ F1) := by have := p.aft; rw [hp] at this; exact this
    have a2 := a1.frz p.rep.live
    have le : (w.wz Z1).Le (w.wz fun x => Z1 x ∨ x ∈ G) := ⟨rfl, rfl, fun _ h => .inl h, fun _ h => h⟩
    have e3 : REnv (w.wz fun x => Z1 x ∨ x ∈ G) H1 σ ρ1 F1 := p.env.stays le ⟨fun _ _ => rfl, fun _ _ => rfl, fun _ _ => rfl⟩
    have s1 := Aft.sim (G := []) a2 s (fun x q => by cases q) e3
    have r1 : Rep (w.wz fun x => Z1 x ∨ x ∈ G) H1 d.fz v [] := p.rep.fz (w := w.wz Z1) (Z := fun x => Z1 x ∨ x ∈ G) (fun _ h => .inl h) fun a q => .inr q
    refine ⟨⟨w.wz Z1, d, G, ρ, ρ1, hw.wz _, p.rep, hW, e1⟩, w.wz _, _, ρ1, F1, cs1, ρ2, hw.wz _, s1, e2, trivial, fun vs H2 Z2 Gt F2 p2 => ?_⟩
    have st : Stays (w.wz fun x => Z1 x ∨ x ∈ G) [] H1 H2 := p2.aft.stays (w := w) s.bp
    refine k (v :: vs) H2 Z2 Gt F2 ⟨Aft.trans (G := []) a2 (fun x q => by cases q) p2.aft, p2.env, ?_, still p.still p2.still⟩
    unfold CArgs
    exact ⟨v, vs, rfl, r1.stays (Wd.Le.wz p2.aft.mono) st, p2.args⟩
  | true =>
    rw [hp] at e
    have a1 : Aft w.Fz P F H Z1 H1 ([] ++ F1) := by have := p.aft; rw [hp] at this; exact this
    have s1 := a1.sim s (fun x q => by cases q) p.env
    cases hs : d.sh with
    | true =>
      rw [hs] at e
      obtain ⟨⟨cs1, ρ2⟩, e2, e⟩ := Option.map_eq_some_iff.mp (show (evC cl ms ρ1).map (fun s => (Ar.val d :: s.1, s.2)) = some (cs, ρ') from e)
      simp only [Prod.mk.injEq] at e
      obtain ⟨rfl, rfl⟩ := e
      have e0 : G = [] := p.rep.sh hs
      subst e0
      refine ⟨⟨w.wz Z1, d, [], ρ, ρ1, hw.wz _, p.rep, hW, e1⟩, w.wz _, _, ρ1, F1, cs1, ρ2, hw.wz _, s1, e2, trivial, fun vs H2 Z2 Gt F2 p2 => ?_⟩
      have st : Stays (w.wz Z1) [] H1 H2 := p2.aft.stays (w := w) s.bp
      refine k (v :: vs) H2 Z2 Gt F2 ⟨a1.trans (fun x q => by cases q) p2.aft, p2.env, ?_, still p.still p2.still⟩
      unfold CArgs
      exact ⟨v, vs, rfl, p.rep.stays (Wd.Le.wz p2.aft.mono) st, p2.args⟩
    | false =>
      rw [hs] at e
      have e : (if ms.still then (evC cl ms ρ1).map (fun s => (Ar.prt d :: s.1, s.2)) else none) = some (cs, ρ') := e
      split at e
      · rename_i hst
        obtain ⟨⟨cs1, ρ2⟩, e2, e⟩ := Option.map_eq_some_iff.mp e
        simp only [Prod.mk.injEq] at e
        obtain ⟨rfl, rfl⟩ := e
        refine ⟨⟨w.wz Z1, d, G, ρ, ρ1, hw.wz _, p.rep, hW, e1⟩, w.wz _, _, ρ1, F1, cs1, ρ2, hw.wz _, s1, e2, trivial, fun vs H2 Z2 Gt F2 p2 => ?_⟩
        obtain ⟨t1, t2, t3⟩ := p2.still hst
        have st0 : Stays (w.wz Z1) [] H1 H2 := p2.aft.stays (w := w) s.bp
        have st : Stays (w.wz Z1) G H1 H2 := ⟨fun a q => t3 a (p.rep.live a q), st0.z, st0.b⟩
        refine k (v :: vs) H2 Z2 Gt F2 ⟨a1.trans (fun x q => by cases q) p2.aft, p2.env, ?_, still p.still p2.still⟩
        unfold CArgs
        exact ⟨v, vs, G, rfl, p.rep.stays (Wd.Le.wz p2.aft.mono) st, fun a q => t2 ▸ p.pl hp a q, p2.args⟩
      · cases e
theorem tCA_mono {W W' : Env → Prop} {ms : MEs} {σ : St} {H : Hp} {Q Q' : List V → Hp → Prop} (h : tCA cl K CA W ms σ H Q) (hw : ∀ ρ, W ρ → W' ρ) (q : ∀ v H, Q v H → Q' v H) : tCA cl K CA W' ms σ H Q' := by
  obtain ⟨w, P, ρ, F, ds, ρ', h1, h2, h3, h4, k⟩ := h
  exact ⟨w, P, ρ, F, ds, ρ', h1, h2, h3, hw _ h4, fun vs H' Z Gs F' p => q _ _ (k vs H' Z Gs F' p)⟩
/-- a constant -/
def ME.cst : ME → Option D
  | .kn => some .non
  | .kb b => some (.bl b)
  | .ki i => some (.int i)
  | .ks x => some (.str x)
  | .gl _ d => some d
  | _ => none
theorem sc_fz {d : D} {v : V} (h : d.sc = some v) : d.fz = d := by
  cases d <;> first | rfl | (simp [D.sc] at h)
theorem tCA_cst {W : Env → Prop} {m : ME} {d : D} {v : V} {ms : MEs} {σ : St} {H : Hp} {Q : List V → Hp → Prop} (hm : m.cst = some d) (hv : d.sc = some v) (h : tCA cl K CA W (.cons m ms) σ H Q) : tCA cl K CA W ms σ H fun xs H2 => Q (v :: xs) H2 := by
  obtain ⟨w, P, ρ, F, cs, ρ', hw, s, e, hW, k⟩ := h
  have e : (evC cl ms ρ).map (fun s => (Ar.val d.fz :: s.1, s.2)) = some (cs, ρ') := by
    cases m <;> simp only [ME.cst, Option.some.injEq] at hm <;> first | (cases hm; done) | skip
    all_goals
      subst hm
      simp only [evC, ev, Option.bind_some, ME.pl, Bool.not_false, if_true] at e
      exact e
  obtain ⟨⟨cs1, ρ1⟩, e2, e3⟩ := Option.map_eq_some_iff.mp e
  simp only [Prod.mk.injEq] at e3
  obtain ⟨rfl, rfl⟩ := e3
  have hst : m.still = true := by cases m <;> first | rfl | (cases hm; done)
  refine ⟨w, P, ρ, F, cs1, ρ1, hw, s, e2, hW, fun vs H' Z Gt F' p => k (v :: vs) H' Z Gt F' ⟨p.aft, p.env, ?_, fun q => p.still ?_⟩⟩
  · unfold CArgs
    exact ⟨v, vs, rfl, by rw [sc_fz hv]; exact sc_rep hv, p.args⟩
  · simp only [MEs.still, Bool.and_eq_true] at q; exact q.2
/-- what is left to the defaults -/
inductive Dfl : MEs → List V → Prop where
  | nil : Dfl .nil []
  | cons {m : ME} {d : D} {v : V} {ms : MEs} {vs : List V} (hm : m.cst = some d) (hv : d.sc = some v) (r : Dfl ms vs) : Dfl (.cons m ms) (v :: vs)
theorem Dfl.run {ms : MEs} {dvs : List V} (h : Dfl ms dvs) {W : Env → Prop} {σ : St} {H : Hp} : ∀ {Q : List V → Hp → Prop}, tCA cl K CA W ms σ H Q → Q dvs H := by
  induction h with
  | nil => exact fun q => tCA_nil q
  | cons hm hv r ih => exact fun q => ih (tCA_cst hm hv q)
/-- the written arguments and their terms, the defaults behind them -/
inductive Args (X : Cx) (cl : Call) (CA : Nat → Option Addr) : List Expr → MEs → List V → Prop where
  | nil {ms : MEs} {dvs : List V} (h : Dfl ms dvs) : Args X cl CA [] ms dvs
  | var {e : Expr} {i : Nat} {es : List Expr} {ms : MEs} {dvs : List V} (h : PE X e (tVar i)) (s : noStar e = true) (r : Args X cl CA es ms dvs) : Args X cl CA (e :: es) (.cons (.var i) ms) dvs
  | io {e : Expr} {i : Nat} {es : List Expr} {ms : MEs} {dvs : List V} (h : PE X e (tVar i)) (s : noStar e = true) (r : Args X cl CA es ms dvs) : Args X cl CA (e :: es) (.cons (.io i) ms) dvs
  | it {e : Expr} {m : ME} {es : List Expr} {ms : MEs} {dvs : List V} (h : PE X e (tE cl X.K CA m)) (s : noStar e = true) (r : Args X cl CA es ms dvs) : Args X cl CA (e :: es) (.cons (.it m) ms) dvs
  | cons {e : Expr} {m : ME} {es : List Expr} {ms : MEs} {dvs : List V} (hm : m.arg = true) (h : PE X e (tE cl X.K CA m)) (s : noStar e = true) (r : Args X cl CA es ms dvs) : Args X cl CA (e :: es) (.cons m ms) dvs
theorem Args.star {es : List Expr} {ms : MEs} {dvs : List V} (h : Args X cl CA es ms dvs) : starEach es X.env = es.map fun e => (false, eval e X.env) := by
  induction h with
  | nil => rfl
  | var h s r ih => rw [starE s, ih]; rfl
  | io h s r ih => rw [starE s, ih]; rfl
  | it h s r ih => rw [starE s, ih]; rfl
  | cons hm h s r ih => rw [starE s, ih]; rfl
theorem Args.noS {es : List Expr} {ms : MEs} {dvs : List V} (h : Args X cl CA es ms dvs) {pos : Pos} : (backTo pos (starEach es X.env)).any (·.1) = false := by
  rw [h.star]
  unfold backTo
  simp
/-- .. the defaults dvs aside -/
abbrev tDf (t : TA) (dvs : List V) : TA := fun σ H Q => t σ H fun vs' H1 => ∀ vs, vs' = vs ++ dvs → Q vs H1
theorem Args.pa {es : List Expr} {ms : MEs} {dvs : List V} (h : Args X cl CA es ms dvs) : ∀ W, PA X es (tDf (tCA cl X.K CA W ms) dvs) := by
  induction h with
  | nil h => exact fun W => PA.imp pa_nil fun _ _ _ q => h.run q [] rfl
  | var h s r ih =>
    refine fun W => PA.imp (pa_cons h (ih fun _ => True) (starE s)) fun _ _ _ q => ?_
    obtain ⟨v, e, _, q⟩ := tCA_name (c := .late _) (.inl rfl) (fun h => (Bool.and_eq_true_iff.mp h).2) (fun ρ => by rw [evC]) q
    exact ⟨v, e, tCA_mono q (fun _ h => h) fun xs _ h vs e => h (v :: vs) (by rw [e]; rfl)⟩
  | io h s r ih =>
    refine fun W => PA.imp (pa_cons h (ih fun _ => True) (starE s)) fun _ _ _ q => ?_
    obtain ⟨v, e, _, q⟩ := tCA_name (c := .io _) (.inr rfl) (fun h => (Bool.and_eq_true_iff.mp h).2) (fun ρ => by rw [evC]) q
    exact ⟨v, e, tCA_mono q (fun _ h => h) fun xs _ h vs e => h (v :: vs) (by rw [e]; rfl)⟩
  | it h s r ih => exact fun W => PA.imp (pa_cons h (ih fun _ => True) (starE s)) fun _ _ _ q => tG_mono (tCA_it q) fun v _ ⟨_, q⟩ => tCA_mono q (fun _ h => h) fun xs _ h vs e => h (v :: vs) (by rw [e]; rfl)
  | cons hm h s r ih => exact fun W => PA.imp (pa_cons h (ih fun _ => True) (starE s)) fun _ _ _ q => tG_mono (tCA_cons hm q) fun v _ ⟨_, q⟩ => tCA_mono q (fun _ h => h) fun xs _ h vs e => h (v :: vs) (by rw [e]; rfl)
end Mp
set_option Elab.async false
set_option linter.all false
set_option maxRecDepth 100000
set_option maxHeartbeats 2000000
/-! # Mp: the call by values -/
namespace Mp
open PySem L2
variable {X : Cx} {cl : Call} {K : PySem.W.Frag} {CA : Nat → Option Addr}

/-- the values at the flagged places -/
def pick : List Bool → List V → List V
  | true :: io, v :: vs => v :: pick io vs
  | false :: io, _ :: vs => pick io vs
  | _, _ => []
/-- a def by values -/
def spM (K : PySem.W.Frag) (CA : Nat → Option Addr) (cl : Call) (f : Nat) (io : List Bool) (vs : List V) (H : Hp) (Q : VK) : Prop :=
  ∃ w F ds d os, Wd.In w K CA ∧ Reps w H ds vs F ∧ F.Nodup ∧ (∀ a ∈ F, ¬ w.Fz a ∧ ¬ w.B a) ∧ (∀ a, w.Fz a ∨ w.B a → H a ≠ none) ∧ cl f io ds = some (d, os) ∧
    ∀ v H' Z G Fo, Aft w.Fz (fun a => H a ≠ none ∧ a ∉ F) F H Z H' (G ++ Fo) → Rep (w.wz Z) H' d v G → Reps (w.wz Z) H' os (pick io vs) Fo → d.nb = true → nbs os = true → Q v H'

def MEs.flags : MEs → List Bool
  | .nil => []
  | .cons (.io _) r => true :: r.flags
  | .cons (.it _) r => true :: r.flags
  | .cons _ r => false :: r.flags
theorem evC_cases {m : ME} {ms : MEs} {ρ ρ' : Env} {cs : List Ar} (h : evC cl (.cons m ms) ρ = some (cs, ρ')) : ∃ c cs' ρ1, cs = c :: cs' ∧ evC cl ms ρ1 = some (cs', ρ') ∧
    ((∃ i, m = .io i ∧ c = .io i) ∨ (∃ e d, m = .it e ∧ c = .it d) ∨ (m.arg = true ∧ ((∃ d, c = .val d) ∨ ∃ d, c = .prt d)) ∨ ∃ i, m = .var i ∧ c = .late i) := by
  by_cases hm : m.arg = true
  · have e : ((ev cl m ρ).bind fun r => if !m.pl then (evC cl ms r.2).map fun s => (.val r.1.fz :: s.1, s.2) else if r.1.sh then (evC cl ms r.2).map fun s => (.val r.1 :: s.1, s.2)
        else if ms.still then (evC cl ms r.2).map fun s => (.prt r.1 :: s.1, s.2) else none) = some (cs, ρ') := by
      cases m <;> first | (cases hm; done) | (simp only [evC] at h; exact h)
    obtain ⟨⟨d, ρ1⟩, e1, e⟩ := Option.bind_eq_some_iff.mp e
    have fin : ∀ {c : Ar}, ((∃ d, c = .val d) ∨ ∃ d, c = .prt d) → (evC cl ms ρ1).map (fun s => (c :: s.1, s.2)) = some (cs, ρ') → ∃ c' cs' ρ1, cs = c' :: cs' ∧ evC cl ms ρ1 = some (cs', ρ') ∧
        ((∃ i, m = .io i ∧ c' = .io i) ∨ (∃ e d, m = .it e ∧ c' = .it d) ∨ (m.arg = true ∧ ((∃ d, c' = .val d) ∨ ∃ d, c' = .prt d)) ∨ ∃ i, m = .var i ∧ c' = .late i) := fun {c} hc e => by
      obtain ⟨⟨cs1, ρ2⟩, e2, e⟩ := Option.map_eq_some_iff.mp e
      simp only [Prod.mk.injEq] at e
      obtain ⟨rfl, rfl⟩ := e
      exact ⟨c, cs1, ρ1, rfl, e2, .inr (.inr (.inl ⟨hm, hc⟩))⟩
    split at e
    · exact fin (.inl ⟨_, rfl⟩) e
    · split at e
      · exact fin (.inl ⟨_, rfl⟩) e
      · split at e
        · exact fin (.inr ⟨_, rfl⟩) e
        · cases e
  · cases m <;> first | (exact absurd rfl hm) | skip
    · simp only [evC] at h
      obtain ⟨d, e1, e⟩ := Option.bind_eq_some_iff.mp h
      obtain ⟨⟨cs1, ρ1⟩, e2, e⟩ := Option.map_eq_some_iff.mp e
      simp only [Prod.mk.injEq] at e
      obtain ⟨rfl, rfl⟩ := e
      exact ⟨_, _, _, rfl, e2, .inr (.inr (.inr ⟨_, rfl, rfl⟩))⟩
    · simp only [evC] at h
      obtain ⟨d, e1, e⟩ := Option.bind_eq_some_iff.mp h
      obtain ⟨⟨cs1, ρ1⟩, e2, e⟩ := Option.map_eq_some_iff.mp e
      simp only [Prod.mk.injEq] at e
      obtain ⟨rfl, rfl⟩ := e
      exact ⟨_, _, _, rfl, e2, .inl ⟨_, rfl, rfl⟩⟩
    · simp only [evC] at h
      obtain ⟨d, e1, e⟩ := Option.bind_eq_some_iff.mp h
      obtain ⟨⟨cs1, ρ1⟩, e2, e⟩ := Option.map_eq_some_iff.mp e
      simp only [Prod.mk.injEq] at e
      obtain ⟨rfl, rfl⟩ := e
      exact ⟨_, _, _, rfl, e2, .inr (.inl ⟨_, _, rfl, rfl⟩)⟩
theorem arg_flag {m : ME} {ms : MEs} (h : m.arg = true) : (MEs.cons m ms).flags = false :: ms.flags := by
  cases m <;> first | (cases h; done) | rfl
theorem evC_flags : ∀ {ms : MEs} {ρ ρ' : Env} {cs : List Ar}, evC cl ms ρ = some (cs, ρ') → cs.map Ar.flag = ms.flags
  | .nil, _, _, _, h => by
    simp only [evC, Option.some.injEq, Prod.mk.injEq] at h
    rw [← h.1]; rfl
  | .cons m ms, _, _, _, h => by
    obtain ⟨c, cs', ρ1, rfl, e, h⟩ := evC_cases h
    have ih := evC_flags e
    rcases h with ⟨i, rfl, rfl⟩ | ⟨_, _, rfl, rfl⟩ | ⟨ha, h⟩ | ⟨i, rfl, rfl⟩
    · simp [MEs.flags, Ar.flag, ih]
    · simp [MEs.flags, Ar.flag, ih]
    · rw [arg_flag ha]
      rcases h with ⟨_, rfl⟩ | ⟨_, rfl⟩ <;> simp [Ar.flag, ih]
    · simp [MEs.flags, Ar.flag, ih]
theorem evC_still : ∀ {ms : MEs} {ρ ρ' : Env} {cs : List Ar}, evC cl ms ρ = some (cs, ρ') → ms.still = true → (ios cs).filterMap id = []
  | .nil, _, _, _, h, _ => by
    simp only [evC, Option.some.injEq, Prod.mk.injEq] at h
    rw [← h.1]; rfl
  | .cons m ms, _, _, _, h, hs => by
    obtain ⟨c, cs', ρ1, rfl, e, h⟩ := evC_cases h
    simp only [MEs.still, Bool.and_eq_true] at hs
    have ih := evC_still e hs.2
    rcases h with ⟨i, rfl, rfl⟩ | ⟨_, _, rfl, rfl⟩ | ⟨ha, h⟩ | ⟨i, rfl, rfl⟩
    · simp [ME.still] at hs
    · simpa [ios] using ih
    · rcases h with ⟨_, rfl⟩ | ⟨_, rfl⟩ <;> simpa [ios] using ih
    · simpa [ios] using ih

/-! ### taken out, put back -/
theorem gI_wipe {ρ : Env} {j : Nat} : ∀ {is : List Nat}, j ∉ is → gI (wipeE ρ is) j = gI ρ j
  | [], _ => rfl
  | i :: is, h => by
    unfold wipeE
    rw [gI_ne (fun e : j = i => h (by rw [e]; exact List.mem_cons_self))]
    exact gI_wipe fun q => h (List.mem_cons_of_mem _ q)
def getIs (ρ : Env) : List Nat → Option (List D)
  | [] => some []
  | i :: is => match gI ρ i, getIs ρ is with
    | some d, some ds => some (d :: ds)
    | _, _ => none
theorem take_ios {w : Wd} {H : Hp} {σ : St} {ρ : Env} {F : List Addr} (h : REnv w H σ ρ F) : ∀ {is : List Nat} {ds : List D}, is.Nodup → getIs ρ is = some ds →
    ∃ vs Fi Fr, is.map (fun i => σ[i]?) = vs.map (fun v => some (some v)) ∧ Reps w H ds vs Fi ∧ REnv w H σ (wipeE ρ is) Fr ∧ F.Perm (Fi ++ Fr) ∧ (is = [] → Fr = F)
  | [], ds, _, e => by
    cases e
    exact ⟨[], [], F, rfl, .nil, h, List.Perm.refl _, fun _ => rfl⟩
  | i :: is, ds, nd, e => by
    simp only [getIs] at e
    split at e
    · rename_i d ds' e1 e2
      cases e
      obtain ⟨n1, n2⟩ := List.nodup_cons.mp nd
      obtain ⟨vs, Fi, Fr, a, b, c, p, _⟩ := take_ios h n2 e2
      obtain ⟨v, F1, F2, x1, x2, x3, x4⟩ := c.take (by rw [gI_wipe n1]; exact e1)
      refine ⟨v :: vs, F1 ++ Fi, F2, by simp [a, x1], .cons x2 b, x3, ?_, fun q => by cases q⟩
      refine p.trans ((List.Perm.append_left Fi x4).trans ?_)
      rw [← List.append_assoc]
      exact List.Perm.append_right F2 List.perm_append_comm
    · cases e
/-- put back in order -/
theorem put_ios {w : Wd} {H : Hp} {σ : St} : ∀ {is : List (Option Nat)} {ρ ρ' : Env} {F Fo : List Addr} {os : List D} {vs : List V}, (is.filterMap id).Nodup → REnv w H σ (wipeE ρ (is.filterMap id)) F → Reps w H os vs Fo → setAll ρ is os = some ρ' →
    (∀ (j : Nat) (i : Nat), is[j]? = some (some i) → ∃ v, vs[j]? = some v ∧ σ[i]? = some (some v)) → ∃ F0 F2, REnv w H σ ρ' F2 ∧ F0.Sublist Fo ∧ F2.Perm (F0 ++ F) ∧ (is.filterMap id = [] → F2 = F ∧ ρ' = ρ)
  | [], ρ, ρ', F, Fo, [], vs, _, h, _, e, _ => by
    cases e
    exact ⟨[], F, h, List.nil_sublist _, List.Perm.refl _, fun _ => ⟨rfl, rfl⟩⟩
  | [], _, _, _, _, _ :: _, _, _, _, _, e, _ => by simp [setAll] at e
  | some i :: is, _, _, _, _, [], _, _, _, _, e, _ => by simp [setAll] at e
  | none :: is, _, _, _, _, [], _, _, _, _, e, _ => by simp [setAll] at e
  | none :: is, ρ, ρ', F, Fo, o :: os, vs, nd, h, r, e, hv => by
    obtain ⟨v, vr, F1, F2, rfl, rfl, r1, r2⟩ := r.uncons
    simp only [setAll] at e
    obtain ⟨F0, F3, a, b, c, d⟩ := put_ios (is := is) (by simpa using nd) (by simpa using h) r2 e fun j i q => by
      obtain ⟨v', q1, q2⟩ := hv (j + 1) i (by simpa using q)
      exact ⟨v', by simpa using q1, q2⟩
    exact ⟨F0, F3, a, b.trans (List.sublist_append_right _ _), c, fun q => d (by simpa using q)⟩
  | some i :: is, ρ, ρ', F, Fo, o :: os, vs, nd, h, r, e, hv => by
    obtain ⟨v, vr, F1, F2, rfl, rfl, r1, r2⟩ := r.uncons
    simp only [setAll] at e
    have nd' : i ∉ is.filterMap id ∧ (is.filterMap id).Nodup := List.nodup_cons.mp (by simpa using nd)
    have h : REnv w H σ ((wipeE ρ (is.filterMap id)).set i none) F := by
      have := h
      simp only [List.filterMap_cons, id] at this
      exact this
    obtain ⟨v', q1, q2⟩ := hv 0 i rfl
    have q1 : v' = v := by simpa using q1.symm
    subst q1
    obtain ⟨F', x1, x2⟩ := h.put gI_set_none q2 r1
    rw [List.set_set] at x1
    have ew : ∀ {l : List Nat} {ρ : Env}, i ∉ l → (wipeE ρ l).set i (some o) = wipeE (ρ.set i (some o)) l := by
      intro l
      induction l with
      | nil => intro ρ _; rfl
      | cons j l ih =>
        intro ρ hn
        have hij : i ≠ j := fun q => hn (q ▸ List.mem_cons_self)
        unfold wipeE
        rw [List.set_comm _ _ (Ne.symm hij), ih fun q => hn (List.mem_cons_of_mem _ q)]
    rw [ew nd'.1] at x1
    obtain ⟨F0, F3, a, b, c, d⟩ := put_ios (is := is) nd'.2 x1 r2 e fun j i q => by
      obtain ⟨v', q1, q2⟩ := hv (j + 1) i (by simpa using q)
      exact ⟨v', by simpa using q1, q2⟩
    refine ⟨F1 ++ F0, F3, a, List.Sublist.append_left b _, ?_, fun q => by simp at q⟩
    refine c.trans ((List.Perm.append_left F0 x2).trans ?_)
    rw [← List.append_assoc]
    exact List.Perm.append_right F List.perm_append_comm

theorem getAll_io {ρ : Env} : ∀ {cs : List Ar} {ds : List D}, getAll ρ cs = some ds → ∃ l, getIs ρ ((ios cs).filterMap id) = some l
  | [], _, _ => ⟨[], rfl⟩
  | c :: cs, ds, h => by
    simp only [getAll] at h
    split at h
    · rename_i d ds' e1 e2
      obtain ⟨l, hl⟩ := getAll_io e2
      cases c with
      | io i =>
        have e1 : gI ρ i = some d := e1
        refine ⟨d :: l, ?_⟩
        simp only [ios, List.filterMap_cons, id, getIs, e1, hl]
      | it d => exact ⟨l, by simpa [ios] using hl⟩
      | val d => exact ⟨l, by simpa [ios] using hl⟩
      | prt d => exact ⟨l, by simpa [ios] using hl⟩
      | late d => exact ⟨l, by simpa [ios] using hl⟩
    · cases h
theorem Rep.lent {w : Wd} {H : Hp} {B : Addr → Prop} {d : D} {v : V} {F : List Addr} (h : Rep w H d v F) (hb : ∀ a, w.B a → B a) : Rep (w.wb B) H d v F := h.stays (Wd.Le.wb hb) ⟨fun _ _ => rfl, fun _ _ => rfl, fun _ _ => rfl⟩
/-- all arguments together -/
theorem build {w : Wd} {H : Hp} {σ : St} {F Fr : List Addr} {ρ : Env} {is0 : List Nat} (hr : REnv w H σ (wipeE ρ is0) Fr) {B : Addr → Prop} (hb : ∀ a, w.B a → B a) (hf : ∀ a ∈ Fr, B a) :
    ∀ {cs : List Ar} {vs : List V} {Gt : List Addr} {ds l : List D} {vi : List V} {Fi : List Addr}, CArgs w H σ F cs vs Gt → getAll ρ cs = some ds → (∀ i ∈ lates cs, i ∉ is0) → (cs.any Ar.isPrt = true → ∀ a ∈ F, a ∈ Fr) →
      getIs ρ ((ios cs).filterMap id) = some l → ((ios cs).filterMap id).map (fun i => σ[i]?) = vi.map (fun v => some (some v)) → Reps w H l vi Fi →
      ∃ Fa, Reps (w.wb B) H ds vs Fa ∧ Fa.Perm (Fi ++ Gt)
  | [], vs, Gt, ds, l, vi, Fi, h, e, _, _, el, ev, r => by
    unfold CArgs at h
    obtain ⟨rfl, rfl⟩ := h
    cases e
    cases el
    obtain ⟨_, rfl⟩ := r.unnil
    exact ⟨[], .nil, List.Perm.refl _⟩
  | c :: cs, vs, Gt, ds, l, vi, Fi, h, e, hl, hp, el, ev, r => by
    simp only [getAll] at e
    split at e
    rotate_left
    · cases e
    rename_i d ds' e1 e2
    cases e
    cases c with
    | val d0 =>
      cases e1
      unfold CArgs at h
      obtain ⟨v, vr, rfl, r1, h⟩ := h
      obtain ⟨Fa, a, b⟩ := build hr hb hf h e2 hl (fun q => hp (by simp [q])) (by simpa [ios] using el) (by simpa [ios] using ev) r
      exact ⟨[] ++ Fa, .cons (r1.lent hb) a, b⟩
    | prt d0 =>
      cases e1
      unfold CArgs at h
      obtain ⟨v, vr, G, rfl, r1, hG, h⟩ := h
      have hF := hp (by simp [Ar.isPrt])
      obtain ⟨Fa, a, b⟩ := build hr hb hf h e2 hl (fun q => hF) (by simpa [ios] using el) (by simpa [ios] using ev) r
      exact ⟨[] ++ Fa, .cons (r1.br hb fun a q => hf a (hF a (hG a q))) a, b⟩
    | late i =>
      obtain ⟨d0, e3, rfl⟩ := Option.map_eq_some_iff.mp (show (gI ρ i).map D.br = some d from e1)
      unfold CArgs at h
      obtain ⟨v, vr, rfl, hv, h⟩ := h
      have hn : i ∉ is0 := hl i (by simp [lates])
      obtain ⟨v', F1, x1, x2, x3⟩ := hr.get (by rw [gI_wipe hn]; exact e3)
      rw [hv] at x1
      cases x1
      obtain ⟨Fa, a, b⟩ := build hr hb hf h e2 (fun j q => hl j (by simp [lates, q])) (fun q => hp (by simp [q])) (by simpa [ios] using el) (by simpa [ios] using ev) r
      exact ⟨[] ++ Fa, .cons (x2.br hb fun a q => hf a (x3 a q)) a, b⟩
    | io i =>
      have e1 : gI ρ i = some d := e1
      unfold CArgs at h
      obtain ⟨v, vr, rfl, hv, h⟩ := h
      have el : getIs ρ (i :: (ios cs).filterMap id) = some l := by simpa [ios] using el
      simp only [getIs, e1] at el
      split at el
      rotate_left
      · cases el
      rename_i d1 l1 q1 q2
      cases q1
      cases el
      obtain ⟨v1, vr1, F1, F2, rfl, rfl, r1, r2⟩ := r.uncons
      have ev : some (some v) :: ((ios cs).filterMap id).map (fun i => σ[i]?) = some (some v1) :: vr1.map (fun v => some (some v)) := by
        have := ev
        simp only [ios, List.filterMap_cons, id, List.map_cons, hv] at this
        exact this
      obtain ⟨ev1, ev2⟩ := List.cons.inj ev
      cases ev1
      obtain ⟨Fa, a, b⟩ := build hr hb hf h e2 hl (fun q => hp (by simp [q])) q2 ev2 r2
      refine ⟨F1 ++ Fa, .cons (r1.lent hb) a, ?_⟩
      rw [List.append_assoc]
      exact List.Perm.append_left F1 b
    | it d0 =>
      cases e1
      unfold CArgs at h
      obtain ⟨v, vr, G1, G2, rfl, rfl, r1, h⟩ := h
      obtain ⟨Fa, a, b⟩ := build hr hb hf h e2 hl (fun q => hp (by simp [q])) (by simpa [ios] using el) (by simpa [ios] using ev) r
      refine ⟨G1 ++ Fa, .cons (r1.lent hb) a, ?_⟩
      refine (List.Perm.append_left G1 b).trans ?_
      rw [← List.append_assoc, ← List.append_assoc]
      exact List.Perm.append_right G2 List.perm_append_comm
/-- where the changed arguments' values stand -/
theorem pick_ios {w : Wd} {H : Hp} {σ : St} {F : List Addr} : ∀ {cs : List Ar} {vs : List V} {Gt : List Addr}, CArgs w H σ F cs vs Gt → ∀ (j i : Nat), (ios cs)[j]? = some (some i) → ∃ v, (pick (cs.map Ar.flag) vs)[j]? = some v ∧ σ[i]? = some (some v)
  | [], _, _, _, j, i, q => by simp [ios] at q
  | .val d :: cs, _, _, h, j, i, q => by
    unfold CArgs at h
    obtain ⟨v, vr, rfl, _, h⟩ := h
    exact pick_ios h j i q
  | .prt d :: cs, _, _, h, j, i, q => by
    unfold CArgs at h
    obtain ⟨v, vr, G, rfl, _, _, h⟩ := h
    exact pick_ios h j i q
  | .late d :: cs, _, _, h, j, i, q => by
    unfold CArgs at h
    obtain ⟨v, vr, rfl, _, h⟩ := h
    exact pick_ios h j i q
  | .io k :: cs, _, _, h, j, i, q => by
    unfold CArgs at h
    obtain ⟨v, vr, rfl, hv, h⟩ := h
    cases j with
    | zero =>
      simp [ios] at q
      subst q
      exact ⟨v, rfl, hv⟩
    | succ j =>
      obtain ⟨v', a, b⟩ := pick_ios h j i (by simpa [ios] using q)
      exact ⟨v', by simpa [pick, Ar.flag] using a, b⟩
  | .it d :: cs, _, _, h, j, i, q => by
    unfold CArgs at h
    obtain ⟨v, vr, G1, G2, rfl, _, _, h⟩ := h
    cases j with
    | zero => simp [ios] at q
    | succ j =>
      obtain ⟨v', a, b⟩ := pick_ios h j i (by simpa [ios] using q)
      exact ⟨v', by simpa [pick, Ar.flag] using a, b⟩
end Mp
set_option Elab.async false
set_option linter.all false
set_option maxRecDepth 100000
set_option maxHeartbeats 2000000
/-! # Mp: from an evaluated call to the def by values -/
namespace Mp
open PySem L2
variable {X : Cx} {cl : Call} {K : PySem.W.Frag} {CA : Nat → Option Addr}

/-- behind a call; Gp: what the first arguments hold that were laid for it -/
structure QPost (w : Wd) (P : Addr → Prop) (σ : St) (ρ : Env) (H : Hp) (F : List Addr) (still : Bool) (d : D) (os : List D) (pv : List V) (ρ' : Env) (v : V) (H' : Hp) (Z : Addr → Prop) (G Gp F' : List Addr) : Prop where
  aft : Aft w.Fz P F H Z H' (G ++ (Gp ++ F'))
  env : REnv (w.wz Z) H' σ ρ' F'
  rep : Rep (w.wz Z) H' d v G
  reps : Reps (w.wz Z) H' os pv Gp
  still : still = true → ρ' = ρ ∧ F' = F ∧ ∀ a, H a ≠ none → H' a = H a
theorem Reps.split {w : Wd} {H : Hp} : ∀ {xs ys : List D} {us ws : List V} {F : List Addr}, Reps w H (xs ++ ys) (us ++ ws) F → us.length = xs.length → ∃ F1 F2, F = F1 ++ F2 ∧ Reps w H xs us F1 ∧ Reps w H ys ws F2
  | [], ys, [], ws, F, h, _ => ⟨[], F, rfl, .nil, h⟩
  | [], _, _ :: _, _, _, _, e => by simp at e
  | _ :: _, _, [], _, _, _, e => by simp at e
  | x :: xs, ys, u :: us, ws, F, h, e => by
    obtain ⟨v, vr, F1, F2, q, rfl, h1, h2⟩ := Reps.uncons h
    cases q
    obtain ⟨G1, G2, rfl, a, b⟩ := Reps.split h2 (by simpa using e)
    exact ⟨F1 ++ G1, G2, by rw [List.append_assoc], .cons h1 a, b⟩
theorem call_core {w : Wd} {P : Addr → Prop} {σ : St} {ρ : Env} {H : Hp} {F : List Addr} (s : Sim w P σ ρ H F) (hw : w.In K CA) {ms : MEs} {ρ1 : Env} {cs : List Ar} (e1 : evC cl ms ρ = some (cs, ρ1))
    {vs : List V} {H1 : Hp} {Z1 : Addr → Prop} {Gt F1 : List Addr} (p : CAPost w P σ ρ H F ms.still cs ρ1 vs H1 Z1 Gt F1)
    {H1' : Hp} (hx : ∀ a, H1 a ≠ none → H1' a = H1 a) {preF : List Addr} (hpf : ∀ a ∈ preF, H1 a = none) (hpn : preF.Nodup) {pre : List Bool} {preD : List D} {preV : List V} (rp : Reps (w.wz Z1) H1' preD preV preF)
    (hpick : ∀ fl vs, pick (pre ++ fl) (preV ++ vs) = preV ++ pick fl vs) {f : Nat} {d : D} {os ds : List D} {ρ2 : Env} (hc : caOk cs = true) (ha : getAll ρ1 cs = some ds)
    (hcl : cl f (pre ++ cs.map Ar.flag) (preD ++ ds) = some (d, os)) (hlen : preV.length ≤ os.length) (hs : setAll ρ1 (ios cs) (os.drop preV.length) = some ρ2) {Q : VK}
    (k : ∀ v H' Z G Gp F', QPost w P σ ρ H F ms.still d (os.take preV.length) preV ρ2 v H' Z G Gp F' → Q v H') : spM K CA cl f (pre ++ ms.flags) (preV ++ vs) H1' Q := by
  unfold caOk at hc
  simp only [Bool.and_eq_true, decide_eq_true_eq, List.all_eq_true, Bool.or_eq_true, List.isEmpty_iff, Bool.not_eq_true'] at hc
  obtain ⟨⟨hnd, hlate⟩, hprt⟩ := hc
  obtain ⟨l, hl⟩ := getAll_io ha
  have lvF : ∀ a ∈ Gt ++ F1, H1 a ≠ none := fun a q => (List.mem_append.mp q).elim (p.args.live a) (p.env.live a)
  have bl : ∀ a, w.B a → H1 a ≠ none := fun a q => by rw [p.aft.fr a (.inr (s.bp a q))]; exact s.liv a (.inr (s.bp a q))
  have stx : ∀ {G : List Addr}, (∀ a ∈ G, H1 a ≠ none) → Stays (w.wz Z1) G H1 H1' := fun hg => ⟨fun a q => hx a (hg a q), fun a q => hx a (p.aft.liv a q), fun a q => hx a (bl a q)⟩
  have env' : REnv (w.wz Z1) H1' σ ρ1 F1 := p.env.stays (Wd.Le.refl _) (stx p.env.live)
  have args' : CArgs (w.wz Z1) H1' σ F1 cs vs Gt := by
    have go : ∀ {cs : List Ar} {vs : List V} {Gt : List Addr}, CArgs (w.wz Z1) H1 σ F1 cs vs Gt → CArgs (w.wz Z1) H1' σ F1 cs vs Gt := by
      intro cs
      induction cs with
      | nil => intro vs Gt h; unfold CArgs at h ⊢; exact h
      | cons c cs ih =>
        intro vs Gt h
        cases c with
        | val d =>
          unfold CArgs at h ⊢
          obtain ⟨v, vr, e, r, h⟩ := h
          exact ⟨v, vr, e, r.stays (Wd.Le.refl _) (stx r.live), ih h⟩
        | prt d =>
          unfold CArgs at h ⊢
          obtain ⟨v, vr, G, e, r, hG, h⟩ := h
          exact ⟨v, vr, G, e, r.stays (Wd.Le.refl _) (stx r.live), hG, ih h⟩
        | late i =>
          unfold CArgs at h ⊢
          obtain ⟨v, vr, e, r, h⟩ := h
          exact ⟨v, vr, e, r, ih h⟩
        | io i =>
          unfold CArgs at h ⊢
          obtain ⟨v, vr, e, r, h⟩ := h
          exact ⟨v, vr, e, r, ih h⟩
        | it d =>
          unfold CArgs at h ⊢
          obtain ⟨v, vr, G1, G2, e, e', r, h⟩ := h
          exact ⟨v, vr, G1, G2, e, e', r.stays (Wd.Le.refl _) (stx r.live), ih h⟩
    exact go p.args
  obtain ⟨vi, Fi, Fr, t1, t2, t3, t4, t5⟩ := take_ios env' hnd hl
  have hFr : ∀ a ∈ Fr, a ∈ F1 := fun a q => t4.mem_iff.mpr (List.mem_append_right _ q)
  have hFi : ∀ a ∈ Fi, a ∈ F1 := fun a q => t4.mem_iff.mpr (List.mem_append_left _ q)
  have hprt' : cs.any Ar.isPrt = true → ∀ a ∈ F1, a ∈ Fr := fun q => by
    rcases hprt with e | e
    · rw [t5 e]; exact fun a h => h
    · rw [q] at e; cases e
  obtain ⟨Fa, b1, b2⟩ := build (w := w.wz Z1) (H := H1') (Fr := Fr) t3 (B := fun a => w.B a ∨ a ∈ Fr) (fun _ h => .inl h) (fun _ h => .inr h) args' ha (fun i q z => by
    have := hlate i z
    simp only [List.contains_eq_mem, decide_eq_false_iff_not] at this
    exact this q) hprt' hl t1 t2
  -- all that the call holds
  have memFa : ∀ a ∈ Fa, a ∈ Fi ∨ a ∈ Gt := fun a q => List.mem_append.mp (b2.mem_iff.mp q)
  have memFa' : ∀ a ∈ Fa, a ∈ Gt ++ F1 := fun a q => (memFa a q).elim (fun z => List.mem_append_right _ (hFi a z)) fun z => List.mem_append_left _ z
  have ndAll := p.aft.nd
  have ndF1 : (Fi ++ Fr).Nodup := t4.nodup_iff.mp (List.nodup_append.mp ndAll).2.1
  have disj : ∀ a ∈ Fa, a ∉ Fr := fun a q r => by
    rcases memFa a q with z | z
    · exact (List.nodup_append.mp ndF1).2.2 a z a r rfl
    · exact (List.nodup_append.mp ndAll).2.2 a z a (hFr a r) rfl
  have ndFa : Fa.Nodup := b2.nodup_iff.mpr (List.nodup_append.mpr ⟨(List.nodup_append.mp ndF1).1, (List.nodup_append.mp ndAll).1, fun a q b r e => by
    subst e; exact (List.nodup_append.mp ndAll).2.2 a r a (hFi a q) rfl⟩)
  have notP : ∀ a ∈ Gt ++ F1, ¬ P a := fun a q z => by
    rcases (p.aft.new a q).1 with r | r
    · exact (s.dis a r).2 z
    · exact s.liv a (.inr z) r
  have lvPre : ∀ a ∈ preF, H1' a ≠ none := rp.live
  have fresh : ∀ a ∈ preF, ∀ b, H1 b ≠ none → b ≠ a := fun a q b hb e => hb (e ▸ hpf a q)
  rw [← evC_flags e1]
  refine ⟨(w.wz Z1).wb fun a => w.B a ∨ a ∈ Fr, preF ++ Fa, preD ++ ds, d, os, ⟨hw.k, hw.c⟩, Reps.append (rp.stays (Wd.Le.wb fun _ h => .inl h) ⟨fun _ _ => rfl, fun _ _ => rfl, fun _ _ => rfl⟩) b1, ?_, fun a q => ?_, fun a q => ?_, hcl, fun v H2 Z2 G Fo aft2 rep2 reps2 nb nbo => ?_⟩
  · exact List.nodup_append.mpr ⟨hpn, ndFa, fun a q b r e => fresh a q b (lvF b (memFa' b r)) e.symm⟩
  · rcases List.mem_append.mp q with q | q
    · exact ⟨fun z => p.aft.liv a z (hpf a q), fun z => z.elim (fun z => bl a z (hpf a q)) fun z => lvF a (List.mem_append_right _ (hFr a z)) (hpf a q)⟩
    · refine ⟨(p.aft.new a (memFa' a q)).2, fun z => z.elim (fun z => notP a (memFa' a q) (s.bp a z)) (disj a q)⟩
  · have : H1 a ≠ none := q.elim (p.aft.liv a) fun q => q.elim (bl a) fun q => lvF a (List.mem_append_right _ (hFr a q))
    rw [hx a this]; exact this
  -- behind it
  have hkeep : ∀ a, H1 a ≠ none → a ∉ Fa → H2 a = H1 a := fun a hl hn => by
    have h1 : H1' a = H1 a := hx a hl
    rw [aft2.fr a (.inr ⟨by rw [h1]; exact hl, fun z => (List.mem_append.mp z).elim (fun z => hl (hpf a z)) hn⟩), h1]
  have rep3 : Rep (w.wz Z2) H2 d v G := Rep.nb (w := ((w.wz Z1).wb fun a => w.B a ∨ a ∈ Fr).wz Z2) w.B rep2 nb
  rw [hpick] at reps2
  have reps3 : Reps (w.wz Z2) H2 (os.take preV.length ++ os.drop preV.length) (preV ++ pick (cs.map Ar.flag) vs) Fo := by
    rw [List.take_append_drop]
    exact Reps.nb (w := ((w.wz Z1).wb fun a => w.B a ∨ a ∈ Fr).wz Z2) w.B reps2 nbo
  obtain ⟨Gp, Fo', rfl, q1, q2⟩ := reps3.split (by rw [List.length_take]; omega)
  have env3 : REnv (w.wz Z2) H2 σ (wipeE ρ1 ((ios cs).filterMap id)) Fr := by
    refine REnv.stays (w := w.wz Z1) (w' := w.wz Z2) (H := H1') ⟨rfl, rfl, aft2.mono, fun _ h => h⟩ t3 ⟨fun a q => ?_, fun a q => aft2.fr a (.inl q), fun a q => ?_⟩
    · have hl := lvF a (List.mem_append_right _ (hFr a q))
      rw [hkeep a hl fun z => disj a z q, hx a hl]
    · rw [hkeep a (bl a q) fun z => notP a (memFa' a z) (s.bp a q), hx a (bl a q)]
  obtain ⟨F0, F2, x1, x2, x3, x4⟩ := put_ios hnd env3 q2 hs (pick_ios args')
  have nz2 : ∀ a ∈ Fr, ¬ Z2 a := fun a q z => by
    have hl := lvF a (List.mem_append_right _ (hFr a q))
    rcases aft2.grow a z with r | r | r
    · exact (p.aft.new a (List.mem_append_right _ (hFr a q))).2 r
    · exact (List.mem_append.mp r).elim (fun z => hl (hpf a z)) fun z => disj a z q
    · rw [hx a hl] at r; exact hl r
  have old : ∀ a, H1 a = none → H a = none := fun a e => by
    cases h : H a with
    | none => rfl
    | some o => exact absurd e (p.aft.keep a (by rw [h]; simp))
  have old' : ∀ a, H1' a = none → H1 a = none := fun a e => by
    cases h : H1 a with
    | none => rfl
    | some o => rw [hx a (by rw [h]; simp), h] at e; cases e
  have back : ∀ a, a ∈ preF ++ Fa ∨ H1' a = none → a ∈ F ∨ H a = none := fun a q => by
    rcases q with q | q
    · rcases List.mem_append.mp q with q | q
      · exact .inr (old a (hpf a q))
      · exact (p.aft.new a (memFa' a q)).1
    · exact .inr (old a (old' a q))
  have sub : (G ++ (Gp ++ F0)).Sublist (G ++ (Gp ++ Fo')) := List.Sublist.append_left (List.Sublist.append_left x2 Gp) G
  have aft2' : ∀ a ∈ G ++ (Gp ++ F0), (a ∈ preF ++ Fa ∨ H1' a = none) ∧ ¬ Z2 a := fun a q => aft2.new a (sub.subset q)
  have pm : (G ++ (Gp ++ F2)).Perm ((G ++ (Gp ++ F0)) ++ Fr) := by
    rw [List.append_assoc, List.append_assoc]
    exact List.Perm.append_left G (List.Perm.append_left Gp x3)
  refine k v H2 Z2 G Gp F2 ⟨⟨fun a q => ?_, fun a q => aft2.mono a (p.aft.mono a q), fun a q => ?_, aft2.liv, fun a q => ?_, ?_, fun a q => ?_⟩, x1, rep3, q1, fun hst => ?_⟩
  · have hl : H1 a ≠ none := by rw [p.aft.fr a q]; exact s.liv a q
    rw [← p.aft.fr a q]
    refine hkeep a hl fun z => ?_
    rcases q with q | q
    · exact (p.aft.new a (memFa' a z)).2 (p.aft.mono a q)
    · exact notP a (memFa' a z) q
  · rcases aft2.grow a q with z | z
    · exact p.aft.grow a z
    · exact .inr (back a z)
  · rcases List.mem_append.mp (pm.mem_iff.mp q) with q | q
    · exact ⟨back a (aft2' a q).1, (aft2' a q).2⟩
    · exact ⟨(p.aft.new a (List.mem_append_right _ (hFr a q))).1, nz2 a q⟩
  · refine pm.nodup_iff.mpr (List.nodup_append.mpr ⟨aft2.nd.sublist sub, (List.nodup_append.mp ndF1).2.1, fun a q b r e => ?_⟩)
    subst e
    have hl := lvF a (List.mem_append_right _ (hFr a r))
    rcases (aft2' a q).1 with z | z
    · exact (List.mem_append.mp z).elim (fun z => hl (hpf a z)) fun z => disj a z r
    · exact hl (old' a z)
  · refine aft2.keep a ?_
    have := p.aft.keep a q
    rw [hx a this]; exact this
  · have hio := evC_still e1 hst
    obtain ⟨y1, y2⟩ := x4 hio
    obtain ⟨z1, z2, z3⟩ := p.still hst
    refine ⟨y2.trans z1, y1.trans ((t5 hio).trans z2), fun a q => ?_⟩
    have hl : H1 a ≠ none := by rw [z3 a q]; exact q
    rw [← z3 a q]
    refine hkeep a hl fun z => ?_
    have e0 : Fi = [] := by
      have := t4.length_eq
      rw [t5 hio, List.length_append] at this
      exact List.length_eq_zero_iff.mp (by omega)
    rcases memFa a z with r | r
    · rw [e0] at r; cases r
    · rcases (p.aft.new a (List.mem_append_left _ r)).1 with t | t
      · exact (List.nodup_append.mp ndAll).2.2 a r a (z2 ▸ t) rfl
      · exact q t
/-- a call, from its evaluated arguments -/
theorem call_glue {f : Nat} {ms : MEs} {σ : St} {H : Hp} {Q : VK} (q : tE cl K CA (.call f ms) σ H Q) : tCA cl K CA (fun _ => True) ms σ H fun vs H1 => spM K CA cl f ms.flags vs H1 Q := by
  obtain ⟨w, P, ρ, F, d, ρ', hw, s, e, k⟩ := q
  simp only [ev] at e
  obtain ⟨⟨cs, ρ1⟩, e1, e2⟩ := Option.bind_eq_some_iff.mp e
  obtain ⟨⟨d1, os1, ρ2⟩, e4, e3⟩ := Option.map_eq_some_iff.mp e2
  simp only [Prod.mk.injEq] at e3
  obtain ⟨rfl, rfl⟩ := e3
  unfold doCall at e4
  split at e4
  rotate_left
  · cases e4
  rename_i hc
  obtain ⟨ds, ha, e5⟩ := Option.bind_eq_some_iff.mp e4
  obtain ⟨⟨d2, os⟩, hcl, e6⟩ := Option.bind_eq_some_iff.mp e5
  obtain ⟨ρ3, hs, e7⟩ := Option.map_eq_some_iff.mp e6
  simp only [Prod.mk.injEq] at e7
  obtain ⟨rfl, _, rfl⟩ := e7
  refine ⟨w, P, ρ, F, cs, ρ1, hw, s, e1, trivial, fun vs H1 Z1 Gt F1 p => ?_⟩
  refine call_core (pre := []) (preD := []) (preV := []) (preF := []) s hw e1 p (fun _ _ => rfl) (fun a q => by cases q) List.nodup_nil .nil (fun _ _ => rfl) hc ha hcl (Nat.zero_le _) hs fun v H' Z G Gp F' r => k v H' Z G F' ⟨?_, r.env, r.rep, fun e => (by cases e), r.still⟩
  have e0 : Gp = [] := (show Reps (w.wz Z) H' [] [] Gp from r.reps).unnil.2
  have := r.aft
  rw [e0] at this
  exact this
/-- a method's call -/
theorem meth_glue {c f : Nat} {m : Str} {ms : MEs} {σ : St} {H : Hp} {Q : VK} (q : tE cl K CA (.meth c m f ms) σ H Q) : tCA cl K CA (fun ρ => recvOk cl c m ms ρ = true) ms σ H fun vs H1 => spM K CA cl f ms.flags vs H1 Q := by
  obtain ⟨w, P, ρ, F, d, ρ', hw, s, e, k⟩ := q
  simp only [ev] at e
  split at e
  rotate_left
  · cases e
  rename_i hrec
  obtain ⟨⟨cs, ρ1⟩, e1, e2⟩ := Option.bind_eq_some_iff.mp e
  obtain ⟨⟨d1, os1, ρ2⟩, e4, e3⟩ := Option.map_eq_some_iff.mp e2
  simp only [Prod.mk.injEq] at e3
  obtain ⟨rfl, rfl⟩ := e3
  unfold doCall at e4
  split at e4
  rotate_left
  · cases e4
  rename_i hc
  obtain ⟨ds, ha, e5⟩ := Option.bind_eq_some_iff.mp e4
  obtain ⟨⟨d2, os⟩, hcl, e6⟩ := Option.bind_eq_some_iff.mp e5
  obtain ⟨ρ3, hs, e7⟩ := Option.map_eq_some_iff.mp e6
  simp only [Prod.mk.injEq] at e7
  obtain ⟨rfl, _, rfl⟩ := e7
  refine ⟨w, P, ρ, F, cs, ρ1, hw, s, e1, hrec, fun vs H1 Z1 Gt F1 p => ?_⟩
  refine call_core (pre := []) (preD := []) (preV := []) (preF := []) s hw e1 p (fun _ _ => rfl) (fun a q => by cases q) List.nodup_nil .nil (fun _ _ => rfl) hc ha hcl (Nat.zero_le _) hs fun v H' Z G Gp F' r => k v H' Z G F' ⟨?_, r.env, r.rep, fun e => (by cases e), r.still⟩
  have e0 : Gp = [] := (show Reps (w.wz Z) H' [] [] Gp from r.reps).unnil.2
  have := r.aft
  rw [e0] at this
  exact this
/-- a new instance of c at x, its dict at dx -/
theorem mk_glue {c f : Nat} {C : Addr} (hC : CA c = some C) {ms : MEs} {σ : St} {H : Hp} {Q : VK} (q : tE cl K CA (.mk c f ms) σ H Q) :
    tCA cl K CA (fun _ => True) ms σ H fun vs H1 => ∀ x dx, H1 x = none → H1 dx = none → dx ≠ x → spM K CA cl f (true :: ms.flags) (.ref x :: vs) (upd (upd H1 dx (.own x)) x (.ins C dx [])) fun v H2 => v = .non ∧ Q (.ref x) H2 := by
  obtain ⟨w, P, ρ, F, d, ρ', hw, s, e, k⟩ := q
  simp only [ev] at e
  obtain ⟨⟨cs, ρ1⟩, e1, e2⟩ := Option.bind_eq_some_iff.mp e
  obtain ⟨⟨d1, os1, ρ2⟩, e4, e3⟩ := Option.bind_eq_some_iff.mp e2
  unfold doCall at e4
  split at e4
  rotate_left
  · cases e4
  rename_i hc
  obtain ⟨ds, ha, e5⟩ := Option.bind_eq_some_iff.mp e4
  obtain ⟨⟨d2, os⟩, hcl, e6⟩ := Option.bind_eq_some_iff.mp e5
  obtain ⟨ρ3, hs, e7⟩ := Option.map_eq_some_iff.mp e6
  simp only [Prod.mk.injEq] at e7
  obtain ⟨rfl, rfl, rfl⟩ := e7
  -- what it tells
  have hos : d2 = .non ∧ ∃ d0, os.take 1 = [d0] ∧ d = d0 ∧ ρ' = ρ3 := by
    have e3 : (match (d2, os.take 1, ρ3) with
      | (.non, [d], ρ') => some (d, ρ')
      | _ => none) = some (d, ρ') := e3
    split at e3
    · rename_i d0 ρ0 q
      simp only [Prod.mk.injEq] at q
      cases e3
      exact ⟨q.1, _, q.2.1, rfl, q.2.2.symm⟩
    · cases e3
  obtain ⟨rfl, d0, ho, rfl, rfl⟩ := hos
  have hlen : 1 ≤ os.length := by
    cases os with
    | nil => cases ho
    | cons _ _ => simp
  refine ⟨w, P, ρ, F, cs, ρ1, hw, s, e1, trivial, fun vs H1 Z1 Gt F1 p x dx hx hdx hne => ?_⟩
  have hk : ∀ a, H1 a ≠ none → upd (upd H1 dx (.own x)) x (.ins C dx []) a = H1 a := fun a q => by
    rw [upd_ne (fun e : a = x => q (e ▸ hx)), upd_ne (fun e : a = dx => q (e ▸ hdx))]
  have rp : Reps (w.wz Z1) (upd (upd H1 dx (.own x)) x (.ins C dx [])) [.ins .own c [] []] [.ref x] [x] := by
    have r1 : Rep (w.wz Z1) (upd (upd H1 dx (.own x)) x (.ins C dx [])) (.ins .own c [] []) (.ref x) [x] := by
      unfold Rep
      exact ⟨x, dx, [], [], rfl, ⟨rfl, List.nodup_nil⟩, ⟨C, by rw [show (w.wz Z1).CA = CA from hw.c]; exact hC, upd_same⟩, rfl, .nil⟩
    exact Reps.cons (F := [x]) (G := []) r1 .nil
  refine call_core (pre := [true]) (preD := [.ins .own c [] []]) (preV := [.ref x]) (preF := [x]) s hw e1 p hk (fun a q => by rw [List.mem_singleton.mp q]; exact hx) (by simp) rp (fun _ _ => rfl) hc ha hcl hlen hs fun v H' Z G Gp F' r => ?_
  have r3 : Reps (w.wz Z) H' [d] [.ref x] Gp := by
    have := r.reps
    rw [show ([V.ref x] : List V).length = 1 from rfl, ho] at this
    exact this
  obtain ⟨v0, vr, G1, G2, q1, rfl, r4, r5⟩ := r3.uncons
  cases q1
  have e5 := r5.unnil.2
  subst e5
  obtain ⟨rfl, rfl⟩ := r.rep.non_inv
  refine ⟨rfl, k (.ref x) H' Z G1 F' ⟨?_, r.env, r4, fun e => (by cases e), r.still⟩⟩
  have := r.aft
  rw [List.append_nil] at this
  exact this
end Mp
set_option Elab.async false
set_option linter.all false
set_option maxRecDepth 100000
set_option maxHeartbeats 2000000
/-! # Mp: what a def promises; rules of calls -/
namespace Mp
open PySem L2
variable {X : Cx} {cl : Call} {K : PySem.W.Frag} {CA : Nat → Option Addr}

/-- no exception comes out -/
def noX : CXT := fun _ _ _ _ _ _ => False
def noE : XK := fun _ _ _ => False
/-- the def at fa answers as the interpreter's fid, where there is room n and nothing is guarded -/
structure FnG (P : Program) (w : World) (K : PySem.W.Frag) (mg : Str → Option Value) (base : Heap) (CA : Nat → Option Addr) (cl : Call) (n : Nat) (fa : Addr) (fd : FuncData) (ps : List Str) (fid : Nat) : Prop where
  len : ∀ io ds r, cl fid io ds = some r → ds.length = ps.length
  go : ∀ (A : Around) (outer : List PySem.Env) (s : Shared) (H : Hp) (args : PySem.Args) (us : List Value) (vs : List V) (io : List Bool) (Q : VK), A.guards = some [] → Room n A → Env0 P w K mg base A outer s H → BindsTo s fd args (ps.zip us) → Vals vs us →
    spM K CA cl fid io vs H Q → codeAny (model P w) A (.call (.ref fa) args) (CR noX outer P w H s Q noE) s
theorem spM_len {f : Nat} {io : List Bool} {vs : List V} {H : Hp} {Q : VK} (h : spM K CA cl f io vs H Q) : ∃ ds r, cl f io ds = some r ∧ vs.length = ds.length := by
  obtain ⟨w, F, ds, d, os, _, r, _, _, _, e, _⟩ := h
  exact ⟨ds, _, e, r.len⟩
section
variable {n fid : Nat} {fa C : Addr} {fd : FuncData} {ps : List Str} {ds : List Value} {dvs : List V} {x m : Str} {p pos apos : Pos} {e o : Expr} {es : List Expr} {ms : MEs} {io : List Bool}
variable {pins : List (Addr × Obj)} {σ : St} {H : Hp} {s : Shared} {Q : VK} {us : List Value} {vs : List V}
theorem Args.first (h : Args X cl CA (e :: es) ms dvs) : starEach (e :: es) X.env = (false, eval e X.env) :: starEach es X.env ∧ (backTo pos (starEach es X.env)).any (·.1) = false := by
  cases h with
  | var h s r => exact ⟨starE s, r.noS⟩
  | io h s r => exact ⟨starE s, r.noS⟩
  | it h s r => exact ⟨starE s, r.noS⟩
  | cons hm h s r => exact ⟨starE s, r.noS⟩
theorem run_g (F : FnG X.prog X.w X.K X.mg X.base CA cl n fa fd ps fid) (hg : X.A.guards = some []) (hr : Room n X.A) (hb : Binds X.K fd ps ds) (hd : Vals dvs ds) (I : L2.Inv X pins σ H s) (r : Vals vs us) (h : spM X.K CA cl fid io (vs ++ dvs) H Q) :
    wpAny (model X.prog X.w) X.A (call (.ref fa) us) (EP X pins σ Q) X.xe s := by
  have rel := r.append hd
  obtain ⟨dd, rr, ec, el⟩ := spM_len h
  have hl : (us ++ ds).length = ps.length := by rw [← rel.length, el]; exact F.len _ _ _ ec
  refine wpAny_call (codeAny_mono (F.go X.A X.stack s H ⟨us, []⟩ _ _ io Q hg hr I.env0 (hb s us I.kIn hl) rel h) fun res s' out => ?_)
  match res, out with
  | .ok (.ret u), out => exact I.after out
  | .ok .next, out => exact out.elim
  | .ok .brk, out => exact out.elim
  | .ok .cont, out => exact out.elim
  | .error _, out => exact out.elim
theorem r_call (F : FnG X.prog X.w X.K X.mg X.base CA cl n fa fd ps fid) (hg : X.A.guards = some []) (hr : Room n X.A) (hgl : Gl X x) (hm : X.mg x = some (.ref fa)) (hk : PySem.W.keepIn X.K (.ref fa) = true) (hb : Binds X.K fd ps ds) (hd : Vals dvs ds)
    (hdb : (x == ("__debug__" : Str)) = false) (ha : Args X cl CA es ms dvs) : PE X (.Call (.Name x p) es [] pos) (tE cl X.K CA (.call fid ms)) := by
  refine ⟨fun pins s σ H Q I h => ?_⟩
  have h2 := call_glue h
  refine wpAny_Call_Name_kw (ld_glob I hgl hm ?_ hdb)
  cases es with
  | nil =>
    cases ha with
    | nil hdf => exact PySem.W.callWith_K0 I.kIn hk (run_g (us := []) (vs := []) F hg hr hb hd I .nil (hdf.run h2))
  | cons e es =>
    obtain ⟨h01, h02⟩ := ha.first
    refine PySem.W.callWith_K (h₀ := X.base) I.ok.mod.kin hk (thn ((ha.pa fun _ => True).run pos pins s σ H (fun vs H1 => spM X.K CA cl fid ms.flags (vs ++ dvs) H1 Q) I (tCA_mono h2 (fun _ h => h) fun vs' H1 q vs e => by subst e; exact q)) fun us s1 ⟨vs, H1, I1, r, q⟩ => ⟨I1.kIn, ?_⟩) h01 h02
    exact run_g F hg hr hb hd I1 r q
/-- a new instance -/
theorem run_gm (M : Mk X.K C fa) (F : FnG X.prog X.w X.K X.mg X.base CA cl n fa fd ps fid) (hg : X.A.guards = some []) (hr : Room (n + 1) X.A) (hb : Binds X.K fd ps ds) (hd : Vals dvs ds) (I : L2.Inv X pins σ H s) (r : Vals vs us)
    (h : ∀ x dx, H x = none → H dx = none → dx ≠ x → spM X.K CA cl fid io (.ref x :: (vs ++ dvs)) (upd (upd H dx (.own x)) x (.ins C dx [])) fun v H2 => v = .non ∧ Q (.ref x) H2) :
    wpAny (model X.prog X.w) X.A (call (.ref C) us) (EP X pins σ Q) X.xe s := by
  have hq := h (s.heap.objs.size + 1) s.heap.objs.size (I.hok.fresh (Nat.le_succ _)) (I.hok.fresh (Nat.le_refl _)) (Nat.ne_of_lt (Nat.lt_succ_self _))
  have J := Inv.made (C := C) I
  have rel : Vals (V.ref (s.heap.objs.size + 1) :: (vs ++ dvs)) (Value.ref (s.heap.objs.size + 1) :: (us ++ ds)) := .cons rfl (r.append hd)
  obtain ⟨dd, rr, ec, el⟩ := spM_len hq
  have hl : (Value.ref (s.heap.objs.size + 1) :: us ++ ds).length = ps.length := by rw [List.cons_append, ← rel.length, el]; exact F.len _ _ _ ec
  refine wpAny_call (make_map (f := fa) I.kIn M.makes M.init (beq_iff_eq.mp M.fn) (codeAny_mono (F.go _ X.stack _ _ ⟨Value.ref (s.heap.objs.size + 1) :: us, []⟩ _ _ io _ ?_ (hr.make C us []) (J.env0.make C us []) (hb _ _ J.kIn hl) rel hq) fun res s' out => ?_))
  · first | exact hg | (simpa [Around.under, Code.guards, Code.isGuard, pushGuards, guardIds] using hg)
  · match res, out with
    | .ok (.ret u), out =>
      obtain ⟨v, H', I3, rv, ev, q3⟩ := J.after out
      subst ev
      exact ⟨rv, ⟨V.ref (s.heap.objs.size + 1), H', I3, rfl, q3⟩⟩
    | .ok .next, out => exact out.elim
    | .ok .brk, out => exact out.elim
    | .ok .cont, out => exact out.elim
    | .error _, out => exact out.elim
theorem r_mk (M : Mk X.K C fa) (F : FnG X.prog X.w X.K X.mg X.base CA cl n fa fd ps fid) (hg : X.A.guards = some []) (hr : Room (n + 1) X.A) (hgl : Gl X x) (hm : X.mg x = some (.ref C)) (hb : Binds X.K fd ps ds) (hd : Vals dvs ds)
    (hdb : (x == ("__debug__" : Str)) = false) {c : Nat} (hC : CA c = some C) (ha : Args X cl CA es ms dvs) : PE X (.Call (.Name x p) es [] pos) (tE cl X.K CA (.mk c fid ms)) := by
  refine ⟨fun pins s σ H Q I h => ?_⟩
  have h2 := mk_glue hC h
  refine wpAny_Call_Name_kw (ld_glob I hgl hm ?_ hdb)
  cases es with
  | nil =>
    cases ha with
    | nil hdf => exact PySem.W.callWith_K0 I.kIn M.kp (run_gm (us := []) (vs := []) M F hg hr hb hd I .nil (hdf.run h2))
  | cons e es =>
    obtain ⟨h01, h02⟩ := ha.first
    refine PySem.W.callWith_K (h₀ := X.base) I.ok.mod.kin M.kp (thn ((ha.pa fun _ => True).run pos pins s σ H (fun vs H1 => ∀ x dx, H1 x = none → H1 dx = none → dx ≠ x → spM X.K CA cl fid (true :: ms.flags) (.ref x :: (vs ++ dvs)) (upd (upd H1 dx (.own x)) x (.ins C dx [])) fun v H2 => v = .non ∧ Q (.ref x) H2) I
      (tCA_mono h2 (fun _ h => h) fun vs' H1 q vs e => by subst e; exact q)) fun us s1 ⟨vs, H1, I1, r, q⟩ => ⟨I1.kIn, ?_⟩) h01 h02
    exact run_gm M F hg hr hb hd I1 r q

/-! ### methods -/
/-- how a method call is read -/
theorem eval_meth {env : PySem.Env} (hb : attributeBase o m env (eval o env) = eval o env) (hf : methodCallForm (es.length + ([] : List Keyword).length) (backTo pos (starEach es env)) (backToKw pos (keywordEach [] env)) = true) (hl : (apos.endLine == pos.line) = true) :
    eval (.Call (.Attribute o m apos) es [] pos) env = (do
      let ov ← eval o env
      standAt apos.atName
      let (f, first) ← holding [ov] (getMethod ov m (do return (← importBound o env).getD true))
      callWith pos f first (backTo pos (starEach es env)) (backToKw pos (keywordEach [] env))) := by
  rw [arm_eval_Call, hb]
  unfold methodCall calleeOf methodCallPos
  rw [hf, hl]
  rfl
/-- the receiver as the interpreter saw it -/
theorem recv_ins {c : Nat} {d : D} {v : V} {w : Wd} {G : List Addr} (hw : w.In K CA) (r : Rep w H d v G) (h : isRecv c m d = true) : ∃ a C dx fs, v = .ref a ∧ CA c = some C ∧ H a = some (.ins C dx fs) ∧ fs.lookup m = none := by
  cases d with
  | ins f c' ns ds =>
    simp only [isRecv, Bool.and_eq_true, beq_iff_eq, Bool.not_eq_true', List.contains_eq_mem, decide_eq_false_iff_not] at h
    obtain ⟨rfl, hn⟩ := h
    obtain ⟨a, dx, us, G', rfl, nn, ⟨C, eC, eH⟩, t, rs⟩ := r.ins_inv
    rw [hw.c] at eC
    refine ⟨a, C, dx, _, rfl, eC, eH, ?_⟩
    rw [List.lookup_eq_none_iff]
    intro q hq
    have := (List.of_mem_zip (show (q.1, q.2) ∈ ns.zip us from hq)).1
    exact bne_iff_ne.mpr fun e => hn (e ▸ this)
  | _ => cases h
/-- the receiver and its term -/
inductive Recv (X : Cx) (cl : Call) (CA : Nat → Option Addr) (o : Expr) : ME → Prop where
  | var {i : Nat} (h : PE X o (tVar i)) : Recv X cl CA o (.var i)
  | io {i : Nat} (h : PE X o (tVar i)) : Recv X cl CA o (.io i)
  | it {a : ME} (h : PE X o (tE cl X.K CA a)) : Recv X cl CA o (.it a)
  | cons {a : ME} (hm : a.arg = true) (h : PE X o (tE cl X.K CA a)) : Recv X cl CA o a
theorem Recv.run {a : ME} (h : Recv X cl CA o a) : ∃ t, PE X o t ∧ ∀ {c : Nat} {ms : MEs} {σ : St} {H : Hp} {Q : List V → Hp → Prop}, tCA cl X.K CA (fun ρ => recvOk cl c m (.cons a ms) ρ = true) (.cons a ms) σ H Q →
    t σ H fun x H1 => (∃ ad C dx fs, x = .ref ad ∧ CA c = some C ∧ H1 ad = some (.ins C dx fs) ∧ fs.lookup m = none) ∧ tCA cl X.K CA (fun _ => True) ms σ H1 fun xs H2 => Q (x :: xs) H2 := by
  have ofN : ∀ {c i : Nat} {ρ : Env} {d : D}, gI ρ i = some d → ((gI ρ i).map (isRecv c m)).getD false = true → isRecv c m d = true := fun e h => by rw [e] at h; exact h
  cases h with
  | @var i h =>
    refine ⟨_, h, fun {c ms σ H Q} q => ?_⟩
    obtain ⟨v, e, ⟨w, d, G, ρ, hw, r, hW, eg⟩, q⟩ := tCA_name (c := .late _) (.inl rfl) (fun h => (Bool.and_eq_true_iff.mp h).2) (fun ρ => by rw [evC]) q
    exact ⟨v, e, recv_ins hw r (ofN eg (by simpa only [recvOk] using hW)), q⟩
  | @io i h =>
    refine ⟨_, h, fun {c ms σ H Q} q => ?_⟩
    obtain ⟨v, e, ⟨w, d, G, ρ, hw, r, hW, eg⟩, q⟩ := tCA_name (c := .io _) (.inr rfl) (fun h => (Bool.and_eq_true_iff.mp h).2) (fun ρ => by rw [evC]) q
    exact ⟨v, e, recv_ins hw r (ofN eg (by simpa only [recvOk] using hW)), q⟩
  | @it a h =>
    refine ⟨_, h, fun {c ms σ H Q} q => tG_mono (tCA_it q) fun v H1 ⟨⟨w, d, G, ρ, ρ', hw, r, hW, e⟩, q⟩ => ⟨recv_ins hw r ?_, q⟩⟩
    simp only [recvOk, e, Option.map_some, Option.getD_some] at hW
    exact hW
  | cons hm h =>
    refine ⟨_, h, fun {c ms σ H Q} q => tG_mono (tCA_cons hm q) fun v H1 ⟨⟨w, d, G, ρ, ρ', hw, r, hW, e⟩, q⟩ => ⟨recv_ins hw r ?_, q⟩⟩
    have hW : ((ev cl a ρ).map fun r => isRecv c m r.1).getD false = true := by
      cases a <;> first | (cases hm; done) | (simp only [recvOk] at hW; exact hW)
    rw [e] at hW
    exact hW
theorem r_meth {a : ME} {c : Nat} (hrv : Recv X cl CA o a) (cf : ClsOk X.K CA) (hM : ∀ C, CA c = some C → Meth X.K C m fa) (F : FnG X.prog X.w X.K X.mg X.base CA cl n fa fd ps fid) (hg : X.A.guards = some []) (hr : Room n X.A) (hb : Binds X.K fd ps ds) (hd : Vals dvs ds)
    (hbase : attributeBase o m X.env (eval o X.env) = eval o X.env) (hline : (apos.endLine == pos.line) = true) (hlen : es.length < 29) (ha : Args X cl CA es ms dvs) :
    PE X (.Call (.Attribute o m apos) es [] pos) (tE cl X.K CA (.meth c m fid (.cons a ms))) := by
  refine ⟨fun pins s σ H Q I h => ?_⟩
  have h2 := meth_glue h
  obtain ⟨t, ho, k⟩ := hrv.run (m := m)
  have h3 := k h2
  have hf : methodCallForm (es.length + ([] : List Keyword).length) (backTo pos (starEach es X.env)) (backToKw pos (keywordEach [] X.env)) = true := by
    unfold methodCallForm
    rw [ha.star]
    simp only [backTo, List.map_map, List.all_map, backToKw, keywordEach, List.map_nil, List.all_nil, List.isEmpty_nil, if_true, List.length_nil, Nat.add_zero, Bool.and_true, Bool.and_eq_true, decide_eq_true_eq]
    refine ⟨by simp, by omega⟩
  refine PySem.W.methodCall_KW (thn (ho.run pins s σ H _ I h3) fun u s1 ⟨x, H1, I1, rx, ⟨ad, C, dx, fs, ex, eC, ea, el⟩, q⟩ => ?_) (eval_meth hbase hf hline)
  subst ex
  obtain rfl : u = Value.ref ad := rx
  have M := hM C eC
  refine getmeth_ok I1 ea (cf.cls _ _ eC).cl M el ?_
  cases es with
  | nil =>
    cases ha with
    | nil hdf => exact PySem.W.callWith_K0 (first := [.ref ad]) I1.kIn M.kp (run_g (us := [.ref ad]) (vs := [.ref ad]) F hg hr hb hd I1 (.cons rfl .nil) (hdf.run q))
  | cons e es =>
    obtain ⟨h01, h02⟩ := ha.first
    refine PySem.W.callWith_K (first := [.ref ad]) (h₀ := X.base) I.ok.mod.kin M.kp (thn ((ha.pa fun _ => True).run pos pins s1 σ H1 (fun vs H1 => spM X.K CA cl fid (MEs.cons a ms).flags (.ref ad :: (vs ++ dvs)) H1 Q) I1 (tCA_mono q (fun _ h => h) fun vs' H1 q vs e => by subst e; exact q)) fun us s2 ⟨vs, H2, I2, r, q2⟩ => ⟨I2.kIn, ?_⟩) h01 h02
    exact run_g (us := .ref ad :: us) (vs := .ref ad :: vs) F hg hr hb hd I2 (.cons rfl r) q2
end
end Mp
set_option Elab.async false
set_option linter.all false
set_option maxRecDepth 100000
set_option maxHeartbeats 2000000
/-! # Mp: own == -/
namespace Mp
open PySem L2
variable {X : Cx} {cl : Call} {K : PySem.W.Frag} {CA : Nat → Option Addr}

/-- the own == of the classes that have one -/
def EqOk (X : Cx) (CA : Nat → Option Addr) (cl : Call) : Prop := ∀ c C io ds r, CA c = some C → cl (10000 + c) io ds = some r →
  ∃ n fa fd ps, FnG X.prog X.w X.K X.mg X.base CA cl n fa fd ps (10000 + c) ∧ Room n X.A ∧ Binds X.K fd ps [] ∧ PySem.W.findIn X.K (.ref C) "__eq__" = some (some (.ref fa)) ∧ PySem.W.isFn X.K (.ref fa) = true
theorem rC_of {o : Cop} {p q : Bool} {d1 d2 : D} {x y : V} {H : Hp} {Q : VK} {w : Wd} {Gs : List (List Addr)} {d : D} (hw : w.In K CA) (c : VCtx w H [d1, d2] [x, y] [p, q] Gs) (e : (cmpD o d1 d2).map D.bl = some d)
    (k : ∀ v H' Z G, VPost w H [p, q] Gs false d v H' Z G → Q v H') : rC K CA o [p, q] [x, y] H Q := by
  obtain ⟨b, e1, rfl⟩ := Option.map_eq_some_iff.mp e
  exact ⟨w, _, Gs, b, hw, c, ⟨d1, d2, rfl, e1⟩, k _ _ _ _ (.imm c .bl_mk)⟩
theorem own_eq (he : EqOk X CA cl) (hg : X.A.guards = some []) (hu : X.A.units + 65 < cLine) {p q : Bool} {c : Nat} {f g : Fl} {ns1 ns2 : List Str} {ds1 ds2 : List D} {x y : V} {H : Hp} {Q : VK} {w : Wd} {Gs : List (List Addr)} {d : D} (hw : w.In X.K CA)
    (cx : VCtx w H [.ins f c ns1 ds1, .ins g c ns2 ds2] [x, y] [p, q] Gs) (e : ((cl (10000 + c) [false, false] ([D.ins f c ns1 ds1, D.ins g c ns2 ds2].map D.br)).bind fun r => (asBl r.1).map D.bl) = some d)
    (k : ∀ v H' Z G, VPost w H [p, q] Gs false d v H' Z G → Q v H') {pins : List (Addr × Obj)} {s : Shared} {σ : St} {u v : Value} (I : L2.Inv X pins σ H s) (rx : RelV x u) (ry : RelV y v) :
    wpAny (model X.prog X.w) X.A (compareOp .Eq u v) (EP X pins σ Q) X.xe s := by
  obtain ⟨⟨d', os⟩, ec, e2⟩ := Option.bind_eq_some_iff.mp e
  obtain ⟨b, e3, rfl⟩ := Option.map_eq_some_iff.mp e2
  obtain rfl := asBl_eq e3
  obtain ⟨D1, D2, F1, F2, eD, rfl, r1, r2⟩ := cx.rep.two
  cases eD
  obtain ⟨a, dx, us1, G1, rfl, n1, ⟨C, eC, ea⟩, t1, rs1⟩ := r1.ins_inv
  obtain ⟨a2, dx2, us2, G2, rfl, n2, ⟨C2, eC2, ea2⟩, t2, rs2⟩ := r2.ins_inv
  rw [eC] at eC2
  cases eC2
  rw [hw.c] at eC
  obtain ⟨n, fa, fd, ps, F, hr, hb, hs, hf⟩ := he c C _ _ _ eC ec
  cases rx
  cases ry
  obtain ⟨mA, J1, _⟩ := ins_get I.hok ea
  obtain ⟨mB, J2, _⟩ := ins_get I.hok ea2
  obtain ⟨o1, J1, _⟩ := J1.look
  obtain ⟨o2, J2, _⟩ := J2.look
  obtain ⟨m, hF⟩ := I.fr
  show wpAny (model X.prog X.w) X.A (richCompare .Eq (.ref a) (.ref a2)) (EP X pins σ Q) X.xe s
  refine PySem.W.cmp_K (op := .Eq) (tb := .ref C) (by omega) hF I.ok.mod.kin J1 J2.type (by simp [PySem.W.notFirst]) hs hf ?_
  have lv : ∀ z, (z ∈ F1 ∨ z ∈ F2) → H z ≠ none := fun z h => h.elim (r1.live z) (r2.live z)
  have B1 := r1.br (Z := fun z => w.B z ∨ z ∈ F1 ∨ z ∈ F2) (fun _ h => .inl h) fun z h => .inr (.inl h)
  have B2 := r2.br (Z := fun z => w.B z ∨ z ∈ F1 ∨ z ∈ F2) (fun _ h => .inl h) fun z h => .inr (.inr h)
  have sp : spM X.K CA cl (10000 + c) [false, false] ([V.ref a, V.ref a2] ++ []) H (fun z H' => (∃ b, z = V.bl b) ∧ Q z H') := by
    refine ⟨w.wb fun z => w.B z ∨ z ∈ F1 ∨ z ∈ F2, [], _, .bl b, os, ⟨hw.k, hw.c⟩, Reps.cons (F := []) (G := []) B1 (Reps.cons (F := []) (G := []) B2 .nil), List.nodup_nil, fun z h => (by cases h), fun z h => h.elim (cx.zl z) fun h => h.elim (cx.bl z) (lv z), ec, fun z H' Z G Fo af rp ro nb nbo => ?_⟩
    obtain ⟨rfl, rfl⟩ := rp.bl_inv
    refine ⟨⟨b, rfl⟩, k _ _ Z [] ⟨⟨fun z h => af.fr z (h.imp id fun h => ⟨h, fun h => by cases h⟩), af.mono, fun z h => ?_, af.liv, fun z h => (by cases h), List.nodup_nil, af.keep⟩, .bl_mk, fun h => (by cases h)⟩⟩
    rcases af.grow z h with h | h | h
    · exact .inl h
    · cases h
    · exact .inr (.inr h)
  refine thn (run_g (us := [.ref a, .ref a2]) (vs := [.ref a, .ref a2]) F hg hr hb .nil I (.cons rfl (.cons rfl .nil)) sp) fun z s' ⟨zv, H', I', rz, ⟨b', eb⟩, hq⟩ => ?_
  subst eb
  cases rz
  exact ⟨.bl b', H', I', rfl, hq⟩
/-- all comparisons -/
theorem cmp_all (he : EqOk X CA cl) (hg : X.A.guards = some []) (hu : X.A.units + 65 < cLine) (o : Cop) : CmpR X cl CA o := by
  intro p q pins s σ H x y u v Q I rx ry h
  obtain ⟨w, ds, Gs, d, hw, cx, e, k⟩ := h
  obtain ⟨d1, d2, F1, F2, rfl, rfl, r1, r2⟩ := cx.rep.two
  have plain : (cmpD o d1 d2).map D.bl = some d → wpAny (model X.prog X.w) X.A (compareOp (copOf o) u v) (EP X pins σ Q) X.xe s := fun e => or_cmp (CA := CA) (pls := [p, q]) hu o pins s σ H x y u v Q I rx ry (rC_of hw cx e k)
  by_cases ho : o = .eq
  · subst ho
    cases d1 with
    | ins f c ns1 ds1 =>
      cases d2 with
      | ins g c' ns2 ds2 =>
        by_cases hc : c = c'
        · subst hc
          have e : (match (if c = c then some (10000 + c) else none : Option Nat) with
            | some f' => (cl f' [false, false] ([D.ins f c ns1 ds1, D.ins g c ns2 ds2].map D.br)).bind fun r => (asBl r.1).map D.bl
            | none => opD (.cmp .eq) [p, q] [D.ins f c ns1 ds1, D.ins g c ns2 ds2]) = some d := e
          rw [if_pos rfl] at e
          exact own_eq he hg hu hw cx e k I rx ry
        · have e : (match (if c = c' then some (10000 + c) else none : Option Nat) with
            | some f' => (cl f' [false, false] ([D.ins f c ns1 ds1, D.ins g c' ns2 ds2].map D.br)).bind fun r => (asBl r.1).map D.bl
            | none => opD (.cmp .eq) [p, q] [D.ins f c ns1 ds1, D.ins g c' ns2 ds2]) = some d := e
          rw [if_neg hc] at e
          exact plain e
      | _ => exact plain e
    | _ => exact plain e
  · refine plain ?_
    cases o <;> first | exact e | exact absurd rfl ho
end Mp
set_option Elab.async false
set_option linter.all false
set_option maxRecDepth 100000
set_option maxHeartbeats 2000000
/-! # Mp: calls with keywords -/
namespace Mp
open PySem L2
variable {X : Cx} {cl : Call} {K : PySem.W.Frag} {CA : Nat → Option Addr}

theorem PK.imp {X : Cx} {e : List Keyword} {t t' : TA} (h : PK X e t) (q : ∀ σ H Q, t' σ H Q → t σ H Q) : PK X e t' := ⟨fun pos pins s σ H Q I hw => h.run pos pins s σ H Q I (q σ H Q hw)⟩
/-- keywords (all named) and their terms -/
inductive KArgs (X : Cx) (cl : Call) (CA : Nat → Option Addr) : List Keyword → MEs → Prop where
  | nil : KArgs X cl CA [] .nil
  | var {x : Str} {e : Expr} {p : Pos} {i : Nat} {es : List Keyword} {ms : MEs} (h : PE X e (tVar i)) (r : KArgs X cl CA es ms) : KArgs X cl CA (⟨some x, e, p⟩ :: es) (.cons (.var i) ms)
  | io {x : Str} {e : Expr} {p : Pos} {i : Nat} {es : List Keyword} {ms : MEs} (h : PE X e (tVar i)) (r : KArgs X cl CA es ms) : KArgs X cl CA (⟨some x, e, p⟩ :: es) (.cons (.io i) ms)
  | it {x : Str} {e : Expr} {p : Pos} {m : ME} {es : List Keyword} {ms : MEs} (h : PE X e (tE cl X.K CA m)) (r : KArgs X cl CA es ms) : KArgs X cl CA (⟨some x, e, p⟩ :: es) (.cons (.it m) ms)
  | cons {x : Str} {e : Expr} {p : Pos} {m : ME} {es : List Keyword} {ms : MEs} (hm : m.arg = true) (h : PE X e (tE cl X.K CA m)) (r : KArgs X cl CA es ms) : KArgs X cl CA (⟨some x, e, p⟩ :: es) (.cons m ms)
def kwNames (kws : List Keyword) : List Str := kws.filterMap (·.arg)
theorem KArgs.names {kws : List Keyword} {ms : MEs} (h : KArgs X cl CA kws ms) {pos : Pos} : (backToKw pos (keywordEach kws X.env)).filterMap (·.1) = kwNames kws ∧ (backToKw pos (keywordEach kws X.env)).all (·.1.isSome) = true ∧ (backToKw pos (keywordEach kws X.env)).any (·.1.isNone) = false := by
  induction h with
  | nil => exact ⟨rfl, rfl, rfl⟩
  | var h r ih => obtain ⟨a, b, c⟩ := ih; exact ⟨congrArg (List.cons _) a, b, c⟩
  | io h r ih => obtain ⟨a, b, c⟩ := ih; exact ⟨congrArg (List.cons _) a, b, c⟩
  | it h r ih => obtain ⟨a, b, c⟩ := ih; exact ⟨congrArg (List.cons _) a, b, c⟩
  | cons hm h r ih => obtain ⟨a, b, c⟩ := ih; exact ⟨congrArg (List.cons _) a, b, c⟩
/-- as many values as terms -/
def tCAn (cl : Call) (K : PySem.W.Frag) (CA : Nat → Option Addr) (W : Mp.Env → Prop) (ms : MEs) (n : Nat) : TA := fun σ H Q => ∃ Q' : List V → Hp → Prop, tCA cl K CA W ms σ H Q' ∧ ∀ vs H1, vs.length = n → Q' vs H1 → Q vs H1
theorem KArgs.pk {kws : List Keyword} {ms : MEs} (h : KArgs X cl CA kws ms) : ∀ W, PK X kws (tCAn cl X.K CA W ms kws.length) := by
  induction h with
  | nil => exact fun W => PK.imp pk_nil fun _ _ _ ⟨Q', q, k⟩ => k [] _ rfl (tCA_nil q)
  | var h r ih =>
    refine fun W => PK.imp (pk_cons h (ih fun _ => True)) fun _ _ _ ⟨Q', q, k⟩ => ?_
    obtain ⟨v, e, _, q⟩ := tCA_name (c := .late _) (.inl rfl) (fun h => (Bool.and_eq_true_iff.mp h).2) (fun ρ => by rw [evC]) q
    exact ⟨v, e, _, q, fun vs H1 hl q => k (v :: vs) H1 (by simp [hl]) q⟩
  | io h r ih =>
    refine fun W => PK.imp (pk_cons h (ih fun _ => True)) fun _ _ _ ⟨Q', q, k⟩ => ?_
    obtain ⟨v, e, _, q⟩ := tCA_name (c := .io _) (.inr rfl) (fun h => (Bool.and_eq_true_iff.mp h).2) (fun ρ => by rw [evC]) q
    exact ⟨v, e, _, q, fun vs H1 hl q => k (v :: vs) H1 (by simp [hl]) q⟩
  | it h r ih => exact fun W => PK.imp (pk_cons h (ih fun _ => True)) fun _ _ _ ⟨Q', q, k⟩ => tG_mono (tCA_it q) fun v _ ⟨_, q⟩ => ⟨_, q, fun vs H1 hl q => k (v :: vs) H1 (by simp [hl]) q⟩
  | cons hm h r ih => exact fun W => PK.imp (pk_cons h (ih fun _ => True)) fun _ _ _ ⟨Q', q, k⟩ => tG_mono (tCA_cons hm q) fun v _ ⟨_, q⟩ => ⟨_, q, fun vs H1 hl q => k (v :: vs) H1 (by simp [hl]) q⟩
/-- the written arguments, the rest of the terms being left to keywords -/
inductive PArgs (X : Cx) (cl : Call) (CA : Nat → Option Addr) : List Expr → MEs → MEs → Prop where
  | nil {ms : MEs} : PArgs X cl CA [] ms ms
  | var {e : Expr} {i : Nat} {es : List Expr} {ms mr : MEs} (h : PE X e (tVar i)) (s : noStar e = true) (r : PArgs X cl CA es ms mr) : PArgs X cl CA (e :: es) (.cons (.var i) ms) mr
  | io {e : Expr} {i : Nat} {es : List Expr} {ms mr : MEs} (h : PE X e (tVar i)) (s : noStar e = true) (r : PArgs X cl CA es ms mr) : PArgs X cl CA (e :: es) (.cons (.io i) ms) mr
  | it {e : Expr} {m : ME} {es : List Expr} {ms mr : MEs} (h : PE X e (tE cl X.K CA m)) (s : noStar e = true) (r : PArgs X cl CA es ms mr) : PArgs X cl CA (e :: es) (.cons (.it m) ms) mr
  | cons {e : Expr} {m : ME} {es : List Expr} {ms mr : MEs} (hm : m.arg = true) (h : PE X e (tE cl X.K CA m)) (s : noStar e = true) (r : PArgs X cl CA es ms mr) : PArgs X cl CA (e :: es) (.cons m ms) mr
theorem PArgs.star {es : List Expr} {ms mr : MEs} (h : PArgs X cl CA es ms mr) : starEach es X.env = es.map fun e => (false, eval e X.env) := by
  induction h with
  | nil => rfl
  | var h s r ih => rw [starE s, ih]; rfl
  | io h s r ih => rw [starE s, ih]; rfl
  | it h s r ih => rw [starE s, ih]; rfl
  | cons hm h s r ih => rw [starE s, ih]; rfl
theorem PArgs.noS {es : List Expr} {ms mr : MEs} (h : PArgs X cl CA es ms mr) {pos : Pos} : (backTo pos (starEach es X.env)).any (·.1) = false := by
  rw [h.star]
  unfold backTo
  simp
/-- the written ones, then the others -/
abbrev tPA (cl : Call) (K : PySem.W.Frag) (CA : Nat → Option Addr) (mr : MEs) (t : TA) : TA := fun σ H Q => t σ H Q
def tCA2 (cl : Call) (K : PySem.W.Frag) (CA : Nat → Option Addr) (W : Mp.Env → Prop) (ms mr : MEs) (n : Nat) : TA := fun σ H Q => ∃ Q' : List V → Hp → Prop, tCA cl K CA W ms σ H Q' ∧ ∀ vs H1, vs.length = n → tCA cl K CA (fun _ => True) mr σ H1 (fun zs H2 => Q' (vs ++ zs) H2) → Q vs H1
theorem PArgs.pa {es : List Expr} {ms mr : MEs} (h : PArgs X cl CA es ms mr) : ∀ W, PA X es (tCA2 cl X.K CA W ms mr es.length) := by
  induction h with
  | nil => exact fun W => PA.imp pa_nil fun _ _ _ ⟨Q', q, k⟩ => k [] _ rfl (tCA_mono q (fun _ _ => trivial) fun _ _ h => h)
  | var h s r ih =>
    refine fun W => PA.imp (pa_cons h (ih fun _ => True) (starE s)) fun _ _ _ ⟨Q', q, k⟩ => ?_
    obtain ⟨v, e, _, q⟩ := tCA_name (c := .late _) (.inl rfl) (fun h => (Bool.and_eq_true_iff.mp h).2) (fun ρ => by rw [evC]) q
    exact ⟨v, e, _, q, fun vs H1 hl q => k (v :: vs) H1 (by simp [hl]) q⟩
  | io h s r ih =>
    refine fun W => PA.imp (pa_cons h (ih fun _ => True) (starE s)) fun _ _ _ ⟨Q', q, k⟩ => ?_
    obtain ⟨v, e, _, q⟩ := tCA_name (c := .io _) (.inr rfl) (fun h => (Bool.and_eq_true_iff.mp h).2) (fun ρ => by rw [evC]) q
    exact ⟨v, e, _, q, fun vs H1 hl q => k (v :: vs) H1 (by simp [hl]) q⟩
  | it h s r ih => exact fun W => PA.imp (pa_cons h (ih fun _ => True) (starE s)) fun _ _ _ ⟨Q', q, k⟩ => tG_mono (tCA_it q) fun v _ ⟨_, q⟩ => ⟨_, q, fun vs H1 hl q => k (v :: vs) H1 (by simp [hl]) q⟩
  | cons hm h s r ih => exact fun W => PA.imp (pa_cons h (ih fun _ => True) (starE s)) fun _ _ _ ⟨Q', q, k⟩ => tG_mono (tCA_cons hm q) fun v _ ⟨_, q⟩ => ⟨_, q, fun vs H1 hl q => k (v :: vs) H1 (by simp [hl]) q⟩

/-- how a call with n written arguments and the keywords ks binds: in the parameters' order, all given -/
def KBinds' (K : PySem.W.Frag) (fd : FuncData) (ps : List Str) (n : Nat) (ks : List Str) : Prop := ∀ (s : Shared) (us ws : List Value), K.In s.heap → us.length = n → ws.length = ks.length → BindsTo s fd ⟨us, ks.zip ws⟩ (ps.zip (us ++ ws))
section
variable {n fid : Nat} {fa C : Addr} {fd : FuncData} {ps : List Str} {x m : Str} {p pos apos : Pos} {e o : Expr} {es : List Expr} {kws : List Keyword} {ms mr : MEs} {io : List Bool}
variable {pins : List (Addr × Obj)} {σ : St} {H : Hp} {s : Shared} {Q : VK} {us ws : List Value} {vs zs : List V}
theorem run_gk (F : FnG X.prog X.w X.K X.mg X.base CA cl n fa fd ps fid) (hg : X.A.guards = some []) (hr : Room n X.A) {ks : List Str} (hb : KBinds' X.K fd ps us.length ks) (I : L2.Inv X pins σ H s) (r : Vals vs us) (rz : Vals zs ws) (hl : zs.length = ks.length) (h : spM X.K CA cl fid io (vs ++ zs) H Q) :
    wpAny (model X.prog X.w) X.A (call (.ref fa) us (ks.zip ws)) (EP X pins σ Q) X.xe s := by
  have rel := r.append rz
  refine wpAny_call (codeAny_mono (F.go X.A X.stack s H ⟨us, ks.zip ws⟩ _ _ io Q hg hr I.env0 (hb s us ws I.kIn rfl (by rw [← rz.length, hl])) rel h) fun res s' out => ?_)
  match res, out with
  | .ok (.ret u), out => exact I.after out
  | .ok .next, out => exact out.elim
  | .ok .brk, out => exact out.elim
  | .ok .cont, out => exact out.elim
  | .error _, out => exact out.elim
theorem kwl (h : KArgs X cl CA kws mr) : (kwNames kws).length = kws.length := by
  induction h with
  | nil => rfl
  | var h r ih => exact congrArg Nat.succ ih
  | io h r ih => exact congrArg Nat.succ ih
  | it h r ih => exact congrArg Nat.succ ih
  | cons hm h r ih => exact congrArg Nat.succ ih
/-- f(e, .., k = v, ..), every parameter given, in order -/
theorem r_callK (F : FnG X.prog X.w X.K X.mg X.base CA cl n fa fd ps fid) (hg : X.A.guards = some []) (hr : Room n X.A) (hgl : Gl X x) (hm : X.mg x = some (.ref fa)) (hk : PySem.W.keepIn X.K (.ref fa) = true) (hb : KBinds' X.K fd ps es.length (kwNames kws))
    (hdb : (x == ("__debug__" : Str)) = false) (ha : PArgs X cl CA es ms mr) (hkw : KArgs X cl CA kws mr) : PE X (.Call (.Name x p) es kws pos) (tE cl X.K CA (.call fid ms)) := by
  refine ⟨fun pins s σ H Q I h => ?_⟩
  have h2 := call_glue h
  refine wpAny_Call_Name_kw (ld_glob I hgl hm ?_ hdb)
  obtain ⟨n1, n2, n3⟩ := hkw.names (pos := pos)
  have hl := kwl hkw
  have tail : ∀ {vs : List V} {us : List Value} {s1 : Shared} {H1 : Hp}, L2.Inv X pins σ H1 s1 → Vals vs us → vs.length = es.length → tCA cl X.K CA (fun _ => True) mr σ H1 (fun zs H2 => spM X.K CA cl fid ms.flags (vs ++ zs) H2 Q) →
      wpAny (model X.prog X.w) X.A (evalAll ((backToKw pos (keywordEach kws X.env)).map (·.2))) (fun ws s2 => X.K.In s2.heap ∧ wpAny (model X.prog X.w) X.A (call (.ref fa) us (((backToKw pos (keywordEach kws X.env)).filterMap (·.1)).zip ws)) (EP X pins σ Q) X.xe s2) X.xe s1 := fun {vs us s1 H1} I1 r hvl q => by
    refine thn ((hkw.pk fun _ => True).run pos pins s1 σ H1 (fun zs H2 => zs.length = kws.length ∧ spM X.K CA cl fid ms.flags (vs ++ zs) H2 Q) I1 ⟨_, q, fun zs H2 hl q => ⟨hl, q⟩⟩) fun ws s2 ⟨zs, H2, I2, rz, hz, q2⟩ => ⟨I2.kIn, ?_⟩
    rw [n1]
    exact run_gk F hg hr (by rw [← r.length, hvl]; exact hb) I2 r rz (by rw [hl]; exact hz) q2
  cases es with
  | nil =>
    cases ha with
    | nil => exact PySem.W.callWith_KW0 I.kIn hk n2 (tail (vs := []) (us := []) I .nil rfl (tCA_mono h2 (fun _ h => h) fun _ _ h => h)) (by rw [n3]; rfl)
  | cons e es =>
    have hst : starEach (e :: es) X.env = (false, eval e X.env) :: starEach es X.env := by
      cases ha with
      | var h s r => exact starE s
      | io h s r => exact starE s
      | it h s r => exact starE s
      | cons hm h s r => exact starE s
    refine PySem.W.callWith_KW (h₀ := X.base) I.ok.mod.kin hk n2 (thn ((ha.pa fun _ => True).run pos pins s σ H (fun vs H1 => vs.length = (e :: es).length ∧ tCA cl X.K CA (fun _ => True) mr σ H1 (fun zs H2 => spM X.K CA cl fid ms.flags (vs ++ zs) H2 Q)) I ⟨_, h2, fun vs H1 hl q => ⟨hl, q⟩⟩) fun us s1 ⟨vs, H1, I1, r, hvl, q⟩ => ?_) (by rw [ha.noS, n3]; rfl) hst
    exact tail I1 r hvl q
end
end Mp
set_option Elab.async false
set_option linter.all false
set_option maxRecDepth 100000
set_option maxHeartbeats 2000000
/-! # Mp: statements -/
namespace Mp
open PySem L2
variable {X : Cx} {cl : Call} {K : PySem.W.Frag} {CA : Nat → Option Addr} {pn : List Nat}

/-- behind a statement; G: what is told; pn: the names that are never stored -/
structure SPost (w : Wd) (P : Addr → Prop) (σ : St) (H : Hp) (F : List Addr) (pn : List Nat) (ρ' : Env) (σ' : St) (H' : Hp) (Z : Addr → Prop) (G F' : List Addr) : Prop where
  aft : Aft w.Fz P F H Z H' (G ++ F')
  env : REnv (w.wz Z) H' σ' ρ' F'
  pin : ∀ i ∈ pn, σ'[i]? = σ[i]?
/-- where a statement ends -/
def byF (D : Ends) (w : Wd) (P : Addr → Prop) (σ : St) (H : Hp) (F : List Addr) (pn : List Nat) : Fw → Prop
  | .nx ρ' => ∀ σ' H' Z F', SPost w P σ H F pn ρ' σ' H' Z [] F' → D.nx σ' H'
  | .bk ρ' => ∀ σ' H' Z F', SPost w P σ H F pn ρ' σ' H' Z [] F' → D.bk σ' H'
  | .ct ρ' => ∀ σ' H' Z F', SPost w P σ H F pn ρ' σ' H' Z [] F' → D.ct σ' H'
  | .rt d ρ' => ∀ v σ' H' Z G F', SPost w P σ H F pn ρ' σ' H' Z G F' → Rep (w.wz Z) H' d v G → D.rt v H'
/-- a statement by the interpreter -/
def tX (K : PySem.W.Frag) (CA : Nat → Option Addr) (pn : List Nat) (f : Env → Option Fw) : TS := fun D σ H =>
  ∃ w P ρ F fw, Wd.In w K CA ∧ Sim w P σ ρ H F ∧ f ρ = some fw ∧ byF D w P σ H F pn fw
section
variable {w : Wd} {P : Addr → Prop} {σ σ1 σ2 : St} {H H1 H2 : Hp} {F F1 F2 G : List Addr} {ρ ρ1 ρ2 : Env} {Z1 Z2 : Addr → Prop} {D D' : Ends} {f g : Env → Option Fw}
theorem SPost.sim (p : SPost w P σ H F pn ρ1 σ1 H1 Z1 [] F1) (s : Sim w P σ ρ H F) : Sim (w.wz Z1) P σ1 ρ1 H1 F1 :=
  ⟨p.env, p.aft.nd, fun a q => ⟨(p.aft.new a q).2, fun z => (p.aft.new a q).1.elim (fun r => (s.dis a r).2 z) fun r => s.liv a (.inr z) r⟩, s.bp, fun a q => q.elim (p.aft.liv a) fun q => p.aft.keep a (s.liv a (.inr q))⟩
theorem SPost.trans (p : SPost w P σ H F pn ρ1 σ1 H1 Z1 [] F1) (q : SPost (w.wz Z1) P σ1 H1 F1 pn ρ2 σ2 H2 Z2 G F2) : SPost w P σ H F pn ρ2 σ2 H2 Z2 G F2 := by
  refine ⟨Aft.trans (G := []) p.aft (fun x h => by cases h) ?_, q.env, fun i h => (q.pin i h).trans (p.pin i h)⟩
  have := q.aft
  exact ⟨fun a h => this.fr a (h.imp id fun h => h.elim id fun h => by cases h), this.mono, this.grow, this.liv, this.new, this.nd, this.keep⟩
theorem SPost.refl (s : Sim w P σ ρ H F) : SPost w P σ H F pn ρ σ H w.Fz [] F := ⟨s.aft, s.env, fun _ _ => rfl⟩
theorem byF.mono {fw : Fw} (h : byF D w P σ H F pn fw) (h1 : ∀ σ H, D.nx σ H → D'.nx σ H) (h2 : ∀ v H, D.rt v H → D'.rt v H) (h3 : ∀ σ H, D.bk σ H → D'.bk σ H) (h4 : ∀ σ H, D.ct σ H → D'.ct σ H) : byF D' w P σ H F pn fw := by
  cases fw with
  | nx ρ' => exact fun σ' H' Z F' p => h1 _ _ (h σ' H' Z F' p)
  | bk ρ' => exact fun σ' H' Z F' p => h3 _ _ (h σ' H' Z F' p)
  | ct ρ' => exact fun σ' H' Z F' p => h4 _ _ (h σ' H' Z F' p)
  | rt d ρ' => exact fun v σ' H' Z G F' p r => h2 _ _ (h v σ' H' Z G F' p r)
theorem byF.trans (p : SPost w P σ H F pn ρ1 σ1 H1 Z1 [] F1) {fw : Fw} (h : byF D w P σ H F pn fw) : byF D (w.wz Z1) P σ1 H1 F1 pn fw := by
  cases fw with
  | nx ρ' => exact fun σ' H' Z F' q => h σ' H' Z F' (p.trans q)
  | bk ρ' => exact fun σ' H' Z F' q => h σ' H' Z F' (p.trans q)
  | ct ρ' => exact fun σ' H' Z F' q => h σ' H' Z F' (p.trans q)
  | rt d ρ' => exact fun v σ' H' Z G F' q r => h v σ' H' Z G F' (p.trans q) r
/-- one statement behind another -/
theorem t_seq {h : Env → Option Fw} (hf : ∀ ρ, f ρ = (g ρ).bind fun r => match r with
    | .nx ρ' => h ρ'
    | r => some r) (q : tX K CA pn f D σ H) : tX K CA pn g { D with nx := tX K CA pn h D } σ H := by
  obtain ⟨w, P, ρ, F, fw, hw, s, e, k⟩ := q
  rw [hf] at e
  obtain ⟨r, e1, e2⟩ := Option.bind_eq_some_iff.mp e
  refine ⟨w, P, ρ, F, r, hw, s, e1, ?_⟩
  cases r with
  | nx ρ1 => exact fun σ1 H1 Z1 F1 p => ⟨w.wz Z1, P, ρ1, F1, fw, ⟨hw.k, hw.c⟩, p.sim s, e2, byF.trans p k⟩
  | bk ρ1 => cases e2; exact k
  | ct ρ1 => cases e2; exact k
  | rt d ρ1 => cases e2; exact k
/-- nothing but the names changes -/
theorem t_names (hf : ∀ ρ x, f ρ = some x → ∃ ρ1, g ρ1 = some x ∧ ∀ {w : Wd} {P : Addr → Prop} {σ : St} {H : Hp} {F : List Addr}, Sim w P σ ρ H F → ∃ Z1 F1, SPost w P σ H F pn ρ1 σ H Z1 [] F1) (q : tX K CA pn f D σ H) : tX K CA pn g D σ H := by
  obtain ⟨w, P, ρ, F, fw, hw, s, e, k⟩ := q
  obtain ⟨ρ1, e1, h⟩ := hf _ _ e
  obtain ⟨Z1, F1, p⟩ := h s
  exact ⟨w.wz Z1, P, ρ1, F1, fw, ⟨hw.k, hw.c⟩, p.sim s, e1, byF.trans p k⟩
theorem tX_imp (h : ∀ ρ x, f ρ = some x → g ρ = some x) (q : tX K CA pn f D σ H) : tX K CA pn g D σ H := by
  obtain ⟨w, P, ρ, F, fw, hw, s, e, k⟩ := q
  exact ⟨w, P, ρ, F, fw, hw, s, h _ _ e, k⟩
/-- the end of an evaluation as a statement's -/
theorem EPost.st {pl still : Bool} {d : Mp.D} {v : V} (p : EPost w P σ ρ H F pl still d ρ1 v H1 Z1 G F1) : SPost w P σ H F pn ρ1 σ H1 Z1 [] F1 :=
  ⟨p.aft.sub (fun x q => List.mem_append_right _ q) (List.nodup_append.mp p.aft.nd).2.1, p.env, fun _ _ => rfl⟩
end

/-! ### expressions, tests ahead of statements -/
/-- an expression, then what its value decides -/
theorem t_ev {m : ME} {f : Env → Option Fw} {h : D → Env → Option Fw} {D : Ends} {σ : St} {H : Hp} (hf : ∀ ρ x, f ρ = some x → ∃ d ρ1, ev cl m ρ = some (d, ρ1) ∧ d.sh = true ∧ h d ρ1 = some x) (q : tX K CA pn f D σ H) :
    tE cl K CA m σ H fun v H1 => ∃ d w, Wd.In w K CA ∧ Rep w H1 d v [] ∧ tX K CA pn (h d) D σ H1 := by
  obtain ⟨w, P, ρ, F, fw, hw, s, e, k⟩ := q
  obtain ⟨d, ρ1, e1, hs, e2⟩ := hf _ _ e
  refine ⟨w, P, ρ, F, d, ρ1, hw, s, e1, fun v H1 Z1 G F1 p => ?_⟩
  have e0 : G = [] := p.rep.sh hs
  subst e0
  have sp : SPost w P σ H F pn ρ1 σ H1 Z1 [] F1 := p.st
  exact ⟨d, w.wz Z1, ⟨hw.k, hw.c⟩, p.rep, w.wz Z1, P, ρ1, F1, fw, ⟨hw.k, hw.c⟩, sp.sim s, e2, byF.trans sp k⟩
section
variable {D : Ends} {σ : St} {H : Hp} {c e : Expr} {m : ME} {a b : List Stmt} {ms ns : MSs} {pos : Pos} {st : Stmt} {rest : List Stmt}
theorem tX_some {f : Env → Option Fw} (q : tX K CA pn f D σ H) : ∃ ρ x, f ρ = some x := by
  obtain ⟨w, P, ρ, F, fw, hw, s, e, k⟩ := q
  exact ⟨ρ, fw, e⟩
theorem s_if (hc : PT X c (tT cl X.K CA m)) (ha : PSs X a (tX X.K CA pn (xss cl ms))) (hb : PSs X b (tX X.K CA pn (xss cl ns))) : PS X (.If c a b pos) (tX X.K CA pn (xs cl (.ife m ms ns))) := by
  refine PS.imp (ps_if hc ha hb) fun D σ H q => ?_
  refine tG_mono (t_ev (m := m) (h := fun d ρ => (asBl d).bind fun k => if k then xss cl ms ρ else xss cl ns ρ) (fun ρ x e => ?_) q) fun v H1 ⟨d, w, hw, r, q1⟩ => ?_
  · simp only [xs] at e
    obtain ⟨⟨d, ρ1⟩, e1, e2⟩ := Option.bind_eq_some_iff.mp e
    obtain ⟨k, e3, _⟩ := Option.bind_eq_some_iff.mp e2
    exact ⟨d, ρ1, e1, by rw [show d = Mp.D.bl _ from asBl_eq e3]; rfl, e2⟩
  · obtain ⟨ρ, x, e⟩ := tX_some q1
    obtain ⟨k, e3, _⟩ := Option.bind_eq_some_iff.mp e
    obtain rfl := asBl_eq e3
    obtain ⟨rfl, _⟩ := r.bl_inv
    refine ⟨k, rfl, ?_⟩
    cases k with
    | true => exact q1
    | false => exact q1
theorem s_pass : PS X (.Pass pos) (tX X.K CA pn (xs cl .pass)) := PS.imp ps_pass fun D σ H ⟨w, P, ρ, F, fw, hw, s, e, k⟩ => by
  simp only [xs, Option.some.injEq] at e
  subst e
  exact k _ _ _ _ (.refl s)
theorem s_brk : PS X (.Break pos) (tX X.K CA pn (xs cl .brk)) := PS.imp ps_break fun D σ H ⟨w, P, ρ, F, fw, hw, s, e, k⟩ => by
  simp only [xs, Option.some.injEq] at e
  subst e
  exact k _ _ _ _ (.refl s)
theorem s_cont : PS X (.Continue pos) (tX X.K CA pn (xs cl .cont)) := PS.imp ps_continue fun D σ H ⟨w, P, ρ, F, fw, hw, s, e, k⟩ => by
  simp only [xs, Option.some.injEq] at e
  subst e
  exact k _ _ _ _ (.refl s)
theorem s_retn : PS X (.Return none pos) (tX X.K CA pn (xs cl .retn)) := PS.imp ps_retN fun D σ H ⟨w, P, ρ, F, fw, hw, s, e, k⟩ => by
  simp only [xs, Option.some.injEq] at e
  subst e
  exact k .non σ H w.Fz [] F (.refl s) .non_mk
theorem s_never : PS X st (tX X.K CA pn (xs cl .raise)) := PS.imp ps_never fun D σ H ⟨w, P, ρ, F, fw, hw, s, e, k⟩ => by
  simp only [xs] at e
  cases e
theorem s_ret (h : PE X e (tE cl X.K CA m)) : PS X (.Return (some e) pos) (tX X.K CA pn (xs cl (.ret m))) := by
  refine PS.imp (ps_ret h) fun D σ H ⟨w, P, ρ, F, fw, hw, s, e, k⟩ => ?_
  simp only [xs] at e
  obtain ⟨⟨d, ρ1⟩, e1, e2⟩ := Option.map_eq_some_iff.mp e
  obtain ⟨e1, hs⟩ := adj_eq e1
  subst e2
  exact ⟨w, P, ρ, F, d, ρ1, hw, s, e1, fun v H1 Z1 G F1 p => k v σ H1 Z1 G F1 ⟨p.own hs, p.env, fun _ _ => rfl⟩ p.rep⟩
theorem s_ex (h : PE X e (tE cl X.K CA m)) (hs : swapsWith e none pos.line X.env = pure false) : PS X (.Expr e pos) (tX X.K CA pn (xs cl (.ex m))) := by
  refine PS.imp (ps_expr h hs) fun D σ H ⟨w, P, ρ, F, fw, hw, s, e, k⟩ => ?_
  simp only [xs] at e
  obtain ⟨⟨d, ρ1⟩, e1, e2⟩ := Option.map_eq_some_iff.mp e
  subst e2
  exact ⟨w, P, ρ, F, d, ρ1, hw, s, e1, fun v H1 Z1 G F1 p => k σ H1 Z1 F1 p.st⟩

/-! ### blocks -/
theorem ss_nil : PSs X [] (tX X.K CA pn (xss cl .nil)) := PSs.imp pss_nil fun D σ H ⟨w, P, ρ, F, fw, hw, s, e, k⟩ => by
  simp only [xss, Option.some.injEq] at e
  subst e
  exact k _ _ _ _ (.refl s)
theorem ss_cons {s : MS} (h : PS X st (tX X.K CA pn (xs cl s))) (h' : PSs X rest (tX X.K CA pn (xss cl ms))) : PSs X (st :: rest) (tX X.K CA pn (xss cl (.cons s ms))) :=
  PSs.imp (pss_cons h h') fun D σ H q => t_seq (h := xss cl ms) (fun ρ => by simp only [xss] <;> rfl) q
/-- a text that stands alone -/
theorem ss_doc {x : Str} {j} {p2 : Pos} (h : PSs X rest (tX X.K CA pn (xss cl ms))) : PSs X (.Expr (.Constant (.str x) j p2) pos :: rest) (tX X.K CA pn (xss cl ms)) :=
  PSs.imp (pss_cons ps_doc h) fun D σ H q => q
/-- names forgotten -/
theorem wipe_sim {w : Wd} {P : Addr → Prop} {ρ : Env} {F : List Addr} (s : Sim w P σ ρ H F) : ∀ is : List Nat, ∃ F1, REnv w H σ (wipeE ρ is) F1 ∧ F1.Sublist F
  | [] => ⟨F, s.env, List.Sublist.refl _⟩
  | i :: is => by
    obtain ⟨F1, a, b⟩ := wipe_sim s is
    obtain ⟨F2, c, d⟩ := a.drop (i := i)
    exact ⟨F2, c, d.trans b⟩
theorem ss_kill {is : List Nat} (h : PSs X rest (tX X.K CA pn (xss cl ms))) : PSs X rest (tX X.K CA pn (xss cl (.cons (.kill is) ms))) :=
  PSs.imp h fun D σ H q => t_names (fun ρ x e => ⟨wipeE ρ is, by simpa only [xss, xs, Option.bind_some] using e, fun {w P σ H F} s => by
    obtain ⟨F1, a, b⟩ := wipe_sim s is
    exact ⟨w.Fz, F1, s.aft.sublist b, a, fun _ _ => rfl⟩⟩) q
end
end Mp
set_option Elab.async false
set_option linter.all false
set_option maxRecDepth 100000
set_option maxHeartbeats 2000000
/-! # Mp: loops, targets -/
namespace Mp
open PySem L2
variable {X : Cx} {cl : Call} {K : PySem.W.Frag} {CA : Nat → Option Addr} {pn : List Nat}

/-- one turn of a loop -/
theorem t_turn {f body cont : Env → Option Fw} {D : Ends} {σ : St} {H : Hp} (hf : ∀ ρ x, f ρ = some x → (∃ ρ', body ρ = some (.nx ρ') ∧ cont ρ' = some x) ∨ (∃ ρ', body ρ = some (.ct ρ') ∧ cont ρ' = some x) ∨ (∃ ρ', body ρ = some (.bk ρ') ∧ x = .nx ρ') ∨ ∃ d ρ', body ρ = some (.rt d ρ') ∧ x = .rt d ρ')
    (q : tX K CA pn f D σ H) : tX K CA pn body { D with nx := tX K CA pn cont D, ct := tX K CA pn cont D, bk := D.nx } σ H := by
  obtain ⟨w, P, ρ, F, fw, hw, s, e, k⟩ := q
  rcases hf _ _ e with ⟨ρ', e1, e2⟩ | ⟨ρ', e1, e2⟩ | ⟨ρ', e1, rfl⟩ | ⟨d, ρ', e1, rfl⟩
  · exact ⟨w, P, ρ, F, _, hw, s, e1, fun σ1 H1 Z1 F1 p => ⟨w.wz Z1, P, ρ', F1, fw, ⟨hw.k, hw.c⟩, p.sim s, e2, byF.trans p k⟩⟩
  · exact ⟨w, P, ρ, F, _, hw, s, e1, fun σ1 H1 Z1 F1 p => ⟨w.wz Z1, P, ρ', F1, fw, ⟨hw.k, hw.c⟩, p.sim s, e2, byF.trans p k⟩⟩
  · exact ⟨w, P, ρ, F, _, hw, s, e1, k⟩
  · exact ⟨w, P, ρ, F, _, hw, s, e1, k⟩
theorem s_while {c : Expr} {m : ME} {b : List Stmt} {ms : MSs} {pos : Pos} (hx : X.xe = fun _ _ => False) (hc : PT X c (tT cl X.K CA m)) (hb : PSs X b (tX X.K CA pn (xss cl ms))) :
    PS X (.While c b [] pos) (tX X.K CA pn (xs cl (.while_ m ms))) := by
  have hp : PassesOwn (model X.prog X.w) X.A X.env X.xe := by rw [hx]; exact PassesOwn.never
  refine PS.imp (ps_while hp hc hb) fun D σ H q => ?_
  refine ⟨fun n σ H => tX X.K CA pn (whileL (fun ρ' => (ev cl m ρ').bind fun r => (asBl r.1).map fun k => (k, r.2)) (fun ρ' => xss cl ms ρ') n) D σ H, ⟨fuel, tX_imp (fun ρ x e => by simpa only [xs] using e) q⟩, fun n σ H q => ?_⟩
  cases n with
  | zero =>
    obtain ⟨ρ, x, e⟩ := tX_some q
    simp [whileL] at e
  | succ n =>
    refine tG_mono (t_ev (m := m) (h := fun d ρ => (asBl d).bind fun k => if k then match xss cl ms ρ with
        | some (.nx ρ') => whileL (fun ρ' => (ev cl m ρ').bind fun r => (asBl r.1).map fun k => (k, r.2)) (fun ρ' => xss cl ms ρ') n ρ'
        | some (.ct ρ') => whileL (fun ρ' => (ev cl m ρ').bind fun r => (asBl r.1).map fun k => (k, r.2)) (fun ρ' => xss cl ms ρ') n ρ'
        | some (.bk ρ') => some (.nx ρ')
        | r => r
      else some (.nx ρ)) (fun ρ x e => ?_) q) fun v H1 ⟨d, w, hw, r, q1⟩ => ?_
    · simp only [whileL] at e
      obtain ⟨⟨k, ρ1⟩, e1, e2⟩ := Option.bind_eq_some_iff.mp e
      obtain ⟨⟨d, ρ2⟩, e3, e4⟩ := Option.bind_eq_some_iff.mp e1
      obtain ⟨k', e5, e6⟩ := Option.map_eq_some_iff.mp e4
      simp only [Prod.mk.injEq] at e6
      obtain ⟨rfl, rfl⟩ := e6
      refine ⟨d, ρ2, e3, by rw [show d = Mp.D.bl _ from asBl_eq e5]; rfl, ?_⟩
      simp only [show asBl d = some k' from e5, Option.bind_some]
      exact e2
    · obtain ⟨ρ, x, e⟩ := tX_some q1
      obtain ⟨k, e3, _⟩ := Option.bind_eq_some_iff.mp e
      obtain rfl := asBl_eq e3
      obtain ⟨rfl, _⟩ := r.bl_inv
      refine ⟨k, rfl, ?_⟩
      cases k with
      | false =>
        obtain ⟨w, P, ρ, F, fw, hw, s, e, kk⟩ := q1
        have e : some (Fw.nx ρ) = some fw := e
        cases e
        exact kk _ _ _ _ (.refl s)
      | true =>
        refine ⟨tX X.K CA pn (whileL (fun ρ' => (ev cl m ρ').bind fun r => (asBl r.1).map fun k => (k, r.2)) (fun ρ' => xss cl ms ρ') n) D, fun σ' H' q => ⟨n, Nat.lt_succ_self n, q⟩, t_turn (fun ρ x e => ?_) q1⟩
        have e : (match xss cl ms ρ with
          | some (.nx ρ') => whileL (fun ρ' => (ev cl m ρ').bind fun r => (asBl r.1).map fun k => (k, r.2)) (fun ρ' => xss cl ms ρ') n ρ'
          | some (.ct ρ') => whileL (fun ρ' => (ev cl m ρ').bind fun r => (asBl r.1).map fun k => (k, r.2)) (fun ρ' => xss cl ms ρ') n ρ'
          | some (.bk ρ') => some (.nx ρ')
          | r => r) = some x := e
        split at e
        · exact .inl ⟨_, by assumption, e⟩
        · exact .inr (.inl ⟨_, by assumption, e⟩)
        · cases e; exact .inr (.inr (.inl ⟨_, by assumption, rfl⟩))
        · rename_i r n1 n2 n3
          cases x with
          | nx ρ' => exact absurd e (n1 ρ')
          | ct ρ' => exact absurd e (n2 ρ')
          | bk ρ' => exact absurd e (n3 ρ')
          | rt d ρ' => exact .inr (.inr (.inr ⟨d, ρ', e, rfl⟩))
end Mp
set_option Elab.async false
set_option linter.all false
set_option maxRecDepth 100000
set_option maxHeartbeats 2000000
/-! # Mp: targets -/
namespace Mp
open PySem L2
variable {X : Cx} {cl : Call} {K : PySem.W.Frag} {CA : Nat → Option Addr} {pn : List Nat}

/-- a value that is stored -/
structure Given (w : Wd) (P : Addr → Prop) (F G : List Addr) : Prop where
  n : ∀ a ∈ G, ¬ w.Fz a ∧ ¬ P a
  nd : (G ++ F).Nodup
/-- a target by the interpreter -/
def tBd (K : PySem.W.Frag) (CA : Nat → Option Addr) (pn : List Nat) (f : D → Mp.Env → Option Mp.Env) : TG := fun v σ H Q =>
  ∃ w P ρ F d G ρ', Wd.In w K CA ∧ Sim w P σ ρ H F ∧ Rep w H d v G ∧ Given w P F G ∧ f d ρ = some ρ' ∧ ∀ σ' H' Z F', SPost w P σ H (G ++ F) pn ρ' σ' H' Z [] F' → Q σ' H'
def tBds (K : PySem.W.Frag) (CA : Nat → Option Addr) (pn : List Nat) (f : List D → Mp.Env → Option Mp.Env) : TGs := fun vs σ H Q =>
  ∃ w P ρ F ds G ρ', Wd.In w K CA ∧ Sim w P σ ρ H F ∧ Reps w H ds vs G ∧ Given w P F G ∧ f ds ρ = some ρ' ∧ ∀ σ' H' Z F', SPost w P σ H (G ++ F) pn ρ' σ' H' Z [] F' → Q σ' H'
theorem PG.imp {e : Expr} {t t' : TG} (h : PG X e t) (q : ∀ v σ H Q, t' v σ H Q → t v σ H Q) : PG X e t' := ⟨fun pins s σ H v u Q I r hw => h.run pins s σ H v u Q I r (q v σ H Q hw)⟩
theorem PGs.imp {e : List Expr} {t t' : TGs} (h : PGs X e t) (q : ∀ v σ H Q, t' v σ H Q → t v σ H Q) : PGs X e t' := ⟨fun pins s σ H v u Q I r hw => h.run pins s σ H v u Q I r (q v σ H Q hw)⟩
/-- stored under a name -/
theorem store_name {w : Wd} {P : Addr → Prop} {σ : St} {ρ : Mp.Env} {H : Hp} {F G : List Addr} {d : D} {v : V} {i : Nat} (s : Sim w P σ ρ H F) (r : Rep w H d v G) (g : Given w P F G) (hi : i ∉ pn) :
    ∃ F', SPost w P σ H (G ++ F) pn (ρ.set i (some d)) (σ.set i (some v)) H w.Fz [] F' := by
  have pin : ∀ j ∈ pn, (σ.set i (some v))[j]? = σ[j]? := fun j hj => by
    rw [List.getElem?_set_ne (fun e : i = j => hi (by rw [e]; exact hj))]
  have base : Aft w.Fz P (G ++ F) H w.Fz H (G ++ F) := ⟨fun _ _ => rfl, fun _ h => h, fun _ h => .inl h, fun a h => s.liv a (.inl h), fun a h => ⟨.inl h, (List.mem_append.mp h).elim (fun h => (g.n a h).1) fun h => (s.dis a h).1⟩, g.nd, fun _ h => h⟩
  by_cases hl : i < ρ.length
  · obtain ⟨F2, F', a, b, c⟩ := s.env.store hl r
    refine ⟨F', base.sub (fun x q => ?_) (c.nodup_iff.mpr (g.nd.sublist (List.Sublist.append_left b G))), a, pin⟩
    rcases List.mem_append.mp (c.mem_iff.mp q) with q | q
    · exact List.mem_append_left _ q
    · exact List.mem_append_right _ (b.subset q)
  · have e1 : ρ.set i (some d) = ρ := List.set_eq_of_length_le (by omega)
    have e2 : σ.set i (some v) = σ := List.set_eq_of_length_le (by rw [s.env.len]; omega)
    rw [e1, e2]
    exact ⟨F, base.sub (fun x q => List.mem_append_right _ q) s.nd, s.env, fun _ _ => rfl⟩
theorem g_nm {i : Nat} {x : Str} {pos : Pos} (hN : X.N.Nodup) (hi : X.N[i]? = some x) (hx : Loc X.env.scope x) (hf : X.fn x = true ∨ X.env.scope.names.lookup x = some .local) (hp : i ∉ pn) : PG X (.Name x pos) (tBd X.K CA pn (bindT cl (.nm i))) := by
  refine PG.imp (pg_name hN hi hx hf) fun v σ H Q ⟨w, P, ρ, F, d, G, ρ', hw, s, r, g, e, k⟩ => ?_
  simp only [bindT, Option.some.injEq] at e
  subst e
  obtain ⟨F', p⟩ := store_name s r g hp
  exact k _ _ _ _ p
theorem gs_nil : PGs X [] (tBds X.K CA pn (bindTs cl .nil)) := by
  refine PGs.imp pgs_nil fun vs σ H Q ⟨w, P, ρ, F, ds, G, ρ', hw, s, r, g, e, k⟩ => ?_
  cases ds with
  | nil =>
    obtain ⟨rfl, rfl⟩ := r.unnil
    simp only [bindTs, Option.some.injEq] at e
    subst e
    exact ⟨rfl, k σ H w.Fz F (.refl s)⟩
  | cons d ds => simp [bindTs] at e
theorem assignE {e : Expr} {es : List Expr} {env : PySem.Env} (h : noStar e = true) : assignEach (e :: es) env = (false, assign e env) :: assignEach es env := by
  cases e <;> first | rfl | (cases h; done)
theorem gs_cons {e : Expr} {es : List Expr} {t : MT} {ts : MTs} (hs : noStar e = true) (h : PG X e (tBd X.K CA pn (bindT cl t))) (h' : PGs X es (tBds X.K CA pn (bindTs cl ts))) : PGs X (e :: es) (tBds X.K CA pn (bindTs cl (.cons t ts))) := by
  refine PGs.imp (pgs_cons h h' (by rw [assignE hs]; rfl)) fun vs σ H Q ⟨w, P, ρ, F, ds, G, ρ', hw, s, r, g, e, k⟩ => ?_
  cases ds with
  | nil => simp [bindTs] at e
  | cons d ds =>
    obtain ⟨v, vr, G1, G2, rfl, rfl, r1, r2⟩ := r.uncons
    simp only [bindTs] at e
    obtain ⟨ρ1, e1, e2⟩ := Option.bind_eq_some_iff.mp e
    have nd := g.nd
    rw [List.append_assoc] at nd
    have nd2 := (List.nodup_append.mp nd).2.1
    have n1 : ∀ a ∈ G1, a ∉ G2 ∧ a ∉ F := fun a q => ⟨fun z => (List.nodup_append.mp nd).2.2 a q a (List.mem_append_left _ z) rfl, fun z => (List.nodup_append.mp nd).2.2 a q a (List.mem_append_right _ z) rfl⟩
    have n2 : ∀ a ∈ G2, a ∉ F := fun a q z => (List.nodup_append.mp nd2).2.2 a q a z rfl
    have s1 : Sim w (fun a => P a ∨ a ∈ G2) σ ρ H F := ⟨s.env, s.nd, fun a q => ⟨(s.dis a q).1, fun z => z.elim (s.dis a q).2 fun z => n2 a z q⟩, fun a q => .inl (s.bp a q), fun a q => q.elim (fun q => s.liv a (.inl q)) fun q => q.elim (fun q => s.liv a (.inr q)) (r2.live a)⟩
    refine ⟨v, vr, rfl, w, _, ρ, F, d, G1, ρ1, hw, s1, r1, ⟨fun a q => ⟨(g.n a (List.mem_append_left _ q)).1, fun z => z.elim (g.n a (List.mem_append_left _ q)).2 (n1 a q).1⟩, ?_⟩, e1, fun σ1 H1 Z1 F1 p => ?_⟩
    · exact List.nodup_append.mpr ⟨(List.nodup_append.mp nd).1, s.nd, fun a q b z e => by subst e; exact (n1 a q).2 z⟩
    have af : Aft w.Fz (fun a => P a ∨ a ∈ G2) (G1 ++ F) H Z1 H1 F1 := p.aft
    have f1 : ∀ a ∈ F1, a ∉ G2 := fun a q z => by
      rcases (af.new a q).1 with y | y
      · exact (List.mem_append.mp y).elim (fun y => (n1 a y).1 z) fun y => n2 a z y
      · exact r2.live a z y
    have z2 : ∀ a ∈ G2, ¬ Z1 a := fun a q z => by
      rcases af.grow a z with y | y | y
      · exact (g.n a (List.mem_append_right _ q)).1 y
      · exact (List.mem_append.mp y).elim (fun y => (n1 a y).1 q) fun y => n2 a q y
      · exact r2.live a q y
    have p' : SPost w P σ H (G1 ++ F) pn ρ1 σ1 H1 Z1 [] F1 := ⟨⟨fun a q => af.fr a (q.imp id .inl), af.mono, af.grow, af.liv, af.new, af.nd, af.keep⟩, p.env, p.pin⟩
    have s2 : Sim (w.wz Z1) P σ1 ρ1 H1 F1 := by
      refine ⟨p.env, af.nd, fun a q => ⟨(af.new a q).2, fun z => ?_⟩, s.bp, fun a q => q.elim (af.liv a) fun q => af.keep a (s.liv a (.inr q))⟩
      rcases (af.new a q).1 with y | y
      · exact (List.mem_append.mp y).elim (fun y => (g.n a (List.mem_append_left _ y)).2 z) fun y => (s.dis a y).2 z
      · exact s.liv a (.inr z) y
    refine ⟨w.wz Z1, P, ρ1, F1, ds, G2, ρ', ⟨hw.k, hw.c⟩, s2, r2.stays (Wd.Le.wz af.mono) ⟨fun a q => af.fr a (.inr (.inr q)), fun a q => af.fr a (.inl q), fun a q => af.fr a (.inr (.inl (s.bp a q)))⟩, ⟨fun a q => ⟨z2 a q, (g.n a (List.mem_append_right _ q)).2⟩, ?_⟩, e2, fun σ2 H2 Z2 F2 p2 => ?_⟩
    · exact List.nodup_append.mpr ⟨(List.nodup_append.mp nd2).1, af.nd, fun a q b z e => by subst e; exact f1 a z q⟩
    have a2 : Aft Z1 P (G2 ++ F1) H1 Z2 H2 F2 := p2.aft
    have old : ∀ a, H1 a = none → H a = none := fun a e => by
      cases h : H a with
      | none => rfl
      | some o => exact absurd e (af.keep a (by rw [h]; simp))
    have back : ∀ a, a ∈ G2 ++ F1 ∨ H1 a = none → a ∈ G1 ++ G2 ++ F ∨ H a = none := fun a q => by
      rcases q with q | q
      · rcases List.mem_append.mp q with q | q
        · exact .inl (List.mem_append_left _ (List.mem_append_right _ q))
        · refine (af.new a q).1.imp (fun q => ?_) id
          rcases List.mem_append.mp q with q | q
          · exact List.mem_append_left _ (List.mem_append_left _ q)
          · exact List.mem_append_right _ q
      · exact .inr (old a q)
    refine k σ2 H2 Z2 F2 ⟨⟨fun a q => ?_, fun a q => a2.mono a (af.mono a q), fun a q => ?_, a2.liv, fun a q => ⟨back a (a2.new a q).1, (a2.new a q).2⟩, a2.nd, fun a q => a2.keep a (af.keep a q)⟩, p2.env, fun j hj => (p2.pin j hj).trans (p.pin j hj)⟩
    · rcases q with q | q
      · exact (a2.fr a (.inl (af.mono a q))).trans (af.fr a (.inl q))
      · exact (a2.fr a (.inr q)).trans (af.fr a (.inr (.inl q)))
    · rcases a2.grow a q with q | q
      · rcases af.grow a q with y | y | y
        · exact .inl y
        · refine .inr (.inl ?_)
          rcases List.mem_append.mp y with y | y
          · exact List.mem_append_left _ (List.mem_append_left _ y)
          · exact List.mem_append_right _ y
        · exact .inr (.inr y)
      · exact .inr (back a q)
theorem MTs_len : ∀ {ts : MTs} {ds : List D} {ρ ρ' : Mp.Env} {es : List Expr}, bindTs cl ts ds ρ = some ρ' → ∀ {n : Nat}, ds.length = n → n = ds.length := fun _ _ e => e.symm
/-- how many targets -/
def MTs.len : MTs → Nat
  | .nil => 0
  | .cons _ r => r.len + 1
theorem bindTs_len : ∀ {ts : MTs} {ds : List D} {ρ ρ' : Mp.Env}, bindTs cl ts ds ρ = some ρ' → ds.length = ts.len
  | .nil, [], _, _, _ => rfl
  | .nil, _ :: _, _, _, h => by simp [bindTs] at h
  | .cons _ _, [], _, _, h => by simp [bindTs] at h
  | .cons t ts, d :: ds, ρ, ρ', h => by
    simp only [bindTs] at h
    obtain ⟨ρ1, _, e2⟩ := Option.bind_eq_some_iff.mp h
    simp [MTs.len, bindTs_len e2]
theorem g_tp {es : List Expr} {ts : MTs} {k : Nat} {pos : Pos} (hc : X.calm = true) (hn : (assignEach es X.env).length = ts.len) (hst : (assignEach es X.env).findIdx? (·.1) = none) (h : PGs X es (tBds X.K CA pn (bindTs cl ts))) : PG X (.Tuple es k pos) (tBd X.K CA pn (bindT cl (.tp ts))) := by
  refine PG.imp (pg_tup hc h hn hst) fun v σ H Q ⟨w, P, ρ, F, d, G, ρ', hw, s, r, g, e, kk⟩ => ?_
  cases d with
  | tup ds =>
    simp only [bindT] at e
    obtain ⟨a, us, rfl, z, ea, rs⟩ := r.tup_inv
    exact ⟨a, us, rfl, SqT.of ea, by rw [rs.len]; exact bindTs_len e, w, P, ρ, F, ds, G, ρ', hw, s, rs, g, e, kk⟩
  | _ => simp [bindT] at e
/-- target = value -/
theorem t_asg {t : MT} {m : ME} {D : Ends} {σ : St} {H : Hp} (q : tX K CA pn (xs cl (.asg t m)) D σ H) : tE cl K CA m σ H fun v H1 => tBd K CA pn (bindT cl t) v σ H1 D.nx := by
  obtain ⟨w, P, ρ, F, fw, hw, s, e, k⟩ := q
  simp only [xs] at e
  obtain ⟨⟨d, ρ1⟩, e1, e2⟩ := Option.bind_eq_some_iff.mp e
  obtain ⟨e1, hs⟩ := adj_eq e1
  obtain ⟨ρ2, e3, e4⟩ := Option.map_eq_some_iff.mp e2
  subst e4
  refine ⟨w, P, ρ, F, d, ρ1, hw, s, e1, fun v H1 Z1 G F1 p => ?_⟩
  have a1 := p.own hs
  have nd := List.nodup_append.mp a1.nd
  have s1 : Sim (w.wz Z1) P σ ρ1 H1 F1 := (p.st (pn := pn)).sim s
  have np : ∀ a ∈ G, ¬ P a := fun a q z => by
    rcases (a1.new a (List.mem_append_left _ q)).1 with y | y
    · exact (s.dis a y).2 z
    · exact s.liv a (.inr z) y
  refine ⟨w.wz Z1, P, ρ1, F1, d, G, ρ2, ⟨hw.k, hw.c⟩, s1, p.rep, ⟨fun a q => ⟨(a1.new a (List.mem_append_left _ q)).2, np a q⟩, a1.nd⟩, e3, fun σ2 H2 Z2 F2 p2 => k σ2 H2 Z2 F2 ?_⟩
  have a2 : Aft Z1 P (G ++ F1) H1 Z2 H2 F2 := p2.aft
  have old : ∀ a, H1 a = none → H a = none := fun a e => by
    cases h : H a with
    | none => rfl
    | some o => exact absurd e (a1.keep a (by rw [h]; simp))
  have back : ∀ a, a ∈ G ++ F1 ∨ H1 a = none → a ∈ F ∨ H a = none := fun a q => q.elim (fun q => (a1.new a q).1) fun q => .inr (old a q)
  refine ⟨⟨fun a q => ?_, fun a q => a2.mono a (a1.mono a q), fun a q => ?_, a2.liv, fun a q => ⟨back a (a2.new a q).1, (a2.new a q).2⟩, a2.nd, fun a q => a2.keep a (a1.keep a q)⟩, p2.env, p2.pin⟩
  · rcases q with q | q
    · exact (a2.fr a (.inl (a1.mono a q))).trans (a1.fr a (.inl q))
    · exact (a2.fr a (.inr q)).trans (a1.fr a (.inr q))
  · exact (a2.grow a q).elim (a1.grow a) fun q => .inr (back a q)
theorem s_asg {tg e : Expr} {t : MT} {m : ME} {pos : Pos} (hg : PG X tg (tBd X.K CA pn (bindT cl t))) (h : PE X e (tE cl X.K CA m)) (hs : swapsWithSole [tg] e pos.line X.env = pure false) (hw : swappedStores [tg] e X.env = pure none) (hn : noStar tg = true) :
    PS X (.Assign [tg] e pos) (tX X.K CA pn (xs cl (.asg t m))) := PS.imp (ps_asg h hg hs hw (by rw [assignE hn]; rfl)) fun D σ H q => t_asg q
end Mp
set_option Elab.async false
set_option linter.all false
set_option maxRecDepth 100000
set_option maxHeartbeats 2000000
/-! # Mp: several names at once; op= -/
namespace Mp
open PySem L2
variable {X : Cx} {cl : Call} {K : PySem.W.Frag} {CA : Nat → Option Addr} {pn : List Nat}

def setD : Mp.Env → List Nat → List D → Mp.Env
  | ρ, i :: is, d :: ds => setD (ρ.set i (some d)) is ds
  | ρ, _, _ => ρ
def setV : St → List Nat → List V → St
  | σ, i :: is, v :: vs => setV (σ.set i (some v)) is vs
  | σ, _, _ => σ
def nmTs : List Nat → MTs
  | [] => .nil
  | i :: is => .cons (.nm i) (nmTs is)
theorem nmTs_bind : ∀ {is : List Nat} {ds : List D} {ρ ρ' : Mp.Env}, bindTs cl (nmTs is) ds ρ = some ρ' → ρ' = setD ρ is ds ∧ ds.length = is.length
  | [], [], _, _, h => by simp only [nmTs, bindTs, Option.some.injEq] at h; exact ⟨h.symm, rfl⟩
  | [], _ :: _, _, _, h => by simp [nmTs, bindTs] at h
  | _ :: _, [], _, _, h => by simp [nmTs, bindTs] at h
  | i :: is, d :: ds, ρ, ρ', h => by
    simp only [nmTs, bindTs, Option.bind_some] at h
    obtain ⟨a, b⟩ := nmTs_bind h
    exact ⟨a, by simp [b]⟩
theorem store_names {w : Wd} {P : Addr → Prop} {H : Hp} : ∀ {is : List Nat} {ds : List D} {vs : List V} {σ : St} {ρ : Mp.Env} {F G : List Addr}, Sim w P σ ρ H F → Reps w H ds vs G → Given w P F G → (∀ i ∈ is, i ∉ pn) → ds.length = is.length →
    ∃ F', SPost w P σ H (G ++ F) pn (setD ρ is ds) (setV σ is vs) H w.Fz [] F'
  | [], [], vs, σ, ρ, F, G, s, r, g, _, _ => by
    obtain ⟨rfl, rfl⟩ := r.unnil
    exact ⟨F, .refl s⟩
  | [], _ :: _, _, _, _, _, _, _, _, _, _, h => by simp at h
  | _ :: _, [], _, _, _, _, _, _, _, _, _, h => by simp at h
  | i :: is, d :: ds, vs, σ, ρ, F, G, s, r, g, hp, hl => by
    obtain ⟨v, vr, G1, G2, rfl, rfl, r1, r2⟩ := r.uncons
    have nd := g.nd
    rw [List.append_assoc] at nd
    have nd2 := (List.nodup_append.mp nd).2.1
    have n1 : ∀ a ∈ G1, a ∉ G2 ∧ a ∉ F := fun a q => ⟨fun z => (List.nodup_append.mp nd).2.2 a q a (List.mem_append_left _ z) rfl, fun z => (List.nodup_append.mp nd).2.2 a q a (List.mem_append_right _ z) rfl⟩
    have n2 : ∀ a ∈ G2, a ∉ F := fun a q z => (List.nodup_append.mp nd2).2.2 a q a z rfl
    obtain ⟨F1, p⟩ := store_name (pn := pn) s r1 ⟨fun a q => g.n a (List.mem_append_left _ q), List.nodup_append.mpr ⟨(List.nodup_append.mp nd).1, s.nd, fun a q b z e => by subst e; exact (n1 a q).2 z⟩⟩ (hp i List.mem_cons_self)
    have af : Aft w.Fz P (G1 ++ F) H w.Fz H F1 := p.aft
    have lvF1 : ∀ a ∈ F1, H a ≠ none := p.env.live
    have m1 : ∀ a ∈ F1, a ∈ G1 ++ F := fun a q => (af.new a q).1.elim id fun z => absurd z (lvF1 a q)
    have f1 : ∀ a ∈ F1, a ∉ G2 := fun a q z => (List.mem_append.mp (m1 a q)).elim (fun y => (n1 a y).1 z) fun y => n2 a z y
    have s2 : Sim w P (σ.set i (some v)) (ρ.set i (some d)) H F1 := by
      refine ⟨p.env, af.nd, fun a q => ⟨(af.new a q).2, fun z => ?_⟩, s.bp, s.liv⟩
      exact (List.mem_append.mp (m1 a q)).elim (fun y => (g.n a (List.mem_append_left _ y)).2 z) fun y => (s.dis a y).2 z
    obtain ⟨F', p2⟩ := store_names s2 r2 ⟨fun a q => g.n a (List.mem_append_right _ q), List.nodup_append.mpr ⟨(List.nodup_append.mp nd2).1, af.nd, fun a q b z e => by subst e; exact f1 a z q⟩⟩ (fun j hj => hp j (List.mem_cons_of_mem _ hj)) (by simpa using hl)
    have a2 : Aft w.Fz P (G2 ++ F1) H w.Fz H F' := p2.aft
    refine ⟨F', ⟨⟨a2.fr, a2.mono, fun a q => .inl q, a2.liv, fun a q => ⟨?_, (a2.new a q).2⟩, a2.nd, a2.keep⟩, p2.env, fun j hj => (p2.pin j hj).trans (p.pin j hj)⟩⟩
    refine (a2.new a q).1.imp (fun q => ?_) id
    rcases List.mem_append.mp q with q | q
    · exact List.mem_append_left _ (List.mem_append_right _ q)
    · rcases List.mem_append.mp (m1 a q) with q | q
      · exact List.mem_append_left _ (List.mem_append_left _ q)
      · exact List.mem_append_right _ q
/-- a, b, .. = x, y, .. with plain names -/
theorem t_par {is : List Nat} {ms : MEs} {D : Ends} {σ : St} {H : Hp} (hp : ∀ i ∈ is, i ∉ pn) (q : tX K CA pn (xs cl (.asg (.tp (nmTs is)) (.tup ms))) D σ H) : tAs cl K CA ms σ H fun vs H1 => vs.length = is.length ∧ D.nx (setV σ is vs) H1 := by
  obtain ⟨w, P, ρ, F, fw, hw, s, e, k⟩ := q
  simp only [xs] at e
  obtain ⟨⟨d, ρ1⟩, e1, e2⟩ := Option.bind_eq_some_iff.mp e
  obtain ⟨e1, _⟩ := adj_eq e1
  obtain ⟨ρ2, e3, e4⟩ := Option.map_eq_some_iff.mp e2
  subst e4
  simp only [ev] at e1
  obtain ⟨⟨ds, ρ3⟩, e5, e6⟩ := Option.bind_eq_some_iff.mp e1
  split at e6
  rotate_left
  · cases e6
  cases e6
  simp only [bindT] at e3
  obtain ⟨rfl, hl⟩ := nmTs_bind e3
  refine ⟨w, P, ρ, F, ds, ρ3, hw, s, e5, fun vs H1 Z1 G F1 p => ?_⟩
  have a1 := p.aft
  have nd := List.nodup_append.mp a1.nd
  have sp : SPost w P σ H F pn ρ3 σ H1 Z1 [] F1 := ⟨a1.sub (fun x q => List.mem_append_right _ q) nd.2.1, p.env, fun _ _ => rfl⟩
  have s1 := sp.sim s
  have np : ∀ a ∈ G, ¬ P a := fun a q z => by
    rcases (a1.new a (List.mem_append_left _ q)).1 with y | y
    · exact (s.dis a y).2 z
    · exact s.liv a (.inr z) y
  obtain ⟨F2, p2⟩ := store_names (pn := pn) s1 p.rep ⟨fun a q => ⟨(a1.new a (List.mem_append_left _ q)).2, np a q⟩, a1.nd⟩ hp hl
  refine ⟨by rw [p.rep.len, hl], k _ H1 Z1 F2 ?_⟩
  have a2 : Aft Z1 P (G ++ F1) H1 Z1 H1 F2 := p2.aft
  refine ⟨⟨a1.fr, a1.mono, a1.grow, a1.liv, fun a q => ⟨?_, (a2.new a q).2⟩, a2.nd, a1.keep⟩, p2.env, p2.pin⟩
  rcases (a2.new a q).1 with y | y
  · exact (a1.new a y).1
  · exact absurd y (p2.env.live a q)
theorem s_par2 {i j : Nat} {x y : Str} {a b : Expr} {ms : MEs} {px py pt pos : Pos} {kt k2 pt2} (hc : X.calm = true) (hN : X.N.Nodup) (hi : X.N[i]? = some x) (hj : X.N[j]? = some y) (hij : i ≠ j) (hx : X.env.scope.names.lookup x = some .local) (hy : X.env.scope.names.lookup y = some .local) (hpi : i ∉ pn) (hpj : j ∉ pn)
    (ha : Opds X cl CA [a, b] ms) (hw : swappedStores [.Tuple [.Name x px, .Name y py] kt pt] (.Tuple [a, b] k2 pt2) X.env = pure (some [x, y])) :
    PS X (.Assign [.Tuple [.Name x px, .Name y py] kt pt] (.Tuple [a, b] k2 pt2) pos) (tX X.K CA pn (xs cl (.asg (.tp (nmTs [i, j])) (.tup ms)))) := by
  refine PS.imp (ps_par hc hN hi hj hij hx hy ha.as hw) fun D σ H q => ?_
  obtain ⟨w, P, ρ, F, ds, ρ', h1, h2, h3, k⟩ := t_par (is := [i, j]) (by simp [hpi, hpj]) q
  refine ⟨w, P, ρ, F, ds, ρ', h1, h2, h3, fun vs H' Z G F' p => ?_⟩
  obtain ⟨hl, q⟩ := k vs H' Z G F' p
  match vs, hl with
  | [v, u], _ => exact ⟨v, u, rfl, q⟩
theorem s_par3 {i j l : Nat} {x y z : Str} {a b c : Expr} {ms : MEs} {px py pz pt pos : Pos} {kt k2 pt2} (hc : X.calm = true) (hN : X.N.Nodup) (hi : X.N[i]? = some x) (hj : X.N[j]? = some y) (hl : X.N[l]? = some z) (hij : i ≠ j) (hil : i ≠ l) (hjl : j ≠ l)
    (hx : X.env.scope.names.lookup x = some .local) (hy : X.env.scope.names.lookup y = some .local) (hz : X.env.scope.names.lookup z = some .local) (hpi : i ∉ pn) (hpj : j ∉ pn) (hpl : l ∉ pn)
    (ha : Opds X cl CA [a, b, c] ms) (hw : swappedStores [.Tuple [.Name x px, .Name y py, .Name z pz] kt pt] (.Tuple [a, b, c] k2 pt2) X.env = pure (some [x, y, z])) :
    PS X (.Assign [.Tuple [.Name x px, .Name y py, .Name z pz] kt pt] (.Tuple [a, b, c] k2 pt2) pos) (tX X.K CA pn (xs cl (.asg (.tp (nmTs [i, j, l])) (.tup ms)))) := by
  refine PS.imp (ps_par3 hc hN hi hj hl hij hil hjl hx hy hz ha.as hw) fun D σ H q => ?_
  obtain ⟨w, P, ρ, F, ds, ρ', h1, h2, h3, k⟩ := t_par (is := [i, j, l]) (by simp [hpi, hpj, hpl]) q
  refine ⟨w, P, ρ, F, ds, ρ', h1, h2, h3, fun vs H' Z G F' p => ?_⟩
  obtain ⟨hl, q⟩ := k vs H' Z G F' p
  match vs, hl with
  | [v, u, t], _ => exact ⟨v, u, t, rfl, q⟩

/-! ### name += e, name -= e -/
def augF : Bop → Option (Int → Int → Int)
  | .add => some fun i j => i + j
  | .sub => some fun i j => i - j
  | _ => none
theorem aug_ip {o : Bop} {f : Int → Int → Int} (h : augF o = some f) : PIp X (bopOf o) (ipI f) := by
  cases o <;> simp only [augF, Option.some.injEq] at h <;> first | (cases h; done) | skip
  · subst h; exact ip_add
  · subst h; exact ip_sub
theorem aug_bin {o : Bop} {f : Int → Int → Int} (h : augF o = some f) {i j : Int} {d : D} (e : binD false false o (.int i) (.int j) = some d) : d = .int (f i j) := by
  cases o <;> simp only [augF, Option.some.injEq] at h <;> first | (cases h; done) | skip
  · subst h; simp [binD] at e; exact e.symm
  · subst h; simp [binD] at e; exact e.symm
theorem s_aug {i : Nat} {x : Str} {e : Expr} {m : ME} {o : Bop} {f : Int → Int → Int} {pos pos' : Pos} (ho : augF o = some f) (hN : X.N.Nodup) (hi : X.N[i]? = some x) (hx : Loc X.env.scope x) (hf : X.fn x = true ∨ X.env.scope.names.lookup x = some .local) (hp : i ∉ pn) (h : PE X e (tE cl X.K CA m)) :
    PS X (.AugAssign (.Name x pos') (bopOf o) e pos) (tX X.K CA pn (xs cl (.aug i o m))) := by
  refine PS.imp (ps_aug hN hi hx h (aug_ip ho) hf) fun D σ H ⟨w, P, ρ, F, fw, hw, s, e, k⟩ => ?_
  simp only [xs] at e
  obtain ⟨x0, e0, e⟩ := Option.bind_eq_some_iff.mp e
  obtain ⟨⟨d, ρ1⟩, e1, e2⟩ := Option.bind_eq_some_iff.mp e
  obtain ⟨e1, hs⟩ := adj_eq e1
  obtain ⟨v0, F0, h1, h2, h3⟩ := s.env.get e0
  refine ⟨v0, h1, w, P, ρ, F, d, ρ1, hw, s, e1, fun v H1 Z1 G F1 p => ?_⟩
  split at e2
  rotate_left
  · cases e2
  rename_i a b hd
  have hd : d = .int b := hd
  subst hd
  obtain ⟨d2, e3, e4⟩ := Option.map_eq_some_iff.mp e2
  subst e4
  obtain rfl := aug_bin ho e3
  obtain ⟨rfl, _⟩ := h2.int_inv
  obtain ⟨rfl, rfl⟩ := p.rep.int_inv
  refine ⟨a, b, rfl, rfl, ?_⟩
  have sp : SPost w P σ H F pn ρ1 σ H1 Z1 [] F1 := p.st
  obtain ⟨F2, p2⟩ := store_name (pn := pn) (G := []) (v := V.int (f a b)) (d := .int (f a b)) (sp.sim s) .int_mk ⟨fun a q => (by cases q), by simpa using (sp.sim s).nd⟩ hp
  exact k _ H1 Z1 F2 (sp.trans p2)
end Mp
set_option Elab.async false
set_option linter.all false
set_option maxRecDepth 100000
set_option maxHeartbeats 2000000
/-! # Mp: a def's body keeps its promise -/
namespace Mp
open PySem L2 PyProof.Rows
variable {K : PySem.W.Frag} {CA : Nat → Option Addr} {cl : Call}

mutual
theorem fz_nb : ∀ d : D, d.nb = true → d.fz.nb = true
  | .non, _ => rfl
  | .bl _, _ => rfl
  | .int _, _ => rfl
  | .str _, _ => rfl
  | .scr _, _ => rfl
  | .tup ds, h => by unfold D.fz; unfold D.nb at h ⊢; exact fzs_nb ds h
  | .lst f ds, h => by
    unfold D.fz; unfold D.nb at h ⊢
    rw [Bool.and_eq_true] at h ⊢
    exact ⟨by cases f <;> first | rfl | exact h.1, fzs_nb ds h.2⟩
  | .dic f ks ds, h => by
    unfold D.fz; unfold D.nb at h ⊢
    rw [Bool.and_eq_true] at h ⊢
    exact ⟨by cases f <;> first | rfl | exact h.1, fzs_nb ds h.2⟩
  | .ins f c ns ds, h => by
    unfold D.fz; unfold D.nb at h ⊢
    rw [Bool.and_eq_true] at h ⊢
    exact ⟨by cases f <;> first | rfl | exact h.1, fzs_nb ds h.2⟩
theorem fzs_nb : ∀ ds : List D, nbs ds = true → nbs (fzs ds) = true
  | [], _ => rfl
  | d :: ds, h => by
    unfold fzs; unfold nbs at h ⊢
    rw [Bool.and_eq_true] at h ⊢
    exact ⟨fz_nb d h.1, fzs_nb ds h.2⟩
end
theorem renv_none {w : Wd} {H : Hp} : ∀ n : Nat, REnv w H (List.replicate n none) (List.replicate n none) []
  | 0 => by unfold REnv; rfl
  | n + 1 => by rw [List.replicate_succ, List.replicate_succ]; unfold REnv; exact renv_none n
/-- the names at the entry -/
theorem renv_start {w : Wd} {H : Hp} {n : Nat} : ∀ {ds : List D} {vs : List V} {F : List Addr}, Reps w H ds vs F → REnv w H (vs.map some ++ List.replicate n none) (ds.map some ++ List.replicate n none) F
  | [], _, _, h => by
    obtain ⟨rfl, rfl⟩ := h.unnil
    exact renv_none n
  | d :: ds, _, _, h => by
    obtain ⟨v, vr, F1, F2, rfl, rfl, h1, h2⟩ := h.uncons
    show REnv w H (some v :: _) (some d :: _) _
    unfold REnv
    exact ⟨F1, F2, rfl, h1, renv_start h2⟩
theorem outs_ne {ρ : Mp.Env} {i : Nat} {x : Option D} : ∀ {io : List Bool} {j : Nat}, i < j → outs (ρ.set i x) j io = outs ρ j io
  | [], _, _ => rfl
  | false :: io, j, h => by simp only [outs]; exact outs_ne (Nat.lt_succ_of_lt h)
  | true :: io, j, h => by
    simp only [outs]
    rw [gI_ne (Nat.ne_of_gt h), outs_ne (Nat.lt_succ_of_lt h)]
/-- what the changed arguments are at the end -/
theorem outs_reps {w : Wd} {H : Hp} {σ : L2.St} : ∀ {io : List Bool} {vs : List V} {j : Nat} {ρ : Mp.Env} {F : List Addr} {os : List D}, REnv w H σ ρ F → outs ρ j io = some os → io.length = vs.length → (∀ (i : Nat) v, io[i]? = some true → vs[i]? = some v → σ[j + i]? = some (some v)) →
    ∃ Fo Fr, Reps w H os (pick io vs) Fo ∧ F.Perm (Fo ++ Fr)
  | [], vs, _, _, F, _, _, e, _, _ => by
    simp only [outs, Option.some.injEq] at e
    subst e
    exact ⟨[], F, by cases vs <;> exact .nil, List.Perm.refl _⟩
  | false :: io, [], _, _, _, _, _, _, h, _ => by simp at h
  | true :: io, [], _, _, _, _, _, _, h, _ => by simp at h
  | false :: io, v :: vs, j, ρ, F, os, r, e, hl, hv => by
    simp only [outs] at e
    exact outs_reps (io := io) (j := j + 1) r e (by simpa using hl) fun i v' a b => by
      have := hv (i + 1) v' (by simpa using a) (by simpa using b)
      rwa [show j + (i + 1) = j + 1 + i by omega] at this
  | true :: io, v :: vs, j, ρ, F, os, r, e, hl, hv => by
    simp only [outs] at e
    split at e
    · rename_i d ds e1 e2
      cases e
      obtain ⟨v1, F1, F2, x1, x2, x3, x4⟩ := r.take e1
      have hv0 := hv 0 v rfl rfl
      rw [Nat.add_zero, x1] at hv0
      cases hv0
      obtain ⟨Fo, Fr, a, b⟩ := outs_reps (io := io) (vs := vs) (j := j + 1) x3 (by rw [outs_ne (Nat.lt_succ_self j)]; exact e2) (by simpa using hl) fun i v' a b => by
        have := hv (i + 1) v' (by simpa using a) (by simpa using b)
        rwa [show j + (i + 1) = j + 1 + i by omega] at this
      refine ⟨F1 ++ Fo, Fr, .cons x2 a, ?_⟩
      rw [List.append_assoc]
      exact x4.trans (List.Perm.append_left F1 b)
    · cases e
/-- the parameters that are handed back -/
def ioIx (io : List Bool) : List Nat := (List.range io.length).filter fun i => io[i]?.getD false
theorem mem_ioIx {io : List Bool} {i : Nat} (h : io[i]? = some true) : i ∈ ioIx io := by
  unfold ioIx
  have hi : i < io.length := (List.getElem?_eq_some_iff.mp h).1
  exact List.mem_filter.mpr ⟨List.mem_range.mpr hi, by rw [h]; rfl⟩
/-- the run of a def by the interpreter is the body's -/
theorem body_run {T : Nat → Option Fn} {n fid : Nat} {fd : Fn} (hT : T fid = some fd) {io : List Bool} {vs : List V} {H : Hp} {Q : VK} (h : spM K CA (callT T (n + 1)) fid io vs H Q) :
    fd.np = vs.length ∧ tX K CA (ioIx fd.io) (xss (callT T n) fd.body) { nx := fun _ H' => Q .non H', rt := Q } (vs.map some ++ List.replicate (fd.ns - fd.np) none) H := by
  obtain ⟨w, F, ds, d, os, hw, r, nd, nz, lv, e, k⟩ := h
  simp only [callT] at e
  rw [hT] at e
  have e0 : (if fd.io = io ∧ ds.length = fd.np ∧ argsOk io ds = true then finish fd (xss (callT T n) fd.body (ds.map some ++ List.replicate (fd.ns - fd.np) none)) else none) = some (d, os) := e
  clear e
  split at e0
  rotate_left
  · cases e0
  rename_i hc
  obtain ⟨rfl, hl, hargs⟩ := hc
  have e := e0
  clear e0
  refine ⟨by rw [r.len, hl], ?_⟩
  have hio : fd.io.length = vs.length := by
    have go : ∀ {io : List Bool} {ds : List D}, argsOk io ds = true → io.length = ds.length := by
      intro io
      induction io with
      | nil => intro ds h; cases ds <;> simp [argsOk] at h <;> rfl
      | cons b io ih =>
        intro ds h
        cases ds with
        | nil => cases b <;> simp [argsOk] at h
        | cons d ds =>
          cases b
          · simp only [argsOk, Bool.and_eq_true] at h
            simp [ih h.2]
          · simp only [argsOk] at h
            simp [ih h]
    rw [go hargs, r.len]
  have s0 : Sim w (fun a => H a ≠ none ∧ a ∉ F) (vs.map some ++ List.replicate (fd.ns - fd.np) none) (ds.map some ++ List.replicate (fd.ns - fd.np) none) H F :=
    ⟨renv_start r, nd, fun a q => ⟨(nz a q).1, fun z => z.2 q⟩, fun a q => ⟨lv a (.inr q), fun z => (nz a z).2 q⟩, fun a q => q.elim (fun q => lv a (.inl q)) fun q => q.1⟩
  have hpin : ∀ {σ' : L2.St}, (∀ i ∈ ioIx fd.io, σ'[i]? = (vs.map some ++ List.replicate (fd.ns - fd.np) none)[i]?) → ∀ (i : Nat) v, fd.io[i]? = some true → vs[i]? = some v → σ'[0 + i]? = some (some v) := fun h i v h1 h2 => by
    rw [Nat.zero_add, h i (mem_ioIx h1), List.getElem?_append_left (by simpa using (List.getElem?_eq_some_iff.mp h2).1), List.getElem?_map, h2]
    rfl
  cases hr : xss (callT T n) fd.body (ds.map some ++ List.replicate (fd.ns - fd.np) none) with
  | none => rw [hr] at e; simp [finish] at e
  | some fw =>
    rw [hr] at e
    refine ⟨w, _, _, F, fw, hw, s0, hr, ?_⟩
    cases fw with
    | bk ρ' => simp [finish] at e
    | ct ρ' => simp [finish] at e
    | nx ρ' =>
      intro σ' H' Z F' p
      simp only [finish] at e
      obtain ⟨os', e1, e2⟩ := Option.bind_eq_some_iff.mp e
      split at e2
      rotate_left
      · cases e2
      rename_i hnb
      cases e2
      obtain ⟨Fo, Fr, a, b⟩ := outs_reps p.env e1 hio (hpin p.pin)
      refine k .non H' Z [] Fo ?_ .non_mk a rfl hnb
      exact p.aft.sub (fun x q => b.mem_iff.mpr (List.mem_append_left _ q)) (List.nodup_append.mp (b.nodup_iff.mp p.aft.nd)).1
    | rt d1 ρ' =>
      intro v σ' H' Z G F' p rv
      simp only [finish] at e
      obtain ⟨os', e1, e2⟩ := Option.bind_eq_some_iff.mp e
      split at e2
      rotate_left
      · cases e2
      rename_i hnb
      simp only [Bool.and_eq_true] at hnb
      obtain ⟨Fo, Fr, a, b⟩ := outs_reps p.env e1 hio (hpin p.pin)
      have sub : ∀ x ∈ G ++ Fo, x ∈ G ++ F' := fun x q => (List.mem_append.mp q).elim (fun q => List.mem_append_left _ q) fun q => List.mem_append_right _ (b.mem_iff.mpr (List.mem_append_left _ q))
      have ndG := List.nodup_append.mp p.aft.nd
      have ndo : (G ++ Fo).Nodup := List.nodup_append.mpr ⟨ndG.1, (List.nodup_append.mp (b.nodup_iff.mp ndG.2.1)).1, fun x q y z ee => by
        subst ee; exact ndG.2.2 x q x (b.mem_iff.mpr (List.mem_append_left _ z)) rfl⟩
      have af : Aft w.Fz (fun a => H a ≠ none ∧ a ∉ F) F H Z H' (G ++ Fo) := p.aft.sub sub ndo
      cases hro : fd.ro with
      | true =>
        rw [hro] at e2
        cases e2
        exact k v H' Z G Fo af rv a hnb.1 hnb.2
      | false =>
        rw [hro] at e2
        cases e2
        have le : (w.wz Z).Le (w.wz fun x => Z x ∨ x ∈ G) := ⟨rfl, rfl, fun _ h => .inl h, fun _ h => h⟩
        refine k v H' (fun x => Z x ∨ x ∈ G) [] Fo (by simpa using af.frz rv.live) (rv.fz (w := w.wz Z) (Z := fun x => Z x ∨ x ∈ G) (fun _ h => .inl h) fun a q => .inr q) (a.stays le ⟨fun _ _ => rfl, fun _ _ => rfl, fun _ _ => rfl⟩) ?_ hnb.2
        exact fz_nb _ hnb.1

/-- the body's context, nothing raised -/
abbrev bodyX (P : Program) (w : World) (K : PySem.W.Frag) (mg : Str → Option Value) (base : Heap) (N : List Str) (qual : Str) (scope : Scope) (f : Addr) (cd : Value) (A : Around) (outer : List PySem.Env) (s : Shared) (H : Hp) : Cx :=
  (cxOf noX P w K mg base N qual scope f cd A outer s H noE).nox
/-- a def of the text keeps its promise one level up, by its body -/
theorem fnG_of {P : Program} {w : World} {mg : Str → Option Value} {base : Heap} {T : Nat → Option Fn} {n k fid : Nat} {fd : Fn} {f : Addr} {name qual : Str} {params : Arguments} {body : List Stmt} {scope : Scope} {dV kV doc pm cdv ct oc : Value} {an od : Option Addr}
    {osl : Array (Option Value)} {N ps : List Str} (hT : T fid = some fd) (hnp : fd.np = ps.length) (hns : fd.ns = N.length) (lk : K.lookup f = some ⟨oc, od, .func (PySem.W.fnOf name qual params body scope dV kV doc pm an cdv ct), osl⟩) (hcd : PySem.W.codeIn K cdv qual = true) (S : FnScope N ps scope)
    (hbody : ∀ (A : Around) (outer : List PySem.Env) (s : Shared) (H : Hp), A.guards = some [] → Room k (A.deeper (envOfC qual scope s.heap.objs.size f cdv)) →
      PSs (bodyX P w K mg base N qual scope f cdv A outer s H) body (tX K CA (ioIx fd.io) (xss (callT T n) fd.body))) :
    FnG P w K mg base CA (callT T (n + 1)) (k + 1) f (PySem.W.fnOf name qual params body scope dV kV doc pm an cdv ct) ps fid := by
  have hlen : ∀ io ds r, callT T (n + 1) fid io ds = some r → ds.length = ps.length := fun io ds r e => by
    simp only [callT] at e
    rw [hT] at e
    have e0 : (if fd.io = io ∧ ds.length = fd.np ∧ argsOk io ds = true then finish fd (xss (callT T n) fd.body (ds.map some ++ List.replicate (fd.ns - fd.np) none)) else none) = some r := e
    split at e0
    · rename_i hc
      rw [hc.2.1, hnp]
    · cases e0
  refine ⟨hlen, fun A outer s H args us vs io Q hg room e0 bind rel sp => ?_⟩
  obtain ⟨hvl, run⟩ := body_run hT sp
  have lvs : vs.length = ps.length := by rw [← hvl, hnp]
  have inK : K.In s.heap := e0.mod.kin.keeps fun b o e => (e0.bs b o e).1
  have noLim : s.heap.NoLimit := e0.mod.nolimit.keeps fun b o e => (e0.bs b o e).1
  have kinds : ∀ y ∈ ps.zip us, scope.names.lookup y.1 = some .local ∨ (scope.names.lookup y.1 = some .cell ∧ ((cellsFrom (s.heap.objs.size + 1) scope.names []).lookup y.1).isSome = true) := fun y hy => by
    refine (S.par y.1 (List.of_mem_zip (show (y.1, y.2) ∈ ps.zip us from hy)).1).imp id fun q => ⟨q, ?_⟩
    exact PySem.W.cellsFrom_some _ _ _ (.inl q)
  refine codeAny_call_function room.depth (inK _ _ lk) rfl S.co S.gen rfl (PySem.W.codeRec_of inK hcd) (bind _ _ _ _ (wpAny_newFunctionEnv_cells S.kind kinds fun env he s1 x => ?_))
  subst he
  refine ⟨noLim.keeps x.toInCall.keep, codeAny_func ?_⟩
  have I := inv_start (CX := noX) (E := noE) S room.hd e0 lvs rel x
  have st : L2.start N vs = vs.map some ++ List.replicate (fd.ns - fd.np) none := by unfold L2.start; rw [hns, hvl]
  rw [st] at I
  have pss := PSs.nox (hbody A outer s H hg (room.deeper _))
  refine wpAny_mono (pss.run [] s1 _ H _ I run) (fun fl s' hs => ?_) fun e s' hs => hs
  have fin : ∀ {σ' : L2.St} {H' : Hp} {v : V} {u : Value}, L2.Inv (cxOf noX P w K mg base N qual scope f cdv A outer s H noE) [] σ' H' s' → RelV v u → Q v H' → CE outer P w H s Q u s' := fun {σ' H' v u} J rv q => ⟨v, H', J.os, J.bare, J.base, J.hok, rv, q⟩
  match fl, hs with
  | .ret u, ⟨v, σ', H', J, rv, q⟩ => exact fin J rv q
  | .next, ⟨σ', H', J, q⟩ => exact fin (v := V.non) (u := Value.none) J rfl q
  | .brk, ⟨_, _, _, q⟩ => exact q.elim
  | .cont, ⟨_, _, _, q⟩ => exact q.elim
end Mp
set_option Elab.async false
set_option linter.all false
set_option maxRecDepth 100000
set_option maxHeartbeats 2000000
/-! # Mp: parts of trees, by their places -/
namespace Mp
open PySem L2
variable {X : Cx} {cl : Call} {K : PySem.W.Frag} {CA : Nat → Option Addr} {pn : List Nat}

/-- from the value v along the path to the value u -/
def PathV (CA : Nat → Option Addr) (H : Hp) : V → List Sel → V → Prop
  | v, [], u => u = v
  | v, .fld x :: l, u => ∃ a C dx fs y c, v = .ref a ∧ H a = some (.ins C dx fs) ∧ CA c = some C ∧ x ∈ classFields c ∧ fs.lookup x = some y ∧ PathV CA H y l u
  | v, .key k :: l, u => ∃ a, v = .ref a ∧ ((∃ xs y, H a = some (.lst xs) ∧ (∃ i, k = .inl i ∧ atI xs i = some y) ∧ PathV CA H y l u) ∨ ∃ kvs y, H a = some (.dK kvs) ∧ valV kvs k = some y ∧ PathV CA H y l u)

/-- one of the children, and another one put at its place (the value the same) -/
theorem Reps.focus {w : Wd} {H : Hp} : ∀ {ds : List D} {us : List V} {F : List Addr} {j : Nat} {d : D}, Reps w H ds us F → ds[j]? = some d → ∃ u G Fr, us[j]? = some u ∧ Rep w H d u G ∧ F.Perm (G ++ Fr) ∧
    ∀ {w' : Wd} {H' : Hp} {d' : D} {G' : List Addr}, w.Le w' → Stays w Fr H H' → Rep w' H' d' u G' → ∃ F', Reps w' H' (ds.set j d') us F' ∧ F'.Perm (G' ++ Fr)
  | [], _, _, _, _, _, e => by simp at e
  | d0 :: ds, _, _, 0, d, h, e => by
    obtain ⟨v, vr, F1, F2, rfl, rfl, h1, h2⟩ := h.uncons
    simp at e
    subst e
    exact ⟨v, F1, F2, rfl, h1, List.Perm.refl _, fun le st r => ⟨_, .cons r (h2.stays le st), List.Perm.refl _⟩⟩
  | d0 :: ds, _, _, j + 1, d, h, e => by
    obtain ⟨v, vr, F1, F2, rfl, rfl, h1, h2⟩ := h.uncons
    obtain ⟨u, G, Fr, a, b, c, k⟩ := Reps.focus (j := j) h2 (by simpa using e)
    refine ⟨u, G, F1 ++ Fr, by simpa using a, b, ?_, fun {w' H' d' G'} le st r => ?_⟩
    · refine (List.Perm.append_left F1 c).trans ?_
      rw [← List.append_assoc, ← List.append_assoc]
      exact List.Perm.append_right Fr List.perm_append_comm
    · obtain ⟨F', x, y⟩ := k le (st.sub fun a q => List.mem_append_right _ q) r
      refine ⟨F1 ++ F', .cons (h1.stays le (st.sub fun a q => List.mem_append_left _ q)) x, ?_⟩
      refine (List.Perm.append_left F1 y).trans ?_
      rw [← List.append_assoc, ← List.append_assoc]
      exact List.Perm.append_right Fr List.perm_append_comm
theorem look_ix {k : Key} : ∀ {ks : List Key} {ds : List D} {d : D}, ks.Nodup → ks.length = ds.length → lookD ks ds k = some d → ∃ j, ds[j]? = some d ∧ (∀ us : List V, us.length = ks.length → ∀ u, us[j]? = some u → valV (ks.zip us) k = some u) ∧ ∀ x, putD ks ds k x = (ks, ds.set j x)
  | [], _, _, _, _, e => by simp only [lookD] at e; cases e
  | j :: ks, [], _, _, _, e => by simp only [lookD] at e; cases e
  | j :: ks, d' :: ds, d, nd, hl, e => by
    simp only [lookD] at e
    by_cases q : j = k
    · rw [if_pos q] at e
      cases e
      refine ⟨0, rfl, fun us hu u h => ?_, fun x => by simp [putD, q]⟩
      cases us with
      | nil => simp at h
      | cons u0 us =>
        simp at h
        subst h
        rw [List.zip_cons_cons, valV_pos (p := (j, u0)) q]
    · rw [if_neg q] at e
      obtain ⟨i, a, b, c⟩ := look_ix (List.nodup_cons.mp nd).2 (by simpa using hl) e
      refine ⟨i + 1, by simpa using a, fun us hu u h => ?_, fun x => by simp [putD, q, c x]⟩
      cases us with
      | nil => simp at h
      | cons u0 us =>
        rw [List.zip_cons_cons, valV_neg (p := (j, u0)) q]
        exact b us (by simpa using hu) u (by simpa using h)
theorem fld_ix {x : Str} : ∀ {ns : List Str} {ds : List D} {d : D}, ns.Nodup → ns.length = ds.length → fldD ns ds x = some d → ∃ j, ds[j]? = some d ∧ (∀ us : List V, us.length = ns.length → ∀ u, us[j]? = some u → (ns.zip us).lookup x = some u) ∧ ∀ y, putF' ns ds x y = (ns, ds.set j y)
  | [], _, _, _, _, e => by simp only [fldD] at e; cases e
  | j :: ks, [], _, _, _, e => by simp only [fldD] at e; cases e
  | j :: ks, d' :: ds, d, nd, hl, e => by
    simp only [fldD] at e
    by_cases q : j = x
    · rw [if_pos q] at e
      cases e
      subst q
      refine ⟨0, rfl, fun us hu u h => ?_, fun y => by simp [putF']⟩
      cases us with
      | nil => simp at h
      | cons u0 us =>
        simp at h
        subst h
        rw [List.zip_cons_cons, List.lookup_cons, beq_self_eq_true]
    · rw [if_neg q] at e
      obtain ⟨i, a, b, c⟩ := fld_ix (List.nodup_cons.mp nd).2 (by simpa using hl) e
      refine ⟨i + 1, by simpa using a, fun us hu u h => ?_, fun y => by simp [putF', q, c y]⟩
      cases us with
      | nil => simp at h
      | cons u0 us =>
        rw [List.zip_cons_cons, List.lookup_cons, beq_eq_false_iff_ne.mpr (Ne.symm q)]
        exact b us (by simpa using hu) u (by simpa using h)
theorem perm_in {a : Addr} {Gc G1 Fr1 G Fr : List Addr} (h : Gc.Perm (G1 ++ Fr1)) (h' : G1.Perm (G ++ Fr)) : (a :: Gc).Perm (G ++ a :: (Fr ++ Fr1)) := by
  refine (List.Perm.cons a (h.trans (List.Perm.append_right Fr1 h'))).trans ?_
  rw [List.append_assoc]
  exact List.perm_middle.symm
theorem perm_out {a : Addr} {Fb Fa Fr1 G Fr : List Addr} (h : Fb.Perm (Fa ++ Fr1)) (h' : Fa.Perm (G ++ Fr)) : (a :: Fb).Perm (G ++ a :: (Fr ++ Fr1)) := perm_in h h'
/-- a tree's part at a path of own nodes; another tree put there (its value the same) -/
theorem Rep.focus {w : Wd} {H : Hp} (hw : w.CA = CA) : ∀ {l : List Sel} {t : D} {v : V} {F : List Addr} {d : D}, Rep w H t v F → F.Nodup → getP l t = some d → ∃ u G Fr, PathV CA H v l u ∧ Rep w H d u G ∧ F.Perm (G ++ Fr) ∧
    ∀ {w' : Wd} {H' : Hp} {f : D → Option D} {d' t' : D} {G' : List Addr}, w.Le w' → Stays w Fr H H' → f d = some d' → modP f l t = some t' → Rep w' H' d' u G' → ∃ F', Rep w' H' t' v F' ∧ F'.Perm (G' ++ Fr)
  | [], t, v, F, d, h, nd, e => by
    simp only [getP, Option.some.injEq] at e
    subst e
    refine ⟨v, F, [], rfl, h, by simp, fun {w' H' f d' t' G'} le st hf hm r => ?_⟩
    simp only [modP, hf, Option.some.injEq] at hm
    subst hm
    exact ⟨G', r, by simp⟩
  | s :: l, t, v, F, d, h, nd, e => by
    simp only [getP] at e
    obtain ⟨x, e1, e2⟩ := Option.bind_eq_some_iff.mp e
    cases s with
    | fld n =>
      cases t with
      | ins f c ns ds =>
        cases f with
        | own =>
          have e1 : (if n ∈ classFields c then fldD ns ds n else none) = some x := e1
          split at e1
          rotate_left
          · cases e1
          rename_i hn
          obtain ⟨a, dx, us, Gc, rfl, ⟨nl, nn⟩, ⟨C, eC, eH⟩, ht, rs⟩ := h.ins_inv
          have eF : F = a :: Gc := ht
          subst eF
          obtain ⟨j, x1, x2, x3⟩ := fld_ix nn nl e1
          obtain ⟨u1, G1, Fr1, y1, y2, y3, y4⟩ := rs.focus x1
          have hG1 : G1.Nodup := (List.nodup_append.mp (y3.nodup_iff.mp (List.nodup_cons.mp nd).2)).1
          obtain ⟨u, G, Fr, z1, z2, z3, z4⟩ := Rep.focus hw y2 hG1 e2
          refine ⟨u, G, a :: (Fr ++ Fr1), ⟨a, C, dx, _, u1, c, rfl, eH, by rw [← hw]; exact eC, hn, x2 us (by rw [rs.len, nl]) u1 y1, z1⟩, z2, ?_, fun {w' H' f d' t' G'} le st hf hm r => ?_⟩
          · exact perm_in y3 z3
          · simp only [modP] at hm
            obtain ⟨x', m1, m2⟩ := Option.bind_eq_some_iff.mp hm
            obtain ⟨y0, m3, m4⟩ := Option.bind_eq_some_iff.mp m2
            have m1 : (if n ∈ classFields c then fldD ns ds n else none) = some x' := m1
            rw [if_pos hn, e1] at m1
            cases m1
            have m4 : (if n ∈ classFields c then some (D.ins .own c (putF' ns ds n y0).1 (putF' ns ds n y0).2) else none) = some t' := m4
            rw [if_pos hn, x3] at m4
            cases m4
            obtain ⟨Fa, r1, p1⟩ := z4 le (st.sub fun b q => List.mem_cons_of_mem _ (List.mem_append_left _ q)) hf m3 r
            obtain ⟨Fb, r2, p2⟩ := y4 le (st.sub fun b q => List.mem_cons_of_mem _ (List.mem_append_right _ q)) r1
            refine ⟨a :: Fb, ?_, perm_out p2 p1⟩
            unfold Rep
            exact ⟨a, dx, us, Fb, rfl, ⟨by simpa using nl, nn⟩, ⟨C, by rw [le.c]; exact eC, by rw [st.own a List.mem_cons_self]; exact eH⟩, rfl, r2⟩
        | bor => cases e1
        | frz => cases e1
      | _ => cases e1
    | key k =>
      cases t with
      | lst f ds =>
        cases f with
        | own =>
          cases k with
          | inl i =>
            have e1 : atI ds i = some x := e1
            obtain ⟨a, us, Gc, rfl, eH, ht, rs⟩ := h.lst_inv
            have eF : F = a :: Gc := ht
            subst eF
            have e1' := e1
            unfold L2.atI at e1'
            obtain ⟨j, ej, x1⟩ := Option.bind_eq_some_iff.mp e1'
            obtain ⟨u1, G1, Fr1, y1, y2, y3, y4⟩ := rs.focus x1
            have hG1 : G1.Nodup := (List.nodup_append.mp (y3.nodup_iff.mp (List.nodup_cons.mp nd).2)).1
            obtain ⟨u, G, Fr, z1, z2, z3, z4⟩ := Rep.focus hw y2 hG1 e2
            have ea : atI us i = some u1 := by unfold L2.atI; rw [rs.len, ej]; exact y1
            refine ⟨u, G, a :: (Fr ++ Fr1), ⟨a, rfl, .inl ⟨us, u1, eH, ⟨i, rfl, ea⟩, z1⟩⟩, z2, perm_in y3 z3, fun {w' H' f d' t' G'} le st hf hm r => ?_⟩
            simp only [modP] at hm
            obtain ⟨x', m1, m2⟩ := Option.bind_eq_some_iff.mp hm
            obtain ⟨y0, m3, m4⟩ := Option.bind_eq_some_iff.mp m2
            have m1 : atI ds i = some x' := m1
            rw [e1] at m1
            cases m1
            have m4 : (ixN ds.length i).map (fun j => D.lst .own (ds.set j y0)) = some t' := m4
            rw [ej] at m4
            cases m4
            obtain ⟨Fa, r1, p1⟩ := z4 le (st.sub fun b q => List.mem_cons_of_mem _ (List.mem_append_left _ q)) hf m3 r
            obtain ⟨Fb, r2, p2⟩ := y4 le (st.sub fun b q => List.mem_cons_of_mem _ (List.mem_append_right _ q)) r1
            exact ⟨a :: Fb, .lst_mk (by rw [st.own a List.mem_cons_self]; exact eH) r2, perm_out p2 p1⟩
          | inr z => cases e1
        | bor => cases e1
        | frz => cases e1
      | dic f ks ds =>
        cases f with
        | own =>
          have e1 : lookD ks ds k = some x := by cases k <;> exact e1
          obtain ⟨a, us, Gc, rfl, ⟨nl, nn⟩, eH, ht, rs⟩ := h.dic_inv
          have eF : F = a :: Gc := ht
          subst eF
          rw [if_pos rfl] at eH
          obtain ⟨j, x1, x2, x3⟩ := look_ix nn nl e1
          obtain ⟨u1, G1, Fr1, y1, y2, y3, y4⟩ := rs.focus x1
          have hG1 : G1.Nodup := (List.nodup_append.mp (y3.nodup_iff.mp (List.nodup_cons.mp nd).2)).1
          obtain ⟨u, G, Fr, z1, z2, z3, z4⟩ := Rep.focus hw y2 hG1 e2
          refine ⟨u, G, a :: (Fr ++ Fr1), ⟨a, rfl, .inr ⟨_, u1, eH, x2 us (by rw [rs.len, nl]) u1 y1, z1⟩⟩, z2, perm_in y3 z3, fun {w' H' f d' t' G'} le st hf hm r => ?_⟩
          simp only [modP] at hm
          obtain ⟨x', m1, m2⟩ := Option.bind_eq_some_iff.mp hm
          obtain ⟨y0, m3, m4⟩ := Option.bind_eq_some_iff.mp m2
          have m1 : lookD ks ds k = some x' := by cases k <;> exact m1
          rw [e1] at m1
          cases m1
          have m4 : (if ks.length < lim then some (D.dic .own (putD ks ds k y0).1 (putD ks ds k y0).2) else none) = some t' := by cases k <;> exact m4
          split at m4
          rotate_left
          · cases m4
          rw [x3] at m4
          cases m4
          obtain ⟨Fa, r1, p1⟩ := z4 le (st.sub fun b q => List.mem_cons_of_mem _ (List.mem_append_left _ q)) hf m3 r
          obtain ⟨Fb, r2, p2⟩ := y4 le (st.sub fun b q => List.mem_cons_of_mem _ (List.mem_append_right _ q)) r1
          exact ⟨a :: Fb, .dic_mk (by rw [st.own a List.mem_cons_self]; exact eH) (by simpa using nl) nn r2, perm_out p2 p1⟩
        | bor => cases k <;> cases e1
        | frz => cases k <;> cases e1
      | _ => cases k <;> cases e1

theorem PathV.det {H : Hp} : ∀ {l : List Sel} {v u u' : V}, PathV CA H v l u → PathV CA H v l u' → u = u'
  | [], _, _, _, h, h' => by unfold PathV at h h'; rw [h, h']
  | .fld x :: l, v, u, u', h, h' => by
    unfold PathV at h h'
    obtain ⟨a, C, dx, fs, y, c, rfl, e, _, _, e2, h⟩ := h
    obtain ⟨a', C', dx', fs', y', c', ea, e', _, _, e2', h'⟩ := h'
    cases ea
    rw [e] at e'
    cases e'
    rw [e2] at e2'
    cases e2'
    exact PathV.det h h'
  | .key k :: l, v, u, u', h, h' => by
    unfold PathV at h h'
    obtain ⟨a, rfl, h⟩ := h
    obtain ⟨a', ea, h'⟩ := h'
    cases ea
    rcases h with ⟨xs, y, e, ⟨i, ek, e2⟩, h⟩ | ⟨kvs, y, e, e2, h⟩
    · rcases h' with ⟨xs', y', e', ⟨i', ek', e2'⟩, h'⟩ | ⟨kvs', y', e', e2', h'⟩
      · rw [e] at e'
        cases e'
        rw [ek] at ek'
        cases ek'
        rw [e2] at e2'
        cases e2'
        exact PathV.det h h'
      · rw [e] at e'; cases e'
    · rcases h' with ⟨xs', y', e', ⟨i', ek', e2'⟩, h'⟩ | ⟨kvs', y', e', e2', h'⟩
      · rw [e] at e'; cases e'
      · rw [e] at e'
        cases e'
        rw [e2] at e2'
        cases e2'
        exact PathV.det h h'
theorem PathV.snoc {H : Hp} {s : Sel} : ∀ {l : List Sel} {v u : V}, PathV CA H v (l ++ [s]) u → ∃ y, PathV CA H v l y ∧ PathV CA H y [s] u
  | [], v, u, h => ⟨v, rfl, h⟩
  | .fld x :: l, v, u, h => by
    have h : PathV CA H v (.fld x :: (l ++ [s])) u := h
    unfold PathV at h
    obtain ⟨a, C, dx, fs, y, c, e1, e, e3, e4, e2, h⟩ := h
    obtain ⟨z, h1, h2⟩ := PathV.snoc h
    exact ⟨z, by unfold PathV; exact ⟨a, C, dx, fs, y, c, e1, e, e3, e4, e2, h1⟩, h2⟩
  | .key k :: l, v, u, h => by
    have h : PathV CA H v (.key k :: (l ++ [s])) u := h
    unfold PathV at h
    obtain ⟨a, e1, h⟩ := h
    rcases h with ⟨xs, y, e, e3, h⟩ | ⟨kvs, y, e, e2, h⟩
    · obtain ⟨z, h1, h2⟩ := PathV.snoc h
      exact ⟨z, by unfold PathV; exact ⟨a, e1, .inl ⟨xs, y, e, e3, h1⟩⟩, h2⟩
    · obtain ⟨z, h1, h2⟩ := PathV.snoc h
      exact ⟨z, by unfold PathV; exact ⟨a, e1, .inr ⟨kvs, y, e, e2, h1⟩⟩, h2⟩
theorem PathV.app {H : Hp} {l2 : List Sel} : ∀ {l : List Sel} {v y u : V}, PathV CA H v l y → PathV CA H y l2 u → PathV CA H v (l ++ l2) u
  | [], v, y, u, h, h' => by unfold PathV at h; rw [← h]; exact h'
  | .fld x :: l, v, y, u, h, h' => by
    unfold PathV at h
    obtain ⟨a, C, dx, fs, z, c, e1, e, e3, e4, e2, h⟩ := h
    show PathV CA H v (.fld x :: (l ++ l2)) u
    unfold PathV
    exact ⟨a, C, dx, fs, z, c, e1, e, e3, e4, e2, PathV.app h h'⟩
  | .key k :: l, v, y, u, h, h' => by
    unfold PathV at h
    obtain ⟨a, e1, h⟩ := h
    show PathV CA H v (.key k :: (l ++ l2)) u
    unfold PathV
    rcases h with ⟨xs, z, e, e3, h⟩ | ⟨kvs, z, e, e2, h⟩
    · exact ⟨a, e1, .inl ⟨xs, z, e, e3, PathV.app h h'⟩⟩
    · exact ⟨a, e1, .inr ⟨kvs, z, e, e2, PathV.app h h'⟩⟩
theorem PathV.stays {H H' : Hp} (hs : ∀ a, H a ≠ none → H' a = H a) : ∀ {l : List Sel} {v u : V}, PathV CA H v l u → PathV CA H' v l u
  | [], _, _, h => by unfold PathV at h ⊢; exact h
  | .fld x :: l, v, u, h => by
    unfold PathV at h ⊢
    obtain ⟨a, C, dx, fs, y, c, e1, e, e3, e4, e2, h⟩ := h
    exact ⟨a, C, dx, fs, y, c, e1, (hs a (by rw [e]; simp)).trans e, e3, e4, e2, PathV.stays hs h⟩
  | .key k :: l, v, u, h => by
    unfold PathV at h ⊢
    obtain ⟨a, e1, h⟩ := h
    rcases h with ⟨xs, z, e, e3, h⟩ | ⟨kvs, z, e, e2, h⟩
    · exact ⟨a, e1, .inl ⟨xs, z, (hs a (by rw [e]; simp)).trans e, e3, PathV.stays hs h⟩⟩
    · exact ⟨a, e1, .inr ⟨kvs, z, (hs a (by rw [e]; simp)).trans e, e2, PathV.stays hs h⟩⟩
def MPs.app : MPs → MPs → MPs
  | .nil, q => q
  | .key k p, q => .key k (p.app q)
  | .fld x p, q => .fld x (p.app q)
theorem evPath_app : ∀ {p q : MPs} {ρ : Mp.Env} {l : List Sel}, evPath cl (p.app q) ρ = some l → ∃ l1 l2, evPath cl p ρ = some l1 ∧ evPath cl q ρ = some l2 ∧ l = l1 ++ l2
  | .nil, q, ρ, l, h => ⟨[], l, by simp [evPath], h, rfl⟩
  | .key k p, q, ρ, l, h => by
    have h : evPath cl (.key k (p.app q)) ρ = some l := h
    simp only [evPath] at h
    split at h
    · rename_i hs
      obtain ⟨r, e1, e2⟩ := Option.bind_eq_some_iff.mp h
      obtain ⟨key, e3, e4⟩ := Option.bind_eq_some_iff.mp e2
      obtain ⟨l0, e5, rfl⟩ := Option.map_eq_some_iff.mp e4
      obtain ⟨l1, l2, a, b, rfl⟩ := evPath_app e5
      exact ⟨.key key :: l1, l2, by simp only [evPath]; rw [if_pos hs, e1]; simp only [Option.bind_some, e3, a, Option.map_some], b, rfl⟩
    · cases h
  | .fld x p, q, ρ, l, h => by
    have h : evPath cl (.fld x (p.app q)) ρ = some l := h
    simp only [evPath] at h
    obtain ⟨l0, e5, rfl⟩ := Option.map_eq_some_iff.mp h
    obtain ⟨l1, l2, a, b, rfl⟩ := evPath_app e5
    exact ⟨.fld x :: l1, l2, by simp only [evPath, a, Option.map_some], b, rfl⟩
/-- a place and its reading -/
inductive Plc (X : Cx) (cl : Call) (CA : Nat → Option Addr) : Expr → Nat → MPs → Prop where
  | name {i : Nat} {x : Str} {pos : Pos} (h : NameOk X i x) : Plc X cl CA (.Name x pos) i .nil
  | fld {o : Expr} {i : Nat} {p : MPs} {f : Str} {pos : Pos} (h : Plc X cl CA o i p) (hb : attributeBase o f X.env (eval o X.env) = eval o X.env) : Plc X cl CA (.Attribute o f pos) i (p.app (.fld f .nil))
  | key {o k : Expr} {i : Nat} {p : MPs} {m : ME} {pos : Pos} (h : Plc X cl CA o i p) (hk : PE X k (tE cl X.K CA m)) (hs : noSl k = true) : Plc X cl CA (.Subscript o k pos) i (p.app (.key m .nil))
/-- the reading of a place -/
def tPl (cl : Call) (K : PySem.W.Frag) (CA : Nat → Option Addr) (i : Nat) (p : MPs) : TE := fun σ H Q =>
  ∃ w P ρ F l v0 u0, Wd.In w K CA ∧ Sim w P σ ρ H F ∧ evPath cl p ρ = some l ∧ σ[i]? = some (some v0) ∧ PathV CA H v0 l u0 ∧
    ∀ H' Z, Aft w.Fz P F H Z H' F → REnv (w.wz Z) H' σ ρ F → (∀ a, H a ≠ none → H' a = H a) → Q u0 H'
theorem Plc.pe (cf : ClsOk X.K CA) (hu : X.A.units + 1 < cLine) {o : Expr} {i : Nat} {p : MPs} (h : Plc X cl CA o i p) : PE X o (tPl cl X.K CA i p) := by
  induction h with
  | name h =>
    refine PE.imp (pe_var h.n h.v h.d h.c) fun σ H Q ⟨w, P, ρ, F, l, v0, u0, hw, s, el, ev0, pv, k⟩ => ?_
    simp only [evPath, Option.some.injEq] at el
    subst el
    unfold PathV at pv
    subst pv
    exact ⟨_, ev0, k H w.Fz s.aft s.env fun _ _ => rfl⟩
  | @fld o i p f pos h hb ih =>
    refine PE.imp (pe_fld ih hb) fun σ H Q ⟨w, P, ρ, F, l, v0, u0, hw, s, el, ev0, pv, k⟩ => ?_
    obtain ⟨l1, l2, e1, e2, rfl⟩ := evPath_app el
    simp only [evPath, Option.map_some, Option.some.injEq] at e2
    subst e2
    obtain ⟨y, p1, p2⟩ := pv.snoc
    refine ⟨w, P, ρ, F, l1, v0, y, hw, s, e1, ev0, p1, fun H' Z a e hs => ?_⟩
    have p3 := p2.stays hs
    unfold PathV at p3
    obtain ⟨ad, C, dx, fs, z, c, rfl, eH, eC, hf, el, q⟩ := p3
    unfold PathV at q
    subst q
    exact ⟨ad, C, dx, fs, _, rfl, eH, (cf.cls _ _ eC).cl, cf.fld _ _ _ eC hf, el, k H' Z a e hs⟩
  | @key o kx i p m pos h hk hs ih =>
    refine PE.imp (pe_ix (IxR.or ix_list (ix_dic hu)) ih hk (plainIx hs)) fun σ H Q ⟨w, P, ρ, F, l, v0, u0, hw, s, el, ev0, pv, k⟩ => ?_
    obtain ⟨l1, l2, e1, e2, rfl⟩ := evPath_app el
    simp only [evPath] at e2
    split at e2
    rotate_left
    · cases e2
    rename_i hst
    obtain ⟨⟨d, ρ1⟩, e3, e4⟩ := Option.bind_eq_some_iff.mp e2
    obtain ⟨key, e5, e6⟩ := Option.bind_eq_some_iff.mp e4
    simp only [Option.map_some, Option.some.injEq] at e6
    subst e6
    obtain ⟨y, p1, p2⟩ := pv.snoc
    refine ⟨w, P, ρ, F, l1, v0, y, hw, s, e1, ev0, p1, fun H' Z a e hs => ?_⟩
    have s1 : Sim (w.wz Z) P σ ρ H' F := ⟨e, a.nd, fun x q => ⟨(a.new x q).2, (s.dis x q).2⟩, s.bp, fun x q => q.elim (a.liv x) fun q => a.keep x (s.liv x (.inr q))⟩
    refine ⟨w.wz Z, P, ρ, F, d, ρ1, ⟨hw.k, hw.c⟩, s1, e3, fun v H2 Z2 G F2 pp => ?_⟩
    obtain ⟨rfl, rfl, hs2⟩ := pp.still hst
    obtain ⟨rfl, rfl⟩ := pp.rep.key e5
    have hs3 : ∀ x, H x ≠ none → H2 x = H x := fun x q => (hs2 x (by rw [hs x q]; exact q)).trans (hs x q)
    have a2 : Aft Z P F2 H' Z2 H2 F2 := by
      have := pp.aft
      cases hp : m.pl <;> rw [hp] at this <;> exact this
    have fin : Q u0 H2 := k H2 Z2 ⟨fun x q => (a2.fr x (q.imp (a.mono x) id)).trans (a.fr x q), fun x q => a2.mono x (a.mono x q), fun x q => ?_, a2.liv, fun x q => ⟨.inl q, (a2.new x q).2⟩, a2.nd, fun x q => a2.keep x (a.keep x q)⟩ pp.env hs3
    · have p3 := p2.stays hs3
      unfold PathV at p3
      obtain ⟨ad, rfl, q⟩ := p3
      rcases q with ⟨xs, z, eH, ⟨i', ek, ez⟩, q⟩ | ⟨kvs, z, eH, ez, q⟩
      · unfold PathV at q
        subst q
        subst ek
        exact .inl ⟨ad, xs, i', _, rfl, rfl, SqL.of eH, ez, fin⟩
      · unfold PathV at q
        subst q
        exact .inr ⟨ad, _, rfl, .inl ⟨kvs, key, .inl eH, rfl, ez.symm⟩, fin⟩
    · rcases a2.grow x q with y | y | y
      · exact a.grow x y
      · exact .inr (.inl y)
      · refine .inr (.inr ?_)
        cases hx : H x with
        | none => rfl
        | some o => exact absurd y (a.keep x (by rw [hx]; simp))
end Mp
set_option Elab.async false
set_option linter.all false
set_option maxRecDepth 100000
set_option maxHeartbeats 2000000
/-! # Mp: changes in place -/
namespace Mp
open PySem L2
variable {X : Cx} {cl : Call} {K : PySem.W.Frag} {CA : Nat → Option Addr} {pn : List Nat}

/-- the part of what a name holds, and the state with another one at its place; Gx: what came from elsewhere -/
theorem write_at {w : Wd} {P : Addr → Prop} {σ : St} {ρ : Mp.Env} {H : Hp} {F Gx : List Addr} {i : Nat} {t d : D} {l : List Sel} (hc : w.CA = CA) (s : Sim w P σ ρ H F) (g : Given w P F Gx) (lx : ∀ a ∈ Gx, H a ≠ none) (ht : gI ρ i = some t) (hd : getP l t = some d) :
    ∃ v0 u Gd, σ[i]? = some (some v0) ∧ PathV CA H v0 l u ∧ Rep w H d u Gd ∧ Gd.Nodup ∧ (∀ a ∈ Gd, a ∈ F) ∧ (∀ a ∈ Gd, a ∉ Gx) ∧
      ∀ {a : Addr} {o : HO} {f : D → Option D} {d' t' : D} {G' : List Addr}, a ∈ Gd → f d = some d' → modP f l t = some t' → Rep w (upd H a o) d' u G' → (∀ x ∈ G', x ∈ Gd ∨ x ∈ Gx) → G'.Nodup →
        ∃ F', SPost w P σ H (Gx ++ F) pn (ρ.set i (some t')) σ (upd H a o) w.Fz [] F' ∧ ∃ R, F'.Perm (G' ++ R) ∧ (∀ x ∈ R, x ∉ Gd ∧ x ∉ Gx) ∧ (Gd ++ R).Perm F := by
  obtain ⟨v0, F1, F2, h1, h2, h3, h4⟩ := s.env.take ht
  have ndF := h4.nodup_iff.mp s.nd
  have nd1 := (List.nodup_append.mp ndF).1
  obtain ⟨u, Gd, Fr, p1, p2, p3, k⟩ := Rep.focus hc h2 nd1 hd
  have nd3 := p3.nodup_iff.mp nd1
  have inF1 : ∀ x ∈ Gd, x ∈ F1 := fun x q => p3.mem_iff.mpr (List.mem_append_left _ q)
  have inFr : ∀ x ∈ Fr, x ∈ F1 := fun x q => p3.mem_iff.mpr (List.mem_append_right _ q)
  have inF : ∀ x ∈ F1, x ∈ F := fun x q => h4.mem_iff.mpr (List.mem_append_left _ q)
  have inF2 : ∀ x ∈ F2, x ∈ F := fun x q => h4.mem_iff.mpr (List.mem_append_right _ q)
  have notX : ∀ x ∈ F, x ∉ Gx := fun x q z => (List.nodup_append.mp g.nd).2.2 x z x q rfl
  refine ⟨v0, u, Gd, h1, p1, p2, (List.nodup_append.mp nd3).1, fun x q => inF x (inF1 x q), fun x q => notX x (inF x (inF1 x q)), fun {a o f d' t' G'} ha hf hm hr hg hn => ?_⟩
  have haF : a ∈ F := inF a (inF1 a ha)
  have hz := s.dis a haF
  have nb : ¬ w.B a := fun z => hz.2 (s.bp a z)
  have dFr : ∀ x ∈ Fr, x ∉ Gd := fun x q z => (List.nodup_append.mp nd3).2.2 x z x q rfl
  have dF2 : ∀ x ∈ F2, x ∉ F1 := fun x q z => (List.nodup_append.mp ndF).2.2 x z x q rfl
  have st : ∀ {G : List Addr}, (∀ x ∈ G, x ≠ a) → Stays w G H (upd H a o) := fun h => ⟨fun x q => upd_ne (h x q), fun x q => upd_ne fun e => hz.1 (e ▸ q), fun x q => upd_ne fun e => nb (e ▸ q)⟩
  obtain ⟨Fa, r1, q1⟩ := k (Wd.Le.refl w) (st fun x q e => dFr x q (e ▸ ha)) hf hm hr
  have e3 : REnv w (upd H a o) σ (ρ.set i none) F2 := h3.stays (Wd.Le.refl w) (st fun x q e => dF2 x q (e ▸ inF1 a ha))
  obtain ⟨F', e4, q2⟩ := e3.put gI_set_none h1 r1
  rw [List.set_set] at e4
  have pm : F'.Perm (G' ++ (Fr ++ F2)) := by
    rw [← List.append_assoc]
    exact q2.trans (List.Perm.append_right F2 q1)
  have ndR : (Fr ++ F2).Nodup := List.nodup_append.mpr ⟨(List.nodup_append.mp nd3).2.1, (List.nodup_append.mp ndF).2.1, fun x q y z e => by subst e; exact dF2 x z (inFr x q)⟩
  have dR : ∀ x ∈ Fr ++ F2, x ∉ Gd ∧ x ∉ Gx := fun x q => by
    rcases List.mem_append.mp q with q | q
    · exact ⟨dFr x q, notX x (inF x (inFr x q))⟩
    · exact ⟨fun z => dF2 x q (inF1 x z), notX x (inF2 x q)⟩
  have inR : ∀ x ∈ Fr ++ F2, x ∈ F := fun x q => (List.mem_append.mp q).elim (fun q => inF x (inFr x q)) (inF2 x)
  have memG : ∀ x ∈ G', x ∈ Gx ++ F := fun x q => (hg x q).elim (fun q => List.mem_append_right _ (inF x (inF1 x q))) fun q => List.mem_append_left _ q
  have memF : ∀ x ∈ F', x ∈ Gx ++ F := fun x q => (List.mem_append.mp (pm.mem_iff.mp q)).elim (memG x) fun q => List.mem_append_right _ (inR x q)
  refine ⟨F', ⟨⟨fun x q => upd_ne fun e => ?_, fun _ h => h, fun x q => .inl q, fun x q => ?_, fun x q => ⟨.inl (memF x q), ?_⟩, ?_, fun x q => ?_⟩, e4, fun _ _ => rfl⟩, Fr ++ F2, pm, dR, ?_⟩
  · subst e
    exact q.elim hz.1 hz.2
  · rw [upd_ne fun e : x = a => hz.1 (e ▸ q)]; exact s.liv x (.inl q)
  · exact (List.mem_append.mp (memF x q)).elim (fun q => (g.n x q).1) fun q => (s.dis x q).1
  · refine pm.nodup_iff.mpr (List.nodup_append.mpr ⟨hn, ndR, fun x q y z e => ?_⟩)
    subst e
    exact (hg x q).elim (dR x z).1 (dR x z).2
  · by_cases e : x = a
    · subst e; rw [upd_same]; simp
    · rw [upd_ne e]; exact q
  · rw [← List.append_assoc]
    exact ((List.Perm.append_right F2 p3).symm.trans h4.symm)
end Mp
set_option Elab.async false
set_option linter.all false
set_option maxRecDepth 100000
set_option maxHeartbeats 2000000
/-! # Mp: stores into places -/
namespace Mp
open PySem L2
variable {X : Cx} {cl : Call} {K : PySem.W.Frag} {CA : Nat → Option Addr} {pn : List Nat}

theorem PSet.or {t t' : TSet} (h : PSet X t) (h' : PSet X t') : PSet X (fun o i v H Q => t o i v H Q ∨ t' o i v H Q) := by
  intro pins s σ H o i v ov iv u Q I ro ri rv q
  exact q.elim (fun q => h pins s σ H o i v ov iv u Q I ro ri rv q) (fun q => h' pins s σ H o i v ov iv u Q I ro ri rv q)

theorem Aft.comp {Fz P : Addr → Prop} {F K : List Addr} {H H1 H2 : Hp} {Z1 Z2 : Addr → Prop} (a : Aft Fz P F H Z1 H1 F) (a2 : Aft Z1 P F H1 Z2 H2 K) : Aft Fz P F H Z2 H2 K := by
  have old : ∀ x, H1 x = none → H x = none := fun x e => by
    cases hx : H x with
    | none => rfl
    | some o => exact absurd e (a.keep x (by rw [hx]; simp))
  exact ⟨fun x q => (a2.fr x (q.imp (a.mono x) id)).trans (a.fr x q), fun x q => a2.mono x (a.mono x q), fun x q => (a2.grow x q).elim (a.grow x) fun q => .inr (q.imp id (old x)), a2.liv,
    fun x q => ⟨(a2.new x q).1.imp id (old x), (a2.new x q).2⟩, a2.nd, fun x q => a2.keep x (a.keep x q)⟩
/-- a statement's end seen from an earlier heap -/
theorem SPost.pre {w : Wd} {P : Addr → Prop} {σ σ' : St} {H H2 H' : Hp} {F F' Gx : List Addr} {ρ' : Mp.Env} {Z Z2 : Addr → Prop} (a : Aft w.Fz P F H Z2 H2 F) (p : SPost (w.wz Z2) P σ H2 (Gx ++ F) pn ρ' σ' H' Z [] F') : SPost w P σ H (Gx ++ F) pn ρ' σ' H' Z [] F' := by
  have a2 : Aft Z2 P (Gx ++ F) H2 Z H' F' := p.aft
  have old : ∀ x, H2 x = none → H x = none := fun x e => by
    cases hx : H x with
    | none => rfl
    | some o => exact absurd e (a.keep x (by rw [hx]; simp))
  refine ⟨⟨fun x q => (a2.fr x (q.imp (a.mono x) id)).trans (a.fr x q), fun x q => a2.mono x (a.mono x q), fun x q => ?_, a2.liv, fun x q => ⟨(a2.new x q).1.imp id (old x), (a2.new x q).2⟩, a2.nd, fun x q => a2.keep x (a.keep x q)⟩, p.env, p.pin⟩
  rcases a2.grow x q with q | q | q
  · exact (a.grow x q).imp id fun q => q.imp (List.mem_append_right _) id
  · exact .inr (.inl q)
  · exact .inr (.inr (old x q))
theorem modP_get {f : D → Option D} : ∀ {l : List Sel} {t t' : D}, modP f l t = some t' → ∃ d d', getP l t = some d ∧ f d = some d'
  | [], t, t', h => ⟨t, t', rfl, h⟩
  | s :: l, t, t', h => by
    simp only [modP] at h
    obtain ⟨x, e1, e2⟩ := Option.bind_eq_some_iff.mp h
    obtain ⟨y, e3, e4⟩ := Option.bind_eq_some_iff.mp e2
    obtain ⟨d, d', a, b⟩ := modP_get e3
    exact ⟨d, d', by simp only [getP, e1, Option.bind_some, a], b⟩
/-- one of the children exchanged -/
theorem Reps.setAt {w : Wd} {H : Hp} {x : D} {v : V} {G : List Addr} (r : Rep w H x v G) : ∀ {ds : List D} {us : List V} {F : List Addr} (j : Nat), Reps w H ds us F → j < ds.length → ∃ F', Reps w H (ds.set j x) (us.set j v) F' ∧ ∃ R, R.Sublist F ∧ F'.Perm (G ++ R)
  | [], _, _, _, _, h => by simp at h
  | d :: ds, _, _, 0, h, _ => by
    obtain ⟨v', vr, F1, F2, rfl, rfl, h1, h2⟩ := h.uncons
    exact ⟨_, .cons r h2, F2, List.sublist_append_right _ _, List.Perm.refl _⟩
  | d :: ds, _, _, j + 1, h, hj => by
    obtain ⟨v', vr, F1, F2, rfl, rfl, h1, h2⟩ := h.uncons
    obtain ⟨F', a, R, b, c⟩ := Reps.setAt r j h2 (by simpa using hj)
    refine ⟨_, .cons h1 a, F1 ++ R, List.Sublist.append_left b _, ?_⟩
    exact (List.Perm.append_left F1 c).trans (by rw [← List.append_assoc, ← List.append_assoc]; exact List.Perm.append_right R List.perm_append_comm)
/-- what is needed to write at a node -/
theorem nodupG {a : Addr} {Gd Gc F' G R : List Addr} (e : Gd = a :: Gc) (nd : Gd.Nodup) (ng : G.Nodup) (dis : ∀ x ∈ Gd, x ∉ G) (hp : F'.Perm (G ++ R)) (hr : R.Sublist Gc) : (a :: F').Nodup ∧ ∀ x ∈ a :: F', x ∈ Gd ∨ x ∈ G := by
  subst e
  have nd' := List.nodup_cons.mp nd
  refine ⟨List.nodup_cons.mpr ⟨fun q => ?_, hp.nodup_iff.mpr (List.nodup_append.mpr ⟨ng, nd'.2.sublist hr, fun x q y z e => ?_⟩)⟩, fun x q => ?_⟩
  · rcases List.mem_append.mp (hp.mem_iff.mp q) with q | q
    · exact dis a List.mem_cons_self q
    · exact nd'.1 (hr.subset q)
  · subst e
    exact dis x (List.mem_cons_of_mem _ (hr.subset z)) q
  · rcases List.mem_cons.mp q with rfl | q
    · exact .inl List.mem_cons_self
    · rcases List.mem_append.mp (hp.mem_iff.mp q) with q | q
      · exact .inr q
      · exact .inl (List.mem_cons_of_mem _ (hr.subset q))
theorem stays_at {w : Wd} {H : Hp} {a : Addr} {o : HO} {G : List Addr} (hz : ¬ w.Fz a) (hb : ¬ w.B a) (hg : a ∉ G) : Stays w G H (upd H a o) :=
  ⟨fun x q => upd_ne fun e => hg (e ▸ q), fun x q => upd_ne fun e => hz (e ▸ q), fun x q => upd_ne fun e => hb (e ▸ q)⟩
/-- the store of a value at a key of a node -/
theorem set_key {w : Wd} {P : Addr → Prop} {σ : St} {ρ : Mp.Env} {H : Hp} {F Gx : List Addr} {i : Nat} {t t' d0 x : D} {l : List Sel} {key : Key} {v : V} {Q : Hp → Prop} (hc : w.CA = CA) (s : Sim w P σ ρ H F) (g : Given w P F Gx) (r : Rep w H x v Gx) (ht : gI ρ i = some t) (hd : getP l t = some d0)
    (hm : modP (fun y => setS y x (.key key)) l t = some t') :
    ∃ v0 u, σ[i]? = some (some v0) ∧ PathV CA H v0 l u ∧ ((∀ H' F', SPost w P σ H (Gx ++ F) pn (ρ.set i (some t')) σ H' w.Fz [] F' → Q H') → rSetL u (kV key) v H Q ∨ rSetD u (kV key) v H Q) := by
  obtain ⟨v0, u, Gd, h1, h2, h3, nd, inF, nx, k⟩ := write_at (pn := pn) hc s g r.live ht hd
  refine ⟨v0, u, h1, h2, fun kk => ?_⟩
  obtain ⟨d0', d1, e1, e2⟩ := modP_get hm
  rw [hd] at e1
  cases e1
  have e2 : setS d0 x (.key key) = some d1 := e2
  have ngx : Gx.Nodup := (List.nodup_append.mp g.nd).1
  have nb : ∀ {a : Addr}, a ∈ Gd → ¬ w.Fz a ∧ ¬ w.B a := fun q => ⟨(s.dis _ (inF _ q)).1, fun z => (s.dis _ (inF _ q)).2 (s.bp _ z)⟩
  cases d0 with
  | lst f ds =>
    cases f with
    | own =>
      cases key with
      | inl n =>
        have e2' : (ixN ds.length n).map (fun j => D.lst .own (ds.set j x)) = some d1 := e2
        obtain ⟨j, ej, rfl⟩ := Option.map_eq_some_iff.mp e2'
        obtain ⟨a, us, Gc, rfl, eH, eG, rs⟩ := h3.lst_inv
        have eG : Gd = a :: Gc := eG
        have ha : a ∈ Gd := by rw [eG]; exact List.mem_cons_self
        have hac : a ∉ Gc := (List.nodup_cons.mp (eG ▸ nd)).1
        obtain ⟨F', q1, R, q2, q3⟩ := Reps.setAt r j rs (ixN_seq ej).2.1
        have hst : Stays w F' H (upd H a (.lst (us.set j v))) := stays_at (nb ha).1 (nb ha).2 fun z => by
          rcases List.mem_append.mp (q3.mem_iff.mp z) with z | z
          · exact nx a ha z
          · exact hac (q2.subset z)
        obtain ⟨n1, n2⟩ := nodupG eG nd ngx nx q3 q2
        obtain ⟨F2, sp, _⟩ := k (o := .lst (us.set j v)) (f := fun y => setS y x (.key (.inl n))) ha e2 hm (Rep.lst_mk (upd_same) (q1.stays (Wd.Le.refl w) hst)) n2 n1
        exact .inl ⟨a, us, n, j, rfl, rfl, eH, by rw [rs.len]; exact ej, kk _ _ sp⟩
      | inr z => cases e2
    | bor => cases key <;> cases e2
    | frz => cases key <;> cases e2
  | dic f ks ds =>
    cases f with
    | own =>
      have e2' : (if ks.length < lim then some (D.dic .own (putD ks ds key x).1 (putD ks ds key x).2) else none) = some d1 := by cases key <;> exact e2
      split at e2'
      rotate_left
      · cases e2'
      rename_i hlim
      cases e2'
      obtain ⟨a, us, Gc, rfl, ⟨nl, nn⟩, eH, eG, rs⟩ := h3.dic_inv
      rw [if_pos rfl] at eH
      have eG : Gd = a :: Gc := eG
      have ha : a ∈ Gd := by rw [eG]; exact List.mem_cons_self
      have hac : a ∉ Gc := (List.nodup_cons.mp (eG ▸ nd)).1
      obtain ⟨us', p1, p2, p3⟩ := putK_zip key v ks us ds x (by rw [rs.len, nl]) nl nn
      obtain ⟨F', q1, R, q2, q3⟩ := p3 rs r
      have hst : Stays w F' H (upd H a (.dK (putK (ks.zip us) key v))) := stays_at (nb ha).1 (nb ha).2 fun z => by
        rcases List.mem_append.mp (q3.mem_iff.mp z) with z | z
        · exact nx a ha z
        · exact hac (q2.subset z)
      obtain ⟨n1, n2⟩ := nodupG eG nd ngx nx q3 q2
      obtain ⟨F2, sp, _⟩ := k (o := .dK (putK (ks.zip us) key v)) (f := fun y => setS y x (.key key)) ha e2 hm (Rep.dic_mk (by rw [upd_same, p1]) (putD_len _ _ _ _ nl) (putD_nodup _ _ _ _ nl nn).1 (q1.stays (Wd.Le.refl w) hst)) n2 n1
      exact .inr ⟨a, _, rfl, DPut.k eH (by rw [List.length_zip]; exact Nat.lt_of_le_of_lt (Nat.min_le_left _ _) (lim_lt hlim)), kk _ _ sp⟩
    | bor => cases key <;> cases e2
    | frz => cases key <;> cases e2
  | _ => cases key <;> cases e2
/-- a still key of a place, asked for: from the place's reading to the key's -/
theorem g_st (cf : ClsOk X.K CA) (hu : X.A.units + 1 < cLine) {o k : Expr} {i : Nat} {p : MPs} {m : ME} {pos : Pos} (ho : Plc X cl CA o i p) (hk : PE X k (tE cl X.K CA m))
    (ha : ∀ v, assign (.Subscript o k pos) X.env v = (do
      let ov ← holding [v] (eval o X.env)
      let iv ← holding [v, ov] (eval k X.env)
      standAt pos
      holding [v, ov, iv] (setItem ov iv v)
      release [v, ov, iv] []) := by intro _; rfl) : PG X (.Subscript o k pos) (tBd X.K CA pn (bindT cl (.st i p m))) := by
  refine PG.imp (pg_sub (ho.pe cf hu) hk (PSet.or set_list (set_dict hu)) ha) fun v σ H Q ⟨w, P, ρ, F, d, G, ρ', hw, s, r, g, e, kk⟩ => ?_
  simp only [bindT] at e
  split at e
  rotate_left
  · cases e
  rename_i hst
  obtain ⟨l, e1, e⟩ := Option.bind_eq_some_iff.mp e
  obtain ⟨⟨kd, ρ1⟩, e2, e⟩ := Option.bind_eq_some_iff.mp e
  obtain ⟨key, e3, e⟩ := Option.bind_eq_some_iff.mp e
  obtain ⟨t, e4, e⟩ := Option.bind_eq_some_iff.mp e
  obtain ⟨t', e5, rfl⟩ := Option.map_eq_some_iff.mp e
  obtain ⟨d0, d1, e6, e7⟩ := modP_get e5
  obtain ⟨v0, u, h1, h2, _⟩ := set_key (pn := pn) (Q := fun _ => True) (CA := CA) hw.c s g r e4 e6 e5
  have gF : ∀ a ∈ G, a ∉ F := fun a q z => (List.nodup_append.mp g.nd).2.2 a q a z rfl
  have s1 : Sim w (fun a => P a ∨ a ∈ G) σ ρ H F := ⟨s.env, s.nd, fun a q => ⟨(s.dis a q).1, fun z => z.elim (s.dis a q).2 fun z => gF a z q⟩, fun a q => .inl (s.bp a q), fun a q => q.elim (fun q => s.liv a (.inl q)) fun q => q.elim (fun q => s.liv a (.inr q)) (r.live a)⟩
  refine ⟨w, _, ρ, F, l, v0, u, hw, s1, e1, h1, h2, fun H1 Z1 a1 env1 hs1 => ?_⟩
  have s2 : Sim (w.wz Z1) (fun a => P a ∨ a ∈ G) σ ρ H1 F := ⟨env1, a1.nd, fun x q => ⟨(a1.new x q).2, (s1.dis x q).2⟩, s1.bp, fun x q => q.elim (a1.liv x) fun q => a1.keep x (s1.liv x (.inr q))⟩
  refine ⟨w.wz Z1, _, ρ, F, kd, ρ1, ⟨hw.k, hw.c⟩, s2, e2, fun kv H2 Z2 Gk F2 pp => ?_⟩
  obtain ⟨rfl, rfl, hs2⟩ := pp.still hst
  obtain ⟨rfl, rfl⟩ := pp.rep.key e3
  have a2 : Aft Z1 (fun a => P a ∨ a ∈ G) F2 H1 Z2 H2 F2 := by
    have := pp.aft
    cases hp : m.pl <;> rw [hp] at this <;> exact this
  have a3 := a1.comp a2
  have hs3 : ∀ x, H x ≠ none → H2 x = H x := fun x q => (hs2 x (by rw [hs1 x q]; exact q)).trans (hs1 x q)
  have s3 : Sim (w.wz Z2) P σ ρ1 H2 F2 := ⟨pp.env, a3.nd, fun x q => ⟨(a3.new x q).2, (s.dis x q).2⟩, s.bp, fun x q => q.elim (a3.liv x) fun q => a3.keep x (s.liv x (.inr q))⟩
  have g3 : Given (w.wz Z2) P F2 G := ⟨fun a q => ⟨fun z => ?_, (g.n a q).2⟩, g.nd⟩
  have r3 : Rep (w.wz Z2) H2 d v G := r.stays (Wd.Le.wz a3.mono) ⟨fun a q => hs3 a (r.live a q), fun a q => hs3 a (s.liv a (.inl q)), fun a q => hs3 a (s.liv a (.inr (s.bp a q)))⟩
  · obtain ⟨v0', u', h1', h2', k3⟩ := set_key (w := w.wz Z2) (pn := pn) (Q := fun H3 => Q σ H3) (CA := CA) hw.c s3 g3 r3 e4 e6 e5
    rw [h1] at h1'
    cases h1'
    obtain rfl := h2'.det (h2.stays hs3)
    refine k3 fun H' F' sp => kk σ H' Z2 F' ?_
    refine SPost.pre (Z2 := Z2) (H2 := H2) ?_ sp
    exact ⟨fun x q => hs3 x (s.liv x q), a3.mono, a3.grow, a3.liv, a3.new, a3.nd, a3.keep⟩
  · rcases a3.grow a z with z | z | z
    · exact (g.n a q).1 z
    · exact gF a q z
    · exact r.live a q z
end Mp
set_option Elab.async false
set_option linter.all false
set_option maxRecDepth 100000
set_option maxHeartbeats 2000000
/-! # Mp: what is walked -/
namespace Mp
open PySem L2
variable {X : Cx} {cl : Call} {K : PySem.W.Frag} {CA : Nat → Option Addr} {pn : List Nat}

theorem PI.imp {tg e : Expr} {t t' : TI} (h : PI X tg e t) (q : ∀ σ H R, t' σ H R → t σ H R) : PI X tg e t' := ⟨fun pins s σ H R I hw => h.run pins s σ H R I (q σ H R hw)⟩
theorem PI.or {tg e : Expr} {t t' : TI} (h : PI X tg e t) (h' : PI X tg e t') : PI X tg e (fun σ H R => t σ H R ∨ t' σ H R) := ⟨fun pins s σ H R I hw => hw.elim (h.run pins s σ H R I) (h'.run pins s σ H R I)⟩
theorem PS.or {e : Stmt} {t t' : TS} (h : PS X e t) (h' : PS X e t') : PS X e (fun D σ H => t D σ H ∨ t' D σ H) := ⟨fun pins s σ H D I hw => hw.elim (h.run pins s σ H D I) (h'.run pins s σ H D I)⟩
theorem PE.or {e : Expr} {t t' : TE} (h : PE X e t) (h' : PE X e t') : PE X e (fun σ H Q => t σ H Q ∨ t' σ H Q) := ⟨fun pins s σ H Q I hw => hw.elim (h.run pins s σ H Q I) (h'.run pins s σ H Q I)⟩

/-- what an iterator gives: each item stands for its tree while what is frozen and lent stands -/
def YOk (w : Wd) (H' : Hp) (items : List D) (Y : Nat → Hp → V → Hp → Prop) : Prop :=
  ∀ i d H1 x H2 (w1 : Wd), items[i]? = some d → w.Le w1 → (∀ a, w.Fz a ∨ w.B a → H1 a = H' a) → (∀ a, w1.Fz a ∨ w1.B a → H1 a ≠ none) → Y i H1 x H2 →
    ∃ Z, Aft w1.Fz (fun a => H1 a ≠ none) [] H1 Z H2 [] ∧ Rep (w1.wz Z) H2 d x []
structure IPost (w : Wd) (P : Addr → Prop) (σ : St) (ρ : Mp.Env) (H : Hp) (F : List Addr) (still : Bool) (items : List D) (ρ' : Mp.Env) (J : It) (H' : Hp) (Z : Addr → Prop) (F' : List Addr) : Prop where
  aft : Aft w.Fz P F H Z H' F'
  env : REnv (w.wz Z) H' σ ρ' F'
  walk : ∃ Y, Walk J items.length (fun H1 => ∀ a, Z a ∨ w.B a → H1 a = H' a) Y ∧ YOk (w.wz Z) H' items Y
  still : still = true → ρ' = ρ ∧ F' = F ∧ ∀ a, H a ≠ none → H' a = H a
def tI (cl : Call) (K : PySem.W.Frag) (CA : Nat → Option Addr) (it : MI) : TI := fun σ H R =>
  ∃ w P ρ F items ρ', Wd.In w K CA ∧ Sim w P σ ρ H F ∧ evI cl it ρ = some (items, ρ') ∧ ∀ J H' Z F', IPost w P σ ρ H F it.still items ρ' J H' Z F' → R J H'

theorem Reps.nth0 {w : Wd} {H : Hp} : ∀ {ds : List D} {us : List V} {i : Nat} {d : D} {x : V}, Reps w H ds us [] → ds[i]? = some d → us[i]? = some x → Rep w H d x []
  | [], _, _, _, _, _, e, _ => by simp at e
  | d0 :: ds, _, 0, d, x, h, e, e' => by
    obtain ⟨v, vr, F1, F2, rfl, hf, h1, h2⟩ := h.uncons
    obtain ⟨rfl, rfl⟩ : F1 = [] ∧ F2 = [] := by simpa using hf.symm
    simp at e e'
    subst e e'
    exact h1
  | d0 :: ds, _, i + 1, d, x, h, e, e' => by
    obtain ⟨v, vr, F1, F2, rfl, hf, h1, h2⟩ := h.uncons
    obtain ⟨rfl, rfl⟩ : F1 = [] ∧ F2 = [] := by simpa using hf.symm
    exact Reps.nth0 h2 (by simpa using e) (by simpa using e')
theorem aft_self {Fz : Addr → Prop} {H : Hp} (lv : ∀ a, Fz a → H a ≠ none) : Aft Fz (fun a => H a ≠ none) [] H Fz H [] :=
  ⟨fun _ _ => rfl, fun _ h => h, fun _ h => .inl h, lv, fun _ h => (by cases h), List.nodup_nil, fun _ h => h⟩
theorem stays0 {w : Wd} {H H' : Hp} (h : ∀ a, w.Fz a ∨ w.B a → H' a = H a) : Stays w [] H H' := ⟨fun _ q => (by cases q), fun a q => h a (.inl q), fun a q => h a (.inr q)⟩
/-- items of a list of values -/
theorem yok_list {w : Wd} {H' : Hp} {items : List D} {us : List V} (r : Reps w H' items us []) : YOk w H' items (YAt us) := by
  intro i d H1 x H2 w1 e le st lv ⟨e2, e3⟩
  subst e2
  exact ⟨w1.Fz, aft_self fun a q => lv a (.inl q), (r.nth0 e e3).stays le (stays0 st)⟩
theorem yok_fn {w : Wd} {H' : Hp} {items : List D} {f : Nat → V} (r : ∀ i d, items[i]? = some d → ∀ (w : Wd) H, Rep w H d (f i) []) : YOk w H' items (YFn f) := by
  intro i d H1 x H2 w1 e le st lv ⟨e2, e3⟩
  subst e2 e3
  exact ⟨w1.Fz, aft_self fun a q => lv a (.inl q), r i d e w1 _⟩
/-- a new pair -/
theorem y_pair {w1 : Wd} {H1 : Hp} {dx dy : D} {x y : V} {T : Addr} (lv : ∀ a, w1.Fz a ∨ w1.B a → H1 a ≠ none) (hT : H1 T = none) (rx : Rep w1 H1 dx x []) (ry : Rep w1 H1 dy y []) :
    ∃ Z, Aft w1.Fz (fun a => H1 a ≠ none) [] H1 Z (upd H1 T (.tup [x, y])) [] ∧ Rep (w1.wz Z) (upd H1 T (.tup [x, y])) (.tup [dx, dy]) (.ref T) [] := by
  have ne : ∀ a, H1 a ≠ none → upd H1 T (.tup [x, y]) a = H1 a := fun a q => upd_ne fun e => q (e ▸ hT)
  have st : Stays w1 [] H1 (upd H1 T (.tup [x, y])) := stays0 fun a q => ne a (lv a q)
  refine ⟨fun a => w1.Fz a ∨ a = T, ⟨fun a q => ne a (q.elim (fun q => lv a (.inl q)) id), fun a q => .inl q, fun a q => q.elim .inl fun q => .inr (.inr (q ▸ hT)), fun a q => ?_, fun _ h => (by cases h), List.nodup_nil, fun a q => by rw [ne a q]; exact q⟩, ?_⟩
  · rcases q with q | q
    · rw [ne a (lv a (.inl q))]; exact lv a (.inl q)
    · rw [q, upd_same]; simp
  · have le : w1.Le (w1.wz fun a => w1.Fz a ∨ a = T) := Wd.Le.wz fun a q => .inl q
    exact Rep.tup_mk (.inr rfl) upd_same (.cons (F := []) (G := []) (rx.stays le st) (.cons (F := []) (G := []) (ry.stays le st) .nil))

theorem Rep.sh_eq {w : Wd} {H : Hp} {d : D} {v : V} {G : List Addr} {pl : Bool} (r : Rep w H d v G) (h : pl = true → d.sh = true) : (if pl then [] else G) = G := by
  cases pl with
  | false => rfl
  | true => rw [r.sh (h rfl)]; rfl
/-- what is walked, frozen as a whole -/
theorem seq_post {w : Wd} {P : Addr → Prop} {σ : St} {ρ ρ' : Mp.Env} {H H' : Hp} {F F' G : List Addr} {pl st : Bool} {d : D} {v : V} {Z : Addr → Prop} (p : EPost w P σ ρ H F pl st d ρ' v H' Z G F') (hs : pl = true → d.sh = true) :
    ∃ Z2, Aft w.Fz P F H Z2 H' F' ∧ REnv (w.wz Z2) H' σ ρ' F' ∧ Rep (w.wz Z2) H' d.fz v [] ∧ (st = true → ρ' = ρ ∧ F' = F ∧ ∀ a, H a ≠ none → H' a = H a) := by
  have a1 := p.own hs
  refine ⟨fun x => Z x ∨ x ∈ G, a1.frz p.rep.live, ?_, p.rep.fz (w := w.wz Z) (Z := fun x => Z x ∨ x ∈ G) (fun _ h => .inl h) fun a q => .inr q, p.still⟩
  exact REnv.stays (w := w.wz Z) (w' := w.wz fun x => Z x ∨ x ∈ G) ⟨rfl, rfl, fun _ h => .inl h, fun _ h => h⟩ p.env ⟨fun _ _ => rfl, fun _ _ => rfl, fun _ _ => rfl⟩
theorem fz_lst {w : Wd} {H : Hp} {f : Fl} {ds : List D} {v : V} (r : Rep w H (D.lst f ds).fz v []) : ∃ a us, v = .ref a ∧ H a = some (.lst us) ∧ (w.Fz a ∨ w.B a) ∧ Reps w H (fzs ds) us [] := by
  have r : Rep w H (.lst f.fz (fzs ds)) v [] := by unfold D.fz at r; exact r
  obtain ⟨a, us, G, rfl, e, t, rs⟩ := r.lst_inv
  cases f with
  | own => obtain ⟨z, rfl, _⟩ := t; exact ⟨a, us, rfl, e, .inl z, rs⟩
  | frz => obtain ⟨z, rfl, _⟩ := t; exact ⟨a, us, rfl, e, .inl z, rs⟩
  | bor => obtain ⟨z, rfl, _⟩ := t; exact ⟨a, us, rfl, e, .inr z, rs⟩
theorem fzs_len (ds : List D) : (fzs ds).length = ds.length := by rw [fzs_eq]; simp
theorem strs_items (z : Str) : ∀ (i : Nat) (d : D), (z.cps.toList.map fun c => D.str ⟨#[c]⟩)[i]? = some d → ∃ c, z.cps[i]? = some c ∧ d = .str ⟨#[c]⟩ := by
  intro i d e
  rw [List.getElem?_map] at e
  obtain ⟨c, e1, rfl⟩ := Option.map_eq_some_iff.mp e
  exact ⟨c, by rw [← e1, Array.getElem?_toList], rfl⟩
def MI.nodic : Mp.D → Bool
  | .dic _ _ _ => false
  | _ => true
/-- lists, tuples, texts -/
theorem i_seq {tg e : Expr} {m : ME} (h : PE X e (tE cl X.K CA m)) : PI X tg e (fun σ H R => ∃ w P ρ F d items ρ', Wd.In w X.K CA ∧ Sim w P σ ρ H F ∧ ev cl m ρ = some (d, ρ') ∧ MI.nodic d = true ∧ itemsOf m.pl d = some items ∧ ∀ J H' Z F', IPost w P σ ρ H F m.still items ρ' J H' Z F' → R J H') := by
  refine PI.imp (PI.or (PI.or (pi_list h) (pi_tup h)) (pi_str h)) fun σ H R ⟨w, P, ρ, F, d, items, ρ', hw, s, e, hn, ei, k⟩ => ?_
  cases d with
  | lst f ds =>
    simp only [itemsOf] at ei
    split at ei
    · cases ei
    rename_i hc
    cases ei
    have hs : m.pl = true → (D.lst f ds).sh = true := fun q => by rw [q] at hc; simpa [D.sh] using hc
    refine .inl (.inl ⟨w, P, ρ, F, _, ρ', hw, s, e, fun v H1 Z1 G F1 p => ?_⟩)
    obtain ⟨Z2, a2, e2, r2, st2⟩ := seq_post p hs
    obtain ⟨a, us, rfl, eH, za, rs⟩ := fz_lst r2
    refine ⟨a, rfl, ⟨us, SqL.of eH⟩, k _ H1 Z2 F1 ⟨a2, e2, ⟨YAt us, ?_, yok_list rs⟩, st2⟩⟩
    rw [← rs.len]
    exact walk_list.mono (fun H2 q => SqL.of (by rw [q a za]; exact eH)) fun _ _ _ _ _ _ q => q
  | tup ds =>
    simp only [itemsOf] at ei
    split at ei
    · cases ei
    rename_i hc
    cases ei
    have hs : m.pl = true → (D.tup ds).sh = true := fun q => by rw [q] at hc; simpa [D.sh] using hc
    refine .inl (.inr ⟨w, P, ρ, F, _, ρ', hw, s, e, fun v H1 Z1 G F1 p => ?_⟩)
    obtain ⟨Z2, a2, e2, r2, st2⟩ := seq_post p hs
    have r2 : Rep (w.wz Z2) H1 (.tup (fzs ds)) v [] := by unfold D.fz at r2; exact r2
    obtain ⟨a, us, rfl, za, eH, rs⟩ := r2.tup_inv
    refine ⟨a, rfl, ⟨us, SqT.of eH⟩, k _ H1 Z2 F1 ⟨a2, e2, ⟨YAt us, ?_, yok_list rs⟩, st2⟩⟩
    rw [← rs.len]
    exact walk_tup.mono (fun H2 q => SqT.of (by rw [q a (.inl za)]; exact eH)) fun _ _ _ _ _ _ q => q
  | str z =>
    simp only [itemsOf, Option.some.injEq] at ei
    subst ei
    refine .inr ⟨w, P, ρ, F, _, ρ', hw, s, e, fun v H1 Z1 G F1 p => ?_⟩
    obtain ⟨Z2, a2, e2, r2, st2⟩ := seq_post p fun _ => rfl
    have r2 : Rep (w.wz Z2) H1 (.str z) v [] := by unfold D.fz at r2; exact r2
    obtain ⟨rfl, _⟩ := r2.str_inv
    refine ⟨z, rfl, k _ H1 Z2 F1 ⟨a2, e2, ⟨(fun i H v H' => H' = H ∧ ∃ c, z.cps[i]? = some c ∧ v = .str ⟨#[c]⟩), ?_, fun i d H2 x H3 w1 e1 le st lv y => ?_⟩, st2⟩⟩
    · have hl : (z.cps.toList.map fun c => D.str ⟨#[c]⟩).length = z.cps.size := by simp
      rw [hl]
      exact walk_str.mono (fun _ _ => trivial) fun _ _ _ _ _ _ q => q
    · obtain ⟨rfl, c, ec, rfl⟩ := y
      obtain ⟨c', ec', rfl⟩ := strs_items z i d e1
      rw [ec] at ec'
      cases ec'
      exact ⟨w1.Fz, aft_self fun a q => lv a (.inl q), .str_mk⟩
  | dic f ks ds => simp [MI.nodic] at hn
  | _ => simp [itemsOf] at ei

theorem r_iseq {tg e : Expr} {m : ME} (h : PE X e (tE cl X.K CA m)) : PI X tg e (tI cl X.K CA (.seq m)) :=
  PI.imp (i_seq h) fun σ H R ⟨w, P, ρ, F, items, ρ', hw, s, e, k⟩ => by
    simp only [evI] at e
    obtain ⟨⟨d, ρ1⟩, e1, e2⟩ := Option.bind_eq_some_iff.mp e
    obtain ⟨l, e3, e4⟩ := Option.map_eq_some_iff.mp e2
    simp only [Prod.mk.injEq] at e4
    obtain ⟨rfl, rfl⟩ := e4
    exact ⟨w, P, ρ, F, d, l, ρ1, hw, s, e1, by cases d <;> first | rfl | simp [itemsOf] at e3, e3, k⟩

/-! ### ranges -/
theorem nums_len (a : Int) (n : Nat) : (nums a n).length = n := by simp [nums]
theorem nums_at {a : Int} {n i : Nat} {d : D} (h : (nums a n)[i]? = some d) : d = .int (a + (i : Int)) := by
  unfold nums at h
  rw [List.getElem?_map] at h
  obtain ⟨k, e1, rfl⟩ := Option.map_eq_some_iff.mp h
  rw [List.getElem?_range (by have := (List.getElem?_eq_some_iff.mp e1).1; simpa using this)] at e1
  cases e1
  rfl
theorem small_b {i : Int} (h : small i = true) : -(2 ^ 62) ≤ i ∧ i < 2 ^ 62 := by
  unfold small at h
  simp at h
  omega
section
variable {tg e1 e2 e3 : Expr} {a b c : ME} {p pos : Pos}
theorem int_rep {w : Wd} {H : Hp} {i : Int} {vs : List V} {Gs : List (List Addr)} (r : RepL w H [.int i] vs Gs) : vs = [.int i] ∧ Gs = [[]] := by
  obtain ⟨x, F, rfl, rfl, r1⟩ := r.one'
  obtain ⟨rfl, rfl⟩ := r1.int_inv
  exact ⟨rfl, rfl⟩
theorem int_rep2 {w : Wd} {H : Hp} {i j : Int} {vs : List V} {Gs : List (List Addr)} (r : RepL w H [.int i, .int j] vs Gs) : vs = [.int i, .int j] ∧ Gs = [[], []] := by
  obtain ⟨x, y, F, G, rfl, rfl, r1, r2⟩ := r.two'
  obtain ⟨rfl, rfl⟩ := r1.int_inv
  obtain ⟨rfl, rfl⟩ := r2.int_inv
  exact ⟨rfl, rfl⟩
theorem int_rep3 {w : Wd} {H : Hp} {i j l : Int} {vs : List V} {Gs : List (List Addr)} (r : RepL w H [.int i, .int j, .int l] vs Gs) : vs = [.int i, .int j, .int l] ∧ Gs = [[], [], []] := by
  obtain ⟨x, y, z, F, G, G', rfl, rfl, r1, r2, r3⟩ := r.three'
  obtain ⟨rfl, rfl⟩ := r1.int_inv
  obtain ⟨rfl, rfl⟩ := r2.int_inv
  obtain ⟨rfl, rfl⟩ := r3.int_inv
  exact ⟨rfl, rfl⟩
theorem owned0 (b : Bool) : (if b = true then ([] : List Addr) else []) = [] := by cases b <;> rfl
theorem rng_post {w : Wd} {P : Addr → Prop} {σ : St} {ρ ρ' : Mp.Env} {H H' : Hp} {F F' : List Addr} {st st' : Bool} {i : Int} {n : Nat} {Z : Addr → Prop} {ms : MEs} {ds : List D} {vs : List V} {Gs : List (List Addr)} (p : LPost w P σ ρ H F ms.pls st ds ρ' vs H' Z Gs F') (ho : owned ms.pls Gs = []) (hst : st' = true → st = true) :
    IPost w P σ ρ H F st' (nums i n) ρ' (Itr i n) H' Z F' := by
  refine ⟨by have := p.aft; rw [ho] at this; exact this, p.env, ⟨YFn fun k => .int (i + k), ?_, yok_fn (f := fun k => .int (i + k)) fun k d e w' H2 => ?_⟩, fun q => p.still (hst q)⟩
  · rw [nums_len]
    exact walk_range.mono (fun _ _ => trivial) fun _ _ _ _ _ _ q => q
  · rw [nums_at e]
    exact .int_mk
theorem i_rng1 (hg : Gl X "range") (hm : X.mg "range" = none) (h : PE X e1 (tE cl X.K CA b)) (hs : noStar e1 = true) : PI X tg (.Call (.Name "range" p) [e1] [] pos) (tI cl X.K CA (.rng (.ki 0) b)) := by
  refine PI.imp (pi_range1 hg hm ((Opds.one h hs).pa fun _ => True) (by rw [starE hs]; rfl)) fun σ H R ⟨w, P, ρ, F, items, ρ', hw, s, e, k⟩ => ?_
  simp only [evI, ev, Option.bind_some] at e
  obtain ⟨⟨d, ρ1⟩, e1, e⟩ := Option.bind_eq_some_iff.mp e
  cases d with
  | int j =>
    simp only [] at e
    split at e
    · rename_i hb
      cases e
      simp only [Bool.and_eq_true] at hb
      refine ⟨w, P, ρ, F, [.int j], ρ', hw, s, by simp only [evPs, e1, Option.bind_some]; simp [D.sh], trivial, fun vs H1 Z Gs F1 p => ?_⟩
      obtain ⟨rfl, rfl⟩ := int_rep p.rep
      refine ⟨j, rfl, (small_b hb.2).1, (small_b hb.2).2, k _ H1 Z F1 ?_⟩
      rw [show j - 0 = j by omega]
      exact rng_post p (by simp [owned, MEs.pls, owned0]) (by simp [MI.still, MEs.still, ME.still])
    · cases e
  | _ => simp at e
theorem i_rng2 (hg : Gl X "range") (hm : X.mg "range" = none) (h : PE X e1 (tE cl X.K CA a)) (hs : noStar e1 = true) (h' : PE X e2 (tE cl X.K CA b)) (hs' : noStar e2 = true) : PI X tg (.Call (.Name "range" p) [e1, e2] [] pos) (tI cl X.K CA (.rng a b)) := by
  refine PI.imp (pi_range2 hg hm ((Opds.cons h hs (Opds.one h' hs')).pa fun _ => True) (by rw [starE hs, starE hs']; rfl) (by rw [starE hs']; rfl)) fun σ H R ⟨w, P, ρ, F, items, ρ', hw, s, e, k⟩ => ?_
  simp only [evI] at e
  obtain ⟨⟨d1, ρ1⟩, e1, e⟩ := Option.bind_eq_some_iff.mp e
  obtain ⟨⟨d2, ρ2⟩, e2, e⟩ := Option.bind_eq_some_iff.mp e
  cases d1 with
  | int i =>
    cases d2 with
    | int j =>
      simp only [] at e
      split at e
      · rename_i hb
        cases e
        simp only [Bool.and_eq_true] at hb
        refine ⟨w, P, ρ, F, [.int i, .int j], ρ', hw, s, by simp only [evPs, e1, e2, Option.bind_some]; simp [D.sh], trivial, fun vs H1 Z Gs F1 p => ?_⟩
        obtain ⟨rfl, rfl⟩ := int_rep2 p.rep
        refine ⟨i, j, rfl, ⟨(small_b hb.1).1, (small_b hb.1).2, (small_b hb.2).1, (small_b hb.2).2⟩, k _ H1 Z F1 ?_⟩
        exact rng_post p (by simp [owned, MEs.pls, owned0]) (by simp [MI.still, MEs.still, ME.still])
      · cases e
    | _ => simp at e
  | _ => simp at e
theorem i_rng3 (hg : Gl X "range") (hm : X.mg "range" = none) (h : PE X e1 (tE cl X.K CA a)) (hs : noStar e1 = true) (h' : PE X e2 (tE cl X.K CA b)) (hs' : noStar e2 = true) (h2 : PE X e3 (tE cl X.K CA c)) (hs2 : noStar e3 = true) : PI X tg (.Call (.Name "range" p) [e1, e2, e3] [] pos) (tI cl X.K CA (.rng3 a b c)) := by
  refine PI.imp (pi_range3 hg hm ((Opds.cons h hs (Opds.cons h' hs' (Opds.one h2 hs2))).pa fun _ => True) (by rw [starE hs]) (Opds.noS (Opds.cons h' hs' (Opds.one h2 hs2)))) fun σ H R ⟨w, P, ρ, F, items, ρ', hw, s, e, k⟩ => ?_
  simp only [evI] at e
  obtain ⟨⟨d1, ρ1⟩, e1, e⟩ := Option.bind_eq_some_iff.mp e
  obtain ⟨⟨d2, ρ2⟩, e2, e⟩ := Option.bind_eq_some_iff.mp e
  obtain ⟨⟨d3, ρ3⟩, e3, e⟩ := Option.bind_eq_some_iff.mp e
  cases d1 with
  | int i =>
    cases d2 with
    | int j =>
      cases d3 with
      | int l =>
        simp only [] at e
        split at e
        · rename_i hb
          cases e
          simp only [Bool.and_eq_true, decide_eq_true_eq] at hb
          obtain ⟨⟨b1, b2⟩, rfl⟩ := hb
          refine ⟨w, P, ρ, F, [.int i, .int j, .int (-1)], ρ', hw, s, by simp only [evPs, e1, e2, e3, Option.bind_some]; simp [D.sh], trivial, fun vs H1 Z Gs F1 p => ?_⟩
          obtain ⟨rfl, rfl⟩ := int_rep3 p.rep
          refine ⟨i, j, -1, (i - j).toNat, rfl, RgC.neg (small_b b1).1 (small_b b1).2 (small_b b2).1 (small_b b2).2, k _ H1 Z F1 ?_⟩
          refine ⟨by have := p.aft; simpa [owned, MEs.pls, owned0] using this, p.env, ⟨YFn fun k => .int (i + (k : Int) * -1), ?_, yok_fn (f := fun k => .int (i + (k : Int) * -1)) fun k d e w' H2 => ?_⟩, fun q => p.still (by simpa [MI.still, MEs.still, ME.still, Bool.and_assoc] using q)⟩
          · rw [List.length_map, List.length_range]
            exact walk_rangeC.mono (fun _ _ => trivial) fun _ _ _ _ _ _ q => q
          · rw [List.getElem?_map] at e
            obtain ⟨k', q1, rfl⟩ := Option.map_eq_some_iff.mp e
            rw [List.getElem?_range (by have := (List.getElem?_eq_some_iff.mp q1).1; simpa using this)] at q1
            cases q1
            have : i + (k : Int) * -1 = i - (k : Int) := by omega
            rw [this]
            exact .int_mk
        · cases e
      | _ => simp at e
    | _ => simp at e
  | _ => simp at e
end
end Mp
set_option Elab.async false
set_option linter.all false
set_option maxRecDepth 100000
set_option maxHeartbeats 2000000
/-! # Mp: for -/
namespace Mp
open PySem L2
variable {X : Cx} {cl : Call} {K : PySem.W.Frag} {CA : Nat → Option Addr} {pn : List Nat}

/-- the state with something new beside it -/
theorem Sim.ext {w : Wd} {P : Addr → Prop} {σ : St} {ρ : Mp.Env} {H H2 : Hp} {F : List Addr} {Z : Addr → Prop} (s : Sim w P σ ρ H F) (a : Aft w.Fz (fun a => H a ≠ none) [] H Z H2 []) : SPost w P σ H F pn ρ σ H2 Z [] F := by
  have lv : ∀ x ∈ F, H x ≠ none := s.env.live
  have st : ∀ x, H x ≠ none → H2 x = H x := fun x q => a.fr x (.inr q)
  refine ⟨⟨fun x q => st x (s.liv x q), a.mono, fun x q => (a.grow x q).imp id fun q => q.imp (fun q => by cases q) id, a.liv, fun x q => ⟨.inl q, fun z => ?_⟩, s.nd, a.keep⟩, s.env.stays (Wd.Le.wz a.mono) ⟨fun x q => st x (lv x q), fun x q => st x (s.liv x (.inl q)), fun x q => st x (s.liv x (.inr (s.bp x q)))⟩, fun _ _ => rfl⟩
  rcases a.grow x z with z | z | z
  · exact (s.dis x q).1 z
  · cases z
  · exact lv x q z
/-- one turn of a loop by the interpreter -/
theorem forL_cons {f : D → Mp.Env → Option Fw} {d : D} {ds : List D} {ρ : Mp.Env} {fw : Fw} (h : forL f (d :: ds) ρ = some fw) :
    ∃ fw1, f d ρ = some fw1 ∧ ((∃ ρ', (fw1 = .nx ρ' ∨ fw1 = .ct ρ') ∧ forL f ds ρ' = some fw) ∨ (∃ ρ', fw1 = .bk ρ' ∧ fw = .nx ρ') ∨ ∃ d ρ', fw1 = .rt d ρ' ∧ fw = .rt d ρ') := by
  simp only [forL] at h
  split at h
  · exact ⟨_, by assumption, .inl ⟨_, .inl rfl, h⟩⟩
  · exact ⟨_, by assumption, .inl ⟨_, .inr rfl, h⟩⟩
  · cases h; exact ⟨_, by assumption, .inr (.inl ⟨_, rfl, rfl⟩)⟩
  · rename_i n1 n2 n3
    cases fw with
    | nx ρ' => exact absurd h (n1 ρ')
    | ct ρ' => exact absurd h (n2 ρ')
    | bk ρ' => exact absurd h (n3 ρ')
    | rt d ρ' => exact ⟨_, h, .inr (.inr ⟨d, ρ', rfl, rfl⟩)⟩
theorem drop_cons {α : Type} {l : List α} {i : Nat} (h : i < l.length) : ∃ d, l[i]? = some d ∧ l.drop i = d :: l.drop (i + 1) := ⟨l[i], by simp [h], (List.drop_eq_getElem_cons h)⟩
theorem given_nil {w : Wd} {P : Addr → Prop} {F : List Addr} (h : F.Nodup) : Given w P F [] := ⟨fun _ q => (by cases q), by simpa using h⟩
/-- the loop's body by turns; J and what it walks being there -/
theorem for_core {t : MT} {f : Mp.Env → Option Fw} {g : TG} {tb : TS} {D : Ends} {w : Wd} {P : Addr → Prop} {σ : St} {ρ1 : Mp.Env} {H H1 : Hp} {F F1 : List Addr} {Z1 : Addr → Prop} {items : List Mp.D} {J : It} {fw : Fw} (hw : Wd.In w K CA) (s : Sim w P σ ρ1 H1 F1 → True)
    (hg : ∀ v σ H Q, tBd K CA pn (bindT cl t) v σ H Q → g v σ H Q) (hb : ∀ D σ H, tX K CA pn f D σ H → tb D σ H) (s0 : ∃ ρ0, Sim w P σ ρ0 H F) (p0 : SPost w P σ H F pn ρ1 σ H1 Z1 [] F1)
    (wk : ∃ Y, Walk J items.length (fun H2 => ∀ a, Z1 a ∨ w.B a → H2 a = H1 a) Y ∧ YOk (w.wz Z1) H1 items Y) (e : forL (fun x ρ' => (bindT cl t x ρ').bind f) items ρ1 = some fw) (k : byF D w P σ H F pn fw) :
    ∃ W : Nat → Nat → St → Hp → Prop, (∃ m, W 0 m σ H1) ∧ ∀ i m σ H, W i m σ H →
      (J.stop i H ∧ D.nx σ H) ∨ (J.go i H ∧ ∃ N : St → Hp → Prop, (∀ σ' H', N σ' H' → ∃ m', m' < m ∧ W (i + 1) m' σ' H') ∧ ∀ x H', J.yld i H x H' → g x σ H' fun σ2 H2 => tb { D with nx := N, ct := N, bk := D.nx } σ2 H2) := by
  obtain ⟨Y, wk, yk⟩ := wk
  obtain ⟨ρ0, s0⟩ := s0
  refine for_it wk (fun i σ' H' => ∃ Z' ρ' F', SPost w P σ H F pn ρ' σ' H' Z' [] F' ∧ (∀ a, Z1 a → Z' a) ∧ (∀ a, Z1 a ∨ w.B a → H' a = H1 a) ∧ forL (fun x ρ' => (bindT cl t x ρ').bind f) (items.drop i) ρ' = some fw)
    ⟨Z1, ρ1, F1, p0, fun _ h => h, fun _ _ => rfl, by simpa using e⟩ (fun i σ' H' _ ⟨Z', ρ', F', _, _, q, _⟩ => q) (fun i x σ' H' H'' hi ⟨Z', ρ', F', p, hz, hst, hf⟩ y => ?_) fun σ' H' ⟨Z', ρ', F', p, hz, hst, hf⟩ => ?_
  · obtain ⟨d, hd, edrop⟩ := drop_cons hi
    rw [edrop] at hf
    obtain ⟨fw1, ef, alt⟩ := forL_cons hf
    obtain ⟨ρ2, eb, ebody⟩ := Option.bind_eq_some_iff.mp ef
    have s1 := p.sim s0
    obtain ⟨Z2, a2, r2⟩ := yk i d H' x H'' (w.wz Z') hd ⟨rfl, rfl, hz, fun _ h => h⟩ hst (fun a q => q.elim (fun q => s1.liv a (.inl q)) fun q => s1.liv a (.inr (s1.bp a q))) y
    have sp2 : SPost (w.wz Z') P σ' H' F' pn ρ' σ' H'' Z2 [] F' := s1.ext a2
    have p2 : SPost w P σ H F pn ρ' σ' H'' Z2 [] F' := p.trans sp2
    have s2 : Sim (w.wz Z2) P σ' ρ' H'' F' := p2.sim s0
    refine hg _ _ _ _ ⟨w.wz Z2, P, ρ', F', d, [], ρ2, ⟨hw.k, hw.c⟩, s2, r2, given_nil s2.nd, eb, fun σ2 H2 Z3 F3 sp3 => hb _ _ _ ?_⟩
    have p3 : SPost w P σ H F pn ρ2 σ2 H2 Z3 [] F3 := p2.trans sp3
    refine ⟨w.wz Z3, P, ρ2, F3, fw1, ⟨hw.k, hw.c⟩, p3.sim s0, ebody, ?_⟩
    have next : ∀ {σ4 : St} {H4 : Hp} {Z4 : Addr → Prop} {F4 : List Addr} {ρ4 : Mp.Env}, SPost (w.wz Z3) P σ2 H2 F3 pn ρ4 σ4 H4 Z4 [] F4 → forL (fun x ρ' => (bindT cl t x ρ').bind f) (items.drop (i + 1)) ρ4 = some fw →
        ∃ Z' ρ' F', SPost w P σ H F pn ρ' σ4 H4 Z' [] F' ∧ (∀ a, Z1 a → Z' a) ∧ (∀ a, Z1 a ∨ w.B a → H4 a = H1 a) ∧ forL (fun x ρ' => (bindT cl t x ρ').bind f) (items.drop (i + 1)) ρ' = some fw := fun {σ4 H4 Z4 F4 ρ4} p4 ef => by
      refine ⟨Z4, ρ4, F4, p3.trans p4, fun a q => p4.aft.mono a (sp3.aft.mono a (a2.mono a (hz a q))), fun a q => ?_, ef⟩
      have q1 : (w.wz Z').Fz a ∨ P a := q.elim (fun q => .inl (hz a q)) fun q => .inr (s1.bp a q)
      have q2 : Z2 a ∨ P a := q1.imp (a2.mono a) id
      have q3 : Z3 a ∨ P a := q2.imp (sp3.aft.mono a) id
      exact (p4.aft.fr a q3).trans ((sp3.aft.fr a q2).trans ((sp2.aft.fr a q1).trans (hst a q)))
    rcases alt with ⟨ρ', h1, h2⟩ | ⟨ρ', rfl, rfl⟩ | ⟨d', ρ', rfl, rfl⟩
    · rcases h1 with rfl | rfl
      · exact fun σ4 H4 Z4 F4 p4 => next p4 h2
      · exact fun σ4 H4 Z4 F4 p4 => next p4 h2
    · exact fun σ4 H4 Z4 F4 p4 => k σ4 H4 Z4 F4 (p3.trans p4)
    · exact fun v σ4 H4 Z4 G4 F4 p4 r4 => k v σ4 H4 Z4 G4 F4 (p3.trans p4) r4
  · rw [List.drop_length] at hf
    simp only [forL, Option.some.injEq] at hf
    subst hf
    exact k σ' H' Z' F' p
theorem s_for {tg it : Expr} {b : List Stmt} {t : MT} {mi : MI} {ms : MSs} {pos : Pos} (hx : X.xe = fun _ _ => False) (hc : X.calm = true) (hi : PI X tg it (tI cl X.K CA mi)) (hg : PG X tg (tBd X.K CA pn (bindT cl t))) (hb : PSs X b (tX X.K CA pn (xss cl ms)))
    (hs : ∀ x, foldedSetIterable it X.env x = pure x) : PS X (.For tg it b [] pos) (tX X.K CA pn (xs cl (.for_ t mi ms))) := by
  have hp : PassesOwn (model X.prog X.w) X.A X.env X.xe := by rw [hx]; exact PassesOwn.never
  refine PS.imp (ps_for hp hc hi hg hb hs) fun D σ H ⟨w, P, ρ, F, fw, hw, s, e, k⟩ => ?_
  simp only [xs] at e
  obtain ⟨⟨items, ρ1⟩, e1, e2⟩ := Option.bind_eq_some_iff.mp e
  refine ⟨w, P, ρ, F, items, ρ1, hw, s, e1, fun J H1 Z1 F1 p => ?_⟩
  exact for_core hw (fun _ => trivial) (fun _ _ _ _ q => q) (fun _ _ _ q => q) ⟨ρ, s⟩ ⟨p.aft, p.env, fun _ _ => rfl⟩ p.walk e2 k
end Mp
set_option Elab.async false
set_option linter.all false
set_option maxRecDepth 100000
set_option maxHeartbeats 2000000
/-! # Mp: targets that are names; wiped names -/
namespace Mp
open PySem L2
variable {X : Cx} {cl : Call} {K : PySem.W.Frag} {CA : Nat → Option Addr} {pn : List Nat}

/-- a target of names: the heap stays -/
def tBn (K : PySem.W.Frag) (CA : Nat → Option Addr) (pn : List Nat) (f : D → Mp.Env → Option Mp.Env) : TG := fun v σ H Q =>
  ∃ w P ρ F d G ρ', Wd.In w K CA ∧ Sim w P σ ρ H F ∧ Rep w H d v G ∧ Given w P F G ∧ f d ρ = some ρ' ∧ ∀ σ' F', SPost w P σ H (G ++ F) pn ρ' σ' H w.Fz [] F' → Q σ' H
def tBns (K : PySem.W.Frag) (CA : Nat → Option Addr) (pn : List Nat) (f : List D → Mp.Env → Option Mp.Env) : TGs := fun vs σ H Q =>
  ∃ w P ρ F ds G ρ', Wd.In w K CA ∧ Sim w P σ ρ H F ∧ Reps w H ds vs G ∧ Given w P F G ∧ f ds ρ = some ρ' ∧ ∀ σ' F', SPost w P σ H (G ++ F) pn ρ' σ' H w.Fz [] F' → Q σ' H
theorem n_bd {e : Expr} {f : D → Mp.Env → Option Mp.Env} (h : PG X e (tBn K CA pn f)) : PG X e (tBd K CA pn f) :=
  PG.imp h fun v σ H Q ⟨w, P, ρ, F, d, G, ρ', hw, s, r, g, e, k⟩ => ⟨w, P, ρ, F, d, G, ρ', hw, s, r, g, e, fun σ' F' p => k σ' H w.Fz F' p⟩
theorem n_nm {i : Nat} {x : Str} {pos : Pos} (hN : X.N.Nodup) (hi : X.N[i]? = some x) (hx : Loc X.env.scope x) (hf : X.fn x = true ∨ X.env.scope.names.lookup x = some .local) (hp : i ∉ pn) : PG X (.Name x pos) (tBn X.K CA pn (bindT cl (.nm i))) := by
  refine PG.imp (pg_name hN hi hx hf) fun v σ H Q ⟨w, P, ρ, F, d, G, ρ', hw, s, r, g, e, k⟩ => ?_
  simp only [bindT, Option.some.injEq] at e
  subst e
  obtain ⟨F', p⟩ := store_name s r g hp
  exact k _ _ p
theorem ns_nil : PGs X [] (tBns X.K CA pn (bindTs cl .nil)) := by
  refine PGs.imp pgs_nil fun vs σ H Q ⟨w, P, ρ, F, ds, G, ρ', hw, s, r, g, e, k⟩ => ?_
  cases ds with
  | nil =>
    obtain ⟨rfl, rfl⟩ := r.unnil
    simp only [bindTs, Option.some.injEq] at e
    subst e
    exact ⟨rfl, k σ F (.refl s)⟩
  | cons d ds => simp [bindTs] at e
theorem ns_cons {e : Expr} {es : List Expr} {t : MT} {ts : MTs} (hs : noStar e = true) (h : PG X e (tBn X.K CA pn (bindT cl t))) (h' : PGs X es (tBns X.K CA pn (bindTs cl ts))) : PGs X (e :: es) (tBns X.K CA pn (bindTs cl (.cons t ts))) := by
  refine PGs.imp (pgs_cons h h' (by rw [assignE hs]; rfl)) fun vs σ H Q ⟨w, P, ρ, F, ds, G, ρ', hw, s, r, g, e, k⟩ => ?_
  cases ds with
  | nil => simp [bindTs] at e
  | cons d ds =>
    obtain ⟨v, vr, G1, G2, rfl, rfl, r1, r2⟩ := r.uncons
    simp only [bindTs] at e
    obtain ⟨ρ1, e1, e2⟩ := Option.bind_eq_some_iff.mp e
    have nd := g.nd
    rw [List.append_assoc] at nd
    have nd2 := (List.nodup_append.mp nd).2.1
    have n1 : ∀ a ∈ G1, a ∉ G2 ∧ a ∉ F := fun a q => ⟨fun z => (List.nodup_append.mp nd).2.2 a q a (List.mem_append_left _ z) rfl, fun z => (List.nodup_append.mp nd).2.2 a q a (List.mem_append_right _ z) rfl⟩
    have n2 : ∀ a ∈ G2, a ∉ F := fun a q z => (List.nodup_append.mp nd2).2.2 a q a z rfl
    have s1 : Sim w (fun a => P a ∨ a ∈ G2) σ ρ H F := ⟨s.env, s.nd, fun a q => ⟨(s.dis a q).1, fun z => z.elim (s.dis a q).2 fun z => n2 a z q⟩, fun a q => .inl (s.bp a q), fun a q => q.elim (fun q => s.liv a (.inl q)) fun q => q.elim (fun q => s.liv a (.inr q)) (r2.live a)⟩
    refine ⟨v, vr, rfl, w, _, ρ, F, d, G1, ρ1, hw, s1, r1, ⟨fun a q => ⟨(g.n a (List.mem_append_left _ q)).1, fun z => z.elim (g.n a (List.mem_append_left _ q)).2 (n1 a q).1⟩, ?_⟩, e1, fun σ1 F1 p => ?_⟩
    · exact List.nodup_append.mpr ⟨(List.nodup_append.mp nd).1, s.nd, fun a q b z e => by subst e; exact (n1 a q).2 z⟩
    have af : Aft w.Fz (fun a => P a ∨ a ∈ G2) (G1 ++ F) H w.Fz H F1 := p.aft
    have lv1 : ∀ a ∈ F1, H a ≠ none := p.env.live
    have inF1 : ∀ a ∈ F1, a ∈ G1 ++ F := fun a q => (af.new a q).1.elim id fun z => absurd z (lv1 a q)
    have f1 : ∀ a ∈ F1, a ∉ G2 := fun a q z => (List.mem_append.mp (inF1 a q)).elim (fun y => (n1 a y).1 z) fun y => n2 a z y
    have s2 : Sim w P σ1 ρ1 H F1 := ⟨p.env, af.nd, fun a q => ⟨(af.new a q).2, fun z => (List.mem_append.mp (inF1 a q)).elim (fun y => (g.n a (List.mem_append_left _ y)).2 z) fun y => (s.dis a y).2 z⟩, s.bp, s.liv⟩
    refine ⟨w, P, ρ1, F1, ds, G2, ρ', hw, s2, r2, ⟨fun a q => g.n a (List.mem_append_right _ q), ?_⟩, e2, fun σ2 F2 p2 => ?_⟩
    · exact List.nodup_append.mpr ⟨(List.nodup_append.mp nd2).1, af.nd, fun a q b z e => by subst e; exact f1 a z q⟩
    have a2 : Aft w.Fz P (G2 ++ F1) H w.Fz H F2 := p2.aft
    refine k σ2 F2 ⟨⟨fun _ _ => rfl, fun _ h => h, fun _ h => .inl h, a2.liv, fun a q => ⟨(a2.new a q).1.imp (fun q => ?_) id, (a2.new a q).2⟩, a2.nd, fun _ h => h⟩, p2.env, fun j hj => (p2.pin j hj).trans (p.pin j hj)⟩
    rcases List.mem_append.mp q with q | q
    · exact List.mem_append_left _ (List.mem_append_right _ q)
    · rcases List.mem_append.mp (inF1 a q) with q | q
      · exact List.mem_append_left _ (List.mem_append_left _ q)
      · exact List.mem_append_right _ q
theorem n_tp {es : List Expr} {ts : MTs} {k : Nat} {pos : Pos} (hc : X.calm = true) (hn : (assignEach es X.env).length = ts.len) (hst : (assignEach es X.env).findIdx? (·.1) = none) (h : PGs X es (tBns X.K CA pn (bindTs cl ts))) : PG X (.Tuple es k pos) (tBn X.K CA pn (bindT cl (.tp ts))) := by
  refine PG.imp (pg_tup hc h hn hst) fun v σ H Q ⟨w, P, ρ, F, d, G, ρ', hw, s, r, g, e, kk⟩ => ?_
  cases d with
  | tup ds =>
    simp only [bindT] at e
    obtain ⟨a, us, rfl, z, ea, rs⟩ := r.tup_inv
    exact ⟨a, us, rfl, SqT.of ea, by rw [rs.len]; exact bindTs_len e, w, P, ρ, F, ds, G, ρ', hw, s, rs, g, e, kk⟩
  | _ => simp [bindT] at e

/-! ### names of a block -/
mutual
def MT.inOwn (own : List Nat) : MT → Bool
  | .nm i => own.contains i
  | .tp ts => ts.inOwn own
  | .st _ _ _ => false
def MTs.inOwn (own : List Nat) : MTs → Bool
  | .nil => true
  | .cons t ts => t.inOwn own && ts.inOwn own
end
mutual
theorem bindT_own {own : List Nat} : ∀ {t : MT} {d : D} {ρ ρ' : Mp.Env}, t.inOwn own = true → bindT cl t d ρ = some ρ' → ρ'.length = ρ.length ∧ ∀ j, j ∉ own → ρ'[j]? = ρ[j]?
  | .nm i, d, ρ, ρ', h, e => by
    simp only [bindT, Option.some.injEq] at e
    subst e
    simp only [MT.inOwn, List.contains_iff_mem] at h
    exact ⟨List.length_set, fun j hj => List.getElem?_set_ne fun (q : i = j) => hj (q ▸ h)⟩
  | .tp ts, .tup ds, ρ, ρ', h, e => by
    simp only [bindT] at e
    simp only [MT.inOwn] at h
    exact bindTs_own h e
  | .tp ts, .non, ρ, ρ', h, e => by simp [bindT] at e
  | .tp ts, .bl _, ρ, ρ', h, e => by simp [bindT] at e
  | .tp ts, .int _, ρ, ρ', h, e => by simp [bindT] at e
  | .tp ts, .str _, ρ, ρ', h, e => by simp [bindT] at e
  | .tp ts, .lst _ _, ρ, ρ', h, e => by simp [bindT] at e
  | .tp ts, .dic _ _ _, ρ, ρ', h, e => by simp [bindT] at e
  | .tp ts, .ins _ _ _ _, ρ, ρ', h, e => by simp [bindT] at e
  | .tp ts, .scr _, ρ, ρ', h, e => by simp [bindT] at e
  | .st _ _ _, _, _, _, h, _ => by simp [MT.inOwn] at h
theorem bindTs_own {own : List Nat} : ∀ {ts : MTs} {ds : List D} {ρ ρ' : Mp.Env}, ts.inOwn own = true → bindTs cl ts ds ρ = some ρ' → ρ'.length = ρ.length ∧ ∀ j, j ∉ own → ρ'[j]? = ρ[j]?
  | .nil, [], ρ, ρ', _, e => by simp only [bindTs, Option.some.injEq] at e; subst e; exact ⟨rfl, fun _ _ => rfl⟩
  | .nil, _ :: _, _, _, _, e => by simp [bindTs] at e
  | .cons _ _, [], _, _, _, e => by simp [bindTs] at e
  | .cons t ts, d :: ds, ρ, ρ', h, e => by
    simp only [bindTs] at e
    obtain ⟨ρ1, e1, e2⟩ := Option.bind_eq_some_iff.mp e
    simp only [MTs.inOwn, Bool.and_eq_true] at h
    obtain ⟨a, b⟩ := bindT_own h.1 e1
    obtain ⟨c, d⟩ := bindTs_own h.2 e2
    exact ⟨c.trans a, fun j hj => (d j hj).trans (b j hj)⟩
end
theorem wipeE_len {ρ : Mp.Env} : ∀ {own : List Nat}, (wipeE ρ own).length = ρ.length
  | [] => rfl
  | i :: is => by unfold wipeE; rw [List.length_set, wipeE_len]
theorem wipeE_out {ρ : Mp.Env} {j : Nat} : ∀ {own : List Nat}, j ∉ own → (wipeE ρ own)[j]? = ρ[j]?
  | [], _ => rfl
  | i :: is, h => by unfold wipeE; rw [List.getElem?_set_ne fun (q : i = j) => h (q ▸ List.mem_cons_self), wipeE_out fun q => h (List.mem_cons_of_mem _ q)]
theorem wipeE_in {ρ : Mp.Env} {j : Nat} : ∀ {own : List Nat}, j ∈ own → j < ρ.length → (wipeE ρ own)[j]? = some none
  | [], h, _ => by cases h
  | i :: is, h, hl => by
    unfold wipeE
    by_cases e : i = j
    · subst e
      rw [List.getElem?_set_self (by rw [wipeE_len]; exact hl)]
    · rw [List.getElem?_set_ne e]
      exact wipeE_in ((List.mem_cons.mp h).resolve_left (Ne.symm e)) hl
theorem wipeE_ext {ρ ρ' : Mp.Env} {own : List Nat} (hl : ρ'.length = ρ.length) (h : ∀ j, j ∉ own → ρ'[j]? = ρ[j]?) : wipeE ρ' own = wipeE ρ own := by
  refine List.ext_getElem? fun j => ?_
  by_cases q : j ∈ own
  · by_cases q2 : j < ρ.length
    · rw [wipeE_in q q2, wipeE_in q (by omega)]
    · rw [List.getElem?_eq_none (by rw [wipeE_len]; omega), List.getElem?_eq_none (by rw [wipeE_len]; omega)]
  · rw [wipeE_out q, wipeE_out q, h j q]
theorem wipeE_idem {ρ : Mp.Env} {own : List Nat} : wipeE (wipeE ρ own) own = wipeE ρ own := wipeE_ext wipeE_len fun j h => wipeE_out h
theorem wipe_in {σ : St} {j : Nat} : ∀ {own : List Nat}, j ∈ own → j < σ.length → (wipe σ own)[j]? = some none
  | [], h, _ => by cases h
  | i :: is, h, hl => by
    unfold wipe
    by_cases e : i = j
    · subst e
      rw [List.getElem?_set_self (by rw [wipe_length]; exact hl)]
    · rw [List.getElem?_set_ne e]
      exact wipe_in ((List.mem_cons.mp h).resolve_left (Ne.symm e)) hl
theorem wipe_ext {σ σ' : St} {own : List Nat} (hl : σ'.length = σ.length) (h : ∀ j, j ∉ own → σ'[j]? = σ[j]?) : wipe σ' own = wipe σ own := by
  refine List.ext_getElem? fun j => ?_
  by_cases q : j ∈ own
  · by_cases q2 : j < σ.length
    · rw [wipe_in q q2, wipe_in q (by omega)]
    · rw [List.getElem?_eq_none (by rw [wipe_length]; omega), List.getElem?_eq_none (by rw [wipe_length]; omega)]
  · rw [wipe_out q, wipe_out q, h j q]
theorem backE_len {ρ0 ρ : Mp.Env} : ∀ {own : List Nat}, (backE ρ0 ρ own).length = ρ.length
  | [] => rfl
  | i :: is => by unfold backE; rw [List.length_set, backE_len]
theorem backE_out {ρ0 ρ : Mp.Env} {j : Nat} : ∀ {own : List Nat}, j ∉ own → (backE ρ0 ρ own)[j]? = ρ[j]?
  | [], _ => rfl
  | i :: is, h => by unfold backE; rw [List.getElem?_set_ne fun (q : i = j) => h (q ▸ List.mem_cons_self), backE_out fun q => h (List.mem_cons_of_mem _ q)]
theorem backE_in {ρ0 ρ : Mp.Env} {j : Nat} : ∀ {own : List Nat}, j ∈ own → j < ρ.length → (backE ρ0 ρ own)[j]? = some (gI ρ0 j)
  | [], h, _ => by cases h
  | i :: is, h, hl => by
    unfold backE
    by_cases e : i = j
    · subst e
      rw [List.getElem?_set_self (by rw [backE_len]; exact hl)]
      rfl
    · rw [List.getElem?_set_ne e]
      exact backE_in ((List.mem_cons.mp h).resolve_left (Ne.symm e)) hl
theorem gI_of {ρ : Mp.Env} {j : Nat} (h : j < ρ.length) : ρ[j]? = some (gI ρ j) := by
  unfold gI
  rw [List.getElem?_eq_getElem h]
  rfl
theorem back_self {ρ ρ' : Mp.Env} {own : List Nat} (hl : ρ'.length = ρ.length) (h : wipeE ρ' own = wipeE ρ own) : backE ρ ρ' own = ρ := by
  refine List.ext_getElem? fun j => ?_
  by_cases q : j ∈ own
  · by_cases q2 : j < ρ.length
    · rw [backE_in q (by omega), gI_of q2]
    · rw [List.getElem?_eq_none (by rw [backE_len]; omega), List.getElem?_eq_none (by omega)]
  · rw [backE_out q, ← wipeE_out (ρ := ρ') q, h, wipeE_out q]
theorem backE_set {ρ0 ρ : Mp.Env} {x : Option D} {i : Nat} {own : List Nat} (h : i ∉ own) : backE ρ0 (ρ.set i x) own = (backE ρ0 ρ own).set i x := by
  refine List.ext_getElem? fun j => ?_
  by_cases q : j ∈ own
  · have hj : i ≠ j := fun e => h (e ▸ q)
    rw [List.getElem?_set_ne hj]
    by_cases q2 : j < ρ.length
    · rw [backE_in q (by rw [List.length_set]; exact q2), backE_in q q2]
    · rw [List.getElem?_eq_none (by rw [backE_len, List.length_set]; omega), List.getElem?_eq_none (by rw [backE_len]; omega)]
  · rw [backE_out q, List.getElem?_set, List.getElem?_set, backE_out q, backE_len]
theorem wipeE_set {ρ : Mp.Env} {x : Option D} {i : Nat} {own : List Nat} (h : i ∉ own) : wipeE (ρ.set i x) own = (wipeE ρ own).set i x := by
  refine List.ext_getElem? fun j => ?_
  by_cases q : j ∈ own
  · have hj : i ≠ j := fun e => h (e ▸ q)
    rw [List.getElem?_set_ne hj]
    by_cases q2 : j < ρ.length
    · rw [wipeE_in q (by rw [List.length_set]; exact q2), wipeE_in q q2]
    · rw [List.getElem?_eq_none (by rw [wipeE_len, List.length_set]; omega), List.getElem?_eq_none (by rw [wipeE_len]; omega)]
  · rw [wipeE_out q, List.getElem?_set, List.getElem?_set, wipeE_out q, wipeE_len]
theorem REnv.irrel {w : Wd} {H : Hp} {x : Option V} : ∀ {σ : St} {ρ : Mp.Env} {F : List Addr} {i : Nat}, gI ρ i = none → REnv w H σ ρ F → REnv w H (σ.set i x) ρ F
  | [], [], _, i, _, h => h
  | [], _ :: _, _, _, _, h => by unfold REnv at h; cases h
  | _ :: _, [], _, _, _, h => by unfold REnv at h; cases h
  | s :: σ, none :: ρ, F, 0, _, h => by unfold REnv at h; rw [List.set_cons_zero]; unfold REnv; exact h
  | s :: σ, none :: ρ, F, i + 1, e, h => by unfold REnv at h; rw [List.set_cons_succ]; unfold REnv; exact REnv.irrel (by rwa [gI_succ] at e) h
  | none :: σ, some d :: ρ, _, _, _, h => by unfold REnv at h; cases h
  | some v :: σ, some d :: ρ, F, 0, e, h => by rw [gI_zero] at e; cases e
  | some v :: σ, some d :: ρ, F, i + 1, e, h => by
    unfold REnv at h
    obtain ⟨F1, F2, rfl, h1, h2⟩ := h
    rw [List.set_cons_succ]; unfold REnv
    exact ⟨F1, F2, rfl, h1, REnv.irrel (by rwa [gI_succ] at e) h2⟩
theorem set_get {σ : St} {i : Nat} {x : Option V} (h : σ[i]? = some x) : σ.set i x = σ := by
  refine List.ext_getElem? fun j => ?_
  rw [List.getElem?_set]
  split
  · rename_i e; subst e
    split
    · exact h.symm
    · rename_i q; rw [List.getElem?_eq_none (by omega)] at h; cases h
  · rfl
/-- own names put aside, and back -/
theorem wipe_split {w : Wd} {H : Hp} {σ : St} {ρ : Mp.Env} {F : List Addr} (h : REnv w H σ ρ F) : ∀ {own : List Nat}, own.Nodup → ∃ Fs Fr, F.Perm (Fs ++ Fr) ∧ REnv w H (wipe σ own) (wipeE ρ own) Fr ∧
    ∀ {w' : Wd} {H' : Hp} {ρ' : Mp.Env} {F' : List Addr}, w.Le w' → Stays w Fs H H' → REnv w' H' (wipe σ own) (wipeE ρ' own) F' → ∃ F2, REnv w' H' σ (backE ρ ρ' own) F2 ∧ F2.Perm (Fs ++ F')
  | [], _ => ⟨[], F, List.Perm.refl _, h, fun _ _ r => ⟨_, r, List.Perm.refl _⟩⟩
  | i :: is, nd => by
    have hi := (List.nodup_cons.mp nd).1
    obtain ⟨Fs, Fr, p, r, k⟩ := wipe_split h (List.nodup_cons.mp nd).2
    have hg : gI (wipeE ρ is) i = gI ρ i := by unfold gI; rw [wipeE_out hi]
    have hbk : ∀ ρ' : Mp.Env, backE ρ ρ' (i :: is) = backE ρ (ρ'.set i (gI ρ i)) is := fun ρ' => by rw [backE_set hi]; rfl
    cases e : gI ρ i with
    | none =>
      refine ⟨Fs, Fr, p, ?_, fun {w' H' ρ' F'} le st r' => ?_⟩
      · unfold wipe wipeE
        have e1 : gI (wipeE ρ is) i = none := by rw [hg, e]
        obtain ⟨F2, r2, _⟩ := r.drop (i := i)
        have : (wipeE ρ is).set i none = wipeE ρ is := by
          refine List.ext_getElem? fun j => ?_
          rw [List.getElem?_set]
          split
          · rename_i q; subst q
            split
            · rename_i q; rw [gI_of q, e1]
            · rename_i q; rw [List.getElem?_eq_none (by omega)]
          · rfl
        rw [this]
        exact r.irrel e1
      · have r' : REnv w' H' ((wipe σ is).set i none) ((wipeE ρ' is).set i none) F' := r'
        have r2 : REnv w' H' (wipe σ is) ((wipeE ρ' is).set i none) F' := by
          by_cases hl : i < (wipe σ is).length
          · have := r'.irrel (i := i) (x := (wipe σ is)[i]) gI_set_none
            rw [List.set_set, set_get (List.getElem?_eq_getElem hl)] at this
            exact this
          · rw [List.set_eq_of_length_le (Nat.le_of_not_lt hl)] at r'
            exact r'
        rw [← wipeE_set hi] at r2
        obtain ⟨F2, a, b⟩ := k le st r2
        exact ⟨F2, by rw [hbk, e]; exact a, b⟩
    | some d =>
      obtain ⟨v, G1, G2, t1, t2, t3, t4⟩ := r.take (i := i) (d := d) (by rw [hg, e])
      refine ⟨Fs ++ G1, G2, ?_, ?_, fun {w' H' ρ' F'} le st r' => ?_⟩
      · rw [List.append_assoc]
        exact p.trans (List.Perm.append_left Fs t4)
      · unfold wipe wipeE
        exact t3.irrel gI_set_none
      · have r' : REnv w' H' ((wipe σ is).set i none) ((wipeE ρ' is).set i none) F' := r'
        have r2 : REnv w' H' (wipe σ is) ((wipeE ρ' is).set i none) F' := by
          have := r'.irrel (i := i) (x := some v) gI_set_none
          rw [List.set_set, set_get t1] at this
          exact this
        obtain ⟨F1, a1, b1⟩ := r2.put gI_set_none t1 (t2.stays le (st.sub fun a q => List.mem_append_right _ q))
        rw [List.set_set, ← wipeE_set hi] at a1
        obtain ⟨F2, a, b⟩ := k le (st.sub fun a q => List.mem_append_left _ q) a1
        refine ⟨F2, by rw [hbk, e]; exact a, ?_⟩
        rw [List.append_assoc]
        exact b.trans (List.Perm.append_left Fs b1)
end Mp
set_option Elab.async false
set_option linter.all false
set_option maxRecDepth 100000
set_option maxHeartbeats 2000000
/-! # Mp: list comprehensions -/
namespace Mp
open PySem L2
variable {X : Cx} {cl : Call} {K : PySem.W.Frag} {CA : Nat → Option Addr} {pn : List Nat}

theorem Aft.comp2 {Fz P : Addr → Prop} {F F1 G : List Addr} {H H1 H2 : Hp} {Z1 Z2 : Addr → Prop} (a : Aft Fz P F H Z1 H1 F1) (a2 : Aft Z1 P F1 H1 Z2 H2 G) : Aft Fz P F H Z2 H2 G := by
  have old : ∀ x, H1 x = none → H x = none := fun x e => by
    cases hx : H x with
    | none => rfl
    | some o => exact absurd e (a.keep x (by rw [hx]; simp))
  have back : ∀ x, x ∈ F1 ∨ H1 x = none → x ∈ F ∨ H x = none := fun x q => q.elim (fun q => (a.new x q).1) fun q => .inr (old x q)
  exact ⟨fun x q => (a2.fr x (q.imp (a.mono x) id)).trans (a.fr x q), fun x q => a2.mono x (a.mono x q), fun x q => (a2.grow x q).elim (a.grow x) fun q => .inr (back x q), a2.liv,
    fun x q => ⟨back x (a2.new x q).1, (a2.new x q).2⟩, a2.nd, fun x q => a2.keep x (a.keep x q)⟩
/-- the state behind it for other names, what is kept being protected -/
theorem Aft.simG {w : Wd} {P : Addr → Prop} {σ σ' : St} {ρ ρ' : Mp.Env} {H H1 : Hp} {F F' G : List Addr} {Z : Addr → Prop} (a : Aft w.Fz P F H Z H1 (G ++ F')) (s : Sim w P σ ρ H F) (hg : ∀ x ∈ G, H1 x ≠ none) (e : REnv (w.wz Z) H1 σ' ρ' F') : Sim (w.wz Z) (fun x => P x ∨ x ∈ G) σ' ρ' H1 F' := by
  refine ⟨e, (List.nodup_append.mp a.nd).2.1, fun x q => ⟨(a.new x (List.mem_append_right _ q)).2, ?_⟩, fun x q => .inl (s.bp x q), fun x q => ?_⟩
  · rintro (z | z)
    · rcases (a.new x (List.mem_append_right _ q)).1 with r | r
      · exact (s.dis x r).2 z
      · exact s.liv x (.inr z) r
    · exact (List.nodup_append.mp a.nd).2.2 x z x q rfl
  · rcases q with q | q | q
    · exact a.liv x q
    · exact a.keep x (s.liv x (.inr q))
    · exact hg x q
theorem Aft.write {w : Wd} {P : Addr → Prop} {σ : St} {ρ : Mp.Env} {F G : List Addr} {H H1 : Hp} {Z : Addr → Prop} {D : Addr} {o : HO} (a : Aft w.Fz P F H Z H1 G) (s : Sim w P σ ρ H F) (hD : D ∈ G) : Aft w.Fz P F H Z (upd H1 D o) G := by
  have hz := (a.new D hD).2
  refine ⟨fun x q => ?_, a.mono, a.grow, fun x q => ?_, a.new, a.nd, fun x q => ?_⟩
  · rw [upd_ne fun e : x = D => ?_]
    · exact a.fr x q
    · subst e
      rcases q with q | q
      · exact hz (a.mono x q)
      · exact (a.new x hD).1.elim (fun r => (s.dis x r).2 q) (s.liv x (.inr q))
  · rw [upd_ne fun e : x = D => hz (e ▸ q)]
    exact a.liv x q
  · by_cases e : x = D
    · subst e; rw [upd_same]; simp
    · rw [upd_ne e]; exact a.keep x q

/-! ### tests -/
structure CPost (w : Wd) (P : Addr → Prop) (σ : St) (ρ : Mp.Env) (H : Hp) (F : List Addr) (still : Bool) (ρ' : Mp.Env) (H' : Hp) (Z : Addr → Prop) (F' : List Addr) : Prop where
  aft : Aft w.Fz P F H Z H' F'
  env : REnv (w.wz Z) H' σ ρ' F'
  still : still = true → ρ' = ρ ∧ F' = F ∧ ∀ a, H a ≠ none → H' a = H a
def tCs (cl : Call) (K : PySem.W.Frag) (CA : Nat → Option Addr) (cs : MEs) : TT := fun σ H Q =>
  ∃ w P ρ F b ρ', Wd.In w K CA ∧ Sim w P σ ρ H F ∧ evCs cl cs ρ = some (b, ρ') ∧ ∀ H' Z F', CPost w P σ ρ H F cs.still ρ' H' Z F' → Q b H'
theorem PTs.imp {es : List Expr} {t t' : TT} (h : PTs X es t) (q : ∀ σ H Q, t' σ H Q → t σ H Q) : PTs X es t' := ⟨fun pins s σ H Q I hw => h.run pins s σ H Q I (q σ H Q hw)⟩
theorem c_nil : PTs X [] (tCs cl X.K CA .nil) := PTs.imp pts_nil fun σ H Q ⟨w, P, ρ, F, b, ρ', hw, s, e, k⟩ => by
  simp only [evCs, Option.some.injEq, Prod.mk.injEq] at e
  obtain ⟨rfl, rfl⟩ := e
  exact k H w.Fz F ⟨s.aft, s.env, fun _ => ⟨rfl, rfl, fun _ _ => rfl⟩⟩
theorem c_one {c : Expr} {m : ME} (h : PT X c (tT cl X.K CA m)) : PTs X [c] (tCs cl X.K CA (.cons m .nil)) := PTs.imp (pts_one h) fun σ H Q ⟨w, P, ρ, F, b, ρ', hw, s, e, k⟩ => by
  simp only [evCs] at e
  obtain ⟨⟨d, ρ1⟩, e1, e2⟩ := Option.bind_eq_some_iff.mp e
  obtain ⟨b', e3, e4⟩ := Option.bind_eq_some_iff.mp e2
  obtain rfl := asBl_eq e3
  have e5 : b' = b ∧ ρ1 = ρ' := by cases b' <;> simpa using e4
  obtain ⟨rfl, rfl⟩ := e5
  refine ⟨w, P, ρ, F, _, ρ1, hw, s, e1, fun v H1 Z1 G F1 p => ?_⟩
  obtain ⟨rfl, rfl⟩ := p.rep.bl_inv
  refine ⟨b', rfl, k H1 Z1 F1 ⟨?_, p.env, fun q => p.still (by simpa [MEs.still] using q)⟩⟩
  have := p.aft
  rw [owned0] at this
  exact this

/-! ### one turn -/
abbrev lcF (cl : Call) (own : List Nat) (t : MT) (cs : MEs) (e : ME) : D → Mp.Env → Option (Option D × Mp.Env) := fun x ρ' => (bindT cl t x (wipeE ρ' own)).bind fun ρ2 => (evCs cl cs ρ2).bind fun c =>
      if c.1 then (adj e.pl (ev cl e c.2)).map fun d => (some d.1, d.2) else some (none, c.2)
theorem lcL_cons {own : List Nat} {t : MT} {cs : MEs} {e : ME} {d : D} {ds acc : List D} {ρ : Mp.Env} {r : List D × Mp.Env} (h : lcL (lcF cl own t cs e) (d :: ds) ρ acc = some r) :
    ∃ ρ2 b ρ3, bindT cl t d (wipeE ρ own) = some ρ2 ∧ evCs cl cs ρ2 = some (b, ρ3) ∧ ((b = true ∧ ∃ x ρ4, ev cl e ρ3 = some (x, ρ4) ∧ (e.pl = true → x.sh = true) ∧ acc.length < lim ∧ lcL (lcF cl own t cs e) ds ρ4 (acc ++ [x]) = some r) ∨ (b = false ∧ lcL (lcF cl own t cs e) ds ρ3 acc = some r)) := by
  simp only [lcL] at h
  split at h
  · rename_i x ρ4 hf
    obtain ⟨ρ2, h1, hf⟩ := Option.bind_eq_some_iff.mp hf
    obtain ⟨⟨b, ρ3⟩, h2, hf⟩ := Option.bind_eq_some_iff.mp hf
    cases b with
    | false => simp at hf
    | true =>
      simp only [if_true] at hf
      obtain ⟨⟨y, ρ5⟩, h3, h4⟩ := Option.map_eq_some_iff.mp hf
      cases h4
      obtain ⟨h5, h6⟩ := adj_eq h3
      split at h
      · exact ⟨ρ2, true, ρ3, h1, h2, .inl ⟨rfl, y, ρ5, h5, h6, by assumption, h⟩⟩
      · cases h
  · rename_i ρ4 hf
    obtain ⟨ρ2, h1, hf⟩ := Option.bind_eq_some_iff.mp hf
    obtain ⟨⟨b, ρ3⟩, h2, hf⟩ := Option.bind_eq_some_iff.mp hf
    cases b with
    | false =>
      simp at hf
      subst hf
      exact ⟨ρ2, false, ρ3, h1, h2, .inr ⟨rfl, h⟩⟩
    | true =>
      simp only [if_true] at hf
      obtain ⟨⟨y, ρ5⟩, h3, h4⟩ := Option.map_eq_some_iff.mp hf
      cases h4
  · cases h
def tBO (K : PySem.W.Frag) (CA : Nat → Option Addr) (own : List Nat) (f : D → Mp.Env → Option Mp.Env) : TG := fun v σ H Q => tBn K CA ((List.range σ.length).filter fun i => !(own.contains i)) f v σ H Q
theorem pg_own {tg : Expr} {own : List Nat} {f : D → Mp.Env → Option Mp.Env} (h : ∀ pn : List Nat, (∀ i ∈ own, i ∉ pn) → PG X tg (tBn K CA pn f)) : PG X tg (tBO K CA own f) :=
  ⟨fun pins s σ H v u Q I r hw => (h _ fun i hi q => by simp [hi] at q).run pins s σ H v u Q I r hw⟩

/-- the comprehension by turns -/
theorem lc_turns {own : List Nat} {t : MT} {cs : MEs} {e : ME} {tb : TT} {te : TE} {g : TG} {w : Wd} {P : Addr → Prop} {σ : St} {ρ ρ1 ρe : Mp.Env} {H H1 : Hp} {F F1 : List Addr} {Z1 : Addr → Prop} {items accE : List Mp.D} {J : It} {D : Addr} {st0 : Bool} {Q : VK}
    (hw : Wd.In w K CA) (s : Sim w P σ ρ H F) (p : IPost w P σ ρ H F st0 items ρ1 J H1 Z1 F1) (hD : H1 D = none) (hnd : own.Nodup) (ht : t.inOwn own = true) (hst0 : (MI.still (.seq (.lc own t (.seq .kn) cs e)) = true → True))
    (hg : ∀ v σ H Q, tBO K CA own (bindT cl t) v σ H Q → g v σ H Q) (hcs : ∀ σ H Q, tCs cl K CA cs σ H Q → tb σ H Q) (he : ∀ σ H Q, tE cl K CA e σ H Q → te σ H Q)
    (el : lcL (lcF cl own t cs e) items ρ1 [] = some (accE, ρe))
    (k : ∀ v H' Z G F', EPost w P σ ρ H F false (st0 && cs.still && e.still) (.lst .own accE) (backE ρ1 ρe own) v H' Z G F' → Q v H') :
    ∃ W : Nat → Nat → Hp → Prop, (∃ m, W 0 m (upd H1 D (.lst []))) ∧ ∀ i m H, W i m H →
      (J.stop i H ∧ Q (.ref D) H) ∨ (J.go i H ∧ ∃ Nx : Hp → Prop, (∀ H', Nx H' → ∃ m', m' < m ∧ W (i + 1) m' H') ∧ ∀ x H', J.yld i H x H' → g x (wipe σ own) H' fun σ2 H2 => wipe σ2 own = wipe σ own ∧ tb σ2 H2 fun b H3 =>
        if b = true then te σ2 H3 fun y H4 => ∃ acc, H4 D = some (.lst acc) ∧ acc.length < sizeLine ∧ Nx (upd H4 D (.lst (acc ++ [y]))) else Nx H3) := by
  obtain ⟨Y, wk, yk⟩ := p.walk
  have p1 : SPost w P σ H F [] ρ1 σ H1 Z1 [] F1 := ⟨p.aft, p.env, fun _ _ => rfl⟩
  have s1 : Sim (w.wz Z1) P σ ρ1 H1 F1 := p1.sim s
  obtain ⟨Fs, Fr, pm, r0, back⟩ := wipe_split p.env hnd
  have lvs : ∀ a ∈ Fs, H1 a ≠ none := fun a q => s1.env.live a (pm.mem_iff.mpr (List.mem_append_left _ q))
  have lvr : ∀ a ∈ Fr, H1 a ≠ none := fun a q => s1.env.live a (pm.mem_iff.mpr (List.mem_append_right _ q))
  have lF : ∀ a ∈ F, H a ≠ none := s.env.live
  have len1 : ρ1.length = σ.length := s1.env.len.symm
  -- the invariant
  refine lc_it wk (fun i H' => ∃ Z' ρ' F' acc us Ga, Aft w.Fz P F H Z' H' ((D :: Ga ++ Fs) ++ F') ∧ H' D = some (.lst us) ∧ Reps (w.wz Z') H' acc us Ga ∧ REnv (w.wz Z') H' (wipe σ own) (wipeE ρ' own) F' ∧ (∀ a ∈ Fs, H' a = H1 a) ∧
    (∀ a, Z1 a ∨ w.B a → H' a = H1 a) ∧ (∀ a, Z1 a → Z' a) ∧ lcL (lcF cl own t cs e) (items.drop i) ρ' acc = some (accE, ρe) ∧
    ((st0 && cs.still && e.still) = true → (∀ a ∈ F, ¬ Z' a) ∧ (∀ a, H a ≠ none → H' a = H a) ∧ wipeE ρ' own = wipeE ρ own ∧ ∀ a ∈ Ga, a ∉ F)) ?_ (fun i H' _ ⟨_, _, _, _, _, _, _, _, _, _, _, q, _⟩ => q) (fun i x H' H'' hi ⟨Z', ρ', F', acc, us, Ga, af, hDl, ra, re, hs, hst, hz, hl, hstill⟩ y => ?_) fun H' ⟨Z', ρ', F', acc, us, Ga, af, hDl, ra, re, hs, hst, hz, hl, hstill⟩ => ?_
  · have lk : ∀ a ∈ Fs ++ Fr, H1 a ≠ none := fun a q => (List.mem_append.mp q).elim (lvs a) (lvr a)
    have ne : ∀ a, H1 a ≠ none → upd H1 D (.lst []) a = H1 a := fun a q => upd_ne fun e => q (e ▸ hD)
    refine ⟨Z1, ρ1, Fr, [], [], [], by simpa using aft_new (p.aft.perm pm.symm) hD s.liv lk, upd_same, .nil, r0.stays (Wd.Le.refl _) ⟨fun a q => ne a (lvr a q), fun a q => ne a (s1.liv a (.inl q)), fun a q => ne a (s1.liv a (.inr (s1.bp a q)))⟩, fun a q => ne a (lvs a q), fun a q => ne a (s1.liv a (q.imp id (s1.bp a))), fun _ h => h, by simpa using el, fun q => ?_⟩
    simp only [Bool.and_eq_true] at q
    obtain ⟨e1, e2, e3⟩ := p.still q.1.1
    subst e1 e2
    exact ⟨fun a q => (p.aft.new a q).2, fun a q => (ne a (by rw [e3 a q]; exact q)).trans (e3 a q), rfl, fun a q => (by cases q)⟩
  · obtain ⟨d, hd, edrop⟩ := drop_cons hi
    rw [edrop] at hl
    obtain ⟨ρ2, b, ρ3, eb, ec, alt⟩ := lcL_cons hl
    have lk : ∀ a ∈ D :: Ga ++ Fs, H' a ≠ none := fun a q => by
      rcases List.mem_append.mp q with q | q
      · rcases List.mem_cons.mp q with rfl | q
        · rw [hDl]; simp
        · exact ra.live a q
      · rw [hs a q]; exact lvs a q
    have s2 : Sim (w.wz Z') (fun a => P a ∨ a ∈ D :: Ga ++ Fs) (wipe σ own) (wipeE ρ' own) H' F' := af.simG s lk re
    obtain ⟨Z2, a2, r2⟩ := yk i d H' x H'' (w.wz Z') hd ⟨rfl, rfl, hz, fun _ h => h⟩ hst (fun a q => q.elim (fun q => s2.liv a (.inl q)) fun q => s2.liv a (.inr (s2.bp a q))) y
    have sp2 : SPost (w.wz Z') (fun a => P a ∨ a ∈ D :: Ga ++ Fs) (wipe σ own) H' F' [] (wipeE ρ' own) (wipe σ own) H'' Z2 [] F' := s2.ext a2
    have s3 := sp2.sim s2
    refine hg _ _ _ _ ⟨w.wz Z2, _, wipeE ρ' own, F', d, [], ρ2, ⟨hw.k, hw.c⟩, s3, r2, given_nil s3.nd, eb, fun σ2 F3 sp3 => ?_⟩
    have s4 := sp3.sim s3
    have lenW : (wipe σ own).length = σ.length := wipe_length σ own
    have len2 : ρ2.length = σ.length := (bindT_own ht eb).1.trans (re.len.symm.trans lenW)
    have wq : wipe σ2 own = wipe σ own := by
      refine (wipe_ext (σ := wipe σ own) (σ' := σ2) (own := own) (by rw [lenW, s4.env.len, len2]) fun j hj => ?_).trans (wipe_ext lenW fun j hj => wipe_out hj)
      by_cases q : j < σ.length
      · exact sp3.pin j (by simp [lenW, q, hj])
      · rw [List.getElem?_eq_none (by rw [s4.env.len, len2]; omega), List.getElem?_eq_none (by rw [lenW]; omega)]
    refine ⟨wq, hcs _ _ _ ⟨w.wz w.Fz |>.wz Z2, _, ρ2, F3, b, ρ3, ⟨hw.k, hw.c⟩, s4, ec, fun H3 Z4 F4 p4 => ?_⟩⟩
    have sp4 : SPost (w.wz Z2) (fun a => P a ∨ a ∈ D :: Ga ++ Fs) σ2 H'' F3 [] ρ3 σ2 H3 Z4 [] F4 := ⟨p4.aft, p4.env, fun _ _ => rfl⟩
    have s5 := sp4.sim s4
    -- from the turn's start to here
    have a3 : Aft Z' (fun a => P a ∨ a ∈ D :: Ga ++ Fs) F' H' Z4 H3 F4 := (Aft.comp2 (F1 := F') sp2.aft sp3.aft).comp2 p4.aft
    -- the end of a turn: names, what is kept
    have fin : ∀ {H5 : Hp} {Z5 : Addr → Prop} {F5 G : List Addr} {ρ5 : Mp.Env}, Aft Z' (fun a => P a ∨ a ∈ D :: Ga ++ Fs) F' H' Z5 H5 (G ++ F5) → REnv (w.wz Z5) H5 σ2 ρ5 F5 →
        ∃ F6, Aft w.Fz P F H Z5 H5 ((D :: (Ga ++ G) ++ Fs) ++ F6) ∧ H5 D = some (.lst us) ∧ Reps (w.wz Z5) H5 acc us Ga ∧ REnv (w.wz Z5) H5 (wipe σ own) (wipeE ρ5 own) F6 ∧ (∀ a ∈ Fs, H5 a = H1 a) ∧ (∀ a, Z1 a ∨ w.B a → H5 a = H1 a) ∧ (∀ a, Z1 a → Z5 a) := fun {H5 Z5 F5 G ρ5} a5 e5 => by
      obtain ⟨Fx, F6, pm6, r6, _⟩ := wipe_split e5 hnd
      rw [wq] at r6
      have tr := af.trans (G := D :: Ga ++ Fs) lk a5
      have le5 : (w.wz Z').Le (w.wz Z5) := ⟨rfl, rfl, a5.mono, fun _ h => h⟩
      have ra5 : Reps (w.wz Z5) H5 acc us Ga := ra.stays le5 ⟨fun a q => a5.fr a (.inr (.inr (by simp [q]))), fun a q => a5.fr a (.inl q), fun a q => a5.fr a (.inr (.inl (s.bp a q)))⟩
      refine ⟨F6, (tr.perm (K' := D :: (Ga ++ G) ++ Fs ++ (Fx ++ F6)) ?_).sublist ?_, ?_, ra5, r6, fun a q => (a5.fr a (.inr (.inr (List.mem_append_right _ q)))).trans (hs a q), fun a q => (a5.fr a (q.imp (hz a) fun q => .inl (s.bp a q))).trans (hst a q), fun a q => a5.mono a (hz a q)⟩
      · refine List.Perm.trans ?_ (List.Perm.append_left (D :: Ga ++ Fs) (List.Perm.append_left G pm6.symm))
        simp only [List.cons_append, List.append_assoc]
        exact List.Perm.cons D (List.Perm.append_left Ga (List.perm_append_comm_assoc G Fs (Fx ++ F6)))
      · exact List.Sublist.append_left (List.sublist_append_right Fx F6) _
      · exact (a5.fr D (.inr (.inr (by simp)))).trans hDl
    have still3 : (st0 && cs.still && e.still) = true → (∀ a ∈ F, ¬ Z4 a) ∧ (∀ a, H a ≠ none → H3 a = H a) ∧ wipeE ρ3 own = wipeE ρ own ∧ ∀ a ∈ Ga, a ∉ F := fun q => by
      obtain ⟨z1, z2, z3, zG⟩ := hstill q
      simp only [Bool.and_eq_true] at q
      obtain ⟨e1, e2, e3⟩ := p4.still q.1.2
      subst e1 e2
      have k1 : ∀ a, H a ≠ none → H' a ≠ none := fun a q => by rw [z2 a q]; exact q
      have k2 : ∀ a, H a ≠ none → H'' a = H a := fun a q => (a2.fr a (.inr (k1 a q))).trans (z2 a q)
      refine ⟨fun a ha z => ?_, fun a q => (e3 a (by rw [k2 a q]; exact q)).trans (k2 a q), ?_, zG⟩
      · rcases p4.aft.grow a z with z | z | z
        · rcases a2.grow a z with z | z | z
          · exact z1 a ha z
          · cases z
          · exact k1 a (lF a ha) z
        · exact (p4.aft.new a z).2 ‹_›
        · rw [k2 a (lF a ha)] at z; exact lF a ha z
      · obtain ⟨b1, b2⟩ := bindT_own ht eb
        rw [wipeE_ext b1 b2, wipeE_idem, z3]
    rcases alt with ⟨rfl, xv, ρ4, ev4, shv, hlim, hl'⟩ | ⟨rfl, hl'⟩
    · simp only [if_true]
      refine he _ _ _ ⟨w.wz Z4, _, ρ3, F4, xv, ρ4, ⟨hw.k, hw.c⟩, s5, ev4, fun v H5 Z5 G F5 p5 => ⟨us, ?_, by rw [ra.len]; exact lim_lt hlim, ?_⟩⟩
      all_goals have a5 := a3.comp2 (p5.own shv)
      · exact (a5.fr D (.inr (.inr (by simp)))).trans hDl
      · obtain ⟨F6, b1, b2, b3, b4, b5, b6, b7⟩ := fin a5 p5.env
        have DK : D ∈ (D :: (Ga ++ G) ++ Fs) ++ F6 := by simp
        have nd : (D :: ((Ga ++ G) ++ (Fs ++ F6))).Nodup := by simpa [List.append_assoc] using b1.nd
        have nD := (List.nodup_cons.mp nd).1
        have zD : ¬ Z5 D := (b1.new D DK).2
        have pD : ¬ P D := fun q => (b1.new D DK).1.elim (fun r => (s.dis D r).2 q) (s.liv D (.inr q))
        have st : ∀ {L : List Addr}, (∀ a ∈ L, a ∈ (Ga ++ G) ++ (Fs ++ F6)) → Stays (w.wz Z5) L H5 (upd H5 D (.lst (us ++ [v]))) := fun h => ⟨fun a q => upd_ne fun e => nD (e ▸ h a q), fun a q => upd_ne fun e => zD (e ▸ q), fun a q => upd_ne fun e => pD (s.bp D (e ▸ q))⟩
        refine ⟨Z5, ρ4, F6, acc ++ [xv], us ++ [v], Ga ++ G, b1.write s DK, upd_same, (b3.append (by simpa using Reps.cons (G := []) p5.rep .nil)).stays (Wd.Le.refl _) (st fun a q => List.mem_append_left _ q), b4.stays (Wd.Le.refl _) (st fun a q => by simp [q]), fun a q => ?_, fun a q => ?_, b7, hl', fun q => ?_⟩
        · rw [upd_ne fun e : a = D => nD (by subst e; simp [q])]; exact b5 a q
        · rw [upd_ne fun e : a = D => ?_]
          · exact b6 a q
          · subst e
            exact q.elim (fun q => zD (b7 a q)) fun q => pD (s.bp a q)
        · obtain ⟨z1, z2, z3, zG⟩ := still3 q
          simp only [Bool.and_eq_true] at q
          obtain ⟨e1, e2, e3⟩ := p5.still q.2
          subst e1 e2
          have a6 := p5.own shv
          refine ⟨fun a ha z => ?_, fun a q => ?_, z3, fun a q r => ?_⟩
          · rcases a6.grow a z with z | z | z
            · exact z1 a ha z
            · exact (a6.new a (List.mem_append_right _ z)).2 ‹_›
            · rw [z2 a (lF a ha)] at z; exact lF a ha z
          · rw [upd_ne fun e : a = D => ?_]
            · exact (e3 a (by rw [z2 a q]; exact q)).trans (z2 a q)
            · subst e
              exact p.aft.keep a q hD
          · rcases List.mem_append.mp q with q | q
            · exact zG a q r
            · rcases (a6.new a (List.mem_append_left _ q)).1 with z | z
              · exact (List.nodup_append.mp a6.nd).2.2 a q a z rfl
              · rw [z2 a (lF a r)] at z; exact lF a r z
    · simp only [Bool.false_eq_true, if_false]
      obtain ⟨F6, b1, b2, b3, b4, b5, b6, b7⟩ := fin (G := []) a3 p4.env
      exact ⟨Z4, ρ3, F6, acc, us, Ga, by simpa using b1, b2, b3, b4, b5, b6, b7, hl', still3⟩
  · rw [List.drop_length] at hl
    simp only [lcL, Option.some.injEq, Prod.mk.injEq] at hl
    obtain ⟨rfl, rfl⟩ := hl
    have rl : Rep (w.wz Z') H' (.lst .own acc) (.ref D) (D :: Ga) := Rep.lst_mk hDl ra
    by_cases hq : (st0 && cs.still && e.still) = true
    · obtain ⟨z1, z2, z3, zG⟩ := hstill hq
      simp only [Bool.and_eq_true] at hq
      obtain ⟨e1, e2, e3⟩ := p.still hq.1.1
      subst e1 e2
      have len3 : ρ'.length = ρ1.length := by
        have := re.len
        rw [wipe_length, wipeE_len] at this
        omega
      have eb : backE ρ1 ρ' own = ρ1 := back_self len3 z3
      refine k (.ref D) H' Z' (D :: Ga) F1 ⟨?_, by rw [eb]; exact s.env.stays (Wd.Le.wz af.mono) ⟨fun a q => z2 a (lF a q), fun a q => z2 a (s.liv a (.inl q)), fun a q => z2 a (s.liv a (.inr (s.bp a q)))⟩, rl, fun q => (by cases q), fun _ => ⟨eb, rfl, z2⟩⟩
      show Aft w.Fz P F1 H Z' H' ((D :: Ga) ++ F1)
      have nw : ∀ a ∈ D :: Ga, a ∉ F1 := fun a q r => by
        rcases List.mem_cons.mp q with rfl | q
        · exact p.aft.keep a (lF a r) hD
        · exact zG a q r
      refine ⟨af.fr, af.mono, af.grow, af.liv, fun a q => ?_, List.nodup_append.mpr ⟨?_, s.nd, fun a q b z e => nw a q (e ▸ z)⟩, af.keep⟩
      · rcases List.mem_append.mp q with q | q
        · exact af.new a (List.mem_append_left _ (List.mem_append_left _ q))
        · exact ⟨.inl q, z1 a q⟩
      · exact (List.nodup_append.mp (List.nodup_append.mp af.nd).1).1
    · obtain ⟨F2, a, b⟩ := back (w' := w.wz Z') (H' := H') (ρ' := ρ') ⟨rfl, rfl, hz, fun _ h => h⟩ ⟨hs, fun a q => hst a (.inl q), fun a q => hst a (.inr q)⟩ re
      refine k (.ref D) H' Z' (D :: Ga) F2 ⟨?_, a, rl, fun q => (by cases q), fun q => absurd q hq⟩
      show Aft w.Fz P F H Z' H' ((D :: Ga) ++ F2)
      refine af.perm ?_
      rw [List.append_assoc]
      exact List.Perm.append_left _ b
theorem r_lc {elt tg iter : Expr} {ifs : List Expr} {scope : Scope} {own : List (Str × Nat)} {pos : Pos} {t : MT} {mi : MI} {cs : MEs} {e : ME} (hc : X.calm = true) (hN : X.N.Nodup) (hi : PI X tg iter (tI cl X.K CA mi)) (ok : BlkOk X.N X.env.scope scope own) (hnd : (own.map (·.2)).Nodup) (ht : t.inOwn (own.map (·.2)) = true)
    (hg : ∀ (s : Shared) (H : Hp) (C : Addr) (ce : List (Str × Addr)) (fp : List Addr) (pn : List Nat), (∀ i ∈ own.map (·.2), i ∉ pn) → PG (X.blk s H scope (compEnvC scope ce C X.env) fp) tg (tBn X.K CA pn (bindT cl t)))
    (hcs : ∀ (s : Shared) (H : Hp) (C : Addr) (ce : List (Str × Addr)) (fp : List Addr), PTs (X.blk s H scope (compEnvC scope ce C X.env) fp) ifs (tCs cl X.K CA cs))
    (he : ∀ (s : Shared) (H : Hp) (C : Addr) (ce : List (Str × Addr)) (fp : List Addr), PE (X.blk s H scope (compEnvC scope ce C X.env) fp) elt (tE cl X.K CA e)) (hs : ∀ x, foldedSetIterable iter X.env x = pure x) :
    PE X (.ListComp elt [⟨tg, iter, ifs, 0⟩] scope pos) (tE cl X.K CA (.lc (own.map (·.2)) t mi cs e)) := by
  refine PE.imp (pe_lc hc hN hi ok (fun s H C ce fp => pg_own (hg s H C ce fp)) hcs he hs) fun σ H Q ⟨w, P, ρ, F, d, ρ', hw, s, e0, k⟩ => ?_
  simp only [ev] at e0
  obtain ⟨⟨items, ρ1⟩, e1, e2⟩ := Option.bind_eq_some_iff.mp e0
  obtain ⟨⟨acc, ρe⟩, e3, e4⟩ := Option.map_eq_some_iff.mp e2
  simp only [Prod.mk.injEq] at e4
  obtain ⟨rfl, rfl⟩ := e4
  exact ⟨w, P, ρ, F, items, ρ1, hw, s, e1, fun J H1 Z1 F1 p D hD => lc_turns hw s p hD hnd ht (fun _ => trivial) (fun _ _ _ _ q => q) (fun _ _ _ q => q) (fun _ _ _ q => q) e3 k⟩
end Mp
set_option Elab.async false
set_option linter.all false
set_option maxRecDepth 100000
set_option maxHeartbeats 2000000
/-! # Mp: name = [.. for ..] -/
namespace Mp
open PySem L2
variable {X : Cx} {cl : Call} {K : PySem.W.Frag} {CA : Nat → Option Addr} {pn : List Nat}

theorem t_fr {a : ME} (hp : a.pl = false) {σ : St} {H : Hp} {Q : VK} (q : tE cl K CA (.fr a) σ H Q) : tE cl K CA a σ H Q := by
  obtain ⟨w, P, ρ, F, d, ρ', hw, s, e, k⟩ := q
  simp only [ev, hp, Bool.false_eq_true, if_false, Option.map_eq_some_iff, Prod.mk.injEq] at e
  obtain ⟨⟨d', ρ1⟩, e, rfl, rfl⟩ := e
  refine ⟨w, P, ρ, F, d', ρ1, hw, s, e, fun v H' Z G F' p => ?_⟩
  have a1 := p.aft
  rw [hp] at a1
  have a1 : Aft w.Fz P F H Z H' (G ++ F') := a1
  refine k v H' (fun x => Z x ∨ x ∈ G) [] F' ⟨by simpa [ME.pl] using a1.frz p.rep.live, ?_, ?_, fun e => (by cases e), fun e => ?_⟩
  · exact REnv.stays (w := w.wz Z) (w' := w.wz fun x => Z x ∨ x ∈ G) ⟨rfl, rfl, fun _ h => .inl h, fun _ h => h⟩ p.env ⟨fun _ _ => rfl, fun _ _ => rfl, fun _ _ => rfl⟩
  · exact p.rep.fz (w := w.wz Z) (Z := fun x => Z x ∨ x ∈ G) (fun _ h => .inl h) fun a q => .inr q
  · simp only [ME.still, Bool.and_eq_true] at e
    exact p.still e.1
theorem lc_tLc {own : List Nat} {t : MT} {mi : MI} {cs : MEs} {e : ME} (hnd : own.Nodup) (ht : t.inOwn own = true) {σ : St} {H : Hp} {Q : VK} (q : tE cl K CA (.lc own t mi cs e) σ H Q) :
    tLc (tI cl K CA mi) (tBO K CA own (bindT cl t)) (tCs cl K CA cs) (tE cl K CA e) own σ H Q := by
  obtain ⟨w, P, ρ, F, d, ρ', hw, s, e0, k⟩ := q
  simp only [ev] at e0
  obtain ⟨⟨items, ρ1⟩, e1, e2⟩ := Option.bind_eq_some_iff.mp e0
  obtain ⟨⟨acc, ρe⟩, e3, e4⟩ := Option.map_eq_some_iff.mp e2
  simp only [Prod.mk.injEq] at e4
  obtain ⟨rfl, rfl⟩ := e4
  exact ⟨w, P, ρ, F, items, ρ1, hw, s, e1, fun J H1 Z1 F1 p D hD => lc_turns hw s p hD hnd ht (fun _ => trivial) (fun _ _ _ _ q => q) (fun _ _ _ q => q) (fun _ _ _ q => q) e3 k⟩
theorem s_setLc {i : Nat} {y : Str} {py : Pos} {elt tg iter : Expr} {ifs : List Expr} {scope : Scope} {own : List (Str × Nat)} {pos spos : Pos} {t : MT} {mi : MI} {cs : MEs} {e m : ME} (hc : X.calm = true) (hN : X.N.Nodup) (hy : X.N[i]? = some y) (hyl : X.env.scope.names.lookup y = some .local) (hp : i ∉ pn)
    (hsw : swapsWith (.ListComp elt [⟨tg, iter, ifs, 0⟩] scope pos) (some (.Name y py)) spos.line X.env = pure true)
    (hm : m = .lc (own.map (·.2)) t mi cs e ∨ m = .fr (.lc (own.map (·.2)) t mi cs e))
    (hi : PI X tg iter (tI cl X.K CA mi)) (ok : BlkOk X.N X.env.scope scope own) (hnd : (own.map (·.2)).Nodup) (ht : t.inOwn (own.map (·.2)) = true)
    (hg : ∀ (s : Shared) (H : Hp) (C : Addr) (ce : List (Str × Addr)) (fp : List Addr) (pn : List Nat), (∀ i ∈ own.map (·.2), i ∉ pn) → PG (X.blk s H scope (compEnvC scope ce C X.env) fp) tg (tBn X.K CA pn (bindT cl t)))
    (hcs : ∀ (s : Shared) (H : Hp) (C : Addr) (ce : List (Str × Addr)) (fp : List Addr), PTs (X.blk s H scope (compEnvC scope ce C X.env) fp) ifs (tCs cl X.K CA cs))
    (he : ∀ (s : Shared) (H : Hp) (C : Addr) (ce : List (Str × Addr)) (fp : List Addr), PE (X.blk s H scope (compEnvC scope ce C X.env) fp) elt (tE cl X.K CA e)) (hs : ∀ x, foldedSetIterable iter X.env x = pure x) :
    PS X (.Assign [.Name y py] (.ListComp elt [⟨tg, iter, ifs, 0⟩] scope pos) spos) (tX X.K CA pn (xs cl (.asg (.nm i) m))) := by
  refine PS.imp (ps_setLc hc hN hy hyl hsw hi ok (fun s H C ce fp => pg_own (hg s H C ce fp)) hcs he hs) fun D σ H q => ?_
  have h1 := t_asg q
  have h2 : tE cl X.K CA (.lc (own.map (·.2)) t mi cs e) σ H fun v H1 => tBd X.K CA pn (bindT cl (.nm i)) v σ H1 D.nx := by
    rcases hm with rfl | rfl
    · exact h1
    · exact t_fr rfl h1
  refine lc_tLc hnd ht (tG_mono h2 fun v H1 ⟨w, P, ρ, F, d, G, ρ', hw, s, r, g, e, k⟩ => ?_)
  simp only [bindT, Option.some.injEq] at e
  subst e
  obtain ⟨F', p⟩ := store_name s r g hp
  exact k _ _ _ _ p
end Mp
set_option Elab.async false
set_option linter.all false
set_option maxRecDepth 100000
set_option maxHeartbeats 2000000
/-! # Mp: a term and the text it stands for, checked -/
namespace Mp
open PySem L2

/-- what is known of the module's names -/
structure Glob where
  fns : List (Str × Nat)
  cls : List (Str × Nat × Nat)
  mets : List (Nat × Str × Nat)
  cons : List (Str × V)
  blts : List Str
  bnds : List (Nat × List V)
  kbs : List (Nat × Nat × List Str)
structure GF (G : Glob) (P : Program) (w : World) (K : PySem.W.Frag) (mg : Str → Option Value) (base : Heap) (CA : Nat → Option Addr) (cl : Call) (lv : Nat) : Prop where
  cf : ClsOk K CA
  fn : ∀ x fid, (x, fid) ∈ G.fns → ∃ fa fd ps, mg x = some (.ref fa) ∧ PySem.W.keepIn K (.ref fa) = true ∧ FnG P w K mg base CA cl lv fa fd ps fid ∧
    (∀ dvs, (fid, dvs) ∈ G.bnds → ∃ ds, Binds K fd ps ds ∧ Vals dvs ds) ∧ ∀ n ks, (fid, n, ks) ∈ G.kbs → KBinds' K fd ps n ks
  cls : ∀ x c i, (x, c, i) ∈ G.cls → ∃ C fa fd ps, mg x = some (.ref C) ∧ CA c = some C ∧ Mk K C fa ∧ FnG P w K mg base CA cl lv fa fd ps i ∧ ∀ dvs, (i, dvs) ∈ G.bnds → ∃ ds, Binds K fd ps ds ∧ Vals dvs ds
  met : ∀ c m fid, (c, m, fid) ∈ G.mets → ∃ fa fd ps, (∀ C, CA c = some C → Meth K C m fa) ∧ FnG P w K mg base CA cl lv fa fd ps fid ∧ ∀ dvs, (fid, dvs) ∈ G.bnds → ∃ ds, Binds K fd ps ds ∧ Vals dvs ds
  con : ∀ x v, (x, v) ∈ G.cons → ∃ u, mg x = some u ∧ RelV v u
  blt : ∀ x, x ∈ G.blts → mg x = none
  eq : ∀ c C io ds r, CA c = some C → cl (10000 + c) io ds = some r → ∃ fa fd ps, FnG P w K mg base CA cl lv fa fd ps (10000 + c) ∧ Binds K fd ps [] ∧ PySem.W.findIn K (.ref C) "__eq__" = some (some (.ref fa)) ∧ PySem.W.isFn K (.ref fa) = true
/-- a block's scope as it is there, and its own names that are cells -/
structure SC where
  s : Scope
  f : List Str
def cellsOf (sc : Scope) : List Str := sc.names.filterMap fun q => if q.2 == .cell then some q.1 else none
def SC.ofDef (sc : Scope) : SC := ⟨sc, cellsOf sc⟩
def relS (scope sc : Scope) : Scope := { scope with names := scope.names.map fun (n, k) => if (k == NameKind.free && sc.kind == .function && sc.names.lookup n == some .cell) then (n, NameKind.cell) else (n, k) }
def SC.blk (scope : Scope) (sc : SC) : SC := ⟨relS scope sc.s, cellsOf scope⟩
structure XOk (G : Glob) (N : List Str) (sc : SC) (CA : Nat → Option Addr) (cl : Call) (lv : Nat) (X : Cx) : Prop where
  n : X.N = N
  nd : N.Nodup
  scE : X.env.scope = sc.s
  kind : sc.s.kind = .function
  calm : X.calm = true
  gd : X.A.guards = some []
  room : Room (lv + 1) X.A
  xe : X.xe = fun _ _ => False
  fnc : ∀ x, x ∈ sc.f → X.fn x = true
  gf : GF G X.prog X.w X.K X.mg X.base CA cl lv

/-! ### the checks -/
def visB (sc : SC) (x : Str) : Bool := match sc.s.names.lookup x with
  | some .local => true
  | some .cell => true
  | some .free => true
  | _ => false
def locB (sc : SC) (x : Str) : Bool := match sc.s.names.lookup x with
  | some .local => true
  | some .cell => sc.f.contains x
  | _ => false
def glB (sc : SC) (x : Str) : Bool := match sc.s.names.lookup x with
  | some .globalImplicit => decide (x ≠ "__debug__")
  | _ => false
def nmB (N : List Str) (sc : SC) (i : Nat) : Expr → Bool
  | .Name x _ => decide (N[i]? = some x) && visB sc x && !(x == ("__debug__" : Str)) && !(x == ("__classdict__" : Str))
  | _ => false
/-- no call without arguments of a name -/
def noC0 : Expr → Bool
  | .Call (.Name _ _) [] [] _ => false
  | _ => true
def notSet : Expr → Bool
  | .Set _ _ _ => false
  | _ => true
def tyNames : List String := ["str", "int", "bool", "list", "dict", "tuple"]
def dflV : MEs → Option (List V)
  | .nil => some []
  | .cons m ms => match m.cst, dflV ms with
    | some d, some vs => match d.sc with
      | some v => some (v :: vs)
      | none => none
    | _, _ => none
def MEs.dropN : Nat → MEs → MEs
  | 0, ms => ms
  | _ + 1, .nil => .nil
  | n + 1, .cons _ ms => MEs.dropN n ms
def bmName (m : Bm) : Str := (bmT m).2.1
def ownL (N : List Str) (own : List Nat) : List (Str × Nat) := own.map fun i => (N.getD i Str.empty, i)
/-- the keywords' names are there -/
def kwOk (kws : List Keyword) : Bool := kws.all fun k => k.arg.isSome

mutual
def cE (G : Glob) (N : List Str) : Nat → SC → Expr → ME → Bool
  | 0, _, _, _ => false
  | n + 1, sc, e, m => match e with
    | .BoolOp _ [x] _ => cE G N n sc x m
    | e => match m with
      | .var i => nmB N sc i e
      | .mv i => nmB N sc i e
      | .fz i => nmB N sc i e
      | .fr a => !a.pl && cE G N n sc e a
      | .bw a => cE G N n sc e a
      | .kn => (match e with | .Constant .none _ _ => true | _ => false)
      | .kb b => (match e with | .Constant (.bool c) _ _ => decide (c = b) | _ => false)
      | .ki i => (match e with | .Constant (.int c) _ _ => decide (c = i) | _ => false)
      | .ks x => (match e with | .Constant (.str c) _ _ => decide (c = x) | _ => false)
      | .gl y d => (match e with
        | .Name x _ => decide (x = y) && glB sc x && (match d.sc with | some v => decide ((x, v) ∈ G.cons) | none => false)
        | _ => false)
      | .not a => (match e with | .UnaryOp .Not x _ => cE G N n sc x a | _ => false)
      | .and a b => (match e with | .BoolOp .And (x :: y :: r) p => cE G N n sc x a && cE G N n sc (.BoolOp .And (y :: r) p) b | _ => false)
      | .or a b => (match e with | .BoolOp .Or (x :: y :: r) p => cE G N n sc x a && cE G N n sc (.BoolOp .Or (y :: r) p) b | _ => false)
      | .ite c a b => (match e with | .IfExp t x y _ => cT G N n sc t c && cE G N n sc x a && cE G N n sc y b | _ => false)
      | .chn o o' a b c => (match e with | .Compare x [p, q] [y, z] _ => decide (p = copOf o) && decide (q = copOf o') && !lastMarks [p, q] [y, z] && cE G N n sc x a && cE G N n sc y b && cE G N n sc z c | _ => false)
      | .lst ms => (match e with | .List es _ => cEs G N n sc es ms | _ => false)
      | .tup ms => (match e with | .Tuple es _ _ => cEs G N n sc es ms | _ => false)
      | .dic ms => (match e with | .Dict ks es _ => (match ks with | [] => (match es, ms with | [], .nil => true | _, _ => false) | _ => cKs G N n sc ks es ms && decide (ks.length ≤ 15)) | _ => false)
      | .op o ms => cO G N n sc e o ms
      | .call f ms => (match e with
        | .Call (.Name x _) es [] _ => glB sc x && decide ((x, f) ∈ G.fns) && (match dflV (MEs.dropN es.length ms) with | some dvs => decide ((f, dvs) ∈ G.bnds) && cA G N n sc es ms dvs | none => false)
        | .Call (.Name x _) es kws _ => glB sc x && decide ((x, f) ∈ G.fns) && decide ((f, es.length, kwNames kws) ∈ G.kbs) && cP G N n sc es kws ms
        | _ => false)
      | .mk c f ms => (match e with
        | .Call (.Name x _) es [] _ => glB sc x && decide ((x, c, f) ∈ G.cls) && (match dflV (MEs.dropN es.length ms) with | some dvs => decide ((f, dvs) ∈ G.bnds) && cA G N n sc es ms dvs | none => false)
        | _ => false)
      | .meth c m f ms => (match e, ms with
        | .Call (.Attribute o m' ap) es [] pos, .cons a ms => decide (m' = m) && decide ((c, m, f) ∈ G.mets) && noC0 o && (ap.endLine == pos.line) && decide (es.length < 29) && cR G N n sc o a &&
          (match dflV (MEs.dropN es.length ms) with | some dvs => decide ((f, dvs) ∈ G.bnds) && cA G N n sc es ms dvs | none => false)
        | _, _ => false)
      | .lc own t mi cs x => (match e with
        | .ListComp elt [⟨tg, it, ifs, a⟩] scope _ => decide (a = 0) && cL G N n sc elt tg it ifs scope own t mi cs x
        | _ => false)
      | _ => false
/-- a comprehension's parts -/
def cL (G : Glob) (N : List Str) : Nat → SC → Expr → Expr → Expr → List Expr → Scope → List Nat → MT → MI → MEs → ME → Bool
  | 0, _, _, _, _, _, _, _, _, _, _, _ => false
  | n + 1, sc, elt, tg, it, ifs, scope, own, t, mi, cs, x => blkC N sc.s scope (ownL N own) && decide own.Nodup && t.inOwn own && notSet it && cI G N n sc it mi && cN N n (.blk scope sc) tg t && cE G N n (.blk scope sc) elt x &&
      (match ifs, cs with
        | [], .nil => true
        | [c], .cons m .nil => cT G N n (.blk scope sc) c m
        | _, _ => false)
/-- operators, subscripts, built-in calls -/
def cO (G : Glob) (N : List Str) : Nat → SC → Expr → Op → MEs → Bool
  | 0, _, _, _, _ => false
  | n + 1, sc, e, o, ms => match ms with
    | .cons a .nil => (match e with
      | .UnaryOp .USub x _ => (match o with | .neg => cE G N n sc x a | _ => false)
      | .Attribute x f _ => (match o with | .fld g => decide (f = g) && noC0 x && cE G N n sc x a | _ => false)
      | .Subscript x (.Slice none none none _) _ => (match o with | .slc false false => cE G N n sc x a | _ => false)
      | .Subscript x (.Slice none none (some (.UnaryOp .USub (.Constant (.int i) _ _) _)) _) _ => (match o with | .rev => decide (i = 1) && cE G N n sc x a | _ => false)
      | .Call (.Name f _) [x] [] _ => (match o with | .bi b => decide (f = biName b) && biOk b && glB sc f && decide (f ∈ G.blts) && noStar x && cE G N n sc x a | _ => false)
      | .Call (.Name f _) [x, .Name y _] [] _ => (match o with
        | .bi (.isin [t]) => decide (f = "isinstance") && glB sc f && decide (f ∈ G.blts) && glB sc y && decide (y ∈ G.blts) && decide (t ∈ tyNames) && decide (y = Str.ofString t) && noStar x && cE G N n sc x a
        | .isc c => decide (f = "isinstance") && glB sc f && decide (f ∈ G.blts) && glB sc y && (G.cls.any fun q => decide (q.1 = y) && decide (q.2.1 = c)) && noStar x && cE G N n sc x a
        | _ => false)
      | .Call (.Attribute x f ap) [] [] pos => (match o with | .bm b => decide (f = bmName b) && bmOk b && noC0 x && (ap.endLine == pos.line) && cE G N n sc x a | _ => false)
      | _ => false)
    | .cons a (.cons b .nil) => (match e with
      | .BinOp x p y _ => (match o with | .bin q => decide (p = bopOf q) && cE G N n sc x a && cE G N n sc y b | _ => false)
      | .Compare x [p] [y] _ => (match o with | .cmp q => decide (p = copOf q) && !behindInMarks p y && cE G N n sc x a && cE G N n sc y b | _ => false)
      | .Subscript x (.Slice (some y) none none _) _ => (match o with | .slc true false => cE G N n sc x a && cE G N n sc y b | _ => false)
      | .Subscript x (.Slice none (some y) none _) _ => (match o with | .slc false true => cE G N n sc x a && cE G N n sc y b | _ => false)
      | .Subscript x y _ => (match o with | .sub => noSl y && cE G N n sc x a && cE G N n sc y b | _ => false)
      | .Call (.Name f _) [x, y] [] _ => (match o with | .bi q => decide (f = biName q) && biOk2 q && glB sc f && decide (f ∈ G.blts) && noStar x && noStar y && cE G N n sc x a && cE G N n sc y b | _ => false)
      | .Call (.Attribute x f ap) es [] pos => (match o with | .bm q => decide (f = bmName q) && bmOk q && noC0 x && (ap.endLine == pos.line) && decide (es.length < 29) && cE G N n sc x a && cEs G N n sc es (.cons b .nil) | _ => false)
      | .JoinedStr (e1 :: e2 :: es) _ => (match o with | .fst => cF G N n sc (e1 :: e2 :: es) ms | _ => false)
      | _ => false)
    | .cons a (.cons b (.cons c ms')) => (match e with
      | .Subscript x (.Slice (some y) (some z) none _) _ => (match o, ms' with | .slc true true, .nil => cE G N n sc x a && cE G N n sc y b && cE G N n sc z c | _, _ => false)
      | .Call (.Attribute x f ap) es [] pos => (match o with | .bm q => decide (f = bmName q) && bmOk q && noC0 x && (ap.endLine == pos.line) && decide (es.length < 29) && cE G N n sc x a && cEs G N n sc es (.cons b (.cons c ms')) | _ => false)
      | .JoinedStr (e1 :: e2 :: es) _ => (match o with | .fst => cF G N n sc (e1 :: e2 :: es) ms | _ => false)
      | _ => false)
    | _ => false
def cEs (G : Glob) (N : List Str) : Nat → SC → List Expr → MEs → Bool
  | 0, _, _, _ => false
  | n + 1, sc, es, ms => match es, ms with
    | [], .nil => true
    | e :: es, .cons m ms => noStar e && cE G N n sc e m && cEs G N n sc es ms
    | _, _ => false
def cF (G : Glob) (N : List Str) : Nat → SC → List Expr → MEs → Bool
  | 0, _, _, _ => false
  | n + 1, sc, es, ms => match es, ms with
    | [], .nil => true
    | .Constant (.str c) _ _ :: es, .cons (.ks x) ms => decide (c = x) && cF G N n sc es ms
    | .FormattedValue e c none _ :: es, .cons m ms => decide (c = -1) && cE G N n sc e m && cF G N n sc es ms
    | _, _ => false
def cKs (G : Glob) (N : List Str) : Nat → SC → List (Option Expr) → List Expr → MKs → Bool
  | 0, _, _, _, _ => false
  | n + 1, sc, ks, es, ms => match ks, es, ms with
    | [], [], .nil => true
    | some k :: ks, e :: es, .cons mk m ms => cE G N n sc k mk && cE G N n sc e m && cKs G N n sc ks es ms
    | _, _, _ => false
/-- one argument -/
def cA1 (G : Glob) (N : List Str) : Nat → SC → Expr → ME → Bool
  | 0, _, _, _ => false
  | n + 1, sc, e, m => match m with
    | .var i => nmB N sc i e
    | .io i => nmB N sc i e
    | .it a => cE G N n sc e a
    | m => cE G N n sc e m
/-- arguments; the defaults dvs behind them -/
def cA (G : Glob) (N : List Str) : Nat → SC → List Expr → MEs → List V → Bool
  | 0, _, _, _, _ => false
  | n + 1, sc, es, ms, dvs => match es, ms with
    | [], ms => decide (dflV ms = some dvs)
    | e :: es, .cons m ms => noStar e && cA1 G N n sc e m && cA G N n sc es ms dvs
    | _, _ => false
def cP (G : Glob) (N : List Str) : Nat → SC → List Expr → List Keyword → MEs → Bool
  | 0, _, _, _, _ => false
  | n + 1, sc, es, kws, ms => match es, kws, ms with
    | e :: es, kws, .cons m ms => noStar e && cA1 G N n sc e m && cP G N n sc es kws ms
    | [], ⟨some _, e, _⟩ :: kws, .cons m ms => cA1 G N n sc e m && cP G N n sc [] kws ms
    | [], [], .nil => true
    | _, _, _ => false
def cR (G : Glob) (N : List Str) : Nat → SC → Expr → ME → Bool
  | 0, _, _, _ => false
  | n + 1, sc, e, m => cA1 G N n sc e m
/-- tests -/
def cT (G : Glob) (N : List Str) : Nat → SC → Expr → ME → Bool
  | 0, _, _, _ => false
  | n + 1, sc, e, m => match e with
    | .UnaryOp .Not x _ => (match m with | .not a => cT G N n sc x a | _ => false)
    | .BoolOp o xs p => cW G N n sc o xs p m
    | .Compare x [p] [y] _ => (match m with | .op (.cmp q) (.cons a (.cons b .nil)) => decide (p = copOf q) && !behindInMarks p y && cE G N n sc x a && cE G N n sc y b | _ => false)
    | .Compare x [p, q] [y, z] _ => (match m with | .chn o o' a b c => decide (p = copOf o) && decide (q = copOf o') && !lastMarks [p, q] [y, z] && cE G N n sc x a && cE G N n sc y b && cE G N n sc z c | _ => false)
    | e => plainT e && cE G N n sc e m
def cW (G : Glob) (N : List Str) : Nat → SC → BoolOp → List Expr → Pos → ME → Bool
  | 0, _, _, _, _, _ => false
  | n + 1, sc, o, xs, p, m => match xs with
    | [x] => cT G N n sc x m
    | x :: y :: r => (match o, m with
      | .And, .and a b => cT G N n sc x a && cW G N n sc .And (y :: r) p b
      | .Or, .or a b => cT G N n sc x a && cW G N n sc .Or (y :: r) p b
      | _, _ => false)
    | [] => false
/-- what is walked -/
def cI (G : Glob) (N : List Str) : Nat → SC → Expr → MI → Bool
  | 0, _, _, _ => false
  | n + 1, sc, e, mi => match mi with
    | .seq m => cE G N n sc e m
    | .rng a b => (match e with
      | .Call (.Name f _) [x] [] _ => decide (f = "range") && glB sc f && decide (f ∈ G.blts) && noStar x && (match a with | .ki i => decide (i = 0) | _ => false) && cE G N n sc x b
      | .Call (.Name f _) [x, y] [] _ => decide (f = "range") && glB sc f && decide (f ∈ G.blts) && noStar x && noStar y && cE G N n sc x a && cE G N n sc y b
      | _ => false)
    | .rng3 a b c => (match e with
      | .Call (.Name f _) [x, y, z] [] _ => decide (f = "range") && glB sc f && decide (f ∈ G.blts) && noStar x && noStar y && noStar z && cE G N n sc x a && cE G N n sc y b && cE G N n sc z c
      | _ => false)
    | _ => false
/-- a target of names -/
def cN (N : List Str) : Nat → SC → Expr → MT → Bool
  | 0, _, _, _ => false
  | n + 1, sc, tg, t => match t with
    | .nm i => (match tg with | .Name x _ => decide (N[i]? = some x) && locB sc x | _ => false)
    | .tp ts => (match tg with | .Tuple es _ _ => cNs N n sc es ts | _ => false)
    | _ => false
def cNs (N : List Str) : Nat → SC → List Expr → MTs → Bool
  | 0, _, _, _ => false
  | n + 1, sc, es, ts => match es, ts with
    | [], .nil => true
    | e :: es, .cons t ts => noStar e && cN N n sc e t && cNs N n sc es ts
    | _, _ => false
end
end Mp
set_option Elab.async false
set_option linter.all false
set_option maxRecDepth 100000
set_option maxHeartbeats 4000000
/-! # Mp: the checks are right: expressions -/
namespace Mp
open PySem L2
variable {G : Glob} {N : List Str} {CA : Nat → Option Addr} {cl : Call} {lv : Nat} {X : Cx} {sc : SC}

theorem XOk.hu (h : XOk G N sc CA cl lv X) : X.A.units + 65 < cLine := by have := h.room.un; omega
theorem XOk.hr (h : XOk G N sc CA cl lv X) : Room lv X.A := h.room.mono (Nat.le_succ _)
theorem XOk.gl {x : Str} (h : XOk G N sc CA cl lv X) (e : glB sc x = true) : Gl X x ∧ (x == ("__debug__" : Str)) = false := by
  unfold glB at e
  split at e
  · rename_i q
    refine ⟨?_, by simpa using e⟩
    show X.env.scope.names.lookup x = _
    rw [h.scE, q]
  · cases e
theorem XOk.nm {e : Expr} {i : Nat} (h : XOk G N sc CA cl lv X) (q : nmB N sc i e = true) : ∃ x p, e = .Name x p ∧ NameOk X i x := by
  unfold nmB at q
  split at q
  · rename_i x p
    simp only [Bool.and_eq_true, decide_eq_true_eq, Bool.not_eq_true'] at q
    obtain ⟨⟨⟨q1, q2⟩, q3⟩, q4⟩ := q
    refine ⟨x, p, rfl, by rw [h.n]; exact q1, ?_, q3, q4⟩
    rw [h.scE]
    unfold visB at q2
    unfold Vis
    split at q2
    · exact .inl (by assumption)
    · exact .inr (.inl (by assumption))
    · exact .inr (.inr (by assumption))
    · cases q2
  · cases q
theorem XOk.eqOk (h : XOk G N sc CA cl lv X) : EqOk X CA cl := fun c C io ds r hC e => by
  obtain ⟨fa, fd, ps, F, b, f1, f2⟩ := h.gf.eq c C io ds r hC e
  exact ⟨lv, fa, fd, ps, F, h.hr, b, f1, f2⟩
theorem XOk.cmp (h : XOk G N sc CA cl lv X) (o : Cop) : CmpR X cl CA o := cmp_all h.eqOk h.gd h.hu o
theorem attr_plain {x : Expr} {f : Str} {env : PySem.Env} (h : noC0 x = true) : attributeBase x f env (eval x env) = eval x env := by
  unfold attributeBase
  split
  · cases h
  · rfl
theorem marks_ok {o : CmpOp} {y : Expr} (h : (!behindInMarks o y) = true) : behindInMarks o y = false := by simpa using h
theorem rel_eq {scope : Scope} {env : PySem.Env} {sc : Scope} (h : env.scope = sc) : relabel scope env = relS scope sc := by
  subst h
  rfl
theorem cells_mem {sc : Scope} {x : Str} (hu : ∀ y ∈ sc.names, sc.names.lookup y.1 = some y.2) (h : x ∈ cellsOf sc) : sc.names.lookup x = some .cell := by
  unfold cellsOf at h
  obtain ⟨y, h1, h2⟩ := List.mem_filterMap.mp h
  split at h2
  · rename_i q
    cases h2
    have := hu y h1
    rw [beq_iff_eq.mp q] at this
    exact this
  · cases h2
theorem blk_ok (h : XOk G N sc CA cl lv X) {scope : Scope} (hk : scope.kind = .function) (hu : ∀ y ∈ scope.names, scope.names.lookup y.1 = some y.2) (s : Shared) (H : Hp) (C : Addr) (ce : List (Str × Addr)) (fp : List Addr) : XOk G N (.blk scope sc) CA cl lv (X.blk s H scope (compEnvC scope ce C X.env) fp) :=
  ⟨h.n, h.nd, rel_eq h.scE, hk, h.calm, h.gd, h.room, rfl, fun x q => by show (scope.names.lookup x == some .cell) = true; rw [cells_mem hu q]; rfl, h.gf⟩
theorem notSet_fold {e : Expr} {env : PySem.Env} (h : notSet e = true) (x : Value) : foldedSetIterable e env x = pure x := by
  cases e <;> first | rfl | cases h
theorem dfl_of : ∀ {ms : MEs} {dvs : List V}, dflV ms = some dvs → Dfl ms dvs
  | .nil, dvs, h => by simp only [dflV, Option.some.injEq] at h; subst h; exact .nil
  | .cons m ms, dvs, h => by
    simp only [dflV] at h
    split at h
    · rename_i d vs e1 e2
      split at h
      · rename_i v e3
        cases h
        exact .cons e1 e3 (dfl_of e2)
      · cases h
    · cases h
/-- an argument by its kind -/
def Arg1 (X : Cx) (cl : Call) (CA : Nat → Option Addr) (e : Expr) (m : ME) : Prop :=
  (∃ i, m = .var i ∧ PE X e (tVar i)) ∨ (∃ i, m = .io i ∧ PE X e (tVar i)) ∨ (∃ a, m = .it a ∧ PE X e (tE cl X.K CA a)) ∨ (m.arg = true ∧ PE X e (tE cl X.K CA m))
theorem Arg1.args {e : Expr} {m : ME} {es : List Expr} {ms : MEs} {dvs : List V} (h : Arg1 X cl CA e m) (s : noStar e = true) (r : Args X cl CA es ms dvs) : Args X cl CA (e :: es) (.cons m ms) dvs := by
  rcases h with ⟨i, rfl, h⟩ | ⟨i, rfl, h⟩ | ⟨a, rfl, h⟩ | ⟨hm, h⟩
  · exact .var h s r
  · exact .io h s r
  · exact .it h s r
  · exact .cons hm h s r
theorem Arg1.pargs {e : Expr} {m : ME} {es : List Expr} {ms mr : MEs} (h : Arg1 X cl CA e m) (s : noStar e = true) (r : PArgs X cl CA es ms mr) : PArgs X cl CA (e :: es) (.cons m ms) mr := by
  rcases h with ⟨i, rfl, h⟩ | ⟨i, rfl, h⟩ | ⟨a, rfl, h⟩ | ⟨hm, h⟩
  · exact .var h s r
  · exact .io h s r
  · exact .it h s r
  · exact .cons hm h s r
theorem Arg1.kargs {x : Str} {p : Pos} {e : Expr} {m : ME} {es : List Keyword} {ms : MEs} (h : Arg1 X cl CA e m) (r : KArgs X cl CA es ms) : KArgs X cl CA (⟨some x, e, p⟩ :: es) (.cons m ms) := by
  rcases h with ⟨i, rfl, h⟩ | ⟨i, rfl, h⟩ | ⟨a, rfl, h⟩ | ⟨hm, h⟩
  · exact .var h r
  · exact .io h r
  · exact .it h r
  · exact .cons hm h r
theorem Arg1.recv {e : Expr} {m : ME} (h : Arg1 X cl CA e m) : Recv X cl CA e m := by
  rcases h with ⟨i, rfl, h⟩ | ⟨i, rfl, h⟩ | ⟨a, rfl, h⟩ | ⟨hm, h⟩
  · exact .var h
  · exact .io h
  · exact .it h
  · exact .cons hm h

/-! ### targets of names -/
mutual
theorem cN_ok {own pn : List Nat} (hp : ∀ i ∈ own, i ∉ pn) : ∀ {n : Nat} {sc : SC} {X : Cx} {tg : Expr} {t : MT}, XOk G N sc CA cl lv X → cN N n sc tg t = true → t.inOwn own = true → PG X tg (tBn X.K CA pn (bindT cl t))
  | 0, _, _, _, _, _, h, _ => by simp [cN] at h
  | n + 1, sc, X, tg, t, hx, h, ho => by
    cases t with
    | nm i =>
      simp only [cN] at h
      split at h
      · rename_i x p
        simp only [Bool.and_eq_true, decide_eq_true_eq] at h
        simp only [MT.inOwn, List.contains_iff_mem] at ho
        have hl : Loc X.env.scope x ∧ (X.fn x = true ∨ X.env.scope.names.lookup x = some .local) := by
          rw [hx.scE]
          have q := h.2
          unfold locB at q
          split at q
          · exact ⟨.inl (by assumption), .inr (by assumption)⟩
          · exact ⟨.inr (by assumption), .inl (hx.fnc x (by simpa using q))⟩
          · cases q
        exact n_nm (by rw [hx.n]; exact hx.nd) (by rw [hx.n]; exact h.1) hl.1 hl.2 (hp i ho)
      · cases h
    | tp ts =>
      simp only [cN] at h
      split at h
      · rename_i es k p
        have q := cNs_ok hp hx h (by simpa only [MT.inOwn] using ho)
        exact n_tp hx.calm q.2.1 q.2.2 q.1
      · cases h
    | st i p k => simp [cN] at h
theorem cNs_ok {own pn : List Nat} (hp : ∀ i ∈ own, i ∉ pn) : ∀ {n : Nat} {sc : SC} {X : Cx} {es : List Expr} {ts : MTs}, XOk G N sc CA cl lv X → cNs N n sc es ts = true → ts.inOwn own = true → PGs X es (tBns X.K CA pn (bindTs cl ts)) ∧ (assignEach es X.env).length = ts.len ∧ (assignEach es X.env).findIdx? (·.1) = none
  | 0, _, _, _, _, _, h, _ => by simp [cNs] at h
  | n + 1, sc, X, es, ts, hx, h, ho => by
    cases ts with
    | nil =>
      cases es with
      | nil => exact ⟨ns_nil, rfl, rfl⟩
      | cons e es => simp [cNs] at h
    | cons t ts =>
      cases es with
      | nil => simp [cNs] at h
      | cons e es =>
        simp only [cNs, Bool.and_eq_true] at h
        simp only [MTs.inOwn, Bool.and_eq_true] at ho
        obtain ⟨a, b, c⟩ := cNs_ok hp hx h.2 ho.2
        refine ⟨ns_cons h.1.1 (cN_ok hp hx h.1.2 ho.1) a, ?_, ?_⟩
        · rw [assignE h.1.1, List.length_cons, b]; rfl
        · rw [assignE h.1.1]
          simp only [List.findIdx?_cons, c]
          rfl
end

/-! ### all of them -/
structure Snd (G : Glob) (N : List Str) (CA : Nat → Option Addr) (cl : Call) (lv n : Nat) : Prop where
  e : ∀ {sc : SC} {X : Cx} {e : Expr} {m : ME}, XOk G N sc CA cl lv X → cE G N n sc e m = true → PE X e (tE cl X.K CA m)
  l : ∀ {sc : SC} {X : Cx} {elt tg it : Expr} {ifs : List Expr} {scope : Scope} {own : List Nat} {t : MT} {mi : MI} {cs : MEs} {x : ME}, XOk G N sc CA cl lv X → cL G N n sc elt tg it ifs scope own t mi cs x = true →
    PI X tg it (tI cl X.K CA mi) ∧ BlkOk X.N X.env.scope scope (ownL N own) ∧ ((ownL N own).map (·.2)).Nodup ∧ t.inOwn ((ownL N own).map (·.2)) = true ∧ (ownL N own).map (·.2) = own ∧
    (∀ (s : Shared) (H : Hp) (C : Addr) (ce : List (Str × Addr)) (fp : List Addr) (pn : List Nat), (∀ i ∈ (ownL N own).map (·.2), i ∉ pn) → PG (X.blk s H scope (compEnvC scope ce C X.env) fp) tg (tBn X.K CA pn (bindT cl t))) ∧
    (∀ (s : Shared) (H : Hp) (C : Addr) (ce : List (Str × Addr)) (fp : List Addr), PTs (X.blk s H scope (compEnvC scope ce C X.env) fp) ifs (tCs cl X.K CA cs)) ∧
    (∀ (s : Shared) (H : Hp) (C : Addr) (ce : List (Str × Addr)) (fp : List Addr), PE (X.blk s H scope (compEnvC scope ce C X.env) fp) elt (tE cl X.K CA x)) ∧ ∀ x, foldedSetIterable it X.env x = pure x
  o : ∀ {sc : SC} {X : Cx} {e : Expr} {o : Op} {ms : MEs}, XOk G N sc CA cl lv X → cO G N n sc e o ms = true → PE X e (tE cl X.K CA (.op o ms))
  es : ∀ {sc : SC} {X : Cx} {es : List Expr} {ms : MEs}, XOk G N sc CA cl lv X → cEs G N n sc es ms = true → Opds X cl CA es ms
  f : ∀ {sc : SC} {X : Cx} {es : List Expr} {ms : MEs}, XOk G N sc CA cl lv X → cF G N n sc es ms = true → FParts X cl CA es ms
  ks : ∀ {sc : SC} {X : Cx} {ks : List (Option Expr)} {es : List Expr} {ms : MKs}, XOk G N sc CA cl lv X → cKs G N n sc ks es ms = true → KOpds X cl CA ks es ms
  a1 : ∀ {sc : SC} {X : Cx} {e : Expr} {m : ME}, XOk G N sc CA cl lv X → cA1 G N n sc e m = true → Arg1 X cl CA e m
  a : ∀ {sc : SC} {X : Cx} {es : List Expr} {ms : MEs} {dvs : List V}, XOk G N sc CA cl lv X → cA G N n sc es ms dvs = true → Args X cl CA es ms dvs
  p : ∀ {sc : SC} {X : Cx} {es : List Expr} {kws : List Keyword} {ms : MEs}, XOk G N sc CA cl lv X → cP G N n sc es kws ms = true → ∃ mr, PArgs X cl CA es ms mr ∧ KArgs X cl CA kws mr
  r : ∀ {sc : SC} {X : Cx} {e : Expr} {m : ME}, XOk G N sc CA cl lv X → cR G N n sc e m = true → Recv X cl CA e m
  t : ∀ {sc : SC} {X : Cx} {e : Expr} {m : ME}, XOk G N sc CA cl lv X → cT G N n sc e m = true → PT X e (tT cl X.K CA m)
  w : ∀ {sc : SC} {X : Cx} {o : BoolOp} {xs : List Expr} {p : Pos} {m : ME}, XOk G N sc CA cl lv X → cW G N n sc o xs p m = true → PW X (.BoolOp o xs p) (tT cl X.K CA m)
  i : ∀ {sc : SC} {X : Cx} {tg e : Expr} {mi : MI}, XOk G N sc CA cl lv X → cI G N n sc e mi = true → PI X tg e (tI cl X.K CA mi)
section
variable {n : Nat}
theorem snd_e (S : Snd G N CA cl lv n) {e : Expr} {m : ME} (hx : XOk G N sc CA cl lv X) (h : cE G N (n + 1) sc e m = true) : PE X e (tE cl X.K CA m) := by
  unfold cE at h
  split at h
  · exact pe_one (S.e hx h)
  rename_i ne
  cases m with
  | var i => obtain ⟨x, p, rfl, q⟩ := hx.nm h; exact r_var q
  | mv i => obtain ⟨x, p, rfl, q⟩ := hx.nm h; exact r_mv q
  | fz i => obtain ⟨x, p, rfl, q⟩ := hx.nm h; exact r_fz q
  | fr a =>
    simp only [Bool.and_eq_true, Bool.not_eq_true'] at h
    exact r_fr h.1 (S.e hx h.2)
  | bw a => exact r_bw (S.e hx h)
  | kn => simp only [] at h; split at h <;> first | exact r_kn | cases h
  | kb b =>
    simp only [] at h
    split at h
    · simp only [decide_eq_true_eq] at h; subst h; exact r_kb
    · cases h
  | ki b =>
    simp only [] at h
    split at h
    · simp only [decide_eq_true_eq] at h; subst h; exact r_ki
    · cases h
  | ks b =>
    simp only [] at h
    split at h
    · simp only [decide_eq_true_eq] at h; subst h; exact r_ks
    · cases h
  | gl y d =>
    simp only [] at h
    split at h
    · simp only [Bool.and_eq_true, decide_eq_true_eq] at h
      obtain ⟨⟨rfl, h1⟩, h2⟩ := h
      split at h2
      · rename_i v hv
        simp only [decide_eq_true_eq] at h2
        obtain ⟨u, hm, r⟩ := hx.gf.con _ _ h2
        obtain ⟨g1, g2⟩ := hx.gl h1
        exact r_gl hv g1 hm r g2
      · cases h2
    · cases h
  | not a => simp only [] at h; split at h <;> first | exact r_not (S.e hx h) | cases h
  | and a b =>
    simp only [] at h
    split at h
    · simp only [Bool.and_eq_true] at h
      exact r_and (S.e hx h.1) (S.e hx h.2)
    · cases h
  | or a b =>
    simp only [] at h
    split at h
    · simp only [Bool.and_eq_true] at h
      exact r_or (S.e hx h.1) (S.e hx h.2)
    · cases h
  | ite c a b =>
    simp only [] at h
    split at h
    · simp only [Bool.and_eq_true] at h
      exact r_ite (S.t hx h.1.1) (S.e hx h.1.2) (S.e hx h.2)
    · cases h
  | chn o o' a b c =>
    simp only [] at h
    split at h
    · simp only [Bool.and_eq_true, decide_eq_true_eq, Bool.not_eq_true'] at h
      obtain ⟨⟨⟨⟨⟨rfl, rfl⟩, h1⟩, h2⟩, h3⟩, h4⟩ := h
      exact r_chn hx.hu h1 (S.e hx h2) (S.e hx h3) (S.e hx h4)
    · cases h
  | lst ms => simp only [] at h; split at h <;> first | exact r_lst (S.es hx h) | cases h
  | tup ms => simp only [] at h; split at h <;> first | exact r_tup (S.es hx h) | cases h
  | dic ms =>
    simp only [] at h
    split at h
    · split at h
      · split at h
        · exact r_dnew
        · cases h
      · rename_i hne
        simp only [Bool.and_eq_true, decide_eq_true_eq] at h
        exact r_dic (S.ks hx h.1) (fun q => hne q) h.2
    · cases h
  | op o ms => exact S.o hx h
  | call f ms =>
    simp only [] at h
    split at h
    · simp only [Bool.and_eq_true, decide_eq_true_eq] at h
      obtain ⟨⟨h1, h2⟩, h3⟩ := h
      split at h3
      · rename_i dvs hd
        simp only [Bool.and_eq_true, decide_eq_true_eq] at h3
        obtain ⟨fa, fd, ps, hm, hk, F, b, _⟩ := hx.gf.fn _ _ h2
        obtain ⟨ds, hb, hdv⟩ := b _ h3.1
        obtain ⟨g1, g2⟩ := hx.gl h1
        exact r_call F hx.gd hx.hr g1 hm hk hb hdv g2 (S.a hx h3.2)
      · cases h3
    · simp only [Bool.and_eq_true, decide_eq_true_eq] at h
      obtain ⟨⟨⟨h1, h2⟩, h3⟩, h4⟩ := h
      obtain ⟨fa, fd, ps, hm, hk, F, _, b⟩ := hx.gf.fn _ _ h2
      obtain ⟨g1, g2⟩ := hx.gl h1
      obtain ⟨mr, pa, ka⟩ := S.p hx h4
      exact r_callK F hx.gd hx.hr g1 hm hk (b _ _ h3) g2 pa ka
    · cases h
  | mk c f ms =>
    simp only [] at h
    split at h
    · simp only [Bool.and_eq_true, decide_eq_true_eq] at h
      obtain ⟨⟨h1, h2⟩, h3⟩ := h
      split at h3
      · rename_i dvs hd
        simp only [Bool.and_eq_true, decide_eq_true_eq] at h3
        obtain ⟨C, fa, fd, ps, hm, hC, M, F, b⟩ := hx.gf.cls _ _ _ h2
        obtain ⟨ds, hb, hdv⟩ := b _ h3.1
        obtain ⟨g1, g2⟩ := hx.gl h1
        exact r_mk M F hx.gd hx.room g1 hm hb hdv g2 hC (S.a hx h3.2)
      · cases h3
    · cases h
  | meth c m f ms =>
    simp only [] at h
    split at h
    · simp only [Bool.and_eq_true, decide_eq_true_eq] at h
      obtain ⟨⟨⟨⟨⟨⟨rfl, h2⟩, h3⟩, h4⟩, h5⟩, h6⟩, h7⟩ := h
      split at h7
      · rename_i dvs hd
        simp only [Bool.and_eq_true, decide_eq_true_eq] at h7
        obtain ⟨fa, fd, ps, hM, F, b⟩ := hx.gf.met _ _ _ h2
        obtain ⟨ds, hb, hdv⟩ := b _ h7.1
        exact r_meth (S.r hx h6) hx.gf.cf hM F hx.gd hx.hr hb hdv (attr_plain h3) h4 h5 (S.a hx h7.2)
      · cases h7
    · cases h
  | lc own t mi cs x =>
    simp only [] at h
    split at h
    · rename_i elt tg it ifs a scope p
      simp only [Bool.and_eq_true, decide_eq_true_eq] at h
      obtain ⟨rfl, h⟩ := h
      obtain ⟨q1, q2, q3, q4, q5, q6, q7, q8, q9⟩ := S.l hx h
      have := r_lc (cs := cs) (e := x) (pos := p) hx.calm (by rw [hx.n]; exact hx.nd) q1 q2 q3 q4 q6 q7 q8 q9
      rw [q5] at this
      exact this
    · cases h
  | io i => cases h
  | it a => cases h
  | pop i p es => cases h
  | dc own t it k e => cases h
theorem snd_l (S : Snd G N CA cl lv n) {elt tg it : Expr} {ifs : List Expr} {scope : Scope} {own : List Nat} {t : MT} {mi : MI} {cs : MEs} {x : ME} (hx : XOk G N sc CA cl lv X) (h : cL G N (n + 1) sc elt tg it ifs scope own t mi cs x = true) :
    PI X tg it (tI cl X.K CA mi) ∧ BlkOk X.N X.env.scope scope (ownL N own) ∧ ((ownL N own).map (·.2)).Nodup ∧ t.inOwn ((ownL N own).map (·.2)) = true ∧ (ownL N own).map (·.2) = own ∧
    (∀ (s : Shared) (H : Hp) (C : Addr) (ce : List (Str × Addr)) (fp : List Addr) (pn : List Nat), (∀ i ∈ (ownL N own).map (·.2), i ∉ pn) → PG (X.blk s H scope (compEnvC scope ce C X.env) fp) tg (tBn X.K CA pn (bindT cl t))) ∧
    (∀ (s : Shared) (H : Hp) (C : Addr) (ce : List (Str × Addr)) (fp : List Addr), PTs (X.blk s H scope (compEnvC scope ce C X.env) fp) ifs (tCs cl X.K CA cs)) ∧
    (∀ (s : Shared) (H : Hp) (C : Addr) (ce : List (Str × Addr)) (fp : List Addr), PE (X.blk s H scope (compEnvC scope ce C X.env) fp) elt (tE cl X.K CA x)) ∧ ∀ x, foldedSetIterable it X.env x = pure x := by
  have eo : (ownL N own).map (·.2) = own := by unfold ownL; rw [List.map_map]; exact (List.map_congr_left fun _ _ => rfl).trans (List.map_id _)
  simp only [cL, Bool.and_eq_true, decide_eq_true_eq] at h
  obtain ⟨⟨⟨⟨⟨⟨⟨h1, h2⟩, h3⟩, h4⟩, h5⟩, h6⟩, h7⟩, h8⟩ := h
  have bo := blkOk_by h1
  rw [eo]
  refine ⟨S.i hx h5, by rw [hx.n, hx.scE]; exact bo, h2, h3, rfl, fun s H C ce fp pn hp => cN_ok hp (blk_ok hx bo.kind bo.uniq s H C ce fp) h6 h3, fun s H C ce fp => ?_, fun s H C ce fp => S.e (blk_ok hx bo.kind bo.uniq s H C ce fp) h7, notSet_fold h4⟩
  split at h8
  · exact c_nil
  · exact c_one (S.t (blk_ok hx bo.kind bo.uniq s H C ce fp) h8)
  · cases h8
end
end Mp
set_option Elab.async false
set_option linter.all false
set_option maxRecDepth 100000
set_option maxHeartbeats 4000000
/-! # Mp: the checks are right: operators, lists, tests -/
namespace Mp
open PySem L2
variable {G : Glob} {N : List Str} {CA : Nat → Option Addr} {cl : Call} {lv : Nat} {X : Cx} {sc : SC} {n : Nat}

theorem ty_boot : ∀ t ∈ tyNames, bootBuiltins (Str.ofString t) = some (.type t) ∧ Str.ofString t ≠ "__name__" := by decide +kernel
theorem snd_o (S : Snd G N CA cl lv n) {e : Expr} {o : Op} {ms : MEs} (hx : XOk G N sc CA cl lv X) (h : cO G N (n + 1) sc e o ms = true) : PE X e (tE cl X.K CA (.op o ms)) := by
  have hgb : ∀ {f : Str}, f ∈ G.blts → X.mg f = none := fun h => hx.gf.blt _ h
  simp only [cO] at h
  split at h
  · -- one operand
    rename_i a
    split at h
    · split at h <;> first | exact r_neg (S.e hx h) | cases h
    · split at h
      · simp only [Bool.and_eq_true, decide_eq_true_eq] at h
        obtain ⟨⟨rfl, h2⟩, h3⟩ := h
        exact r_fld hx.gf.cf (attr_plain h2) (S.e hx h3)
      · cases h
    · split at h <;> first | exact r_slc00 (S.e hx h) | cases h
    · split at h
      · simp only [Bool.and_eq_true, decide_eq_true_eq] at h
        obtain ⟨rfl, h3⟩ := h
        exact r_rev (S.e hx h3)
      · cases h
    · split at h
      · simp only [Bool.and_eq_true, decide_eq_true_eq] at h
        obtain ⟨⟨⟨⟨⟨rfl, h1⟩, h2⟩, h3⟩, h4⟩, h5⟩ := h
        exact r_bi1 hx.calm hx.gd hx.hu h1 (hx.gl h2).1 (hgb h3) (S.e hx h5) h4
      · cases h
    · split at h
      · simp only [Bool.and_eq_true, decide_eq_true_eq] at h
        obtain ⟨⟨⟨⟨⟨⟨⟨⟨rfl, h1⟩, h2⟩, h3⟩, h4⟩, h5⟩, rfl⟩, h6⟩, h7⟩ := h
        obtain ⟨b1, b2⟩ := ty_boot _ h5
        exact r_isin1 (hx.gl h1).1 (hgb h2) (hx.gl h3).1 (hgb h4) b1 b2 (hx.gl h3).2 (S.e hx h7) h6
      · simp only [Bool.and_eq_true, decide_eq_true_eq] at h
        obtain ⟨⟨⟨⟨⟨⟨rfl, h1⟩, h2⟩, h3⟩, h4⟩, h5⟩, h6⟩ := h
        obtain ⟨⟨y, c, i⟩, q1, q2⟩ := List.any_eq_true.mp h4
        simp only [Bool.and_eq_true, decide_eq_true_eq] at q2
        obtain ⟨rfl, rfl⟩ := q2
        obtain ⟨C, fa, fd, ps, hm, hC, _⟩ := hx.gf.cls _ _ _ q1
        exact r_isc hx.gf.cf hC (hx.gl h1).1 (hgb h2) (hx.gl h3).1 hm (hx.gl h3).2 (S.e hx h6) h5
      · cases h
    · split at h
      · simp only [Bool.and_eq_true, decide_eq_true_eq] at h
        obtain ⟨⟨⟨⟨rfl, h1⟩, h2⟩, h3⟩, h4⟩ := h
        exact r_bm h1 (attr_plain h2) h3 (S.e hx h4) .nil (by decide)
      · cases h
    · cases h
  · -- two
    rename_i a b
    split at h
    · split at h
      · simp only [Bool.and_eq_true, decide_eq_true_eq] at h
        obtain ⟨⟨rfl, h2⟩, h3⟩ := h
        exact r_bin (S.e hx h2) (S.e hx h3)
      · cases h
    · split at h
      · simp only [Bool.and_eq_true, decide_eq_true_eq] at h
        obtain ⟨⟨⟨rfl, h1⟩, h2⟩, h3⟩ := h
        exact r_cmp (hx.cmp _) (marks_ok h1) (S.e hx h2) (S.e hx h3)
      · cases h
    · split at h
      · simp only [Bool.and_eq_true] at h
        exact r_slc10 (S.e hx h.1) (S.e hx h.2)
      · cases h
    · split at h
      · simp only [Bool.and_eq_true] at h
        exact r_slc01 (S.e hx h.1) (S.e hx h.2)
      · cases h
    · split at h
      · simp only [Bool.and_eq_true] at h
        exact r_sub hx.hu h.1.1 (S.e hx h.1.2) (S.e hx h.2)
      · cases h
    · split at h
      · simp only [Bool.and_eq_true, decide_eq_true_eq] at h
        obtain ⟨⟨⟨⟨⟨⟨⟨rfl, h1⟩, h2⟩, h3⟩, h4⟩, h5⟩, h6⟩, h7⟩ := h
        exact r_bi2 hx.calm h1 (hx.gl h2).1 (hgb h3) (S.e hx h6) h4 (S.e hx h7) h5
      · cases h
    · split at h
      · simp only [Bool.and_eq_true, decide_eq_true_eq] at h
        obtain ⟨⟨⟨⟨⟨⟨rfl, h1⟩, h2⟩, h3⟩, h4⟩, h5⟩, h6⟩ := h
        exact r_bm h1 (attr_plain h2) h3 (S.e hx h5) (S.es hx h6) h4
      · cases h
    · split at h <;> first | exact pe_fst (S.f hx h) | cases h
    · cases h
  · -- three and more
    rename_i a b c ms'
    split at h
    · split at h
      · simp only [Bool.and_eq_true] at h
        exact r_slc11 (S.e hx h.1.1) (S.e hx h.1.2) (S.e hx h.2)
      · cases h
    · split at h
      · simp only [Bool.and_eq_true, decide_eq_true_eq] at h
        obtain ⟨⟨⟨⟨⟨⟨rfl, h1⟩, h2⟩, h3⟩, h4⟩, h5⟩, h6⟩ := h
        exact r_bm h1 (attr_plain h2) h3 (S.e hx h5) (S.es hx h6) h4
      · cases h
    · split at h <;> first | exact pe_fst (S.f hx h) | cases h
    · cases h
  · cases h
theorem snd_es (S : Snd G N CA cl lv n) {es : List Expr} {ms : MEs} (hx : XOk G N sc CA cl lv X) (h : cEs G N (n + 1) sc es ms = true) : Opds X cl CA es ms := by
  simp only [cEs] at h
  split at h
  · exact .nil
  · simp only [Bool.and_eq_true] at h
    exact .cons (S.e hx h.1.2) h.1.1 (S.es hx h.2)
  · cases h
theorem snd_f (S : Snd G N CA cl lv n) {es : List Expr} {ms : MEs} (hx : XOk G N sc CA cl lv X) (h : cF G N (n + 1) sc es ms = true) : FParts X cl CA es ms := by
  simp only [cF] at h
  split at h
  · exact .nil
  · simp only [Bool.and_eq_true, decide_eq_true_eq] at h
    obtain ⟨rfl, h⟩ := h
    exact .txt r_ks ⟨_, rfl⟩ (S.f hx h)
  · simp only [Bool.and_eq_true, decide_eq_true_eq] at h
    obtain ⟨⟨rfl, h1⟩, h2⟩ := h
    exact .fmt (pe_fmt (S.e hx h1)) (S.f hx h2)
  · cases h
theorem snd_ks (S : Snd G N CA cl lv n) {ks : List (Option Expr)} {es : List Expr} {ms : MKs} (hx : XOk G N sc CA cl lv X) (h : cKs G N (n + 1) sc ks es ms = true) : KOpds X cl CA ks es ms := by
  simp only [cKs] at h
  split at h
  · exact .nil
  · simp only [Bool.and_eq_true] at h
    exact .cons (S.e hx h.1.1) (S.e hx h.1.2) (S.ks hx h.2)
  · cases h
theorem snd_a1 (S : Snd G N CA cl lv n) {e : Expr} {m : ME} (hx : XOk G N sc CA cl lv X) (h : cA1 G N (n + 1) sc e m = true) : Arg1 X cl CA e m := by
  simp only [cA1] at h
  split at h
  · obtain ⟨x, p, rfl, q⟩ := hx.nm h
    exact .inl ⟨_, rfl, pe_var q.n q.v q.d q.c⟩
  · obtain ⟨x, p, rfl, q⟩ := hx.nm h
    exact .inr (.inl ⟨_, rfl, pe_var q.n q.v q.d q.c⟩)
  · exact .inr (.inr (.inl ⟨_, rfl, S.e hx h⟩))
  · rename_i n1 n2 n3
    refine .inr (.inr (.inr ⟨?_, S.e hx h⟩))
    cases m <;> first | rfl | exact absurd rfl (n1 _) | exact absurd rfl (n2 _) | exact absurd rfl (n3 _)
theorem snd_a (S : Snd G N CA cl lv n) {es : List Expr} {ms : MEs} {dvs : List V} (hx : XOk G N sc CA cl lv X) (h : cA G N (n + 1) sc es ms dvs = true) : Args X cl CA es ms dvs := by
  simp only [cA] at h
  split at h
  · simp only [decide_eq_true_eq] at h
    exact .nil (dfl_of h)
  · simp only [Bool.and_eq_true] at h
    exact (S.a1 hx h.1.2).args h.1.1 (S.a hx h.2)
  · cases h
theorem snd_p (S : Snd G N CA cl lv n) {es : List Expr} {kws : List Keyword} {ms : MEs} (hx : XOk G N sc CA cl lv X) (h : cP G N (n + 1) sc es kws ms = true) : ∃ mr, PArgs X cl CA es ms mr ∧ KArgs X cl CA kws mr := by
  simp only [cP] at h
  split at h
  · simp only [Bool.and_eq_true] at h
    obtain ⟨mr, a, b⟩ := S.p hx h.2
    exact ⟨mr, (S.a1 hx h.1.2).pargs h.1.1 a, b⟩
  · simp only [Bool.and_eq_true] at h
    obtain ⟨mr, a, b⟩ := S.p hx h.2
    cases a
    exact ⟨_, .nil, (S.a1 hx h.1).kargs b⟩
  · exact ⟨_, .nil, .nil⟩
  · cases h
theorem snd_r (S : Snd G N CA cl lv n) {e : Expr} {m : ME} (hx : XOk G N sc CA cl lv X) (h : cR G N (n + 1) sc e m = true) : Recv X cl CA e m := by
  simp only [cR] at h
  exact (S.a1 hx h).recv
theorem snd_t (S : Snd G N CA cl lv n) {e : Expr} {m : ME} (hx : XOk G N sc CA cl lv X) (h : cT G N (n + 1) sc e m = true) : PT X e (tT cl X.K CA m) := by
  simp only [cT] at h
  split at h
  · split at h <;> first | exact rt_not (S.t hx h) | cases h
  · exact (S.w hx h).pt
  · split at h
    · simp only [Bool.and_eq_true, decide_eq_true_eq] at h
      obtain ⟨⟨⟨rfl, h1⟩, h2⟩, h3⟩ := h
      exact rt_cmp (hx.cmp _) (marks_ok h1) (S.e hx h2) (S.e hx h3)
    · cases h
  · split at h
    · simp only [Bool.and_eq_true, decide_eq_true_eq, Bool.not_eq_true'] at h
      obtain ⟨⟨⟨⟨⟨rfl, rfl⟩, h1⟩, h2⟩, h3⟩, h4⟩ := h
      exact rt_chn hx.hu h1 (S.e hx h2) (S.e hx h3) (S.e hx h4)
    · cases h
  · simp only [Bool.and_eq_true] at h
    exact rt_val h.1 (S.e hx h.2)
theorem snd_w (S : Snd G N CA cl lv n) {o : BoolOp} {xs : List Expr} {p : Pos} {m : ME} (hx : XOk G N sc CA cl lv X) (h : cW G N (n + 1) sc o xs p m = true) : PW X (.BoolOp o xs p) (tT cl X.K CA m) := by
  simp only [cW] at h
  split at h
  · exact rw_one (S.t hx h)
  · split at h
    · simp only [Bool.and_eq_true] at h
      exact rw_and (S.t hx h.1) (S.w hx h.2)
    · simp only [Bool.and_eq_true] at h
      exact rw_or (S.t hx h.1) (S.w hx h.2)
    · cases h
  · cases h
theorem snd_i (S : Snd G N CA cl lv n) {tg e : Expr} {mi : MI} (hx : XOk G N sc CA cl lv X) (h : cI G N (n + 1) sc e mi = true) : PI X tg e (tI cl X.K CA mi) := by
  have hgb : ∀ {f : Str}, f ∈ G.blts → X.mg f = none := fun h => hx.gf.blt _ h
  simp only [cI] at h
  split at h
  · exact r_iseq (S.e hx h)
  · split at h
    · simp only [Bool.and_eq_true, decide_eq_true_eq] at h
      obtain ⟨⟨⟨⟨⟨rfl, h1⟩, h2⟩, h3⟩, h4⟩, h5⟩ := h
      split at h4
      · simp only [decide_eq_true_eq] at h4
        subst h4
        exact i_rng1 (hx.gl h1).1 (hgb h2) (S.e hx h5) h3
      · cases h4
    · simp only [Bool.and_eq_true, decide_eq_true_eq] at h
      obtain ⟨⟨⟨⟨⟨⟨rfl, h1⟩, h2⟩, h3⟩, h4⟩, h5⟩, h6⟩ := h
      exact i_rng2 (hx.gl h1).1 (hgb h2) (S.e hx h5) h3 (S.e hx h6) h4
    · cases h
  · split at h
    · simp only [Bool.and_eq_true, decide_eq_true_eq] at h
      obtain ⟨⟨⟨⟨⟨⟨⟨⟨rfl, h1⟩, h2⟩, h3⟩, h4⟩, h5⟩, h6⟩, h7⟩, h8⟩ := h
      exact i_rng3 (hx.gl h1).1 (hgb h2) (S.e hx h6) h3 (S.e hx h7) h4 (S.e hx h8) h5
    · cases h
  · cases h
theorem snd_all (G : Glob) (N : List Str) (CA : Nat → Option Addr) (cl : Call) (lv : Nat) : ∀ n, Snd G N CA cl lv n
  | 0 => ⟨fun _ h => (by simp [cE] at h), fun _ h => (by simp [cL] at h), fun _ h => (by simp [cO] at h), fun _ h => (by simp [cEs] at h), fun _ h => (by simp [cF] at h), fun _ h => (by simp [cKs] at h), fun _ h => (by simp [cA1] at h),
      fun _ h => (by simp [cA] at h), fun _ h => (by simp [cP] at h), fun _ h => (by simp [cR] at h), fun _ h => (by simp [cT] at h), fun _ h => (by simp [cW] at h), fun _ h => (by simp [cI] at h)⟩
  | n + 1 => by
    have S := snd_all G N CA cl lv n
    exact ⟨snd_e S, snd_l S, snd_o S, snd_es S, snd_f S, snd_ks S, snd_a1 S, snd_a S, snd_p S, snd_r S, snd_t S, snd_w S, snd_i S⟩
end Mp
set_option Elab.async false
set_option linter.all false
set_option maxRecDepth 100000
set_option maxHeartbeats 4000000
/-! # Mp: statements, checked -/
namespace Mp
open PySem L2
variable {G : Glob} {N : List Str} {CA : Nat → Option Addr} {cl : Call} {lv : Nat} {X : Cx} {sc : SC} {n : Nat} {pn : List Nat}

/-! ### stores that the model exchanges -/
def swB (sc : SC) (y : Str) (py : Pos) (scope : Scope) (lp : Pos) : Bool := (sc.s.names.lookup y == some .local) && (py.line == lp.line) && !(scope.names.any fun (n, k) => n == y && (k == .local || k == .cell))
def isStar : Expr → Bool
  | .Starred .. => true
  | _ => false
def nmOf (sc : SC) (line : Nat) : Expr → Option Str
  | .Name id pos => if sc.s.names.lookup id == some .local && pos.line == line then some id else none
  | _ => none
def swS (sc : SC) (ts vs : List Expr) : Option (Option (List Str)) :=
  if !(ts.length == 2 || ts.length == 3) || vs.length != ts.length then some none
  else if vs.any isStar then some none
  else if (ts.filterMap (nmOf sc ((ts.head?.map (·.pos.line)).getD 0))).length != ts.length || (ts.filterMap (nmOf sc ((ts.head?.map (·.pos.line)).getD 0))).eraseDups.length != (ts.filterMap (nmOf sc ((ts.head?.map (·.pos.line)).getD 0))).length then some none
  else if vs.all (foldedForSure 8) then some none
  else if vs.all (constantsAlone 8) then none
  else some (some (ts.filterMap (nmOf sc ((ts.head?.map (·.pos.line)).getD 0))))
theorem sw_lc {env : PySem.Env} (hs : env.scope = sc.s) (hk : sc.s.kind = .function) {elt : Expr} {gs : List Comprehension} {scope : Scope} {lp py : Pos} {y : Str} {l : Nat} : swapsWith (.ListComp elt gs scope lp) (some (.Name y py)) l env = pure (swB sc y py scope lp) := by
  have hb : env.blockKind = .function := by unfold Env.blockKind; rw [hs, hk]; rfl
  have hk : env.kindOf y = sc.s.names.lookup y := by show env.scope.names.lookup y = _; rw [hs]
  unfold swapsWith swB
  simp only [hb, hk, Expr.pos]
  rfl
theorem sw_par {env : PySem.Env} (hs : env.scope = sc.s) (hk : sc.s.kind = .function) {ts vs : List Expr} {r : Option (List Str)} {k k2 : Nat} {p p2 : Pos} (h : swS sc ts vs = some r) : swappedStores [.Tuple ts k p] (.Tuple vs k2 p2) env = pure r := by
  have hb : env.blockKind = .function := by unfold Env.blockKind; rw [hs, hk]; rfl
  obtain ⟨s, f⟩ := sc
  have hs : env.scope = s := hs
  subst hs
  have e : swappedStores [.Tuple ts k p] (.Tuple vs k2 p2) env = (if (!(ts.length == 2 || ts.length == 3) || vs.length != ts.length || env.blockKind != .function) = true then pure none
    else if vs.any isStar = true then pure none
    else if ((ts.filterMap (nmOf ⟨env.scope, f⟩ ((ts.head?.map (·.pos.line)).getD 0))).length != ts.length || (ts.filterMap (nmOf ⟨env.scope, f⟩ ((ts.head?.map (·.pos.line)).getD 0))).eraseDups.length != (ts.filterMap (nmOf ⟨env.scope, f⟩ ((ts.head?.map (·.pos.line)).getD 0))).length) = true then pure none
    else if vs.all (foldedForSure 8) = true then pure none
    else if vs.all (constantsAlone 8) = true then (do unsupported "assign.tuple-of-constant-expressions:order-of-the-stores"; pure (some (ts.filterMap (nmOf ⟨env.scope, f⟩ ((ts.head?.map (·.pos.line)).getD 0)))))
    else pure (some (ts.filterMap (nmOf ⟨env.scope, f⟩ ((ts.head?.map (·.pos.line)).getD 0))))) := rfl
  rw [e, hb]
  have eb : ((ScopeKind.function : ScopeKind) != .function) = false := rfl
  rw [eb, Bool.or_false]
  unfold swS at h
  split at h
  · cases h; rw [if_pos (by assumption)]
  · rw [if_neg (by assumption)]
    split at h
    · cases h; rw [if_pos (by assumption)]
    · rw [if_neg (by assumption)]
      split at h
      · cases h; rw [if_pos (by assumption)]
      · rw [if_neg (by assumption)]
        split at h
        · cases h; rw [if_pos (by assumption)]
        · rw [if_neg (by assumption)]
          split at h
          · cases h
          · cases h; rw [if_neg (by assumption)]

/-! ### places -/
def MPs.unsnoc : MPs → Option (MPs × (Str ⊕ ME))
  | .nil => none
  | .fld x p => match p with
    | .nil => some (.nil, .inl x)
    | p => (MPs.unsnoc p).map fun q => (.fld x q.1, q.2)
  | .key k p => match p with
    | .nil => some (.nil, .inr k)
    | p => (MPs.unsnoc p).map fun q => (.key k q.1, q.2)
def sufx : Str ⊕ ME → MPs
  | .inl f => .fld f .nil
  | .inr k => .key k .nil
theorem unsnoc_app : ∀ {p q : MPs} {s : Str ⊕ ME}, p.unsnoc = some (q, s) → p = q.app (sufx s)
  | .nil, _, _, h => by simp [MPs.unsnoc] at h
  | .fld x p, q, s, h => by
    unfold MPs.unsnoc at h
    split at h
    · cases h; rfl
    · obtain ⟨⟨q', s'⟩, e1, e2⟩ := Option.map_eq_some_iff.mp h
      cases e2
      rw [unsnoc_app e1]
      rfl
  | .key k p, q, s, h => by
    unfold MPs.unsnoc at h
    split at h
    · cases h; rfl
    · obtain ⟨⟨q', s'⟩, e1, e2⟩ := Option.map_eq_some_iff.mp h
      cases e2
      rw [unsnoc_app e1]
      rfl
def isNilP : MPs → Bool
  | .nil => true
  | _ => false
def cPl (G : Glob) (N : List Str) : Nat → SC → Expr → Nat → MPs → Bool
  | 0, _, _, _, _ => false
  | n + 1, sc, o, i, p => match o with
    | .Name x q => nmB N sc i (.Name x q) && isNilP p
    | .Attribute o' f _ => (match p.unsnoc with | some (p', .inl g) => decide (f = g) && noC0 o' && cPl G N n sc o' i p' | _ => false)
    | .Subscript o' k _ => (match p.unsnoc with | some (p', .inr m) => noSl k && cE G N n sc k m && cPl G N n sc o' i p' | _ => false)
    | _ => false
theorem cPl_ok (hx : XOk G N sc CA cl lv X) : ∀ {n : Nat} {o : Expr} {i : Nat} {p : MPs}, cPl G N n sc o i p = true → Plc X cl CA o i p
  | 0, _, _, _, h => by simp [cPl] at h
  | n + 1, o, i, p, h => by
    simp only [cPl] at h
    split at h
    · simp only [Bool.and_eq_true] at h
      obtain ⟨x, q, e, r⟩ := hx.nm h.1
      cases e
      cases p with
      | nil => exact .name r
      | _ => simp [isNilP] at h
    · split at h
      · rename_i e1
        simp only [Bool.and_eq_true, decide_eq_true_eq] at h
        obtain ⟨⟨rfl, h2⟩, h3⟩ := h
        rw [unsnoc_app e1]
        exact .fld (cPl_ok hx h3) (attr_plain h2)
      · cases h
    · split at h
      · rename_i e1
        simp only [Bool.and_eq_true] at h
        rw [unsnoc_app e1]
        exact .key (cPl_ok hx h.2) ((snd_all G N CA cl lv n).e hx h.1.2) h.1.1
      · cases h
    · cases h

/-! ### targets -/
mutual
def cG (G : Glob) (N : List Str) (pn : List Nat) : Nat → SC → Expr → MT → Bool
  | 0, _, _, _ => false
  | n + 1, sc, tg, t => match t with
    | .nm i => (match tg with | .Name x _ => decide (N[i]? = some x) && locB sc x && decide (i ∉ pn) | _ => false)
    | .tp ts => (match tg with | .Tuple es _ _ => cGs G N pn n sc es ts | _ => false)
    | .st i p k => (match tg with | .Subscript o kx _ => noSl kx && cPl G N n sc o i p && cE G N n sc kx k | _ => false)
def cGs (G : Glob) (N : List Str) (pn : List Nat) : Nat → SC → List Expr → MTs → Bool
  | 0, _, _, _ => false
  | n + 1, sc, es, ts => match es, ts with
    | [], .nil => true
    | e :: es, .cons t ts => noStar e && cG G N pn n sc e t && cGs G N pn n sc es ts
    | _, _ => false
end
mutual
theorem cG_ok : ∀ {n : Nat} {tg : Expr} {t : MT}, XOk G N sc CA cl lv X → cG G N pn n sc tg t = true → PG X tg (tBd X.K CA pn (bindT cl t))
  | 0, _, _, _, h => by simp [cG] at h
  | n + 1, tg, t, hx, h => by
    cases t with
    | nm i =>
      simp only [cG] at h
      split at h
      · rename_i x p
        simp only [Bool.and_eq_true, decide_eq_true_eq] at h
        have hl : Loc X.env.scope x ∧ (X.fn x = true ∨ X.env.scope.names.lookup x = some .local) := by
          rw [hx.scE]
          have q := h.1.2
          unfold locB at q
          split at q
          · exact ⟨.inl (by assumption), .inr (by assumption)⟩
          · exact ⟨.inr (by assumption), .inl (hx.fnc x (by simpa using q))⟩
          · cases q
        exact g_nm (by rw [hx.n]; exact hx.nd) (by rw [hx.n]; exact h.1.1) hl.1 hl.2 h.2
      · cases h
    | tp ts =>
      simp only [cG] at h
      split at h
      · obtain ⟨a, b, c⟩ := cGs_ok hx h
        exact g_tp hx.calm b c a
      · cases h
    | st i p k =>
      simp only [cG] at h
      split at h
      · simp only [Bool.and_eq_true] at h
        have hs := h.1.1
        refine g_st hx.gf.cf (by have := hx.hu; omega) (cPl_ok hx h.1.2) ((snd_all G N CA cl lv n).e hx h.2) fun v => ?_
        rename_i kx pos
        cases kx <;> first | rfl | cases hs
      · cases h
theorem cGs_ok : ∀ {n : Nat} {es : List Expr} {ts : MTs}, XOk G N sc CA cl lv X → cGs G N pn n sc es ts = true → PGs X es (tBds X.K CA pn (bindTs cl ts)) ∧ (assignEach es X.env).length = ts.len ∧ (assignEach es X.env).findIdx? (·.1) = none
  | 0, _, _, _, h => by simp [cGs] at h
  | n + 1, es, ts, hx, h => by
    cases ts with
    | nil =>
      cases es with
      | nil => exact ⟨gs_nil, rfl, rfl⟩
      | cons e es => simp [cGs] at h
    | cons t ts =>
      cases es with
      | nil => simp [cGs] at h
      | cons e es =>
        simp only [cGs, Bool.and_eq_true] at h
        obtain ⟨a, b, c⟩ := cGs_ok hx h.2
        refine ⟨gs_cons h.1.1 (cG_ok hx h.1.2) a, ?_, ?_⟩
        · rw [assignE h.1.1, List.length_cons, b]; rfl
        · rw [assignE h.1.1]
          simp only [List.findIdx?_cons, c]
          rfl
end

/-! ### statements -/
def noComp : Expr → Bool
  | .ListComp .. => false
  | .SetComp .. => false
  | .DictComp .. => false
  | _ => true
def isTup : Expr → Bool
  | .Tuple .. => true
  | _ => false
def isTL : Expr → Bool
  | .Tuple .. => true
  | .List .. => true
  | _ => false
def locN (sc : SC) (x : Str) : Bool := sc.s.names.lookup x == some .local
def cPar (G : Glob) (N : List Str) (pn : List Nat) (n : Nat) (sc : SC) (ts vs : List Expr) (t : MT) (m : ME) (nm : List Str) : Bool := match m with
  | .tup ms => (match t with
    | .tp (.cons (.nm i) (.cons (.nm j) .nil)) => (match ts with
      | [.Name x _, .Name y _] => (match vs with
        | [a, b] => decide (nm = [x, y]) && decide (N[i]? = some x) && decide (N[j]? = some y) && decide (i ≠ j) && locN sc x && locN sc y && decide (i ∉ pn) && decide (j ∉ pn) && cEs G N n sc [a, b] ms
        | _ => false)
      | _ => false)
    | .tp (.cons (.nm i) (.cons (.nm j) (.cons (.nm l) .nil))) => (match ts with
      | [.Name x _, .Name y _, .Name z _] => (match vs with
        | [a, b, c] => decide (nm = [x, y, z]) && decide (N[i]? = some x) && decide (N[j]? = some y) && decide (N[l]? = some z) && decide (i ≠ j) && decide (i ≠ l) && decide (j ≠ l) && locN sc x && locN sc y && locN sc z && decide (i ∉ pn) && decide (j ∉ pn) && decide (l ∉ pn) && cEs G N n sc [a, b, c] ms
        | _ => false)
      | _ => false)
    | _ => false)
  | _ => false
def unFr : ME → ME
  | .fr a => a
  | a => a
/-- name = [.. for ..] where the model exchanges -/
def cSw (G : Glob) (N : List Str) (pn : List Nat) (n : Nat) (sc : SC) (y : Str) (elt tg it : Expr) (ifs : List Expr) (a : Int) (scope : Scope) (t : MT) (m : ME) : Bool := match t with
  | .nm i => decide (N[i]? = some y) && decide (i ∉ pn) && decide (a = 0) && (match unFr m with | .lc own t' mi cs x => cL G N n sc elt tg it ifs scope own t' mi cs x | _ => false)
  | _ => false
/-- an assignment to one target -/
def cAsg (G : Glob) (N : List Str) (pn : List Nat) (n : Nat) (sc : SC) (tg e : Expr) (t : MT) (m : ME) : Bool := match e with
  | .ListComp elt [⟨tg', it, ifs, a⟩] scope lp => (match tg with
    | .Name y py => if swB sc y py scope lp then cSw G N pn n sc y elt tg' it ifs a scope t m else cG G N pn n sc tg t && cE G N n sc e m
    | _ => noStar tg && cG G N pn n sc tg t && cE G N n sc e m)
  | .Tuple vs _ _ => (match tg with
    | .Tuple ts _ _ => (match swS sc ts vs with
      | some none => cG G N pn n sc tg t && cE G N n sc e m
      | some (some nm) => cPar G N pn n sc ts vs t m nm
      | none => false)
    | .List _ _ => false
    | _ => noStar tg && cG G N pn n sc tg t && cE G N n sc e m)
  | e => noComp e && noStar tg && cG G N pn n sc tg t && cE G N n sc e m
mutual
def cS (G : Glob) (N : List Str) (pn : List Nat) : Nat → SC → Stmt → MS → Bool
  | 0, _, _, _ => false
  | n + 1, sc, st, s => match s with
    | .asg t m => (match st with | .Assign [tg] e _ => cAsg G N pn n sc tg e t m | _ => false)
    | .aug i o m => (match st with | .AugAssign (.Name x _) op e _ => decide (op = bopOf o) && (augF o).isSome && decide (N[i]? = some x) && locB sc x && decide (i ∉ pn) && cE G N n sc e m | _ => false)
    | .ex m => (match st with | .Expr e _ => noComp e && cE G N n sc e m | _ => false)
    | .ret m => (match st with | .Return (some e) _ => cE G N n sc e m | _ => false)
    | .retn => (match st with | .Return none _ => true | _ => false)
    | .ife c a b => (match st with | .If t x y _ => cT G N n sc t c && cSs G N pn n sc x a && cSs G N pn n sc y b | _ => false)
    | .for_ t mi b => (match st with | .For tg it x [] _ => notSet it && cI G N n sc it mi && cG G N pn n sc tg t && cSs G N pn n sc x b | _ => false)
    | .while_ c b => (match st with | .While t x [] _ => cT G N n sc t c && cSs G N pn n sc x b | _ => false)
    | .pass => (match st with | .Pass _ => true | _ => false)
    | .brk => (match st with | .Break _ => true | _ => false)
    | .cont => (match st with | .Continue _ => true | _ => false)
    | .raise => true
    | _ => false
def cSs (G : Glob) (N : List Str) (pn : List Nat) : Nat → SC → List Stmt → MSs → Bool
  | 0, _, _, _ => false
  | n + 1, sc, b, ms => match ms with
    | .nil => b.isEmpty
    | .cons (.kill _) r => cSs G N pn n sc b r
    | .cons s r => (match b with | st :: rest => cS G N pn n sc st s && cSs G N pn n sc rest r | [] => false)
end
theorem noComp_sw {e : Expr} {t : Option Expr} {l : Nat} {env : PySem.Env} (h : noComp e = true) : swapsWith e t l env = pure false := by
  cases e <;> first | rfl | cases h
theorem notTup_sw {tg e : Expr} {env : PySem.Env} (h : isTup e = false) : swappedStores [tg] e env = pure none := by
  cases e <;> first | (cases tg <;> rfl) | cases h
theorem notTL_sw {tg e : Expr} {env : PySem.Env} (h : isTL tg = false) : swappedStores [tg] e env = pure none := by
  cases tg <;> first | (cases e <;> rfl) | cases h
theorem XOk.loc {x : Str} (hx : XOk G N sc CA cl lv X) (h : locB sc x = true) : Loc X.env.scope x ∧ (X.fn x = true ∨ X.env.scope.names.lookup x = some .local) := by
  rw [hx.scE]
  unfold locB at h
  split at h
  · exact ⟨.inl (by assumption), .inr (by assumption)⟩
  · exact ⟨.inr (by assumption), .inl (hx.fnc x (by simpa using h))⟩
  · cases h
theorem cAsg_ok (hx : XOk G N sc CA cl lv X) {tg e : Expr} {t : MT} {m : ME} {pos : Pos} (h : cAsg G N pn n sc tg e t m = true) : PS X (.Assign [tg] e pos) (tX X.K CA pn (xs cl (.asg t m))) := by
  have S := snd_all G N CA cl lv n
  have hN : X.N.Nodup := by rw [hx.n]; exact hx.nd
  unfold cAsg at h
  split at h
  · rename_i elt tg' it ifs a scope lp
    split at h
    · rename_i y py
      split at h
      · rename_i hsw
        unfold cSw at h
        split at h
        · rename_i i
          simp only [Bool.and_eq_true, decide_eq_true_eq] at h
          obtain ⟨⟨⟨h1, h2⟩, rfl⟩, h3⟩ := h
          split at h3
          · rename_i own t' mi cs x hm
            obtain ⟨q1, q2, q3, q4, q5, q6, q7, q8, q9⟩ := S.l hx h3
            have hyl : X.env.scope.names.lookup y = some .local := by
              rw [hx.scE]
              unfold swB at hsw
              simp only [Bool.and_eq_true, beq_iff_eq] at hsw
              exact hsw.1.1
            refine s_setLc (own := ownL N own) (t := t') (mi := mi) (cs := cs) (e := x) hx.calm hN (by rw [hx.n]; exact h1) hyl h2 (by rw [sw_lc hx.scE hx.kind, hsw]) ?_ q1 q2 q3 q4 q6 q7 q8 q9
            rw [q5]
            cases m with
            | fr a => right; exact congrArg ME.fr hm
            | _ => left; exact hm
          · cases h3
        · cases h
      · rename_i hsw
        simp only [Bool.and_eq_true] at h
        exact s_asg (cG_ok hx h.1) (S.e hx h.2) ((sw_lc (l := pos.line) hx.scE hx.kind).trans (by simp only [Bool.not_eq_true] at hsw; rw [hsw])) (notTup_sw rfl) rfl
    · rename_i nn
      simp only [Bool.and_eq_true] at h
      refine s_asg (cG_ok hx h.1.2) (S.e hx h.2) ?_ (notTup_sw rfl) h.1.1
      cases tg <;> first | rfl | exact absurd rfl (nn _ _)
  · rename_i vs k p
    split at h
    · split at h
      · rename_i hsw
        simp only [Bool.and_eq_true] at h
        exact s_asg (cG_ok hx h.1) (S.e hx h.2) rfl (sw_par hx.scE hx.kind hsw) rfl
      · rename_i nm hsw
        have hw := fun (k k2 : Nat) (p p2 : Pos) => sw_par (k := k) (k2 := k2) (p := p) (p2 := p2) hx.scE hx.kind hsw
        unfold cPar at h
        split at h
        · rename_i ms
          split at h
          · rename_i i j
            split at h
            · rename_i x px y py
              split at h
              · rename_i a b
                simp only [Bool.and_eq_true, decide_eq_true_eq] at h
                obtain ⟨⟨⟨⟨⟨⟨⟨⟨rfl, h1⟩, h2⟩, h3⟩, h4⟩, h5⟩, h6⟩, h7⟩, h8⟩ := h
                exact s_par2 hx.calm hN (by rw [hx.n]; exact h1) (by rw [hx.n]; exact h2) h3 (by rw [hx.scE]; exact beq_iff_eq.mp h4) (by rw [hx.scE]; exact beq_iff_eq.mp h5) h6 h7 (S.es hx h8) (hw _ _ _ _)
              · cases h
            · cases h
          · rename_i i j l
            split at h
            · rename_i x px y py z pz
              split at h
              · rename_i a b c
                simp only [Bool.and_eq_true, decide_eq_true_eq] at h
                obtain ⟨⟨⟨⟨⟨⟨⟨⟨⟨⟨⟨⟨⟨rfl, h1⟩, h2⟩, h3⟩, h4⟩, h5⟩, h6⟩, h7⟩, h8⟩, h9⟩, h10⟩, h11⟩, h12⟩, h13⟩ := h
                exact s_par3 hx.calm hN (by rw [hx.n]; exact h1) (by rw [hx.n]; exact h2) (by rw [hx.n]; exact h3) h4 h5 h6 (by rw [hx.scE]; exact beq_iff_eq.mp h7) (by rw [hx.scE]; exact beq_iff_eq.mp h8) (by rw [hx.scE]; exact beq_iff_eq.mp h9) h10 h11 h12 (S.es hx h13) (hw _ _ _ _)
              · cases h
            · cases h
          · cases h
        · cases h
      · cases h
    · cases h
    · rename_i n1 n2
      simp only [Bool.and_eq_true] at h
      refine s_asg (cG_ok hx h.1.2) (S.e hx h.2) rfl (notTL_sw ?_) h.1.1
      cases tg <;> first | rfl | exact absurd rfl (n1 _ _ _) | exact absurd rfl (n2 _ _)
  · rename_i n1 n2
    simp only [Bool.and_eq_true] at h
    refine s_asg (cG_ok hx h.1.2) (S.e hx h.2) (noComp_sw h.1.1.1) (notTup_sw ?_) h.1.1.2
    cases e <;> first | rfl | exact absurd rfl (n2 _ _ _)
mutual
theorem cS_ok (hx : XOk G N sc CA cl lv X) : ∀ {n : Nat} {st : Stmt} {s : MS}, cS G N pn n sc st s = true → PS X st (tX X.K CA pn (xs cl s))
  | 0, _, _, h => by simp [cS] at h
  | n + 1, st, s, h => by
    have S := snd_all G N CA cl lv n
    have hN : X.N.Nodup := by rw [hx.n]; exact hx.nd
    simp only [cS] at h
    split at h
    · split at h <;> first | exact cAsg_ok hx h | cases h
    · split at h
      · simp only [Bool.and_eq_true, decide_eq_true_eq] at h
        obtain ⟨⟨⟨⟨⟨rfl, h1⟩, h2⟩, h3⟩, h4⟩, h5⟩ := h
        obtain ⟨f, hf⟩ := Option.isSome_iff_exists.mp h1
        obtain ⟨l1, l2⟩ := hx.loc h3
        exact s_aug hf hN (by rw [hx.n]; exact h2) l1 l2 h4 (S.e hx h5)
      · cases h
    · split at h
      · simp only [Bool.and_eq_true] at h
        exact s_ex (S.e hx h.2) (noComp_sw h.1)
      · cases h
    · split at h <;> first | exact s_ret (S.e hx h) | cases h
    · split at h <;> first | exact s_retn | cases h
    · split at h
      · simp only [Bool.and_eq_true] at h
        exact s_if (S.t hx h.1.1) (cSs_ok hx h.1.2) (cSs_ok hx h.2)
      · cases h
    · split at h
      · simp only [Bool.and_eq_true] at h
        exact s_for hx.xe hx.calm (S.i hx h.1.1.2) (cG_ok hx h.1.2) (cSs_ok hx h.2) (notSet_fold h.1.1.1)
      · cases h
    · split at h
      · simp only [Bool.and_eq_true] at h
        exact s_while hx.xe (S.t hx h.1) (cSs_ok hx h.2)
      · cases h
    · split at h <;> first | exact s_pass | cases h
    · split at h <;> first | exact s_brk | cases h
    · split at h <;> first | exact s_cont | cases h
    · exact s_never
    · cases h
theorem cSs_ok (hx : XOk G N sc CA cl lv X) : ∀ {n : Nat} {b : List Stmt} {ms : MSs}, cSs G N pn n sc b ms = true → PSs X b (tX X.K CA pn (xss cl ms))
  | 0, _, _, h => by simp [cSs] at h
  | n + 1, b, ms, h => by
    simp only [cSs] at h
    split at h
    · rw [List.isEmpty_iff.mp h]
      exact ss_nil
    · exact ss_kill (cSs_ok hx h)
    · split at h
      · simp only [Bool.and_eq_true] at h
        exact ss_cons (cS_ok hx h.1) (cSs_ok hx h.2)
      · cases h
end
end Mp
set_option Elab.async false
set_option linter.all false
set_option maxRecDepth 100000
set_option maxHeartbeats 4000000
/-! # Mp: all defs at once; the law's call -/
namespace Mp
open PySem L2 PySem.Spec PyProof.Rows
variable {G : Glob} {CA : Nat → Option Addr} {P : Program} {w : World} {K : PySem.W.Frag} {mg : Str → Option Value} {T : Nat → Option Fn}

/-- what stands of the defs, whatever they answer -/
structure GS (G : Glob) (K : PySem.W.Frag) (mg : Str → Option Value) (CA : Nat → Option Addr) (T : Nat → Option Fn) (FA : Nat → Addr) (FD : Nat → FuncData) (PS : Nat → List Str) : Prop where
  cf : ClsOk K CA
  fn : ∀ x fid, (x, fid) ∈ G.fns → (∃ fd, T fid = some fd) ∧ mg x = some (.ref (FA fid)) ∧ PySem.W.keepIn K (.ref (FA fid)) = true
  bnd : ∀ fid dvs, (fid, dvs) ∈ G.bnds → ∃ ds, Binds K (FD fid) (PS fid) ds ∧ Vals dvs ds
  kb : ∀ fid n ks, (fid, n, ks) ∈ G.kbs → KBinds' K (FD fid) (PS fid) n ks
  cls : ∀ x c i, (x, c, i) ∈ G.cls → (∃ fd, T i = some fd) ∧ ∃ C, mg x = some (.ref C) ∧ CA c = some C ∧ Mk K C (FA i)
  met : ∀ c m fid, (c, m, fid) ∈ G.mets → (∃ fd, T fid = some fd) ∧ ∀ C, CA c = some C → Meth K C m (FA fid)
  con : ∀ x v, (x, v) ∈ G.cons → ∃ u, mg x = some u ∧ RelV v u
  blt : ∀ x, x ∈ G.blts → mg x = none
  eq : ∀ c C, CA c = some C → T (10000 + c) ≠ none → Binds K (FD (10000 + c)) (PS (10000 + c)) [] ∧ PySem.W.findIn K (.ref C) "__eq__" = some (some (.ref (FA (10000 + c)))) ∧ PySem.W.isFn K (.ref (FA (10000 + c))) = true
/-- a def of the text and its term -/
def DefOk (G : Glob) (K : PySem.W.Frag) (FA : Nat → Addr) (FD : Nat → FuncData) (PS : Nat → List Str) (fid : Nat) (fd : Fn) : Prop :=
  ∃ (name qual : Str) (params : Arguments) (body : List Stmt) (scope : Scope) (dV kV doc pm cdv ct oc : Value) (an od : Option Addr) (osl : Array (Option Value)) (N : List Str) (fuel : Nat),
    FD fid = PySem.W.fnOf name qual params body scope dV kV doc pm an cdv ct ∧ K.lookup (FA fid) = some ⟨oc, od, .func (FD fid), osl⟩ ∧ PySem.W.codeIn K cdv qual = true ∧ FnScope N (PS fid) scope ∧
    fd.np = (PS fid).length ∧ fd.ns = N.length ∧ cSs G N (ioIx fd.io) fuel (SC.ofDef scope) body fd.body = true
section
variable {FA : Nat → Addr} {FD : Nat → FuncData} {PS : Nat → List Str}
theorem callT_none {n : Nat} {fid : Nat} {io : List Bool} {ds : List D} {r : D × List D} (h : callT T n fid io ds = some r) : T fid ≠ none := by
  cases n with
  | zero => simp [callT] at h
  | succ n =>
    intro e
    simp only [callT, e, Option.bind_none] at h
    cases h
theorem gf_of (S : GS G K mg CA T FA FD PS) {base : Heap} {n lv : Nat} (F : ∀ fid fd, T fid = some fd → FnG P w K mg base CA (callT T n) lv (FA fid) (FD fid) (PS fid) fid) : GF G P w K mg base CA (callT T n) lv where
  cf := S.cf
  fn := fun x fid h => by
    obtain ⟨⟨fd, e⟩, a, b⟩ := S.fn x fid h
    exact ⟨_, _, _, a, b, F fid fd e, fun dvs q => S.bnd fid dvs q, fun n ks q => S.kb fid n ks q⟩
  cls := fun x c i h => by
    obtain ⟨⟨fd, e⟩, C, a, b, m⟩ := S.cls x c i h
    exact ⟨C, _, _, _, a, b, m, F i fd e, fun dvs q => S.bnd i dvs q⟩
  met := fun c m fid h => by
    obtain ⟨⟨fd, e⟩, a⟩ := S.met c m fid h
    exact ⟨_, _, _, a, F fid fd e, fun dvs q => S.bnd fid dvs q⟩
  con := S.con
  blt := S.blt
  eq := fun c C io ds r hC h => by
    have hT := callT_none h
    obtain ⟨a, b, f⟩ := S.eq c C hC hT
    obtain ⟨fd, e⟩ := Option.ne_none_iff_exists'.mp hT
    exact ⟨_, _, _, F _ fd e, a, b, f⟩
/-- every def keeps its promise, at every depth -/
theorem fn_all (S : GS G K mg CA T FA FD PS) (B : ∀ fid fd, T fid = some fd → DefOk G K FA FD PS fid fd) {base : Heap} : ∀ (n fid : Nat) (fd : Fn), T fid = some fd → FnG P w K mg base CA (callT T n) (2 * n) (FA fid) (FD fid) (PS fid) fid
  | 0, fid, fd, _ => ⟨fun io ds r e => (by simp [callT] at e), fun A outer s H args us vs io Q _ _ _ _ _ ⟨_, _, _, _, _, _, _, _, _, _, e, _⟩ => (by simp [callT] at e)⟩
  | n + 1, fid, fd, hT => by
    have gf := gf_of (P := P) (w := w) (base := base) (lv := 2 * n) S fun fid fd e => fn_all S B n fid fd e
    obtain ⟨name, qual, params, body, scope, dV, kV, doc, pm, cdv, ct, oc, an, od, osl, N, fuel, eF, lk, hcd, sS, h1, h2, hc⟩ := B fid fd hT
    rw [eF] at lk ⊢
    have := fnG_of (P := P) (w := w) (mg := mg) (base := base) (CA := CA) (n := n) (k := 2 * n + 1) hT h1 h2 lk hcd sS (fun A outer s H hg hr => ?_)
    · exact this
    · refine cSs_ok (lv := 2 * n) ⟨rfl, sS.nd, rfl, sS.kind, rfl, ?_, hr, rfl, fun x q => rfl, gf⟩ hc
      exact hg
end

/-! ### the law's own call -/
section
variable {mb : Str → Option Value} {n fid : Nat} {fa a : Addr} {fd : FuncData} {x : Str} {s1 : Shared} {vs : List Value} {ns : List Int}
abbrev scrObj (vs : List Value) : Obj := { cls := .type "list", data := .seq vs.toArray }
theorem law_go (hK : K.In s1.heap) (h1 : s1.heap.Ns mainGlobals mg) (h2 : s1.heap.Ns builtinsNs mb) (h3 : ∀ y : Str, y ≠ "__name__" → mb y = bootBuiltins y) (h4 : s1.heap.NoLimit) (h5 : s1.gens = #[]) (h6 : s1.heap.get? a = some (scrObj vs)) (h7 : IntsAre vs ns) (h8 : ns.length ≤ sizeLine)
    {cl : Call} (hr : Room n callerA) (ev : cl fid [false] [D.scr ns] = some (D.bl true, [])) (F : ∀ base : Heap, FnG P w K mg base CA cl n fa fd [x] fid) (hb : ∀ (s : Shared) (u : Value), BindsTo s fd ⟨[u], []⟩ [(x, u)]) :
    codeAny (model P w) callerA (.call (.ref fa) ⟨[.ref a], []⟩) (fun r s' => r = .ok (.ret (.bool true)) ∧ OldK s1.heap s'.heap ∧ s'.os = s1.os ∧ AllBare s'.gens) s1 := by
  have vi : Vals (ns.map V.int) vs := vals_ints h7
  -- H0: nothing is tracked but the script, and that as it is
  have main : ∀ H0 : Hp, (∀ b u, H0 b = some u → b = a ∧ u = .frz (scrObj vs) (.lst (ns.map V.int))) → (H0 a ≠ none → K.lookup a = none) → (H0 a = none → ∃ o, K.lookup a = some o) →
      codeAny (model P w) callerA (.call (.ref fa) ⟨[.ref a], []⟩) (fun r s' => r = .ok (.ret (.bool true)) ∧ OldK s1.heap s'.heap ∧ s'.os = s1.os ∧ AllBare s'.gens) s1 := fun H0 q1 q2 q3 => by
    have stay : ∀ {b o}, s1.heap.get? b = some o → (b = a → H0 a = none) → (hidT s1.heap H0).get? b = some o := fun {b o} e z => hidT_get e (by
      cases q : H0 b with
      | none => rfl
      | some u =>
        obtain ⟨rfl, _⟩ := q1 b u q
        rw [z rfl] at q
        cases q)
    have isDict : ∀ {b m}, s1.heap.Ns b m → (hidT s1.heap H0).Ns b m := fun {b m} ⟨o, es, ep, e, d, r⟩ => ⟨o, es, ep, stay e fun z => (by
      subst z
      have e' := h6.symm.trans e
      cases e'
      exact absurd (show Data.seq vs.toArray _ = Data.dict es ep from d) (by simp)), d, r⟩
    have kin : K.In (hidT s1.heap H0) := fun b o e => stay (hK b o e) fun z => by
      subst z
      cases q : H0 b with
      | none => rfl
      | some u => rw [q2 (by rw [q]; simp)] at e; cases e
    have hok : HOk P w H0 s1.heap := fun b u e => by
      obtain ⟨rfl, rfl⟩ := q1 b u e
      exact ⟨h6, by rw [List.length_map]; exact h8, vs, _, vi, h6⟩
    have md : Mod K mg (hidT s1.heap H0) := by
      obtain ⟨mc, k1, k2⟩ := h4
      exact ⟨kin, isDict h1, ⟨mb, isDict h2, h3⟩, ⟨mc, isDict k1, k2⟩⟩
    have env : Env0 P w K mg (hidT s1.heap H0) callerA [] s1 H0 := by
      refine ⟨rfl, md, fun b o e => of_hidT e, Nat.le_of_eq (hidT_size _ _), trivial, ?_, hok, .of_eq h5⟩
      intro b q
      cases q
    have FG := F (hidT s1.heap H0)
    have rep : Rep (⟨K, CA, fun b => H0 b ≠ none, fun _ => False⟩ : Wd) H0 (.scr ns) (.ref a) [] := by
      unfold Rep
      refine ⟨rfl, a, rfl, ?_⟩
      cases q : H0 a with
      | some u =>
        obtain ⟨_, rfl⟩ := q1 a u q
        exact .inl ⟨.inr ⟨_, q⟩, by show H0 a ≠ none; rw [q]; simp⟩
      | none =>
        obtain ⟨o, ho⟩ := q3 q
        have e' := h6.symm.trans (hK a o ho)
        cases e'
        exact .inr ⟨_, vs.toArray, _, ho, rfl, rfl, rfl, by rw [List.size_toArray, h7.length]; exact h8, by simpa using vi⟩
    have sp : spM K CA cl fid [false] [.ref a] H0 (fun v _ => v = .bl true) := ⟨⟨K, CA, fun b => H0 b ≠ none, fun _ => False⟩, [], [.scr ns], .bl true, [], ⟨rfl, rfl⟩, .cons (F := []) (G := []) rep .nil, List.nodup_nil, fun _ z => (by cases z), fun _ z => z.elim id fun z => z.elim, ev,
      fun v H' Z G Fo _ r _ _ _ => r.bl_inv.1⟩
    have call := FG.go callerA [] s1 H0 ⟨[.ref a], []⟩ [.ref a] [.ref a] [false] (fun v _ => v = .bl true) rfl hr env (hb s1 (.ref a)) (.cons rfl .nil) sp
    refine codeAny_mono call fun r s' out => ?_
    match r, out with
    | .error _, out => exact out.elim
    | .ok .next, out => exact out.elim
    | .ok .brk, out => exact out.elim
    | .ok .cont, out => exact out.elim
    | .ok (.ret u), ⟨v, H', k1, k2, k3, k4, k5, k6⟩ =>
      have k6 : v = .bl true := k6
      subst k6
      have k5 : u = Value.bool true := k5
      subst k5
      refine ⟨rfl, OldK.of_keep fun b o e => ?_, k1, k2⟩
      cases q : H0 b with
      | none => exact k3.keep b o e q (fun z => by cases z) (by simp)
      | some u =>
        obtain ⟨rfl, rfl⟩ := q1 b u q
        have z : H' b = some (.frz (scrObj vs) (.lst (ns.map V.int))) := k3.frzs b _ _ q
        obtain ⟨z2, _⟩ := k4 b _ z
        rw [h6] at e
        cases e
        exact z2
  cases q : K.lookup a with
  | some o => exact main (fun _ => none) (fun b u z => by cases z) (fun z => absurd rfl z) fun _ => ⟨o, q⟩
  | none =>
    refine main (fun b => if b = a then some (.frz (scrObj vs) (.lst (ns.map V.int))) else none) (fun b u z => ?_) (fun _ => q) fun z => ?_
    · split at z
      · cases z; exact ⟨by assumption, rfl⟩
      · cases z
    · simp at z
end

/-- the whole: what the head has left, the terms, and that the interpreter tells True -/
theorem walk_law {G : Glob} {T : Nat → Option Fn} {lawId lv : Nat} {x : Str} {l : PySem.W.OpenLaw} {q : Program} {loose : List Str} {XP : (Str → Option Value) → Heap → Prop} {YP : World → Heap → Prop} {d : DefRec} {K : Params → PySem.W.Frag}
    (hn : l.most = some 63) (hdf : d.params.defaults = []) (hr : Room (2 * lv) callerA) (hY : ∀ (w : World) (h : Heap), YP w h → (K w.params).In h) (hT : ∃ fd, T lawId = some fd)
    (law : ∀ ns : List Int, ns.length ≤ 63 → (∀ z ∈ ns, Builtin.Int.intBits z ≤ 1048576) → callT T lv lawId [false] [D.scr ns] = some (D.bl true, []))
    (F : ∀ (w : World) (mg : Str → Option Value) (fa : Addr) (h : Heap), (K w.params).In h → h.Ns mainGlobals mg → mg d.name = some (.ref fa) →
      ∃ (CA : Nat → Option Addr) (FA : Nat → Addr) (FD : Nat → FuncData) (PS : Nat → List Str), GS G (K w.params) mg CA T FA FD PS ∧ (∀ fid fd, T fid = some fd → DefOk G (K w.params) FA FD PS fid fd) ∧
        FA lawId = fa ∧ PS lawId = [x] ∧ ∀ (s : Shared) (u : Value), BindsTo s (FD lawId) ⟨[u], []⟩ [(x, u)]) :
    PySem.W.WalkO q loose XP YP l.row.toRowW d [] (fun f vs => PySem.call f vs) := by
  refine Att.attach_callB hn hdf fun w s0 s1 mg mb fa o pm cd doc a vs ns g y ho hd hcd hmg hobj hints hlen hbits hg => ?_
  have kx := hY w _ y
  obtain ⟨CA, FA, FD, PS, S, B, rfl, e2, hb⟩ := F w mg fa _ kx g.T.g hmg
  obtain ⟨fd, hT⟩ := hT
  refine law_go (CA := CA) (mb := mb) kx g.T.g g.T.b g.T.builtins g.T.nolimit hg hobj hints (Nat.le_trans hlen (by decide)) hr (law ns hlen hbits) (fun base => ?_) hb
  have := fn_all (P := l.prog) (w := w) S B (base := base) lv lawId fd hT
  rw [e2] at this
  exact this

/-! ### lists, item by item -/
inductive Al {α : Type} (Q : α → Prop) : List α → Prop where
  | nil : Al Q []
  | cons {a : α} {l : List α} (h : Q a) (t : Al Q l) : Al Q (a :: l)
theorem Al.mem {α : Type} {Q : α → Prop} : ∀ {l : List α}, Al Q l → ∀ a, a ∈ l → Q a
  | _, .nil, _, h => by cases h
  | _, .cons q t, a, h => by
    rcases List.mem_cons.mp h with rfl | h
    · exact q
    · exact t.mem a h
inductive Al2 {α β : Type} (Q : α → β → Prop) : List (α × β) → Prop where
  | nil : Al2 Q []
  | cons {a : α} {b : β} {l : List (α × β)} (h : Q a b) (t : Al2 Q l) : Al2 Q ((a, b) :: l)
theorem Al2.mem {α β : Type} {Q : α → β → Prop} : ∀ {l : List (α × β)}, Al2 Q l → ∀ a b, (a, b) ∈ l → Q a b
  | _, .nil, _, _, h => by cases h
  | _, .cons q t, a, b, h => by
    rcases List.mem_cons.mp h with e | h
    · cases e; exact q
    · exact t.mem a b h
inductive Al3 {α β γ : Type} (Q : α → β → γ → Prop) : List (α × β × γ) → Prop where
  | nil : Al3 Q []
  | cons {a : α} {b : β} {c : γ} {l : List (α × β × γ)} (h : Q a b c) (t : Al3 Q l) : Al3 Q ((a, b, c) :: l)
theorem Al3.mem {α β γ : Type} {Q : α → β → γ → Prop} : ∀ {l : List (α × β × γ)}, Al3 Q l → ∀ a b c, (a, b, c) ∈ l → Q a b c
  | _, .nil, _, _, _, h => by cases h
  | _, .cons q t, a, b, c, h => by
    rcases List.mem_cons.mp h with e | h
    · cases e; exact q
    · exact t.mem a b c h
theorem lookup_mem {α β : Type} [BEq α] [LawfulBEq α] {l : List (α × β)} {k : α} {v : β} (h : l.lookup k = some v) : (k, v) ∈ l := by
  induction l with
  | nil => cases h
  | cons p l ih =>
    rw [List.lookup_cons] at h
    split at h
    · rename_i e
      cases h
      rw [beq_iff_eq.mp e]
      exact List.mem_cons_self
    · exact List.mem_cons_of_mem _ (ih h)
end Mp
set_option linter.all false
set_option maxRecDepth 100000
set_option maxHeartbeats 1000000
/-! # Mp: the interpreter by equations, as rules for simp -/
namespace Mp
open PySem L2
theorem run {T : Nat → Option Fn} {n fid : Nat} {fd : Fn} {io : List Bool} {ds : List D} {r : D × List D} (hT : T fid = some fd) (hio : fd.io = io) (hnp : ds.length = fd.np) (ha : argsOk io ds = true)
    (h : finish fd (xss (callT T n) fd.body (ds.map some ++ List.replicate (fd.ns - fd.np) none)) = some r) : callT T (n + 1) fid io ds = some r := by
  simp only [callT, hT, Option.bind_some]
  rw [if_pos ⟨hio, hnp, ha⟩]
  exact h
section
variable (cl : Call)
/-- forms of expressions -/
theorem eE : (∀ i ρ, ev cl (.var i) ρ = (gI ρ i).map fun d => (d, ρ)) ∧ (∀ i ρ, ev cl (.mv i) ρ = (gI ρ i).map fun d => (d, ρ.set i none)) ∧ (∀ i ρ, ev cl (.fz i) ρ = (gI ρ i).map fun d => (d.fz, ρ.set i (some d.fz))) ∧
    (∀ a ρ, ev cl (.fr a) ρ = if a.pl then none else (ev cl a ρ).map fun r => (r.1.fz, r.2)) ∧ (∀ ρ, ev cl .kn ρ = some (.non, ρ)) ∧ (∀ b ρ, ev cl (.kb b) ρ = some (.bl b, ρ)) ∧ (∀ i ρ, ev cl (.ki i) ρ = some (.int i, ρ)) ∧ (∀ s ρ, ev cl (.ks s) ρ = some (.str s, ρ)) ∧
    (∀ x d ρ, ev cl (.gl x d) ρ = some (d, ρ)) ∧ (∀ o es ρ, ev cl (.op o es) ρ = (evPs cl es ρ).bind fun r => (opV cl o es.pls r.1).map fun d => (d, r.2)) ∧ (∀ a ρ, ev cl (.not a) ρ = (ev cl a ρ).bind fun r => (asBl r.1).map fun b => (.bl (!b), r.2)) ∧
    (∀ a b ρ, ev cl (.and a b) ρ = (ev cl a ρ).bind fun r => (asBl r.1).bind fun k => if k then (ev cl b r.2).bind fun s => (asBl s.1).map fun j => (.bl j, s.2) else some (.bl false, r.2)) ∧
    (∀ a b ρ, ev cl (.or a b) ρ = (ev cl a ρ).bind fun r => (asBl r.1).bind fun k => if k then some (.bl true, r.2) else (ev cl b r.2).bind fun s => (asBl s.1).map fun j => (.bl j, s.2)) ∧
    (∀ c a b ρ, ev cl (.ite c a b) ρ = (ev cl c ρ).bind fun r => (asBl r.1).bind fun k => if k then adj a.pl (ev cl a r.2) else adj b.pl (ev cl b r.2)) ∧
    (∀ es ρ, ev cl (.lst es) ρ = (evAs cl es ρ).bind fun r => if r.1.length ≤ lim then some (.lst .own r.1, r.2) else none) ∧ (∀ es ρ, ev cl (.tup es) ρ = (evAs cl es ρ).bind fun r => if r.1.length ≤ lim then some (.tup r.1, r.2) else none) ∧
    (∀ f es ρ, ev cl (.call f es) ρ = (evC cl es ρ).bind fun r => (doCall cl f [] [] r.1 r.2).map fun t => (t.1, t.2.2)) := by
  refine ⟨?_, ?_, ?_, ?_, ?_, ?_, ?_, ?_, ?_, ?_, ?_, ?_, ?_, ?_, ?_, ?_, ?_⟩ <;> intros <;> simp only [ev]
/-- lists of them -/
theorem eL : (∀ ρ, evPs cl .nil ρ = some ([], ρ)) ∧ (∀ e es ρ, evPs cl (.cons e es) ρ = (ev cl e ρ).bind fun r => if !e.pl || r.1.sh || es.still then (evPs cl es r.2).map fun s => (r.1 :: s.1, s.2) else none) ∧
    (∀ ρ, evAs cl .nil ρ = some ([], ρ)) ∧ (∀ e es ρ, evAs cl (.cons e es) ρ = (adj e.pl (ev cl e ρ)).bind fun r => (evAs cl es r.2).map fun s => (r.1 :: s.1, s.2)) ∧
    (∀ ρ, evC cl .nil ρ = some ([], ρ)) ∧ (∀ i es ρ, evC cl (.cons (.io i) es) ρ = (gI ρ i).bind fun _ => (evC cl es ρ).map fun s => (.io i :: s.1, s.2)) ∧ (∀ i es ρ, evC cl (.cons (.var i) es) ρ = (gI ρ i).bind fun _ => (evC cl es ρ).map fun s => (.late i :: s.1, s.2)) ∧
    (∀ e es ρ, evC cl (.cons (.it e) es) ρ = (adj e.pl (ev cl e ρ)).bind fun r => (evC cl es r.2).map fun s => (.it r.1 :: s.1, s.2)) ∧
    (∀ ρ, evCs cl .nil ρ = some (true, ρ)) ∧ (∀ e es ρ, evCs cl (.cons e es) ρ = (ev cl e ρ).bind fun r => (asBl r.1).bind fun b => if b then evCs cl es r.2 else some (false, r.2)) := by
  refine ⟨?_, ?_, ?_, ?_, ?_, ?_, ?_, ?_, ?_, ?_⟩ <;> intros <;> simp only [evPs, evAs, evC, evCs]
def argB : ME → Bool
  | .io _ | .it _ | .var _ => false
  | _ => true
/-- an argument of any other form -/
theorem eArg (e : ME) (es : MEs) (ρ : Env) (h : argB e = true) : evC cl (.cons e es) ρ = (ev cl e ρ).bind fun r => if !e.pl then (evC cl es r.2).map fun s => (.val r.1.fz :: s.1, s.2) else if r.1.sh then (evC cl es r.2).map fun s => (.val r.1 :: s.1, s.2)
      else if es.still then (evC cl es r.2).map fun s => (.prt r.1 :: s.1, s.2) else none := by
  cases e <;> first | (cases h; done) | (rw [evC] <;> (intro _ q; cases q))
def argK (cl : Call) (e : ME) (es : MEs) (ρ : Env) : Option (List Ar × Env) := (ev cl e ρ).bind fun r => if !e.pl then (evC cl es r.2).map fun s => (.val r.1.fz :: s.1, s.2) else if r.1.sh then (evC cl es r.2).map fun s => (.val r.1 :: s.1, s.2)
      else if es.still then (evC cl es r.2).map fun s => (.prt r.1 :: s.1, s.2) else none
theorem eR : (∀ o xs es ρ, evC cl (.cons (.op o xs) es) ρ = argK cl (.op o xs) es ρ) ∧ (∀ o xs es ρ, evC cl (.cons (.call o xs) es) ρ = argK cl (.call o xs) es ρ) ∧ (∀ c m o xs es ρ, evC cl (.cons (.meth c m o xs) es) ρ = argK cl (.meth c m o xs) es ρ) ∧ (∀ c o xs es ρ, evC cl (.cons (.mk c o xs) es) ρ = argK cl (.mk c o xs) es ρ) ∧
    (∀ a es ρ, evC cl (.cons (.ki a) es) ρ = argK cl (.ki a) es ρ) ∧ (∀ a es ρ, evC cl (.cons (.ks a) es) ρ = argK cl (.ks a) es ρ) ∧ (∀ a es ρ, evC cl (.cons (.kb a) es) ρ = argK cl (.kb a) es ρ) ∧ (∀ es ρ, evC cl (.cons .kn es) ρ = argK cl .kn es ρ) ∧ (∀ a d es ρ, evC cl (.cons (.gl a d) es) ρ = argK cl (.gl a d) es ρ) ∧
    (∀ a es ρ, evC cl (.cons (.lst a) es) ρ = argK cl (.lst a) es ρ) ∧ (∀ a es ρ, evC cl (.cons (.tup a) es) ρ = argK cl (.tup a) es ρ) ∧ (∀ a es ρ, evC cl (.cons (.dic a) es) ρ = argK cl (.dic a) es ρ) ∧ (∀ a es ρ, evC cl (.cons (.fr a) es) ρ = argK cl (.fr a) es ρ) ∧ (∀ a es ρ, evC cl (.cons (.fz a) es) ρ = argK cl (.fz a) es ρ) ∧ (∀ a es ρ, evC cl (.cons (.mv a) es) ρ = argK cl (.mv a) es ρ) ∧
    (∀ a es ρ, evC cl (.cons (.bw a) es) ρ = argK cl (.bw a) es ρ) ∧ (∀ a es ρ, evC cl (.cons (.not a) es) ρ = argK cl (.not a) es ρ) ∧ (∀ a b es ρ, evC cl (.cons (.and a b) es) ρ = argK cl (.and a b) es ρ) ∧ (∀ a b es ρ, evC cl (.cons (.or a b) es) ρ = argK cl (.or a b) es ρ) ∧ (∀ a b c es ρ, evC cl (.cons (.ite a b c) es) ρ = argK cl (.ite a b c) es ρ) ∧
    (∀ a b c d e es ρ, evC cl (.cons (.lc a b c d e) es) ρ = argK cl (.lc a b c d e) es ρ) ∧ (∀ a b c d e es ρ, evC cl (.cons (.dc a b c d e) es) ρ = argK cl (.dc a b c d e) es ρ) ∧
    (∀ e es ρ, argK cl e es ρ = (ev cl e ρ).bind fun r => if !e.pl then (evC cl es r.2).map fun s => (.val r.1.fz :: s.1, s.2) else if r.1.sh then (evC cl es r.2).map fun s => (.val r.1 :: s.1, s.2)
      else if es.still then (evC cl es r.2).map fun s => (.prt r.1 :: s.1, s.2) else none) := by
  refine ⟨?_, ?_, ?_, ?_, ?_, ?_, ?_, ?_, ?_, ?_, ?_, ?_, ?_, ?_, ?_, ?_, ?_, ?_, ?_, ?_, ?_, ?_, ?_⟩ <;> intros <;> first | exact eArg _ _ _ _ rfl | rfl
/-- comprehensions; what is walked -/
def lcG (own : List Nat) (t : MT) (cs : MEs) (e : ME) (x : D) (ρ' : Env) : Option (Option D × Env) := (bindT cl t x (wipeE ρ' own)).bind fun ρ2 => (evCs cl cs ρ2).bind fun c => if c.1 then (adj e.pl (ev cl e c.2)).map fun d => (some d.1, d.2) else some (none, c.2)
def rngD : D → D → Option (List D)
  | .int i, .int j => if small i && small j then some (nums i (j - i).toNat) else none
  | _, _ => none
def forG (t : MT) (b : MSs) (x : D) (ρ' : Env) : Option Fw := (bindT cl t x ρ').bind fun ρ2 => xss cl b ρ2
theorem eM : (∀ own t it cs e ρ, ev cl (.lc own t it cs e) ρ = (evI cl it ρ).bind fun r => (lcL (lcG cl own t cs e) r.1 r.2 []).map fun l => (.lst .own l.1, backE r.2 l.2 own)) ∧
    (∀ e ρ, evI cl (.seq e) ρ = (ev cl e ρ).bind fun r => (itemsOf e.pl r.1).map fun l => (l, r.2)) ∧
    (∀ a b ρ, evI cl (.rng a b) ρ = (ev cl a ρ).bind fun r => (ev cl b r.2).bind fun s => (rngD r.1 s.1).map fun l => (l, s.2)) ∧
    (∀ t it b r ρ, xss cl (.cons (.for_ t it b) r) ρ = (evI cl it ρ).bind fun v => (forL (forG cl t b) v.1 v.2).bind fun f => match f with
      | .nx ρ' => xss cl r ρ'
      | f => some f) := by
  refine ⟨?_, ?_, ?_, ?_⟩ <;> intros
  · simp only [ev]; rfl
  · simp only [evI]
  · simp only [evI]
    cases ev cl _ _ with
    | none => rfl
    | some r =>
      simp only [Option.bind_some]
      cases ev cl _ _ with
      | none => rfl
      | some s =>
        simp only [Option.bind_some]
        cases r.1 <;> try rfl
        cases s.1 <;> try rfl
        simp only [rngD]
        split <;> rfl
  · simp only [xss, xs]
    cases evI cl _ _ with
    | none => rfl
    | some v => rfl
/-- operations that are no == of instances -/
theorem opV_of {o : Op} {ps : List Bool} {ds : List D} (h : ownEq o ds = none) : opV cl o ps ds = opD o ps ds := by
  unfold opV; rw [h]
theorem eO : (∀ ps i, opV cl .neg ps [.int i] = some (.int (-i))) ∧ (∀ p q ps o a b, opV cl (.bin o) (p :: q :: ps) [a, b] = binD p q o a b) ∧ (∀ ps a i, opV cl .sub ps [a, i] = getD a i) ∧
    (∀ p ps a, opV cl (.slc false false) (p :: ps) [a] = cutD p a none none) ∧ (∀ p ps a l, opV cl (.slc true false) (p :: ps) [a, .int l] = cutD p a (some l) none) ∧ (∀ p ps a l, opV cl (.slc false true) (p :: ps) [a, .int l] = cutD p a none (some l)) ∧
    (∀ p ps a l h, opV cl (.slc true true) (p :: ps) [a, .int l, .int h] = cutD p a (some l) (some h)) ∧ (∀ p ps a, opV cl .rev (p :: ps) [a] = revD p a) ∧ (∀ x ps a, opV cl (.fld x) ps [a] = fieldD a x) ∧
    (∀ b ps ds, opV cl (.bi b) ps ds = biD b ps ds) ∧ (∀ b ps ds, opV cl (.bm b) ps ds = bmD b ps ds) ∧
    (∀ ps a b, opV cl (.cmp .lt) ps [a, b] = (cmpD .lt a b).map .bl) ∧ (∀ ps a b, opV cl (.cmp .le) ps [a, b] = (cmpD .le a b).map .bl) ∧ (∀ ps a b, opV cl (.cmp .gt) ps [a, b] = (cmpD .gt a b).map .bl) ∧ (∀ ps a b, opV cl (.cmp .ge) ps [a, b] = (cmpD .ge a b).map .bl) ∧
    (∀ ps a b, opV cl (.cmp .ne) ps [a, b] = ((eqD a b).map not).map .bl) ∧ (∀ ps a b, opV cl (.cmp .is) ps [a, b] = (cmpD .is a b).map .bl) ∧ (∀ ps a b, opV cl (.cmp .isnot) ps [a, b] = (cmpD .isnot a b).map .bl) ∧
    (∀ ps a b, opV cl (.cmp .inn) ps [a, b] = (inD a b).map .bl) ∧ (∀ ps a b, opV cl (.cmp .notin) ps [a, b] = ((inD a b).map not).map .bl) ∧
    (∀ ps i j, opV cl (.cmp .eq) ps [.int i, .int j] = some (.bl (decide (i = j)))) ∧ (∀ ps i j, opV cl (.cmp .eq) ps [.str i, .str j] = some (.bl (decide (i = j)))) ∧ (∀ ps i j, opV cl (.cmp .eq) ps [.bl i, .bl j] = some (.bl (decide (i = j)))) ∧
    (∀ ps f xs b, opV cl (.cmp .eq) ps [.lst f xs, b] = (eqD (.lst f xs) b).map .bl) ∧ (∀ ps xs b, opV cl (.cmp .eq) ps [.tup xs, b] = (eqD (.tup xs) b).map .bl) := by
  refine ⟨?_, ?_, ?_, ?_, ?_, ?_, ?_, ?_, ?_, ?_, ?_, ?_, ?_, ?_, ?_, ?_, ?_, ?_, ?_, ?_, ?_, ?_, ?_, ?_, ?_⟩ <;> intros <;> (rw [opV_of]; (first | rfl | simp [opD, cmpD, eqD, D.sc, scal])) <;> (first | rfl | simp [ownEq])
/-- operations by values -/
theorem eB : (∀ p q i j, binD p q .add (.int i) (.int j) = some (.int (i + j))) ∧ (∀ p q i j, binD p q .sub (.int i) (.int j) = some (.int (i - j))) ∧ (∀ p q i j, binD p q .mul (.int i) (.int j) = if mulOk i j then some (.int (i * j)) else none) ∧
    (∀ p q i j, binD p q .fdiv (.int i) (.int j) = if 0 < j ∧ j < 2 ^ 9000 then some (.int (i / j)) else none) ∧ (∀ p q i j, binD p q .mod (.int i) (.int j) = if 0 < j then some (.int (i % j)) else none) ∧
    (∀ p q i j, binD p q .pow (.int i) (.int j) = if 0 ≤ j ∧ j ≤ 1000000 ∧ i.natAbs < 2 ^ 64 then some (.int (i ^ j.toNat)) else none) ∧
    (∀ p q x y, binD p q .add (.str x) (.str y) = if x.length + y.length ≤ lim then some (.str (x ++ y)) else none) ∧
    (∀ p q f g xs ys, binD p q .add (.lst f xs) (.lst g ys) = if xs.length + ys.length ≤ lim then (kids p xs).bind fun a => (kids q ys).bind fun b => some (.lst .own (a ++ b)) else none) ∧
    (∀ xs, kids false xs = some xs) ∧
    (∀ f ds i, getD (.lst f ds) (.int i) = atI ds i) ∧ (∀ ds i, getD (.tup ds) (.int i) = atI ds i) ∧ (∀ z i, getD (.str z) (.int i) = if z.length ≤ lim then (atI z.cps.toList i).map fun c => .str ⟨#[c]⟩ else none) ∧ (∀ ns i, getD (.scr ns) (.int i) = (atI ns i).map .int) ∧
    (∀ i j, cmpD .lt (.int i) (.int j) = some (decide (i < j))) ∧ (∀ i j, cmpD .le (.int i) (.int j) = some (decide (i ≤ j))) ∧ (∀ i j, cmpD .gt (.int i) (.int j) = some (decide (j < i))) ∧ (∀ i j, cmpD .ge (.int i) (.int j) = some (decide (j ≤ i))) ∧
    (∀ ps x, biD .len ps [.str x] = if x.length ≤ lim then some (.int x.length) else none) ∧ (∀ ps f x, biD .len ps [.lst f x] = some (.int x.length)) ∧ (∀ ps x, biD .len ps [.tup x] = some (.int x.length)) ∧ (∀ ps f k x, biD .len ps [.dic f k x] = some (.int k.length)) ∧ (∀ ps x, biD .len ps [.scr x] = some (.int x.length)) ∧
    (∀ ps i, biD .abs ps [.int i] = some (.int (if i < 0 then -i else i))) ∧ (∀ ps i j, biD .min ps [.int i, .int j] = some (.int (if j < i then j else i))) ∧ (∀ ps i j, biD .max ps [.int i, .int j] = some (.int (if j > i then j else i))) ∧
    (∀ ps f xs, biD .all ps [.lst f xs] = (blsD xs).map fun l => .bl (l.all id)) ∧ (∀ ps f xs, biD .any ps [.lst f xs] = (blsD xs).map fun l => .bl (l.any id)) ∧ (∀ ps f xs, biD .sum ps [.lst f xs] = (intsD xs).map fun l => .int l.sum) ∧
    (∀ ps i j, biD .divmod ps [.int i, .int j] = if 0 < j ∧ j < 2 ^ 9000 then some (.tup [.int (i / j), .int (i % j)]) else none) ∧
    (∀ ps ts d, biD (.isin ts) ps [d] = (tyOf d).bind fun a => (isAny a ts).map .bl) := by
  refine ⟨?_, ?_, ?_, ?_, ?_, ?_, ?_, ?_, ?_, ?_, ?_, ?_, ?_, ?_, ?_, ?_, ?_, ?_, ?_, ?_, ?_, ?_, ?_, ?_, ?_, ?_, ?_, ?_, ?_, ?_⟩ <;> intros <;> rfl
/-- statements -/
theorem eS : (∀ ρ, xss cl .nil ρ = some (.nx ρ)) ∧ (∀ t e r ρ, xss cl (.cons (.asg t e) r) ρ = (adj e.pl (ev cl e ρ)).bind fun v => (bindT cl t v.1 v.2).bind fun ρ' => xss cl r ρ') ∧ (∀ e r ρ, xss cl (.cons (.ret e) r) ρ = (adj e.pl (ev cl e ρ)).map fun v => .rt v.1 v.2) ∧
    (∀ r ρ, xss cl (.cons .retn r) ρ = some (.rt .non ρ)) ∧ (∀ is r ρ, xss cl (.cons (.kill is) r) ρ = xss cl r (wipeE ρ is)) ∧ (∀ e r ρ, xss cl (.cons (.ex e) r) ρ = (ev cl e ρ).bind fun v => xss cl r v.2) ∧
    (∀ r ρ, xss cl (.cons .pass r) ρ = xss cl r ρ) ∧ (∀ r ρ, xss cl (.cons .brk r) ρ = some (.bk ρ)) ∧ (∀ r ρ, xss cl (.cons .cont r) ρ = some (.ct ρ)) := by
  refine ⟨?_, ?_, ?_, ?_, ?_, ?_, ?_, ?_, ?_⟩ <;> intros <;> simp only [xss, xs, Option.bind_some] <;> try rfl
  · cases adj _ _ with
    | none => rfl
    | some v =>
      simp only [Option.bind_some]
      cases bindT cl _ _ _ <;> rfl
  · cases adj _ _ <;> rfl
  · cases ev cl _ _ <;> rfl
/-- if: the ways -/
theorem e_ife (c : ME) (a b r : MSs) (ρ : Env) : xss cl (.cons (.ife c a b) r) ρ = (ev cl c ρ).bind fun v => (asBl v.1).bind fun k => (if k then xss cl a v.2 else xss cl b v.2).bind fun f => match f with
    | .nx ρ' => xss cl r ρ'
    | f => some f := by
  simp only [xss, xs]
  cases ev cl c ρ with
  | none => rfl
  | some v =>
    simp only [Option.bind_some]
    cases asBl v.1 with
    | none => rfl
    | some k =>
      simp only [Option.bind_some]
      all_goals rfl
/-- targets -/
theorem eT : (∀ i d ρ, bindT cl (.nm i) d ρ = some (ρ.set i (some d))) ∧ (∀ ts ds ρ, bindT cl (.tp ts) (.tup ds) ρ = bindTs cl ts ds ρ) ∧ (∀ ρ, bindTs cl .nil [] ρ = some ρ) ∧ (∀ t ts d ds ρ, bindTs cl (.cons t ts) (d :: ds) ρ = (bindT cl t d ρ).bind fun ρ' => bindTs cl ts ds ρ') ∧
    (∀ i j d ρ, bindT cl (.st i .nil (.ki j)) d ρ = (gI ρ i).bind fun t => (setS t d (.key (.inl j))).map fun t' => ρ.set i (some t')) := by
  refine ⟨?_, ?_, ?_, ?_, ?_⟩ <;> intros <;> simp only [bindT, bindTs]
  simp [ME.still, evPath, ev, D.key?, modP]
theorem eA : (∀ r, adj false r = r) ∧ (∀ d ρ, adj true (some (d, ρ)) = if d.sh then some (d, ρ) else none) ∧ (adj true none = none) := by
  refine ⟨?_, ?_, ?_⟩
  · intro r; unfold adj; cases r <;> rfl
  · intro d ρ; unfold adj; simp only [Option.bind_some, Bool.true_and]; cases d.sh <;> rfl
  · rfl
/-- places in memory: written lists -/
theorem eG : (∀ x ρ, gI (x :: ρ) 0 = x) ∧ (∀ x ρ i, gI (x :: ρ) (i + 1) = gI ρ i) := by
  refine ⟨fun x ρ => by cases x <;> rfl, fun x ρ i => rfl⟩
theorem eF : D.fz .non = .non ∧ (∀ b, D.fz (.bl b) = .bl b) ∧ (∀ b, D.fz (.int b) = .int b) ∧ (∀ b, D.fz (.str b) = .str b) ∧ (∀ ds, D.fz (.tup ds) = .tup (ds.map D.fz)) ∧ (∀ f ds, D.fz (.lst f ds) = .lst f.fz (ds.map D.fz)) ∧ (∀ f k ds, D.fz (.dic f k ds) = .dic f.fz k (ds.map D.fz)) ∧
    D.sh .non = true ∧ (∀ b, D.sh (.bl b) = true) ∧ (∀ b, D.sh (.int b) = true) ∧ (∀ b, D.sh (.str b) = true) ∧ (∀ ds, D.sh (.tup ds) = ds.all D.sh) ∧ (∀ f ds, D.sh (.lst f ds) = (f.sh && ds.all D.sh)) ∧ (∀ f k ds, D.sh (.dic f k ds) = (f.sh && ds.all D.sh)) ∧
    D.br .non = .non ∧ (∀ b, D.br (.bl b) = .bl b) ∧ (∀ b, D.br (.int b) = .int b) ∧ (∀ b, D.br (.str b) = .str b) ∧ (∀ ds, D.br (.tup ds) = .tup (ds.map D.br)) ∧ (∀ f ds, D.br (.lst f ds) = .lst f.br (ds.map D.br)) ∧ (∀ f k ds, D.br (.dic f k ds) = .dic f.br k (ds.map D.br)) ∧ (∀ ns, D.br (.scr ns) = .scr ns) ∧ (∀ ns, D.fz (.scr ns) = .scr ns) ∧ (∀ ns, D.sh (.scr ns) = true) ∧
    D.nb .non = true ∧ (∀ b, D.nb (.bl b) = true) ∧ (∀ b, D.nb (.int b) = true) ∧ (∀ b, D.nb (.str b) = true) ∧ (∀ ds, D.nb (.tup ds) = ds.all D.nb) ∧ (∀ f ds, D.nb (.lst f ds) = (f.nb && ds.all D.nb)) ∧ (∀ f k ds, D.nb (.dic f k ds) = (f.nb && ds.all D.nb)) := by
  simp [D.fz, D.sh, D.br, D.nb]
end

theorem eX : (∀ b, (b || true) = true) ∧ (∀ b, (true || b) = true) ∧ (∀ b, (b || false) = b) ∧ (∀ b, (false || b) = b) ∧ (∀ b, (b && true) = b) ∧ (∀ b, (true && b) = b) ∧ (∀ b, (b && false) = false) ∧ (∀ b, (false && b) = false) ∧ (!true) = false ∧ (!false) = true ∧
    (∀ b, asBl (.bl b) = some b) ∧ ((true = true) = True) ∧ ((false = true) = False) ∧ (∀ b : Bool, (b == true) = b) ∧ (∀ b : Bool, (b == false) = !b) := by
  refine ⟨?_, ?_, ?_, ?_, ?_, ?_, ?_, ?_, rfl, rfl, fun _ => rfl, by simp, by simp, ?_, ?_⟩ <;> intro b <;> cases b <;> rfl
theorem eP : (∀ i, ME.pl (.var i) = true) ∧ (∀ i, ME.pl (.mv i) = false) ∧ (∀ i, ME.pl (.fz i) = false) ∧ (∀ a, ME.pl (.fr a) = false) ∧ (∀ a, ME.pl (.bw a) = false) ∧ ME.pl .kn = false ∧ (∀ b, ME.pl (.kb b) = false) ∧ (∀ i, ME.pl (.ki i) = false) ∧ (∀ s, ME.pl (.ks s) = false) ∧ (∀ x d, ME.pl (.gl x d) = false) ∧
    (∀ x es, ME.pl (.op (.fld x) es) = es.pl1) ∧ (∀ es, ME.pl (.op .sub es) = es.pl1) ∧ (∀ o es, ME.pl (.op (.bin o) es) = false) ∧ (∀ o es, ME.pl (.op (.cmp o) es) = false) ∧ (∀ o es, ME.pl (.op (.bi o) es) = false) ∧ (∀ o es, ME.pl (.op (.bm o) es) = false) ∧ (∀ es, ME.pl (.op .neg es) = false) ∧ (∀ es, ME.pl (.op .rev es) = false) ∧ (∀ es, ME.pl (.op .fst es) = false) ∧ (∀ c es, ME.pl (.op (.isc c) es) = false) ∧ (∀ l h es, ME.pl (.op (.slc l h) es) = false) ∧
    (∀ a, ME.pl (.not a) = false) ∧ (∀ o o' a b c, ME.pl (.chn o o' a b c) = false) ∧ (∀ a b, ME.pl (.and a b) = false) ∧ (∀ a b, ME.pl (.or a b) = false) ∧ (∀ a b c, ME.pl (.ite a b c) = false) ∧ (∀ es, ME.pl (.lst es) = false) ∧ (∀ es, ME.pl (.tup es) = false) ∧ (∀ es, ME.pl (.dic es) = false) ∧
    (∀ f es, ME.pl (.call f es) = false) ∧ (∀ c m f es, ME.pl (.meth c m f es) = false) ∧ (∀ c f es, ME.pl (.mk c f es) = false) ∧ (∀ a b c d e, ME.pl (.lc a b c d e) = false) ∧ (∀ a b c d e, ME.pl (.dc a b c d e) = false) ∧ (∀ a b c, ME.pl (.pop a b c) = false) ∧
    (∀ e es, MEs.pl1 (.cons e es) = e.pl) ∧ MEs.pl1 .nil = false ∧ MEs.pls .nil = [] ∧ (∀ e es, MEs.pls (.cons e es) = e.pl :: es.pls) := by
  refine ⟨?_, ?_, ?_, ?_, ?_, ?_, ?_, ?_, ?_, ?_, ?_, ?_, ?_, ?_, ?_, ?_, ?_, ?_, ?_, ?_, ?_, ?_, ?_, ?_, ?_, ?_, ?_, ?_, ?_, ?_, ?_, ?_, ?_, ?_, ?_, ?_, ?_, ?_, ?_⟩ <;> intros <;> simp only [ME.pl, MEs.pl1, MEs.pls]
theorem finish_rt {fd : Fn} {d : D} {ρ : Env} : finish fd (some (.rt d ρ)) = (outs ρ 0 fd.io).bind fun os => if d.nb && nbs os then some (if fd.ro then d else d.fz, os) else none := rfl
theorem finish_nx {fd : Fn} {ρ : Env} : finish fd (some (.nx ρ)) = (outs ρ 0 fd.io).bind fun os => if nbs os then some (.non, os) else none := rfl
theorem eU : (∀ ρ i, outs ρ i [] = some []) ∧ (∀ ρ i r, outs ρ i (false :: r) = outs ρ (i + 1) r) ∧ (∀ ρ i r, outs ρ i (true :: r) = (gI ρ i).bind fun d => (outs ρ (i + 1) r).map fun ds => d :: ds) := by
  refine ⟨fun _ _ => rfl, fun _ _ _ => rfl, fun ρ i r => ?_⟩
  simp only [outs]
  cases gI ρ i with
  | none => rfl
  | some d => cases outs ρ (i + 1) r <;> rfl
/-- calls with their arguments ready -/
theorem eC : (∀ cl f ρ, doCall cl f [] [] [] ρ = (cl f [] []).bind fun r => (setAll ρ [] r.2).map fun ρ' => (r.1, [], ρ')) ∧
    (∀ cl f c cs ρ, doCall cl f [] [] (c :: cs) ρ = if caOk (c :: cs) then (getAll ρ (c :: cs)).bind fun ds => (cl f ((c :: cs).map Ar.flag) ds).bind fun r => (setAll ρ (ios (c :: cs)) r.2).map fun ρ' => (r.1, [], ρ') else none) ∧
    (∀ ρ, getAll ρ [] = some []) ∧ (∀ ρ c r, getAll ρ (c :: r) = (c.get ρ).bind fun d => (getAll ρ r).map fun ds => d :: ds) ∧
    (∀ ρ d, Ar.get ρ (.val d) = some d) ∧ (∀ ρ d, Ar.get ρ (.prt d) = some d.br) ∧ (∀ ρ i, Ar.get ρ (.late i) = (gI ρ i).map D.br) ∧ (∀ ρ i, Ar.get ρ (.io i) = gI ρ i) ∧ (∀ ρ d, Ar.get ρ (.it d) = some d) ∧
    (∀ d, Ar.flag (.val d) = false) ∧ (∀ d, Ar.flag (.prt d) = false) ∧ (∀ d, Ar.flag (.late d) = false) ∧ (∀ d, Ar.flag (.io d) = true) ∧ (∀ d, Ar.flag (.it d) = true) ∧
    ios [] = [] ∧ (∀ i r, ios (.io i :: r) = some i :: ios r) ∧ (∀ i r, ios (.it i :: r) = none :: ios r) ∧ (∀ i r, ios (.val i :: r) = ios r) ∧ (∀ i r, ios (.prt i :: r) = ios r) ∧ (∀ i r, ios (.late i :: r) = ios r) ∧
    (∀ ρ, setAll ρ [] [] = some ρ) ∧ (∀ ρ i is d ds, setAll ρ (some i :: is) (d :: ds) = setAll (ρ.set i (some d)) is ds) ∧ (∀ ρ is d ds, setAll ρ (none :: is) (d :: ds) = setAll ρ is ds) := by
  refine ⟨?_, ?_, fun _ => rfl, fun ρ c r => ?_, ?_⟩
  · intro cl f ρ
    unfold doCall
    simp [caOk, ios, lates, getAll]
  · intro cl f c cs ρ
    unfold doCall
    simp
  · simp only [getAll]
    cases c.get ρ with
    | none => rfl
    | some d => cases getAll ρ r <;> rfl
  · refine ⟨?_, ?_, ?_, ?_, ?_, ?_, ?_, ?_, ?_, ?_, rfl, ?_, ?_, ?_, ?_, ?_, ?_, ?_, ?_⟩ <;> intros <;> first | rfl | simp [ios]
/-- which names go in and out -/
theorem eK : (∀ d, caOk [.val d] = true) ∧ (∀ d, caOk [.late d] = true) ∧ (∀ d, caOk [.io d] = true) ∧ (∀ d, caOk [.it d] = true) ∧ (∀ d, caOk [.prt d] = true) := by
  refine ⟨?_, ?_, ?_, ?_, ?_⟩ <;> intro d <;> simp [caOk, ios, lates, Ar.isPrt]

/-- a written list's item at a written place -/
theorem eI {α : Type} : (∀ xs : List α, L2.atI xs 0 = xs[0]?) ∧ (∀ xs : List α, L2.atI xs 1 = xs[1]?) ∧ (∀ xs : List α, L2.atI xs 2 = xs[2]?) ∧ (∀ xs : List α, L2.atI xs 3 = xs[3]?) ∧ (∀ (x : α) xs, (x :: xs)[0]? = some x) ∧ (∀ (x : α) xs (n : Nat), (x :: xs)[n + 1]? = xs[n]?) := by
  have h : ∀ (xs : List α) (n : Nat), L2.atI xs (n : Int) = xs[n]? := fun xs n => by
    unfold L2.atI L2.ixN
    by_cases e : n < xs.length
    · simp [e]
    · simp [e]
  exact ⟨fun xs => h xs 0, fun xs => h xs 1, fun xs => h xs 2, fun xs => h xs 3, fun _ _ => rfl, fun _ _ _ => rfl⟩
theorem atI_nat {α : Type} (xs : List α) (n : Nat) : L2.atI xs (n : Int) = xs[n]? := by
  unfold L2.atI L2.ixN
  by_cases e : n < xs.length
  · simp [e]
  · simp [e]
/-- an item of a list at a place within -/
theorem atI_in {α : Type} {xs : List α} {i : Int} (h0 : 0 ≤ i) (h1 : i < xs.length) : L2.atI xs i = some (xs[i.toNat]'(by omega)) := by
  have e := atI_nat xs i.toNat
  rw [show ((i.toNat : Nat) : Int) = i by omega] at e
  rw [e, List.getElem?_eq_getElem]
theorem eW : (∀ ρ : Env, wipeE ρ [] = ρ) ∧ (∀ (ρ : Env) i is, wipeE ρ (i :: is) = (wipeE ρ is).set i none) ∧ (∀ (x y : Option D) (ρ : Env), List.set (x :: ρ) 0 y = y :: ρ) ∧ (∀ (x y : Option D) (ρ : Env) n, List.set (x :: ρ) (n + 1) y = x :: List.set ρ n y) ∧
    (∀ f d x ds, setS (.lst f (d :: ds)) x (.key (.inl 0)) = if f = .own then some (.lst .own (x :: ds)) else none) ∧ (∀ f d d' x ds, setS (.lst f (d :: d' :: ds)) x (.key (.inl 1)) = if f = .own then some (.lst .own (d :: x :: ds)) else none) := by
  refine ⟨fun _ => rfl, fun _ _ _ => rfl, fun _ _ _ => rfl, fun _ _ _ _ => rfl, fun f d x ds => ?_, fun f d d' x ds => ?_⟩
  · cases f with
    | own => simp [setS, L2.ixN]
    | _ => rfl
  · cases f with
    | own => simp [setS, L2.ixN]; omega
    | _ => rfl
theorem eN : (∀ ds, nbs ds = ds.all D.nb) ∧ Fl.nb .own = true ∧ Fl.nb .frz = true ∧ Fl.sh .own = false ∧ Fl.sh .frz = true ∧ Fl.sh .bor = true ∧ Fl.fz .own = .frz ∧ Fl.fz .frz = .frz ∧ Fl.fz .bor = .bor ∧ Fl.br .own = .bor ∧ Fl.br .frz = .frz ∧ Fl.br .bor = .bor ∧ (∀ p : D → Bool, List.all [] p = true) ∧ (∀ (p : D → Bool) d ds, List.all (d :: ds) p = (p d && List.all ds p)) ∧
    (∀ ds, shs ds = ds.all D.sh) ∧ (∀ ds, fzs ds = ds.map D.fz) ∧ (∀ ds, brs ds = ds.map D.br) := by
  refine ⟨nbs_eq, rfl, rfl, rfl, rfl, rfl, rfl, rfl, rfl, rfl, rfl, rfl, fun _ => rfl, fun _ _ _ => rfl, shs_eq, fzs_eq, brs_eq⟩

theorem eRg : ∀ i j, rngD (.int i) (.int j) = if small i && small j then some (nums i (j - i).toNat) else none := fun _ _ => rfl
theorem eQ : (∀ {α β : Type} (x : α) (f : α → Option β), (some x).bind f = f x) ∧ (∀ {α β : Type} (x : α) (f : α → β), (some x).map f = some (f x)) ∧ (∀ {α β : Type} (f : α → β), List.map f [] = []) ∧ (∀ {α β : Type} (f : α → β) a l, List.map f (a :: l) = f a :: List.map f l) ∧ (∀ {α : Type} (l : List α), [] ++ l = l) ∧ (∀ {α : Type} (a : α) (l m : List α), (a :: l) ++ m = a :: (l ++ m)) ∧
    (∀ x : Option D, List.replicate 0 x = []) ∧ (∀ (n : Nat) (x : Option D), List.replicate (n + 1) x = x :: List.replicate n x) ∧ decide True = true ∧ decide False = false ∧ ((false = true) = False) ∧ (∀ {p : Prop}, (p ∧ p) = p) ∧ (∀ {p : Prop}, (True ∧ p) = p) ∧ (∀ {p : Prop}, (p ∧ True) = p) ∧ (∀ {α : Type} (a b : α), (if True then a else b) = a) ∧ (∀ {α : Type} (a b : α), (if False then a else b) = b) := by
  refine ⟨fun _ _ => rfl, fun _ _ => rfl, fun _ => rfl, fun _ _ _ => rfl, fun _ => rfl, fun _ _ _ => rfl, fun _ => rfl, fun _ _ => rfl, rfl, rfl, by simp, by simp, by simp, by simp, fun _ _ => if_pos trivial, fun _ _ => if_neg id⟩
/-- all of them -/
def E := And.intro @e_ife (And.intro @eE (And.intro @eL (And.intro @eO (And.intro @eB (And.intro @eS (And.intro @eT (And.intro @eA (And.intro @eG (And.intro @eP (And.intro @eX (And.intro @eI (And.intro @eU (And.intro @eW (And.intro @eN (And.intro @eF (And.intro @finish_rt (And.intro @finish_nx (And.intro @eC (And.intro @eK (And.intro @eR (And.intro @eM (And.intro @eRg @eQ))))))))))))))))))))))
end Mp
set_option linter.all false
set_option maxRecDepth 100000
set_option maxHeartbeats 1000000
/-! # Mp: written things by their values -/
namespace Mp
open PySem L2
mutual
def beqD : D → D → Bool
  | .non, .non => true
  | .bl a, .bl b => a == b
  | .int a, .int b => a == b
  | .str a, .str b => decide (a = b)
  | .tup a, .tup b => beqDs a b
  | .lst f a, .lst g b => decide (f = g) && beqDs a b
  | .dic f k a, .dic g l b => decide (f = g) && decide (k = l) && beqDs a b
  | _, _ => false
def beqDs : List D → List D → Bool
  | [], [] => true
  | a :: r, b :: s => beqD a b && beqDs r s
  | _, _ => false
end
mutual
theorem beqD_eq : ∀ {a b : D}, beqD a b = true → a = b
  | .non, b, h => by cases b <;> first | rfl | (simp [beqD] at h)
  | .bl x, b, h => by cases b <;> first | (simp [beqD] at h; rw [h]; done) | (simp [beqD] at h)
  | .int x, b, h => by cases b <;> first | (simp [beqD] at h; rw [h]; done) | (simp [beqD] at h)
  | .str x, b, h => by cases b <;> first | (simp [beqD] at h; rw [h]; done) | (simp [beqD] at h)
  | .tup x, b, h => by
    cases b with
    | tup y => simp only [beqD] at h; rw [beqDs_eq h]
    | _ => simp [beqD] at h
  | .lst f x, b, h => by
    cases b with
    | lst g y => simp only [beqD, Bool.and_eq_true, decide_eq_true_eq] at h; rw [h.1, beqDs_eq h.2]
    | _ => simp [beqD] at h
  | .dic f k x, b, h => by
    cases b with
    | dic g l y => simp only [beqD, Bool.and_eq_true, decide_eq_true_eq] at h; rw [h.1.1, h.1.2, beqDs_eq h.2]
    | _ => simp [beqD] at h
  | .ins _ _ _ _, _, h => by simp [beqD] at h
  | .scr _, _, h => by simp [beqD] at h
theorem beqDs_eq : ∀ {a b : List D}, beqDs a b = true → a = b
  | [], [], _ => rfl
  | [], _ :: _, h => by simp [beqDs] at h
  | _ :: _, [], h => by simp [beqDs] at h
  | a :: r, b :: s, h => by
    simp only [beqDs, Bool.and_eq_true] at h
    rw [beqD_eq h.1, beqDs_eq h.2]
end
mutual
def dispD : ME → Option D
  | .kn => some .non
  | .kb b => some (.bl b)
  | .ki i => some (.int i)
  | .ks s => some (.str s)
  | .gl _ d => some d
  | .op .neg (.cons (.ki i) .nil) => some (.int (-i))
  | .lst es => (dispL es).bind fun l => if l.length ≤ lim then some (.lst .own l) else none
  | .tup es => (dispL es).bind fun l => if l.length ≤ lim then some (.tup l) else none
  | .dic es => (dispK es).bind fun l => if l.length ≤ 15 ∧ (l.map (·.1)).Nodup then some (.dic .own (l.map (·.1)) (l.map (·.2))) else none
  | .fr a => (dispD a).map D.fz
  | _ => none
def dispL : MEs → Option (List D)
  | .nil => some []
  | .cons e es => (dispD e).bind fun d => (dispL es).map fun l => d :: l
def dispK : MKs → Option (List (Key × D))
  | .nil => some []
  | .cons k e es => (dispD k).bind fun q => q.key?.bind fun key => (dispD e).bind fun d => (dispK es).map fun l => (key, d) :: l
end
variable (cl : Call)
mutual
theorem disp_ev : ∀ {m : ME} {d : D}, dispD m = some d → m.pl = false ∧ ∀ ρ, ev cl m ρ = some (d, ρ)
  | .kn, d, h => by simp only [dispD, Option.some.injEq] at h; subst h; exact ⟨rfl, fun ρ => by simp only [ev]⟩
  | .kb _, d, h => by simp only [dispD, Option.some.injEq] at h; subst h; exact ⟨rfl, fun ρ => by simp only [ev]⟩
  | .ki _, d, h => by simp only [dispD, Option.some.injEq] at h; subst h; exact ⟨rfl, fun ρ => by simp only [ev]⟩
  | .ks _, d, h => by simp only [dispD, Option.some.injEq] at h; subst h; exact ⟨rfl, fun ρ => by simp only [ev]⟩
  | .gl _ _, d, h => by simp only [dispD, Option.some.injEq] at h; subst h; exact ⟨rfl, fun ρ => by simp only [ev]⟩
  | .op o es, d, h => by
    cases o with
    | neg =>
      cases es with
      | nil => simp [dispD] at h
      | cons e r =>
        cases r with
        | cons _ _ => simp [dispD] at h
        | nil =>
          cases e <;> first
            | (simp [dispD] at h; done)
            | (simp only [dispD, Option.some.injEq] at h; subst h; exact ⟨by simp only [ME.pl], fun ρ => by simp only [E, MEs.still, ME.still]⟩)
    | _ => simp [dispD] at h
  | .lst es, d, h => by
    simp only [dispD] at h
    obtain ⟨l, e1, e2⟩ := Option.bind_eq_some_iff.mp h
    split at e2
    · cases e2
      exact ⟨by simp only [ME.pl], fun ρ => by simp only [ev, dispL_ev e1 ρ, Option.bind_some]; rw [if_pos (by assumption)]⟩
    · cases e2
  | .tup es, d, h => by
    simp only [dispD] at h
    obtain ⟨l, e1, e2⟩ := Option.bind_eq_some_iff.mp h
    split at e2
    · cases e2
      exact ⟨by simp only [ME.pl], fun ρ => by simp only [ev, dispL_ev e1 ρ, Option.bind_some]; rw [if_pos (by assumption)]⟩
    · cases e2
  | .dic es, d, h => by
    simp only [dispD] at h
    obtain ⟨l, e1, e2⟩ := Option.bind_eq_some_iff.mp h
    split at e2
    · rename_i hc
      cases e2
      refine ⟨by simp only [ME.pl], fun ρ => ?_⟩
      simp only [ev, dispK_ev e1 ρ, Option.bind_some]
      rw [if_pos hc.1, if_pos (decide_eq_true hc.2)]
    · cases e2
  | .fr a, d, h => by
    simp only [dispD] at h
    obtain ⟨d', e1, rfl⟩ := Option.map_eq_some_iff.mp h
    obtain ⟨p, q⟩ := disp_ev e1
    exact ⟨by simp only [ME.pl], fun ρ => by simp only [ev, p, q ρ, Bool.false_eq_true, if_false, Option.map_some]⟩
  | .var _, _, h => by simp [dispD] at h
  | .mv _, _, h => by simp [dispD] at h
  | .fz _, _, h => by simp [dispD] at h
  | .bw _, _, h => by simp [dispD] at h
  | .not _, _, h => by simp [dispD] at h
  | .chn _ _ _ _ _, _, h => by simp [dispD] at h
  | .and _ _, _, h => by simp [dispD] at h
  | .or _ _, _, h => by simp [dispD] at h
  | .ite _ _ _, _, h => by simp [dispD] at h
  | .call _ _, _, h => by simp [dispD] at h
  | .meth _ _ _ _, _, h => by simp [dispD] at h
  | .mk _ _ _, _, h => by simp [dispD] at h
  | .io _, _, h => by simp [dispD] at h
  | .it _, _, h => by simp [dispD] at h
  | .pop _ _ _, _, h => by simp [dispD] at h
  | .lc _ _ _ _ _, _, h => by simp [dispD] at h
  | .dc _ _ _ _ _, _, h => by simp [dispD] at h
theorem dispL_ev : ∀ {es : MEs} {l : List D}, dispL es = some l → ∀ ρ, evAs cl es ρ = some (l, ρ)
  | .nil, l, h, ρ => by simp only [dispL, Option.some.injEq] at h; subst h; simp only [evAs]
  | .cons e es, l, h, ρ => by
    simp only [dispL] at h
    obtain ⟨d, e1, h⟩ := Option.bind_eq_some_iff.mp h
    obtain ⟨l', e2, rfl⟩ := Option.map_eq_some_iff.mp h
    obtain ⟨p, q⟩ := disp_ev e1
    simp only [evAs, p, q ρ, eA, Option.bind_some, dispL_ev e2 ρ, Option.map_some]
theorem dispK_ev : ∀ {es : MKs} {l : List (Key × D)}, dispK es = some l → ∀ ρ, evKs cl es ρ = some (l, ρ)
  | .nil, l, h, ρ => by simp only [dispK, Option.some.injEq] at h; subst h; simp only [evKs]
  | .cons k e es, l, h, ρ => by
    simp only [dispK] at h
    obtain ⟨q, e0, h⟩ := Option.bind_eq_some_iff.mp h
    obtain ⟨key, e3, h⟩ := Option.bind_eq_some_iff.mp h
    obtain ⟨d, e1, h⟩ := Option.bind_eq_some_iff.mp h
    obtain ⟨l', e2, rfl⟩ := Option.map_eq_some_iff.mp h
    obtain ⟨p0, q0⟩ := disp_ev e0
    obtain ⟨p, q1⟩ := disp_ev e1
    simp only [evKs, q0 ρ, Option.bind_some, e3, p, q1 ρ, eA, dispK_ev e2 ρ, Option.map_some]
end
/-- a written thing, checked by computing -/
def dispIs (m : ME) (d : D) : Bool := match dispD m with
  | some x => beqD x d
  | none => false
theorem disp_is {m : ME} {d : D} (h : dispIs m d = true) (ρ : Env) : ev cl m ρ = some (d, ρ) := by
  unfold dispIs at h
  split at h
  · rename_i x e
    rw [← beqD_eq h]
    exact (disp_ev cl e).2 ρ
  · cases h
end Mp
set_option maxRecDepth 100000
namespace Mp
open PySem L2
/-- is_word(thing, sign) -/
def f2_is_word : Fn := { np := 1, ns := 2, io := [false], ro := false, body := (.cons (.ret (.and (.op (.bi (.isin ["str"])) (.cons (.var 0) .nil)) (.and (.op (.cmp .ne) (.cons (.var 0) (.cons (.ks "") .nil))) (.op (.bi .all) (.cons (.lc [1] (.nm 1) (.seq (.var 0)) .nil (.op (.cmp .inn) (.cons (.var 1) (.cons (.gl "LETTERS" (.str "abcdefghijklmnopqrstuvwxyz")) .nil)))) .nil))))) .nil) }
/-- is_name(thing) -/
def f3_is_name : Fn := { np := 1, ns := 1, io := [false], ro := false, body := (.cons (.ret (.and (.call 2 (.cons (.var 0) .nil)) (.op (.cmp .le) (.cons (.op (.bi .len) (.cons (.var 0) .nil)) (.cons (.gl "MOST_LETTERS" (.int 8)) .nil))))) .nil) }
/-- is_whole(thing) -/
def f4_is_whole : Fn := { np := 1, ns := 1, io := [false], ro := false, body := (.cons (.ret (.and (.op (.bi (.isin ["int"])) (.cons (.var 0) .nil)) (.and (.not (.op (.bi (.isin ["bool"])) (.cons (.var 0) .nil))) (.op (.cmp .ge) (.cons (.var 0) (.cons (.ki 0) .nil)))))) .nil) }
/-- is_amount(thing) -/
def f5_is_amount : Fn := { np := 1, ns := 1, io := [false], ro := false, body := (.cons (.ret (.and (.call 4 (.cons (.var 0) .nil)) (.op (.cmp .gt) (.cons (.var 0) (.cons (.ki 0) .nil))))) .nil) }
/-- _law_pot(_law_script, _law_k, _law_cell) -/
def f25_law_pot : Fn := { np := 2, ns := 3, io := [false, false], ro := true, body := (.cons (.asg (.nm 2) (.ki 0)) (.cons (.ife (.op (.cmp .lt) (.cons (.var 1) (.cons (.op (.bi .len) (.cons (.var 0) .nil)) .nil))) (.cons (.asg (.nm 2) (.op (.bi .abs) (.cons (.op .sub (.cons (.var 0) (.cons (.var 1) .nil))) .nil))) .nil) .nil) (.cons (.ret (.lst (.cons (.op (.bi .max) (.cons (.ki 0) (.cons (.op (.bin .sub) (.cons (.var 2) (.cons (.op (.bin .pow) (.cons (.ki 10) (.cons (.ki 18) .nil))) .nil))) .nil))) (.cons (.op (.bin .add) (.cons (.op (.bin .mod) (.cons (.op (.bin .pow) (.cons (.op (.bin .add) (.cons (.op (.bin .add) (.cons (.op (.bin .mod) (.cons (.var 2) (.cons (.ki 2147483549) .nil))) (.cons (.op (.bin .mul) (.cons (.ki 101) (.cons (.var 1) .nil))) .nil))) (.cons (.ki 1) .nil))) (.cons (.ki 2) .nil))) (.cons (.ki 2147483543) .nil))) (.cons (.ki 1) .nil))) .nil)))) .nil))) }
/-- _law_take(_law_pot_here, _law_many, _law_digit) -/
def f26_law_take : Fn := { np := 2, ns := 3, io := [true, false], ro := false, body := (.cons (.ife (.op (.cmp .gt) (.cons (.op .sub (.cons (.var 0) (.cons (.ki 0) .nil))) (.cons (.ki 0) .nil))) (.cons (.asg (.tp (.cons (.st 0 .nil (.ki 0)) (.cons (.nm 2) .nil))) (.op (.bi .divmod) (.cons (.op .sub (.cons (.var 0) (.cons (.ki 0) .nil))) (.cons (.var 1) .nil)))) (.cons (.ret (.mv 2)) .nil)) .nil) (.cons (.kill [2]) (.cons (.asg (.st 0 .nil (.ki 1)) (.op (.bin .mod) (.cons (.op (.bin .add) (.cons (.op (.bin .mul) (.cons (.op .sub (.cons (.var 0) (.cons (.ki 1) .nil))) (.cons (.ki 48271) .nil))) (.cons (.ki 10007) .nil))) (.cons (.ki 2147483587) .nil)))) (.cons (.ret (.op (.bin .mod) (.cons (.op (.bin .fdiv) (.cons (.op (.bin .mod) (.cons (.op (.bin .mul) (.cons (.op .sub (.cons (.var 0) (.cons (.ki 1) .nil))) (.cons (.op .sub (.cons (.var 0) (.cons (.ki 1) .nil))) .nil))) (.cons (.ki 2147483563) .nil))) (.cons (.ki 3) .nil))) (.cons (.var 1) .nil)))) .nil)))) }
/-- _law_among(_law_pot_here, _law_some) -/
def f29_law_among : Fn := { np := 2, ns := 2, io := [true, false], ro := true, body := (.cons (.ret (.op .sub (.cons (.var 1) (.cons (.call 26 (.cons (.io 0) (.cons (.op (.bi .len) (.cons (.var 1) .nil)) .nil))) .nil)))) .nil) }
/-- _law_text(_law_pot_here, _law_letters, _law_signs, _law_text_here, _law_at, _law_k) -/
def f43_law_text : Fn := { np := 1, ns := 6, io := [true], ro := false, body := (.cons (.asg (.nm 1) (.ks "abcdefghijklmnopqrstuvwxyz")) (.cons (.asg (.nm 2) (.ks "AZ09 _-`{.,;:'~!/()\x40[+*&\n")) (.cons (.asg (.nm 3) (.op (.bm .join) (.cons (.ks "") (.cons (.lc [5] (.nm 5) (.rng (.ki 0) (.call 26 (.cons (.io 0) (.cons (.ki 11) .nil)))) .nil (.op .sub (.cons (.var 1) (.cons (.call 26 (.cons (.io 0) (.cons (.ki 26) .nil))) .nil)))) .nil)))) (.cons (.asg (.nm 4) (.call 26 (.cons (.io 0) (.cons (.op (.bin .add) (.cons (.op (.bi .len) (.cons (.var 3) .nil)) (.cons (.ki 1) .nil))) .nil)))) (.cons (.ret (.op .sub (.cons (.lst (.cons (.var 3) (.cons (.var 3) (.cons (.op (.bin .add) (.cons (.op (.bin .add) (.cons (.op (.slc false true) (.cons (.var 3) (.cons (.var 4) .nil))) (.cons (.call 29 (.cons (.io 0) (.cons (.var 2) .nil))) .nil))) (.cons (.op (.slc true false) (.cons (.var 3) (.cons (.var 4) .nil))) .nil))) (.cons (.op (.slc false true) (.cons (.var 3) (.cons (.ki 8) .nil))) .nil))))) (.cons (.call 26 (.cons (.io 0) (.cons (.ki 4) .nil))) .nil)))) .nil))))) }
/-- _law_number(_law_pot_here, _law_size) -/
def f44_law_number : Fn := { np := 1, ns := 2, io := [true], ro := false, body := (.cons (.asg (.nm 1) (.fr (.op .sub (.cons (.lst (.cons (.ki 3) (.cons (.ki 12) (.cons (.op (.bin .pow) (.cons (.ki 10) (.cons (.ki 18) .nil))) (.cons (.op (.bin .pow) (.cons (.ki 10) (.cons (.ki 60) .nil))) .nil))))) (.cons (.call 26 (.cons (.io 0) (.cons (.ki 4) .nil))) .nil))))) (.cons (.ret (.op (.bin .mul) (.cons (.op .sub (.cons (.lst (.cons (.ki 1) (.cons (.ki 1) (.cons (.op .neg (.cons (.ki 1) .nil)) .nil)))) (.cons (.call 26 (.cons (.io 0) (.cons (.ki 3) .nil))) .nil))) (.cons (.call 26 (.cons (.io 0) (.cons (.var 1) .nil))) .nil)))) .nil)) }
/-- _law_odd(_law_pot_here, _law_some) -/
def f45_law_odd : Fn := { np := 1, ns := 2, io := [true], ro := false, body := (.cons (.asg (.nm 1) (.fr (.lst (.cons .kn (.cons (.kb true) (.cons (.kb false) (.cons (.ks "") (.cons (.ks "1") (.cons (.ks "a b") (.cons (.lst .nil) (.cons (.tup .nil) (.cons (.dic .nil) (.cons (.lst (.cons (.ks "a") .nil)) (.cons (.tup (.cons (.ks "a") .nil)) (.cons (.dic (.cons (.ks "a") (.ki 1) .nil)) (.cons (.lst (.cons (.ki 1) .nil)) (.cons (.tup (.cons (.ki 1) .nil)) (.cons (.dic (.cons (.ki 1) (.ks "a") .nil)) (.cons (.ks "person") .nil))))))))))))))))))) (.cons (.asg (.nm 1) (.fr (.op (.bin .add) (.cons (.var 1) (.cons (.lst (.cons (.tup (.cons (.ks "a") (.cons (.ki 1) .nil))) (.cons (.lst (.cons (.tup (.cons (.ks "a") (.cons (.ki 1) .nil))) .nil)) (.cons (.ks "abcdefgh") (.cons (.ks "abcdefghi") (.cons (.ks "a") (.cons (.ks "z") (.cons (.ki 0) (.cons (.ki 1) (.cons (.op .neg (.cons (.ki 1) .nil)) (.cons (.lst (.cons .kn .nil)) (.cons (.lst (.cons (.lst .nil) .nil)) (.cons (.tup (.cons (.tup .nil) .nil)) (.cons (.ks "pay") (.cons (.ks "A") .nil))))))))))))))) .nil))))) (.cons (.ret (.call 29 (.cons (.io 0) (.cons (.var 1) .nil)))) .nil))) }
/-- _law_is_name(_law_what, _law_sign) -/
def f46_law_is_name : Fn := { np := 1, ns := 2, io := [false], ro := false, body := (.cons (.ife (.or (.not (.op (.bi (.isin ["str"])) (.cons (.var 0) .nil))) (.not (.chn .le .le (.ki 1) (.op (.bi .len) (.cons (.var 0) .nil)) (.ki 8)))) (.cons (.ret (.kb false)) .nil) .nil) (.cons (.ret (.op (.bi .all) (.cons (.lc [1] (.nm 1) (.seq (.var 0)) .nil (.op (.cmp .inn) (.cons (.var 1) (.cons (.ks "abcdefghijklmnopqrstuvwxyz") .nil)))) .nil))) .nil)) }
/-- _law_is_amount(_law_what) -/
def f47_law_is_amount : Fn := { np := 1, ns := 1, io := [false], ro := false, body := (.cons (.ret (.and (.op (.bi (.isin ["int"])) (.cons (.var 0) .nil)) (.and (.not (.op (.bi (.isin ["bool"])) (.cons (.var 0) .nil))) (.op (.cmp .gt) (.cons (.var 0) (.cons (.ki 0) .nil)))))) .nil) }
/-- _law_right(_law_what, _law_shown, _law_told, _law_due) -/
def f48_law_right : Fn := { np := 1, ns := 4, io := [false], ro := false, body := (.cons (.asg (.nm 1) (.op (.bi .repr) (.cons (.var 0) .nil))) (.cons (.asg (.nm 2) (.fr (.lst (.cons (.call 3 (.cons (.var 0) .nil)) (.cons (.call 5 (.cons (.var 0) .nil)) (.cons (.call 3 (.cons (.var 0) .nil)) (.cons (.call 5 (.cons (.var 0) .nil)) .nil))))))) (.cons (.asg (.nm 3) (.op (.bin .mul) (.cons (.lst (.cons (.call 46 (.cons (.var 0) .nil)) (.cons (.call 47 (.cons (.var 0) .nil)) .nil))) (.cons (.ki 2) .nil)))) (.cons (.ret (.and (.op (.cmp .eq) (.cons (.op (.bi .repr) (.cons (.var 2) .nil)) (.cons (.op (.bi .repr) (.cons (.var 3) .nil)) .nil))) (.op (.cmp .eq) (.cons (.op (.bi .repr) (.cons (.var 0) .nil)) (.cons (.var 1) .nil))))) .nil)))) }
/-- law(_law_script, _law_k, _law_pot_here, _law_some, _law_turn, _law_one) -/
def f49_law : Fn := { np := 1, ns := 6, io := [false], ro := false, body := (.cons (.for_ (.nm 1) (.rng (.ki 0) (.op (.bi .max) (.cons (.ki 1) (.cons (.op (.bi .min) (.cons (.op (.bi .len) (.cons (.var 0) .nil)) (.cons (.ki 8) .nil))) .nil)))) (.cons (.asg (.nm 2) (.call 25 (.cons (.var 0) (.cons (.var 1) .nil)))) (.cons (.asg (.nm 3) (.fr (.lst .nil))) (.cons (.for_ (.nm 4) (.rng (.ki 0) (.ki 4)) (.cons (.asg (.nm 3) (.fr (.op (.bin .add) (.cons (.var 3) (.cons (.lst (.cons (.call 43 (.cons (.io 2) .nil)) (.cons (.call 44 (.cons (.io 2) .nil)) (.cons (.call 45 (.cons (.io 2) .nil)) .nil)))) .nil))))) (.cons (.kill [4]) .nil))) (.cons (.kill [4]) (.cons (.ife (.not (.op (.bi .all) (.cons (.lc [5] (.nm 5) (.seq (.var 3)) .nil (.call 48 (.cons (.var 5) .nil))) .nil))) (.cons (.ret (.kb false)) .nil) .nil) (.cons (.kill [1, 2, 3, 4]) .nil))))))) (.cons (.kill [1, 2, 3, 4]) (.cons (.ret (.kb true)) .nil))) }
def tbl : List (Nat × Fn) := [(2, f2_is_word), (3, f3_is_name), (4, f4_is_whole), (5, f5_is_amount), (25, f25_law_pot), (26, f26_law_take), (29, f29_law_among), (43, f43_law_text), (44, f44_law_number), (45, f45_law_odd), (46, f46_law_is_name), (47, f47_law_is_amount), (48, f48_law_right), (49, f49_law)]
def T : Nat → Option Fn := fun i => tbl.lookup i
end Mp
set_option Elab.async false
set_option maxRecDepth 100000
set_option maxHeartbeats 4000000
namespace Mp
open PySem L2 PySem.W
def top (i : Nat) : Stmt := PySem.Challenge.pw_ringclear_k15_names_and_amounts_of_anyth.main.body.getD i (.Pass ⟨0, 0, 0, 0⟩)
abbrev s2 : Stmt := top 3
abbrev s3 : Stmt := top 4
abbrev s4 : Stmt := top 5
abbrev s5 : Stmt := top 6
abbrev s25 : Stmt := top 8
abbrev s26 : Stmt := top 9
abbrev s29 : Stmt := top 10
abbrev s43 : Stmt := top 11
abbrev s44 : Stmt := top 12
abbrev s45 : Stmt := top 13
abbrev s46 : Stmt := top 14
abbrev s47 : Stmt := top 15
abbrev s48 : Stmt := top 16
abbrev s49 : Stmt := top 17
theorem sc2 : FnScope ["thing", "sign"] ["thing"] (defScope s2) := ⟨rfl, rfl, rfl, by decide +kernel, rfl, by decide +kernel, by decide +kernel⟩
theorem sc3 : FnScope ["thing"] ["thing"] (defScope s3) := ⟨rfl, rfl, rfl, by decide +kernel, rfl, by decide +kernel, by decide +kernel⟩
theorem sc4 : FnScope ["thing"] ["thing"] (defScope s4) := ⟨rfl, rfl, rfl, by decide +kernel, rfl, by decide +kernel, by decide +kernel⟩
theorem sc5 : FnScope ["thing"] ["thing"] (defScope s5) := ⟨rfl, rfl, rfl, by decide +kernel, rfl, by decide +kernel, by decide +kernel⟩
theorem sc25 : FnScope ["_law_script", "_law_k", "_law_cell"] ["_law_script", "_law_k"] (defScope s25) := ⟨rfl, rfl, rfl, by decide +kernel, rfl, by decide +kernel, by decide +kernel⟩
theorem sc26 : FnScope ["_law_pot_here", "_law_many", "_law_digit"] ["_law_pot_here", "_law_many"] (defScope s26) := ⟨rfl, rfl, rfl, by decide +kernel, rfl, by decide +kernel, by decide +kernel⟩
theorem sc29 : FnScope ["_law_pot_here", "_law_some"] ["_law_pot_here", "_law_some"] (defScope s29) := ⟨rfl, rfl, rfl, by decide +kernel, rfl, by decide +kernel, by decide +kernel⟩
theorem sc43 : FnScope ["_law_pot_here", "_law_letters", "_law_signs", "_law_text_here", "_law_at", "_law_k"] ["_law_pot_here"] (defScope s43) := ⟨rfl, rfl, rfl, by decide +kernel, rfl, by decide +kernel, by decide +kernel⟩
theorem sc44 : FnScope ["_law_pot_here", "_law_size"] ["_law_pot_here"] (defScope s44) := ⟨rfl, rfl, rfl, by decide +kernel, rfl, by decide +kernel, by decide +kernel⟩
theorem sc45 : FnScope ["_law_pot_here", "_law_some"] ["_law_pot_here"] (defScope s45) := ⟨rfl, rfl, rfl, by decide +kernel, rfl, by decide +kernel, by decide +kernel⟩
theorem sc46 : FnScope ["_law_what", "_law_sign"] ["_law_what"] (defScope s46) := ⟨rfl, rfl, rfl, by decide +kernel, rfl, by decide +kernel, by decide +kernel⟩
theorem sc47 : FnScope ["_law_what"] ["_law_what"] (defScope s47) := ⟨rfl, rfl, rfl, by decide +kernel, rfl, by decide +kernel, by decide +kernel⟩
theorem sc48 : FnScope ["_law_what", "_law_shown", "_law_told", "_law_due"] ["_law_what"] (defScope s48) := ⟨rfl, rfl, rfl, by decide +kernel, rfl, by decide +kernel, by decide +kernel⟩
theorem sc49 : FnScope ["_law_script", "_law_k", "_law_pot_here", "_law_some", "_law_turn", "_law_one"] ["_law_script"] (defScope s49) := ⟨rfl, rfl, rfl, by decide +kernel, rfl, by decide +kernel, by decide +kernel⟩
def G : Glob := { fns := [("is_word", 2), ("is_name", 3), ("is_whole", 4), ("is_amount", 5), ("_law_pot", 25), ("_law_take", 26), ("_law_among", 29), ("_law_text", 43), ("_law_number", 44), ("_law_odd", 45), ("_law_is_name", 46), ("_law_is_amount", 47), ("_law_right", 48), ("law", 49)], cls := [], mets := [], cons := [("LETTERS", .str "abcdefghijklmnopqrstuvwxyz"), ("MOST_LETTERS", .int (8))], blts := ["abs", "all", "bool", "divmod", "int", "isinstance", "len", "max", "min", "range", "repr", "str"], bnds := [(2, []), (4, []), (26, []), (29, []), (3, []), (5, []), (46, []), (47, []), (25, []), (43, []), (44, []), (45, []), (48, [])], kbs := [(3, 0, ["thing"]), (5, 0, ["thing"])] }
theorem ck2 : cSs G ["thing", "sign"] (ioIx f2_is_word.io) 400 (SC.ofDef (defScope s2)) (defBody s2) f2_is_word.body = true := by decide +kernel
theorem ck3 : cSs G ["thing"] (ioIx f3_is_name.io) 400 (SC.ofDef (defScope s3)) (defBody s3) f3_is_name.body = true := by decide +kernel
theorem ck4 : cSs G ["thing"] (ioIx f4_is_whole.io) 400 (SC.ofDef (defScope s4)) (defBody s4) f4_is_whole.body = true := by decide +kernel
theorem ck5 : cSs G ["thing"] (ioIx f5_is_amount.io) 400 (SC.ofDef (defScope s5)) (defBody s5) f5_is_amount.body = true := by decide +kernel
theorem ck25 : cSs G ["_law_script", "_law_k", "_law_cell"] (ioIx f25_law_pot.io) 400 (SC.ofDef (defScope s25)) (defBody s25) f25_law_pot.body = true := by decide +kernel
theorem ck26 : cSs G ["_law_pot_here", "_law_many", "_law_digit"] (ioIx f26_law_take.io) 400 (SC.ofDef (defScope s26)) (defBody s26) f26_law_take.body = true := by decide +kernel
theorem ck29 : cSs G ["_law_pot_here", "_law_some"] (ioIx f29_law_among.io) 400 (SC.ofDef (defScope s29)) (defBody s29) f29_law_among.body = true := by decide +kernel
theorem ck43 : cSs G ["_law_pot_here", "_law_letters", "_law_signs", "_law_text_here", "_law_at", "_law_k"] (ioIx f43_law_text.io) 400 (SC.ofDef (defScope s43)) (defBody s43) f43_law_text.body = true := by decide +kernel
theorem ck44 : cSs G ["_law_pot_here", "_law_size"] (ioIx f44_law_number.io) 400 (SC.ofDef (defScope s44)) (defBody s44) f44_law_number.body = true := by decide +kernel
theorem ck45 : cSs G ["_law_pot_here", "_law_some"] (ioIx f45_law_odd.io) 400 (SC.ofDef (defScope s45)) (defBody s45) f45_law_odd.body = true := by decide +kernel
theorem ck46 : cSs G ["_law_what", "_law_sign"] (ioIx f46_law_is_name.io) 400 (SC.ofDef (defScope s46)) (defBody s46) f46_law_is_name.body = true := by decide +kernel
theorem ck47 : cSs G ["_law_what"] (ioIx f47_law_is_amount.io) 400 (SC.ofDef (defScope s47)) (defBody s47) f47_law_is_amount.body = true := by decide +kernel
theorem ck48 : cSs G ["_law_what", "_law_shown", "_law_told", "_law_due"] (ioIx f48_law_right.io) 400 (SC.ofDef (defScope s48)) (defBody s48) f48_law_right.body = true := by decide +kernel
theorem ck49 : cSs G ["_law_script", "_law_k", "_law_pot_here", "_law_some", "_law_turn", "_law_one"] (ioIx f49_law.io) 400 (SC.ofDef (defScope s49)) (defBody s49) f49_law.body = true := by decide +kernel
end Mp
set_option linter.all false
set_option maxRecDepth 100000
set_option maxHeartbeats 1000000
set_option exponentiation.threshold 100
namespace Mp
open PySem L2
variable {T : Nat → Option Fn}
structure Pt where
  a : Int
  b : Int
  h : 0 ≤ a ∧ 0 ≤ b ∧ b < 2147483648
def potD (q : Pt) : D := .lst .own [.int q.a, .int q.b]
theorem pot_nb {q : Pt} : (potD q).nb = true := rfl
/-- a draw, and the pot behind it -/
def takeR (q : Pt) (m : Int) : Int := if 0 < q.a then q.a % m else (q.b * 48271 + 10007) % 2147483587 * ((q.b * 48271 + 10007) % 2147483587) % 2147483563 / 3 % m
def takeP (q : Pt) (m : Int) : Pt := if h : 0 < q.a ∧ 0 < m then ⟨q.a / m, q.b, Int.ediv_nonneg q.h.1 (by omega), q.h.2⟩ else ⟨q.a, (q.b * 48271 + 10007) % 2147483587, q.h.1, by omega, by omega⟩
theorem takeR_lo (q : Pt) {m : Int} (h : 0 < m) : 0 ≤ takeR q m := by unfold takeR; split <;> exact Int.emod_nonneg _ (by omega)
theorem takeR_hi (q : Pt) {m : Int} (h : 0 < m) : takeR q m < m := by unfold takeR; split <;> exact Int.emod_lt_of_pos _ h
theorem take_eq (h26 : T 26 = some f26_law_take) {n : Nat} {q : Pt} {m : Int} (hm : 0 < m) (hm2 : m < 2 ^ 9000) : callT T (n + 1) 26 [true, false] [potD q, .int m] = some (.int (takeR q m), [potD (takeP q m)]) := by
  refine run h26 rfl rfl rfl ?_
  obtain ⟨a, b, h1, h2, h3⟩ := q
  by_cases ha : 0 < a
  · simp only [f26_law_take, potD, takeR, takeP, E, MEs.still, ME.still, ha, hm, hm2, dif_pos]
  · have m1 : mulOk b 48271 = true := by unfold mulOk; simp
    have m2 : mulOk ((b * 48271 + 10007) % 2147483587) ((b * 48271 + 10007) % 2147483587) = true := by
      unfold mulOk
      have : ((b * 48271 + 10007) % 2147483587).natAbs < 2 ^ 64 := by omega
      simp [this]
    have c1 : (0 : Int) < 2147483587 := by decide
    have c2 : (0 : Int) < 2147483563 := by decide
    have c3 : (0 : Int) < 3 ∧ (3 : Int) < 2 ^ 9000 := by decide +kernel
    simp only [f26_law_take, potD, takeR, takeP, E, MEs.still, ME.still, ha, hm, hm2, false_and, dif_neg, not_false_eq_true, m1, m2, c1, c2, c3]
/-- a cell of the script -/
def cellOf (ns : List Int) (k : Nat) : Int := match ns[k]? with
  | some z => if z < 0 then -z else z
  | none => 0
theorem cellOf_nn (ns : List Int) (k : Nat) : 0 ≤ cellOf ns k := by unfold cellOf; split <;> (try split) <;> omega
def potQ (ns : List Int) (k : Nat) : Pt := ⟨if cellOf ns k - 10 ^ 18 > 0 then cellOf ns k - 10 ^ 18 else 0, (cellOf ns k % 2147483549 + 101 * (k : Int) + 1) ^ 2 % 2147483543 + 1, by split <;> omega, by omega, by omega⟩
theorem pot_eq (h25 : T 25 = some f25_law_pot) {n : Nat} {ns : List Int} {k : Nat} (hk : k ≤ 63) : callT T (n + 1) 25 [false, false] [.scr ns, .int k] = some (potD (potQ ns k), []) := by
  have c0 : (0 : Int) < 2147483549 := by decide
  have c1 : (0 : Int) < 2147483543 := by decide
  have c2 : mulOk 101 k = true := by unfold mulOk; simp
  have c5 : (18 : Int).toNat = 18 := rfl
  have c6 : (2 : Int).toNat = 2 := rfl
  have c7 : (0 : Int) ≤ 18 ∧ (18 : Int) ≤ 1000000 ∧ (10 : Int).natAbs < 2 ^ 64 := by decide +kernel
  have h4 : (0 : Int) ≤ 2 ∧ (2 : Int) ≤ 1000000 ∧ (cellOf ns k % 2147483549 + 101 * (k : Int) + 1).natAbs < 2 ^ 64 := by omega
  have c8 : 2 ≤ lim := by decide
  refine run h25 rfl rfl rfl ?_
  by_cases hl : (k : Int) < (ns.length : Int)
  · have hl' : k < ns.length := by omega
    have e1 : L2.atI ns (k : Int) = some ns[k] := by rw [atI_nat, List.getElem?_eq_getElem hl']
    have e2 : cellOf ns k = if ns[k] < 0 then -ns[k] else ns[k] := by unfold cellOf; rw [List.getElem?_eq_getElem hl']
    rw [e2] at h4
    simp only [f25_law_pot, potD, potQ, E, MEs.still, ME.still, hl, e1, e2, c0, c1, c2, c5, c6, c7, c8, h4, List.length_cons, List.length_nil, Nat.zero_add, Nat.reduceAdd]
  · have e2 : cellOf ns k = 0 := by unfold cellOf; rw [List.getElem?_eq_none (by omega)]
    rw [e2] at h4
    simp only [f25_law_pot, potD, potQ, E, MEs.still, ME.still, hl, e2, c0, c1, c2, c5, c6, c7, c8, h4, List.length_cons, List.length_nil, Nat.zero_add, Nat.reduceAdd]
/-! ### texts -/
def Asc (n : Nat) (x : Str) : Prop := x.length ≤ n ∧ ∀ c ∈ x.cps.toList, c < 128
theorem chr_len (c : Nat) : (⟨#[c]⟩ : Str).length = 1 := rfl
theorem among_str (h26 : T 26 = some f26_law_take) (h29 : T 29 = some f29_law_among) {n : Nat} {q : Pt} {x : Str} (h0 : 0 < x.length) (h1 : x.length ≤ 1000) :
    ∃ c ∈ x.cps.toList, callT T (n + 2) 29 [true, false] [potD q, .str x] = some (.str ⟨#[c]⟩, [potD (takeP q x.length)]) := by
  have a1 : (0 : Int) < x.length := by omega
  have a2 : (x.length : Int) < 2 ^ 9000 := Int.lt_of_le_of_lt (show (x.length : Int) ≤ 1000 by omega) (by decide +kernel)
  have a3 : x.length ≤ lim := Nat.le_trans h1 (by decide)
  have b1 := takeR_lo q a1
  have b2 := takeR_hi q a1
  have b3 : takeR q x.length < (x.cps.toList.length : Int) := by simpa [Str.length] using b2
  refine ⟨_, List.getElem_mem (l := x.cps.toList) (n := (takeR q x.length).toNat) (by omega), run h29 rfl rfl rfl ?_⟩
  have e1 := atI_in b1 b3
  have e2 := take_eq (n := n) h26 (q := q) a1 a2
  have e3 : caOk [.io 0, .val (.int x.length)] = true := by simp [caOk, ios, lates, Ar.isPrt]
  simp only [f29_law_among, E, MEs.still, ME.still, a3, e2, e1, e3, Nat.reduceSub, pot_nb]

/-! ### loops -/
theorem lcL_ex {f : D → Env → Option (Option D × Env)} {J : Env → Prop} {Q : D → Prop} : ∀ {items : List D} {ρ : Env} {acc : List D}, (∀ x ρ, x ∈ items → J ρ → ∃ d ρ', f x ρ = some (some d, ρ') ∧ Q d ∧ J ρ') → J ρ → acc.length + items.length ≤ lim →
    ∃ ds ρ', lcL f items ρ acc = some (acc ++ ds, ρ') ∧ ds.length = items.length ∧ (∀ d ∈ ds, Q d) ∧ J ρ'
  | [], ρ, acc, _, j, _ => ⟨[], ρ, by simp [lcL], rfl, fun _ h => (by cases h), j⟩
  | x :: items, ρ, acc, h, j, hl => by
    obtain ⟨d, ρ1, e1, q1, j1⟩ := h x ρ List.mem_cons_self j
    obtain ⟨ds, ρ2, e2, l2, q2, j2⟩ := lcL_ex (acc := acc ++ [d]) (fun y ρ hy => h y ρ (List.mem_cons_of_mem _ hy)) j1 (by simp at hl ⊢; omega)
    refine ⟨d :: ds, ρ2, ?_, by simp [l2], fun y hy => ?_, j2⟩
    · simp only [lcL, e1]
      rw [if_pos (by simp at hl; omega), e2]
      simp
    · rcases List.mem_cons.mp hy with rfl | hy
      · exact q1
      · exact q2 y hy
theorem lcL_map {f : D → Env → Option (Option D × Env)} {g : D → D} {J : Env → Prop} : ∀ {items : List D} {ρ : Env} {acc : List D}, (∀ x ρ, x ∈ items → J ρ → ∃ ρ', f x ρ = some (some (g x), ρ') ∧ J ρ') → J ρ → acc.length + items.length ≤ lim →
    ∃ ρ', lcL f items ρ acc = some (acc ++ items.map g, ρ') ∧ J ρ'
  | [], ρ, acc, _, j, _ => ⟨ρ, by simp [lcL], j⟩
  | x :: items, ρ, acc, h, j, hl => by
    obtain ⟨ρ1, e1, j1⟩ := h x ρ List.mem_cons_self j
    obtain ⟨ρ2, e2, j2⟩ := lcL_map (acc := acc ++ [g x]) (fun y ρ hy => h y ρ (List.mem_cons_of_mem _ hy)) j1 (by simp at hl ⊢; omega)
    refine ⟨ρ2, ?_, j2⟩
    simp only [lcL, e1]
    rw [if_pos (by simp at hl; omega), e2]
    simp
theorem forL_ex {f : D → Env → Option Fw} {J : Nat → Env → Prop} {n : Nat} : ∀ {items : List D} {ρ : Env} {i : Nat}, (∀ x ρ i, x ∈ items → i < n → J i ρ → ∃ ρ', (f x ρ = some (.nx ρ') ∨ f x ρ = some (.ct ρ')) ∧ J (i + 1) ρ') → i + items.length ≤ n → J i ρ → ∃ ρ', forL f items ρ = some (.nx ρ') ∧ J (i + items.length) ρ'
  | [], ρ, i, _, _, j => ⟨ρ, rfl, j⟩
  | x :: items, ρ, i, h, hn, j => by
    rw [List.length_cons] at hn
    obtain ⟨ρ1, e1, j1⟩ := h x ρ i List.mem_cons_self (by omega) j
    obtain ⟨ρ2, e2, j2⟩ := forL_ex (items := items) (fun y ρ i hy => h y ρ i (List.mem_cons_of_mem _ hy)) (by omega) j1
    refine ⟨ρ2, ?_, by rw [List.length_cons, Nat.add_comm items.length 1, ← Nat.add_assoc]; exact j2⟩
    simp only [forL]
    rcases e1 with e1 | e1 <;> (rw [e1]; exact e2)
theorem nums_mem {a : Int} {n : Nat} {x : D} (h : x ∈ nums a n) : ∃ k : Nat, k < n ∧ x = .int (a + k) := by
  unfold nums at h
  obtain ⟨k, h1, rfl⟩ := List.mem_map.mp h
  exact ⟨k, List.mem_range.mp h1, rfl⟩
theorem nums_len' (a : Int) (n : Nat) : (nums a n).length = n := by simp [nums]
/-! ### joins, slices of ascii texts -/
theorem tl_len (x : Str) : x.length = x.cps.toList.length := by unfold Str.length; simp
theorem asc_app {n m : Nat} {x y : Str} (hx : Asc n x) (hy : Asc m y) : Asc (n + m) (x ++ y) := by
  have e : (x ++ y).cps.toList = x.cps.toList ++ y.cps.toList := by show (x.cps ++ y.cps).toList = _; simp
  refine ⟨?_, fun c h => ?_⟩
  · rw [tl_len, e, List.length_append, ← tl_len, ← tl_len]; exact Nat.add_le_add hx.1 hy.1
  · rw [e] at h
    exact (List.mem_append.mp h).elim (hx.2 c) (hy.2 c)
theorem asc_mono {n m : Nat} {x : Str} (hx : Asc n x) (h : n ≤ m) : Asc m x := ⟨Nat.le_trans hx.1 h, hx.2⟩
theorem asc_cut {n : Nat} {x : Str} (hx : Asc n x) (lo hi : Option Int) : Asc n (cutS x lo hi) := by
  have e : (cutS x lo hi).cps.toList = (x.cps.toList.drop (HT.sIx x.length 0 lo)).take (HT.sIx x.length x.length hi - HT.sIx x.length 0 lo) := rfl
  refine ⟨?_, fun c h => ?_⟩
  · rw [tl_len, e]
    rw [List.length_take, List.length_drop, ← tl_len]
    have := hx.1
    omega
  · rw [e] at h
    exact hx.2 c (List.mem_of_mem_drop (List.mem_of_mem_take h))
theorem asc_join : ∀ {l : List Str}, (∀ x ∈ l, Asc 1 x) → Asc l.length (Str.join Str.empty l)
  | [], _ => ⟨Nat.le_refl _, fun c h => by cases h⟩
  | [x], h => h x List.mem_cons_self
  | x :: y :: r, h => by
    have i := asc_join (l := y :: r) fun z hz => h z (List.mem_cons_of_mem _ hz)
    have e : Asc 0 Str.empty := ⟨Nat.le_refl _, fun c h => by cases h⟩
    have := asc_app (asc_app (h x List.mem_cons_self) e) i
    refine asc_mono this ?_
    simp
    omega
end Mp
set_option linter.all false
set_option maxRecDepth 100000
set_option maxHeartbeats 1000000
set_option exponentiation.threshold 100
namespace Mp
open PySem L2
variable {T : Nat → Option Fn}
theorem bm_join {ps : List Bool} {s : Str} {f : Fl} {xs : List D} : bmD .join ps [.str s, .lst f xs] = (strsD xs).bind fun l => if (l.map (·.length)).sum + l.length * s.length ≤ lim then some (.str (Txt.join s l)) else none := rfl
theorem strs_of {n : Nat} : ∀ {ds : List D}, (∀ d ∈ ds, ∃ x, d = .str x ∧ Asc n x) → ∃ l, strsD ds = some l ∧ l.length = ds.length ∧ ∀ x ∈ l, Asc n x
  | [], _ => ⟨[], rfl, rfl, fun _ h => by cases h⟩
  | d :: ds, h => by
    obtain ⟨x, rfl, hx⟩ := h d List.mem_cons_self
    obtain ⟨l, e, e2, hl⟩ := strs_of fun d hd => h d (List.mem_cons_of_mem _ hd)
    exact ⟨x :: l, by simp [strsD, e], by simp [e2], fun y hy => (List.mem_cons.mp hy).elim (fun q => q ▸ hx) (hl y)⟩
theorem sum_le {n : Nat} : ∀ {l : List Str}, (∀ x ∈ l, Asc n x) → (l.map (·.length)).sum ≤ n * l.length
  | [], _ => by simp
  | x :: l, h => by
    have := sum_le fun y hy => h y (List.mem_cons_of_mem _ hy)
    have h1 := (h x List.mem_cons_self).1
    simp only [List.map_cons, List.sum_cons, List.length_cons, Nat.mul_add, Nat.mul_one]
    omega
theorem asc_letters : Asc 26 "abcdefghijklmnopqrstuvwxyz" ∧ ("abcdefghijklmnopqrstuvwxyz" : Str).length = 26 := by unfold Asc; decide +kernel
theorem asc_signs : Asc 25 "AZ09 _-`{.,;:'~!/()\x40[+*&\n" ∧ ("AZ09 _-`{.,;:'~!/()\x40[+*&\n" : Str).length = 25 := by unfold Asc; decide +kernel

/-- four, ten .. ways: a draw below n is one of n -/
theorem lst_draw {xs : List D} {q : Pt} (h : 0 < xs.length) : ∃ d ∈ xs, L2.atI xs (takeR q xs.length) = some d := by
  have a1 : (0 : Int) < xs.length := by omega
  exact ⟨_, List.getElem_mem (by have := takeR_lo q a1; have := takeR_hi q a1; omega), atI_in (takeR_lo q a1) (takeR_hi q a1)⟩
theorem chr_draw {x : Str} {q : Pt} {m : Int} (h : 0 < m) (hx : m = (x.length : Int)) : ∃ c ∈ x.cps.toList, L2.atI x.cps.toList (takeR q m) = some c := by
  have e : (x.length : Int) = (x.cps.toList.length : Int) := by rw [tl_len]
  have a1 := takeR_lo q h
  have a2 := takeR_hi q h
  exact ⟨_, List.getElem_mem (by omega), atI_in a1 (by omega)⟩
theorem ca2 (d : D) (i : Nat) : caOk [.io i, .val d] = true := by simp [caOk, ios, lates, Ar.isPrt]
theorem ca2l {i j : Nat} (h : i ≠ j) : caOk [.io i, .late j] = true := by simp [caOk, ios, lates, Ar.isPrt, h, Ne.symm h]
theorem pot_sh {q : Pt} : (potD q).sh = false := rfl
theorem text_eq (h26 : T 26 = some f26_law_take) (h29 : T 29 = some f29_law_among) (h43 : T 43 = some f43_law_text) {n : Nat} {q : Pt} :
    ∃ x q', callT T (n + 3) 43 [true] [potD q] = some (.str x, [potD q']) ∧ Asc 100 x := by
  have p : ∀ m : Int, 0 < m → m < 1000 → m < 2 ^ 9000 := fun m _ h => Int.lt_of_lt_of_le h (by decide +kernel)
  have tk : ∀ {k : Nat} {q : Pt} {m : Int}, 0 < m → m < 1000 → callT T (k + 1) 26 [true, false] [potD q, .int m] = some (.int (takeR q m), [potD (takeP q m)]) := fun h1 h2 => take_eq h26 h1 (p _ h1 h2)
  have t11 := takeR_lo q (m := 11) (by decide)
  have t11' := takeR_hi q (m := 11) (by decide)
  have t12 : ([] : List D).length + (takeR q 11 - 0).toNat ≤ lim := by
    have : (takeR q 11 - 0).toNat ≤ 11 := by omega
    show 0 + (takeR q 11 - 0).toNat ≤ 1000000
    omega
  -- the letters
  have lc : ∃ ds q1, lcL (lcG (callT T (n + 2)) [5] (.nm 5) .nil (.op .sub (.cons (.var 1) (.cons (.call 26 (.cons (.io 0) (.cons (.ki 26) .nil))) .nil)))) (nums 0 (takeR q 11 - 0).toNat) [some (potD (takeP q 11)), some (.str "abcdefghijklmnopqrstuvwxyz"), some (.str "AZ09 _-`{.,;:'~!/()\x40[+*&\n"), none, none, none] [] = some ([] ++ ds, q1) ∧
      ds.length = (nums 0 (takeR q 11 - 0).toNat).length ∧ (∀ d ∈ ds, ∃ x, d = .str x ∧ Asc 1 x) ∧ ∃ q2 x, q1 = [some (potD q2), some (.str "abcdefghijklmnopqrstuvwxyz"), some (.str "AZ09 _-`{.,;:'~!/()\x40[+*&\n"), none, none, x] := by
    refine lcL_ex (J := fun ρ => ∃ q2 x, ρ = [some (potD q2), some (.str "abcdefghijklmnopqrstuvwxyz"), some (.str "AZ09 _-`{.,;:'~!/()\x40[+*&\n"), none, none, x]) (fun x ρ hx ⟨q2, y, hρ⟩ => ?_) ⟨_, _, rfl⟩ (by rw [nums_len']; exact t12)
    subst hρ
    obtain ⟨c0, hc0, e1⟩ := chr_draw (x := "abcdefghijklmnopqrstuvwxyz") (q := q2) (m := 26) (by decide) (by rw [asc_letters.2]; rfl)
    have e2 := tk (k := n + 1) (q := q2) (m := 26) (by decide) (by decide)
    have e3 : ("abcdefghijklmnopqrstuvwxyz" : Str).length ≤ lim := by rw [asc_letters.2]; decide
    refine ⟨.str ⟨#[c0]⟩, [some (potD (takeP q2 26)), some (.str "abcdefghijklmnopqrstuvwxyz"), some (.str "AZ09 _-`{.,;:'~!/()\x40[+*&\n"), none, none, some x], ?_, ⟨_, rfl, ?_⟩, ⟨_, _, rfl⟩⟩
    · simp only [lcG, E, ME.still, MEs.still, ca2, e2, e3, e1]
    · exact ⟨Nat.le_refl _, fun c hc => by
        have hc : c = c0 := by simpa using hc
        rw [hc]
        exact asc_letters.1.2 _ hc0⟩
  obtain ⟨ds, ρ1, el, ll, hq, q2, x5, rfl⟩ := lc
  obtain ⟨l, es, lls, hl⟩ := strs_of hq
  have t1 : l.length ≤ 10 := by rw [lls, ll, nums_len']; omega
  have hs := sum_le hl
  have jc : (l.map (·.length)).sum + l.length * (Str.ofString "").length ≤ lim := by
    have : (Str.ofString "").length = 0 := by decide
    rw [this]; unfold lim; omega
  have hj : Asc 10 (Txt.join (Str.ofString "") l) := by
    have e : (Str.ofString "") = Str.empty := by decide
    rw [e, TL.join_eq]
    exact asc_mono (asc_join hl) t1
  generalize hx : Txt.join (Str.ofString "") l = x at hj
  have sm : small (takeR q 11) = true := by unfold small; simp; omega
  have xl : x.length ≤ lim := Nat.le_trans hj.1 (by decide)
  -- where a sign goes in
  have e4 := tk (k := n + 1) (q := q2) (m := x.length + 1) (by omega) (by have := hj.1; omega)
  obtain ⟨c, hc, e5⟩ := among_str (n := n) h26 h29 (q := takeP q2 (x.length + 1)) (x := "AZ09 _-`{.,;:'~!/()\x40[+*&\n") (by rw [asc_signs.2]; decide) (by rw [asc_signs.2]; decide)
  have e0 := tk (k := n + 1) (q := q) (m := 11) (by decide) (by decide)
  have e6 := tk (k := n + 1) (q := takeP (takeP q2 (x.length + 1)) ("AZ09 _-`{.,;:'~!/()\x40[+*&\n" : Str).length) (m := 4) (by decide) (by decide)
  generalize hq3 : takeP (takeP q2 (x.length + 1)) ("AZ09 _-`{.,;:'~!/()\x40[+*&\n" : Str).length = q3 at e5 e6
  have hm : Asc 100 (cutS x none (some (takeR q2 (x.length + 1))) ++ ⟨#[c]⟩ ++ cutS x (some (takeR q2 (x.length + 1))) none) := by
    have hc1 : Asc 1 ⟨#[c]⟩ := ⟨Nat.le_refl _, fun c' h => by
      have h : c' = c := by simpa using h
      rw [h]; exact asc_signs.1.2 c hc⟩
    exact asc_mono (asc_app (asc_app (asc_cut hj _ _) hc1) (asc_cut hj _ _)) (by decide)
  have h8 : Asc 100 (cutS x none (some 8)) := asc_mono (asc_cut hj _ _) (by decide)
  have l1 : (cutS x none (some (takeR q2 (x.length + 1)))).length + (⟨#[c]⟩ : Str).length ≤ lim := by have := (asc_cut hj none (some (takeR q2 (x.length + 1)))).1; rw [chr_len]; unfold lim; omega
  have l2 : (cutS x none (some (takeR q2 (x.length + 1))) ++ ⟨#[c]⟩).length + (cutS x (some (takeR q2 (x.length + 1))) none).length ≤ lim := by
    have := (asc_cut hj none (some (takeR q2 (x.length + 1)))).1
    have h3 := (asc_cut hj (some (takeR q2 (x.length + 1))) none).1
    rw [str_len_append, chr_len]; unfold lim; omega
  obtain ⟨d, hd, ed⟩ := lst_draw (xs := [D.str x, D.str x, D.str (cutS x none (some (takeR q2 (x.length + 1))) ++ ⟨#[c]⟩ ++ cutS x (some (takeR q2 (x.length + 1))) none), D.str (cutS x none (some 8))]) (q := q3) (by simp)
  have ed : L2.atI [D.str x, D.str x, D.str (cutS x none (some (takeR q2 (x.length + 1))) ++ ⟨#[c]⟩ ++ cutS x (some (takeR q2 (x.length + 1))) none), D.str (cutS x none (some 8))] (takeR q3 4) = some d := ed
  have hd2 : ∃ y, d = .str y ∧ Asc 100 y := by
    simp only [List.mem_cons, List.not_mem_nil, or_false] at hd
    rcases hd with rfl | rfl | rfl | rfl
    · exact ⟨_, rfl, asc_mono hj (by decide)⟩
    · exact ⟨_, rfl, asc_mono hj (by decide)⟩
    · exact ⟨_, rfl, hm⟩
    · exact ⟨_, rfl, h8⟩
  obtain ⟨y, rfl, hy⟩ := hd2
  have c4 : 4 ≤ lim := by decide
  have s0 : small 0 = true := by decide
  refine ⟨y, takeP q3 4, run h43 rfl rfl rfl ?_, hy⟩
  simp only [f43_law_text, E, MEs.still, ME.still, ca2, ca2l, e0, e4, e5, e6, el, sm, s0, bm_join, es, jc, hx, xl, l1, l2, ed, c4, cutD, pot_nb, pot_sh, Nat.reduceSub, backE, List.length_cons, List.length_nil, Nat.reduceAdd, Nat.zero_add, ne_eq, not_false_eq_true, Nat.reduceEqDiff]


end Mp
set_option linter.all false
set_option maxRecDepth 100000
set_option maxHeartbeats 1000000
set_option exponentiation.threshold 100
namespace Mp
open PySem L2
variable {T : Nat → Option Fn}
theorem big_of {m : Int} (h : m ≤ 10 ^ 60) : m < 2 ^ 9000 := Int.lt_of_le_of_lt h (by decide +kernel)
theorem number_eq (h26 : T 26 = some f26_law_take) (h44 : T 44 = some f44_law_number) {n : Nat} {q : Pt} :
    ∃ i q', callT T (n + 2) 44 [true] [potD q] = some (.int i, [potD q']) ∧ i.natAbs < 10 ^ 60 := by
  have e1 := take_eq (n := n) h26 (q := q) (m := 4) (by decide) (big_of (by decide +kernel))
  obtain ⟨d, hd, ed⟩ := lst_draw (xs := [D.int 3, D.int 12, D.int (10 ^ 18), D.int (10 ^ 60)]) (q := q) (by simp)
  have ed : L2.atI [D.int 3, D.int 12, D.int (10 ^ 18), D.int (10 ^ 60)] (takeR q 4) = some d := ed
  have hs : ∃ s : Int, d = .int s ∧ 0 < s ∧ s ≤ 10 ^ 60 := by
    simp only [List.mem_cons, List.not_mem_nil, or_false] at hd
    rcases hd with rfl | rfl | rfl | rfl
    · exact ⟨_, rfl, by decide, by decide +kernel⟩
    · exact ⟨_, rfl, by decide, by decide +kernel⟩
    · exact ⟨_, rfl, by decide +kernel, by decide +kernel⟩
    · exact ⟨_, rfl, by decide +kernel, by decide +kernel⟩
  obtain ⟨s, rfl, s0, s1⟩ := hs
  have e2 := take_eq (n := n) h26 (q := takeP q 4) (m := 3) (by decide) (big_of (by decide +kernel))
  obtain ⟨d2, hd2, ed2⟩ := lst_draw (xs := [D.int 1, D.int 1, D.int (-1)]) (q := takeP q 4) (by simp)
  have ed2 : L2.atI [D.int 1, D.int 1, D.int (-1)] (takeR (takeP q 4) 3) = some d2 := ed2
  have hs2 : ∃ t : Int, d2 = .int t ∧ (t = 1 ∨ t = -1) := by
    simp only [List.mem_cons, List.not_mem_nil, or_false] at hd2
    rcases hd2 with rfl | rfl | rfl
    · exact ⟨_, rfl, .inl rfl⟩
    · exact ⟨_, rfl, .inl rfl⟩
    · exact ⟨_, rfl, .inr rfl⟩
  obtain ⟨t, rfl, ht⟩ := hs2
  have e3 := take_eq (n := n) h26 (q := takeP (takeP q 4) 3) s0 (big_of s1)
  have lo := takeR_lo (takeP (takeP q 4) 3) s0
  have hi := takeR_hi (takeP (takeP q 4) 3) s0
  have m1 : mulOk t (takeR (takeP (takeP q 4) 3) s) = true := by unfold mulOk; rcases ht with rfl | rfl <;> simp
  have c1 : (0 : Int) ≤ 18 ∧ (18 : Int) ≤ 1000000 ∧ (10 : Int).natAbs < 2 ^ 64 := by decide +kernel
  have c2 : (0 : Int) ≤ 60 ∧ (60 : Int) ≤ 1000000 ∧ (10 : Int).natAbs < 2 ^ 64 := by decide +kernel
  have c3 : (18 : Int).toNat = 18 := rfl
  have c4 : (60 : Int).toNat = 60 := rfl
  have c5 : 4 ≤ lim := by decide
  have c6 : 3 ≤ lim := by decide
  refine ⟨t * takeR (takeP (takeP q 4) 3) s, takeP (takeP (takeP q 4) 3) s, run h44 rfl rfl rfl ?_, ?_⟩
  · simp only [f44_law_number, E, MEs.still, ME.still, ca2, ca2l, e1, e2, e3, ed, ed2, c1, c2, c3, c4, c5, c6, m1, pot_nb, pot_sh, Nat.reduceSub, List.length_cons, List.length_nil, Nat.reduceAdd, Nat.zero_add, ne_eq, not_false_eq_true, Nat.reduceEqDiff, reduceCtorEq]
  · have : (takeR (takeP (takeP q 4) 3) s).natAbs < 10 ^ 60 := by
      have h : takeR (takeP (takeP q 4) 3) s < 10 ^ 60 := Int.lt_of_lt_of_le hi s1
      generalize takeR (takeP (takeP q 4) 3) s = r at lo h
      have e : ((10 : Int) ^ 60) = ((10 ^ 60 : Nat) : Int) := by decide +kernel
      rw [e] at h
      omega
    rcases ht with rfl | rfl
    · simpa using this
    · simpa using this
/-! ### what is shown -/
theorem chr_repr : ∀ c : Nat, c < 128 → ∀ q : Nat, q = 34 ∨ q = 39 → (Builtin.Str.reprChar q c).length ≤ 10 := by
  intro c hc q hq
  have : ∀ c < 128, (Builtin.Str.reprChar 34 c).length ≤ 10 ∧ (Builtin.Str.reprChar 39 c).length ≤ 10 := by decide +kernel
  rcases hq with rfl | rfl
  · exact (this c hc).1
  · exact (this c hc).2
theorem repr_fold (q : Nat) (hq : q = 34 ∨ q = 39) : ∀ (l : List Nat) (out : Array Nat), (∀ c ∈ l, c < 128) → (l.foldl (fun out c => out ++ (Builtin.Str.reprChar q c).toArray) out).size ≤ out.size + 10 * l.length
  | [], out, _ => by simp
  | c :: l, out, h => by
    have := repr_fold q hq l (out ++ (Builtin.Str.reprChar q c).toArray) fun c hc => h c (List.mem_cons_of_mem _ hc)
    have h1 := chr_repr c (h c List.mem_cons_self) q hq
    have e1 : (out ++ (Builtin.Str.reprChar q c).toArray).size = out.size + (Builtin.Str.reprChar q c).length := by simp
    rw [e1] at this
    rw [List.foldl_cons, List.length_cons]
    omega
theorem repr_len {n : Nat} {x : Str} (h : Asc n x) : (reprText x).length ≤ 10 * n + 2 := by
  have hq : reprQuote x = 34 ∨ reprQuote x = 39 := by unfold reprQuote; split <;> simp
  have := repr_fold (reprQuote x) hq x.cps.toList #[reprQuote x] h.2
  unfold reprText Str.length
  rw [Array.size_push, ← Array.foldl_toList]
  have h1 := h.1
  rw [tl_len] at h1
  have e : (#[reprQuote x] : Array Nat).size = 1 := rfl
  rw [e] at this
  omega
theorem repr_str {n : Nat} {x : Str} (h : Asc n x) (hn : n ≤ 1000) (ps : List Bool) : ∃ s, biD .repr ps [.str x] = some (.str s) := by
  have h1 := repr_len h
  have c : (decide ((PyData.str x).shown.length ≤ lim)) = true := by
    rw [decide_eq_true_eq]
    unfold PyData.shown
    unfold lim
    omega
  refine ⟨reprText x, ?_⟩
  show (if (PyData.str x).showable && decide ((PyData.str x).depth ≤ 60) && decide ((PyData.str x).shown.length ≤ lim) && repOk (.str x) (.str x) then some (D.str (PyData.str x).shown) else none) = _
  rw [c]
  simp [PyData.showable, PyData.depth, repOk, PyData.hasDict, PyData.shown]
theorem repr_int {i : Int} (h : i.natAbs.log2 < 1920) (ps : List Bool) : ∃ s, biD .repr ps [.int i] = some (.str s) := by
  have h1 : (Str.ofString (toString i)).length ≤ 1921 := PyProof.Rows.int_text_len_1921 h
  have c : (decide ((PyData.int i).shown.length ≤ lim)) = true := by
    rw [decide_eq_true_eq]
    unfold PyData.shown lim
    exact Nat.le_trans h1 (by decide)
  refine ⟨(PyData.int i).shown, ?_⟩
  · show (if (PyData.int i).showable && decide ((PyData.int i).depth ≤ 60) && decide ((PyData.int i).shown.length ≤ lim) && repOk (.int i) (.int i) then some (D.str (PyData.int i).shown) else none) = _
    rw [c]
    simp [PyData.showable, PyData.depth, repOk, PyData.hasDict, h]
theorem log_of {i : Int} (h : i.natAbs < 10 ^ 60) : i.natAbs.log2 < 1920 := by
  by_cases e : i.natAbs = 0
  · rw [e]; decide
  · exact Nat.lt_of_lt_of_le ((Nat.log2_lt e).mpr (Nat.lt_of_lt_of_le h (show 10 ^ 60 ≤ 2 ^ 200 by decide +kernel))) (by decide)
end Mp
set_option linter.all false
set_option maxRecDepth 100000
set_option maxHeartbeats 1000000
set_option exponentiation.threshold 100
namespace Mp
open PySem L2
variable {T : Nat → Option Fn}
/-! ### names and amounts -/
theorem eqD_str (x y : Str) : eqD (.str x) (.str y) = some (decide (x = y)) := by simp [eqD, D.sc, scal]
theorem inD_chr (c : Nat) (z : Str) : inD (.str ⟨#[c]⟩) (.str z) = some (decide (c ∈ z.cps.toList)) := rfl
theorem items_str (z : Str) (pl : Bool) : itemsOf pl (.str z) = some (z.cps.toList.map fun c => .str ⟨#[c]⟩) := rfl
theorem blsD_map {α : Type} (f : α → Bool) : ∀ l : List α, blsD (l.map fun c => D.bl (f c)) = some (l.map f)
  | [] => rfl
  | a :: l => by simp [blsD, blsD_map f l]
theorem ty_str (x : Str) : tyOf (.str x) = some "str" := rfl
theorem ty_int (x : Int) : tyOf (.int x) = some "int" := rfl
theorem isAnys : isAny "str" ["str"] = some true ∧ isAny "int" ["str"] = some false ∧ isAny "str" ["int"] = some false ∧ isAny "int" ["int"] = some true ∧ isAny "int" ["bool"] = some false ∧ isAny "str" ["bool"] = some false := by decide
/-- whether the signs are all among z's -/
def allIn (x z : Str) : Bool := x.cps.toList.all fun c => decide (c ∈ z.cps.toList)
/-- [sign in z for sign in x], at any place of the names -/
theorem all_signs {cl : Call} {i : Nat} {m : ME} {z x : Str} {ρ : Env} (hz : ∀ ρ : Env, gI ρ i ≠ none → ev cl m ρ = some (.str z, ρ)) (hm : m.pl = false ∨ True) (hst : m.still = true) (hi : i < ρ.length) (hx : x.length ≤ 1000) :
    ∃ ρ', lcL (lcG cl [i] (.nm i) .nil (.op (.cmp .inn) (.cons (.var i) (.cons m .nil)))) (x.cps.toList.map fun c => .str ⟨#[c]⟩) ρ [] = some ((x.cps.toList.map fun c => D.bl (decide (c ∈ z.cps.toList))), ρ') ∧ ρ'.set i none = ρ.set i none := by
  have key := lcL_map (f := lcG cl [i] (.nm i) .nil (.op (.cmp .inn) (.cons (.var i) (.cons m .nil)))) (g := fun d => match d with | .str y => .bl (decide (y.cps.getD 0 0 ∈ z.cps.toList)) | d => d) (J := fun ρ' => ρ'.set i none = ρ.set i none)
    (items := x.cps.toList.map fun c => D.str ⟨#[c]⟩) (ρ := ρ) (acc := []) (fun d ρ1 hd j => ?_) rfl (by simp only [List.length_nil, List.length_map, Nat.zero_add]; rw [← tl_len]; exact Nat.le_trans hx (by decide))
  · obtain ⟨ρ', e, j⟩ := key
    refine ⟨ρ', ?_, j⟩
    rw [e, List.map_map]
    rfl
  · obtain ⟨c, hc, rfl⟩ := List.mem_map.mp hd
    have hl : i < ρ1.length := by
      have := congrArg List.length j
      simp only [List.length_set] at this
      omega
    have g1 : gI ((ρ1.set i none).set i (some (D.str ⟨#[c]⟩))) i = some (D.str ⟨#[c]⟩) := by
      unfold gI
      rw [List.getElem?_set_self (by rw [List.length_set]; exact hl)]
      rfl
    have e1 := hz ((ρ1.set i none).set i (some (D.str ⟨#[c]⟩))) (by rw [g1]; simp)
    refine ⟨(ρ1.set i none).set i (some (D.str ⟨#[c]⟩)), ?_, ?_⟩
    · cases hp : m.pl <;> simp only [lcG, E, ME.still, MEs.still, hst, g1, e1, inD_chr, hp] <;> rfl
    · rw [List.set_set, List.set_set]; exact j
theorem word_str (h2 : T 2 = some f2_is_word) {n : Nat} {x : Str} (hx : x.length ≤ 1000) : callT T (n + 1) 2 [false] [.str x] = some (.bl (decide (x ≠ "") && allIn x "abcdefghijklmnopqrstuvwxyz"), []) := by
  refine run h2 rfl rfl rfl ?_
  obtain ⟨ρ', e1, e2⟩ := all_signs (cl := callT T n) (i := 1) (m := .gl "LETTERS" (.str "abcdefghijklmnopqrstuvwxyz")) (z := "abcdefghijklmnopqrstuvwxyz") (x := x) (ρ := [some (.str x), none]) (fun ρ _ => by simp only [E]) (.inr trivial) rfl (by simp) hx
  by_cases h : x = ""
  · simp only [f2_is_word, E, ME.still, MEs.still, ty_str, isAnys, eqD_str, h, ne_eq, not_true_eq_false, Nat.reduceSub, items_str, e1, blsD_map, allIn]
  · simp only [f2_is_word, E, ME.still, MEs.still, ty_str, isAnys, eqD_str, h, ne_eq, not_false_eq_true, Nat.reduceSub, items_str, e1, blsD_map, allIn, backE, List.all_map]
    rfl

theorem word_int (h2 : T 2 = some f2_is_word) {n : Nat} {x : Int} : callT T (n + 1) 2 [false] [.int x] = some (.bl false, []) := by
  refine run h2 rfl rfl rfl ?_
  simp only [f2_is_word, E, ME.still, MEs.still, ty_int, isAnys, Nat.reduceSub]
theorem len_le {x : Str} (hx : x.length ≤ 1000) : x.length ≤ lim := Nat.le_trans hx (by decide)
theorem caL (i : Nat) : caOk [.late i] = true := by simp [caOk, ios, lates, Ar.isPrt]
theorem name_str (h2 : T 2 = some f2_is_word) (h3 : T 3 = some f3_is_name) {n : Nat} {x : Str} (hx : x.length ≤ 1000) : callT T (n + 2) 3 [false] [.str x] = some (.bl (decide (x ≠ "") && allIn x "abcdefghijklmnopqrstuvwxyz" && decide (x.length ≤ 8)), []) := by
  refine run h3 rfl rfl rfl ?_
  have e1 := word_str (n := n) h2 hx
  have e3 : decide ((x.length : Int) ≤ 8) = decide (x.length ≤ 8) := by
    by_cases h : x.length ≤ 8
    · simp [h]; omega
    · simp [h]; omega
  cases h : decide (x ≠ "") && allIn x "abcdefghijklmnopqrstuvwxyz"
  · rw [h] at e1
    simp only [f3_is_name, E, ME.still, MEs.still, caL, e1, len_le hx, Nat.reduceSub]
  · rw [h] at e1
    simp only [f3_is_name, E, ME.still, MEs.still, caL, e1, len_le hx, Nat.reduceSub, e3]
theorem name_int (h2 : T 2 = some f2_is_word) (h3 : T 3 = some f3_is_name) {n : Nat} {x : Int} : callT T (n + 2) 3 [false] [.int x] = some (.bl false, []) := by
  refine run h3 rfl rfl rfl ?_
  have e1 := word_int (n := n) (x := x) h2
  simp only [f3_is_name, E, ME.still, MEs.still, caL, e1, Nat.reduceSub]
theorem whole_int (h4 : T 4 = some f4_is_whole) {n : Nat} {x : Int} : callT T (n + 1) 4 [false] [.int x] = some (.bl (decide (0 ≤ x)), []) := by
  refine run h4 rfl rfl rfl ?_
  simp only [f4_is_whole, E, ME.still, MEs.still, ty_int, isAnys, Nat.reduceSub]
theorem whole_str (h4 : T 4 = some f4_is_whole) {n : Nat} {x : Str} : callT T (n + 1) 4 [false] [.str x] = some (.bl false, []) := by
  refine run h4 rfl rfl rfl ?_
  simp only [f4_is_whole, E, ME.still, MEs.still, ty_str, isAnys, Nat.reduceSub]
theorem amount_int (h4 : T 4 = some f4_is_whole) (h5 : T 5 = some f5_is_amount) {n : Nat} {x : Int} : callT T (n + 2) 5 [false] [.int x] = some (.bl (decide (0 < x)), []) := by
  refine run h5 rfl rfl rfl ?_
  have e1 := whole_int (n := n) (x := x) h4
  by_cases h : 0 ≤ x
  · simp only [f5_is_amount, E, ME.still, MEs.still, caL, e1, h, Nat.reduceSub]
  · have h0 : ¬ 0 < x := by omega
    simp only [f5_is_amount, E, ME.still, MEs.still, caL, e1, h, h0, Nat.reduceSub]
theorem amount_str (h4 : T 4 = some f4_is_whole) (h5 : T 5 = some f5_is_amount) {n : Nat} {x : Str} : callT T (n + 2) 5 [false] [.str x] = some (.bl false, []) := by
  refine run h5 rfl rfl rfl ?_
  have e1 := whole_str (n := n) (x := x) h4
  simp only [f5_is_amount, E, ME.still, MEs.still, caL, e1, Nat.reduceSub]
end Mp
set_option linter.all false
set_option maxRecDepth 100000
set_option maxHeartbeats 1000000
set_option exponentiation.threshold 100
namespace Mp
open PySem L2
abbrev lawLv : Nat := 8
def isT : Option (D × List D) → Bool
  | some (.bl true, []) => true
  | _ => false
theorem isT_eq {r : Option (D × List D)} (h : isT r = true) : r = some (.bl true, []) := by
  unfold isT at h
  split at h
  · rfl
  · cases h
def oddL : List D := [.non, .bl true, .bl false, .str "", .str "1", .str "a b", .lst .frz [], .tup [], .dic .frz [] [], .lst .frz [.str "a"], .tup [.str "a"], .dic .frz [.inr "a"] [.int 1], .lst .frz [.int 1], .tup [.int 1], .dic .frz [.inl 1] [.str "a"], .str "person",
  .tup [.str "a", .int 1], .lst .frz [.tup [.str "a", .int 1]], .str "abcdefgh", .str "abcdefghi", .str "a", .str "z", .int 0, .int 1, .int (-1), .lst .frz [.non], .lst .frz [.lst .frz []], .tup [.tup []], .str "pay", .str "A"]
theorem odd_right : oddL.all (fun d => isT (callT T 7 48 [false] [d])) = true := by decide +kernel

def oddA : List D := oddL.take 16
def oddB : List D := oddL.drop 16
theorem odd1 (cl : Call) (ρ : Env) : ev cl (.fr (.lst (.cons .kn (.cons (.kb true) (.cons (.kb false) (.cons (.ks "") (.cons (.ks "1") (.cons (.ks "a b") (.cons (.lst .nil) (.cons (.tup .nil) (.cons (.dic .nil) (.cons (.lst (.cons (.ks "a") .nil)) (.cons (.tup (.cons (.ks "a") .nil)) (.cons (.dic (.cons (.ks "a") (.ki 1) .nil)) (.cons (.lst (.cons (.ki 1) .nil)) (.cons (.tup (.cons (.ki 1) .nil)) (.cons (.dic (.cons (.ki 1) (.ks "a") .nil)) (.cons (.ks "person") .nil)))))))))))))))))) ρ = some (.lst .frz oddA, ρ) := disp_is cl (by decide +kernel) ρ
def oddB' : List D := [.tup [.str "a", .int 1], .lst .own [.tup [.str "a", .int 1]], .str "abcdefgh", .str "abcdefghi", .str "a", .str "z", .int 0, .int 1, .int (-1), .lst .own [.non], .lst .own [.lst .own []], .tup [.tup []], .str "pay", .str "A"]
theorem odd2 (cl : Call) (ρ : Env) : ev cl (.lst (.cons (.tup (.cons (.ks "a") (.cons (.ki 1) .nil))) (.cons (.lst (.cons (.tup (.cons (.ks "a") (.cons (.ki 1) .nil))) .nil)) (.cons (.ks "abcdefgh") (.cons (.ks "abcdefghi") (.cons (.ks "a") (.cons (.ks "z") (.cons (.ki 0) (.cons (.ki 1) (.cons (.op .neg (.cons (.ki 1) .nil)) (.cons (.lst (.cons .kn .nil)) (.cons (.lst (.cons (.lst .nil) .nil)) (.cons (.tup (.cons (.tup .nil) .nil)) (.cons (.ks "pay") (.cons (.ks "A") .nil))))))))))))))) ρ = some (.lst .own oddB', ρ) := disp_is cl (by decide +kernel) ρ
theorem odd3 : (oddA ++ oddB').map D.fz = oddL := beqDs_eq (by decide +kernel)
theorem among_lst (h26 : T 26 = some f26_law_take) (h29 : T 29 = some f29_law_among) {n : Nat} {q : Pt} {xs : List D} (h0 : 0 < xs.length) (h1 : xs.length ≤ 1000) (hn : ∀ d ∈ xs, d.nb = true ∧ d.sh = true) :
    ∃ d ∈ xs, callT T (n + 2) 29 [true, false] [potD q, .lst .frz xs] = some (d, [potD (takeP q xs.length)]) := by
  have a1 : (0 : Int) < xs.length := by omega
  have e2 := take_eq (n := n) h26 (q := q) a1 (big_of (Int.le_trans (show (xs.length : Int) ≤ 1000 by omega) (by decide +kernel)))
  obtain ⟨d, hd, ed⟩ := lst_draw (xs := xs) (q := q) h0
  obtain ⟨n1, n2⟩ := hn d hd
  have hs : xs.all D.sh = true := List.all_eq_true.mpr fun d hd => (hn d hd).2
  refine ⟨d, hd, run h29 rfl rfl ?_ ?_⟩
  · simp [argsOk, D.sh, Fl.sh, hs]
  · simp only [f29_law_among, E, MEs.still, ME.still, ca2, e2, ed, Nat.reduceSub, pot_nb, n1, n2, hs]

theorem odd_ok : ∀ d ∈ oddL, d.nb = true ∧ d.sh = true ∧ d.fz = d ∧ d.br = d := by
  have h : (oddL.all fun d => d.nb && d.sh && beqD d.fz d && beqD d.br d) = true := by decide +kernel
  intro d hd
  have := List.all_eq_true.mp h d hd
  simp only [Bool.and_eq_true] at this
  exact ⟨this.1.1.1, this.1.1.2, beqD_eq this.1.2, beqD_eq this.2⟩
theorem odd_eq (h26 : T 26 = some f26_law_take) (h29 : T 29 = some f29_law_among) (h45 : T 45 = some f45_law_odd) {n : Nat} {q : Pt} : ∃ d ∈ oddL, ∃ q', callT T (n + 3) 45 [true] [potD q] = some (d, [potD q']) := by
  obtain ⟨d, hd, e⟩ := among_lst (n := n) h26 h29 (q := q) (xs := oddL) (by decide) (by decide) fun d hd => ⟨(odd_ok d hd).1, (odd_ok d hd).2.1⟩
  obtain ⟨o1, o2, o3, o4⟩ := odd_ok d hd
  have hl : oddA.length + oddB'.length ≤ lim := by decide
  have hA : oddA.all D.sh = true := by decide +kernel
  have hb : oddL.map D.br = oddL := (List.map_congr_left fun d hd => (odd_ok d hd).2.2.2).trans (List.map_id _)
  have hf : oddL.map D.fz = oddL := (List.map_congr_left fun d hd => (odd_ok d hd).2.2.1).trans (List.map_id _)
  have hs : oddL.all D.sh = true := List.all_eq_true.mpr fun d hd => (odd_ok d hd).2.1
  refine ⟨d, hd, takeP q oddL.length, run h45 rfl rfl rfl ?_⟩
  have e1 := odd1 (callT T (n + 2)) [some (potD q), none]
  have e2 := odd2 (callT T (n + 2)) [some (potD q), some (.lst .frz oddA)]
  have k1 : kids true oddA = some oddA := by unfold kids; rw [shs_eq, hA]; rfl
  simp only [E] at e1 e2
  simp only [f45_law_odd, E, MEs.still, ME.still, e1, e2, hl, k1, odd3, hb, hf, hs, ca2l, e, o1, o3, Nat.reduceSub, pot_nb, ne_eq, not_false_eq_true, Nat.reduceEqDiff, reduceCtorEq]



/-! ### the law's own look -/
theorem e_chn (cl : Call) (o o' : Cop) (a b c : ME) (ρ : Env) : ev cl (.chn o o' a b c) ρ = (ev cl a ρ).bind fun r => if r.1.sc.isSome then (ev cl b r.2).bind fun s => if s.1.sc.isSome then (cmpD o r.1 s.1).bind fun k =>
      if k then (ev cl c s.2).bind fun t => if t.1.sc.isSome then (cmpD o' s.1 t.1).map fun d => (.bl d, t.2) else none
      else some (.bl false, s.2) else none else none := by simp only [ev]
theorem sc_int (i : Int) : (D.int i).sc.isSome = true := rfl
theorem lname_str (h46 : T 46 = some f46_law_is_name) {n : Nat} {x : Str} (hx : x.length ≤ 1000) : callT T (n + 1) 46 [false] [.str x] = some (.bl (decide (x ≠ "") && allIn x "abcdefghijklmnopqrstuvwxyz" && decide (x.length ≤ 8)), []) := by
  refine run h46 rfl rfl rfl ?_
  obtain ⟨ρ', e1, e2⟩ := all_signs (cl := callT T n) (i := 1) (m := .ks "abcdefghijklmnopqrstuvwxyz") (z := "abcdefghijklmnopqrstuvwxyz") (x := x) (ρ := [some (.str x), none]) (fun ρ _ => by simp only [E]) (.inr trivial) rfl (by simp) hx
  have z0 : decide (x ≠ "") = decide ((1 : Int) ≤ (x.length : Int)) := by
    by_cases h : x = ""
    · subst h; decide
    · have : x.length ≠ 0 := fun q => h (by
        have : x.cps = #[] := Array.eq_empty_of_size_eq_zero q
        cases x; simp only at this; subst this; decide)
      rw [decide_eq_true h, decide_eq_true (by omega)]
  have z1 : decide (x.length ≤ 8) = decide ((x.length : Int) ≤ 8) := by
    by_cases h : x.length ≤ 8
    · rw [decide_eq_true h, decide_eq_true (by omega)]
    · rw [decide_eq_false h, decide_eq_false (by omega)]
  rw [z0, z1]
  by_cases h1 : (1 : Int) ≤ x.length
  · by_cases h2 : (x.length : Int) ≤ 8
    · simp only [f46_law_is_name, E, ME.still, MEs.still, ty_str, isAnys, e_chn, sc_int, h1, h2, Nat.reduceSub, items_str, e1, blsD_map, allIn, backE, List.all_map, len_le hx]
      rfl
    · simp only [f46_law_is_name, E, ME.still, MEs.still, ty_str, isAnys, e_chn, sc_int, h1, h2, Nat.reduceSub, len_le hx]
  · simp only [f46_law_is_name, E, ME.still, MEs.still, ty_str, isAnys, e_chn, sc_int, h1, Nat.reduceSub, len_le hx]
theorem lname_int (h46 : T 46 = some f46_law_is_name) {n : Nat} {x : Int} : callT T (n + 1) 46 [false] [.int x] = some (.bl false, []) := by
  refine run h46 rfl rfl rfl ?_
  simp only [f46_law_is_name, E, ME.still, MEs.still, ty_int, isAnys, Nat.reduceSub]
theorem lamount_int (h47 : T 47 = some f47_law_is_amount) {n : Nat} {x : Int} : callT T (n + 1) 47 [false] [.int x] = some (.bl (decide (0 < x)), []) := by
  refine run h47 rfl rfl rfl ?_
  simp only [f47_law_is_amount, E, ME.still, MEs.still, ty_int, isAnys, Nat.reduceSub]
theorem lamount_str (h47 : T 47 = some f47_law_is_amount) {n : Nat} {x : Str} : callT T (n + 1) 47 [false] [.str x] = some (.bl false, []) := by
  refine run h47 rfl rfl rfl ?_
  simp only [f47_law_is_amount, E, ME.still, MEs.still, ty_str, isAnys, Nat.reduceSub]
theorem repr4 (a b : Bool) : ∃ s, ∀ f ps, biD .repr ps [.lst f [.bl a, .bl b, .bl a, .bl b]] = some (.str s) := by
  have c : ((PyData.list [.bool a, .bool b, .bool a, .bool b]).showable && decide ((PyData.list [.bool a, .bool b, .bool a, .bool b]).depth ≤ 60) && decide ((PyData.list [.bool a, .bool b, .bool a, .bool b]).shown.length ≤ lim) && !(PyData.list [.bool a, .bool b, .bool a, .bool b]).hasDict) = true := by
    cases a <;> cases b <;> decide +kernel
  refine ⟨(PyData.list [.bool a, .bool b, .bool a, .bool b]).shown, fun f ps => ?_⟩
  show (if (PyData.list [.bool a, .bool b, .bool a, .bool b]).showable && decide ((PyData.list [.bool a, .bool b, .bool a, .bool b]).depth ≤ 60) && decide ((PyData.list [.bool a, .bool b, .bool a, .bool b]).shown.length ≤ lim) && !(PyData.list [.bool a, .bool b, .bool a, .bool b]).hasDict then some (D.str (PyData.list [.bool a, .bool b, .bool a, .bool b]).shown) else none) = _
  rw [c]
  rfl
theorem mul2 (p q : Bool) (a b : Bool) : binD p q .mul (.lst .own [.bl a, .bl b]) (.int 2) = (kids p [.bl a, .bl b]).bind fun _ => some (.lst .own [.bl a, .bl b, .bl a, .bl b]) := by
  cases p <;> rfl
theorem right_eq (h48 : T 48 = some f48_law_right) {n : Nat} {w : D} {a b : Bool} (hs : w.sh = true) (hb : w.br = w) (e3 : callT T n 3 [false] [w] = some (.bl a, [])) (e5 : callT T n 5 [false] [w] = some (.bl b, [])) (e46 : callT T n 46 [false] [w] = some (.bl a, [])) (e47 : callT T n 47 [false] [w] = some (.bl b, []))
    (hr : ∃ s, ∀ ps, biD .repr ps [w] = some (.str s)) : callT T (n + 1) 48 [false] [w] = some (.bl true, []) := by
  refine run h48 rfl rfl (by simp [argsOk, hs]) ?_
  obtain ⟨s, hr⟩ := hr
  obtain ⟨s4, hr4⟩ := repr4 a b
  have c4 : 4 ≤ lim := by decide
  have c2 : 2 ≤ lim := by decide
  simp only [f48_law_right, E, ME.still, MEs.still, caL, hb, e3, e5, e46, e47, hr, hr4, mul2, c4, c2, Nat.reduceSub, List.length_cons, List.length_nil, Nat.reduceAdd, Nat.zero_add]

/-! ### the law -/
def Gd (w : D) : Prop := w.sh = true ∧ w.br = w ∧ w.fz = w ∧ callT Mp.T 7 48 [false] [w] = some (.bl true, [])
theorem gd_str {x : Str} (h : Asc 100 x) : Gd (.str x) := by
  have hx : x.length ≤ 1000 := Nat.le_trans h.1 (by decide)
  exact ⟨rfl, rfl, rfl, right_eq (n := 6) rfl rfl rfl (name_str (n := 4) rfl rfl hx) (amount_str (n := 4) rfl rfl) (lname_str (n := 5) rfl hx) (lamount_str (n := 5) rfl) (repr_str h (by decide) |> fun q => ⟨(q []).choose, fun ps => (q ps).choose_spec⟩)⟩
theorem gd_int {i : Int} (h : i.natAbs < 10 ^ 60) : Gd (.int i) :=
  ⟨rfl, rfl, rfl, right_eq (n := 6) rfl rfl rfl (name_int (n := 4) rfl rfl) (amount_int (n := 4) rfl rfl) (lname_int (n := 5) rfl) (lamount_int (n := 5) rfl) (repr_int (log_of h) |> fun q => ⟨(q []).choose, fun ps => (q ps).choose_spec⟩)⟩
theorem gd_odd {d : D} (h : d ∈ oddL) : Gd d := by
  obtain ⟨_, a, b, c⟩ := odd_ok d h
  exact ⟨a, c, b, isT_eq (List.all_eq_true.mp odd_right d h)⟩
theorem kids_gd {xs : List D} (h : ∀ d ∈ xs, Gd d) : kids true xs = some xs ∧ xs.map D.fz = xs ∧ xs.all D.sh = true ∧ itemsOf true (.lst .frz xs) = some xs := by
  have hs : xs.all D.sh = true := List.all_eq_true.mpr fun d hd => (h d hd).1
  have hf : xs.map D.fz = xs := (List.map_congr_left fun d hd => (h d hd).2.2.1).trans (List.map_id _)
  refine ⟨by unfold kids; rw [shs_eq, hs]; rfl, hf, hs, ?_⟩
  simp only [itemsOf, shs_eq, hs, fzs_eq, hf]
  rfl
abbrev St0 (ns : List Int) (ρ : Env) : Prop := ∃ y1 y2 y3 y4 y5, ρ = [some (.scr ns), y1, y2, y3, y4, y5]
theorem ca1 (i : Nat) : caOk [.io i] = true := by simp [caOk, ios, lates, Ar.isPrt]
theorem caLL (i j : Nat) : caOk [.late i, .late j] = true := by simp [caOk, ios, lates, Ar.isPrt]
/-- the inner loop's turn -/
theorem inner {ns : List Int} {k : D} {q : Pt} {xs : List D} {y4 y5 : Option D} {x : D} (hl : xs.length ≤ 100) (h : ∀ d ∈ xs, Gd d) : ∃ q' ys, ys.length = 3 ∧ (∀ d ∈ ys, Gd d) ∧
    forG (callT Mp.T 7) (.nm 4) (.cons (.asg (.nm 3) (.fr (.op (.bin .add) (.cons (.var 3) (.cons (.lst (.cons (.call 43 (.cons (.io 2) .nil)) (.cons (.call 44 (.cons (.io 2) .nil)) (.cons (.call 45 (.cons (.io 2) .nil)) .nil)))) .nil))))) (.cons (.kill [4]) .nil)) x [some (.scr ns), some k, some (potD q), some (.lst .frz xs), y4, y5] =
      some (.nx [some (.scr ns), some k, some (potD q'), some (.lst .frz (xs ++ ys)), none, y5]) := by
  obtain ⟨t, q1, e1, ht⟩ := text_eq (T := Mp.T) (n := 4) (q := q) rfl rfl rfl
  obtain ⟨i, q2, e2, hi⟩ := number_eq (T := Mp.T) (n := 5) (q := q1) rfl rfl
  obtain ⟨d, hd, q3, e3⟩ := odd_eq (n := 4) (q := q2) rfl rfl rfl
  have gy : ∀ w ∈ [D.str t, D.int i, d], Gd w := by
    intro w hw
    simp only [List.mem_cons, List.not_mem_nil, or_false] at hw
    rcases hw with rfl | rfl | rfl
    · exact gd_str ht
    · exact gd_int hi
    · exact gd_odd hd
  obtain ⟨k1, f1, s1, _⟩ := kids_gd h
  have f2 : D.fz d = d := (gd_odd hd).2.2.1
  have c3 : 3 ≤ lim := by decide
  have c4 : xs.length + 3 ≤ lim := by unfold lim; omega
  refine ⟨q3, [.str t, .int i, d], rfl, gy, ?_⟩
  simp only [forG, E, ME.still, MEs.still, ca1, e1, e2, e3, k1, f1, f2, s1, c3, c4, pot_sh, pot_nb, List.length_cons, List.length_nil, Nat.reduceAdd, Nat.zero_add, List.map_append]
/-- one round of the law -/
theorem round {ns : List Int} {k : Nat} {y1 y2 y3 y4 y5 : Option D} (hk : k ≤ 63) : ∃ z, forG (callT Mp.T 7) (.nm 1) (.cons (.asg (.nm 2) (.call 25 (.cons (.var 0) (.cons (.var 1) .nil)))) (.cons (.asg (.nm 3) (.fr (.lst .nil))) (.cons (.for_ (.nm 4) (.rng (.ki 0) (.ki 4)) (.cons (.asg (.nm 3) (.fr (.op (.bin .add) (.cons (.var 3) (.cons (.lst (.cons (.call 43 (.cons (.io 2) .nil)) (.cons (.call 44 (.cons (.io 2) .nil)) (.cons (.call 45 (.cons (.io 2) .nil)) .nil)))) .nil))))) (.cons (.kill [4]) .nil))) (.cons (.kill [4]) (.cons (.ife (.not (.op (.bi .all) (.cons (.lc [5] (.nm 5) (.seq (.var 3)) .nil (.call 48 (.cons (.var 5) .nil))) .nil))) (.cons (.ret (.kb false)) .nil) .nil) (.cons (.kill [1, 2, 3, 4]) .nil)))))) (.int k) [some (.scr ns), y1, y2, y3, y4, y5] =
      some (.nx [some (.scr ns), none, none, none, none, z]) := by
  have e1 := pot_eq (T := Mp.T) rfl (n := 6) (ns := ns) hk
  have lp := forL_ex (f := forG (callT Mp.T 7) (.nm 4) (.cons (.asg (.nm 3) (.fr (.op (.bin .add) (.cons (.var 3) (.cons (.lst (.cons (.call 43 (.cons (.io 2) .nil)) (.cons (.call 44 (.cons (.io 2) .nil)) (.cons (.call 45 (.cons (.io 2) .nil)) .nil)))) .nil))))) (.cons (.kill [4]) .nil)))
    (n := 4) (J := fun i ρ => ∃ q xs y, xs.length ≤ 3 * i ∧ (∀ d ∈ xs, Gd d) ∧ ρ = [some (.scr ns), some (.int k), some (potD q), some (.lst .frz xs), y, y5]) (items := nums 0 4) (i := 0) (ρ := [some (.scr ns), some (.int k), some (potD (potQ ns k)), some (.lst .frz []), y4, y5])
    (fun x ρ i hx hi ⟨q, xs, y, h1, h2, h3⟩ => ?_) (by decide) ⟨_, [], y4, Nat.zero_le _, fun d hd => (by cases hd), rfl⟩
  · obtain ⟨ρ', e2, q, xs, y, h1, h2, h3⟩ := lp
    subst h3
    obtain ⟨k1, f1, s1, i1⟩ := kids_gd h2
    obtain ⟨ρ2, e3, z, rfl⟩ := lcL_map (f := lcG (callT Mp.T 7) [5] (.nm 5) .nil (.call 48 (.cons (.var 5) .nil))) (g := fun _ => .bl true) (J := fun ρ => ∃ z, ρ = [some (.scr ns), some (.int k), some (potD q), some (.lst .frz xs), none, z]) (items := xs) (ρ := [some (.scr ns), some (.int k), some (potD q), some (.lst .frz xs), none, y5]) (acc := [])
      (fun d ρ hd ⟨z, hρ⟩ => by
        subst hρ
        obtain ⟨g1, g2, g3, g4⟩ := h2 d hd
        refine ⟨_, ?_, some d, rfl⟩
        simp only [lcG, E, ME.still, MEs.still, caL, g2, g4]) ⟨_, rfl⟩ (by have : xs.length ≤ 12 := h1; simp only [List.length_nil]; unfold lim; omega)
    have e4 : blsD (xs.map fun _ => D.bl true) = some (xs.map fun _ => true) := blsD_map (fun _ => true) xs
    have e5 : (xs.map fun _ => true).all id = true := by simp
    have s4 : (small 0 && small 4) = true := by decide
    have n4 : ((4 : Int) - 0).toNat = 4 := rfl
    have c0 : 0 ≤ lim := Nat.zero_le _
    refine ⟨y5, ?_⟩
    · simp only [forG, E, ME.still, MEs.still, caLL, e1, s4, n4, c0, e2, e3, e4, e5, f1, s1, i1, pot_nb, pot_sh, List.length_nil, backE, reduceCtorEq, id_eq, Bool.not_true]
  · obtain ⟨k', hk', rfl⟩ := nums_mem hx
    subst h3
    obtain ⟨q', ys, l3, g3, e3⟩ := inner (ns := ns) (k := .int k) (q := q) (xs := xs) (y4 := y) (y5 := y5) (x := .int (0 + k')) (by omega) h2
    exact ⟨_, .inl e3, q', xs ++ ys, none, by rw [List.length_append, l3]; omega, fun d hd => (List.mem_append.mp hd).elim (h2 d) (g3 d), rfl⟩
theorem law_true (ns : List Int) (h1 : ns.length ≤ 63) (h2 : ∀ z ∈ ns, Builtin.Int.intBits z ≤ 1048576) : callT T lawLv 49 [false] [D.scr ns] = some (D.bl true, []) := by
  refine run (n := 7) rfl rfl rfl rfl ?_
  have hm : ∃ m : Nat, m ≤ 8 ∧ (if (if (8 : Int) < ns.length then (8 : Int) else ns.length) > 1 then (if (8 : Int) < ns.length then (8 : Int) else ns.length) else 1) = (m : Int) := by
    by_cases a : (8 : Int) < ns.length
    · exact ⟨8, Nat.le_refl _, by rw [if_pos a]; rfl⟩
    · rw [if_neg a]
      by_cases b : (ns.length : Int) > 1
      · exact ⟨ns.length, by omega, by rw [if_pos b]⟩
      · exact ⟨1, by decide, by rw [if_neg b]; rfl⟩
  obtain ⟨m, m1, m2⟩ := hm
  have lp := forL_ex (f := forG (callT Mp.T 7) (.nm 1) (.cons (.asg (.nm 2) (.call 25 (.cons (.var 0) (.cons (.var 1) .nil)))) (.cons (.asg (.nm 3) (.fr (.lst .nil))) (.cons (.for_ (.nm 4) (.rng (.ki 0) (.ki 4)) (.cons (.asg (.nm 3) (.fr (.op (.bin .add) (.cons (.var 3) (.cons (.lst (.cons (.call 43 (.cons (.io 2) .nil)) (.cons (.call 44 (.cons (.io 2) .nil)) (.cons (.call 45 (.cons (.io 2) .nil)) .nil)))) .nil))))) (.cons (.kill [4]) .nil))) (.cons (.kill [4]) (.cons (.ife (.not (.op (.bi .all) (.cons (.lc [5] (.nm 5) (.seq (.var 3)) .nil (.call 48 (.cons (.var 5) .nil))) .nil))) (.cons (.ret (.kb false)) .nil) .nil) (.cons (.kill [1, 2, 3, 4]) .nil)))))))
    (n := m) (J := fun _ ρ => ∃ y1 y2 y3 y4 y5, ρ = [some (.scr ns), y1, y2, y3, y4, y5]) (items := nums 0 m) (i := 0) (ρ := [some (.scr ns), none, none, none, none, none])
    (fun x ρ i hx hi ⟨y1, y2, y3, y4, y5, h3⟩ => ?_) (by rw [nums_len']; omega) ⟨_, _, _, _, _, rfl⟩
  · obtain ⟨ρ', e2, y1, y2, y3, y4, y5, rfl⟩ := lp
    have sm : (small 0 && small m) = true := by unfold small; simp; omega
    have tm : ((m : Int) - 0).toNat = m := by omega
    simp only [f49_law, E, ME.still, MEs.still, m2, sm, tm, e2, Nat.reduceSub]
  · obtain ⟨k', hk', rfl⟩ := nums_mem hx
    subst h3
    obtain ⟨z, e⟩ := round (ns := ns) (k := k') (y1 := y1) (y2 := y2) (y3 := y3) (y4 := y4) (y5 := y5) (by omega)
    rw [show (0 : Int) + (k' : Int) = (k' : Int) by omega]
    exact ⟨_, .inl e, none, none, none, none, z, rfl⟩
end Mp
set_option Elab.async false
set_option maxRecDepth 100000
set_option maxHeartbeats 4000000
namespace Mp
open PySem L2 PySem.W
theorem facts {K : PySem.W.Frag} {h : Heap} {mg : Str → Option Value} {fa f2 f3 f4 f5 f25 f26 f29 f43 f44 f45 f46 f47 f48 f49 : Addr} (X : K.In h) (Gn : h.Ns mainGlobals mg) (hfa : mg "law" = some (.ref fa))
    {od2 an2 od3 an3 od4 an4 od5 an5 od25 an25 od26 an26 od29 an29 od43 an43 od44 an44 od45 an45 od46 an46 od47 an47 od48 an48 od49 an49 : Option Addr} {sl2 sl3 sl4 sl5 sl25 sl26 sl29 sl43 sl44 sl45 sl46 sl47 sl48 sl49 : Array (Option Value)} {oc2 kV2 dc2 pm2 cd2 ct2 oc3 kV3 dc3 pm3 cd3 ct3 oc4 kV4 dc4 pm4 cd4 ct4 oc5 kV5 dc5 pm5 cd5 ct5 oc25 kV25 dc25 pm25 cd25 ct25 oc26 kV26 dc26 pm26 cd26 ct26 oc29 kV29 dc29 pm29 cd29 ct29 oc43 kV43 dc43 pm43 cd43 ct43 oc44 kV44 dc44 pm44 cd44 ct44 oc45 kV45 dc45 pm45 cd45 ct45 oc46 kV46 dc46 pm46 cd46 ct46 oc47 kV47 dc47 pm47 cd47 ct47 oc48 kV48 dc48 pm48 cd48 ct48 oc49 kV49 dc49 pm49 cd49 ct49 : Value}
    {t_LETTERS t_MOST_LETTERS : Tok}
    (a2 : nsIn K mainGlobals "is_word" = some (some (.ref f2)))
    (l2 : K.lookup f2 = some ⟨oc2, od2, .func (fnOf "is_word" "is_word" (defArgs s2) (defBody s2) (defScope s2) .none kV2 dc2 pm2 an2 cd2 ct2), sl2⟩) (c2 : codeIn K cd2 "is_word" = true) (k2 : keepIn K (.ref f2) = true)
    (a3 : nsIn K mainGlobals "is_name" = some (some (.ref f3)))
    (l3 : K.lookup f3 = some ⟨oc3, od3, .func (fnOf "is_name" "is_name" (defArgs s3) (defBody s3) (defScope s3) .none kV3 dc3 pm3 an3 cd3 ct3), sl3⟩) (c3 : codeIn K cd3 "is_name" = true) (k3 : keepIn K (.ref f3) = true)
    (a4 : nsIn K mainGlobals "is_whole" = some (some (.ref f4)))
    (l4 : K.lookup f4 = some ⟨oc4, od4, .func (fnOf "is_whole" "is_whole" (defArgs s4) (defBody s4) (defScope s4) .none kV4 dc4 pm4 an4 cd4 ct4), sl4⟩) (c4 : codeIn K cd4 "is_whole" = true) (k4 : keepIn K (.ref f4) = true)
    (a5 : nsIn K mainGlobals "is_amount" = some (some (.ref f5)))
    (l5 : K.lookup f5 = some ⟨oc5, od5, .func (fnOf "is_amount" "is_amount" (defArgs s5) (defBody s5) (defScope s5) .none kV5 dc5 pm5 an5 cd5 ct5), sl5⟩) (c5 : codeIn K cd5 "is_amount" = true) (k5 : keepIn K (.ref f5) = true)
    (a25 : nsIn K mainGlobals "_law_pot" = some (some (.ref f25)))
    (l25 : K.lookup f25 = some ⟨oc25, od25, .func (fnOf "_law_pot" "_law_pot" (defArgs s25) (defBody s25) (defScope s25) .none kV25 dc25 pm25 an25 cd25 ct25), sl25⟩) (c25 : codeIn K cd25 "_law_pot" = true) (k25 : keepIn K (.ref f25) = true)
    (a26 : nsIn K mainGlobals "_law_take" = some (some (.ref f26)))
    (l26 : K.lookup f26 = some ⟨oc26, od26, .func (fnOf "_law_take" "_law_take" (defArgs s26) (defBody s26) (defScope s26) .none kV26 dc26 pm26 an26 cd26 ct26), sl26⟩) (c26 : codeIn K cd26 "_law_take" = true) (k26 : keepIn K (.ref f26) = true)
    (a29 : nsIn K mainGlobals "_law_among" = some (some (.ref f29)))
    (l29 : K.lookup f29 = some ⟨oc29, od29, .func (fnOf "_law_among" "_law_among" (defArgs s29) (defBody s29) (defScope s29) .none kV29 dc29 pm29 an29 cd29 ct29), sl29⟩) (c29 : codeIn K cd29 "_law_among" = true) (k29 : keepIn K (.ref f29) = true)
    (a43 : nsIn K mainGlobals "_law_text" = some (some (.ref f43)))
    (l43 : K.lookup f43 = some ⟨oc43, od43, .func (fnOf "_law_text" "_law_text" (defArgs s43) (defBody s43) (defScope s43) .none kV43 dc43 pm43 an43 cd43 ct43), sl43⟩) (c43 : codeIn K cd43 "_law_text" = true) (k43 : keepIn K (.ref f43) = true)
    (a44 : nsIn K mainGlobals "_law_number" = some (some (.ref f44)))
    (l44 : K.lookup f44 = some ⟨oc44, od44, .func (fnOf "_law_number" "_law_number" (defArgs s44) (defBody s44) (defScope s44) .none kV44 dc44 pm44 an44 cd44 ct44), sl44⟩) (c44 : codeIn K cd44 "_law_number" = true) (k44 : keepIn K (.ref f44) = true)
    (a45 : nsIn K mainGlobals "_law_odd" = some (some (.ref f45)))
    (l45 : K.lookup f45 = some ⟨oc45, od45, .func (fnOf "_law_odd" "_law_odd" (defArgs s45) (defBody s45) (defScope s45) .none kV45 dc45 pm45 an45 cd45 ct45), sl45⟩) (c45 : codeIn K cd45 "_law_odd" = true) (k45 : keepIn K (.ref f45) = true)
    (a46 : nsIn K mainGlobals "_law_is_name" = some (some (.ref f46)))
    (l46 : K.lookup f46 = some ⟨oc46, od46, .func (fnOf "_law_is_name" "_law_is_name" (defArgs s46) (defBody s46) (defScope s46) .none kV46 dc46 pm46 an46 cd46 ct46), sl46⟩) (c46 : codeIn K cd46 "_law_is_name" = true) (k46 : keepIn K (.ref f46) = true)
    (a47 : nsIn K mainGlobals "_law_is_amount" = some (some (.ref f47)))
    (l47 : K.lookup f47 = some ⟨oc47, od47, .func (fnOf "_law_is_amount" "_law_is_amount" (defArgs s47) (defBody s47) (defScope s47) .none kV47 dc47 pm47 an47 cd47 ct47), sl47⟩) (c47 : codeIn K cd47 "_law_is_amount" = true) (k47 : keepIn K (.ref f47) = true)
    (a48 : nsIn K mainGlobals "_law_right" = some (some (.ref f48)))
    (l48 : K.lookup f48 = some ⟨oc48, od48, .func (fnOf "_law_right" "_law_right" (defArgs s48) (defBody s48) (defScope s48) .none kV48 dc48 pm48 an48 cd48 ct48), sl48⟩) (c48 : codeIn K cd48 "_law_right" = true) (k48 : keepIn K (.ref f48) = true)
    (a49 : nsIn K mainGlobals "law" = some (some (.ref f49)))
    (l49 : K.lookup f49 = some ⟨oc49, od49, .func (fnOf "law" "law" (defArgs s49) (defBody s49) (defScope s49) .none kV49 dc49 pm49 an49 cd49 ct49), sl49⟩) (c49 : codeIn K cd49 "law" = true) (k49 : keepIn K (.ref f49) = true)
    (g_LETTERS : nsIn K mainGlobals "LETTERS" = some (some (.str "abcdefghijklmnopqrstuvwxyz" t_LETTERS)))
    (g_MOST_LETTERS : nsIn K mainGlobals "MOST_LETTERS" = some (some (.int (8) t_MOST_LETTERS)))
    (z_abs : nsIn K mainGlobals "abs" = some none)
    (z_all : nsIn K mainGlobals "all" = some none)
    (z_bool : nsIn K mainGlobals "bool" = some none)
    (z_divmod : nsIn K mainGlobals "divmod" = some none)
    (z_int : nsIn K mainGlobals "int" = some none)
    (z_isinstance : nsIn K mainGlobals "isinstance" = some none)
    (z_len : nsIn K mainGlobals "len" = some none)
    (z_max : nsIn K mainGlobals "max" = some none)
    (z_min : nsIn K mainGlobals "min" = some none)
    (z_range : nsIn K mainGlobals "range" = some none)
    (z_repr : nsIn K mainGlobals "repr" = some none)
    (z_str : nsIn K mainGlobals "str" = some none)
    : ∃ (CA : Nat → Option Addr) (FA : Nat → Addr) (FD : Nat → FuncData) (PS : Nat → List Str), GS G K mg CA T FA FD PS ∧ (∀ fid fd, T fid = some fd → DefOk G K FA FD PS fid fd) ∧ FA 49 = fa ∧ PS 49 = [("_law_script" : Str)] ∧ ∀ (s : Shared) (u : Value), BindsTo s (FD 49) ⟨[u], []⟩ [("_law_script", u)] := by
  have e := hfa.symm.trans (mg_of X Gn a49)
  have e2 : f49 = fa := by cases e; rfl
  subst e2
  refine ⟨fun _ => none, fun i => (List.lookup i [(2, f2), (3, f3), (4, f4), (5, f5), (25, f25), (26, f26), (29, f29), (43, f43), (44, f44), (45, f45), (46, f46), (47, f47), (48, f48), (49, f49)]).getD 0, fun i => (List.lookup i [(2, (fnOf "is_word" "is_word" (defArgs s2) (defBody s2) (defScope s2) .none kV2 dc2 pm2 an2 cd2 ct2)), (3, (fnOf "is_name" "is_name" (defArgs s3) (defBody s3) (defScope s3) .none kV3 dc3 pm3 an3 cd3 ct3)), (4, (fnOf "is_whole" "is_whole" (defArgs s4) (defBody s4) (defScope s4) .none kV4 dc4 pm4 an4 cd4 ct4)), (5, (fnOf "is_amount" "is_amount" (defArgs s5) (defBody s5) (defScope s5) .none kV5 dc5 pm5 an5 cd5 ct5)), (25, (fnOf "_law_pot" "_law_pot" (defArgs s25) (defBody s25) (defScope s25) .none kV25 dc25 pm25 an25 cd25 ct25)), (26, (fnOf "_law_take" "_law_take" (defArgs s26) (defBody s26) (defScope s26) .none kV26 dc26 pm26 an26 cd26 ct26)), (29, (fnOf "_law_among" "_law_among" (defArgs s29) (defBody s29) (defScope s29) .none kV29 dc29 pm29 an29 cd29 ct29)), (43, (fnOf "_law_text" "_law_text" (defArgs s43) (defBody s43) (defScope s43) .none kV43 dc43 pm43 an43 cd43 ct43)), (44, (fnOf "_law_number" "_law_number" (defArgs s44) (defBody s44) (defScope s44) .none kV44 dc44 pm44 an44 cd44 ct44)), (45, (fnOf "_law_odd" "_law_odd" (defArgs s45) (defBody s45) (defScope s45) .none kV45 dc45 pm45 an45 cd45 ct45)), (46, (fnOf "_law_is_name" "_law_is_name" (defArgs s46) (defBody s46) (defScope s46) .none kV46 dc46 pm46 an46 cd46 ct46)), (47, (fnOf "_law_is_amount" "_law_is_amount" (defArgs s47) (defBody s47) (defScope s47) .none kV47 dc47 pm47 an47 cd47 ct47)), (48, (fnOf "_law_right" "_law_right" (defArgs s48) (defBody s48) (defScope s48) .none kV48 dc48 pm48 an48 cd48 ct48)), (49, (fnOf "law" "law" (defArgs s49) (defBody s49) (defScope s49) .none kV49 dc49 pm49 an49 cd49 ct49))]).getD (fnOf "is_word" "is_word" (defArgs s2) (defBody s2) (defScope s2) .none kV2 dc2 pm2 an2 cd2 ct2), fun i => (List.lookup i (show List (Nat × List Str) from [(2, ["thing"]), (3, ["thing"]), (4, ["thing"]), (5, ["thing"]), (25, ["_law_script", "_law_k"]), (26, ["_law_pot_here", "_law_many"]), (29, ["_law_pot_here", "_law_some"]), (43, ["_law_pot_here"]), (44, ["_law_pot_here"]), (45, ["_law_pot_here"]), (46, ["_law_what"]), (47, ["_law_what"]), (48, ["_law_what"]), (49, ["_law_script"])])).getD [], ⟨?cf, ?fn, ?bnd, ?kb, ?cls, ?met, ?con, ?blt, ?eq⟩, ?B, rfl, rfl, fun s u => .of_eq rfl⟩
  case cf => exact ⟨fun c C h => (nomatch h), fun c C f h => (nomatch h)⟩
  case fn => exact Al2.mem (l := G.fns) (.cons (⟨⟨_, rfl⟩, mg_of X Gn a2, k2⟩) (.cons (⟨⟨_, rfl⟩, mg_of X Gn a3, k3⟩) (.cons (⟨⟨_, rfl⟩, mg_of X Gn a4, k4⟩) (.cons (⟨⟨_, rfl⟩, mg_of X Gn a5, k5⟩) (.cons (⟨⟨_, rfl⟩, mg_of X Gn a25, k25⟩) (.cons (⟨⟨_, rfl⟩, mg_of X Gn a26, k26⟩) (.cons (⟨⟨_, rfl⟩, mg_of X Gn a29, k29⟩) (.cons (⟨⟨_, rfl⟩, mg_of X Gn a43, k43⟩) (.cons (⟨⟨_, rfl⟩, mg_of X Gn a44, k44⟩) (.cons (⟨⟨_, rfl⟩, mg_of X Gn a45, k45⟩) (.cons (⟨⟨_, rfl⟩, mg_of X Gn a46, k46⟩) (.cons (⟨⟨_, rfl⟩, mg_of X Gn a47, k47⟩) (.cons (⟨⟨_, rfl⟩, mg_of X Gn a48, k48⟩) (.cons (⟨⟨_, rfl⟩, mg_of X Gn a49, k49⟩) .nil))))))))))))))
  case bnd => exact Al2.mem (l := G.bnds) (.cons (⟨[], .all fun us hl => match us, hl with | [_], _ => rfl, .nil⟩) (.cons (⟨[], .all fun us hl => match us, hl with | [_], _ => rfl, .nil⟩) (.cons (⟨[], .all fun us hl => match us, hl with | [_, _], _ => rfl, .nil⟩) (.cons (⟨[], .all fun us hl => match us, hl with | [_, _], _ => rfl, .nil⟩) (.cons (⟨[], .all fun us hl => match us, hl with | [_], _ => rfl, .nil⟩) (.cons (⟨[], .all fun us hl => match us, hl with | [_], _ => rfl, .nil⟩) (.cons (⟨[], .all fun us hl => match us, hl with | [_], _ => rfl, .nil⟩) (.cons (⟨[], .all fun us hl => match us, hl with | [_], _ => rfl, .nil⟩) (.cons (⟨[], .all fun us hl => match us, hl with | [_, _], _ => rfl, .nil⟩) (.cons (⟨[], .all fun us hl => match us, hl with | [_], _ => rfl, .nil⟩) (.cons (⟨[], .all fun us hl => match us, hl with | [_], _ => rfl, .nil⟩) (.cons (⟨[], .all fun us hl => match us, hl with | [_], _ => rfl, .nil⟩) (.cons (⟨[], .all fun us hl => match us, hl with | [_], _ => rfl, .nil⟩) .nil)))))))))))))
  case kb => exact Al3.mem (l := G.kbs) (.cons (fun s us ws _ h1 h2 => match us, ws, h1, h2 with | [], [_], _, _ => .of_eq rfl) (.cons (fun s us ws _ h1 h2 => match us, ws, h1, h2 with | [], [_], _, _ => .of_eq rfl) .nil))
  case cls => exact fun x c i h => nomatch h
  case met => exact fun c m fid h => nomatch h
  case con => exact Al2.mem (l := G.cons) (.cons (⟨_, mg_of X Gn g_LETTERS, ⟨_, rfl⟩⟩) (.cons (⟨_, mg_of X Gn g_MOST_LETTERS, ⟨_, rfl⟩⟩) .nil))
  case blt => exact Al.mem (l := G.blts) (.cons (mg_none_of X Gn z_abs) (.cons (mg_none_of X Gn z_all) (.cons (mg_none_of X Gn z_bool) (.cons (mg_none_of X Gn z_divmod) (.cons (mg_none_of X Gn z_int) (.cons (mg_none_of X Gn z_isinstance) (.cons (mg_none_of X Gn z_len) (.cons (mg_none_of X Gn z_max) (.cons (mg_none_of X Gn z_min) (.cons (mg_none_of X Gn z_range) (.cons (mg_none_of X Gn z_repr) (.cons (mg_none_of X Gn z_str) .nil))))))))))))
  case eq => exact fun c C h => nomatch h
  case B => exact fun fid fd h => Al2.mem (l := tbl) (.cons (⟨_, _, _, _, _, _, _, _, _, _, _, _, _, _, _, _, _, rfl, l2, c2, sc2, rfl, rfl, ck2⟩) (.cons (⟨_, _, _, _, _, _, _, _, _, _, _, _, _, _, _, _, _, rfl, l3, c3, sc3, rfl, rfl, ck3⟩) (.cons (⟨_, _, _, _, _, _, _, _, _, _, _, _, _, _, _, _, _, rfl, l4, c4, sc4, rfl, rfl, ck4⟩) (.cons (⟨_, _, _, _, _, _, _, _, _, _, _, _, _, _, _, _, _, rfl, l5, c5, sc5, rfl, rfl, ck5⟩) (.cons (⟨_, _, _, _, _, _, _, _, _, _, _, _, _, _, _, _, _, rfl, l25, c25, sc25, rfl, rfl, ck25⟩) (.cons (⟨_, _, _, _, _, _, _, _, _, _, _, _, _, _, _, _, _, rfl, l26, c26, sc26, rfl, rfl, ck26⟩) (.cons (⟨_, _, _, _, _, _, _, _, _, _, _, _, _, _, _, _, _, rfl, l29, c29, sc29, rfl, rfl, ck29⟩) (.cons (⟨_, _, _, _, _, _, _, _, _, _, _, _, _, _, _, _, _, rfl, l43, c43, sc43, rfl, rfl, ck43⟩) (.cons (⟨_, _, _, _, _, _, _, _, _, _, _, _, _, _, _, _, _, rfl, l44, c44, sc44, rfl, rfl, ck44⟩) (.cons (⟨_, _, _, _, _, _, _, _, _, _, _, _, _, _, _, _, _, rfl, l45, c45, sc45, rfl, rfl, ck45⟩) (.cons (⟨_, _, _, _, _, _, _, _, _, _, _, _, _, _, _, _, _, rfl, l46, c46, sc46, rfl, rfl, ck46⟩) (.cons (⟨_, _, _, _, _, _, _, _, _, _, _, _, _, _, _, _, _, rfl, l47, c47, sc47, rfl, rfl, ck47⟩) (.cons (⟨_, _, _, _, _, _, _, _, _, _, _, _, _, _, _, _, _, rfl, l48, c48, sc48, rfl, rfl, ck48⟩) (.cons (⟨_, _, _, _, _, _, _, _, _, _, _, _, _, _, _, _, _, rfl, l49, c49, sc49, rfl, rfl, ck49⟩) .nil)))))))))))))) fid fd (lookup_mem h)
end Mp
open PySem PySem.W PyProof.Rows
set_option maxRecDepth 100000 in
set_option maxHeartbeats 0 in
theorem PySem.Challenge.cw_ringclear_k15_names_and_amounts_of_anyth_holds : PySem.Challenge.rw_ringclear_k15_names_and_amounts_of_anyth.Holds := by
  w_on; o_law; k_head; (case hw => w_witness2)
  k_fill
  refine Mp.walk_law (G := Mp.G) (T := Mp.T) (lawId := 49) (lv := Mp.lawLv) (x := "_law_script") (l := PySem.Challenge.rw_ringclear_k15_names_and_amounts_of_anyth) rfl rfl ⟨rfl, by decide, by decide⟩ (fun w h Y => PySem.W.kIn_of Y) ⟨_, rfl⟩ Mp.law_true ?F
  case F =>
    intro w mg fa h KX G hmg
    refine' Mp.facts KX G hmg ?a2 ?l2 ?c2 ?k2 ?a3 ?l3 ?c3 ?k3 ?a4 ?l4 ?c4 ?k4 ?a5 ?l5 ?c5 ?k5 ?a25 ?l25 ?c25 ?k25 ?a26 ?l26 ?c26 ?k26 ?a29 ?l29 ?c29 ?k29 ?a43 ?l43 ?c43 ?k43 ?a44 ?l44 ?c44 ?k44 ?a45 ?l45 ?c45 ?k45 ?a46 ?l46 ?c46 ?k46 ?a47 ?l47 ?c47 ?k47 ?a48 ?l48 ?c48 ?k48 ?a49 ?l49 ?c49 ?k49 ?g_LETTERS ?g_MOST_LETTERS ?z_abs ?z_all ?z_bool ?z_divmod ?z_int ?z_isinstance ?z_len ?z_max ?z_min ?z_range ?z_repr ?z_str
    (case a2 => k_is)
    (case l2 => k_is)
    (case c2 => k_is)
    (case k2 => k_is)
    (case a3 => k_is)
    (case l3 => k_is)
    (case c3 => k_is)
    (case k3 => k_is)
    (case a4 => k_is)
    (case l4 => k_is)
    (case c4 => k_is)
    (case k4 => k_is)
    (case a5 => k_is)
    (case l5 => k_is)
    (case c5 => k_is)
    (case k5 => k_is)
    (case a25 => k_is)
    (case l25 => k_is)
    (case c25 => k_is)
    (case k25 => k_is)
    (case a26 => k_is)
    (case l26 => k_is)
    (case c26 => k_is)
    (case k26 => k_is)
    (case a29 => k_is)
    (case l29 => k_is)
    (case c29 => k_is)
    (case k29 => k_is)
    (case a43 => k_is)
    (case l43 => k_is)
    (case c43 => k_is)
    (case k43 => k_is)
    (case a44 => k_is)
    (case l44 => k_is)
    (case c44 => k_is)
    (case k44 => k_is)
    (case a45 => k_is)
    (case l45 => k_is)
    (case c45 => k_is)
    (case k45 => k_is)
    (case a46 => k_is)
    (case l46 => k_is)
    (case c46 => k_is)
    (case k46 => k_is)
    (case a47 => k_is)
    (case l47 => k_is)
    (case c47 => k_is)
    (case k47 => k_is)
    (case a48 => k_is)
    (case l48 => k_is)
    (case c48 => k_is)
    (case k48 => k_is)
    (case a49 => k_is)
    (case l49 => k_is)
    (case c49 => k_is)
    (case k49 => k_is)
    (case g_LETTERS => k_is)
    (case g_MOST_LETTERS => k_is)
    (case z_abs => k_is)
    (case z_all => k_is)
    (case z_bool => k_is)
    (case z_divmod => k_is)
    (case z_int => k_is)
    (case z_isinstance => k_is)
    (case z_len => k_is)
    (case z_max => k_is)
    (case z_min => k_is)
    (case z_range => k_is)
    (case z_repr => k_is)
    (case z_str => k_is)
