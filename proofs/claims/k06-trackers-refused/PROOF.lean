import PyProof.Rows.All
import Wide.All
import OpenK.AllK
import Wide.FinOn
import HandS.ForMost
import HandS.Wide
import HandS.IsInst
import HandS.Walk
import HandS.Zip
import HandS.ExcInit
import HandS.Defaults
import HandS.EndBits
import HandS.HeadEnd
import HandS.WordsExc
import HandS.Lambda
import HandS.TupAny
import HandS.TupMul
import HandS.SortInts
import HandS.Text
import HandS.Codes
import KE.KUnpackStar
import KE.KExcInit
import HandS.ExcField
import KE.KExcIs
import HandS.Star
import HandS.Property
import HandS.ClsMeth
import HandS.FStr
import PyProof.InstSpecial
import KE.KParD
import HandS.More
import KE.GoesZip
import KE.GoesMore
import HandS.Iter
import KE.GoesEnum
import KE.KTupSum
import HandS.Style
import HandS.RaiseMore
import HandS.HeadWalk
import PyProof.InstNe
import KE.KFmtOwn
import HandS.Small
import HandS.Finally
import KE.KAssignIn
import HandS.Head0
import HandS.Head1
import HandS.Head2
import HandS.HeadHook1
import HandS.HeadHook2
import HandS.HeadHook3
import HandS.HotCalls
import KE.KTryMore
import HandS.EndOwn
import KE.KStateDown
import PySem.Challenge.RW_ownchute_k06_trackers_refused
set_option Elab.async false
set_option autoImplicit false
set_option linter.all false
/-! EvA: a small evaluator of a part of Python over plain data: values, expressions, statements. -/
namespace Ev
/-- a text: its code points -/
abbrev Tx := List Nat
/-- a value: immutable data as trees; ref: an object of the mutable heap -/
inductive D where
  | non | bl (b : Bool) | int (i : Int) | str (s : Tx)
  | tup (ds : List D) | lst (ds : List D)
  | obj (c : Nat) (ks : List Tx) (ds : List D)
  | exc (c : Nat) (ks : List Tx) (ds : List D)
  | ref (a : Nat)
  | fro (ds : List D)
  | dct (ks ds : List D)
  | lams (ns : List Nat)
/-- a mutable object -/
inductive O where
  | lst (ds : List D) | dic (ks ds : List D) | ins (c : Nat) (ks : List Tx) (ds : List D) | gone | tbl
inductive Rs (α : Type) where
  | ok (a : α) (M : List O) | er | ex (d : D) (M : List O)
def Rs.bind {α β : Type} : Rs α → (α → List O → Rs β) → Rs β
  | .ok a M, f => f a M
  | .er, _ => .er
  | .ex d M, _ => .ex d M
/-- no exception is let through -/
def noX {α : Type} : Rs α → Rs α
  | .ok a M => .ok a M
  | _ => .er
inductive BOp where | add | sub | mul | fdiv | mod | pow
inductive COp where | eq | ne | lt | le | gt | ge | is | isn | inn | nin
inductive Cl where | int | bool | str | list | tuple | own (c : Nat) | ext (n : Nat)
/-- targets of loops: a name's slot, or several -/
inductive Pt where | nm (i : Nat) | tp (is : List Nat)
/-- what is walked: a value, a range, enumerate, zip -/
inductive Ik where | val | rng | enm | zip
inductive X where
  | var (i : Nat) | cst (d : D) | glo (i : Nat)
  | bin (o : BOp) (a b : X) | neg (a : X)
  | cmp (o : COp) (a b : X) | cmp2 (o p : COp) (a b c : X)
  | and (a b : X) | or (a b : X) | not (a : X) | ife (t a b : X)
  | tup (es : List X) | lst (h : Bool) (es : List X)
  | item (a i : X) | slc (a : X) (lo hi : List X)
  | attr (a : X) (f : Tx)
  | isi (a : X) (c : Cl) | isis (a : X) (cs : List Cl)
  | call (f : Nat) (es st : List X) (ks : List Tx) (vs : List X)
  | mk (c : Nat) (fz : Bool) (es st : List X) (ks : List Tx) (vs : List X)
  | meth (a : X) (m : Tx) (f : Nat) (es st : List X) (ks : List Tx) (vs : List X)
  | isc (a : X) (n : Nat) | oeq (a b : X) (f : Nat) | olen (a : X) (f : Nat) | orep (a : X) (f : Nat)
  | fld (a : X) (f : Tx) | prp (a : X) (f : Tx) (g : Nat) | ccst (c : Nat) (f : Tx)
  | dic (h : Bool) (ks : List Tx) (vs : List X) | key (a k : X)
  | fst (p : Tx) (a : X) (q : Tx)
  | bm (m : Nat) (a : X) (es : List X)
  | mkx (c : Nat) (kw : Bool) (es : List X)
  | blt (b : Nat) (es : List X)
  | lc (h : Bool) (p : Pt) (e : X) (k : Ik) (its ifs : List X)
  | dsp (t : Nat) (fl : List Bool) (es : List X)
  | rev (a : X)
  | gky (i : Nat) (k : X)
  | got (n : Nat) | why (n : Nat) | lams (ns : List Nat) | whys (a : X)
  | gc (a : X) | gct (a : X) | one (a b : X) (f : Nat)
/-- targets of an assignment to several -/
inductive Tg where
  | nm (i : Nat) | at (o : X) (f : Tx) | sb (o i : X)
inductive S where
  | ex (e : X) | asg (i : Nat) (e : X) | put (o i e : X) | ret (e : X)
  | iff (t : X) (a b : List S) | for (p : Pt) (k : Ik) (its : List X) (b : List S) | whl (t : X) (b : List S)
  | asl (i : Nat) (e : X)
  | atr (o : X) (f : Tx) (e : X)
  | una (is : List Nat) (e : X)
  | uns (i j : Nat) (e : X)
  | unx (ts : List Tg) (e : X)
  | aug (i : Nat) (o : BOp) (e : X)
  | fin (b f : List S)
  | putk (o k e : X)
  | putk2 (o k p q a b : X)
  | never
  | rai (c : Nat) (kw : Bool) (es : List X)
  | forg (p : Pt) (k : Ik) (its : List X) (b : List S) | gcs (s : S)
inductive Out where
  | nx (env : List (Option D)) (M : List O) | rt (d : D) (M : List O)
  | bk (env : List (Option D)) (M : List O) | ct (env : List (Option D)) (M : List O) | er | ex (d : D) (M : List O)
abbrev En := List (Option D)
/-- the largest length of lists and texts that is reckoned with -/
def lim : Nat := 1000000

/-! ### data -/
def txEq : Tx → Tx → Bool
  | [], [] => true
  | a :: x, b :: y => Nat.beq a b && txEq x y
  | _, _ => false
/-- a text that can be laid -/
def okTx : Tx → Bool
  | [] => true
  | c :: r => Nat.blt c 1000 && okTx r
mutual
/-- plain data, not deeper than n -/
def dat : Nat → D → Bool
  | _, .non => true
  | _, .bl _ => true
  | _, .int _ => true
  | _, .str s => okTx s
  | n + 1, .tup ds => dats n ds
  | n + 1, .lst ds => dats n ds
  | _, _ => false
def dats : Nat → List D → Bool
  | _, [] => true
  | n, d :: ds => dat n d && dats n ds
end
mutual
/-- == of data -/
def eqD : D → D → Bool
  | .non, .non => true
  | .bl a, .bl b => a == b
  | .bl a, .int j => decide ((if a then (1 : Int) else 0) = j)
  | .int i, .bl b => decide (i = (if b then (1 : Int) else 0))
  | .int i, .int j => decide (i = j)
  | .str s, .str t => txEq s t
  | .tup a, .tup b => eqDs a b
  | .lst a, .lst b => eqDs a b
  | _, _ => false
def eqDs : List D → List D → Bool
  | [], [] => true
  | a :: x, b :: y => eqD a b && eqDs x y
  | _, _ => false
end
/-- a mutable list seen as a list -/
def seen (M : List O) : D → D
  | .ref a => match M[a]? with
    | some (.lst ds) => .lst ds
    | _ => .ref a
  | d => d
/-- what can be walked: a list, a tuple -/
def itemsOf (M : List O) (d : D) : Option (List D) := match seen M d with
  | .lst ds => some ds
  | .tup ds => some ds
  | _ => none
/-- a list alone -/
def listOf (M : List O) (d : D) : Option (List D) := match seen M d with
  | .lst ds => some ds
  | _ => none
/-- the items of an immutable list or tuple -/
def fixed : D → Option (List D)
  | .lst ds => some ds
  | .tup ds => some ds
  | _ => none
/-- what can be cut: a list, the script -/
def sliceOf (M : List O) (d : D) : Option (List D) := match seen M d with
  | .lst ds => some ds
  | .fro ds => some ds
  | _ => none
def truth (M : List O) : D → Option Bool
  | .non => some false
  | .bl b => some b
  | _ => none
def flat : D → Bool
  | .non => true | .bl _ => true | .int _ => true | .str _ => true | _ => false
/-- x in xs, for flat things -/
def inD (x : D) : List D → Bool
  | [] => false
  | y :: ys => eqD y x || inD x ys
/-- the place of an index -/
def ixOf (n : Nat) (i : Int) : Option Nat := if 0 ≤ i then (if i.toNat < n then some i.toNat else none) else (if 0 ≤ (n : Int) + i then some ((n : Int) + i).toNat else none)
def big : Int := 18446744073709551616
def binop (o : BOp) (x y : D) (M : List O) : Rs D := match o, x, y with
  | .add, .int i, .int j => .ok (.int (i + j)) M
  | .sub, .int i, .int j => .ok (.int (i - j)) M
  | .mul, .int i, .int j => if (decide (-big < i) && decide (i < big)) || (decide (-big < j) && decide (j < big)) then .ok (.int (i * j)) M else .er
  | .fdiv, .int i, .int j => if decide (0 < j) && decide (j < 2 ^ 8000) then .ok (.int (i / j)) M else .er
  | .mod, .int i, .int j => if 0 < j then .ok (.int (i % j)) M else .er
  | .pow, .int i, .int j => if decide (0 ≤ j) && decide (j ≤ 1000) && decide (0 ≤ i) && decide (i < 1000) then .ok (.int (i ^ j.toNat)) M else .er
  | .add, .str s, .str t => if s.length + t.length ≤ lim then .ok (.str (s ++ t)) M else .er
  | .add, .lst a, .lst b => if a.length + b.length ≤ lim then .ok (.lst (a ++ b)) M else .er
  | .add, .tup a, .tup b => if a.length + b.length ≤ lim then .ok (.tup (a ++ b)) M else .er
  | .mul, .tup a, .int k => if decide (0 ≤ k) && decide (k ≤ 1000) && decide (a.length ≤ 1000) && !a.isEmpty then .ok (.tup (List.replicate k.toNat a).flatten) M else .er
  | .mul, .lst a, .int k => if decide (0 ≤ k) && decide (k ≤ 1000) && decide (a.length ≤ 1000) then .ok (.lst (List.replicate k.toNat a).flatten) M else .er
  | _, _, _ => .er
def cmpop (o : COp) (x y : D) (M : List O) : Rs D := match o with
  | .eq => if dat 60 (seen M x) && dat 60 (seen M y) then .ok (.bl (eqD (seen M x) (seen M y))) M else .er
  | .ne => if dat 60 (seen M x) && dat 60 (seen M y) then .ok (.bl (!eqD (seen M x) (seen M y))) M else .er
  | .lt => match x, y with
    | .int i, .int j => .ok (.bl (decide (i < j))) M
    | _, _ => .er
  | .le => match x, y with
    | .int i, .int j => .ok (.bl (decide (i ≤ j))) M
    | _, _ => .er
  | .gt => match x, y with
    | .int i, .int j => .ok (.bl (decide (j < i))) M
    | _, _ => .er
  | .ge => match x, y with
    | .int i, .int j => .ok (.bl (decide (j ≤ i))) M
    | _, _ => .er
  | .is => match y with
    | .non => .ok (.bl (match x with | .non => true | _ => false)) M
    | _ => .er
  | .isn => match y with
    | .non => .ok (.bl (match x with | .non => false | _ => true)) M
    | _ => .er
  | .inn => match x, y with
    | .str [c], .str t => .ok (.bl (t.any fun z => Nat.beq z c)) M
    | _, _ => match itemsOf M y with
    | some ds => if flat x && ds.all flat then .ok (.bl (inD x ds)) M else .er
    | none => .er
  | .nin => match itemsOf M y with
    | some ds => if flat x && ds.all flat then .ok (.bl (!inD x ds)) M else .er
    | none => .er
/-- a slice's bound as a place -/
def sx (n d : Nat) : Option Int → Nat
  | none => d
  | some v => if v < 0 then (v + (n : Int)).toNat else min v.toNat n
/-- the part lo:hi of a list -/
def cut (ds : List D) (lo hi : Option Int) : List D := (ds.drop (sx ds.length 0 lo)).take (sx ds.length ds.length hi - sx ds.length 0 lo)
/-- what is known of a class: its __init__, its methods and properties (defs by their numbers), its constants, the names that are no attributes of it -/
structure Cd where
  init : Nat
  mth : List (Tx × Nat)
  prp : List (Tx × Nat)
  cst : List (Tx × D)
  fld : List Tx
structure Ec where
  call : Nat → List D → List (Tx × D) → List O → Rs D
  glo : List D
  /-- an exception class: its name, its field's name if it has one -/
  exn : List (Option (Tx × Option Tx))
  /-- whether the exception class c is below another: its own classes, the built-in ones -/
  sub : Nat → Cl → Option Bool
  cls : List Cd
  fuel : Nat
  /-- a lambda's body -/
  lev : Nat → List (Option D) → List O → Rs D
  /-- the def that tells an error's field; whether all errors are caught -/
  ff : Nat
  xall : Bool
/-- the entry of a name -/
def look {α : Type} : List (Tx × α) → Tx → Option α
  | [], _ => none
  | (k, v) :: r, f => if txEq k f then some v else look r f
def hasT : List Tx → Tx → Bool
  | [], _ => false
  | k :: r, f => txEq k f || hasT r f
/-- an instance: its class, its fields -/
def insOf (M : List O) : D → Option (Nat × List Tx × List D)
  | .obj c ks ds => some (c, ks, ds)
  | .ref a => match M[a]? with
    | some (.ins c ks ds) => some (c, ks, ds)
    | _ => none
  | _ => none
/-- a dict -/
def dicOf (M : List O) : D → Option (List D × List D)
  | .dct ks ds => some (ks, ds)
  | .ref a => match M[a]? with
    | some (.dic ks ds) => some (ks, ds)
    | _ => none
  | _ => none
/-- a dict's value -/
def dget : List D → List D → D → Option D
  | k :: ks, d :: ds, x => if eqD k x then some d else dget ks ds x
  | _, _, _ => none
def hasK (ks : List D) (x : D) : Bool := ks.any fun k => eqD k x
def dmap : List D → List D → D → D → List D
  | k :: ks, d :: ds, x, v => (if eqD k x then v else d) :: dmap ks ds x v
  | _, _, _, _ => []
def dputK (ks : List D) (x : D) : List D := if hasK ks x then ks else ks ++ [x]
def dputV (ks ds : List D) (x v : D) : List D := if hasK ks x then dmap ks ds x v else ds ++ [v]
def dputs : List D → List D → List D → List D → List D × List D
  | x :: xs, v :: vs, ks, ds => dputs xs vs (dputK ks x) (dputV ks ds x v)
  | _, _, ks, ds => (ks, ds)
/-- a key that is reckoned with -/
def isKey : D → Bool
  | .str _ => true
  | .int _ => true
  | _ => false
/-- a field stored -/
def putF : List Tx → Tx → List Tx
  | k :: ks, f => if txEq k f then k :: ks else k :: putF ks f
  | [], f => [f]
def putFv : List Tx → List D → Tx → D → List D
  | k :: ks, d :: ds, f, v => if txEq k f then v :: ds else d :: putFv ks ds f v
  | _, _, _, v => [v]
def isA (C : Ec) (d : D) (c : Cl) : Option Bool := match c with
  | .own n => match d with
    | .exc k _ _ => C.sub k (.own n)
    | _ => none
  | .ext n => match d with
    | .exc k _ _ => C.sub k (.ext n)
    | _ => none
  | .int => match d with
    | .non => some false
    | .bl _ => some true
    | .int _ => some true
    | .str _ => some false
    | .tup _ => some false
    | .lst _ => some false
    | _ => none
  | .bool => match d with
    | .non => some false
    | .bl _ => some true
    | .int _ => some false
    | .str _ => some false
    | .tup _ => some false
    | .lst _ => some false
    | _ => none
  | .str => match d with
    | .non => some false
    | .bl _ => some false
    | .int _ => some false
    | .str _ => some true
    | .tup _ => some false
    | .lst _ => some false
    | _ => none
  | .list => match d with
    | .non => some false
    | .bl _ => some false
    | .int _ => some false
    | .str _ => some false
    | .tup _ => some false
    | .lst _ => some true
    | _ => none
  | .tuple => match d with
    | .non => some false
    | .bl _ => some false
    | .int _ => some false
    | .str _ => some false
    | .tup _ => some true
    | .lst _ => some false
    | _ => none
def isAny (C : Ec) (d : D) : List Cl → Option Bool
  | [] => some false
  | c :: cs => match isA C d c, isAny C d cs with
    | some p, some q => some (p || q)
    | _, _ => none
def allTrue : List D → Option Bool
  | [] => some true
  | .bl b :: r => (allTrue r).map (b && ·)
  | _ => none
def anyTrue : List D → Option Bool
  | [] => some false
  | .bl b :: r => (anyTrue r).map (b || ·)
  | _ => none
/-- an int's figures -/
def itx (i : Int) : Tx := (toString i).toList.map Char.toNat
/-- a field by its name -/
def field : List Tx → List D → Tx → Option D
  | k :: ks, d :: ds, f => if txEq k f then some d else field ks ds f
  | _, _, _ => none
def alloc (o : O) (M : List O) : Rs D := .ok (.ref M.length) (M ++ [o])
/-- a new dict: mutable or not -/
def mkD (h : Bool) (p : List D × List D) (M : List O) : Rs D := match h with
  | true => alloc (.dic p.1 p.2) M
  | false => .ok (.dct p.1 p.2) M
def bLen (ds : List D) (M : List O) : Rs D := match ds with
  | [.str s] => if s.length ≤ lim then .ok (.int s.length) M else .er
  | [d] => (match itemsOf M d with
    | some l => .ok (.int l.length) M
    | none => (match dicOf M d with
      | some (ks, _) => .ok (.int ks.length) M
      | none => .er))
  | _ => .er
/-- figures alone, at least one -/
def fig1 (c : Nat) : Bool := Nat.ble 48 c && Nat.ble c 57
def figs (s : Tx) : Bool := !s.isEmpty && s.all fig1
def figV (a : Nat) (s : Tx) : Nat := s.foldl (fun acc c => acc * 10 + (c - 48)) a
def bInt (ds : List D) (M : List O) : Rs D := match ds with
  | [.int i] => .ok (.int i) M
  | [.bl b] => .ok (.int (if b then 1 else 0)) M
  | [.str s] => if figs s && decide (s.length ≤ 18) then .ok (.int (figV 0 s)) M else .er
  | _ => .er
def bAll (ds : List D) (M : List O) : Rs D := match ds with
  | [d] => (match listOf M d with
    | some l => (match allTrue l with
      | some b => .ok (.bl b) M
      | none => .er)
    | none => .er)
  | _ => .er
def bStr (ds : List D) (M : List O) : Rs D := match ds with
  | [.int i] => if decide (-big < i) && decide (i < big) then .ok (.str (itx i)) M else .er
  | [.str x] => .ok (.str x) M
  | _ => .er
/-- list, as an immutable one -/
def bLst (ds : List D) (M : List O) : Rs D := match ds with
  | [d] => (match itemsOf M d with
    | some l => .ok (.lst l) M
    | none => .er)
  | _ => .er
/-- list, a new object -/
def bLsN (ds : List D) (M : List O) : Rs D := match ds with
  | [d] => (match itemsOf M d with
    | some l => alloc (.lst l) M
    | none => .er)
  | _ => .er
def bTup (ds : List D) (M : List O) : Rs D := match ds with
  | [d] => (match itemsOf M d with
    | some l => .ok (.tup l) M
    | none => .er)
  | _ => .er
def bAny (ds : List D) (M : List O) : Rs D := match ds with
  | [d] => (match listOf M d with
    | some l => (match anyTrue l with
      | some b => .ok (.bl b) M
      | none => .er)
    | none => .er)
  | _ => .er
def bDic (ds : List D) (M : List O) : Rs D := match ds with
  | [d] => (match dicOf M d with
    | some (ks, ds) => alloc (.dic ks ds) M
    | none => .er)
  | _ => .er
/-- the ints of a list -/
def intsOf : List D → Option (List Int)
  | [] => some []
  | .int i :: r => (intsOf r).map (i :: ·)
  | _ => none
def insI (i : Int) : List Int → List Int
  | [] => [i]
  | j :: r => if i ≤ j then i :: j :: r else j :: insI i r
def sortI : List Int → List Int
  | [] => []
  | i :: r => insI i (sortI r)
def bSorted (ds : List D) (M : List O) : Rs D := match ds with
  | [d] => (match listOf M d with
    | some l => (match intsOf l with
      | some ns => .ok (.lst ((sortI ns).map .int)) M
      | none => .er)
    | none => .er)
  | _ => .er
def bSum (ds : List D) (M : List O) : Rs D := match ds with
  | [d] => (match itemsOf M d with
    | some l => (match intsOf l with
      | some ns => .ok (.int ns.sum) M
      | none => .er)
    | none => .er)
  | _ => .er
def bMax (ds : List D) (M : List O) : Rs D := match ds with
  | [.int i, .int j] => .ok (.int (if j > i then j else i)) M
  | _ => .er
def bMin (ds : List D) (M : List O) : Rs D := match ds with
  | [.int i, .int j] => .ok (.int (if j < i then j else i)) M
  | _ => .er
def bltn (b : Nat) (ds : List D) (M : List O) : Rs D := match b with
  | 0 => bLen ds M
  | 1 => bInt ds M
  | 2 => bAll ds M
  | 3 => bStr ds M
  | 4 => bLst ds M
  | 5 => bLsN ds M
  | 6 => bTup ds M
  | 7 => bAny ds M
  | 8 => bDic ds M
  | 9 => bSorted ds M
  | 10 => bSum ds M
  | 11 => bMax ds M
  | 12 => bMin ds M
  | _ => .er
/-- the texts of a list -/
def strsOf : List D → Option (List Tx)
  | [] => some []
  | .str x :: r => (strsOf r).map (x :: ·)
  | _ => none
def joinC (a : Tx) : List Tx → Tx
  | [] => []
  | x :: r => match r with
    | [] => x
    | _ :: _ => x ++ (a ++ joinC a r)
def splC (c : Nat) : Tx → List Tx
  | [] => [[]]
  | x :: r => if Nat.beq x c then [] :: splC c r else match splC c r with
    | p :: ps => (x :: p) :: ps
    | [] => [[x]]
/-- the first place of an equal one -/
def idxD (x : D) : List D → Option Nat
  | [] => none
  | y :: ys => if eqD y x then some 0 else (idxD x ys).map (· + 1)
/-- methods of built-in types -/
def bmeth (m : Nat) (x : D) (ds : List D) (M : List O) : Rs D := match m, x, ds with
  | 0, .ref a, [d] => (match M[a]? with     -- append
    | some (.lst l) => if l.length < lim then .ok .non (M.set a (.lst (l ++ [d]))) else .er
    | _ => .er)
  | 1, .ref a, [] => (match M[a]? with      -- clear
    | some (.lst _) => .ok .non (M.set a (.lst []))
    | _ => .er)
  | 2, d, [k, v] => (match dicOf M d with   -- dict.get
    | some (ks, ds) => if isKey k then .ok ((dget ks ds k).getD v) M else .er
    | none => .er)
  | 6, .ref a, [.lst r] => (match M[a]? with     -- extend
    | some (.lst l) => if l.length + r.length ≤ lim then .ok .non (M.set a (.lst (l ++ r))) else .er
    | _ => .er)
  | 4, .str a, [d] => (match itemsOf M d with      -- str.join
    | some l => (match strsOf l with
      | some ys => if (ys.map List.length).sum + ys.length * a.length ≤ lim then .ok (.str (joinC a ys)) M else .er
      | none => .er)
    | none => .er)
  | 5, .str a, [.str [c]] => if Nat.blt c 256 && decide (a.length < lim) then .ok (.lst ((splC c a).map .str)) M else .er      -- str.split
  | 3, d, [x] => (match listOf M d with      -- list.index
    | some l => if flat x && l.all flat then (match idxD x l with
      | some j => .ok (.int j) M
      | none => .er) else .er
    | none => .er)
  | _, _, _ => .er
/-- the method is there -/
def bmOk (m : Nat) (x : D) (M : List O) : Bool := match m with
  | 2 => (dicOf M x).isSome
  | 3 => (listOf M x).isSome
  | 4 => (match x with | .str _ => true | _ => false)
  | 5 => (match x with | .str _ => true | _ => false)
  | _ => (match x with
    | .ref a => (match M[a]? with
      | some (.lst _) => true
      | _ => false)
    | _ => false)
def setPs : List Nat → List D → En → Option En
  | [], [], env => some env
  | i :: is, d :: ds, env => if i < env.length then setPs is ds (env.set i (some d)) else none
  | _, _, _ => none
def setP (p : Pt) (d : D) (env : En) : Option En := match p with
  | .nm i => if i < env.length then some (env.set i (some d)) else none
  | .tp is => match d with
    | .tup ds => setPs is ds env
    | _ => none
/-- the slots of a comprehension's own names forgotten -/
def wipeE (env : En) : List Nat → En
  | [] => env
  | i :: is => (wipeE env is).set i none
/-- a loop over items -/
def loop (run : En → List O → Out) (p : Pt) : List D → En → List O → Out
  | [], env, M => .nx env M
  | d :: ds, env, M => match setP p d env with
    | none => .er
    | some env1 => match run env1 M with
      | .nx env2 M2 => loop run p ds env2 M2
      | .ct env2 M2 => loop run p ds env2 M2
      | .bk env2 M2 => .nx env2 M2
      | .rt d M2 => .rt d M2
      | .er => .er
      | .ex d M2 => .ex d M2
def whl (test : En → List O → Rs D) (run : En → List O → Out) : Nat → En → List O → Out
  | 0, _, _ => .er
  | n + 1, env, M => match test env M with
    | .ok (.bl true) M1 => (match run env M1 with
      | .nx env2 M2 => whl test run n env2 M2
      | .ct env2 M2 => whl test run n env2 M2
      | .bk env2 M2 => .nx env2 M2
      | .rt d M2 => .rt d M2
      | .er => .er
      | .ex d M2 => .ex d M2)
    | .ok (.bl false) M1 => .nx env M1
    | .ex d M1 => .ex d M1
    | _ => .er
/-- a comprehension's turns: what is made so far at the left -/
def comp (elt : En → List O → Rs D) (tests : En → List O → Rs Bool) (p : Pt) : List D → List D → En → List O → Rs (List D)
  | [], acc, _, M => .ok acc M
  | d :: ds, acc, env, M => match setP p d env with
    | none => .er
    | some env1 => match tests env1 M with
      | .ok true M1 => (match elt env1 M1 with
        | .ok v M2 => if acc.length < lim then comp elt tests p ds (acc ++ [v]) env M2 else .er
        | _ => .er)
      | .ok false M1 => comp elt tests p ds acc env M1
      | _ => .er
def pairs : Int → List D → List D
  | _, [] => []
  | i, d :: ds => .tup [.int i, d] :: pairs (i + 1) ds
def zips : List D → List D → List D
  | a :: x, b :: y => .tup [a, b] :: zips x y
  | _, _ => []
def upto (lo : Int) : Nat → List D
  | 0 => []
  | n + 1 => .int lo :: upto (lo + 1) n
/-- a new list: mutable or not -/
def mkL (h : Bool) (l : List D) (M : List O) : Rs D := match h with
  | true => alloc (.lst l) M
  | false => .ok (.lst l) M
def pslots : Pt → List Nat
  | .nm i => [i]
  | .tp is => is
/-- what a walk gives -/
def walkOf (k : Ik) (ds : List D) : Option (List D) := match k, ds with
  | .val, [.dct ks _] => some ks
  | .val, [.str s] => some (s.map fun c => .str [c])
  | .val, [d] => fixed d
  | .rng, [.int n] => if n < 100000000 ∧ -100000000 < n then some (upto 0 n.toNat) else none
  | .rng, [.int a, .int b] => if a < 100000000 ∧ b < 100000000 ∧ -100000000 < a ∧ -100000000 < b then some (upto a (b - a).toNat) else none
  | .enm, [.lst l] => some (pairs 0 l)
  | .enm, [.tup l] => some (pairs 0 l)
  | .zip, [.lst a, .lst b] => some (zips a b)
  | .zip, [.tup a, .tup b] => some (zips a b)
  | .zip, [.tup a, .lst b] => some (zips a b)
  | _, _ => none
/-- what a star gives: nothing is starred, or one immutable thing -/
def starOf : List D → Option (List D)
  | [] => some []
  | [d] => fixed d
  | _ => none
/-- a new instance, from now on immutable if wanted -/
def made (fz : Bool) (a : Nat) (r : D) (M : List O) : Rs D := match r, fz, M[a]? with
  | .non, true, some (.ins c ks ds) => .ok (.obj c ks ds) (M.set a .gone)
  | .non, false, _ => .ok (.ref a) M
  | _, _, _ => .er
def hasM (l : List (Tx × Nat)) (m : Tx) (f : Nat) : Bool := l.any fun p => txEq p.1 m && Nat.beq p.2 f
/-- x.m is the def f -/
def canM (C : Ec) (M : List O) (x : D) (m : Tx) (f : Nat) : Bool := match insOf M x with
  | some (c, ks, _) => (match C.cls[c]? with
    | some cd => hasM cd.mth m f && !hasT ks m
    | none => false)
  | none => false
/-- type(x).m is the def f -/
def canS (C : Ec) (M : List O) (x : D) (m : Tx) (f : Nat) : Bool := match insOf M x with
  | some (c, _, _) => (match C.cls[c]? with
    | some cd => hasM cd.mth m f
    | none => false)
  | none => false
/-- x == y asks x: y is of its class, or plain data -/
def canE (C : Ec) (M : List O) (x y : D) (f : Nat) : Bool := canS C M x [95, 95, 101, 113, 95, 95] f && (match insOf M x, insOf M y with
  | some (c, _, _), some (k, _, _) => Nat.beq c k
  | some _, none => dat 60 (seen M y)
  | _, _ => false)
def canP (C : Ec) (M : List O) (x : D) (f : Tx) (g : Nat) : Bool := match insOf M x with
  | some (c, _, _) => (match C.cls[c]? with
    | some cd => hasM cd.prp f g
    | none => false)
  | none => false
def getF (C : Ec) (M : List O) (x : D) (f : Tx) : Option D := match insOf M x with
  | some (c, ks, ds) => (match C.cls[c]? with
    | some cd => if hasT cd.fld f then field ks ds f else none
    | none => none)
  | none => none
/-- isinstance(x, C) -/
def isC (C : Ec) (M : List O) (x : D) (n : Nat) : Option Bool := match insOf M x with
  | some (c, _, _) => if c < C.cls.length then some (Nat.beq c n) else none
  | none => if dat 60 (seen M x) then some false else none
/-- a slice's bound: left out, or an int -/
def bnd : List D → Option (Option Int)
  | [] => some none
  | [.int i] => some (some i)
  | _ => none
/-- what an item of a display gives -/
def spr (M : List O) (fl : List Bool) (d : D) : Option (List D) := match fl with
  | true :: _ => itemsOf M d
  | _ => some [d]
def mkX (t : Nat) (l : List D) (M : List O) : Rs D := match t with
  | 0 => .ok (.tup l) M
  | 1 => .ok (.lst l) M
  | _ => alloc (.lst l) M
/-- x[i] -/
def itS (M : List O) (s : Tx) (y : D) : Rs D := match y with
  | .int k => if decide (s.length ≤ lim) then (match ixOf s.length k with
    | some j => (match s[j]? with
      | some c => .ok (.str [c]) M
      | none => .er)
    | none => .er) else .er
  | _ => .er
def itL (M : List O) (x y : D) : Rs D := match itemsOf M x, y with
  | some ds, .int k => (match ixOf ds.length k with
    | some j => (match ds[j]? with
      | some d => .ok d M
      | none => .er)
    | none => .er)
  | _, _ => .er
def itD (M : List O) (x y : D) : Rs D := match x with
  | .str s => itS M s y
  | _ => itL M x y
/-- x[l:r] -/
def cutD (x : D) (l r : List D) (M : List O) : Rs D := match bnd l, bnd r with
  | some l, some r => (match x with
    | .tup ds => .ok (.tup (cut ds l r)) M
    | _ => (match sliceOf M x with
      | some ds => .ok (.lst (cut ds l r)) M
      | none => .er))
  | _, _ => .er
mutual
/-- all references lie below n -/
def bel (n : Nat) : D → Bool
  | .ref a => Nat.blt a n
  | .tup ds => bels n ds
  | .lst ds => bels n ds
  | .obj _ _ ds => bels n ds
  | .exc _ _ ds => bels n ds
  | .fro ds => bels n ds
  | .dct _ ds => bels n ds
  | _ => true
def bels (n : Nat) : List D → Bool
  | [] => true
  | d :: ds => bel n d && bels n ds
end
def belO (n : Nat) : O → Bool
  | .lst ds => bels n ds
  | .dic _ ds => bels n ds
  | .ins _ _ ds => bels n ds
  | _ => true
def belM (n : Nat) : List O → Bool
  | [] => true
  | o :: M => belO n o && belM n M
/-- the slots without references from n on -/
def belS (n : Nat) : Option D → Option D
  | some d => if bel n d then some d else none
  | none => none
def belE (n : Nat) : En → En
  | [] => []
  | o :: r => belS n o :: belE n r
/-- an evaluation on a heap of its own -/
def gcR (r : Rs D) (M : List O) : Rs D := match r with
  | .ok d _ => if bel 0 d then .ok d M else .er
  | .ex d _ => if bel 0 d then .ex d M else .er
  | .er => .er
/-- the new objects are forgotten -/
def gcT (n : Nat) (r : Rs D) : Rs D := match r with
  | .ok d M => if bel n d && belM n (M.take n) then .ok d (M.take n) else .er
  | .ex d M => .ex d M
  | .er => .er
def gcO (n : Nat) (o : Out) : Out := match o with
  | .nx env M => if belM n (M.take n) then .nx (belE n env) (M.take n) else .er
  | .ct env M => if belM n (M.take n) then .ct (belE n env) (M.take n) else .er
  | o => o
def tTold : Tx := [116, 111, 108, 100]
/-- the table of code objects is there -/
def hasTb : List O → Bool
  | .tbl :: _ => true
  | _ => false
/-- what a call returns, or the code of its error and its attributes -/
def gotR (C : Ec) (r : Rs D) : Rs D := match r with
  | .ok d M1 => .ok (.tup [.str tTold, d]) M1
  | .ex (.exc c ks ds) M1 => if C.xall then (match field ks ds [99, 111, 100, 101] with
    | some cd => (noX (C.call C.ff [.exc c ks ds] [] M1)).bind fun t M2 => .ok (.tup [cd, t]) M2
    | none => .er) else .er
  | _ => .er
def whyR (r : Rs D) : Rs D := r.bind fun p M => match p with
  | .tup [.str w, x] => if okTx w then (if txEq w tTold then .ok (.tup [.str tTold, .non]) M else .ok (.tup [.str w, x]) M) else .er
  | _ => .er
def whysR (C : Ec) (env : En) : List Nat → List D → List O → Rs (List D)
  | [], acc, M => .ok acc M
  | n :: ns, acc, M => (whyR (gotR C (C.lev n env M))).bind fun d M1 => if acc.length < lim then whysR C env ns (acc ++ [d]) M1 else .er
mutual
def ev (C : Ec) : X → En → List O → Rs D
  | .var i, env, M => match env[i]? with
    | some (some d) => .ok d M
    | _ => .er
  | .cst d, _, M => .ok d M
  | .glo i, _, M => match C.glo[i]? with
    | some (.dct _ _) => .er
    | some d => .ok d M
    | none => .er
  | .bin o a b, env, M => (ev C a env M).bind fun x M1 => (ev C b env M1).bind fun y M2 => binop o x y M2
  | .neg a, env, M => (ev C a env M).bind fun x M1 => match x with
    | .int i => .ok (.int (-i)) M1
    | _ => .er
  | .cmp o a b, env, M => (ev C a env M).bind fun x M1 => (ev C b env M1).bind fun y M2 => cmpop o x y M2
  | .cmp2 o p a b c, env, M => (ev C a env M).bind fun x M1 => (ev C b env M1).bind fun y M2 => (cmpop o x y M2).bind fun z M3 => match z with
    | .bl true => (ev C c env M3).bind fun w M4 => cmpop p y w M4
    | .bl false => .ok (.bl false) M3
    | _ => .er
  | .and a b, env, M => (ev C a env M).bind fun x M1 => match x with
    | .bl true => ev C b env M1
    | .bl false => .ok (.bl false) M1
    | _ => .er
  | .or a b, env, M => (ev C a env M).bind fun x M1 => match x with
    | .bl true => .ok (.bl true) M1
    | .bl false => ev C b env M1
    | _ => .er
  | .not a, env, M => (ev C a env M).bind fun x M1 => match x with
    | .bl b => .ok (.bl (!b)) M1
    | _ => .er
  | .ife t a b, env, M => (ev C t env M).bind fun x M1 => match x with
    | .bl true => ev C a env M1
    | .bl false => ev C b env M1
    | _ => .er
  | .tup es, env, M => (evs C es env M).bind fun ds M1 => if ds.length ≤ lim then .ok (.tup ds) M1 else .er
  | .lst h es, env, M => (evs C es env M).bind fun ds M1 => if ds.length ≤ lim then mkL h ds M1 else .er
  | .item a i, env, M => (ev C a env M).bind fun x M1 => (ev C i env M1).bind fun y M2 => itD M2 x y
  | .slc a lo hi, env, M => (ev C a env M).bind fun x M1 => (noX (evs C lo env M1)).bind fun l M2 => (noX (evs C hi env M2)).bind fun r M3 => cutD x l r M3
  | .attr a f, env, M => (ev C a env M).bind fun x M1 => match x with
    | .exc _ ks ds => (match field ks ds f with
      | some d => .ok d M1
      | none => .er)
    | _ => .er
  | .isi a c, env, M => (ev C a env M).bind fun x M1 => match isA C (seen M1 x) c with
    | some b => .ok (.bl b) M1
    | none => .er
  | .isis a cs, env, M => (ev C a env M).bind fun x M1 => match isAny C (seen M1 x) cs with
    | some b => .ok (.bl b) M1
    | none => .er
  | .call f es st ks vs, env, M => (evs C es env M).bind fun ds M1 => (evs C st env M1).bind fun ss M2 => (evs C vs env M2).bind fun ws M3 => match starOf ss with
    | some more => C.call f (ds ++ more) (ks.zip ws) M3
    | none => .er
  | .mk c fz es st ks vs, env, M => match C.cls[c]? with
    | none => .er
    | some cd => (evs C es env M).bind fun ds M1 => (evs C st env M1).bind fun ss M2 => (evs C vs env M2).bind fun ws M3 => match starOf ss with
      | some more => (C.call cd.init (.ref M3.length :: (ds ++ more)) (ks.zip ws) (M3 ++ [.ins c [] []])).bind fun r M4 => made fz M3.length r M4
      | none => .er
  | .meth a m f es st ks vs, env, M => (ev C a env M).bind fun x M1 => if canM C M1 x m f then (evs C es env M1).bind fun ds M2 => (evs C st env M2).bind fun ss M3 => (evs C vs env M3).bind fun ws M4 => match starOf ss with
    | some more => C.call f (x :: (ds ++ more)) (ks.zip ws) M4
    | none => .er
    else .er
  | .isc a n, env, M => (ev C a env M).bind fun x M1 => match isC C M1 x n with
    | some b => .ok (.bl b) M1
    | none => .er
  | .oeq a b f, env, M => (ev C a env M).bind fun x M1 => (ev C b env M1).bind fun y M2 => if canE C M2 x y f then (noX (C.call f [x, y] [] M2)).bind fun r M3 => match r with
    | .bl t => .ok (.bl t) M3
    | _ => .er
    else .er
  | .one a b f, env, M => (ev C a env M).bind fun x M1 => (ev C b env M1).bind fun y M2 => if canE C M2 x y f then (noX (C.call f [x, y] [] M2)).bind fun r M3 => match r with
    | .bl t => .ok (.bl (!t)) M3
    | _ => .er
    else .er
  | .olen a f, env, M => (ev C a env M).bind fun x M1 => if canS C M1 x [95, 95, 108, 101, 110, 95, 95] f then (noX (C.call f [x] [] M1)).bind fun r M2 => match r with
    | .int n => if decide (0 ≤ n) && decide (n < big / 4) then .ok (.int n) M2 else .er
    | _ => .er
    else .er
  | .orep a f, env, M => (ev C a env M).bind fun x M1 => if canS C M1 x [95, 95, 114, 101, 112, 114, 95, 95] f then (noX (C.call f [x] [] M1)).bind fun r M2 => match r with
    | .str s => .ok (.str s) M2
    | _ => .er
    else .er
  | .fld a f, env, M => (ev C a env M).bind fun x M1 => match getF C M1 x f with
    | some d => .ok d M1
    | none => .er
  | .prp a f g, env, M => (ev C a env M).bind fun x M1 => if canP C M1 x f g then noX (C.call g [x] [] M1) else .er
  | .ccst c f, _, M => match C.cls[c]? with
    | some cd => (match look cd.cst f with
      | some d => .ok d M
      | none => .er)
    | none => .er
  | .dic h ks vs, env, M => (noX (evs C vs env M)).bind fun ws M1 => mkD h (dputs (ks.map D.str) ws [] []) M1
  | .key a k, env, M => (ev C a env M).bind fun x M1 => (ev C k env M1).bind fun y M2 => match dicOf M2 x, isKey y with
    | some (ks, ds), true => (match dget ks ds y with
      | some d => .ok d M2
      | none => .er)
    | _, _ => .er
  | .fst p a q, env, M => (ev C a env M).bind fun x M1 => (bltn 3 [x] M1).bind fun y M2 => match y with
    | .str s => if p.length + s.length + q.length ≤ lim then .ok (.str (p ++ s ++ q)) M2 else .er
    | _ => .er
  | .bm m a es, env, M => (ev C a env M).bind fun x M1 => if bmOk m x M1 then (evs C es env M1).bind fun ds M2 => bmeth m x ds M2 else .er
  | .mkx c _ es, env, M => (evs C es env M).bind fun ds M1 => match C.exn[c]?, ds with
    | some (some (n, some f)), [d] => .ok (.exc c [f, [99, 111, 100, 101]] [d, .str n]) M1
    | some (some (n, none)), [] => .ok (.exc c [[99, 111, 100, 101]] [.str n]) M1
    | _, _ => .er
  | .blt b es, env, M => (evs C es env M).bind fun ds M1 => bltn b ds M1
  | .dsp t fl es, env, M => (evp C es fl env M).bind fun l M1 => if l.length ≤ lim then mkX t l M1 else .er
  | .rev a, env, M => (ev C a env M).bind fun x M1 => match x with
    | .tup l => if l.length ≤ 1000 then .ok (.tup l.reverse) M1 else .er
    | _ => .er
  | .gky i k, env, M => (ev C k env M).bind fun y M1 => match C.glo[i]?, y with
    | some (.dct ks ds), .str z => (match dget ks ds (.str z) with
      | some d => .ok d M1
      | none => .er)
    | _, _ => .er
  | .got n, env, M => if hasTb M then gotR C (C.lev n env M) else .er
  | .why n, env, M => if hasTb M then whyR (gotR C (C.lev n env M)) else .er
  | .lams ns, _, M => if hasTb M then .ok (.lams ns) M else .er
  | .whys a, env, M => (ev C a env M).bind fun x M1 => match x with
    | .lams ns => (whysR C env ns [] M1).bind fun l M2 => .ok (.lst l) M2
    | _ => .er
  | .gc a, env, M => gcR (ev C a (belE 0 env) []) M
  | .gct a, env, M => gcT M.length (ev C a env M)
  | .lc h p e k its ifs, env, M => (evs C its env M).bind fun ds M1 => match walkOf k ds with
    | some items => (comp (ev C e) (evT C ifs) p items [] (wipeE env (pslots p)) M1).bind fun l M2 => mkL h l M2
    | none => .er
termination_by structural x => x
def evs (C : Ec) : List X → En → List O → Rs (List D)
  | [], _, M => .ok [] M
  | e :: es, env, M => (ev C e env M).bind fun d M1 => (evs C es env M1).bind fun ds M2 => .ok (d :: ds) M2
termination_by structural x => x
def evp (C : Ec) : List X → List Bool → En → List O → Rs (List D)
  | [], _, _, M => .ok [] M
  | e :: es, fl, env, M => (ev C e env M).bind fun d M1 => match spr M1 fl d with
    | some l => (evp C es fl.tail env M1).bind fun r M2 => .ok (l ++ r) M2
    | none => .er
termination_by structural x => x
def evT (C : Ec) : List X → En → List O → Rs Bool
  | [], _, M => .ok true M
  | e :: es, env, M => (ev C e env M).bind fun d M1 => match d with
    | .bl true => evT C es env M1
    | .bl false => .ok false M1
    | _ => .er
termination_by structural x => x
end

/-- d[k] = v, and on -/
def putK (x y d : D) (M : List O) (k : List O → Out) : Out := match x, isKey y with
  | .ref a, true => (match M[a]? with
    | some (.dic ks ds) => if ks.length < lim then k (M.set a (.dic (dputK ks y) (dputV ks ds y d))) else .er
    | _ => .er)
  | _, _ => .er
/-- o.f = d, and on -/
def putA (C : Ec) (x : D) (f : Tx) (d : D) (M : List O) (k : List O → Out) : Out := match x with
  | .ref a => (match M[a]? with
    | some (.ins c ks ds) => (match C.cls[c]? with
      | some cd => if hasT cd.fld f && decide (ks.length < 900) then k (M.set a (.ins c (putF ks f) (putFv ks ds f d))) else .er
      | none => .er)
    | _ => .er)
  | _ => .er
/-- o[i] = d, a list, and on -/
def putL (x y d : D) (M : List O) (k : List O → Out) : Out := match x, y with
  | .ref a, .int j => (match M[a]? with
    | some (.lst l) => (match ixOf l.length j with
      | some n => k (M.set a (.lst (l.set n d)))
      | none => .er)
    | _ => .er)
  | _, _ => .er
/-- the targets, one after another -/
def stores (C : Ec) : List Tg → List D → En → List O → Out
  | [], [], env, M => .nx env M
  | .nm i :: ts, d :: ds, env, M => if i < env.length then stores C ts ds (env.set i (some d)) M else .er
  | .at o f :: ts, d :: ds, env, M => (match ev C o env M with
    | .ok x M1 => putA C x f d M1 fun M2 => stores C ts ds env M2
    | _ => .er)
  | .sb o i :: ts, d :: ds, env, M => (match ev C o env M with
    | .ok x M1 => (match ev C i env M1 with
      | .ok y M2 => putL x y d M2 fun M3 => stores C ts ds env M3
      | _ => .er)
    | _ => .er)
  | _, _, _, _ => .er
mutual
def exec (C : Ec) : S → En → List O → Out
  | .ex e, env, M => match ev C e env M with
    | .ok _ M1 => .nx env M1
    | .er => .er
    | .ex d M1 => .ex d M1
  | .asg i e, env, M => match ev C e env M with
    | .ok d M1 => if i < env.length then .nx (env.set i (some d)) M1 else .er
    | .er => .er
    | .ex d M1 => .ex d M1
  | .asl i e, env, M => match ev C e env M with
    | .ok d M1 => if i < env.length then .nx (env.set i (some d)) M1 else .er
    | .er => .er
    | .ex d M1 => .ex d M1
  | .put o i e, env, M => match ev C e env M with
    | .ok d M1 => (match ev C o env M1 with
      | .ok (.ref a) M2 => (match ev C i env M2 with
        | .ok (.int k) M3 => (match M3[a]? with
          | some (.lst ds) => (match ixOf ds.length k with
            | some j => .nx env (M3.set a (.lst (ds.set j d)))
            | none => .er)
          | _ => .er)
        | _ => .er)
      | _ => .er)
    | .er => .er
    | .ex d M1 => .ex d M1
  | .ret e, env, M => match ev C e env M with
    | .ok d M1 => .rt d M1
    | .er => .er
    | .ex d M1 => .ex d M1
  | .iff t a b, env, M => match ev C t env M with
    | .ok (.bl true) M1 => execs C a env M1
    | .ok (.bl false) M1 => execs C b env M1
    | .ex d M1 => .ex d M1
    | _ => .er
  | .for p k its b, env, M => match evs C its env M with
    | .ok ds M1 => (match walkOf k ds with
      | some items => loop (execs C b) p items env M1
      | none => .er)
    | .er => .er
    | .ex d M1 => .ex d M1
  | .forg p k its b, env, M => match evs C its env M with
    | .ok ds M1 => (match walkOf k ds with
      | some items => loop (fun env M => gcO M.length (execs C b env M)) p items env M1
      | none => .er)
    | .er => .er
    | .ex d M1 => .ex d M1
  | .gcs s, env, M => gcO M.length (exec C s env M)
  | .whl t b, env, M => whl (ev C t) (execs C b) C.fuel env M
  | .atr o f e, env, M => match ev C e env M with
    | .ok d M1 => (match ev C o env M1 with
      | .ok (.ref a) M2 => (match M2[a]? with
        | some (.ins c ks ds) => (match C.cls[c]? with
          | some cd => if hasT cd.fld f && decide (ks.length < 900) then .nx env (M2.set a (.ins c (putF ks f) (putFv ks ds f d))) else .er
          | none => .er)
        | _ => .er)
      | _ => .er)
    | .er => .er
    | .ex d M1 => .ex d M1
  | .una is e, env, M => match ev C e env M with
    | .ok d M1 => (match setP (.tp is) d env with
      | some env1 => .nx env1 M1
      | none => .er)
    | .er => .er
    | .ex d M1 => .ex d M1
  | .uns i j e, env, M => match ev C e env M with
    | .ok (.lst l) M1 => (match l.getLast? with
      | some d => if i < env.length && j < env.length then .nx ((env.set i (some (.lst l.dropLast))).set j (some d)) M1 else .er
      | none => .er)
    | .ex d M1 => .ex d M1
    | _ => .er
  | .unx ts e, env, M => match ev C e env M with
    | .ok (.tup ds) M1 => stores C ts ds env M1
    | .ex d M1 => .ex d M1
    | _ => .er
  | .aug i o e, env, M => match env[i]? with
    | some (some x) => (match ev C e env M with
      | .ok y M1 => (match x, y with
        | .int a, .int b => (match binop o (.int a) (.int b) M1 with
          | .ok d M2 => .nx (env.set i (some d)) M2
          | _ => .er)
        | _, _ => .er)
      | _ => .er)
    | _ => .er
  | .fin b f, env, M => match execs C b env M with
    | .nx env1 M1 => execs C f env1 M1
    | _ => .er
  | .putk o k e, env, M => match ev C e env M with
    | .ok d M1 => (match ev C o env M1 with
      | .ok x M2 => (match ev C k env M2 with
        | .ok y M3 => putK x y d M3 fun M4 => .nx env M4
        | _ => .er)
      | _ => .er)
    | .er => .er
    | .ex d M1 => .ex d M1
  | .putk2 o k p q a b, env, M => match ev C a env M with
    | .ok d M1 => (match ev C b env M1 with
      | .ok e M2 => (match ev C o env M2 with
        | .ok x M3 => (match ev C k env M3 with
          | .ok y M4 => putK x y d M4 fun M5 => (match ev C p env M5 with
            | .ok z M6 => (match ev C q env M6 with
              | .ok w M7 => putK z w e M7 fun M8 => .nx env M8
              | _ => .er)
            | _ => .er)
          | _ => .er)
        | _ => .er)
      | _ => .er)
    | .er => .er
    | .ex d M1 => .ex d M1
  | .never, _, _ => .er
  | .rai c _ es, env, M => match evs C es env M with
    | .ok ds M1 => (match C.exn[c]?, ds with
      | some (some (n, some f)), [d] => .ex (.exc c [f, [99, 111, 100, 101]] [d, .str n]) M1
      | some (some (n, none)), [] => .ex (.exc c [[99, 111, 100, 101]] [.str n]) M1
      | _, _ => .er)
    | .er => .er
    | .ex d M1 => .ex d M1
def execs (C : Ec) : List S → En → List O → Out
  | [], env, M => .nx env M
  | s :: r, env, M => match exec C s env M with
    | .nx env1 M1 => execs C r env1 M1
    | o => o
end
/-- a def: its positional parameters, its keyword-only ones with their defaults, whether it takes more of either kind, its slots -/
structure FD where
  pos : List Tx
  kwo : List (Tx × D)
  va : Bool
  kwa : Bool
  ns : Nat
  body : List S
structure Pg where
  fns : List FD
  glo : List D
  exn : List (Option (Tx × Option Tx))
  sub : Nat → Cl → Option Bool
  cls : List Cd
  fuel : Nat
  lam : List X
  ff : Nat
  xall : Bool
/-- keywords: those of parameters, further ones -/
def kwWalk (ps : List Tx) (kwa : Bool) : List (Tx × D) → List (Tx × D) → List (Tx × D) → Option (List (Tx × D) × List (Tx × D))
  | [], sl, ex => some (sl, ex)
  | (k, v) :: r, sl, ex => if hasT ps k then (match look sl k with
      | some _ => none
      | none => kwWalk ps kwa r (sl ++ [(k, v)]) ex)
    else if kwa then (if ex.any (fun p => txEq p.1 k) then none else kwWalk ps kwa r sl (ex ++ [(k, v)])) else none
def takeAll (sl : List (Tx × D)) : List Tx → Option (List D)
  | [] => some []
  | p :: r => match look sl p, takeAll sl r with
    | some d, some ds => some (d :: ds)
    | _, _ => none
def takeKw (sl : List (Tx × D)) : List (Tx × D) → List D
  | [] => []
  | (p, d) :: r => (look sl p).getD d :: takeKw sl r
/-- the parameters' values -/
def bindD (fd : FD) (ds : List D) (kws : List (Tx × D)) (M : List O) : Rs (List D) := match kwWalk (fd.pos ++ fd.kwo.map (·.1)) fd.kwa kws (fd.pos.zip ds) [] with
  | some (sl, ex) => (match takeAll sl fd.pos with
    | some xs => if (decide (ds.length ≤ fd.pos.length) || fd.va) && decide (ds.length ≤ lim) && decide (kws.length ≤ lim) then
        (let ys := xs ++ takeKw sl fd.kwo ++ (if fd.va then [.tup (ds.drop fd.pos.length)] else [])
         if fd.kwa then .ok (ys ++ [.dct (ex.map fun p => .str p.1) (ex.map (·.2))]) M else .ok ys M) else .er
    | none => .er)
  | none => .er
/-- a level's calls, a level's lambdas -/
abbrev Lv : Type := (Nat → List D → List (Tx × D) → List O → Rs D) × (Nat → En → List O → Rs D)
def mkC (P : Pg) (p : Lv) : Ec := ⟨p.1, P.glo, P.exn, P.sub, P.cls, P.fuel, p.2, P.ff, P.xall⟩
def callOf (P : Pg) (C : Ec) (f : Nat) (ds : List D) (kws : List (Tx × D)) (M : List O) : Rs D := match P.fns[f]? with
  | none => .er
  | some fd => (bindD fd ds kws M).bind fun xs M1 => match execs C fd.body (xs.map some ++ List.replicate (fd.ns - xs.length) none) M1 with
    | .nx _ M2 => .ok .non M2
    | .rt d M2 => .ok d M2
    | .ex d M2 => .ex d M2
    | _ => .er
def lvl (P : Pg) : Nat → Lv
  | 0 => (fun _ _ _ _ => .er, fun _ _ _ => .er)
  | n + 1 => (callOf P (mkC P (lvl P n)), fun m env M => match P.lam[m]? with
    | some x => ev (mkC P (lvl P n)) x env M
    | none => .er)
def callN (P : Pg) (n : Nat) : Nat → List D → List (Tx × D) → List O → Rs D := (lvl P n).1
end Ev


set_option autoImplicit false
set_option Elab.async false
set_option linter.all false
set_option maxRecDepth 100000
set_option maxHeartbeats 4000000
/-! EvB: what a value of the evaluator stands for; worlds. -/
namespace Ev
open PySem PySem.Spec PyProof.Rows L2

/-- the ground: the written part, the exception classes' addresses -/
structure G0 where
  K : PySem.W.Frag
  CA : Nat → Addr
  CC : Nat → Addr
  /-- the law's table of code objects, the name that these bear, a lambda of the law -/
  tp : Addr
  lq : Str
  lo : Nat → Addr → Addr → HO
/-- the ground with what is wanted of an exception that leaves -/
structure Gs extends G0 where
  E : L2.XK
instance : CoeOut Gs G0 := ⟨Gs.toG0⟩
/-- at a: an exception that is handled -/
def exq (a : Addr) (cls : Value) (d : Option Addr) : HO := .ext fun h => ∃ (oe : Obj) (vs : Array Value), h.get? a = some oe ∧ oe.cls = cls ∧ oe.dict = d ∧ oe.data = .fields vs
theorem exq_ok {P : Program} {w : World} {H : Hp} {h : Heap} {a : Addr} {cls : Value} {d : Option Addr} {oe : Obj} {vs : Array Value} (he : h.get? a = some oe) (hz : Zc cls d oe) (hd : oe.data = .fields vs) : ObjOk P w H h a (exq a cls d) :=
  ⟨⟨oe, vs, he, hz.1, hz.2, hd⟩, ⟨_, he⟩, fun h1 h2 z k => by
    obtain ⟨o, v, q, r⟩ := z
    exact ⟨o, v, k _ q, r⟩⟩
/-- a world: where mutable objects lie, what is immutable, what is locked -/
structure Wd where
  ρ : List Addr
  imm : Hp
  lck : Hp
/-- lambdas, each at its place -/
def LamsAt (lo : Nat → Addr → Addr → HO) (lq : Str) (H : Hp) : List Nat → List Addr → Prop
  | [], fs => fs = []
  | n :: ns, fs => ∃ f c r, fs = f :: r ∧ H f = some (lo n f c) ∧ H c = some (LamX.CodeO c lq) ∧ LamsAt lo lq H ns r
theorem LamsAt.mono {lo : Nat → Addr → Addr → HO} {lq : Str} {H H' : Hp} (h : ∀ p o, H p = some o → H' p = some o) : ∀ {ns : List Nat} {fs : List Addr}, LamsAt lo lq H ns fs → LamsAt lo lq H' ns fs
  | [], fs, e => e
  | n :: ns, fs, ⟨f, c, r, e, a, a2, b⟩ => ⟨f, c, r, e, h _ _ a, h _ _ a2, LamsAt.mono h b⟩
def sS (s : Tx) : Str := ⟨s.toArray⟩
def zipF : List Tx → List V → List (Str × V)
  | k :: ks, v :: vs => (sS k, v) :: zipF ks vs
  | _, _ => []
/-- a key of a dict -/
def keyOf : D → Option Key
  | .str s => some (.inr (sS s))
  | .int i => some (.inl i)
  | _ => none
def keysOk (ks : List D) : Bool := ks.all isKey
def kvsOf : List D → List V → List (Key × V)
  | k :: ks, v :: vs => ((keyOf k).getD (.inl 0), v) :: kvsOf ks vs
  | _, _ => []
/-- what the written part says of a class whose exceptions stand as values -/
structure XIs (K : PySem.W.Frag) (C : Addr) (ks : List Tx) : Prop where
  cl : (PySem.W.clsIn K C).isSome = true
  ga : PySem.W.findIn K (.ref C) "__getattribute__" = some (some (.builtin "BaseException.__getattribute__"))
  gg : PySem.W.findIn K (.ref C) "__getattr__" = some none
  be : PySem.W.subIn K (.ref C) (.type "BaseException") = some true
  hd : PySem.W.hasDictIn K C = true
  ca : PySem.W.findIn K (.ref C) "__class__" = some (some (.builtin "object.__class__"))
  cg : PySem.W.specialIn K (.builtin "object.__class__") "__get__" = some (some (.builtin "getset_descriptor.__get__"))
  ct : PySem.W.takesIn K (.builtin "object.__class__") = some true
  ob : PySem.W.mroIn K C (.type "object") = some true
  no : ∀ k ∈ ks, PySem.W.findIn K (.ref C) (sS k) = some none
mutual
def Rel (G : G0) (ω : Wd) : D → V → Prop
  | .non, v => v = .non
  | .bl b, v => v = .bl b
  | .int i, v => v = .int i
  | .str s, v => v = .str (sS s)
  | .tup ds, v => ∃ p vs, v = .ref p ∧ SqT G.K ω.imm p vs ∧ Rels G ω ds vs
  | .lst ds, v => ∃ p vs, v = .ref p ∧ ω.imm p = some (.lst vs) ∧ Rels G ω ds vs
  | .obj c ks ds, v => ∃ p dx vs, v = .ref p ∧ ω.imm p = some (.ins (G.CC c) dx (zipF ks vs)) ∧ ω.imm dx = some (.own p) ∧ ks.length = ds.length ∧ Rels G ω ds vs
  | .dct ks ds, v => ∃ p od vs, v = .ref p ∧ ω.imm p = some (.frz od (.dK (kvsOf ks vs))) ∧ keysOk ks = true ∧ ks.length = ds.length ∧ Rels G ω ds vs
  | .exc c ks ds, v => ∃ p dx fs vs, v = .ref p ∧ (ω.imm p = some (exo p (G.CA c) (some dx)) ∨ ω.imm p = some (exq p (.ref (G.CA c)) (some dx))) ∧ ω.imm dx = some (exd dx fs) ∧ (∀ f, fs.lookup f = (zipF ks vs).lookup f) ∧ ks.length = ds.length ∧ XIs G.K (G.CA c) ks ∧ Rels G ω ds vs
  | .ref a, v => ∃ p, ω.ρ[a]? = some p ∧ v = .ref p
  | .fro ds, v => ∃ p vs, v = .ref p ∧ SqL G.K ω.imm p vs ∧ Rels G ω ds vs
  | .lams ns, v => ∃ p fs, v = .ref p ∧ ω.imm p = some (.lst (fs.map V.ref)) ∧ LamsAt G.lo G.lq ω.imm ns fs
def Rels (G : G0) (ω : Wd) : List D → List V → Prop
  | [], vs => vs = []
  | d :: ds, vs => ∃ v r, vs = v :: r ∧ Rel G ω d v ∧ Rels G ω ds r
end
/-- a later world, whatever is locked -/
structure Le0 (ω ω' : Wd) : Prop where
  ρ : ∃ t, ω'.ρ = ω.ρ ++ t
  imm : ∀ p o, ω.imm p = some o → ω'.imm p = some o
theorem Le0.refl (ω : Wd) : Le0 ω ω := ⟨⟨[], by simp⟩, fun _ _ h => h⟩
theorem Le0.trans {a b c : Wd} (h : Le0 a b) (k : Le0 b c) : Le0 a c := by
  obtain ⟨t, e⟩ := h.ρ
  obtain ⟨u, f⟩ := k.ρ
  exact ⟨⟨t ++ u, by rw [f, e, List.append_assoc]⟩, fun p o q => k.imm p o (h.imm p o q)⟩
theorem Le0.at {a b : Wd} (h : Le0 a b) {i : Nat} {p : Addr} (e : a.ρ[i]? = some p) : b.ρ[i]? = some p := by
  obtain ⟨t, q⟩ := h.ρ
  rw [q, List.getElem?_append_left (List.getElem?_eq_some_iff.mp e).1]
  exact e
structure Le (ω ω' : Wd) : Prop where
  ρ : ∃ t, ω'.ρ = ω.ρ ++ t
  imm : ∀ p o, ω.imm p = some o → ω'.imm p = some o
  lck : ω'.lck = ω.lck
theorem Le.le0 {a b : Wd} (h : Le a b) : Le0 a b := ⟨h.ρ, h.imm⟩
theorem Le.refl (ω : Wd) : Le ω ω := ⟨⟨[], by simp⟩, fun _ _ h => h, rfl⟩
theorem Le.trans {a b c : Wd} (h : Le a b) (k : Le b c) : Le a c := by
  obtain ⟨t, e⟩ := h.ρ
  obtain ⟨u, f⟩ := k.ρ
  exact ⟨⟨t ++ u, by rw [f, e, List.append_assoc]⟩, fun p o q => k.imm p o (h.imm p o q), k.lck.trans h.lck⟩
theorem Le.at {a b : Wd} (h : Le a b) {i : Nat} {p : Addr} (e : a.ρ[i]? = some p) : b.ρ[i]? = some p := h.le0.at e
theorem sqT_mono {K : PySem.W.Frag} {H H' : Hp} {a : Addr} {xs : List V} (h : SqT K H a xs) (e : ∀ p o, H p = some o → H' p = some o) : SqT K H' a xs := by
  rcases h with (h | ⟨o, h⟩) | h
  · exact .inl (.inl (e _ _ h))
  · exact .inl (.inr ⟨o, e _ _ h⟩)
  · exact .inr h
theorem sqL_mono {K : PySem.W.Frag} {H H' : Hp} {a : Addr} {xs : List V} (h : SqL K H a xs) (e : ∀ p o, H p = some o → H' p = some o) : SqL K H' a xs := by
  rcases h with (h | ⟨o, h⟩) | h
  · exact .inl (.inl (e _ _ h))
  · exact .inl (.inr ⟨o, e _ _ h⟩)
  · exact .inr h
mutual
theorem Rel.mono0 {G : G0} {ω ω' : Wd} (h : Le0 ω ω') : ∀ (d : D) (v : V), Rel G ω d v → Rel G ω' d v
  | .non, v, r => by simpa [Rel] using r
  | .bl b, v, r => by simpa [Rel] using r
  | .int i, v, r => by simpa [Rel] using r
  | .str s, v, r => by simpa [Rel] using r
  | .tup ds, v, r => by
    rw [Rel] at r ⊢
    obtain ⟨p, vs, e, s, q⟩ := r
    exact ⟨p, vs, e, sqT_mono s h.imm, Rels.mono0 h ds vs q⟩
  | .lst ds, v, r => by
    rw [Rel] at r ⊢
    obtain ⟨p, vs, e, s, q⟩ := r
    exact ⟨p, vs, e, h.imm _ _ s, Rels.mono0 h ds vs q⟩
  | .fro ds, v, r => by
    rw [Rel] at r ⊢
    obtain ⟨p, vs, e, s, q⟩ := r
    exact ⟨p, vs, e, sqL_mono s h.imm, Rels.mono0 h ds vs q⟩
  | .obj c ks ds, v, r => by
    rw [Rel] at r ⊢
    obtain ⟨p, dx, vs, e, h1, h2, h3, q⟩ := r
    exact ⟨p, dx, vs, e, h.imm _ _ h1, h.imm _ _ h2, h3, Rels.mono0 h ds vs q⟩
  | .dct ks ds, v, r => by
    rw [Rel] at r ⊢
    obtain ⟨p, od, vs, e, h1, h2, h3, q⟩ := r
    exact ⟨p, od, vs, e, h.imm _ _ h1, h2, h3, Rels.mono0 h ds vs q⟩
  | .exc c ks ds, v, r => by
    rw [Rel] at r ⊢
    obtain ⟨p, dx, fs, vs, e, h1, h2, h3, h4, h5, q⟩ := r
    exact ⟨p, dx, fs, vs, e, h1.imp (h.imm _ _) (h.imm _ _), h.imm _ _ h2, h3, h4, h5, Rels.mono0 h ds vs q⟩
  | .lams ns, v, r => by
    rw [Rel] at r ⊢
    obtain ⟨p, fs, e, h1, h2⟩ := r
    exact ⟨p, fs, e, h.imm _ _ h1, h2.mono h.imm⟩
  | .ref a, v, r => by
    rw [Rel] at r ⊢
    obtain ⟨p, e, q⟩ := r
    exact ⟨p, h.at e, q⟩
theorem Rels.mono0 {G : G0} {ω ω' : Wd} (h : Le0 ω ω') : ∀ (ds : List D) (vs : List V), Rels G ω ds vs → Rels G ω' ds vs
  | [], vs, r => by simpa [Rels] using r
  | d :: ds, vs, r => by
    rw [Rels] at r ⊢
    obtain ⟨v, t, e, a, b⟩ := r
    exact ⟨v, t, e, Rel.mono0 h d v a, Rels.mono0 h ds t b⟩
end
theorem Rel.mono {G : G0} {ω ω' : Wd} (h : Le ω ω') (d : D) (v : V) (r : Rel G ω d v) : Rel G ω' d v := Rel.mono0 h.le0 d v r
theorem Rels.mono {G : G0} {ω ω' : Wd} (h : Le ω ω') (ds : List D) (vs : List V) (r : Rels G ω ds vs) : Rels G ω' ds vs := Rels.mono0 h.le0 ds vs r
theorem Rels.length {G : G0} {ω : Wd} : ∀ {ds : List D} {vs : List V}, Rels G ω ds vs → vs.length = ds.length
  | [], vs, r => by rw [Rels] at r; subst r; rfl
  | d :: ds, vs, r => by
    rw [Rels] at r
    obtain ⟨v, t, e, a, b⟩ := r
    subst e
    simp [Rels.length b]
theorem Rels.get {G : G0} {ω : Wd} : ∀ {ds : List D} {vs : List V} {i : Nat} {d : D}, Rels G ω ds vs → ds[i]? = some d → ∃ v, vs[i]? = some v ∧ Rel G ω d v
  | [], vs, i, d, r, e => by simp at e
  | x :: ds, vs, i, d, r, e => by
    rw [Rels] at r
    obtain ⟨v, t, ev, a, b⟩ := r
    subst ev
    cases i with
    | zero =>
      simp at e
      subst e
      exact ⟨v, rfl, a⟩
    | succ i =>
      have e' : ds[i]? = some d := by simpa using e
      obtain ⟨w, h1, h2⟩ := Rels.get b e'
      exact ⟨w, by simpa using h1, h2⟩
theorem Rels.getV {G : G0} {ω : Wd} : ∀ {ds : List D} {vs : List V} {i : Nat} {v : V}, Rels G ω ds vs → vs[i]? = some v → ∃ d, ds[i]? = some d ∧ Rel G ω d v
  | [], vs, i, v, r, e => by rw [Rels] at r; subst r; simp at e
  | x :: ds, vs, i, v, r, e => by
    rw [Rels] at r
    obtain ⟨w, t, ev, a, b⟩ := r
    subst ev
    cases i with
    | zero =>
      simp at e
      subst e
      exact ⟨x, rfl, a⟩
    | succ i =>
      have e' : t[i]? = some v := by simpa using e
      obtain ⟨y, h1, h2⟩ := Rels.getV b e'
      exact ⟨y, by simpa using h1, h2⟩
theorem Rels.append {G : G0} {ω : Wd} : ∀ {ds es : List D} {vs ws : List V}, Rels G ω ds vs → Rels G ω es ws → Rels G ω (ds ++ es) (vs ++ ws)
  | [], es, vs, ws, r, q => by rw [Rels] at r; subst r; simpa using q
  | x :: ds, es, vs, ws, r, q => by
    rw [Rels] at r
    obtain ⟨w, t, ev, a, b⟩ := r
    subst ev
    show Rels G ω (x :: (ds ++ es)) (w :: (t ++ ws))
    rw [Rels]
    exact ⟨w, t ++ ws, rfl, a, Rels.append b q⟩
theorem Rels.one {G : G0} {ω : Wd} {d : D} {v : V} (h : Rel G ω d v) : Rels G ω [d] [v] := by
  rw [Rels]
  exact ⟨v, [], rfl, h, by rw [Rels]⟩
theorem Rels.cons {G : G0} {ω : Wd} {d : D} {v : V} {ds : List D} {vs : List V} (h : Rel G ω d v) (t : Rels G ω ds vs) : Rels G ω (d :: ds) (v :: vs) := by
  rw [Rels]
  exact ⟨v, vs, rfl, h, t⟩
theorem Rels.nil {G : G0} {ω : Wd} : Rels G ω [] [] := by rw [Rels]
theorem Rels.set {G : G0} {ω : Wd} {d : D} {v : V} (h : Rel G ω d v) : ∀ {ds : List D} {vs : List V} (j : Nat), Rels G ω ds vs → Rels G ω (ds.set j d) (vs.set j v)
  | [], vs, j, r => by rw [Rels] at r; subst r; simpa using (Rels.nil (G := G) (ω := ω))
  | x :: ds, vs, j, r => by
    rw [Rels] at r
    obtain ⟨w, t, ev, a, b⟩ := r
    subst ev
    cases j with
    | zero => exact Rels.cons h b
    | succ j => exact Rels.cons a (Rels.set h j b)
theorem Rels.drop {G : G0} {ω : Wd} : ∀ {ds : List D} {vs : List V} (j : Nat), Rels G ω ds vs → Rels G ω (ds.drop j) (vs.drop j)
  | [], vs, j, r => by rw [Rels] at r; subst r; simpa using (Rels.nil (G := G) (ω := ω))
  | x :: ds, vs, j, r => by
    rw [Rels] at r
    obtain ⟨w, t, ev, a, b⟩ := r
    subst ev
    cases j with
    | zero => exact Rels.cons a b
    | succ j => simpa using Rels.drop j b
theorem Rels.take {G : G0} {ω : Wd} : ∀ {ds : List D} {vs : List V} (j : Nat), Rels G ω ds vs → Rels G ω (ds.take j) (vs.take j)
  | [], vs, j, r => by rw [Rels] at r; subst r; simpa using (Rels.nil (G := G) (ω := ω))
  | x :: ds, vs, j, r => by
    rw [Rels] at r
    obtain ⟨w, t, ev, a, b⟩ := r
    subst ev
    cases j with
    | zero => simpa using (Rels.nil (G := G) (ω := ω))
    | succ j => simpa using Rels.cons a (Rels.take j b)

/-- what a mutable object stands for -/
def ORel (G : G0) (ω : Wd) (p : Addr) : O → HO → Prop
  | .lst ds, ho => ∃ vs, ho = .lst vs ∧ Rels G ω ds vs
  | .dic ks ds, ho => ∃ vs, ho = .dK (kvsOf ks vs) ∧ keysOk ks = true ∧ ks.length = ds.length ∧ Rels G ω ds vs
  | .ins c ks ds, ho => ∃ dx vs, ho = .ins (G.CC c) dx (zipF ks vs) ∧ ω.imm dx = some (.own p) ∧ ks.length = ds.length ∧ Rels G ω ds vs
  | .gone, _ => False
  | .tbl, ho => p = G.tp ∧ ∃ ps, ho = .tbl ps
structure HRel (G : G0) (ω : Wd) (M : List O) (H : Hp) : Prop where
  imm : ∀ p o, ω.imm p = some o → H p = some o
  lck : ∀ p o, ω.lck p = some o → H p = some o
  len : ω.ρ.length = M.length
  obj : ∀ (a : Nat) o, M[a]? = some o → o ≠ .gone → ∃ p ho, ω.ρ[a]? = some p ∧ H p = some ho ∧ ORel G ω p o ho ∧ ω.imm p = none ∧ ω.lck p = none
  nd : ω.ρ.Nodup
  there : ∀ p ∈ ω.ρ, H p ≠ none
  dj : ∀ p o, ω.imm p = some o → ω.lck p = none
  nl : ∀ p ∈ ω.ρ, ω.lck p = none
  tab : ∀ a : Nat, M[a]? = some .tbl → LamX.TabS H G.tp G.lq
  lkd : ∀ p f, ω.lck p ≠ some (.ext f)
theorem tab_upd {H : Hp} {P p : Addr} {q : Str} {o u : HO} (t : LamX.TabS H P q) (e : H p = some o) (n1 : ∀ ps, o ≠ .tbl ps) (n2 : ∀ f, o ≠ .ext f) : LamX.TabS (upd H p u) P q := by
  obtain ⟨ps, h1, h2, h3⟩ := t
  refine ⟨ps, ?_, h2, fun pos cv hc => ?_⟩
  · rw [upd_ne (fun z => n1 ps (by rw [z, e] at h1; exact Option.some.inj h1))]
    exact h1
  · obtain ⟨c, e1, e2⟩ := h3 pos cv hc
    refine ⟨c, e1, ?_⟩
    rw [upd_ne (fun z => n2 _ (by rw [z, e] at e2; exact Option.some.inj e2))]
    exact e2
theorem tab_new {H : Hp} {P p : Addr} {q : Str} {u : HO} (t : LamX.TabS H P q) (n : H p = none) : LamX.TabS (upd H p u) P q := t.ext fun b o e => by rw [upd_ne (ne_of_none e n)]; exact e
theorem ORel.mono0 {G : G0} {ω ω' : Wd} (h : Le0 ω ω') {p : Addr} {o : O} {ho : HO} (r : ORel G ω p o ho) : ORel G ω' p o ho := by
  cases o with
  | lst ds =>
    obtain ⟨vs, e, q⟩ := r
    exact ⟨vs, e, Rels.mono0 h ds vs q⟩
  | dic ks ds =>
    obtain ⟨vs, e, k, l, q⟩ := r
    exact ⟨vs, e, k, l, Rels.mono0 h ds vs q⟩
  | ins c ks ds =>
    obtain ⟨dx, vs, e, k, l, q⟩ := r
    exact ⟨dx, vs, e, h.imm _ _ k, l, Rels.mono0 h ds vs q⟩
  | gone => exact r.elim
  | tbl => exact r
theorem ORel.mono {G : G0} {ω ω' : Wd} (h : Le ω ω') {p : Addr} {o : O} {ho : HO} (r : ORel G ω p o ho) : ORel G ω' p o ho := r.mono0 h.le0
def Wd.push (ω : Wd) (p : Addr) : Wd := { ω with ρ := ω.ρ ++ [p] }
def Wd.add (ω : Wd) (p : Addr) (o : HO) : Wd := { ω with imm := upd ω.imm p o }
section
variable {G : G0} {ω : Wd} {M : List O} {H : Hp} {p : Addr}
theorem HRel.immN (h : HRel G ω M H) (n : H p = none) : ω.imm p = none := by
  cases e : ω.imm p with
  | none => rfl
  | some o => rw [h.imm p o e] at n; cases n
theorem HRel.lckN (h : HRel G ω M H) (n : H p = none) : ω.lck p = none := by
  cases e : ω.lck p with
  | none => rfl
  | some o => rw [h.lck p o e] at n; cases n
theorem Le.push (ω : Wd) (p : Addr) : Le ω (ω.push p) := ⟨⟨[p], rfl⟩, fun _ _ h => h, rfl⟩
theorem Le.add {ω : Wd} {p : Addr} {o : HO} (n : ω.imm p = none) : Le ω (ω.add p o) := ⟨⟨[], by simp [Wd.add]⟩, fun q u h => by
  show upd ω.imm p o q = some u
  rw [upd_ne (ne_of_none h n)]
  exact h, rfl⟩
/-- a new immutable object -/
theorem HRel.addI {o : HO} (h : HRel G ω M H) (n : H p = none) : HRel G (ω.add p o) M (upd H p o) ∧ Le ω (ω.add p o) := by
  have le : Le ω (ω.add p o) := Le.add (h.immN n)
  refine ⟨⟨fun q u e => ?_, fun q u e => ?_, h.len, fun a u e ng => ?_, h.nd, fun q hq => ?_, fun q u e => ?_, h.nl, fun a e => tab_new (h.tab a e) n, h.lkd⟩, le⟩
  · have e' : upd ω.imm p o q = some u := e
    by_cases c : q = p
    · subst c
      rw [upd_same] at e' ⊢
      exact e'
    · rw [upd_ne c] at e' ⊢
      exact h.imm q u e'
  · have c : q ≠ p := ne_of_none (h.lck q u e) n
    rw [upd_ne c]
    exact h.lck q u e
  · obtain ⟨q, ho, e1, e2, e3, e4, e5⟩ := h.obj a u e ng
    have c : q ≠ p := ne_of_none e2 n
    refine ⟨q, ho, e1, by rw [upd_ne c]; exact e2, e3.mono le, ?_, e5⟩
    show upd ω.imm p o q = none
    rw [upd_ne c]
    exact e4
  · by_cases c : q = p
    · subst c
      rw [upd_same]
      exact fun z => nomatch z
    · rw [upd_ne c]
      exact h.there q hq
  · have e' : upd ω.imm p o q = some u := e
    by_cases c : q = p
    · subst c
      exact h.lckN n
    · rw [upd_ne c] at e'
      exact h.dj q u e'
/-- a new mutable object -/
theorem HRel.pushM {o : O} {ho : HO} (h : HRel G ω M H) (n : H p = none) (r : ORel G ω p o ho) (nt : o ≠ .tbl := by intro z; cases z) : HRel G (ω.push p) (M ++ [o]) (upd H p ho) ∧ Le ω (ω.push p) := by
  have le := Le.push ω p
  have np : p ∉ ω.ρ := fun z => h.there p z n
  refine ⟨⟨fun q u e => ?_, fun q u e => ?_, ?_, fun a u e ng => ?_, ?_, fun q hq => ?_, h.dj, fun q hq => (List.mem_append.mp (show q ∈ ω.ρ ++ [p] from hq)).elim (h.nl q) (fun z => by simp at z; subst z; exact h.lckN n), fun a e => ?_, h.lkd⟩, le⟩
  · rw [upd_ne (ne_of_none (h.imm q u e) n)]
    exact h.imm q u e
  · rw [upd_ne (ne_of_none (h.lck q u e) n)]
    exact h.lck q u e
  · show (ω.ρ ++ [p]).length = _
    rw [List.length_append, List.length_append, h.len]
    rfl
  · by_cases c : a < M.length
    · rw [List.getElem?_append_left c] at e
      obtain ⟨q, hq, e1, e2, e3, e4, e5⟩ := h.obj a u e ng
      refine ⟨q, hq, le.at e1, by rw [upd_ne (ne_of_none e2 n)]; exact e2, e3.mono le, e4, e5⟩
    · rw [List.getElem?_append_right (by omega)] at e
      have ea : a = M.length := by
        cases z : a - M.length with
        | zero => omega
        | succ k => rw [z] at e; simp at e
      subst ea
      simp at e
      subst e
      refine ⟨p, ho, ?_, upd_same, r.mono le, h.immN n, h.lckN n⟩
      show (ω.ρ ++ [p])[M.length]? = some p
      rw [← h.len]
      simp
  · show (ω.ρ ++ [p]).Nodup
    rw [List.nodup_append]
    refine ⟨h.nd, by simp, fun a ha b hb => ?_⟩
    simp at hb
    subst hb
    exact fun z => np (z ▸ ha)
  · rcases List.mem_append.mp (show q ∈ ω.ρ ++ [p] from hq) with z | z
    · have c : q ≠ p := fun y => np (by rw [← y]; exact z)
      rw [upd_ne c]
      exact h.there q z
    · simp at z
      subst z
      rw [upd_same]
      exact fun z => nomatch z
  · by_cases c : a < M.length
    · rw [List.getElem?_append_left c] at e
      exact tab_new (h.tab a e) n
    · rw [List.getElem?_append_right (by omega)] at e
      cases z : a - M.length with
      | zero => rw [z] at e; simp at e; exact absurd e nt
      | succ k => rw [z] at e; simp at e
/-- a mutable object is changed -/
theorem HRel.setM {a : Nat} {o o' : O} {ho' : HO} (h : HRel G ω M H) (e : M[a]? = some o) (ng : o ≠ .gone) (ep : ω.ρ[a]? = some p) (r : ORel G ω p o' ho') (nt : o ≠ .tbl := by intro z; cases z) (nt' : o' ≠ .tbl := by intro z; cases z) : HRel G ω (M.set a o') (upd H p ho') := by
  obtain ⟨p', ho, e1, e2, e3, e4, e5⟩ := h.obj a o e ng
  rw [ep] at e1
  cases e1
  have hN : ∀ b : Nat, ω.ρ[b]? = some p → b = a := fun b hb => by
    obtain ⟨l1, q1⟩ := List.getElem?_eq_some_iff.mp hb
    obtain ⟨l2, q2⟩ := List.getElem?_eq_some_iff.mp ep
    exact (List.getElem_inj h.nd).mp (q1.trans q2.symm)
  refine ⟨fun q u f => ?_, fun q u f => ?_, by rw [List.length_set]; exact h.len, fun b u f ng' => ?_, h.nd, fun q hq => ?_, h.dj, h.nl, fun b f => ?_, h.lkd⟩
  · have c : q ≠ p := fun z => by rw [z, e4] at f; cases f
    rw [upd_ne c]
    exact h.imm q u f
  · have c : q ≠ p := fun z => by rw [z, e5] at f; cases f
    rw [upd_ne c]
    exact h.lck q u f
  · by_cases c : b = a
    · subst c
      rw [List.getElem?_set_self (List.getElem?_eq_some_iff.mp e).1] at f
      cases f
      exact ⟨p, ho', ep, upd_same, r, e4, e5⟩
    · rw [List.getElem?_set_ne (fun z => c z.symm)] at f
      obtain ⟨q, hq, f1, f2, f3, f4, f5⟩ := h.obj b u f ng'
      refine ⟨q, hq, f1, ?_, f3, f4, f5⟩
      have c2 : q ≠ p := fun z => c (hN b (by rw [← z]; exact f1))
      rw [upd_ne c2]
      exact f2
  · by_cases c : q = p
    · subst c
      rw [upd_same]
      exact fun z => nomatch z
    · rw [upd_ne c]
      exact h.there q hq
  · by_cases c : b = a
    · subst c
      rw [List.getElem?_set_self (List.getElem?_eq_some_iff.mp e).1] at f
      cases f
      exact absurd rfl nt'
    · rw [List.getElem?_set_ne (fun z => c z.symm)] at f
      have t := h.tab b f
      cases o with
      | lst ds =>
        obtain ⟨vs, z, _⟩ := e3
        exact tab_upd t (e2.trans (by rw [z])) (fun _ z => by cases z) (fun _ z => by cases z)
      | dic ks ds =>
        obtain ⟨vs, z, _⟩ := e3
        exact tab_upd t (e2.trans (by rw [z])) (fun _ z => by cases z) (fun _ z => by cases z)
      | ins c ks ds =>
        obtain ⟨dx, vs, z, _⟩ := e3
        exact tab_upd t (e2.trans (by rw [z])) (fun _ z => by cases z) (fun _ z => by cases z)
      | gone => exact absurd rfl ng
      | tbl => exact absurd rfl nt
end

/-! ### locks -/
def Wd.lock (ω : Wd) (p : Addr) (o : HO) : Wd := { ω with lck := upd ω.lck p o }
theorem Le0.lock (ω : Wd) (p : Addr) (o : HO) : Le0 ω (ω.lock p o) := ⟨⟨[], by simp [Wd.lock]⟩, fun _ _ h => h⟩
section
variable {G : G0} {ω : Wd} {M : List O} {H : Hp} {p : Addr} {o o' : HO}
/-- a new object, locked -/
theorem HRel.lockNew (h : HRel G ω M H) (n : H p = none) (nx : ∀ f, o ≠ .ext f := by intro _ z; cases z) : HRel G (ω.lock p o) M (upd H p o) := by
  refine ⟨fun q u e => ?_, fun q u e => ?_, h.len, fun a u e ng => ?_, h.nd, fun q hq => ?_, fun q u e => ?_, fun q hq => ?_, fun a e => tab_new (h.tab a e) n, fun q f z => by
    have z' : upd ω.lck p o q = some (.ext f) := z
    by_cases c : q = p
    · subst c
      rw [upd_same] at z'
      exact nx f (Option.some.inj z')
    · rw [upd_ne c] at z'
      exact h.lkd q f z'⟩
  · rw [upd_ne (ne_of_none (h.imm q u e) n)]
    exact h.imm q u e
  · have e' : upd ω.lck p o q = some u := e
    by_cases c : q = p
    · subst c
      rw [upd_same] at e' ⊢
      exact e'
    · rw [upd_ne c] at e' ⊢
      exact h.lck q u e'
  · obtain ⟨q, ho, e1, e2, e3, e4, e5⟩ := h.obj a u e ng
    have c : q ≠ p := ne_of_none e2 n
    refine ⟨q, ho, e1, by rw [upd_ne c]; exact e2, e3.mono0 (Le0.lock ω p o), e4, ?_⟩
    show upd ω.lck p o q = none
    rw [upd_ne c]
    exact e5
  · by_cases c : q = p
    · subst c
      rw [upd_same]
      exact fun z => nomatch z
    · rw [upd_ne c]
      exact h.there q hq
  · have c : q ≠ p := ne_of_none (h.imm q u e) n
    show upd ω.lck p o q = none
    rw [upd_ne c]
    exact h.dj q u e
  · show upd ω.lck p o q = none
    have c : q ≠ p := fun z => h.there q hq (by rw [z]; exact n)
    rw [upd_ne c]
    exact h.nl q hq
/-- a locked object is changed by its owner -/
theorem HRel.relock (h : HRel G ω M H) (l : ω.lck p = some o) (n1 : ∀ ps, o ≠ .tbl ps := by intro _ z; cases z) (n2 : ∀ f, o ≠ .ext f := by intro _ z; cases z) (nx : ∀ f, o' ≠ .ext f := by intro _ z; cases z) : HRel G (ω.lock p o') M (upd H p o') := by
  refine ⟨fun q u e => ?_, fun q u e => ?_, h.len, fun a u e ng => ?_, h.nd, fun q hq => ?_, fun q u e => ?_, fun q hq => ?_, fun a e => tab_upd (h.tab a e) (h.lck _ _ l) n1 n2, fun q f z => by
    have z' : upd ω.lck p o' q = some (.ext f) := z
    by_cases c : q = p
    · subst c
      rw [upd_same] at z'
      exact nx f (Option.some.inj z')
    · rw [upd_ne c] at z'
      exact h.lkd q f z'⟩
  · have c : q ≠ p := fun z => by
      have := h.dj q u e
      rw [z, l] at this
      cases this
    rw [upd_ne c]
    exact h.imm q u e
  · have e' : upd ω.lck p o' q = some u := e
    by_cases c : q = p
    · subst c
      rw [upd_same] at e' ⊢
      exact e'
    · rw [upd_ne c] at e' ⊢
      exact h.lck q u e'
  · obtain ⟨q, ho, e1, e2, e3, e4, e5⟩ := h.obj a u e ng
    have c : q ≠ p := fun z => by rw [z, l] at e5; cases e5
    refine ⟨q, ho, e1, by rw [upd_ne c]; exact e2, e3.mono0 (Le0.lock ω p o'), e4, ?_⟩
    show upd ω.lck p o' q = none
    rw [upd_ne c]
    exact e5
  · by_cases c : q = p
    · subst c
      rw [upd_same]
      exact fun z => nomatch z
    · rw [upd_ne c]
      exact h.there q hq
  · show upd ω.lck p o' q = none
    have c : q ≠ p := fun z => by
      have := h.dj q u e
      rw [z, l] at this
      cases this
    rw [upd_ne c]
    exact h.dj q u e
  · show upd ω.lck p o' q = none
    have c : q ≠ p := fun z => by
      have := h.nl q hq
      rw [z, l] at this
      cases this
    rw [upd_ne c]
    exact h.nl q hq
/-- the lock goes, the object stands for ever -/
theorem HRel.unlockI {l0 : Hp} (h : HRel G ω M H) (l : ω.lck = upd l0 p o) (l1 : l0 p = none) : HRel G { ω with imm := upd ω.imm p o, lck := l0 } M H ∧ Le0 ω { ω with imm := upd ω.imm p o, lck := l0 } := by
  have lp : ω.lck p = some o := by rw [l, upd_same]
  have nr : p ∉ ω.ρ := fun z => by
    have := h.nl p z
    rw [lp] at this
    cases this
  have ip : ω.imm p = none := by
    cases e : ω.imm p with
    | none => rfl
    | some u =>
      have := h.dj p u e
      rw [lp] at this
      cases this
  have le : Le0 ω { ω with imm := upd ω.imm p o, lck := l0 } := ⟨⟨[], by simp⟩, fun q u e => by
    show upd ω.imm p o q = some u
    rw [upd_ne (ne_of_none e ip)]
    exact e⟩
  refine ⟨⟨fun q u e => ?_, fun q u e => ?_, h.len, fun a u e ng => ?_, h.nd, h.there, fun q u e => ?_, fun q hq => ?_, h.tab, fun q f z => by
    have z' : l0 q = some (.ext f) := z
    have c : q ≠ p := ne_of_none z' l1
    exact h.lkd q f (by rw [l, upd_ne c]; exact z')⟩, le⟩
  · have e' : upd ω.imm p o q = some u := e
    by_cases c : q = p
    · subst c
      rw [upd_same] at e'
      cases e'
      exact h.lck q _ lp
    · rw [upd_ne c] at e'
      exact h.imm q u e'
  · have e' : l0 q = some u := e
    have c : q ≠ p := ne_of_none e' l1
    exact h.lck q u (by rw [l, upd_ne c]; exact e')
  · obtain ⟨q, ho, e1, e2, e3, e4, e5⟩ := h.obj a u e ng
    have c : q ≠ p := fun z => nr (by rw [← z]; exact List.mem_of_getElem? e1)
    refine ⟨q, ho, e1, e2, e3.mono0 le, ?_, ?_⟩
    · show upd ω.imm p o q = none
      rw [upd_ne c]
      exact e4
    · show l0 q = none
      rw [l, upd_ne c] at e5
      exact e5
  · show l0 q = none
    have e' : upd ω.imm p o q = some u := e
    by_cases c : q = p
    · subst c
      exact l1
    · rw [upd_ne c] at e'
      have := h.dj q u e'
      rw [l, upd_ne c] at this
      exact this
  · show l0 q = none
    have c : q ≠ p := fun z => nr (by rw [← z]; exact hq)
    have := h.nl q hq
    rw [l, upd_ne c] at this
    exact this
/-- the lock goes, the object becomes a mutable one -/
theorem HRel.unlockM {l0 : Hp} {ob : O} (h : HRel G ω M H) (l : ω.lck = upd l0 p o) (l1 : l0 p = none) (r : ORel G ω p ob o) (nt : ob ≠ .tbl := by intro z; cases z) : HRel G { ω with ρ := ω.ρ ++ [p], lck := l0 } (M ++ [ob]) H ∧ Le0 ω { ω with ρ := ω.ρ ++ [p], lck := l0 } := by
  have lp : ω.lck p = some o := by rw [l, upd_same]
  have nr : p ∉ ω.ρ := fun z => by
    have := h.nl p z
    rw [lp] at this
    cases this
  have ip : ω.imm p = none := by
    cases e : ω.imm p with
    | none => rfl
    | some u =>
      have := h.dj p u e
      rw [lp] at this
      cases this
  have le : Le0 ω { ω with ρ := ω.ρ ++ [p], lck := l0 } := ⟨⟨[p], rfl⟩, fun q u e => e⟩
  refine ⟨⟨h.imm, fun q u e => ?_, ?_, fun a u e ng => ?_, ?_, fun q hq => ?_, fun q u e => ?_, fun q hq => ?_, fun a e => ?_, fun q f z => by
    have z' : l0 q = some (.ext f) := z
    have c : q ≠ p := ne_of_none z' l1
    exact h.lkd q f (by rw [l, upd_ne c]; exact z')⟩, le⟩
  · have e' : l0 q = some u := e
    have c : q ≠ p := ne_of_none e' l1
    exact h.lck q u (by rw [l, upd_ne c]; exact e')
  · show (ω.ρ ++ [p]).length = _
    rw [List.length_append, List.length_append, h.len]
    rfl
  · by_cases c : a < M.length
    · rw [List.getElem?_append_left c] at e
      obtain ⟨q, ho, e1, e2, e3, e4, e5⟩ := h.obj a u e ng
      have cq : q ≠ p := fun z => nr (by rw [← z]; exact List.mem_of_getElem? e1)
      refine ⟨q, ho, le.at e1, e2, e3.mono0 le, e4, ?_⟩
      show l0 q = none
      rw [l, upd_ne cq] at e5
      exact e5
    · rw [List.getElem?_append_right (by omega)] at e
      have ea : a = M.length := by
        cases z : a - M.length with
        | zero => omega
        | succ k => rw [z] at e; simp at e
      subst ea
      simp at e
      subst e
      refine ⟨p, o, ?_, h.lck p o lp, r.mono0 le, ip, l1⟩
      show (ω.ρ ++ [p])[M.length]? = some p
      rw [← h.len]
      simp
  · show (ω.ρ ++ [p]).Nodup
    rw [List.nodup_append]
    refine ⟨h.nd, by simp, fun a ha b hb => ?_⟩
    simp at hb
    subst hb
    intro z
    exact nr (by rw [← z]; exact ha)
  · rcases List.mem_append.mp (show q ∈ ω.ρ ++ [p] from hq) with z | z
    · exact h.there q z
    · simp at z
      subst z
      rw [h.lck q o lp]
      exact fun z => nomatch z
  · show l0 q = none
    have c : q ≠ p := fun z => by rw [z, ip] at e; cases e
    have := h.dj q u e
    rw [l, upd_ne c] at this
    exact this
  · show l0 q = none
    rcases List.mem_append.mp (show q ∈ ω.ρ ++ [p] from hq) with z | z
    · have c : q ≠ p := fun y => nr (by rw [← y]; exact z)
      have := h.nl q z
      rw [l, upd_ne c] at this
      exact this
    · simp at z
      subst z
      exact l1
  · by_cases c : a < M.length
    · rw [List.getElem?_append_left c] at e
      exact h.tab a e
    · rw [List.getElem?_append_right (by omega)] at e
      cases z : a - M.length with
      | zero => rw [z] at e; simp at e; exact absurd e nt
      | succ k => rw [z] at e; simp at e
end

section
variable {G : G0} {ω : Wd} {M : List O} {H : Hp} {p : Addr} {o : O} {ho : HO}
/-- a mutable object is immutable from now on -/
theorem HRel.freeze {a : Nat} (h : HRel G ω M H) (e : M[a]? = some o) (ng : o ≠ .gone) (ep : ω.ρ[a]? = some p) (eh : H p = some ho) : HRel G (ω.add p ho) (M.set a .gone) H ∧ Le ω (ω.add p ho) := by
  obtain ⟨p', ho', e1, e2, e3, e4, e5⟩ := h.obj a o e ng
  rw [ep] at e1
  cases e1
  have le : Le ω (ω.add p ho) := Le.add e4
  have hN : ∀ b : Nat, ω.ρ[b]? = some p → b = a := fun b hb => by
    obtain ⟨l1, q1⟩ := List.getElem?_eq_some_iff.mp hb
    obtain ⟨l2, q2⟩ := List.getElem?_eq_some_iff.mp ep
    exact (List.getElem_inj h.nd).mp (q1.trans q2.symm)
  refine ⟨⟨fun q u f => ?_, h.lck, by rw [List.length_set]; exact h.len, fun b u f ng' => ?_, h.nd, h.there, fun q u f => ?_, h.nl, fun b f => ?_, h.lkd⟩, le⟩
  · have f' : upd ω.imm p ho q = some u := f
    by_cases c : q = p
    · subst c
      rw [upd_same] at f'
      cases f'
      exact eh
    · rw [upd_ne c] at f'
      exact h.imm q u f'
  · by_cases c : b = a
    · subst c
      rw [List.getElem?_set_self (List.getElem?_eq_some_iff.mp e).1] at f
      cases f
      exact absurd rfl ng'
    · rw [List.getElem?_set_ne (fun z => c z.symm)] at f
      obtain ⟨q, hq, f1, f2, f3, f4, f5⟩ := h.obj b u f ng'
      refine ⟨q, hq, f1, f2, f3.mono le, ?_, f5⟩
      have c2 : q ≠ p := fun z => c (hN b (by rw [← z]; exact f1))
      show upd ω.imm p ho q = none
      rw [upd_ne c2]
      exact f4
  · have f' : upd ω.imm p ho q = some u := f
    by_cases c : q = p
    · subst c
      exact e5
    · rw [upd_ne c] at f'
      exact h.dj q u f'
  · by_cases c : b = a
    · subst c
      rw [List.getElem?_set_self (List.getElem?_eq_some_iff.mp e).1] at f
      cases f
    · rw [List.getElem?_set_ne (fun z => c z.symm)] at f
      exact h.tab b f
end
/-! ### what is wanted behind an evaluation -/
/-- an exception in the air: its class, its dict -/
def XRel (G : G0) (ω : Wd) (d : D) (cls : Value) (dd : Option Addr) : Prop := match d with
  | .exc c ks ds => cls = .ref (G.CA c) ∧ ∃ dx fs vs, dd = some dx ∧ ω.imm dx = some (exd dx fs) ∧ (∀ f, fs.lookup f = (zipF ks vs).lookup f) ∧ ks.length = ds.length ∧ XIs G.K (G.CA c) ks ∧ Rels G ω ds vs
  | _ => False
/-- an exception may leave -/
def PX (G : Gs) (ω : Wd) (d : D) (M : List O) : Prop := ∀ ω' H' cls dd, Le ω ω' → HRel G ω' M H' → XRel G ω' d cls dd → G.E cls dd H'
theorem PX.mono {G : Gs} {ω ω1 : Wd} {d : D} {M : List O} (h : PX G ω d M) (le : Le ω ω1) : PX G ω1 d M := fun ω' H' cls dd l => h ω' H' cls dd (le.trans l)
def Post {α β : Type} (G : Gs) (RelA : Wd → α → β → Prop) (ω : Wd) (r : Rs α) (Q : β → Hp → Prop) : Prop := match r with
  | .ok d M' => ∀ ω' H' v, Le ω ω' → HRel G ω' M' H' → RelA ω' d v → Q v H'
  | .er => False
  | .ex d M' => PX G ω d M'
abbrev PostE (G : Gs) := Post G (Rel G)
abbrev PostL (G : Gs) := Post G (Rels G)
theorem Post.mono {α β : Type} {G : Gs} {RelA : Wd → α → β → Prop} {ω ω1 : Wd} {r : Rs α} {Q : β → Hp → Prop} (h : Post G RelA ω r Q) (le : Le ω ω1) : Post G RelA ω1 r Q := by
  cases r with
  | ok d M => exact fun ω' H' v l => h ω' H' v (le.trans l)
  | er => exact h
  | ex d M => exact PX.mono h le
theorem Post.bind {α β γ δ : Type} {G : Gs} {RA : Wd → α → β → Prop} {RB : Wd → γ → δ → Prop} {ω : Wd} {r : Rs α} {f : α → List O → Rs γ} {Q : δ → Hp → Prop} {Q' : β → Hp → Prop} (h : Post G RB ω (r.bind f) Q)
    (k : ∀ d M1 ω1 H1 v, Le ω ω1 → HRel G ω1 M1 H1 → RA ω1 d v → Post G RB ω1 (f d M1) Q → Q' v H1) : Post G RA ω r Q' := by
  cases r with
  | ok d M => exact fun ω1 H1 v le hh rv => k d M ω1 H1 v le hh rv (Post.mono h le)
  | er => exact h
  | ex d M => exact h
theorem Post.here {α β : Type} {G : Gs} {RelA : Wd → α → β → Prop} {ω : Wd} {d : α} {M : List O} {v : β} {H : Hp} {Q : β → Hp → Prop} (h : Post G RelA ω (.ok d M) Q) (hh : HRel G ω M H) (r : RelA ω d v) : Q v H := h ω H v (Le.refl ω) hh r
structure EnvRel (G : G0) (ω : Wd) (env : En) (σ : L2.St) : Prop where
  len : env.length = σ.length
  val : ∀ (i : Nat) d, env[i]? = some (some d) → ∃ v, σ[i]? = some (some v) ∧ Rel G ω d v
theorem EnvRel.mono0 {G : G0} {ω ω' : Wd} {env : En} {σ : L2.St} (h : EnvRel G ω env σ) (le : Le0 ω ω') : EnvRel G ω' env σ :=
  ⟨h.len, fun i d e => let ⟨v, a, b⟩ := h.val i d e; ⟨v, a, Rel.mono0 le d v b⟩⟩
theorem EnvRel.mono {G : G0} {ω ω' : Wd} {env : En} {σ : L2.St} (h : EnvRel G ω env σ) (le : Le ω ω') : EnvRel G ω' env σ :=
  ⟨h.len, fun i d e => let ⟨v, a, b⟩ := h.val i d e; ⟨v, a, Rel.mono le d v b⟩⟩
theorem EnvRel.set {G : G0} {ω : Wd} {env : En} {σ : L2.St} {i : Nat} {d : D} {v : V} (h : EnvRel G ω env σ) (r : Rel G ω d v) (hi : i < env.length) : EnvRel G ω (env.set i (some d)) (σ.set i (some v)) := by
  refine ⟨by rw [List.length_set, List.length_set]; exact h.len, fun j e q => ?_⟩
  by_cases c : i = j
  · subst c
    rw [List.getElem?_set_self hi] at q
    cases q
    exact ⟨v, by rw [List.getElem?_set_self (by rw [← h.len]; exact hi)], r⟩
  · rw [List.getElem?_set_ne c] at q ⊢
    exact h.val j e q
end Ev


set_option autoImplicit false
set_option Elab.async false
set_option linter.all false
set_option maxRecDepth 100000
set_option maxHeartbeats 4000000
/-! EvC: operators and built-in calls, by values. -/
namespace Ev
open PySem PySem.Spec PyProof.Rows L2
theorem lim_le : lim ≤ sizeLine := by
  rw [sizeLine_eq]
  decide
section
variable {G : G0} {ω : Wd} {M : List O} {H : Hp}
/-- a mutable or immutable list -/
theorem listOf_ok {d : D} {v : V} {ds : List D} (h : HRel G ω M H) (r : Rel G ω d v) (e : listOf M d = some ds) : ∃ p vs, v = .ref p ∧ H p = some (.lst vs) ∧ Rels G ω ds vs := by
  unfold listOf seen at e
  cases d with
  | lst es =>
    simp at e
    subst e
    rw [Rel] at r
    obtain ⟨p, vs, e1, e2, q⟩ := r
    exact ⟨p, vs, e1, h.imm _ _ e2, q⟩
  | ref a =>
    rw [Rel] at r
    obtain ⟨p, e1, e2⟩ := r
    cases c : M[a]? with
    | none => simp [c] at e
    | some o =>
      cases o with
      | lst es =>
        simp [c] at e
        subst e
        obtain ⟨p', ho, f1, f2, ⟨vs, f3, f4⟩, _⟩ := h.obj a _ c (fun z => nomatch z)
        rw [e1] at f1
        cases f1
        exact ⟨p, vs, e2, by rw [f2, f3], f4⟩
      | _ => simp [c] at e
  | _ => simp at e
theorem itemsOf_ok {d : D} {v : V} {ds : List D} (h : HRel G ω M H) (r : Rel G ω d v) (e : itemsOf M d = some ds) : ∃ p vs, v = .ref p ∧ (H p = some (.lst vs) ∨ SqT G.K H p vs) ∧ Rels G ω ds vs := by
  cases c : listOf M d with
  | some es =>
    have : es = ds := by
      unfold listOf at c
      unfold itemsOf at e
      split at c
      · rename_i z
        rw [z] at e
        simp at c e
        rw [← c, ← e]
      · cases c
    subst this
    obtain ⟨p, vs, e1, e2, e3⟩ := listOf_ok h r c
    exact ⟨p, vs, e1, .inl e2, e3⟩
  | none =>
    unfold listOf at c
    unfold itemsOf at e
    split at e
    · rename_i z
      rw [z] at c
      cases c
    · rename_i l z
      simp at e
      subst e
      cases d with
      | tup es =>
        unfold seen at z
        cases z
        rw [Rel] at r
        obtain ⟨p, vs, e1, e2, q⟩ := r
        exact ⟨p, vs, e1, .inr (sqT_mono e2 h.imm), q⟩
      | ref a =>
        unfold seen at z
        dsimp only at z
        split at z <;> cases z
      | _ => unfold seen at z; cases z
    · cases e
theorem sliceOf_ok {d : D} {v : V} {ds : List D} (h : HRel G ω M H) (r : Rel G ω d v) (e : sliceOf M d = some ds) : ∃ p vs, v = .ref p ∧ SqL G.K H p vs ∧ Rels G ω ds vs := by
  cases c : listOf M d with
  | some es =>
    have : es = ds := by
      unfold listOf at c
      unfold sliceOf at e
      split at c
      · rename_i z
        rw [z] at e
        simp at c e
        rw [← c, ← e]
      · cases c
    subst this
    obtain ⟨p, vs, e1, e2, e3⟩ := listOf_ok h r c
    exact ⟨p, vs, e1, SqL.of e2, e3⟩
  | none =>
    unfold listOf at c
    unfold sliceOf at e
    split at e
    · rename_i z
      rw [z] at c
      cases c
    · rename_i l z
      simp at e
      subst e
      cases d with
      | fro es =>
        unfold seen at z
        cases z
        rw [Rel] at r
        obtain ⟨p, vs, e1, e2, q⟩ := r
        exact ⟨p, vs, e1, sqL_mono e2 h.imm, q⟩
      | ref a =>
        unfold seen at z
        dsimp only at z
        split at z <;> cases z
      | _ => unfold seen at z; cases z
    · cases e
end

/-! ### data -/
theorem txEq_iff : ∀ {a b : Tx}, txEq a b = true ↔ a = b
  | [], [] => by simp [txEq]
  | [], _ :: _ => by simp [txEq]
  | _ :: _, [] => by simp [txEq]
  | x :: a, y :: b => by
    simp only [txEq, Bool.and_eq_true, List.cons.injEq]
    rw [txEq_iff (a := a) (b := b)]
    exact ⟨fun ⟨h1, h2⟩ => ⟨Nat.eq_of_beq_eq_true h1, h2⟩, fun ⟨h1, h2⟩ => ⟨by subst h1; exact Nat.beq_refl x, h2⟩⟩
theorem sS_inj {a b : Tx} : sS a = sS b ↔ a = b := by
  unfold sS
  constructor
  · intro h
    have := congrArg (fun z : Str => z.cps.toList) h
    simpa using this
  · intro h
    rw [h]
theorem txEq_str (a b : Tx) : (sS a == sS b) = txEq a b := by
  by_cases h : a = b
  · subst h
    rw [txEq_iff.mpr rfl]
    exact beq_self_eq_true _
  · have h1 : txEq a b = false := by
      cases c : txEq a b with
      | false => rfl
      | true => exact absurd (txEq_iff.mp c) h
    rw [h1]
    exact beq_eq_false_iff_ne.mpr fun z => h (sS_inj.mp z)
mutual
def toP : D → PyData
  | .non => .none
  | .bl b => .bool b
  | .int i => .int i
  | .str s => .str (sS s)
  | .tup ds => .tuple (toPs ds)
  | .lst ds => .list (toPs ds)
  | _ => .none
def toPs : List D → List PyData
  | [] => []
  | d :: ds => toP d :: toPs ds
end
mutual
theorem dp_of {G : G0} {ω : Wd} {H : Hp} (hi : ∀ p o, ω.imm p = some o → H p = some o) : ∀ (n : Nat) (d : D) (v : V), dat n d = true → Rel G ω d v → Dp G.K H v (toP d)
  | n, .non, v, _, r => by
    rw [Rel] at r
    subst r
    rw [toP]
    exact .non
  | n, .bl b, v, _, r => by
    rw [Rel] at r
    subst r
    rw [toP]
    exact .bl b
  | n, .int i, v, _, r => by
    rw [Rel] at r
    subst r
    rw [toP]
    exact .int i
  | n, .str s, v, _, r => by
    rw [Rel] at r
    subst r
    rw [toP]
    exact .str _
  | n + 1, .tup ds, v, h, r => by
    rw [Rel] at r
    rw [dat] at h
    obtain ⟨p, vs, e, s, q⟩ := r
    subst e
    rw [toP]
    exact .tup (sqT_mono s hi) (dps_of hi n ds vs h q)
  | n + 1, .lst ds, v, h, r => by
    rw [Rel] at r
    rw [dat] at h
    obtain ⟨p, vs, e, s, q⟩ := r
    subst e
    rw [toP]
    exact .lst (SqL.of (hi _ _ s)) (dps_of hi n ds vs h q)
  | 0, .tup ds, v, h, _ => by simp [dat] at h
  | 0, .lst ds, v, h, _ => by simp [dat] at h
  | n, .obj _ _ _, v, h, _ => by cases n <;> simp [dat] at h
  | n, .exc _ _ _, v, h, _ => by cases n <;> simp [dat] at h
  | n, .ref _, v, h, _ => by cases n <;> simp [dat] at h
  | n, .fro _, v, h, _ => by cases n <;> simp [dat] at h
  | n, .dct _ _, v, h, _ => by cases n <;> simp [dat] at h
theorem dps_of {G : G0} {ω : Wd} {H : Hp} (hi : ∀ p o, ω.imm p = some o → H p = some o) : ∀ (n : Nat) (ds : List D) (vs : List V), dats n ds = true → Rels G ω ds vs → DpAll G.K H vs (toPs ds)
  | n, [], vs, _, r => by
    rw [Rels] at r
    subst r
    rw [toPs]
    exact .nil
  | n, d :: ds, vs, h, r => by
    rw [Rels] at r
    rw [dats, Bool.and_eq_true] at h
    obtain ⟨v, t, e, a, b⟩ := r
    subst e
    rw [toPs]
    exact .cons (dp_of hi n d v h.1 a) (dps_of hi n ds t h.2 b)
end
theorem okTx_all : ∀ {s : Tx}, okTx s = true → PyData.strOk (sS s) = true
  | s, h => by
    have : ∀ s : Tx, okTx s = true → ∀ c ∈ s, c < 1114112 := fun s => by
      induction s with
      | nil => intro _ c hc; cases hc
      | cons x r ih =>
        intro h c hc
        rw [okTx, Bool.and_eq_true] at h
        rcases List.mem_cons.mp hc with e | e
        · subst e
          have := Nat.le_of_ble_eq_true h.1
          omega
        · exact ih h.2 c e
    unfold PyData.strOk sS
    simp only [List.all_toArray, List.all_eq_true, decide_eq_true_eq]
    exact fun c hc => this s h c hc
mutual
theorem can_of : ∀ (n : Nat) (d : D), dat n d = true → (toP d).canLay0 = true ∧ (toP d).depth ≤ n
  | n, .non, _ => by rw [toP]; exact ⟨rfl, by simp [PyData.depth]⟩
  | n, .bl b, _ => by rw [toP]; exact ⟨rfl, by simp [PyData.depth]⟩
  | n, .int i, _ => by rw [toP]; exact ⟨rfl, by simp [PyData.depth]⟩
  | n, .str s, h => by
    have h' : okTx s = true := by cases n <;> simpa [dat] using h
    rw [toP]
    exact ⟨by simpa [PyData.canLay0] using okTx_all h', by simp [PyData.depth]⟩
  | n + 1, .tup ds, h => by
    rw [dat] at h
    have q := cans_of n ds h
    rw [toP]
    exact ⟨by simpa [PyData.canLay0] using q.1, by simp only [PyData.depth]; omega⟩
  | n + 1, .lst ds, h => by
    rw [dat] at h
    have q := cans_of n ds h
    rw [toP]
    exact ⟨by simpa [PyData.canLay0] using q.1, by simp only [PyData.depth]; omega⟩
  | 0, .tup ds, h => by simp [dat] at h
  | 0, .lst ds, h => by simp [dat] at h
  | n, .obj _ _ _, h => by cases n <;> simp [dat] at h
  | n, .exc _ _ _, h => by cases n <;> simp [dat] at h
  | n, .ref _, h => by cases n <;> simp [dat] at h
  | n, .fro _, h => by cases n <;> simp [dat] at h
  | n, .dct _ _, h => by cases n <;> simp [dat] at h
theorem cans_of : ∀ (n : Nat) (ds : List D), dats n ds = true → PyData.canLayAll0 (toPs ds) = true ∧ PyData.depthAll (toPs ds) ≤ n
  | n, [], _ => by rw [toPs]; exact ⟨rfl, by simp [PyData.depthAll]⟩
  | n, d :: ds, h => by
    rw [dats, Bool.and_eq_true] at h
    have a := can_of n d h.1
    have b := cans_of n ds h.2
    rw [toPs]
    refine ⟨by simp [PyData.canLayAll0, a.1, b.1], ?_⟩
    simp only [PyData.depthAll]
    omega
end
theorem shaped_of {d : D} (h : dat 60 d = true) : SeqAt.shaped (toP d) = true := by
  have q := can_of 60 d h
  unfold SeqAt.shaped
  rw [q.1]
  simp only [Bool.true_and, decide_eq_true_eq]
  omega
theorem dec_beq (i j : Int) : (i == j) = decide (i = j) := rfl
mutual
theorem eqv_of : ∀ (n m : Nat) (d e : D), dat n d = true → dat m e = true → PyData.eqv (toP d) (toP e) = eqD d e
  | n, m, .non, e, _, he => by cases e <;> (first | (cases m <;> simp [dat] at he; done) | simp [toP, PyData.eqv, eqD])
  | n, m, .bl b, e, _, he => by cases e <;> (first | (cases m <;> simp [dat] at he; done) | simp [toP, PyData.eqv, eqD, dec_beq])
  | n, m, .int i, e, _, he => by cases e <;> (first | (cases m <;> simp [dat] at he; done) | simp [toP, PyData.eqv, eqD, dec_beq])
  | n, m, .str s, e, _, he => by cases e <;> (first | (cases m <;> simp [dat] at he; done) | simp [toP, PyData.eqv, eqD, txEq_str])
  | n + 1, m, .tup ds, e, hd, he => by
    cases e with
    | tup es =>
      cases m with
      | zero => simp [dat] at he
      | succ m =>
        rw [dat] at hd he
        simp only [toP, PyData.eqv, eqD]
        exact eqvs_of n m ds es hd he
    | _ => first | (cases m <;> simp [dat] at he; done) | simp [toP, PyData.eqv, eqD]
  | n + 1, m, .lst ds, e, hd, he => by
    cases e with
    | lst es =>
      cases m with
      | zero => simp [dat] at he
      | succ m =>
        rw [dat] at hd he
        simp only [toP, PyData.eqv, eqD]
        exact eqvs_of n m ds es hd he
    | _ => first | (cases m <;> simp [dat] at he; done) | simp [toP, PyData.eqv, eqD]
  | 0, m, .tup ds, e, h, _ => by simp [dat] at h
  | 0, m, .lst ds, e, h, _ => by simp [dat] at h
  | n, m, .obj _ _ _, e, h, _ => by cases n <;> simp [dat] at h
  | n, m, .exc _ _ _, e, h, _ => by cases n <;> simp [dat] at h
  | n, m, .ref _, e, h, _ => by cases n <;> simp [dat] at h
  | n, m, .fro _, e, h, _ => by cases n <;> simp [dat] at h
  | n, m, .dct _ _, e, h, _ => by cases n <;> simp [dat] at h
theorem eqvs_of : ∀ (n m : Nat) (ds es : List D), dats n ds = true → dats m es = true → PyData.eqvAll (toPs ds) (toPs es) = eqDs ds es
  | n, m, [], [], _, _ => by simp [toPs, PyData.eqvAll, eqDs]
  | n, m, [], _ :: _, _, _ => by simp [toPs, PyData.eqvAll, eqDs]
  | n, m, _ :: _, [], _, _ => by simp [toPs, PyData.eqvAll, eqDs]
  | n, m, d :: ds, e :: es, hd, he => by
    rw [dats, Bool.and_eq_true] at hd he
    simp only [toPs, PyData.eqvAll, eqDs]
    rw [eqv_of n m d e hd.1 he.1, eqvs_of n m ds es hd.2 he.2]
end
end Ev


set_option autoImplicit false
set_option Elab.async false
set_option linter.all false
set_option maxRecDepth 100000
set_option maxHeartbeats 4000000
/-! EvTm: a tuple once, slices of lists and tuples, the one sorted arrangement. -/
namespace Ev
open PySem PySem.Spec PyProof.Rows L2
theorem mul_once (tp : Addr) (its : Array Value) (sz : Nat) (dc : Option Addr) (sl : Array (Option Value)) (tk : Tok) (ne : its.isEmpty = false) :
    Meets (Builtin.«tuple.__mul__» ⟨[.ref tp, .int 1 tk], []⟩) (fun _ R s => s.heap.get? tp = some { cls := .type "tuple", dict := dc, data := .seq its sz, slots := sl } ∧ R (.ok (.ret (Value.ref tp))) s) :=
  .of_wp fun prog w A R s h => by
    obtain ⟨hp, g, d, tk', os⟩ := s
    obtain ⟨at_, h⟩ := h
    have f1 := AutoSeq1.idx_int
    wp_walk using wpAny_loadPart' at_
    exact ⟨_, rfl, h⟩
theorem mul_nil (tp : Addr) (its : Array Value) (sz : Nat) (dc : Option Addr) (sl : Array (Option Value)) (tk : Tok) (ne : its.isEmpty = false) :
    Meets (Builtin.«tuple.__mul__» ⟨[.ref tp, .int 0 tk], []⟩) (fun _ R s => s.heap.get? tp = some { cls := .type "tuple", dict := dc, data := .seq its sz, slots := sl } ∧
      R (.ok (.ret (Value.ref s.heap.objs.size))) { s with heap := s.heap.push { cls := .type "tuple", data := .seq #[] } }) :=
  .of_wp fun prog w A R s h => by
    obtain ⟨hp, g, d, tk', os⟩ := s
    obtain ⟨at_, h⟩ := h
    have f1 := AutoSeq1.idx_int
    have c1 : (its.isEmpty || (0 : Int) == 1) = false := by rw [ne]; rfl
    wp_walk using wpAny_loadPart' at_
    repeat (first
      | (refine wpAny_ite_false (decide_eq_false (by rw [c1]; exact Bool.false_ne_true)) ?_; wp_walk using wpAny_loadPart' at_)
      | (refine wpAny_ite_true (by simp) ?_; wp_walk using wpAny_loadPart' at_))
    exact ⟨_, rfl, h⟩
section
variable {X : L2.Cx}
/-- t * k, k at least 1 -/
def rRepU (K : PySem.W.Frag) : R2 := fun x y H Q => ∃ l k xs, x = .ref l ∧ y = .int k ∧ SqT K H l xs ∧ xs ≠ [] ∧ 0 ≤ k ∧ k ≤ 1000 ∧ xs.length ≤ 1000 ∧ (k = 1 → Q (.ref l) H) ∧ (k ≠ 1 → ∀ p, H p = none → Q (.ref p) (upd H p (.tup (List.replicate k.toNat xs).flatten)))
theorem op_repU : OpR X (binaryOp .Mult) (rRepU X.K) := by
  intro pins s σ H x y v u Q I rx ry h
  obtain ⟨l, k, xs, rfl, rfl, hT, ne, k1, k2, hz, q1, q2⟩ := h
  by_cases e : k = 1
  · subst e
    cases rx
    obtain ⟨t, rfl⟩ := ry
    obtain ⟨us, r, ⟨⟨cls, dc, data, sl⟩, ho, hc, n, hd⟩, hs⟩ := I.tuple hT
    simp only at hc hd
    subst hc hd
    have hi : us.toArray.isEmpty = false := by
      cases us with
      | nil => exact absurd (List.eq_nil_of_length_eq_zero r.length) ne
      | cons a b => rfl
    exact wpAny_binaryOp_repeat_ref (T := "tuple") (U := "int") (by decide) ⟨_, ho, rfl⟩ (fun s' => typeIs_int s' 1 t) noFill_tuple_mul F.fills_int_mul F.slot_int_rmul repeat_tuple F.slot_int_index.lookup
      (call_meets F.slot_int_rmul (typeIs_int s 1 t) F.entry_int_rmul (F.args_int_rmul_2 _ _) (int_rmul_tuple 1 t l us.toArray n dc sl)
        ⟨ho, rfl, ⟨_, ho, rfl⟩, call_meets F.slot_tuple_mul ⟨_, ho, rfl⟩ F.entry_tuple_mul (F.args_tuple_mul_2 _ _) (mul_once l us.toArray n dc sl t hi) ⟨ho, ⟨.ref l, H, I, rfl, q1 rfl⟩⟩⟩)
  · by_cases e0 : k = 0
    · subst e0
      cases rx
      obtain ⟨t, rfl⟩ := ry
      obtain ⟨us, r, ⟨⟨cls, dc, data, sl⟩, ho, hc, n, hd⟩, hs⟩ := I.tuple hT
      simp only at hc hd
      subst hc hd
      have hi : us.toArray.isEmpty = false := by
        cases us with
        | nil => exact absurd (List.eq_nil_of_length_eq_zero r.length) ne
        | cons a b => rfl
      refine wpAny_binaryOp_repeat_ref (T := "tuple") (U := "int") (by decide) ⟨_, ho, rfl⟩ (fun s' => typeIs_int s' 0 t) noFill_tuple_mul F.fills_int_mul F.slot_int_rmul repeat_tuple F.slot_int_index.lookup
        (call_meets F.slot_int_rmul (typeIs_int s 0 t) F.entry_int_rmul (F.args_int_rmul_2 _ _) (int_rmul_tuple 0 t l us.toArray n dc sl)
          ⟨ho, rfl, ⟨_, ho, rfl⟩, call_meets F.slot_tuple_mul ⟨_, ho, rfl⟩ F.entry_tuple_mul (F.args_tuple_mul_2 _ _) (mul_nil l us.toArray n dc sl t hi) ⟨ho, ?_⟩⟩)
      refine ⟨.ref s.heap.objs.size, _, I.laid (t' := s.toks) (o := .tup (List.replicate (0 : Int).toNat xs).flatten) (fun b ob q => Heap.get?_push_of_some _ q) (Nat.le_refl _) ?_, rfl, q2 e _ (I.hok.fresh (Nat.le_refl _))⟩
      exact ⟨Nat.zero_le _, [], .nil, ⟨_, Heap.get?_push_size _ rfl, rfl, _, rfl⟩⟩
    · exact op_repT pins s σ H _ _ v u Q I rx ry ⟨l, k, xs, rfl, rfl, hT, ne, by omega, k2, hz, q2 e⟩
/-- slices of lists, of tuples -/
theorem sl_or {R1 R2 : V → Option Int → Option Int → Hp → VK → Prop} (h1 : SlR X R1) (h2 : SlR X R2) : SlR X (fun x lo hi H Q => R1 x lo hi H Q ∨ R2 x lo hi H Q) := by
  intro pins s σ H x v vl vu lo hi sl Q I rx hs pl pu h
  rcases h with h | h
  · exact h1 pins s σ H x v vl vu lo hi sl Q I rx hs pl pu h
  · exact h2 pins s σ H x v vl vu lo hi sl Q I rx hs pl pu h
end
end Ev


set_option autoImplicit false
set_option Elab.async false
set_option linter.all false
set_option maxRecDepth 100000
set_option maxHeartbeats 4000000
/-! EvTx: texts by their signs; *a, b = a list. -/
namespace Ev
open PySem PySem.Spec PyProof.Rows L2
theorem splC_ne (c : Nat) : ∀ a : List Nat, splC c a ≠ []
  | [] => by simp [splC]
  | x :: a => by
    rw [splC]
    split
    · simp
    · cases splC c a <;> simp
theorem spl_acc (c : Nat) : ∀ (a acc : List Nat), TL.spl [c] 0 acc a = (match splC c a with
    | p :: ps => (acc ++ p) :: ps
    | [] => [acc])
  | [], acc => by
    show [acc] = [acc ++ []]
    rw [List.append_nil]
  | x :: a, acc => by
    have e : TL.pre [c] (x :: a) = Nat.beq x c := by
      unfold TL.pre
      by_cases h : x = c
      · subst h
        simp
      · have : Nat.beq x c = false := by rw [Bool.eq_false_iff]; intro z; exact h (Nat.eq_of_beq_eq_true z)
        rw [this]
        simp [h]
    show (if TL.pre [c] (x :: a) = true then acc :: TL.spl [c] (1 - 1) [] a else TL.spl [c] 0 (acc ++ [x]) a) = _
    rw [e, splC]
    cases hb : Nat.beq x c with
    | true =>
      simp only [if_true]
      rw [show (1 - 1 : Nat) = 0 from rfl, spl_acc c a []]
      have ne := splC_ne c a
      cases h : splC c a with
      | nil => exact absurd h ne
      | cons p ps => simp
    | false =>
      simp only [Bool.false_eq_true, if_false]
      rw [spl_acc c a (acc ++ [x])]
      cases splC c a <;> simp
theorem spl_one (c : Nat) (a : List Nat) : TL.spl [c] 0 [] a = splC c a := by
  rw [spl_acc]
  have := splC_ne c a
  cases h : splC c a with
  | nil => exact absurd h this
  | cons p ps => rfl
theorem split_sS {a : Tx} {c : Nat} (hc : c < 256) : Txt.split (sS a) (sS [c]) = (splC c a).map sS := by
  have := SX.split_S (a := a) (b := [c]) (by simp) (by simp [hc])
  rw [spl_one] at this
  exact this
theorem joinC_eq (a : Tx) : ∀ ys : List Tx, TL.joinL a ys = joinC a ys
  | [] => rfl
  | [x] => rfl
  | x :: y :: r => by
    show x ++ (a ++ TL.joinL a (y :: r)) = _
    rw [joinC_eq a (y :: r), joinC]
theorem join_sS (a : Tx) (ys : List Tx) : Txt.join (sS a) (ys.map sS) = sS (joinC a ys) := by
  rw [← joinC_eq]
  exact SX.join_S a ys
theorem in_sS (t : Tx) (c : Nat) : (!(Builtin.Str.occurrences (sS t) (sS [c]) 0 (sS t).length 1).isEmpty) = t.any fun z => Nat.beq z c := by
  refine (SX.in_one t c).trans ?_
  rw [Bool.eq_iff_iff]
  simp only [decide_eq_true_eq, List.any_eq_true]
  constructor
  · exact fun h => ⟨c, h, Nat.beq_refl c⟩
  · rintro ⟨x, hx, e⟩
    rw [← Nat.eq_of_beq_eq_true e]
    exact hx
theorem int_sS {s : Tx} (h : figs s = true) (hl : s.length ≤ 18) : PySem.intText? (sS s) = some ((figV 0 s : Nat) : Int) := by
  unfold figs at h
  rw [Bool.and_eq_true] at h
  have ha : s.all (fun c => decide (48 ≤ c) && decide (c ≤ 57)) = true := by
    rw [List.all_eq_true]
    intro c hc
    have := List.all_eq_true.mp h.2 c hc
    unfold fig1 at this
    rw [Bool.and_eq_true] at this
    rw [Bool.and_eq_true, decide_eq_true_eq, decide_eq_true_eq]
    exact ⟨Nat.le_of_ble_eq_true this.1, Nat.le_of_ble_eq_true this.2⟩
  have hn : s ≠ [] := fun e => by subst e; cases h.1
  have z := SX.int_S (a := s) ha hn (by omega)
  have e2 : NumText.digitsVal s = figV 0 s := by
    unfold NumText.digitsVal figV
    rfl
  rw [e2] at z
  exact z
theorem vals_snoc {z : V} : ∀ {xs : List V} {us : List Value}, Vals (xs ++ [z]) us → ∃ ws u, us = ws ++ [u] ∧ Vals xs ws ∧ RelV z u
  | [], us, h => by
    cases h with
    | cons a b => cases b; exact ⟨[], _, rfl, .nil, a⟩
  | x :: xs, us, h => by
    cases h with
    | cons a b =>
      obtain ⟨ws, u, e, f, g⟩ := vals_snoc b
      subst e
      exact ⟨_ :: ws, u, rfl, .cons a f, g⟩
section
variable {X : L2.Cx}
/-- *x, y = a list -/
def gStar (K : PySem.W.Frag) (gx gy : TG) : TG := fun v σ H Q => ∃ a xs z, v = .ref a ∧ SqL K H a (xs ++ [z]) ∧ ∀ p, H p = none → gx (.ref p) σ (upd H p (.lst xs)) fun σ1 H1 => gy z σ1 H1 Q
theorem pg_star {tx ty : Expr} {gx gy : TG} {k : Nat} {ps pos : Pos} (hc : X.calm = true) (h1 : PG X tx gx) (h2' : PG X ty gy)
    (he : assignEach [.Starred tx ps, ty] X.env = [(true, assign tx X.env), (false, assign ty X.env)]) : PG X (.Tuple [.Starred tx ps, ty] k pos) (gStar X.K gx gy) := by
  refine ⟨fun pins s σ H v u Q I r h => ?_⟩
  obtain ⟨l, xs, z, e1, hs, q⟩ := h
  subst e1
  cases r
  obtain ⟨its, rv, pl, hz⟩ := I.list hs
  have hl := pl.isList
  have hd := I.ok.hd hc
  have hlen := rv.length
  rw [List.length_append, List.length_cons, List.length_nil] at hlen hz
  have hlt : l ≠ s.heap.objs.size := Nat.ne_of_lt pl.lt
  rw [assign_Tuple]
  refine wpAny_bind (wpAny_standAt ?_)
  unfold unpack
  rw [he]
  show wpAny _ _ (holding [.ref l] (unpackItems (.ref l) 2 (some 0)) >>= fun w => assignInOrder [assign tx X.env, assign ty X.env] w) _ _ _
  refine wpAny_bind (wpAny_holding ?_)
  unfold unpackItems
  refine wpAny_bind ?_
  unfold notIterableAtAll
  refine wpAny_bind (wpAny_specialOf hl.typeIs slot_list_iter.lookup ?_)
  refine wpAny_pure ?_
  simp only [Bool.false_eq_true, if_false]
  refine wpAny_bind (wpAny_holding (wpAny_pyIter_list hl ?_))
  obtain ⟨ws, u, e2, rw1, ru⟩ := vals_snoc rv
  refine wpAny_bind (wpAny_holding (wpAny_pure ?_))
  rw [if_neg (show ¬ ([] : List Value).length < 0 from Nat.not_lt_zero _)]
  have it0 : (s.heap.push { cls := .type "list_iterator", data := .fields #[.ref l, .int 0 0] }).IsListIter s.heap.objs.size l 0 := ⟨_, Heap.get?_push_size _ rfl, rfl, rfl⟩
  have sz : (s.heap.push { cls := .type "list_iterator", data := .fields #[.ref l, .int 0 0] }).objs.size = s.heap.objs.size + 1 := Heap.size_push ..
  refine wpAny_bind (wpAny_holding (PySem.W.kun_collect (T := "list_iterator") (.inr (.inr (.inl rfl))) (Walks.list (A := X.A.in1) hd s.heap.objs.size l hlt its.toArray) (fun j u st => st.1.typeIs) (k := 0) (Nat.zero_le _) ⟨it0, hl.push _⟩ (by rw [sz]; exact Nat.lt_succ_self _) (by rw [sz]; exact Nat.lt_succ_of_lt pl.lt) (fun h2 tk kp => ?_) (by rw [List.size_toArray]; omega)))
  rw [List.drop_zero, List.toList_toArray]
  have hn : ¬ its.length < 2 - 1 - 0 := by omega
  rw [if_neg hn]
  have kept : ∀ b o, s.heap.get? b = some o → h2.get? b = some o := fun b o e => kp b o (Nat.ne_of_lt (Heap.lt_size e)) (Heap.get?_push_of_some _ e)
  have I2 : Inv X pins σ H { s with heap := h2, toks := tk } := I.kept kept
  have wl : ws.length = xs.length := rw1.length.symm
  have t1 : its.take (its.length - (2 - 1 - 0)) = ws := by
    subst e2
    rw [List.length_append, List.length_cons, List.length_nil]
    simp
  have t2 : its.drop (its.length - (2 - 1 - 0)) = [u] := by
    subst e2
    rw [List.length_append, List.length_cons, List.length_nil]
    simp
  rw [t1, t2]
  refine wpAny_bind (wpAny_newList (s := { s with heap := h2, toks := tk }) (wpAny_pure ?_))
  have nw : ObjOk X.prog X.w (upd H h2.objs.size (.lst xs)) (h2.push { cls := .type "list", data := .seq ws.toArray }) h2.objs.size (.lst xs) :=
    ⟨by omega, ws, 0, rw1, Heap.get?_push_size _ rfl⟩
  have I3 : Inv X pins σ (upd H h2.objs.size (.lst xs)) { s with heap := h2.push { cls := .type "list", data := .seq ws.toArray }, toks := tk } := I2.laid (fun b o e => Heap.get?_push_of_some _ e) (Nat.le_refl _) nw
  refine assignInOrder_cons (thn (h1.run pins _ σ _ (.ref h2.objs.size) (.ref h2.objs.size) _ I3 rfl (q _ (I2.hok.fresh (Nat.le_refl _)))) fun _ s4 ⟨σ4, H4, I4, q4⟩ => ?_)
  refine assignInOrder_cons (thn (h2'.run pins s4 σ4 H4 z u _ I4 ru q4) fun _ s5 ⟨σ5, H5, I5, q5⟩ => ?_)
  exact assignInOrder_nil ⟨σ5, H5, I5, q5⟩
end
end Ev


set_option autoImplicit false
set_option Elab.async false
set_option linter.all false
set_option maxRecDepth 100000
set_option maxHeartbeats 4000000
/-! EvD: operators and built-in calls as rules. -/
namespace Ev
open PySem PySem.Spec PyProof.Rows L2
def bo : BOp → Operator
  | .add => .Add | .sub => .Sub | .mul => .Mult | .fdiv => .FloorDiv | .mod => .Mod | .pow => .Pow
def co : COp → CmpOp
  | .eq => .Eq | .ne => .NotEq | .lt => .Lt | .le => .LtE | .gt => .Gt | .ge => .GtE | .is => .Is | .isn => .IsNot | .inn => .In | .nin => .NotIn
def rB (G : Gs) (o : BOp) : R2 := fun x y H Q => ∃ ω M d e, HRel G ω M H ∧ Rel G ω d x ∧ Rel G ω e y ∧ PostE G ω (binop o d e M) Q
def rC (G : Gs) (o : COp) : R2 := fun x y H Q => ∃ ω M d e, HRel G ω M H ∧ Rel G ω d x ∧ Rel G ω e y ∧ PostE G ω (cmpop o d e M) Q
section
variable {G : Gs} {ω : Wd} {M : List O} {H : Hp} {Q : VK}
theorem post_int {i : Int} (h : PostE G ω (.ok (.int i) M) Q) (hh : HRel G ω M H) : Q (.int i) H := Post.here h hh (by rw [Rel])
theorem post_bl {b : Bool} (h : PostE G ω (.ok (.bl b) M) Q) (hh : HRel G ω M H) : Q (.bl b) H := Post.here h hh (by rw [Rel])
theorem post_str {s : Tx} (h : PostE G ω (.ok (.str s) M) Q) (hh : HRel G ω M H) : Q (.str (sS s)) H := Post.here h hh (by rw [Rel])
/-- a new immutable list -/
theorem post_lst {ds : List D} {vs : List V} {p : Addr} (h : PostE G ω (.ok (.lst ds) M) Q) (hh : HRel G ω M H) (n : H p = none) (r : Rels G ω ds vs) : Q (.ref p) (upd H p (.lst vs)) := by
  obtain ⟨h2, le⟩ := hh.addI (o := .lst vs) n
  refine h _ _ _ le h2 ?_
  rw [Rel]
  exact ⟨p, vs, rfl, upd_same, Rels.mono le _ _ r⟩
theorem post_tup {ds : List D} {vs : List V} {p : Addr} (h : PostE G ω (.ok (.tup ds) M) Q) (hh : HRel G ω M H) (n : H p = none) (r : Rels G ω ds vs) : Q (.ref p) (upd H p (.tup vs)) := by
  obtain ⟨h2, le⟩ := hh.addI (o := .tup vs) n
  refine h _ _ _ le h2 ?_
  rw [Rel]
  exact ⟨p, vs, rfl, .inl (.inl upd_same), Rels.mono le _ _ r⟩
/-- a new mutable list -/
theorem post_new {ds : List D} {vs : List V} {p : Addr} (h : PostE G ω (alloc (.lst ds) M) Q) (hh : HRel G ω M H) (n : H p = none) (r : Rels G ω ds vs) : Q (.ref p) (upd H p (.lst vs)) := by
  obtain ⟨h2, le⟩ := hh.pushM (o := .lst ds) (ho := .lst vs) n ⟨vs, rfl, r⟩
  refine h _ _ _ le h2 ?_
  rw [Rel]
  refine ⟨p, ?_, rfl⟩
  show (ω.ρ ++ [p])[M.length]? = some p
  rw [← hh.len]
  simp
end
theorem Rels.rep {G : G0} {ω : Wd} {ds : List D} {vs : List V} (r : Rels G ω ds vs) : ∀ n : Nat, Rels G ω (List.replicate n ds).flatten (List.replicate n vs).flatten
  | 0 => by simpa using (Rels.nil (G := G) (ω := ω))
  | n + 1 => by
    rw [List.replicate_succ, List.replicate_succ, List.flatten_cons, List.flatten_cons]
    exact r.append (Rels.rep r n)
theorem sS_len (s : Tx) : (sS s).length = s.length := by
  unfold sS
  simp [Str.length]
theorem sS_app (s t : Tx) : sS s ++ sS t = sS (s ++ t) := by
  unfold sS
  show Str.append _ _ = _
  unfold Str.append
  simp
theorem log_of {j : Int} (h0 : 0 < j) (h : j < 2 ^ 8000) : j.natAbs.log2 < 9000 := by
  have h1 : j.natAbs < 2 ^ 8000 := by
    have e : ((j.natAbs : Nat) : Int) = j := Int.natAbs_of_nonneg (by omega)
    have h2 : ((j.natAbs : Nat) : Int) < ((2 ^ 8000 : Nat) : Int) := by
      rw [e]
      exact_mod_cast h
    exact_mod_cast h2
  have := PySem.Flt.log2_lt_of (by decide : 0 < 8000) h1
  omega
section
variable {G : Gs} {Y : L2.Cx}
theorem opB (hK : Y.K = G.K) (o : BOp) : OpR Y (binaryOp (bo o)) (rB G o) := by
  intro pins s σ H x y v u Q I rx ry h
  obtain ⟨ω, M, d, e, hh, rd, re, post⟩ := h
  unfold binop at post
  split at post
  · rw [Rel] at rd re
    subst rd re
    exact op_add pins s σ H _ _ v u Q I rx ry ⟨_, _, rfl, rfl, post_int post hh⟩
  · rw [Rel] at rd re
    subst rd re
    exact op_sub pins s σ H _ _ v u Q I rx ry ⟨_, _, rfl, rfl, post_int post hh⟩
  · rename_i i j
    rw [Rel] at rd re
    subst rd re
    split at post
    · rename_i c
      have c' : CMul i j := by
        unfold big at c
        simp only [Bool.or_eq_true, Bool.and_eq_true, decide_eq_true_eq] at c
        unfold CMul
        have e : (2 : Int) ^ 64 = 18446744073709551616 := by decide
        rw [e]
        exact c
      exact op_mul pins s σ H _ _ v u Q I rx ry ⟨_, _, rfl, rfl, c', post_int post hh⟩
    · exact False.elim post
  · rename_i i j
    rw [Rel] at rd re
    subst rd re
    split at post
    · rename_i c
      simp only [Bool.and_eq_true, decide_eq_true_eq] at c
      exact op_fdivW pins s σ H _ _ v u Q I rx ry ⟨_, _, rfl, rfl, ⟨c.1, log_of c.1 c.2⟩, post_int post hh⟩
    · exact False.elim post
  · rename_i i j
    rw [Rel] at rd re
    subst rd re
    split at post
    · rename_i c
      exact op_mod pins s σ H _ _ v u Q I rx ry ⟨_, _, rfl, rfl, c, post_int post hh⟩
    · exact False.elim post
  · rename_i i j
    rw [Rel] at rd re
    subst rd re
    split at post
    · rename_i c
      simp only [Bool.and_eq_true, decide_eq_true_eq] at c
      obtain ⟨⟨⟨c1, c2⟩, c3⟩, c4⟩ := c
      refine op_pow pins s σ H _ _ v u Q I rx ry ⟨_, _, rfl, rfl, ⟨c1, by omega, ?_⟩, post_int post hh⟩
      have : i.natAbs < 1000 := by omega
      exact Nat.lt_of_lt_of_le this (by decide)
    · exact False.elim post
  · rename_i a b
    rw [Rel] at rd re
    subst rd re
    split at post
    · rename_i c
      refine op_add_str pins s σ H _ _ v u Q I rx ry ⟨_, _, rfl, rfl, ?_, ?_⟩
      · rw [sS_len, sS_len]
        exact Nat.le_trans c lim_le
      · rw [sS_app]
        exact post_str post hh
    · exact False.elim post
  · rename_i a b
    rw [Rel] at rd re
    obtain ⟨p, vs, rfl, ip, rp⟩ := rd
    obtain ⟨q, ws, rfl, iq, rq⟩ := re
    split at post
    · rename_i c
      refine op_cat pins s σ H _ _ v u Q I rx ry ⟨_, _, _, _, rfl, rfl, hh.imm _ _ ip, hh.imm _ _ iq, ?_, fun r hr => post_lst post hh hr (rp.append rq)⟩
      rw [rp.length, rq.length]
      exact Nat.le_trans c lim_le
    · exact False.elim post
  · rename_i a b
    have rd0 := rd
    have re0 := re
    rw [Rel] at rd re
    obtain ⟨p, vs, rfl, ip, rp⟩ := rd
    obtain ⟨q, ws, rfl, iq, rq⟩ := re
    split at post
    · rename_i c
      refine op_catA pins s σ H _ _ v u Q I rx ry ⟨_, _, vs, ws, rfl, rfl, by rw [hK]; exact sqT_mono ip hh.imm, by rw [hK]; exact sqT_mono iq hh.imm, ?_, fun e => ?_, fun e1 e2 => ?_, fun e1 e2 r hr => post_tup post hh hr (rp.append rq)⟩
      · rw [rp.length, rq.length]
        exact Nat.le_trans c lim_le
      · subst e
        have : a = [] := List.eq_nil_of_length_eq_zero rp.length.symm
        subst this
        exact Post.here post hh re0
      · subst e2
        have : b = [] := List.eq_nil_of_length_eq_zero rq.length.symm
        subst this
        rw [List.append_nil] at post
        exact Post.here post hh rd0
    · exact False.elim post
  · rename_i a b
    have rd0 := rd
    rw [Rel] at rd
    obtain ⟨p, vs, rfl, ip, rp⟩ := rd
    subst re
    split at post
    · rename_i c
      simp only [Bool.and_eq_true, decide_eq_true_eq] at c
      obtain ⟨⟨⟨c1, c2⟩, c3⟩, c4⟩ := c
      have ne : vs ≠ [] := fun e => by
        subst e
        have : a = [] := List.eq_nil_of_length_eq_zero rp.length.symm
        subst this
        cases c4
      refine op_repU pins s σ H _ _ v u Q I rx ry ⟨_, _, vs, rfl, rfl, by rw [hK]; exact sqT_mono ip hh.imm, ne, c1, c2, by rw [rp.length]; exact c3, fun e => ?_, fun e r hr => post_tup post hh hr (rp.rep _)⟩
      subst e
      have : (List.replicate (1 : Int).toNat a).flatten = a := by simp
      rw [this] at post
      exact Post.here post hh rd0
    · exact False.elim post
  · rename_i a b
    rw [Rel] at rd
    obtain ⟨p, vs, rfl, ip, rp⟩ := rd
    subst re
    split at post
    · rename_i c
      simp only [Bool.and_eq_true, decide_eq_true_eq] at c
      obtain ⟨⟨c1, c2⟩, c3⟩ := c
      refine op_rep pins s σ H _ _ v u Q I rx ry ⟨_, _, _, rfl, rfl, hh.imm _ _ ip, by omega, by omega, ?_, fun r hr => post_lst post hh hr (rp.rep _)⟩
      rw [rp.length]
      refine Nat.le_trans ?_ lim_le
      unfold lim
      have h1 : b.toNat ≤ 1000 := by omega
      calc a.length * b.toNat ≤ 1000 * 1000 := Nat.mul_le_mul c3 h1
        _ = 1000000 := rfl
    · exact False.elim post
  · exact False.elim post
theorem seen_ok {ω : Wd} {M : List O} {H : Hp} {d : D} {v : V} (h : HRel G ω M H) (r : Rel G ω d v) (hd : dat 60 (seen M d) = true) : Dp G.K H v (toP (seen M d)) := by
  cases d with
  | ref a =>
    have e : ∃ ds, listOf M (.ref a) = some ds ∧ seen M (.ref a) = .lst ds := by
      unfold listOf
      cases c : M[a]? with
      | none =>
        have : seen M (.ref a) = .ref a := by unfold seen; dsimp only; rw [c]
        rw [this] at hd
        simp [dat] at hd
      | some o =>
        cases o with
        | lst ds =>
          have : seen M (.ref a) = .lst ds := by unfold seen; dsimp only; rw [c]
          exact ⟨ds, by rw [this], this⟩
        | _ =>
          have : seen M (.ref a) = .ref a := by unfold seen; dsimp only; rw [c]
          rw [this] at hd
          simp [dat] at hd
    obtain ⟨ds, e1, e2⟩ := e
    rw [e2] at hd ⊢
    obtain ⟨p, vs, f1, f2, f3⟩ := listOf_ok h r e1
    subst f1
    rw [toP]
    rw [dat] at hd
    exact .lst (SqL.of f2) (dps_of h.imm _ ds vs hd f3)
  | _ => exact dp_of h.imm 60 _ v hd r
theorem flat_ok {ω : Wd} {d : D} {v : V} (h : flat d = true) (r : Rel G ω d v) : flatV v = true := by
  cases d with
  | non => rw [Rel] at r; subst r; rfl
  | bl b => rw [Rel] at r; subst r; rfl
  | int b => rw [Rel] at r; subst r; rfl
  | str b => rw [Rel] at r; subst r; rfl
  | _ => cases h
theorem eq_ok {ω : Wd} {d e : D} {v w : V} (hd : flat d = true) (he : flat e = true) (r : Rel G ω d v) (q : Rel G ω e w) : eqV v w = eqD d e := by
  cases d with
  | non =>
    rw [Rel] at r
    subst r
    cases e <;> first | (rw [Rel] at q; subst q; simp [eqV, eqD]; done) | cases he
  | bl b =>
    rw [Rel] at r
    subst r
    cases e <;> first | (rw [Rel] at q; subst q; simp [eqV, eqD, dec_beq]; done) | cases he
  | int b =>
    rw [Rel] at r
    subst r
    cases e <;> first | (rw [Rel] at q; subst q; simp [eqV, eqD, dec_beq]; done) | cases he
  | str b =>
    rw [Rel] at r
    subst r
    cases e <;> first | (rw [Rel] at q; subst q; simp [eqV, eqD, txEq_str]; done) | cases he
  | _ => cases hd
theorem in_ok {ω : Wd} {d : D} {v : V} (hd : flat d = true) (r : Rel G ω d v) : ∀ {ds : List D} {vs : List V}, ds.all flat = true → Rels G ω ds vs → vs.all flatV = true ∧ inV v vs = inD d ds
  | [], vs, _, q => by
    rw [Rels] at q
    subst q
    exact ⟨rfl, rfl⟩
  | x :: ds, vs, h, q => by
    rw [Rels] at q
    obtain ⟨w, t, e, a, b⟩ := q
    subst e
    simp only [List.all_cons, Bool.and_eq_true] at h
    obtain ⟨h1, h2⟩ := in_ok hd r h.2 b
    refine ⟨by simp [flat_ok h.1 a, h1], ?_⟩
    have e2 : inV v t = inD d ds := h2
    unfold inV at e2 ⊢
    rw [List.any_cons, inD, e2, eq_ok h.1 hd a r]
theorem opC (hK : Y.K = G.K) (hu : Y.A.units + 64 < cLine) (o : COp) : OpR Y (compareOp (co o)) (rC G o) := by
  intro pins s σ H x y v u Q I rx ry h
  obtain ⟨ω, M, d, e, hh, rd, re, post⟩ := h
  unfold cmpop at post
  cases o with
  | eq =>
    dsimp only at post
    split at post
    · rename_i c
      rw [Bool.and_eq_true] at c
      refine op_eqD hu pins s σ H _ _ v u Q I rx ry ⟨_, _, by rw [hK]; exact seen_ok hh rd c.1, by rw [hK]; exact seen_ok hh re c.2, shaped_of c.1, shaped_of c.2, ?_⟩
      rw [eqv_of 60 60 _ _ c.1 c.2]
      exact post_bl post hh
    · exact False.elim post
  | ne =>
    dsimp only at post
    split at post
    · rename_i c
      rw [Bool.and_eq_true] at c
      refine op_neD hu pins s σ H _ _ v u Q I rx ry ⟨_, _, by rw [hK]; exact seen_ok hh rd c.1, by rw [hK]; exact seen_ok hh re c.2, shaped_of c.1, shaped_of c.2, ?_⟩
      rw [eqv_of 60 60 _ _ c.1 c.2]
      exact post_bl post hh
    · exact False.elim post
  | lt =>
    dsimp only at post
    split at post
    · rw [Rel] at rd re
      subst rd re
      exact op_lt pins s σ H _ _ v u Q I rx ry ⟨_, _, rfl, rfl, post_bl post hh⟩
    · exact False.elim post
  | le =>
    dsimp only at post
    split at post
    · rw [Rel] at rd re
      subst rd re
      exact op_le pins s σ H _ _ v u Q I rx ry ⟨_, _, rfl, rfl, post_bl post hh⟩
    · exact False.elim post
  | gt =>
    dsimp only at post
    split at post
    · rw [Rel] at rd re
      subst rd re
      exact op_gt pins s σ H _ _ v u Q I rx ry ⟨_, _, rfl, rfl, post_bl post hh⟩
    · exact False.elim post
  | ge =>
    dsimp only at post
    split at post
    · rw [Rel] at rd re
      subst rd re
      exact op_ge pins s σ H _ _ v u Q I rx ry ⟨_, _, rfl, rfl, post_bl post hh⟩
    · exact False.elim post
  | is =>
    dsimp only at post
    split at post
    · rw [Rel] at re
      subst re
      refine op_isN pins s σ H _ _ v u Q I rx ry ⟨rfl, ?_⟩
      have q := post_bl post hh
      cases d with
      | non => rw [Rel] at rd; subst rd; exact q
      | bl b => rw [Rel] at rd; subst rd; exact q
      | int b => rw [Rel] at rd; subst rd; exact q
      | str b => rw [Rel] at rd; subst rd; exact q
      | tup ds => rw [Rel] at rd; obtain ⟨p, vs, e, _⟩ := rd; subst e; exact q
      | lst ds => rw [Rel] at rd; obtain ⟨p, vs, e, _⟩ := rd; subst e; exact q
      | obj _ _ _ => rw [Rel] at rd; obtain ⟨p, _, _, e, _⟩ := rd; subst e; exact q
      | dct _ _ => rw [Rel] at rd; obtain ⟨p, _, _, e, _⟩ := rd; subst e; exact q
      | exc _ _ _ => rw [Rel] at rd; obtain ⟨p, _, _, _, e, _⟩ := rd; subst e; exact q
      | ref a => rw [Rel] at rd; obtain ⟨p, _, e⟩ := rd; subst e; exact q
      | fro ds => rw [Rel] at rd; obtain ⟨p, vs, e, _⟩ := rd; subst e; exact q
      | lams ns => rw [Rel] at rd; obtain ⟨p, vs, e, _⟩ := rd; subst e; exact q
    · exact False.elim post
  | isn =>
    dsimp only at post
    split at post
    · rw [Rel] at re
      subst re
      refine op_notN pins s σ H _ _ v u Q I rx ry ⟨rfl, ?_⟩
      have q := post_bl post hh
      cases d with
      | non => rw [Rel] at rd; subst rd; exact q
      | bl b => rw [Rel] at rd; subst rd; exact q
      | int b => rw [Rel] at rd; subst rd; exact q
      | str b => rw [Rel] at rd; subst rd; exact q
      | tup ds => rw [Rel] at rd; obtain ⟨p, vs, e, _⟩ := rd; subst e; exact q
      | lst ds => rw [Rel] at rd; obtain ⟨p, vs, e, _⟩ := rd; subst e; exact q
      | obj _ _ _ => rw [Rel] at rd; obtain ⟨p, _, _, e, _⟩ := rd; subst e; exact q
      | dct _ _ => rw [Rel] at rd; obtain ⟨p, _, _, e, _⟩ := rd; subst e; exact q
      | exc _ _ _ => rw [Rel] at rd; obtain ⟨p, _, _, _, e, _⟩ := rd; subst e; exact q
      | ref a => rw [Rel] at rd; obtain ⟨p, _, e⟩ := rd; subst e; exact q
      | fro ds => rw [Rel] at rd; obtain ⟨p, vs, e, _⟩ := rd; subst e; exact q
      | lams ns => rw [Rel] at rd; obtain ⟨p, vs, e, _⟩ := rd; subst e; exact q
    · exact False.elim post
  | inn =>
    dsimp only at post
    split at post
    · rename_i cc t
      rw [Rel] at rd re
      subst rd re
      refine op_in_str pins s σ H _ _ v u Q I rx ry ⟨_, _, rfl, rfl, ?_⟩
      rw [in_sS]
      exact post_bl post hh
    split at post
    · rename_i ds c
      split at post
      · rename_i f
        rw [Bool.and_eq_true] at f
        obtain ⟨p, vs, e1, e2, e3⟩ := itemsOf_ok hh re c
        subst e1
        obtain ⟨h1, h2⟩ := in_ok f.1 rd f.2 e3
        refine op_in_seq pins s σ H _ _ v u Q I rx ry ⟨p, vs, rfl, e2.imp (fun z => SqL.of z) (fun z => by rw [hK]; exact z), flat_ok f.1 rd, h1, ?_⟩
        rw [if_neg Bool.false_ne_true, h2]
        exact post_bl post hh
      · exact False.elim post
    · exact False.elim post
  | nin =>
    dsimp only at post
    split at post
    · rename_i ds c
      split at post
      · rename_i f
        rw [Bool.and_eq_true] at f
        obtain ⟨p, vs, e1, e2, e3⟩ := itemsOf_ok hh re c
        subst e1
        obtain ⟨h1, h2⟩ := in_ok f.1 rd f.2 e3
        refine op_notIn_seq pins s σ H _ _ v u Q I rx ry ⟨p, vs, rfl, e2.imp (fun z => SqL.of z) (fun z => by rw [hK]; exact z), flat_ok f.1 rd, h1, ?_⟩
        rw [if_pos rfl, h2]
        exact post_bl post hh
      · exact False.elim post
    · exact False.elim post
end
end Ev


set_option autoImplicit false
set_option Elab.async false
set_option linter.all false
set_option maxRecDepth 100000
set_option maxHeartbeats 4000000
/-! EvO: own exception classes are called, by position or by name, over any of the bases; the exception stays as a value. -/
namespace PySem
namespace EvXK
open Builtin Builtin.ObjectAttr
section
variable {M : Model} {A : Around} {E : Value → Shared → Prop} {h : Heap} {g : Array GenState} {d : Drawn} {t : Nat} {os : OsState}
variable {nm q : Str} {C N : Addr} {bs bm bmB : List Value} {hdct : Bool} {sn : List Str} {sub : List Value} {ab : Bool} {col : Option Bool} {dd : Option Addr} {k0 k1 k2 k3 k5 : Option Value} {B newId initId : String}
theorem chk (FB : ExcBaseFacts B newId initId bmB) (hT : ∀ X : String, bm.contains (.type X) = bmB.contains (.type X)) {rest : List Value} {kw : List (Str × Value)} {Q : Unit → Shared → Prop}
    (hC : h.get? C = some (excClassObj nm q C N bs bm hdct sn sub ab col dd k0 k1 k2 k3 k5 newId)) (hq : Q () ⟨h, g, d, t, os⟩) : wpAny M A (checkBuiltinCall newId ⟨.ref C :: rest, kw⟩) Q E ⟨h, g, d, t, os⟩ := by
  have hB : (Value.ref C :: bm).contains (.type B) = true := by rw [List.contains_cons, hT, FB.hasB, Bool.or_true]
  have hs := FB.noStar
  simp only [checkBuiltinCall, FB.newKind, FB.newSplit, FB.newRow]
  repeat (first
    | refine wpAny_loadPart_at hC ?_
    | (refine wpAny_isSubtype_exc hC ?_; rw [hB])
    | refine wpAny_staticBase_exc hC ?_
    | refine wpAny_madeBy_exc hC ?_
    | simp only [bne_self_eq_false, Bool.false_eq_true, if_false]
    | wp_step)
  exact hq
end
section
variable {prog : Program} {w : World} {A : Around} {E : Value → Shared → Prop} {R : Result → Shared → Prop} {h : Heap} {g : Array GenState} {d : Drawn} {t : Nat} {os : OsState}
variable {nm q : Str} {C N : Addr} {bs bm bmB : List Value} {hdct : Bool} {sn : List Str} {sub : List Value} {ab : Bool} {col : Option Bool} {dd : Option Addr} {k0 k1 k2 k3 k5 : Option Value} {B newId initId : String}
theorem new (FB : ExcBaseFacts B newId initId bmB) (hT : ∀ X : String, bm.contains (.type X) = bmB.contains (.type X)) {rest : List Value} {kw : List (Str × Value)}
    (hC : h.get? C = some (excClassObj nm q C N bs bm hdct sn sub ab col dd k0 k1 k2 k3 k5 newId))
    (hq : R (.ok (.ret (.ref (h.objs.size + 1)))) ⟨(h.push (W.kdv_tup rest)).push (HandSPX.excO C h.objs.size), g, d, t, os⟩) (hrest : rest.length ≤ sizeLine) :
    codeAny (model prog w) A (.builtin newId ⟨.ref C :: rest, kw⟩) R ⟨h, g, d, t, os⟩ := by
  have he := FB.ends
  have c1 : (Value.ref C :: bm).contains (.type B) = true := by rw [List.contains_cons, hT, FB.hasB, Bool.or_true]
  have c2 : (Value.ref C :: bm).contains (.type "AttributeError") = false := by rw [List.contains_cons, hT, FB.noAttr]; rfl
  have c3 : (Value.ref C :: bm).contains (.type "NameError") = false := by rw [List.contains_cons, hT, FB.noName]; rfl
  refine codeAny_builtinAt FB.entry ?_
  unfold Builtin.«BaseException.__new__»
  refine wpAt_bind ?_
  show wpAt _ _ _ (stack >>= _) _ _ _
  refine wpAt_bind (wpAt_stack fun p below => wpAt_of_wpAny ?_)
  wp_walk
  refine wpAt_of_wpAny ?_
  rw [FB.owner]
  repeat (first
    | with_reducible refine wpAny_madeHere_exc FB.canon hC ?_
    | with_reducible refine wpAny_loadPart_at hC ?_
    | (with_reducible refine wpAny_isSubtype_exc hC ?_; first | rw [c1] | rw [c2] | rw [c3])
    | wp_step)
  show R _ _
  rw [Heap.size_push]
  exact hq
theorem tcall (FB : ExcBaseFacts B newId initId bmB) (hT : ∀ X : String, bm.contains (.type X) = bmB.contains (.type X)) {rest : List Value} {kw : List (Str × Value)} {fI : Addr} {Q : Fin → Shared → Prop}
    (hC : h.get? C = some (excClassObj nm q C N bs bm hdct sn sub ab col dd k0 k1 k2 k3 k5 newId))
    (hi : W.Looks (model prog w) h (typeLookup (.ref C) "__init__") (some (.ref fI))) (hb : ∀ self, W.Looks (model prog w) h (bindSpecial (.ref fI) self) (.ref fI, [self])) (hrest : rest.length ≤ sizeLine)
    (hq : codeAny (model prog w) A (.call (.ref fI) ⟨.ref (h.objs.size + 1) :: rest, kw⟩)
      (fun r s' => match r with | .ok (.ret v) => v = .none ∧ Q (.done (.ret (.ref (h.objs.size + 1)))) s' | .ok _ => False | .error e => E e s')
      ⟨(h.push (W.kdv_tup rest)).push (HandSPX.excO C h.objs.size), g, d, t, os⟩) :
    wpAny (model prog w) A (Builtin.«type.__call__» ⟨.ref C :: rest, kw⟩) Q E ⟨h, g, d, t, os⟩ := by
  repeat (first
    | with_reducible refine wpAny_loadPart_at hC ?_
    | with_reducible refine wpAny_madeBy_exc hC ?_
    | wp_step)
  refine codeAny_call_builtin_code (Code.quiet_builtin _ FB.quiet) (chk FB hT hC ?_)
  refine new FB hT hC ?_ hrest
  show wpAny _ _ _ _ _ _
  have k : ∀ b o, h.get? b = some o → ((h.push (W.kdv_tup rest)).push (HandSPX.excO C h.objs.size)).get? b = some o := fun b o e => Heap.get?_push_of_some _ (Heap.get?_push_of_some _ e)
  have hC1 := k _ _ hC
  have hg : ((h.push (W.kdv_tup rest)).push (HandSPX.excO C h.objs.size)).get? (h.objs.size + 1) = some (HandSPX.excO C h.objs.size) := by heap_get
  have hcC : (Value.ref C :: bm).contains (.ref C) = true := by simp
  have i1 := hi.keeps k
  have b1 := (hb (.ref (h.objs.size + 1))).keeps k
  unfold isInstance
  repeat (first
    | with_reducible refine wpAny_loadPart_at hg ?_
    | (with_reducible refine wpAny_isSubtype_exc hC1 ?_; rw [hcC])
    | wp_step)
  show wpAny _ _ (typeLookup (.ref C) _) _ _ _
  refine i1.at ?_
  refine wpAny_holding (wpAny_bind (b1.at ?_))
  refine wpAny_bind (wpAny_call (codeAny_mono hq fun r s' z => ?_))
  rcases r with e | (v | _ | _ | _) <;> first | exact z | exact z.elim | skip
  obtain ⟨rfl, z⟩ := z
  first
    | exact wpAny_pure (wpAny_pure z)
    | (wp_walk; exact z)
theorem ctc {M : Model} {rest : List Value} {kw : List (Str × Value)} {Q : Unit → Shared → Prop} (hC : h.get? C = some (excClassObj nm q C N bs bm hdct sn sub ab col dd k0 k1 k2 k3 k5 newId))
    (hq : Q () ⟨h, g, d, t, os⟩) : wpAny M A (checkBuiltinCall "type.__call__" ⟨.ref C :: rest, kw⟩) Q E ⟨h, g, d, t, os⟩ := by
  have f3 := tc_sub
  have hT : (⟨h, g, d, t, os⟩ : Shared).TypeIs (.ref C) "type" := ⟨_, hC, rfl⟩
  simp only [checkBuiltinCall, tc_kind, tc_split]
  repeat (any_goals (first | assumption | with_reducible refine wpAny_loadPart_at hC ?_ | with_reducible refine wpAny_onRaise ?_ | with_reducible refine wpAny_map ?_ | wp_step))
theorem call (FB : ExcBaseFacts B newId initId bmB) (hT : ∀ X : String, bm.contains (.type X) = bmB.contains (.type X)) {rest : List Value} {kw : List (Str × Value)} {fI : Addr}
    (hC : h.get? C = some (excClassObj nm q C N bs bm hdct sn sub ab col dd k0 k1 k2 k3 k5 newId))
    (hi : W.Looks (model prog w) h (typeLookup (.ref C) "__init__") (some (.ref fI))) (hb : ∀ self, W.Looks (model prog w) h (bindSpecial (.ref fI) self) (.ref fI, [self])) (hrest : rest.length ≤ sizeLine)
    (hq : codeAny (model prog w) (A.under (.builtin "type.__call__" ⟨.ref C :: rest, kw⟩)) (.call (.ref fI) ⟨.ref (h.objs.size + 1) :: rest, kw⟩) (W.InitBack (h.objs.size + 1) R)
      ⟨(h.push (W.kdv_tup rest)).push (HandSPX.excO C h.objs.size), g, d, t, os⟩) :
    codeAny (model prog w) A (.call (.ref C) ⟨rest, kw⟩) R ⟨h, g, d, t, os⟩ := by
  have f1 := tc_lookup
  have f2 := tc_bind (.ref C)
  have hTy : (⟨h, g, d, t, os⟩ : Shared).TypeIs (.ref C) "type" := ⟨_, hC, rfl⟩
  refine codeAny_of_tree ?_
  show wpAny _ _ (callAny (.ref C) _) _ _ _
  repeat (any_goals (first | assumption | with_reducible refine wpAny_loadPart_at hC ?_ | wp_step))
  refine ⟨rfl, ?_⟩
  refine codeAny_call_builtin_at (Code.quiet_builtin _ (by decide +kernel)) entry_typeCall (ctc hC (tcall FB hT hC hi hb hrest ?_))
  refine codeAny_mono hq fun r s' z => ?_
  rcases r with e | (v | _ | _ | _) <;> exact z
end
end EvXK
end PySem


set_option autoImplicit false
set_option Elab.async false
set_option linter.all false
set_option maxRecDepth 100000
set_option maxHeartbeats 4000000
/-! EvP: fields of exceptions over any of the bases. -/
namespace PySem
namespace EvXK
open PySem.W PySem.Calls PyProof.Rows PySem.HandSPX
/-- own classes, then the base's mro -/
def OwnM (tl l : List Value) : Prop := ∃ rs : List Addr, l = rs.map Value.ref ++ tl
def ownM (tl : List Value) : List Value → Bool
  | .ref a :: r => ownM tl r
  | l => l == tl
theorem ownM_ok {tl : List Value} : ∀ {l : List Value}, ownM tl l = true → OwnM tl l
  | [], e => ⟨[], beq_iff_eq.mp e⟩
  | .ref c :: r, e => by
    obtain ⟨rs, h⟩ := ownM_ok (show ownM tl r = true from e)
    exact ⟨c :: rs, by rw [h]; rfl⟩
  | .none :: _, e => ⟨[], beq_iff_eq.mp e⟩
  | .ellipsis :: _, e => ⟨[], beq_iff_eq.mp e⟩
  | .notImplemented :: _, e => ⟨[], beq_iff_eq.mp e⟩
  | .bool _ :: _, e => ⟨[], beq_iff_eq.mp e⟩
  | .int _ _ :: _, e => ⟨[], beq_iff_eq.mp e⟩
  | .float _ _ :: _, e => ⟨[], beq_iff_eq.mp e⟩
  | .str _ _ :: _, e => ⟨[], beq_iff_eq.mp e⟩
  | .bytes _ _ :: _, e => ⟨[], beq_iff_eq.mp e⟩
  | .type _ :: _, e => ⟨[], beq_iff_eq.mp e⟩
  | .builtin _ :: _, e => ⟨[], beq_iff_eq.mp e⟩
/-- what a built-in base must give -/
structure XB (newId : String) (tl : List Value) : Prop where
  base : ∃ B initId, ExcBaseFacts B newId initId tl
  pass : ∀ self : Value, refuseLoop self "__setattr__" tl = pure ()
  obj : tl.contains (.type "object") = true
theorem OwnM.pass {tl l : List Value} (h : OwnM tl l) (q : ∀ self : Value, refuseLoop self "__setattr__" tl = pure ()) (self : Value) : refuseLoop self "__setattr__" l = pure () := by
  obtain ⟨rs, rfl⟩ := h
  induction rs with
  | nil => exact q self
  | cons a r ih =>
    show refuseLoop self "__setattr__" (.ref a :: (r.map Value.ref ++ tl)) = pure ()
    rw [refuseLoop_ref]
    exact ih
theorem OwnM.has {tl l : List Value} (h : OwnM tl l) (X : String) : l.contains (.type X) = tl.contains (.type X) := by
  obtain ⟨rs, rfl⟩ := h
  induction rs with
  | nil => rfl
  | cons a r ih =>
    show (Value.ref a :: (r.map Value.ref ++ tl)).contains (.type X) = _
    rw [List.contains_cons, ih]
    rfl
theorem OwnM.ne {tl l : List Value} (h : OwnM tl l) (q : tl.contains (.type "object") = true) : l.isEmpty = false := by
  cases l with
  | nil =>
    have := h.has "object"
    rw [q] at this
    cases this
  | cons _ _ => rfl
theorem xb_VE : XB "ValueError.__new__" [.type "ValueError", .type "Exception", .type "BaseException", .type "object"] := ⟨⟨_, _, F.excBase_ValueError⟩, F.store_ValueError.passes, by decide +kernel⟩
theorem xb_LE : XB "LookupError.__new__" [.type "LookupError", .type "Exception", .type "BaseException", .type "object"] := ⟨⟨_, _, F.excBase_LookupError⟩, F.store_LookupError.passes, by decide +kernel⟩
theorem xb_IE : XB "IndexError.__new__" [.type "IndexError", .type "LookupError", .type "Exception", .type "BaseException", .type "object"] := ⟨⟨_, _, F.excBase_IndexError⟩, F.store_IndexError.passes, by decide +kernel⟩
section
open Builtin Builtin.ObjectAttr
variable {prog : Program} {w : World} {A : Around} {E : Value → Shared → Prop} {R : Result → Shared → Prop} {hp : Heap} {g : Array GenState} {d : Drawn} {t : Nat} {os : OsState}
/-- a further field -/
theorem more {K : W.Frag} {tl : List Value} {newId : String} {name : Str} {tk : Tok} {v : Value} {x C dx : Addr} {fv : Array Value} {cd : ClassData} {m0 : Str → Option Value} {nl : List Str} (B : XB newId tl)
    (X : K.In hp) (hx : hp.get? x = some { cls := .ref C, dict := some dx, data := .fields fv }) (hns : hp.Ns1 dx m0) (hw : Within m0 nl) (hz : nl.length ≤ 1000) (hcd : W.clsIn K C = some cd) (hm : OwnM tl cd.mro) (hh : cd.hasDict = true)
    (ha : W.findIn K (.ref C) name = some none)
    (hq : ∀ h' tk', (∀ b o, b ≠ dx → hp.get? b = some o → h'.get? b = some o) → h'.Ns1 dx (fun y => if y = name then some v else m0 y) → R (.ok (.ret .none)) ⟨h', g, d, tk', os⟩) :
    codeAny (model prog w) A (.call (.builtin "object.__setattr__") ⟨[.ref x, .str name tk, v], []⟩) R ⟨hp, g, d, t, os⟩ := by
  obtain ⟨oD, e1, e2, hoD, hdD, _⟩ := hns.count hw
  have I : W.InstAt hp x { cls := .ref C, dict := some dx, data := .fields fv } C (some oD) := ⟨hx, rfl, rfl, hoD⟩
  have SF := F.store_object
  have ne := hm.ne B.obj
  have hob : cd.mro.contains (.type "object") = true := (hm.has "object").trans B.obj
  have sub : W.Looks (model prog w) hp (isInstance (.ref x) (.type "object")) true := I.type.andThen (W.looks_mroIn X (by unfold W.mroIn; rw [hcd, Option.bind_some, if_neg (by rw [ne]; decide), hob]))
  refine codeAny_call_builtin SF.slot.plain SF.entry (@W.check_slot (model prog w) _ _ ⟨hp, g, d, t, os⟩ "object.__setattr__" "object" "__setattr__" (.ref x) [.str name tk, v] [] _ SF.kind SF.split sub (SF.args (.ref x) (.str name tk) v) ?_)
  have l1 : W.Looks (model prog w) hp (mroOf (.ref C)) cd.mro := (W.looks_clsIn X hcd).andThen .now
  have l3 : W.Looks (model prog w) hp (storeTaker? none) none := .now
  have l4 : W.Looks (model prog w) hp (classData C) cd := W.looks_clsIn X hcd
  rw [W.osa_eq, refuse_eq]
  refine wpAny_bind (wpAny_bind (I.type.at (wpAny_bind (l1.at ?_))))
  rw [hm.pass B.pass]
  refine wpAny_pure (wpAny_bind (I.type.at (wpAny_bind ((W.looks_findIn X ha).at (wpAny_bind (l3.at ?_))))))
  show wpAny _ _ (storeInOwnDict (.ref x) (.ref C) (.str name tk) name v false) _ _ _
  obtain ⟨nm, bs, mro, ns, qn, hd, sn, sb, ab, col, del⟩ := cd
  dsimp only at hh
  subst hh
  unfold storeInOwnDict ownDictForStores
  repeat (first
    | with_reducible refine OEX.store_in_old hns hw hz ?_
    | with_reducible refine wpAny_loadPart_at hx ?_
    | with_reducible refine l4.at ?_
    | wp_step)
  intro h' tk' hn' hs
  exact hq h' tk' (fun b o hb ho => (hs.2 b hb).trans ho) hn'
/-- the first field -/
theorem first {K : W.Frag} {tl : List Value} {newId : String} {name : Str} {tk : Tok} {v : Value} {x C : Addr} {fv : Array Value} {cd : ClassData} (B : XB newId tl)
    (X : K.In hp) (hx : hp.get? x = some { cls := .ref C, data := .fields fv }) (hcd : W.clsIn K C = some cd) (hm : OwnM tl cd.mro) (hh : cd.hasDict = true) (ha : W.findIn K (.ref C) name = some none)
    (hq : ∀ h' tk' dx, (∀ b o, b ≠ x → hp.get? b = some o → h'.get? b = some o) → hp.objs.size ≤ dx → dx ≠ x → h'.get? x = some { cls := .ref C, dict := some dx, data := .fields fv } →
      h'.Ns1 dx (fun y => if y = name then some v else none) → R (.ok (.ret .none)) ⟨h', g, d, tk', os⟩) :
    codeAny (model prog w) A (.call (.builtin "object.__setattr__") ⟨[.ref x, .str name tk, v], []⟩) R ⟨hp, g, d, t, os⟩ := by
  have I : W.InstAt hp x { cls := .ref C, data := .fields fv } C none := ⟨hx, rfl, rfl, trivial⟩
  have SF := F.store_object
  have ne := hm.ne B.obj
  have hob : cd.mro.contains (.type "object") = true := (hm.has "object").trans B.obj
  have hxs : x ≠ hp.objs.size := Nat.ne_of_lt (Heap.lt_size hx)
  have sub : W.Looks (model prog w) hp (isInstance (.ref x) (.type "object")) true := I.type.andThen (W.looks_mroIn X (by unfold W.mroIn; rw [hcd, Option.bind_some, if_neg (by rw [ne]; decide), hob]))
  refine codeAny_call_builtin SF.slot.plain SF.entry (@W.check_slot (model prog w) _ _ ⟨hp, g, d, t, os⟩ "object.__setattr__" "object" "__setattr__" (.ref x) [.str name tk, v] [] _ SF.kind SF.split sub (SF.args (.ref x) (.str name tk) v) ?_)
  have l1 : W.Looks (model prog w) hp (mroOf (.ref C)) cd.mro := (W.looks_clsIn X hcd).andThen .now
  have l3 : W.Looks (model prog w) hp (storeTaker? none) none := .now
  have l4 : W.Looks (model prog w) hp (classData C) cd := W.looks_clsIn X hcd
  rw [W.osa_eq, refuse_eq]
  refine wpAny_bind (wpAny_bind (I.type.at (wpAny_bind (l1.at ?_))))
  rw [hm.pass B.pass]
  refine wpAny_pure (wpAny_bind (I.type.at (wpAny_bind ((W.looks_findIn X ha).at (wpAny_bind (l3.at ?_))))))
  show wpAny _ _ (storeInOwnDict (.ref x) (.ref C) (.str name tk) name v false) _ _ _
  obtain ⟨nm, bs, mro, ns, qn, hd, sn, sb, ab, col, del⟩ := cd
  dsimp only at hh
  subst hh
  unfold storeInOwnDict ownDictForStores
  repeat (first
    | with_reducible refine store_in_new ?_ ?_
    | with_reducible refine wpAny_loadPart_at hx ?_
    | with_reducible refine l4.at ?_
    | wp_step)
  · exact ⟨_, #[], _, (Heap.get?_update_ne _ _ _ _ hxs.symm).trans (Heap.get?_push_at rfl rfl), rfl, fun e he => absurd he (by simp), fun _ => rfl⟩
  · intro h' tk' hn' hs
    have hx1 : (hp.push { cls := .type "dict", data := .dict #[] }).get? x = some { cls := .ref C, data := .fields fv } := Heap.get?_push_of_some _ hx
    refine hq h' tk' hp.objs.size (fun b o hb ho => ?_) (Nat.le_refl _) hxs.symm ?_ hn'
    · exact (hs.2 b (Nat.ne_of_lt (Heap.lt_size ho))).trans ((Heap.get?_update_ne _ _ _ _ hb).trans (Heap.get?_push_of_some _ ho))
    · exact (hs.2 x hxs).trans (Heap.get?_update_self _ hx1 rfl)
end
end EvXK
end PySem
namespace Ev
open PySem PySem.Spec PyProof.Rows L2 PySem.EvXK
/-- what the written part says of an own exception class -/
structure XC (K : PySem.W.Frag) (C : Addr) (newId : String) (tl : List Value) : Prop where
  cls : ∃ nm q N bs bm sn sub ab col dd k0 k1 k2 k3 k5, K.lookup C = some (excClassObj nm q C N bs bm true sn sub ab col dd k0 k1 k2 k3 k5 newId) ∧ OwnM tl bm
  sa : PySem.W.findIn K (.ref C) "__setattr__" = some (some (.builtin "object.__setattr__"))
  kC : PySem.W.keepIn K (.ref C) = true
section
variable {X : L2.Cx} {pins : List (Addr × Obj)} {σ : L2.St} {H : Hp} {s : Shared} {a C dx : Addr} {f : Str} {y : V} {u : Value} {fs : List (Str × V)} {Q : Unit → Shared → Prop} {E : Value → Shared → Prop} {A : Around} {newId : String} {tl : List Value}
theorem fst_new (B : XB newId tl) (T : XC X.K C newId tl) (I : Inv X pins σ H s) (e : H a = some (exo a C none)) (hno : PySem.W.findIn X.K (.ref C) f = some none) (ry : RelV y u)
    (h : ∀ dx s', H dx = none → dx ≠ a → Inv X pins σ (upd (upd H dx (exd dx [(f, y)])) a (exo a C (some dx))) s' → Q () s') : wpAny (model X.prog X.w) A (setAttr (.ref a) f u) Q E s := by
  obtain ⟨nm, q, N, bs, bm, sn, sub, ab, col, dd, k0, k1, k2, k3, k5, hC, hbm⟩ := T.cls
  have hcl : PySem.W.clsIn X.K C = some { name := nm, bases := bs, mro := .ref C :: bm, ns := N, qualname := q, hasDict := true, slotNames := sn, subclasses := sub, abstract := ab, collection := col, hasDel := false } := by unfold PySem.W.clsIn; rw [hC] <;> rfl
  obtain ⟨t1, ho⟩ := exo_at I.hok e
  obtain ⟨hp, g, d, t, os⟩ := s
  have hm : OwnM tl (.ref C :: bm) := by
    obtain ⟨rs, rfl⟩ := hbm
    exact ⟨C :: rs, rfl⟩
  refine PySem.W.set_plain I.kIn (ox := { cls := .ref C, dict := none, data := .fields #[.ref t1, .none, .none, .none, .bool false, .none] }) (od := none) ⟨ho, rfl, rfl, trivial⟩ T.sa ?_
  refine EvXK.first B I.kIn ho hcl hm rfl hno (fun h' tk' dx k dn dne hx hn => ?_)
  have hnd : H dx = none := I.hok.fresh dn
  have nd : ∀ {b : Addr} {o : Obj}, hp.get? b = some o → b ≠ dx := fun {b o} q => Nat.ne_of_lt (Nat.lt_of_lt_of_le (Heap.lt_size q) dn)
  have na : ∀ {b : Addr}, H b = none → b ≠ a := fun {b} n z => by
    rw [z, e] at n
    cases n
  have U : Un X.fs [] H (upd (upd H dx (exd dx [(f, y)])) a (exo a C (some dx))) hp h' := {
    keep := fun b o q n _ _ => k b o (na n) q
    slot := fun b o q n _ _ => ⟨o.slots, k b o (na n) q⟩
    free := fun b o q n _ => by rw [upd_ne (na n), upd_ne (nd q)]; exact n
    there := fun b o q _ => by
      by_cases hb : b = a
      · exact ⟨_, by rw [hb]; exact hx⟩
      · exact ⟨o, k b o hb q⟩
    tups := fun b xs q => by rw [upd_ne (at_ne e q exo_tup), upd_ne (ne_of_none q hnd)]; exact q
    frzs := fun b o v q => by rw [upd_ne (at_ne e q exo_frz), upd_ne (ne_of_none q hnd)]; exact q
    tbls := fun b ps q => ⟨#[], by rw [upd_ne (at_ne e q exo_tbl), upd_ne (ne_of_none q hnd), q]; simp⟩ }
  refine h dx _ hnd dne (I.un (t' := tk') U fun b o q => ?_)
  by_cases hb : b = a
  · subst hb
    rw [upd_same] at q
    cases q
    exact exo_ok hx
  · rw [upd_ne hb] at q
    by_cases hd : b = dx
    · subst hd
      rw [upd_same] at q
      cases q
      exact exd_ok hn (relO_put (fs := []) ry fun g => True.intro)
    · rw [upd_ne hd] at q
      refine (I.hok b o q).stay (fun c v hc z => k c v ?_ z) (fun c hc => ?_) (fun c xs hc => ?_)
      · rcases hc with hc | hc
        · rw [hc]
          exact hb
        · exact at_ne e hc exo_own
      · rw [upd_ne (at_ne e hc exo_own), upd_ne (ne_of_none hc hnd)]
        exact hc
      · rw [upd_ne (at_ne e hc exo_tup), upd_ne (ne_of_none hc hnd)]
        exact hc
theorem fst_old (B : XB newId tl) (T : XC X.K C newId tl) (I : Inv X pins σ H s) (e : H a = some (exo a C (some dx))) (ed : H dx = some (exd dx fs)) (hl : fs.length ≤ 900) (hno : PySem.W.findIn X.K (.ref C) f = some none) (ry : RelV y u)
    (h : ∀ s', Inv X pins σ (upd H dx (exd dx ((f, y) :: fs))) s' → Q () s') : wpAny (model X.prog X.w) A (setAttr (.ref a) f u) Q E s := by
  obtain ⟨nm, q, N, bs, bm, sn, sub, ab, col, dd, k0, k1, k2, k3, k5, hC, hbm⟩ := T.cls
  have hcl : PySem.W.clsIn X.K C = some { name := nm, bases := bs, mro := .ref C :: bm, ns := N, qualname := q, hasDict := true, slotNames := sn, subclasses := sub, abstract := ab, collection := col, hasDel := false } := by unfold PySem.W.clsIn; rw [hC] <;> rfl
  obtain ⟨t1, ho⟩ := exo_at I.hok e
  obtain ⟨mA, hns, rel⟩ := exd_at I.hok ed
  have hw := within_of rel
  obtain ⟨hp, g, d, t, os⟩ := s
  obtain ⟨oD, _, _, hoD, _, _⟩ := hns.count hw
  have hm : OwnM tl (.ref C :: bm) := by
    obtain ⟨rs, rfl⟩ := hbm
    exact ⟨C :: rs, rfl⟩
  refine PySem.W.set_plain I.kIn (ox := { cls := .ref C, dict := some dx, data := .fields #[.ref t1, .none, .none, .none, .bool false, .none] }) (od := some oD) ⟨ho, rfl, rfl, hoD⟩ T.sa ?_
  refine EvXK.more B I.kIn ho hns hw (by rw [List.length_map]; omega) hcl hm rfl hno (fun h' tk' k hn => ?_)
  have hd : ∃ o, h'.get? dx = some o := by
    obtain ⟨o, _, _, e', _⟩ := hn
    exact ⟨o, e'⟩
  exact h _ (I.write (t' := tk') (x := dx) (e := dx) (o := exd dx ((f, y) :: fs)) (by rw [ed]; exact True.intro) (.inl rfl) k hd (exd_ok hn (relO_put ry rel)))
end
end Ev


set_option autoImplicit false
set_option Elab.async false
set_option linter.all false
set_option maxRecDepth 100000
set_option maxHeartbeats 4000000
/-! EvQ: exceptions as values: made, read, asked for their class. -/
namespace Ev
open PySem PySem.Spec PyProof.Rows L2 PySem.EvXK
/-! ### self.f = e in the __init__ of an exception class -/
def tFst (K : PySem.W.Frag) (f : Str) (to te : TE) : TS := fun D σ H => te σ H fun y H1 => to σ H1 fun x H2 => ∃ (a C : Addr) (n : String) (tl : List Value), x = .ref a ∧ XB n tl ∧ XC K C n tl ∧ PySem.W.findIn K (.ref C) f = some none ∧
  ((H2 a = some (exo a C none) ∧ ∀ dx, H2 dx = none → dx ≠ a → D.nx σ (upd (upd H2 dx (exd dx [(f, y)])) a (exo a C (some dx)))) ∨
    ∃ (dx : Addr) (fs : List (Str × V)), H2 a = some (exo a C (some dx)) ∧ H2 dx = some (exd dx fs) ∧ fs.length ≤ 900 ∧ D.nx σ (upd H2 dx (exd dx ((f, y) :: fs))))
theorem ps_fst {X : L2.Cx} {o e : Expr} {to te : TE} {f : Str} {p' pos : Pos} (ho : PE X o to) (he : PE X e te) (hs : swapsWith e (some (.Attribute o f p')) pos.line X.env = pure false := by rfl) : PS X (.Assign [.Attribute o f p'] e pos) (tFst X.K f to te) := by
  refine ⟨fun pins s σ H D I h => ?_⟩
  refine plainObj_wpAny_Assign_Attribute (thn (he.run pins s σ H _ I h) fun v s1 ⟨y, H1, I1, r1, q1⟩ => thn (ho.run pins s1 σ H1 _ I1 q1) fun u s2 ⟨x, H2, I2, r2, a, C, n, tl, ex, B, T, hno, q⟩ => ?_) hs
  subst ex
  obtain rfl : u = Value.ref a := r2
  rcases q with ⟨ea, q⟩ | ⟨dx, fs, ea, ed, hl, q⟩
  · exact fst_new B T I2 ea hno r1 fun dx s' z ne J => ⟨σ, _, J, q dx z ne⟩
  · exact fst_old B T I2 ea ed hl hno r1 fun s' J => ⟨σ, _, J, q⟩
/-! ### the __init__'s promise -/
def spX (C : Addr) (code : V) (f : Option Str) : Sp := fun vs H Q _ => ∃ a ws, vs = .ref a :: ws ∧ H a = some (exo a C none) ∧ match f with
  | some f => ∃ v, ws = [v] ∧ ∀ dx, H dx = none → dx ≠ a → Q .non (upd (upd (upd H dx (exd dx [("code", code)])) a (exo a C (some dx))) dx (exd dx [(f, v), ("code", code)]))
  | none => ws = [] ∧ ∀ dx, H dx = none → dx ≠ a → Q .non (upd (upd H dx (exd dx [("code", code)])) a (exo a C (some dx)))
/-- the body of such an __init__ -/
def okI (code : Str) (f : Option Str) : List Stmt → Bool
  | [.Assign [.Attribute (.Name s _) k _] (.Constant (.str z) _ _) _] => (match f with
    | none => decide (s = "self") && (decide (k = "code") && decide (z = code))
    | some _ => false)
  | [.Assign [.Attribute (.Name s _) k _] (.Constant (.str z) _ _) _, .Assign [.Attribute (.Name s2 _) k2 _] (.Name x _) _] => (match f with
    | none => false
    | some f => decide (s = "self") && (decide (k = "code") && (decide (z = code) && (decide (s2 = "self") && (decide (k2 = f) && decide (x = f))))))
  | _ => false
def psI : Option Str → List Str
  | none => ["self"]
  | some f => ["self", f]
/-- the parameters of such an __init__ -/
def okA (f : Option Str) : Arguments → Bool
  | ⟨[], as, none, [], [], none, []⟩ => decide (as.map (·.arg) = psI f)
  | _ => false
structure XCl (K : PySem.W.Frag) (C : Addr) (code : Str) (f : Option Str) where
  n : String
  tl : List Value
  B : XB n tl
  T : XC K C n tl
  fI : Addr
  fd : FuncData
  st : Stmt
  q : Str
  ini : PySem.W.findIn K (.ref C) "__init__" = some (some (.ref fI))
  tI : PySem.W.typeIn K (.ref fI) = some (.type "function")
  noc : PySem.W.findIn K (.ref C) "code" = some none
  nof : ∀ g, f = some g → PySem.W.findIn K (.ref C) g = some none
  fn : FunD K "__init__" q (defArgs st) (defBody st) (defScope st) [] [] fI fd
  sc : FnScope (psI f) (psI f) (defScope st)
  loc : ∀ x ∈ psI f, Vis (defScope st) x
  bd : okI code f (defBody st) = true
  as : okA f (defArgs st) = true
  nd : ∀ g, f = some g → (g == ("__debug__" : Str)) = false ∧ (g == ("__classdict__" : Str)) = false ∧ g ≠ "self"
theorem init_ok {prog : Program} {w : World} {K : PySem.W.Frag} {mg : Str → Option Value} {base : Heap} {C : Addr} {code : Str} {f : Option Str} (x : XCl K C code f) : FnOk prog w K mg base CX0 1 x.fI x.fd (psI f) (spX C (.str code) f) := by
  refine x.fn.ok (k := 0) x.sc (fun vs H Q E h => ?_) fun cdv A outer s H vs Q E hr h => ?_
  · obtain ⟨a, ws, rfl, _, h⟩ := h
    cases f with
    | none =>
      obtain ⟨rfl, _⟩ := h
      rfl
    | some f =>
      obtain ⟨v, rfl, _⟩ := h
      rfl
  · have hb := x.bd
    have hl := x.loc
    unfold okI at hb
    split at hb
    · rename_i s1 p1 k1 p2 z1 p3 p4 p5 eb
      cases f with
      | some f => cases hb
      | none =>
        simp only [Bool.and_eq_true, decide_eq_true_eq] at hb
        obtain ⟨rfl, rfl, rfl⟩ := hb
        rw [eb]
        refine ⟨_, PSs.nox (pss_one (ps_fst (pe_var (i := 0) (x := "self") rfl (hl "self" (by simp [psI])) (by decide) (by decide)) pe_str)), ?_⟩
        obtain ⟨a, ws, rfl, ea, rfl, q⟩ := h
        exact ⟨.ref a, rfl, a, C, x.n, x.tl, rfl, x.B, x.T, x.noc, .inl ⟨ea, q⟩⟩
    · rename_i s1 p1 k1 p2 z1 p3 p4 p5 s2 p6 k2 p7 y1 p8 p9 eb
      cases f with
      | none => cases hb
      | some f =>
        simp only [Bool.and_eq_true, decide_eq_true_eq] at hb
        obtain ⟨rfl, rfl, rfl, rfl, rfl, rfl⟩ := hb
        obtain ⟨d1, d2, d3⟩ := x.nd y1 rfl
        rw [eb]
        refine ⟨_, PSs.nox (pss_cons (ps_fst (pe_var (i := 0) (x := "self") rfl (hl "self" (by simp [psI])) (by decide) (by decide)) pe_str) (pss_one (ps_fst (pe_var (i := 0) (x := "self") rfl (hl "self" (by simp [psI])) (by decide) (by decide)) (pe_var (i := 1) rfl (hl y1 (by simp [psI])) d1 d2)))), ?_⟩
        obtain ⟨a, ws, rfl, ea, v, rfl, q⟩ := h
        refine ⟨.ref a, rfl, a, C, x.n, x.tl, rfl, x.B, x.T, x.noc, .inl ⟨ea, fun dx hd ne => ?_⟩⟩
        refine ⟨v, rfl, .ref a, rfl, a, C, x.n, x.tl, rfl, x.B, x.T, x.nof _ rfl, .inr ⟨dx, [("code", .str z1)], upd_same, ?_, by simp, q dx hd ne⟩⟩
        rw [upd_ne ne, upd_same]
    · cases hb
end Ev


set_option autoImplicit false
set_option Elab.async false
set_option linter.all false
set_option maxRecDepth 100000
set_option maxHeartbeats 4000000
/-! EvR: the call of an own exception class; the exception's fields; isinstance. -/
namespace Ev
open PySem PySem.Spec PyProof.Rows L2 PySem.EvXK
/-- the fields behind the __init__ -/
def xfs (code : Str) : Option Str → List V → List (Str × V)
  | some f, [v] => [(f, v), ("code", .str code)]
  | _, _ => [("code", .str code)]
def argX (f : Option Str) (vs : List V) : Prop := match f with
  | some _ => ∃ v, vs = [v]
  | none => vs = []
theorem okA_some {g : Str} {as : Arguments} (h : okA (some g) as = true) : ∃ a1 a2, as = ⟨[], [a1, a2], none, [], [], none, []⟩ ∧ a1.arg = "self" ∧ a2.arg = g := by
  unfold okA at h
  split at h
  · rename_i l
    have h := of_decide_eq_true h
    cases l with
    | nil => cases h
    | cons a1 l =>
      cases l with
      | nil => simp [psI] at h
      | cons a2 l =>
        cases l with
        | nil =>
          simp [psI] at h
          exact ⟨a1, a2, rfl, h.1, h.2⟩
        | cons _ _ => simp [psI] at h
  · cases h
theorem okA_none {as : Arguments} (h : okA none as = true) : ∃ a1, as = ⟨[], [a1], none, [], [], none, []⟩ ∧ a1.arg = "self" := by
  unfold okA at h
  split at h
  · rename_i l
    have h := of_decide_eq_true h
    cases l with
    | nil => cases h
    | cons a1 l =>
      cases l with
      | nil =>
        simp [psI] at h
        exact ⟨a1, rfl, h⟩
      | cons _ _ => simp [psI] at h
  · cases h
section
variable {K : PySem.W.Frag} {C : Addr} {code : Str} {f : Option Str}
theorem XCl.dn (x : XCl K C code f) : ∃ kV doc pm an cdv ct, x.fd = PySem.W.fnOf "__init__" x.q (defArgs x.st) (defBody x.st) (defScope x.st) .none kV doc pm an cdv ct := by
  obtain ⟨oc, od, dV, kV, doc, pm, an, cdv, ct, osl, e, lk, hcd, hD, hK⟩ := x.fn.ex
  rcases hD with ⟨_, h⟩ | ⟨e2, _⟩
  · subst h
    exact ⟨kV, doc, pm, an, cdv, ct, e⟩
  · exact absurd rfl e2
theorem XCl.b0 (x : XCl K C code none) (s : Shared) (a : Value) : BindsTo s x.fd ⟨[a], []⟩ [("self", a)] := by
  obtain ⟨kV, doc, pm, an, cdv, ct, e⟩ := x.dn
  obtain ⟨a1, h1, h2⟩ := okA_none x.as
  rw [h1] at e
  obtain ⟨n1, y1, p1⟩ := a1
  dsimp only at h2
  subst h2
  rw [e]
  exact .of_eq rfl
theorem XCl.b1 {g : Str} (x : XCl K C code (some g)) (s : Shared) (a v : Value) : BindsTo s x.fd ⟨[a, v], []⟩ [("self", a), (g, v)] := by
  obtain ⟨kV, doc, pm, an, cdv, ct, e⟩ := x.dn
  obtain ⟨a1, a2, h1, h2, h3⟩ := okA_some x.as
  have hn := (x.nd g rfl).2.2
  rw [h1] at e
  obtain ⟨n1, y1, p1⟩ := a1
  obtain ⟨n2, y2, p2⟩ := a2
  dsimp only at h2 h3
  subst h2
  subst h3
  rw [e]
  refine .of_eq ?_
  have z : (n2 == ("self" : Str)) = false := by simpa using hn
  simp [bindArgs, PySem.W.fnOf, z, List.lookup, seqItems?]
  rfl
theorem XCl.bk {g : Str} (x : XCl K C code (some g)) (s : Shared) (a v : Value) : BindsTo s x.fd ⟨[a], [(g, v)]⟩ [("self", a), (g, v)] := by
  obtain ⟨kV, doc, pm, an, cdv, ct, e⟩ := x.dn
  obtain ⟨a1, a2, h1, h2, h3⟩ := okA_some x.as
  have hn := (x.nd g rfl).2.2
  rw [h1] at e
  obtain ⟨n1, y1, p1⟩ := a1
  obtain ⟨n2, y2, p2⟩ := a2
  dsimp only at h2 h3
  subst h2
  subst h3
  rw [e]
  refine .of_eq ?_
  have z : (n2 == ("self" : Str)) = false := by simpa using hn
  simp [bindArgs, PySem.W.fnOf, z, List.lookup, seqItems?]
  rfl
end
section
variable {X : L2.Cx} {pins : List (Addr × Obj)} {σ : L2.St} {H : Hp} {s : Shared} {C : Addr} {code : Str} {f : Option Str} {Q : VK} {us full : List Value} {kw : List (Str × Value)} {vs : List V}
theorem upd3 {H : Hp} {a dx : Addr} {A B D E : HO} (ne : dx ≠ a) : upd (upd (upd (upd H a A) dx B) a D) dx E = upd (upd H dx E) a D := by
  funext b
  by_cases h1 : b = dx
  · subst h1
    rw [upd_same, upd_ne ne, upd_same]
  · rw [upd_ne h1]
    by_cases h2 : b = a
    · subst h2
      rw [upd_same, upd_same]
    · rw [upd_ne h2, upd_ne h1, upd_ne h2, upd_ne h2, upd_ne h1]
theorem upd2 {H : Hp} {a dx : Addr} {A B D : HO} (ne : dx ≠ a) : upd (upd (upd H a A) dx B) a D = upd (upd H dx B) a D := by
  funext b
  by_cases h2 : b = a
  · subst h2
    rw [upd_same, upd_same]
  · rw [upd_ne h2, upd_ne h2]
    by_cases h1 : b = dx
    · subst h1
      rw [upd_same, upd_same]
    · rw [upd_ne h1, upd_ne h1, upd_ne h2]
/-- C(..) -/
theorem run_mkx (x : XCl X.K C code f) (hr : Room 2 X.A) (I : Inv X pins σ H s) (hz : us.length ≤ 1000) (hb : ∀ s a, BindsTo s x.fd ⟨a :: us, kw⟩ ((psI f).zip (a :: full))) (r : Vals vs full) (hv : argX f vs)
    (q : ∀ a dx, H a = none → H dx = none → dx ≠ a → Q (.ref a) (upd (upd H dx (exd dx (xfs code f vs))) a (exo a C (some dx)))) : wpAny (model X.prog X.w) X.A (PySem.call (.ref C) us kw) (EP X pins σ Q) X.xe s := by
  obtain ⟨nm, qn, N, bs, bm, sn, sub, ab, col, dd, k0, k1, k2, k3, k5, hC, hbm⟩ := x.T.cls
  obtain ⟨Bn, initId, FB⟩ := x.B.base
  obtain ⟨hp, g, dr, tk, os⟩ := s
  have hsz : hp.objs.size ≤ hp.objs.size + 1 := Nat.le_succ _
  have hn : H (hp.objs.size + 1) = none := I.hok.fresh hsz
  have kk : ∀ b o, hp.get? b = some o → ((hp.push (PySem.W.kdv_tup us)).push (PySem.HandSPX.excO C hp.objs.size)).get? b = some o := fun b o e => Heap.get?_push_of_some _ (Heap.get?_push_of_some _ e)
  have hget : ((hp.push (PySem.W.kdv_tup us)).push (PySem.HandSPX.excO C hp.objs.size)).get? (hp.objs.size + 1) = some (PySem.HandSPX.excO C hp.objs.size) := by heap_get
  have I2 : Inv X pins σ (upd H (hp.objs.size + 1) (exo (hp.objs.size + 1) C none)) ⟨(hp.push (PySem.W.kdv_tup us)).push (PySem.HandSPX.excO C hp.objs.size), g, dr, tk, os⟩ :=
    I.laid (t' := tk) (a := hp.objs.size + 1) (o := exo (hp.objs.size + 1) C none) (h' := (hp.push (PySem.W.kdv_tup us)).push (PySem.HandSPX.excO C hp.objs.size)) kk hsz (exo_ok hget)
  have r2 : Vals (V.ref (hp.objs.size + 1) :: vs) (Value.ref (hp.objs.size + 1) :: full) := .cons rfl r
  have hus : us.length ≤ sizeLine := by
    rw [sizeLine_eq]
    omega
  have hq : spX C (.str code) f (V.ref (hp.objs.size + 1) :: vs) (upd H (hp.objs.size + 1) (exo (hp.objs.size + 1) C none)) (fun v H2 => v = .non ∧ Q (.ref (hp.objs.size + 1)) H2) (fun _ _ _ => False) := by
    refine ⟨_, _, rfl, upd_same, ?_⟩
    cases f with
    | none =>
      have hv : vs = [] := hv
      subst hv
      refine ⟨rfl, fun dx hd ne => ⟨rfl, ?_⟩⟩
      rw [upd_ne ne] at hd
      rw [upd2 ne]
      exact q _ dx hn hd ne
    | some f =>
      obtain ⟨v, rfl⟩ := hv
      refine ⟨v, rfl, fun dx hd ne => ⟨rfl, ?_⟩⟩
      rw [upd_ne ne] at hd
      rw [upd3 ne]
      exact q _ dx hn hd ne
  refine wpAny_call (EvXK.call FB (fun Y => hbm.has Y) (I.kIn _ _ hC) (PySem.W.looks_findIn I.kIn x.ini) (fun self => PySem.W.bind_fn I.kIn self x.tI) hus
    (codeAny_mono ((init_ok x).run _ X.stack _ _ ⟨Value.ref (hp.objs.size + 1) :: us, kw⟩ (Value.ref (hp.objs.size + 1) :: full) _ _ (fun _ _ _ => False) (hr.make C us kw) (I2.env0.make C us kw) (hb _ _) r2 hq) fun r s' hq' => ?_))
  cases r with
  | error er => exact False.elim hq'
  | ok fl =>
    cases fl with
    | ret u =>
      obtain ⟨v, H', I3, rv, ev, q3⟩ := I2.after hq'
      subst ev
      exact ⟨rv, ⟨V.ref (hp.objs.size + 1), H', I3, rfl, q3⟩⟩
    | next => exact False.elim hq'
    | brk => exact False.elim hq'
    | cont => exact False.elim hq'
/-! ### an exception that is raised where it is made -/
theorem mk_endX {pins : List (Addr × Obj)} {σ : L2.St} {H1 H2 : Hp} {Q : XK} {hp hp2 h2 : Heap} {g1 g2 : Array GenState} {d1 d2 : Drawn} {t1 t2 : Nat} {os1 os2 : OsState} {a C d : Addr} (T : Raises X (.ref C)) (I1 : Inv X pins σ H1 ⟨hp, g1, d1, t1, os1⟩)
    (ha : hp.objs.size ≤ a) (k : ∀ b o, hp.get? b = some o → hp2.get? b = some o) (un : Un (frs X.stack) [] (upd H1 a (exo a C none)) H2 hp2 h2) (hok : HOk X.prog X.w H2 h2) (ho : os2 = os1) (hb : AllBare g2)
    (ea : H2 a = some (exo a C (some d))) (q : Q (.ref C) (some d) (del H2 a)) : MkP X pins σ Q (.ref a) ⟨h2, g2, d2, t2, os2⟩ := by
  obtain ⟨t0, hoe⟩ := exo_at hok ea
  have hn : H1 a = none := I1.hok.fresh ha
  obtain ⟨G, g1', g2'⟩ := restrict h2 fun b => decide (b ≠ a)
  have gk : ∀ b, b ≠ a → G.get? b = h2.get? b := fun b hb => g1' b (decide_eq_true hb)
  have ge : G.get? a = none := g2' a (by simp)
  have nha : ∀ {b : Addr} {o : Obj}, hp.get? b = some o → b ≠ a := fun {b o} z => Nat.ne_of_lt (Nat.lt_of_lt_of_le (Heap.lt_size z) ha)
  have up : ∀ {b : Addr}, b ≠ a → H1 b = none → upd H1 a (exo a C none) b = none := fun {b} hb n => by rw [upd_ne hb]; exact n
  have U : Un (frs X.stack) [] H1 (del H2 a) hp G := {
    keep := fun b o z n hf hx => by
      rw [gk b (nha z)]
      exact un.keep b o (k b o z) (up (nha z) n) hf hx
    slot := fun b o z n hf hx => by
      rw [gk b (nha z)]
      exact un.slot b o (k b o z) (up (nha z) n) hf hx
    free := fun b o z n hx => by
      rw [del_ne (nha z)]
      exact un.free b o (k b o z) (up (nha z) n) hx
    there := fun b o z hx => by
      rw [gk b (nha z)]
      exact un.there b o (k b o z) hx
    tups := fun b xs z => by
      rw [del_ne (ne_of_none z hn)]
      exact un.tups b xs (by rw [upd_ne (ne_of_none z hn)]; exact z)
    frzs := fun b o v z => by
      rw [del_ne (ne_of_none z hn)]
      exact un.frzs b o v (by rw [upd_ne (ne_of_none z hn)]; exact z)
    tbls := fun b ps z => by
      rw [del_ne (ne_of_none z hn)]
      exact un.tbls b ps (by rw [upd_ne (ne_of_none z hn)]; exact z) }
  have hok3 : HOk X.prog X.w (del H2 a) G := fun b o z => by
    have hba : b ≠ a := fun e => by
      rw [e, del_same] at z
      cases z
    rw [del_ne hba] at z
    have noa : ∀ {c : Addr}, H2 c = some (.own b) → c ≠ a := fun {c} hc => at_ne ea hc exo_own
    exact (hok b o z).stay (fun c v hc y => by
        have hca : c ≠ a := by
          rcases hc with hc | hc
          · rw [hc]
            exact hba
          · exact noa hc
        rw [gk c hca]
        exact y)
      (fun c hc => by rw [del_ne (noa hc)]; exact hc) (fun c xs hc => by rw [del_ne (at_ne ea hc exo_tup)]; exact hc)
  have J : Inv X pins σ (del H2 a) ⟨G, g2, d2, t2, os2⟩ := I1.call' (ch := []) ho U hok3 hb (fun b z => absurd z (by simp))
  refine ⟨a, _, _, ⟨G, g2, d2, t2, os2⟩, _, .ref C, some d, rfl, J, fun b o z => ?_, ge, hoe, ⟨rfl, rfl⟩, rfl, rfl, del_same, rfl, hb, T, q⟩
  by_cases hba : b = a
  · rw [hba, ge] at z
    cases z
  · exact (gk b hba).symm.trans z
theorem del_upd {H : Hp} {a : Addr} {o : HO} (n : H a = none) : del (upd H a o) a = H := by
  funext b
  by_cases h : b = a
  · subst h
    rw [del_same, n]
  · rw [del_ne h, upd_ne h]
theorem run_mkr {QX : XK} (x : XCl X.K C code f) (hbe : PySem.W.subIn X.K (.ref C) (.type "BaseException") = some true) (hr : Room 2 X.A) (I : Inv X pins σ H s) (hz : us.length ≤ 1000) (hb : ∀ s a, BindsTo s x.fd ⟨a :: us, kw⟩ ((psI f).zip (a :: full))) (r : Vals vs full) (hv : argX f vs)
    (q : ∀ dx, H dx = none → QX (.ref C) (some dx) (upd H dx (exd dx (xfs code f vs)))) : wpAny (model X.prog X.w) X.A (PySem.call (.ref C) us kw) (MkP X pins σ QX) X.xe s := by
  obtain ⟨nm, qn, N, bs, bm, sn, sub, ab, col, dd, k0, k1, k2, k3, k5, hC, hbm⟩ := x.T.cls
  have hty : PySem.W.typeIn X.K (.ref C) = some (.type "type") := by
    unfold PySem.W.typeIn
    simp only [hC]
    rfl
  obtain ⟨Bn, initId, FB⟩ := x.B.base
  obtain ⟨hp, g, dr, tk, os⟩ := s
  have hsz : hp.objs.size ≤ hp.objs.size + 1 := Nat.le_succ _
  have hn : H (hp.objs.size + 1) = none := I.hok.fresh hsz
  have kk : ∀ b o, hp.get? b = some o → ((hp.push (PySem.W.kdv_tup us)).push (PySem.HandSPX.excO C hp.objs.size)).get? b = some o := fun b o e => Heap.get?_push_of_some _ (Heap.get?_push_of_some _ e)
  have hget : ((hp.push (PySem.W.kdv_tup us)).push (PySem.HandSPX.excO C hp.objs.size)).get? (hp.objs.size + 1) = some (PySem.HandSPX.excO C hp.objs.size) := by heap_get
  have I2 : Inv X pins σ (upd H (hp.objs.size + 1) (exo (hp.objs.size + 1) C none)) ⟨(hp.push (PySem.W.kdv_tup us)).push (PySem.HandSPX.excO C hp.objs.size), g, dr, tk, os⟩ :=
    I.laid (t' := tk) (a := hp.objs.size + 1) (o := exo (hp.objs.size + 1) C none) (h' := (hp.push (PySem.W.kdv_tup us)).push (PySem.HandSPX.excO C hp.objs.size)) kk hsz (exo_ok hget)
  have r2 : Vals (V.ref (hp.objs.size + 1) :: vs) (Value.ref (hp.objs.size + 1) :: full) := .cons rfl r
  have hus : us.length ≤ sizeLine := by
    rw [sizeLine_eq]
    omega
  have fin : ∀ dx fs, H dx = none → dx ≠ hp.objs.size + 1 → QX (.ref C) (some dx) (upd H dx (exd dx fs)) → (fun v H2 => v = V.non ∧ ∃ d : Addr, H2 (hp.objs.size + 1) = some (exo (hp.objs.size + 1) C (some d)) ∧ QX (.ref C) (some d) (del H2 (hp.objs.size + 1))) .non (upd (upd H dx (exd dx fs)) (hp.objs.size + 1) (exo (hp.objs.size + 1) C (some dx))) := fun dx fs hd ne z => by
    refine ⟨rfl, dx, upd_same, ?_⟩
    rw [del_upd (by rw [upd_ne (Ne.symm ne)]; exact hn)]
    exact z
  have hq : spX C (.str code) f (V.ref (hp.objs.size + 1) :: vs) (upd H (hp.objs.size + 1) (exo (hp.objs.size + 1) C none)) (fun v H2 => v = V.non ∧ ∃ d : Addr, H2 (hp.objs.size + 1) = some (exo (hp.objs.size + 1) C (some d)) ∧ QX (.ref C) (some d) (del H2 (hp.objs.size + 1))) (fun _ _ _ => False) := by
    refine ⟨_, _, rfl, upd_same, ?_⟩
    cases f with
    | none =>
      have hv : vs = [] := hv
      subst hv
      refine ⟨rfl, fun dx hd ne => ?_⟩
      rw [upd_ne ne] at hd
      rw [upd2 ne]
      exact fin dx _ hd ne (q dx hd)
    | some f =>
      obtain ⟨v, rfl⟩ := hv
      refine ⟨v, rfl, fun dx hd ne => ?_⟩
      rw [upd_ne ne] at hd
      rw [upd3 ne]
      exact fin dx _ hd ne (q dx hd)
  refine wpAny_call (EvXK.call FB (fun Y => hbm.has Y) (I.kIn _ _ hC) (PySem.W.looks_findIn I.kIn x.ini) (fun self => PySem.W.bind_fn I.kIn self x.tI) hus
    (codeAny_mono ((init_ok x).run _ X.stack _ _ ⟨Value.ref (hp.objs.size + 1) :: us, kw⟩ (Value.ref (hp.objs.size + 1) :: full) _ _ (fun _ _ _ => False) (hr.make C us kw) (I2.env0.make C us kw) (hb _ _) r2 hq) fun r s' hq' => ?_))
  cases r with
  | error er => exact False.elim hq'
  | ok fl =>
    cases fl with
    | ret u =>
      obtain ⟨v, H2, os2, bare2, un2, hok2, rv, ev, d, ea, q2⟩ := hq'
      subst ev
      obtain ⟨h2, g2, d2, t2, os'⟩ := s'
      exact ⟨rv, mk_endX (raises_own hbe hty) I hsz kk un2 hok2 os2 bare2 ea q2⟩
    | next => exact False.elim hq'
    | brk => exact False.elim hq'
    | cont => exact False.elim hq'
end
/-! ### e.f, isinstance(e, C) -/
/-- an exception's object, new or handled -/
theorem ex_at {P : Program} {w : World} {H : Hp} {h : Heap} {p C dx : Addr} {od : Obj} (hok : HOk P w H h) (e : H p = some (exo p C (some dx)) ∨ H p = some (exq p (.ref C) (some dx))) (hod : h.get? dx = some od) : ∃ ox, PySem.W.InstAt h p ox C (some od) := by
  rcases e with e | e
  · obtain ⟨t1, ho⟩ := exo_at hok e
    exact ⟨{ cls := .ref C, dict := some dx, data := .fields #[.ref t1, .none, .none, .none, .bool false, .none] }, ho, rfl, rfl, hod⟩
  · have x : ObjOk P w H h p (.ext fun h => ∃ (oe : Obj) (vs : Array Value), h.get? p = some oe ∧ oe.cls = .ref C ∧ oe.dict = some dx ∧ oe.data = .fields vs) := hok p _ e
    obtain ⟨oe, vs, h1, h2, h3, h4⟩ := x.1
    refine ⟨oe, h1, h2, ?_, by rw [h3]; exact hod⟩
    unfold PySem.W.notCls
    rw [h4]
def tXa (K : PySem.W.Frag) (f : Str) (te : TE) : TE := fun σ H Q => te σ H fun x H1 => ∃ (p C dx : Addr) (fs : List (Str × V)) (v : V) (ks : List Tx), x = .ref p ∧ (H1 p = some (exo p C (some dx)) ∨ H1 p = some (exq p (.ref C) (some dx))) ∧ H1 dx = some (exd dx fs) ∧ fs.lookup f = some v ∧ XIs K C ks ∧ PySem.W.findIn K (.ref C) f = some none ∧ Q v H1
theorem pe_xa {X : L2.Cx} {e : Expr} {te : TE} {pos : Pos} {n : Str} (he : PE X e te) (hb : attributeBase e n X.env (eval e X.env) = eval e X.env) : PE X (.Attribute e n pos) (tXa X.K n te) := by
  refine ⟨fun pins s σ H Q I h => ?_⟩
  refine attr_of hb (thn (he.run pins s σ H _ I h) fun u s1 hh => ?_)
  obtain ⟨x, H1, I1, rx, p, C, dx, fs, v, ks, ex, e1, e2, l, T, hno, q⟩ := hh
  subst ex
  obtain rfl : u = Value.ref p := rx
  obtain ⟨mA, hns, rel⟩ := exd_at I1.hok e2
  obtain ⟨od, hod, hl⟩ := lookIn_ns hns
  obtain ⟨u, hu, ru⟩ := RelO.some_of (v := v) (o := mA n) (by rw [← l]; exact rel n)
  obtain ⟨ox, J⟩ := ex_at I1.hok e1 hod
  exact HandSPX.exc_get I1.kIn J T.ga T.gg T.be (PySem.W.findObj_own T.hd hno rfl (by rw [hl, hu])) (handed_of ru) ⟨v, H1, I1.tok _, ru, q⟩
def rIsX (K : PySem.W.Frag) : List V → Hp → VK → Prop := fun xs H Q => ∃ (p C dx : Addr) (fs : List (Str × V)) (ks : List Tx) (c : V) (cv : Value) (b : Bool), xs = [.ref p, c] ∧ (H p = some (exo p C (some dx)) ∨ H p = some (exq p (.ref C) (some dx))) ∧ H dx = some (exd dx fs) ∧ XIs K C ks ∧ (∀ u, RelV c u → u = cv) ∧ PySem.W.kitOne K (.ref C) cv = some b ∧ Q (.bl b) H
theorem call_isX {X : L2.Cx} : CallR X (.builtin "isinstance") (rIsX X.K) := by
  intro pins s σ H xs us Q I r h
  obtain ⟨p, C, dx, fs, ks, c, cv, b, rfl, e1, e2, T, hcv, e, q⟩ := h
  cases r with
  | cons rx rr =>
    cases rr with
    | cons rt rr =>
      cases rr
      cases rx
      have ec := hcv _ rt
      subst ec
      obtain ⟨mA, hns, rel⟩ := exd_at I.hok e2
      obtain ⟨od, hod, hl⟩ := lookIn_ns hns
      obtain ⟨ox, J⟩ := ex_at I.hok e1 hod
      exact PySem.W.kia_one (PySem.W.kitx_exc T.cl T.ga T.gg T.be T.ca T.cg T.ct T.ob) I.kIn J e (fun z => nomatch z) fun tk => ⟨.bl b, H, I.kept (t' := tk) fun _ _ z => z, rfl, q⟩
end Ev


set_option autoImplicit false
set_option Elab.async false
set_option linter.all false
set_option maxRecDepth 100000
set_option maxHeartbeats 4000000
/-! EvU: calls of any form: positions, one star, keywords; at the layer's level. -/
namespace EvCall
open PySem PySem.Spec PySem.W PySem.Calls PyProof.Rows L2
section
variable {M : Model} {A : Around} {E : Value → Shared → Prop} {s : Shared}
/-- f(*x, k = v, ..) -/
theorem ea_lone {f : Value} {x : Sem Value} {pos : Pos} {kws : List (Option Str × Sem Value)} {Q : Args → Shared → Prop} (hall : kws.all (·.1.isSome) = true)
    (h : wpAny M A x (fun v s₁ => wpAny M A (evalAll (kws.map (·.2))) (fun ws s₂ => StarOf M A E v (fun vs s₃ => Q ⟨vs, (kws.filterMap (·.1)).zip ws⟩ s₃) s₂) E s₁) E s) :
    wpAny M A (evalArgs f true [(true, (do let v ← x; standAt pos; pure v))] kws) Q E s := by
  unfold evalArgs
  refine wpAny_bind (wpAny_bind (wpAny_mono h (fun v s₁ h₁ => wpAny_bind (wpAny_standAt (wpAny_pure (wpAny_bind (wpAny_pure ?_))))) fun _ _ x => x))
  refine wpAny_holding ?_
  rw [if_pos hall]
  refine wpAny_bind (wpAny_mono h₁ (fun ws s₂ h₂ => ?_) fun _ _ x => x)
  unfold StarOf at h₂
  refine wpAny_bind (wpAny_bind (wpAny_mono h₂ (fun b s₃ h₃ => ?_) fun _ _ x => x))
  obtain ⟨rfl, h₃⟩ := h₃
  have z := wpAny_holding (vs := ((kws.filterMap (·.1)).zip ws).map (·.2)) (wpAny_mono h₃ (fun vs s₄ h₄ => (wpAny_pure h₄ : wpAny M A (pure (⟨vs, (kws.filterMap (·.1)).zip ws⟩ : Args)) Q E s₄)) fun _ _ x => x)
  try simp only [Bool.false_eq_true, if_false]
  first
    | exact z
    | exact wpAny_bind (wpAny_pure z)
/-- a call, whatever is starred, its keywords by names -/
theorem cw_any {f : Value} {first : List Value} {pos : Pos} {Q : Value → Shared → Prop} {P : Heap → Prop} {args : List (Bool × Sem Value)} {kws : List (Option Str × Sem Value)} (hkw : kws.any (·.1.isNone) = false)
    (hk : ∀ h, P h → ∃ k, (k = Keeper.frame ∨ k = Keeper.machine ∨ k = Keeper.boundFrame) ∧ Looks M h (keeperOf f) k)
    (h : wpAny M A (evalArgs f true args kws) (fun a s₁ => P s₁.heap ∧ wpAny M A (call f (first ++ a.pos) a.kw) Q E s₁) E s) : wpAny M A (callWith pos f first args kws) Q E s := by
  cases hst : args.any (·.1) with
  | false => exact callWith_of (by rw [hst, hkw]; rfl) hk h
  | true =>
    unfold callWith
    refine wpAny_bind (wpAny_holding (wpAny_mono h (fun a s₁ h₁ => wpAny_bind (wpAny_standAt ?_)) fun _ _ x => x))
    obtain ⟨k, hk', L⟩ := hk _ h₁.1
    simp only [hst, Bool.true_or]
    refine wpAny_bind (L.here ?_)
    have tail : ∀ {t : Sem Value}, wpAny M A t Q E s₁ → wpAny M A (t >>= fun r => holding [r] point >>= fun _ => pure r) Q E s₁ :=
      fun ht => wpAny_bind (wpAny_mono ht (fun r s₂ hr => wpAny_bind (wpAny_holding (wpAny_point (wpAny_pure hr)))) fun _ _ x => x)
    have marked (mk : Value) : wpAny M A (callMarked mk f (first ++ a.pos) a.kw) Q E s₁ := by unfold callMarked; exact Calls.wpAny_keep h₁.2
    rcases hk' with rfl | rfl | rfl <;> dsimp only <;> first | exact tail (marked _) | exact tail (wpAny_operating h₁.2)
end
/-- the reading of an argument list: the values by position, those of the keywords -/
abbrev TAr := L2.St → Hp → (List V → List V → Hp → Prop) → Prop
structure PAr (X : Cx) (as : List Expr) (kws : List Keyword) (ks : List Str) (t : TAr) : Prop where
  nokk : ∀ pos : Pos, (backToKw pos (keywordEach kws X.env)).any (·.1.isNone) = false
  run : ∀ (f : Value) (pos : Pos) (pins : List (Addr × Obj)) (s : Shared) (σ : L2.St) (H : Hp) (Q : List V → List V → Hp → Prop), L2.Inv X pins σ H s → t σ H Q →
    wpAny (model X.prog X.w) X.A (evalArgs f true (backTo pos (starEach as X.env)) (backToKw pos (keywordEach kws X.env))) (fun a s' => ∃ vs zs ws H', L2.Inv X pins σ H' s' ∧ Vals vs a.pos ∧ a.kw = ks.zip ws ∧ Vals zs ws ∧ Q vs zs H') X.xe s
/-- a promise for any form of call -/
abbrev SpG := List V → List Str → List V → Hp → VK → XK → Prop
def FnG (P : Program) (w : World) (K : PySem.W.Frag) (mg : Str → Option Value) (base : Heap) (CX : CXT) (k : Nat) (f : Addr) (sp : SpG) : Prop :=
  ∀ (A : Around) (outer : List Env) (s : Shared) (H : Hp) (us : List Value) (ks : List Str) (ws : List Value) (vs zs : List V) (Q : VK) (E : XK), Room k A → Env0 P w K mg base A outer s H → Vals vs us → Vals zs ws → sp vs ks zs H Q E →
    codeAny (model P w) A (.call (.ref f) ⟨us, ks.zip ws⟩) (CR CX outer P w H s Q E) s
section
variable {X : Cx} {CX : CXT} {k : Nat} {f C : Addr} {sp : SpG} {E : XK} {x m : Str} {p pos apos : Pos} {as : List Expr} {kws : List Keyword} {ks : List Str} {t : TAr} {o : Expr} {ta : TE}
theorem run_g {pins : List (Addr × Obj)} {σ : L2.St} {H : Hp} {s : Shared} {Q : VK} {us ws : List Value} {vs zs : List V} (F : FnG X.prog X.w X.K X.mg X.base CX k f sp) (hr : Room k X.A) (hx : Passes CX X E) (I : L2.Inv X pins σ H s) (r : Vals vs us) (rz : Vals zs ws)
    (h : sp vs ks zs H Q E) : wpAny (model X.prog X.w) X.A (call (.ref f) us (ks.zip ws)) (EP X pins σ Q) X.xe s := by
  refine wpAny_call (codeAny_mono (F X.A X.stack s H us ks ws vs zs Q E hr I.env0 r rz h) fun r s' hq => ?_)
  cases r with
  | error e => exact hx pins σ H s e s' I hq
  | ok fl =>
    cases fl with
    | ret u => exact I.after hq
    | next => exact False.elim hq
    | brk => exact False.elim hq
    | cont => exact False.elim hq
theorem run_mkG {pins : List (Addr × Obj)} {σ : L2.St} {H : Hp} {s : Shared} {Q : VK} {us ws : List Value} {vs zs : List V} (M : Mk X.K C f) (F : FnG X.prog X.w X.K X.mg X.base CX k f sp) (hr : Room (k + 1) X.A) (hx : Passes CX X E) (I : L2.Inv X pins σ H s) (r : Vals vs us) (rz : Vals zs ws)
    (h : ∀ x dx, H x = none → H dx = none → dx ≠ x → sp (V.ref x :: vs) ks zs (upd (upd H dx (.own x)) x (.ins C dx [])) (fun v H2 => v = .non ∧ Q (.ref x) H2) E) :
    wpAny (model X.prog X.w) X.A (call (.ref C) us (ks.zip ws)) (EP X pins σ Q) X.xe s := by
  have hq := h (s.heap.objs.size + 1) s.heap.objs.size (I.hok.fresh (Nat.le_succ _)) (I.hok.fresh (Nat.le_refl _)) (Nat.ne_of_lt (Nat.lt_succ_self _))
  have I2 := Inv.made (C := C) I
  have r1 : Vals (V.ref (s.heap.objs.size + 1) :: vs) (Value.ref (s.heap.objs.size + 1) :: us) := .cons rfl r
  refine wpAny_call (make_map (f := f) I.kIn M.makes M.init (beq_iff_eq.mp M.fn) (codeAny_mono (F _ X.stack _ _ (Value.ref (s.heap.objs.size + 1) :: us) ks ws _ _ _ E (hr.make C us (ks.zip ws)) (I2.env0.make C us (ks.zip ws)) r1 rz hq) fun r s' hq' => ?_))
  cases r with
  | error e => exact hx pins σ _ _ e s' I2 hq'
  | ok fl =>
    cases fl with
    | ret u =>
      obtain ⟨v, H', I3, rv, ev, q3⟩ := I2.after hq'
      subst ev
      exact ⟨rv, ⟨V.ref (s.heap.objs.size + 1), H', I3, rfl, q3⟩⟩
    | next => exact False.elim hq'
    | brk => exact False.elim hq'
    | cont => exact False.elim hq'
/-- x(..), x a def of the module -/
theorem pe_g (F : FnG X.prog X.w X.K X.mg X.base CX k f sp) (hr : Room k X.A) (hg : Gl X x) (hm : X.mg x = some (.ref f)) (hk : PySem.W.keepIn X.K (.ref f) = true) (hx : Passes CX X E) (ha : PAr X as kws ks t) (hdb : (x == ("__debug__" : Str)) = false) :
    PE X (.Call (.Name x p) as kws pos) (fun σ H Q => t σ H fun vs zs H1 => sp vs ks zs H1 Q E) := by
  refine ⟨fun pins s σ H Q I h => ?_⟩
  refine wpAny_Call_Name_kw (ld_glob I hg hm ?_ hdb)
  refine cw_any (P := fun h => X.K.In h) (first := []) (ha.nokk pos) (keeps_K hk) (thn (ha.run _ pos pins s σ H _ I h) fun a s1 ⟨vs, zs, ws, H1, I1, r, ek, rz, q⟩ => ⟨I1.kIn, ?_⟩)
  rw [ek]
  exact run_g F hr hx I1 r rz q
/-- C(..), C a class of the module -/
theorem pe_mkG (M : Mk X.K C f) (F : FnG X.prog X.w X.K X.mg X.base CX k f sp) (hr : Room (k + 1) X.A) (hg : Gl X x) (hm : X.mg x = some (.ref C)) (hx : Passes CX X E) (ha : PAr X as kws ks t) (hdb : (x == ("__debug__" : Str)) = false) :
    PE X (.Call (.Name x p) as kws pos) (fun σ H Q => t σ H fun vs zs H1 => ∀ x dx, H1 x = none → H1 dx = none → dx ≠ x → sp (V.ref x :: vs) ks zs (upd (upd H1 dx (.own x)) x (.ins C dx [])) (fun v H2 => v = .non ∧ Q (.ref x) H2) E) := by
  refine ⟨fun pins s σ H Q I h => ?_⟩
  refine wpAny_Call_Name_kw (ld_glob I hg hm ?_ hdb)
  refine cw_any (P := fun h => X.K.In h) (first := []) (ha.nokk pos) (keeps_K M.kp) (thn (ha.run _ pos pins s σ H _ I h) fun a s1 ⟨vs, zs, ws, H1, I1, r, ek, rz, q⟩ => ⟨I1.kIn, ?_⟩)
  rw [ek]
  exact run_mkG M F hr hx I1 r rz q
/-- o.m(..), m a method of o's class -/
theorem pe_mtG {pl : Sem Bool} (he : PE X o ta) (F : FnG X.prog X.w X.K X.mg X.base CX k f sp) (hr : Room k X.A) (hx : Passes CX X E) (ha : PAr X as kws ks t)
    (ht : eval (.Call (.Attribute o m apos) as kws pos) X.env = (do
      let ov ← eval o X.env
      standAt apos.atName
      let (f, first) ← holding [ov] (getMethod ov m pl)
      callWith pos f first (backTo pos (starEach as X.env)) (backToKw pos (keywordEach kws X.env)))) :
    PE X (.Call (.Attribute o m apos) as kws pos) (fun σ H Q => ta σ H fun x H1 => ∃ a C dx fs, x = .ref a ∧ H1 a = some (.ins C dx fs) ∧ Cls X.K C ∧ Meth X.K C m f ∧ fs.lookup m = none ∧ t σ H1 fun vs zs H2 => sp (x :: vs) ks zs H2 Q E) := by
  refine ⟨fun pins s σ H Q I h => ?_⟩
  refine PySem.W.methodCall_KW (pl := pl) (thn (he.run pins s σ H _ I h) fun u s1 ⟨x, H1, I1, rx, a, C, dx, fs, ex, ea, c, hm, l, q⟩ => ?_) ht
  subst ex
  obtain rfl : u = Value.ref a := rx
  refine getmeth_ok I1 ea c hm l ?_
  refine cw_any (P := fun h => X.K.In h) (first := [.ref a]) (ha.nokk pos) (keeps_K hm.kp) (thn (ha.run _ pos pins s1 σ H1 _ I1 q) fun z s2 ⟨vs, zs, ws, H2, I2, r, ek, rz, q2⟩ => ⟨I2.kIn, ?_⟩)
  rw [ek]
  exact run_g (us := .ref a :: z.pos) (vs := .ref a :: vs) F hr hx I2 (.cons rfl r) rz q2
end
end EvCall


set_option autoImplicit false
set_option Elab.async false
set_option linter.all false
set_option maxRecDepth 100000
set_option maxHeartbeats 4000000
/-! EvV: how the arguments of any call come to the parameters. -/
namespace EvCall
open PySem PySem.Spec PySem.W PySem.Calls PyProof.Rows L2
/-- keywords: those of parameters, further ones -/
def kwF {α : Type} (ps : List Str) (kwa : Bool) : List (Str × α) → List (Str × α) → List (Str × α) → Option (List (Str × α) × List (Str × α))
  | [], sl, ex => some (sl, ex)
  | (k, v) :: r, sl, ex => if ps.contains k then (if (sl.lookup k).isSome then none else kwF ps kwa r (sl ++ [(k, v)]) ex)
    else if kwa then kwF ps kwa r sl (ex ++ [(k, v)]) else none
section
variable {pn kn : List Str} {kwa : Bool} {kw : List (Str × Value)}
theorem forIn_kw {step : Str × Value → List (Str × Value) × List (Str × Value) → Sem (ForInStep (List (Str × Value) × List (Str × Value)))}
    (h1 : ∀ k v sl ex, (pn.contains k || kn.contains k) = true → (sl.lookup k).isSome = false → step (k, v) (sl, ex) = pure (ForInStep.yield (sl ++ [(k, v)], ex)))
    (h2 : ∀ k v sl ex, (pn.contains k || kn.contains k) = false → kwa = true → step (k, v) (sl, ex) = pure (ForInStep.yield (sl, ex ++ [(k, v)]))) :
    ∀ (kw sl ex : List (Str × Value)) (r : List (Str × Value) × List (Str × Value)), kwF (pn ++ kn) kwa kw sl ex = some r → forIn kw (sl, ex) step = pure r
  | [], sl, ex, r, h => by
    cases h
    rfl
  | (k, v) :: kw, sl, ex, r, h => by
    rw [kwF] at h
    have ec : (pn ++ kn).contains k = (pn.contains k || kn.contains k) := by simp [List.contains_append]
    rw [List.forIn_cons]
    cases c : (pn.contains k || kn.contains k) with
    | true =>
      rw [ec, c, if_pos rfl] at h
      cases d : (sl.lookup k).isSome with
      | true => rw [d, if_pos rfl] at h; cases h
      | false =>
        rw [d, if_neg Bool.false_ne_true] at h
        rw [h1 k v sl ex c d]
        exact forIn_kw h1 h2 kw _ _ r h
    | false =>
      rw [ec, c, if_neg Bool.false_ne_true] at h
      by_cases d : kwa = true
      · rw [if_pos d] at h
        rw [h2 k v sl ex c d]
        exact forIn_kw h1 h2 kw _ _ r h
      · rw [if_neg d] at h
        cases h
end
/-- the slots filled up by keyword-only defaults -/
def fillK {α : Type} (dv : Str → α) : List Str → List (Str × α) → List (Str × α)
  | [], sl => sl
  | n :: r, sl => if (sl.lookup n).isNone then fillK dv r (sl ++ [(n, dv n)]) else fillK dv r sl
theorem forIn_dflt {M : Model} {A : Around} {E : Value → Shared → Prop} {s : Shared} {dv : Str → Value} {step : Str → List (Str × Value) × List Str → Sem (ForInStep (List (Str × Value) × List Str))}
    (h1 : ∀ n sl ms, (sl.lookup n).isNone = false → step n (sl, ms) = pure (ForInStep.yield (sl, ms))) :
    ∀ (kn : List Str) (sl : List (Str × Value)) (Q : List (Str × Value) × List Str → Shared → Prop), (∀ n ∈ kn, ∀ sl ms (Q : ForInStep (List (Str × Value) × List Str) → Shared → Prop), (sl.lookup n).isNone = true → Q (ForInStep.yield (sl ++ [(n, dv n)], ms)) s → wpAny M A (step n (sl, ms)) Q E s) →
      Q (fillK dv kn sl, []) s → wpAny M A (forIn kn (sl, []) step) Q E s
  | [], sl, Q, _, q => wpAny_pure q
  | n :: kn, sl, Q, h2, q => by
    rw [List.forIn_cons]
    rw [fillK] at q
    cases c : (sl.lookup n).isNone with
    | false =>
      rw [c, if_neg Bool.false_ne_true] at q
      rw [h1 n sl [] c]
      exact forIn_dflt h1 kn sl Q (fun m hm => h2 m (List.mem_cons_of_mem _ hm)) q
    | true =>
      rw [c, if_pos rfl] at q
      refine wpAny_bind (h2 n List.mem_cons_self sl [] _ c ?_)
      exact forIn_dflt h1 kn _ Q (fun m hm => h2 m (List.mem_cons_of_mem _ hm)) q
/-- what the arguments become -/
structure BindIn (pn kn : List Str) (va kwa : Bool) (us : List Value) (kw : List (Str × Value)) (sl ex : List (Str × Value)) : Prop where
  kw : kwF (pn ++ kn) kwa kw (pn.zip us) [] = some (sl, ex)
  all : ∀ n ∈ pn, (sl.lookup n).isNone = false
  few : us.length ≤ pn.length ∨ va = true
  mem : ex.length ≤ sizeLine
/-- the further arguments, the further keywords -/
def bindTail (front : List (Str × Value)) (va kwa : Option Arg) (rest : List Value) (ex : List (Str × Value)) : Sem (List (Str × Value)) := match va with
  | some a => (do
    let t ← newTuple rest
    match kwa with
      | some b => (do
        let d ← alloc { cls := .type "dict", data := .dict #[] }
        forIn ex PUnit.unit fun x _ => (do
          nsSet d x.1 x.2
          pure (ForInStep.yield PUnit.unit))
        pure (front ++ [(a.arg, t)] ++ [(b.arg, .ref d)]))
      | none => pure (front ++ [(a.arg, t)]))
  | none => (match kwa with
    | some b => (do
      let d ← alloc { cls := .type "dict", data := .dict #[] }
      forIn ex PUnit.unit fun x _ => (do
        nsSet d x.1 x.2
        pure (ForInStep.yield PUnit.unit))
      pure (front ++ [(b.arg, .ref d)]))
    | none => pure front)
theorem bind_gen {x qual : Str} {as kos : List Arg} {va kwa : Option Arg} {kds : List (Option Expr)} {body : List Stmt} {sc : Scope} {kV doc pm cdv ct : Value} {an : Option Addr} {us : List Value} {kw : List (Str × Value)} {M : Model} {A : Around} {E : Value → Shared → Prop} {Q : List (Str × Value) → Shared → Prop} {s : Shared} {sl ex : List (Str × Value)} {dv : Str → Value}
    (B : BindIn (as.map (fun x : Arg => x.arg)) (kos.map (fun x : Arg => x.arg)) va.isSome kwa.isSome us kw sl ex)
    (hd : ∀ n ∈ kos.map (fun x : Arg => x.arg), ∃ d, kV = .ref d ∧ Looks M s.heap (nsGet d n) (some (dv n)))
    (hq : wpAny M A (bindTail ((as.map (fun x : Arg => x.arg) ++ kos.map (fun x : Arg => x.arg)).filterMap fun n => ((fillK dv (kos.map (fun x : Arg => x.arg)) sl).lookup n).map (n, ·)) va kwa (us.drop (as.map (fun x : Arg => x.arg)).length) ex) Q E s) :
    wpAny M A (bindArgs (fnOf x qual ⟨[], as, va, kos, kds, kwa, []⟩ body sc .none kV doc pm an cdv ct) ⟨us, kw⟩) Q E s := by
  have e1 : ((as.map (fun x : Arg => x.arg)).filter fun n => (sl.lookup n).isNone) = [] := by
    rw [List.filter_eq_nil_iff]
    intro n hn
    rw [B.all n hn]
    decide
  have e2 : (decide (us.length > (as.map (fun x : Arg => x.arg)).length) && va.isNone) = false := by
    rcases B.few with h | h
    · rw [decide_eq_false (by omega)]; rfl
    · cases va with
      | none => cases h
      | some a => simp
  unfold bindArgs
  dsimp only [fnOf]
  simp only [List.map_nil, List.nil_append]
  refine wpAny_bind ?_
  rw [forIn_kw (pn := as.map (fun x : Arg => x.arg)) (kn := kos.map (fun x : Arg => x.arg)) (kwa := kwa.isSome) (fun k v sl ex c d => by simp only [c, d, if_true, Bool.false_eq_true, if_false]) (fun k v sl ex c d => by simp only [c, d, if_true, Bool.false_eq_true, if_false]) kw _ _ _ B.kw]
  refine wpAny_pure ?_
  refine wpAny_bind (wpAny_pure ?_)
  simp only [Option.getD_none, List.length_nil, Nat.zero_sub, List.drop_zero, Nat.sub_zero, List.take_length, List.drop_length, List.zip_nil_left, List.zip_nil_right, e1, e2, Bool.false_eq_true, if_false, List.isEmpty_nil, Bool.not_true]
  refine wpAny_bind (wpAny_pure ?_)
  refine wpAny_bind (forIn_dflt (dv := dv) (fun n sl ms c => by simp only [c, Bool.false_eq_true, if_false]) _ _ _ (fun n hn sl ms Q c q => ?_) ?_)
  · obtain ⟨d, rfl, hl⟩ := hd n hn
    simp only [c, if_true]
    exact wpAny_bind (hl.here (wpAny_pure q))
  · simp only [List.isEmpty_nil, Bool.not_true, Bool.false_eq_true, if_false]
    have hm : ¬ ex.length > sizeLine + 1 := by have := B.mem; omega
    simp only [hm, if_false]
    unfold bindTail at hq
    clear B e1 e2 hd
    cases va <;> cases kwa <;> exact hq
section
variable {prog : Program} {w : World} {A : Around} {E : Value → Shared → Prop} {d : Addr}
theorem ns_new {s : Shared} {es : List DictEntry} {n : Nat} {k : Str} {v : Value} {Q : Unit → Shared → Prop} (D : s.heap.get? d = some (W.dictOf es n)) (hs : ∀ e ∈ es, e.key.isStr k = false) (hr : ∀ e ∈ es, e.refKey = false)
    (h : ∀ h', h'.get? d = some (W.dictOf (es ++ [⟨PyData.keyHash w.params k, .str k s.toks, v⟩]) (n + 1)) → (∀ b, b ≠ d → h'.get? b = s.heap.get? b) → h'.objs.size = s.heap.objs.size → Q () { s with heap := h', toks := s.toks + 1 }) :
    wpAny (model prog w) A (nsSet d k v) Q E s := by
  have e1 : es.any (·.key.isStr k) = false := by
    cases q : es.any (·.key.isStr k) with
    | false => rfl
    | true => obtain ⟨e, he, z⟩ := List.any_eq_true.mp q; rw [hs e he] at z; cases z
  have e2 : es.any (·.refKey) = false := by
    cases q : es.any (·.refKey) with
    | false => rfl
    | true => obtain ⟨e, he, z⟩ := List.any_eq_true.mp q; rw [hr e he] at z; cases z
  have e : Obj.putName k (PyData.keyHash w.params k) (.str k s.toks) v (W.dictOf es n) = W.dictOf (es ++ [⟨PyData.keyHash w.params k, .str k s.toks, v⟩]) (n + 1) := by
    rw [putName_dict, putL_new hs]
    show W.dictOf _ (if es.any (·.key.isStr k) then n else n + 1) = _
    rw [e1, if_neg Bool.false_ne_true]
  have c : aRefKeyMayBeTheName k es.toArray = false := by
    rw [aRefKeyMayBeTheName_at, ← Array.any_toList, ← Array.any_toList]
    show (!es.any (·.key.isStr k) && es.any (·.refKey)) = false
    rw [e2, Bool.and_false]
  unfold nsSet
  refine wpAny_bind (wpAny_bind (wpAny_askSetting (wpAny_pure (wpAny_bind (wpAny_mkText (wpAny_bind (wpAny_loadPart D ?_)))))))
  dsimp only
  rw [c]
  refine wpAny_updatePart D (h _ ?_ (fun b hb => Heap.get?_update_other _ _ (Ne.symm hb)) ?_)
  · rw [← e]
    exact Heap.get?_update_self _ D (by show (Obj.putName k (PyData.keyHash w.params k) (.str k s.toks) v (W.dictOf es n)).isFreed = false; rw [e]; rfl)
  · exact Heap.size_after_update ..
theorem fill_kw {Q : PUnit → Shared → Prop} : ∀ (ex : List (Str × Value)) (s : Shared) (es : List DictEntry) (n : Nat), s.heap.get? d = some (W.dictOf es n) → (∀ e ∈ es, ∀ x ∈ ex, e.key.isStr x.1 = false) → (∀ e ∈ es, e.refKey = false) → (ex.map (·.1)).Nodup →
    (∀ h', h'.get? d = some (W.dictOf (es ++ kwEs w.params s.toks ex) (n + ex.length)) → (∀ b, b ≠ d → h'.get? b = s.heap.get? b) → h'.objs.size = s.heap.objs.size → Q ⟨⟩ { s with heap := h', toks := s.toks + ex.length }) →
    wpAny (model prog w) A (forIn ex PUnit.unit fun x _ => (nsSet d x.1 x.2 >>= fun _ => pure (ForInStep.yield PUnit.unit))) Q E s
  | [], s, es, n, D, _, _, _, h => by
    rw [List.forIn_nil]
    refine wpAny_pure (h s.heap ?_ (fun _ _ => rfl) rfl)
    show s.heap.get? d = some (W.dictOf (es ++ []) n)
    rw [List.append_nil]
    exact D
  | x :: r, s, es, n, D, hs, hr, hn, h => by
    obtain ⟨hn1, hn2⟩ := List.nodup_cons.mp (show (x.1 :: r.map (·.1)).Nodup from hn)
    rw [List.forIn_cons]
    refine wpAny_bind (wpAny_bind (ns_new D (fun e he => hs e he x (.head _)) hr fun h' D' k' z' => wpAny_pure ?_))
    show wpAny (model prog w) A (forIn r PUnit.unit fun x _ => (nsSet d x.1 x.2 >>= fun _ => pure (ForInStep.yield PUnit.unit))) Q E { s with heap := h', toks := s.toks + 1 }
    refine fill_kw r { s with heap := h', toks := s.toks + 1 } _ _ D' (fun e he y hy => ?_) (fun e he => ?_) hn2 fun h'' D'' k'' z'' => ?_
    · rcases List.mem_append.mp he with he | he
      · exact hs e he y (.tail _ hy)
      · obtain rfl := List.mem_singleton.mp he
        show (x.1 == y.1) = false
        exact beq_eq_false_iff_ne.mpr fun q => hn1 (by rw [q]; exact List.mem_map_of_mem hy)
    · rcases List.mem_append.mp he with he | he
      · exact hr e he
      · obtain rfl := List.mem_singleton.mp he
        rfl
    · have t1 : s.toks + 1 + r.length = s.toks + (r.length + 1) := by omega
      have t2 : n + 1 + r.length = n + (r.length + 1) := by omega
      show Q ⟨⟩ { s with heap := h'', toks := s.toks + 1 + r.length }
      rw [t1]
      refine h h'' ?_ (fun b hb => (k'' b hb).trans (k' b hb)) (z''.trans z')
      rw [t2, List.append_assoc] at D''
      exact D''
end
/-- keys that are texts, as keys of a dict -/
def txK {α : Type} (ex : List (Str × α)) : List (Key × α) := ex.map fun p => (Sum.inr p.1, p.2)
theorem kwEs_mix {prog : Program} {w : World} : ∀ (ex : List (Str × Value)) (t : Tok), Pairs (mixKind prog w) (kwEs w.params t ex) (txK ex)
  | [], _ => Pairs.nil
  | x :: r, t => Pairs.cons (mixKind_str prog w x.1 t) rfl (kwEs_mix r (t + 1))
theorem txK_nodup {α : Type} : ∀ {ex : List (Str × α)}, (ex.map (·.1)).Nodup → ((txK ex).map (·.1)).Nodup
  | [], _ => List.nodup_nil
  | x :: r, h => by
    obtain ⟨h1, h2⟩ := List.nodup_cons.mp (show (x.1 :: r.map (·.1)).Nodup from h)
    refine List.nodup_cons.mpr ⟨fun z => h1 ?_, txK_nodup h2⟩
    obtain ⟨p, hp, e⟩ := List.mem_map.mp z
    obtain ⟨q, hq, e2⟩ := List.mem_map.mp hp
    subst e2
    have e3 : q.1 = x.1 := Sum.inr.inj e
    rw [← e3]
    exact List.mem_map_of_mem hq
theorem kw_dict {prog : Program} {w : World} {h : Heap} {d : Addr} {ex : List (Str × Value)} {t : Tok} {n : Nat} (D : h.get? d = some (W.dictOf (kwEs w.params t ex) n)) (hn : (ex.map (·.1)).Nodup) : h.DictOf (mixKind prog w) d (txK ex) :=
  ⟨_, _, _, D, ⟨rfl, rfl, rfl⟩, rfl, fun e he => by
    obtain ⟨k, u, hk, hh⟩ := kwEs_key ex t e (List.mem_toArray.mp he)
    exact ⟨.inr k, by rw [hk]; exact mixKind_str prog w k u, hh.trans rfl⟩, kwEs_mix ex t, txK_nodup hn⟩
section
variable {P : Program} {w : World} {K : PySem.W.Frag} {mg : Str → Option Value} {base : Heap} {A : Around} {outer : List Env} {s : Shared} {H : Hp}
/-- a new object tracked ahead of a def's body, however it was made -/
theorem env0_new {h' : Heap} {t : Nat} {u : HO} {a : Addr} (e0 : Env0 P w K mg base A outer s H) (ha : s.heap.objs.size ≤ a) (kp : ∀ b x, s.heap.get? b = some x → h'.get? b = some x) (hz : s.heap.objs.size ≤ h'.objs.size) (new : ObjOk P w (upd H a u) h' a u) :
    Env0 P w K mg base A outer { s with heap := h', toks := t } (upd H a u) := by
  have ne : ∀ b x, s.heap.get? b = some x → b ≠ a := fun b x e => Nat.ne_of_lt (Nat.lt_of_lt_of_le (Heap.lt_size e) ha)
  refine ⟨e0.frames, e0.mod, fun b x e => ⟨kp b x (e0.bs b x e).1, ?_⟩, Nat.le_trans e0.bsz hz, Heap.FunFrames.of_keeps (fun b x e _ => ⟨x, kp b x e, rfl⟩) e0.funs, fun b hb => ?_, e0.hok.laid kp ha new, e0.bare⟩
  · rw [upd_ne (ne b x (e0.bs b x e).1)]
    exact (e0.bs b x e).2
  · obtain ⟨_, x, hx, _⟩ := e0.funs.mem hb
    rw [upd_ne (ne b x hx)]
    exact e0.frf b hb
end
/-! ### names with values, alike -/
abbrev KS (a : List (Str × V)) (b : List (Str × Value)) : Prop := Paired (fun (p : Str × V) (q : Str × Value) => p.1 = q.1 ∧ L2.RelV p.2 q.2) a b
theorem KS.nil : KS [] [] := Paired.nil
theorem KS.append {a c : List (Str × V)} {b d : List (Str × Value)} (h : KS a b) (k : KS c d) : KS (a ++ c) (b ++ d) := by
  induction h with
  | nil => exact k
  | cons r t ih => exact .cons r ih
theorem KS.one {k : Str} {v : V} {u : Value} (r : L2.RelV v u) : KS [(k, v)] [(k, u)] := Paired.cons ⟨rfl, r⟩ .nil
theorem KS.look {a : List (Str × V)} {b : List (Str × Value)} (h : KS a b) (n : Str) : RelO (a.lookup n) (b.lookup n) := by
  induction h with
  | nil => simp [List.lookup, RelO]
  | @cons p q a' b' r t ih =>
    obtain ⟨k, v⟩ := p
    obtain ⟨k', u⟩ := q
    obtain ⟨e, r⟩ := r
    have e : k = k' := e
    subst e
    rw [List.lookup_cons, List.lookup_cons]
    cases n == k with
    | true => exact r
    | false => exact ih
theorem KS.lookN {a : List (Str × V)} {b : List (Str × Value)} (h : KS a b) (n : Str) : (b.lookup n).isNone = (a.lookup n).isNone ∧ (b.lookup n).isSome = (a.lookup n).isSome := by
  have q := h.look n
  cases e1 : a.lookup n <;> cases e2 : b.lookup n <;> rw [e1, e2] at q <;> first | exact q.elim | exact ⟨rfl, rfl⟩
theorem KS.zip : ∀ (ns : List Str) {vs : List V} {us : List Value}, Vals vs us → KS (ns.zip vs) (ns.zip us)
  | [], _, _, _ => by simpa using KS.nil
  | n :: ns, _, _, .nil => by simpa using KS.nil
  | n :: ns, _, _, .cons r t => .cons ⟨rfl, r⟩ (KS.zip ns t)
theorem KS.names {a : List (Str × V)} {b : List (Str × Value)} (h : KS a b) : b.map (·.1) = a.map (·.1) := by
  induction h with
  | nil => rfl
  | @cons p q a' b' r t ih => rw [List.map_cons, List.map_cons, ih, r.1]
theorem KS.length {a : List (Str × V)} {b : List (Str × Value)} (h : KS a b) : b.length = a.length := (Paired.length h).symm
theorem kwF_rel {ps : List Str} {kwa : Bool} {kV : List (Str × V)} {kU : List (Str × Value)} (hk : KS kV kU) : ∀ {slV exV : List (Str × V)} {sl ex : List (Str × Value)} {r : List (Str × V) × List (Str × V)}, KS slV sl → KS exV ex → kwF ps kwa kV slV exV = some r → ∃ q, kwF ps kwa kU sl ex = some q ∧ KS r.1 q.1 ∧ KS r.2 q.2 := by
  induction hk with
  | nil =>
    intro slV exV sl ex r h2 h3 h
    cases h
    exact ⟨(sl, ex), rfl, h2, h3⟩
  | @cons p q a' b' hr ht ih =>
    obtain ⟨k, v⟩ := p
    obtain ⟨k', u⟩ := q
    intro slV exV sl ex r h2 h3 h
    obtain ⟨e, hr⟩ := hr
    have e : k = k' := e
    subst e
    rw [kwF] at h ⊢
    rw [(h2.lookN k).2]
    by_cases c : ps.contains k = true
    · rw [if_pos c] at h ⊢
      by_cases d : (slV.lookup k).isSome = true
      · rw [if_pos d] at h
        cases h
      · rw [if_neg d] at h ⊢
        exact ih (h2.append (KS.one hr)) h3 h
    · rw [if_neg c] at h ⊢
      by_cases d : kwa = true
      · rw [if_pos d] at h ⊢
        exact ih h2 (h3.append (KS.one hr)) h
      · rw [if_neg d] at h
        cases h
theorem fillK_rel {dvV : Str → V} {dv : Str → Value} : ∀ {kn : List Str} {slV : List (Str × V)} {sl : List (Str × Value)}, (∀ n ∈ kn, L2.RelV (dvV n) (dv n)) → KS slV sl → KS (fillK dvV kn slV) (fillK dv kn sl)
  | [], _, _, _, h => h
  | n :: kn, slV, sl, hr, h => by
    rw [fillK, fillK, (h.lookN n).1]
    by_cases c : (slV.lookup n).isNone = true
    · rw [if_pos c, if_pos c]
      exact fillK_rel (fun m hm => hr m (List.mem_cons_of_mem _ hm)) (h.append (KS.one (hr n List.mem_cons_self)))
    · rw [if_neg c, if_neg c]
      exact fillK_rel (fun m hm => hr m (List.mem_cons_of_mem _ hm)) h
/-- what is found under the names -/
def pick {α : Type} (sl : List (Str × α)) (ns : List Str) : List α := ns.filterMap fun n => sl.lookup n
theorem pick_zip {sl : List (Str × Value)} : ∀ {ns : List Str}, (pick sl ns).length = ns.length → (ns.filterMap fun n => (sl.lookup n).map (n, ·)) = ns.zip (pick sl ns)
  | [], _ => rfl
  | n :: ns, h => by
    unfold pick at h ⊢
    rw [List.filterMap_cons, List.filterMap_cons]
    rw [List.filterMap_cons] at h
    cases e : sl.lookup n with
    | none =>
      rw [e] at h
      have := List.length_filterMap_le (fun n => sl.lookup n) ns
      simp at h
      omega
    | some v =>
      rw [e] at h
      have ih := pick_zip (sl := sl) (ns := ns) (by simpa [pick] using h)
      unfold pick at ih
      simp only [Option.map_some, List.zip_cons_cons]
      rw [ih]
theorem pick_rel {a : List (Str × V)} {b : List (Str × Value)} (h : KS a b) : ∀ ns : List Str, Vals (pick a ns) (pick b ns)
  | [] => .nil
  | n :: ns => by
    have q := h.look n
    have ih := pick_rel h ns
    unfold pick at ih ⊢
    rw [List.filterMap_cons, List.filterMap_cons]
    cases e1 : a.lookup n <;> cases e2 : b.lookup n <;> rw [e1, e2] at q
    · exact ih
    · exact q.elim
    · exact q.elim
    · exact .cons q ih
theorem txK_rel {a : List (Str × V)} {b : List (Str × Value)} (h : KS a b) : L2.KV (txK a) (txK b) := by
  induction h with
  | nil => exact Paired.nil
  | @cons p q a' b' r t ih => exact Paired.cons ⟨congrArg Sum.inr r.1, r.2⟩ ih
/-- the objects that the binding makes -/
def TailV (va kwa : Bool) (H : Hp) (rest : List V) (ex : List (Str × V)) (tl : List V) (H2 : Hp) : Prop := match va, kwa with
  | false, false => tl = [] ∧ H2 = H
  | true, false => ∃ p, H p = none ∧ tl = [.ref p] ∧ H2 = upd H p (.tup rest)
  | false, true => ∃ q od, H q = none ∧ tl = [.ref q] ∧ H2 = upd H q (.frz od (.dK (txK ex)))
  | true, true => False
def vaN (a : Option Arg) : List Str := match a with
  | some a => [a.arg]
  | none => []
section
variable {CX : CXT} {P : Program} {w : World} {K : PySem.W.Frag} {mg : Str → Option Value} {base : Heap} {A : Around} {outer : List Env} {s : Shared} {H : Hp}
theorem tail_ok {front : List (Str × Value)} {va kwa : Option Arg} {rest : List Value} {ex : List (Str × Value)} {restV : List V} {exV : List (Str × V)} {A' : Around} {Ex : Value → Shared → Prop} {Q : List (Str × Value) → Shared → Prop} (e0 : Env0 P w K mg base A outer s H)
    (hnb : ¬ (va.isSome = true ∧ kwa.isSome = true)) (hr : Vals restV rest) (hz : restV.length ≤ sizeLine) (hx : KS exV ex) (hxz : exV.length ≤ sizeLine) (hn : (exV.map (·.1)).Nodup)
    (h : ∀ (s2 : Shared) (H2 : Hp) (tl : List V) (ut : List Value), Env0 P w K mg base A outer s2 H2 → Un (frs outer) [] H H2 s.heap s2.heap → (∀ b o, s.heap.get? b = some o → s2.heap.get? b = some o) → s2.os = s.os → Vals tl ut → TailV va.isSome kwa.isSome H restV exV tl H2 →
      tl.length = (vaN va ++ vaN kwa).length → Q (front ++ (vaN va ++ vaN kwa).zip ut) s2) : wpAny (model P w) A' (bindTail front va kwa rest ex) Q Ex s := by
  have hn0 : H s.heap.objs.size = none := e0.hok.fresh (Nat.le_refl _)
  cases va with
  | none =>
    cases kwa with
    | none =>
      unfold bindTail
      refine wpAny_pure ?_
      have z := h s H [] [] e0 Un.refl (fun _ _ q => q) rfl .nil ⟨rfl, rfl⟩ rfl
      simpa [vaN] using z
    | some b =>
      unfold bindTail
      dsimp only
      refine wpAny_bind (wpAny_alloc ?_)
      have D0 : (s.heap.push ({ cls := .type "dict", data := .dict #[] } : Obj)).get? s.heap.objs.size = some (W.dictOf [] 0) := Heap.get?_push_size _ rfl
      refine wpAny_bind (fill_kw ex { s with heap := s.heap.push ({ cls := .type "dict", data := .dict #[] } : Obj) } [] 0 D0 (fun _ he => nomatch he) (fun _ he => nomatch he) (by rw [hx.names]; exact hn) fun h' D' k' z' => wpAny_pure ?_)
      have kp : ∀ b o, s.heap.get? b = some o → h'.get? b = some o := fun b o e => by
        rw [k' b (Nat.ne_of_lt (Heap.lt_size e))]
        exact Heap.get?_push_of_some _ e
      have sz : s.heap.objs.size ≤ h'.objs.size := by
        rw [z']
        show s.heap.objs.size ≤ (s.heap.push _).objs.size
        rw [Heap.size_push]
        exact Nat.le_succ _
      rw [List.nil_append, Nat.zero_add] at D'
      have new : ObjOk P w (upd H s.heap.objs.size (.frz (W.dictOf (kwEs w.params s.toks ex) ex.length) (.dK (txK exV)))) h' s.heap.objs.size (.frz (W.dictOf (kwEs w.params s.toks ex) ex.length) (.dK (txK exV))) :=
        ⟨D', by rw [show (txK exV).length = exV.length by simp [txK]]; exact hxz, beq_eq_false_iff_ne.mpr (Ne.symm (Nat.ne_of_lt (StX.env0_big e0))), txK ex, txK_rel hx, kw_dict D' (by rw [hx.names]; exact hn)⟩
      have z := h { s with heap := h', toks := s.toks + ex.length } (upd H s.heap.objs.size (.frz (W.dictOf (kwEs w.params s.toks ex) ex.length) (.dK (txK exV)))) [.ref s.heap.objs.size] [.ref s.heap.objs.size] (env0_new e0 (Nat.le_refl _) kp sz new) (Un.laid kp (Nat.le_refl _) hn0) kp rfl (.cons rfl .nil) ⟨_, _, hn0, rfl, rfl⟩ rfl
      simpa [vaN] using z
  | some a =>
    cases kwa with
    | some b => exact absurd ⟨rfl, rfl⟩ hnb
    | none =>
      unfold bindTail
      dsimp only
      refine wpAny_bind (wpAny_newTuple (wpAny_pure ?_) (by rw [← hr.length]; exact hz))
      have new : ObjOk P w (upd H s.heap.objs.size (.tup restV)) (s.heap.push ({ cls := .type "tuple", data := .seq rest.toArray } : Obj)) s.heap.objs.size (.tup restV) := ⟨hz, rest, hr, ⟨_, Heap.get?_push_size _ rfl, rfl, _, rfl⟩⟩
      have kp : ∀ b o, s.heap.get? b = some o → (s.heap.push ({ cls := .type "tuple", data := .seq rest.toArray } : Obj)).get? b = some o := fun b o e => Heap.get?_push_of_some _ e
      have z := h { s with heap := s.heap.push ({ cls := .type "tuple", data := .seq rest.toArray } : Obj) } (upd H s.heap.objs.size (.tup restV)) [.ref s.heap.objs.size] [.ref s.heap.objs.size] (env0_new (t := s.toks) e0 (Nat.le_refl _) kp (by rw [Heap.size_push]; exact Nat.le_succ _) new) (Un.laid kp (Nat.le_refl _) hn0) kp rfl (.cons rfl .nil) ⟨_, hn0, rfl, rfl⟩ rfl
      simpa [vaN] using z
/-- what a call asks of a def with these parameters -/
def SpOf (pn kn : List Str) (va kwa : Bool) (dvV : Str → V) (sp : Sp) : SpG := fun vs ks zs H Q E => ∃ sl ex, ks.length = zs.length ∧ kwF (pn ++ kn) kwa (ks.zip zs) (pn.zip vs) [] = some (sl, ex) ∧ (∀ n ∈ pn, (sl.lookup n).isNone = false) ∧ (vs.length ≤ pn.length ∨ va = true) ∧
  ex.length ≤ sizeLine ∧ (ex.map (·.1)).Nodup ∧ (vs.drop pn.length).length ≤ sizeLine ∧ (pick (fillK dvV kn sl) (pn ++ kn)).length = (pn ++ kn).length ∧ ∀ tl H2, TailV va kwa H (vs.drop pn.length) ex tl H2 → sp (pick (fillK dvV kn sl) (pn ++ kn) ++ tl) H2 Q E
theorem fnG_of {k : Nat} {f : Addr} {name qual : Str} {as kos : List Arg} {va kwa : Option Arg} {kds : List (Option Expr)} {body : List Stmt} {scope : Scope} {kV doc pm cdv ct oc : Value} {an od : Option Addr} {osl : Array (Option Value)} {N : List Str} {sp : Sp} {dvV : Str → V}
    (lk : K.lookup f = some ⟨oc, od, .func (PySem.W.fnOf name qual ⟨[], as, va, kos, kds, kwa, []⟩ body scope .none kV doc pm an cdv ct), osl⟩) (hcd : PySem.W.codeIn K cdv qual = true)
    (S : FnScope N (as.map (fun x : Arg => x.arg) ++ kos.map (fun x : Arg => x.arg) ++ (vaN va ++ vaN kwa)) scope) (hCX : StX.CXUp CX) (hnb : ¬ (va.isSome = true ∧ kwa.isSome = true))
    (hd : ∀ n ∈ kos.map (fun x : Arg => x.arg), ∃ d u, kV = .ref d ∧ PySem.W.nsIn K d n = some (some u) ∧ L2.RelV (dvV n) u)
    (hbody : ∀ (A : Around) (outer : List Env) (s : Shared) (H : Hp) (vs : List V) (Q : VK) (E : XK), Room k (A.deeper (envOfC qual scope s.heap.objs.size f cdv)) → sp vs H Q E →
      ∃ t, PSs (cxOf CX P w K mg base N qual scope f cdv A outer s H E) body t ∧ t { nx := fun _ H' => Q .non H', rt := Q } (start N vs) H) :
    FnG P w K mg base CX (k + 1) f (SpOf (as.map (fun x : Arg => x.arg)) (kos.map (fun x : Arg => x.arg)) va.isSome kwa.isSome dvV sp) := by
  intro A outer s H us ks ws vs zs Q E hr e0 r rz hsp
  obtain ⟨slV, exV, hl, hk, hall, hfew, hez, hen, hrz, hpk, hgo⟩ := hsp
  have KX : K.In s.heap := e0.mod.kin.keeps fun b o e => (e0.bs b o e).1
  obtain ⟨⟨sl, ex⟩, hk2, hs, hx⟩ := kwF_rel (KS.zip ks rz) (KS.zip (as.map (fun x : Arg => x.arg)) r) KS.nil hk
  have hd' : ∃ dv : Str → Value, ∀ n ∈ kos.map (fun x : Arg => x.arg), L2.RelV (dvV n) (dv n) ∧ ∃ d, kV = .ref d ∧ PySem.W.nsIn K d n = some (some (dv n)) := by
    refine ⟨fun n => match kV with
      | .ref d => (match PySem.W.nsIn K d n with
        | some (some u) => u
        | _ => .none)
      | _ => .none, fun n hn => ?_⟩
    obtain ⟨d, u, e1, e2, e3⟩ := hd n hn
    subst e1
    dsimp only
    rw [e2]
    exact ⟨e3, d, rfl, e2⟩
  obtain ⟨dv, hdv⟩ := hd'
  have B : BindIn (as.map (fun x : Arg => x.arg)) (kos.map (fun x : Arg => x.arg)) va.isSome kwa.isSome us (ks.zip ws) sl ex :=
    ⟨hk2, fun n hn => by rw [(hs.lookN n).1]; exact hall n hn, by rw [← r.length]; exact hfew, by rw [hx.length]; exact hez⟩
  have hF := fillK_rel (fun n hn => (hdv n hn).1) hs
  have hP := pick_rel hF (as.map (fun x : Arg => x.arg) ++ kos.map (fun x : Arg => x.arg))
  refine StX.run_bnd lk hcd S hr e0 (G := fun xs H2 => ∃ tl, xs = pick (fillK dvV (kos.map (fun x : Arg => x.arg)) slV) (as.map (fun x : Arg => x.arg) ++ kos.map (fun x : Arg => x.arg)) ++ tl ∧ TailV va.isSome kwa.isSome H (vs.drop (as.map (fun x : Arg => x.arg)).length) exV tl H2) (fun A' Ex Q' h => ?_) fun s2 H2 xs ⟨tl, ex_, ht⟩ hr' => ?_
  · refine bind_gen (dv := dv) B (fun n hn => ?_) ?_
    · obtain ⟨_, d, e1, e2⟩ := hdv n hn
      exact ⟨d, e1, PySem.W.looks_nsIn KX e2⟩
    · rw [pick_zip (by rw [← hP.length]; exact hpk)]
      refine tail_ok e0 hnb (r.drop _) hrz hx hez hen fun s2 H2 tl ut e2 un kp ho rt ht hlt => ?_
      have z := h s2 H2 (pick (fillK dvV (kos.map (fun x : Arg => x.arg)) slV) (as.map (fun x : Arg => x.arg) ++ kos.map (fun x : Arg => x.arg)) ++ tl) (pick (fillK dv (kos.map (fun x : Arg => x.arg)) sl) (as.map (fun x : Arg => x.arg) ++ kos.map (fun x : Arg => x.arg)) ++ ut) e2 un ho
        (fun e s' => hCX outer s H s2 H2 E e s' un kp ho) (hP.append rt) (by rw [List.length_append, List.length_append, hpk, hlt]) ⟨tl, rfl, ht⟩
      rw [List.zip_append (by rw [← hP.length]; exact hpk.symm)] at z
      exact z
  · subst ex_
    exact hbody A outer s2 H2 _ Q E hr' (hgo tl H2 ht)
end
end EvCall


set_option autoImplicit false
set_option Elab.async false
set_option linter.all false
set_option maxRecDepth 100000
set_option maxHeartbeats 4000000
/-! EvW: what an own class does by its special methods: len, repr, ==; properties. -/
namespace EvCall
open PySem PySem.Spec PySem.W PySem.Calls PyProof.Rows L2 Builtin
section
variable {M : Model} {A : Around} {E : Value → Shared → Prop} {K : PySem.W.Frag} {s : Shared} {x C f : Addr} {ox : Obj} {od : Option Obj} {name : Str}
theorem special_K (X : K.In s.heap) (J : PySem.W.InstAt s.heap x ox C od) (hf : findIn K (.ref C) name = some (some (.ref f))) : Looks M s.heap (specialOf (.ref x) name) (some (.ref f)) := J.type.andThen (looks_findIn X hf)
theorem bindSp_K (X : K.In s.heap) (hfn : isFn K (.ref f) = true) {self : Value} {Q : Value × List Value → Shared → Prop} (hq : Q (.ref f, [self]) s) : wpAny M A (bindSpecial (.ref f) self) Q E s := by
  unfold bindSpecial
  refine wpAny_bind ((looks_typeIn X (beq_iff_eq.mp hfn)).here ?_)
  rw [if_pos (by decide)]
  exact wpAny_pure hq
theorem callSp_K {args : List Value} {Q : Option Value → Shared → Prop} (X : K.In s.heap) (J : PySem.W.InstAt s.heap x ox C od) (hf : findIn K (.ref C) name = some (some (.ref f))) (hfn : isFn K (.ref f) = true)
    (hcall : wpAny M A (call (.ref f) (.ref x :: args)) (fun v => Q (some v)) E s) : wpAny M A (callSpecial? (.ref x) name args) Q E s := by
  unfold callSpecial?
  refine wpAny_bind ((special_K X J hf).here ?_)
  refine wpAny_holding (wpAny_bind (bindSp_K X hfn ?_))
  exact wpAny_bind (wpAny_mono hcall (fun v s' h' => wpAny_pure h') fun _ _ h' => h')
theorem callSpB_K {args : List Value} {Q : Option Value → Shared → Prop} (X : K.In s.heap) (J : PySem.W.InstAt s.heap x ox C od) (hf : findIn K (.ref C) name = some (some (.ref f))) (hfn : isFn K (.ref f) = true)
    (hcall : wpAny M A (call (.ref f) (.ref x :: args)) (fun v => Q (some v)) E s) : wpAny M A (callSpecialIfBound? (.ref x) name args) Q E s := by
  simp only [callSpecialIfBound?, bindSpecialIfBound?]
  refine wpAny_holding (wpAny_bind (wpAny_bind ((special_K X J hf).here ?_)))
  refine wpAny_bind (wpAny_askSetting (wpAny_ite ?_))
  have fin : wpAny M A (call (.ref f) ([.ref x] ++ args) >>= fun v => pure (some v)) Q E s :=
    wpAny_bind (wpAny_mono hcall (fun v s' h' => wpAny_pure h') fun _ _ h' => h')
  split
  · exact wpAny_bind (bindSp_K X hfn (wpAny_pure (by exact fin)))
  · exact wpAny_tryCatch (wpAny_bind (bindSp_K X hfn (wpAny_pure (by exact fin))))
end
section
variable {prog : Program} {w : World} {A : Around} {E : Value → Shared → Prop} {K : PySem.W.Frag} {s : Shared} {x C f : Addr} {ox : Obj} {od : Option Obj}
theorem len_K {Q : Value → Shared → Prop} (X : K.In s.heap) (J : PySem.W.InstAt s.heap x ox C od) (hf : findIn K (.ref C) "__len__" = some (some (.ref f))) (hfn : isFn K (.ref f) = true)
    (hcall : wpAny (model prog w) A.in1 (call (.ref f) [.ref x]) (fun r s' => ∃ n u, r = .int n u ∧ 0 ≤ n ∧ n < 2 ^ 63 ∧ Q (.int n s'.toks) { s' with toks := s'.toks + 1 }) E s) :
    wpAny (model prog w) A (call (.builtin "len") [.ref x]) Q E s := by
  refine Calls.call_function_entry kind_len plain_len entry_len (args_len1 _) ?_
  unfold Builtin.«len»
  refine wpAny_bind (m := oneArg "len" _) (wpAny_pure ?_)
  refine wpAny_bind (m := callSpecial? (.ref x) (Str.ofString "__len__")) (callSp_K X J hf hfn (wpAny_mono hcall (fun r s' hr => ?_) fun _ _ y => y))
  obtain ⟨n, u, rfl, h0, h1, hq⟩ := hr
  refine wpAny_bind (wpAny_holding (wpAny_pure ?_))
  refine wpAny_bind (wpAny_letGo ?_)
  show wpAny _ _ (if n < 0 then _ else _) _ _ _
  rw [if_neg (by omega)]
  show wpAny _ _ (if n ≥ 2 ^ 63 then _ else _) _ _ _
  rw [if_neg (by omega)]
  exact wpAny_bind (wpAny_mkInt (wpAny_pure ⟨_, rfl, hq⟩))
theorem repr_K {Q : Value → Shared → Prop} (X : K.In s.heap) (J : PySem.W.InstAt s.heap x ox C od) (hf : findIn K (.ref C) "__repr__" = some (some (.ref f))) (hfn : isFn K (.ref f) = true) (hu : A.in1.units < cLine)
    (hcall : wpAny (model prog w) A.in1 (call (.ref f) [.ref x]) (fun r s' => ∃ m tk, r = .str m tk ∧ Q (.str m tk) s') E s) :
    wpAny (model prog w) A (call (.builtin "repr") [.ref x]) Q E s := by
  refine Calls.call_function_entry F.kind_repr F.plain_repr F.entry_repr (F.args_repr1 _) ?_
  unfold Builtin.«repr»
  refine wpAny_bind (m := oneArg "repr" _) (wpAny_pure ?_)
  refine wpAny_bind (wpAny_cRoomFor hu ?_)
  refine wpAny_bind ((special_K X J hf).here ?_)
  show wpAny _ _ (if (some (Value.ref f)).isNone = true then _ else _) _ _ _
  rw [if_neg (by simp)]
  refine wpAny_bind (m := callSpecialIfBound? (.ref x) (Str.ofString "__repr__") _) (callSpB_K X J hf hfn (wpAny_mono hcall (fun r s' hr => ?_) fun _ _ y => y))
  obtain ⟨m, tk, rfl, hq⟩ := hr
  refine wpAny_bind (wpAny_isInstance (typeIs_str _ _ _) isSubtype_str_str ?_)
  first
    | exact wpAny_pure ⟨_, rfl, hq⟩
    | (rw [if_pos rfl]; exact wpAny_pure ⟨_, rfl, hq⟩)
    | (simp only [if_true]; exact wpAny_pure ⟨_, rfl, hq⟩)
/-- x == y by x's own __eq__; y's class is x's, or no class below it -/
theorem eq_K {Q : Value → Shared → Prop} {y tb : Value} (X : K.In s.heap) (J : PySem.W.InstAt s.heap x ox C od) (hf : findIn K (.ref C) "__eq__" = some (some (.ref f))) (hfn : isFn K (.ref f) = true) (hu : A.units < cLine)
    (hy : Looks (model prog w) s.heap (typeOf y) tb) (ht : tb = .ref C ∨ subIn K tb (.ref C) = some false)
    (hcall : wpAny (model prog w) A (call (.ref f) [.ref x, y]) (fun v s' => ∃ b, v = .bool b ∧ Q (.bool b) s') E s) : wpAny (model prog w) A (compareOp .Eq (.ref x) y) Q E s := by
  unfold compareOp
  show wpAny _ _ (richCompare .Eq (.ref x) y) _ _ _
  unfold richCompare
  refine wpAny_holding ?_
  refine wpAny_bind (wpAny_cRoomFor hu ?_)
  have e0 : oneThing? .Eq (.ref x) y = none := by cases y <;> rfl
  rw [e0]
  dsimp only [cmpInfo]
  refine wpAny_bind (J.type.here ?_)
  refine wpAny_bind (hy.here ?_)
  have go : wpAny (model prog w) A (tryCompare (.ref x) (Str.ofString "__eq__") y) (fun r s' => ∃ v, r = some v ∧ Q v s') E s := by
    unfold tryCompare
    refine wpAny_bind (callSpB_K X J hf hfn (wpAny_mono hcall (fun v s' hv => ?_) fun _ _ e => e))
    obtain ⟨b, rfl, hq⟩ := hv
    exact wpAny_pure ⟨_, rfl, hq⟩
  have fin : ∀ k : Option Value → Sem Value, (∀ v, k (some v) = pure v) → wpAny (model prog w) A (tryCompare (.ref x) (Str.ofString "__eq__") y >>= k) Q E s := fun k hk =>
    wpAny_bind (wpAny_mono go (fun r s' hr => by
      obtain ⟨v, rfl, hq⟩ := hr
      rw [hk]
      exact wpAny_pure hq) fun _ _ e => e)
  by_cases c : tb = .ref C
  · subst c
    rw [show (Value.ref C != Value.ref C) = false from by simp]
    simp only [Bool.false_eq_true, if_false]
    refine wpAny_bind (wpAny_pure ?_)
    simp only [Bool.false_eq_true, if_false]
    exact fin _ fun v => rfl
  · have hs : subIn K tb (.ref C) = some false := ht.resolve_left c
    rw [show (Value.ref C != tb) = true from by simpa using fun z => c z.symm]
    simp only [if_true]
    refine wpAny_bind ((looks_subIn X hs).here ?_)
    simp only [Bool.false_eq_true, if_false]
    exact fin _ fun v => rfl
end
section
variable {X : Cx} {CX : CXT} {k : Nat} {C p g a dx : Addr} {fs : List (Str × V)} {f : Str} {sp : SpG} {E : XK} {e : Expr} {pos : Pos} {ta : TE}
/-- e.f, a property -/
theorem pe_prG (he : PE X e ta) (F : FnG X.prog X.w X.K X.mg X.base CX k g sp) (hr : Room (k + 1) X.A) (hx : Passes CX X.nox E) (hab : attributeBase e f X.env (eval e X.env) = eval e X.env) :
    PE X (.Attribute e f pos) (fun σ H Q => ta σ H fun x H1 => ∃ a C dx fs p, x = .ref a ∧ H1 a = some (.ins C dx fs) ∧ Cls X.K C ∧ L2.PropOf X.K C f p g ∧ sp [.ref a] [] [] H1 Q E) := by
  refine ⟨fun pins s σ H Q I h => ?_⟩
  refine attr_of hab (thn (he.run pins s σ H _ I h) fun u s1 ⟨x, H1, I1, rx, a, C, dx, fs, p, ex, ea, c, hp, q⟩ => ?_)
  subst ex
  obtain rfl : u = Value.ref a := rx
  obtain ⟨mA, O, _, _, _, _⟩ := ins_get I1.hok ea
  obtain ⟨od, J, _⟩ := O.look
  obtain ⟨rest, hrec⟩ := hp.rec_
  have I2 := I1.tok (s1.toks + 1)
  have hc : (PySem.W.clsIn X.K C).isSome = true := by
    obtain ⟨cd, hc, _⟩ := PySem.W.any_some c.hd
    rw [hc]
    rfl
  refine PySem.W.get_bind I1.kIn J (PySem.W.plainGet_of (c.get f)).1 (PySem.W.findObj_data hc hp.at_ hp.get hp.tak) (PySem.W.plainGet_of (c.get f)).2 (wpAny_call (PySem.W.prop_get (s := { s1 with toks := s1.toks + 1 }) I1.kIn hrec ?_))
  refine codeAny_mono (F X.A.in1 X.stack { s1 with toks := s1.toks + 1 } H1 [.ref a] [] [] [.ref a] [] Q E hr.in1 I2.env0.in1 (.cons rfl .nil) .nil q) fun r s' hq => ?_
  cases r with
  | error er => exact False.elim (hx pins σ H1 { s1 with toks := s1.toks + 1 } er s' (I2.wish _) hq)
  | ok fl =>
    cases fl with
    | ret u =>
      obtain ⟨v, H', I3, rv, q3⟩ := I2.after hq
      show wpAny _ _ (handedOut u) _ _ _
      rw [PySem.W.handedOut_of (handed_of rv)]
      exact wpAny_pure ⟨v, H', I3, rv, q3⟩
    | next => exact False.elim hq
    | brk => exact False.elim hq
    | cont => exact False.elim hq
end
end EvCall


set_option autoImplicit false
set_option Elab.async false
set_option linter.all false
set_option maxRecDepth 100000
set_option maxHeartbeats 4000000
/-! EvE: readings of the evaluator; the checker; small rules. -/
namespace Ev
open PySem PySem.Spec PyProof.Rows L2
/-! ### readings -/
section
variable (G : Gs) (C : Ec)
def tE (x : X) : TE := fun σ H Q => ∃ ω M env, EnvRel G ω env σ ∧ HRel G ω M H ∧ PostE G ω (ev C x env M) Q
def tEs (xs : List X) : TA := fun σ H Q => ∃ ω M env, EnvRel G ω env σ ∧ HRel G ω M H ∧ PostL G ω (evs C xs env M) Q
def tT (x : X) : TT := fun σ H Q => ∃ ω M env, EnvRel G ω env σ ∧ HRel G ω M H ∧ Post G (fun _ d b => d = D.bl b) ω (ev C x env M) Q
def tTs (xs : List X) : TT := fun σ H Q => ∃ ω M env, EnvRel G ω env σ ∧ HRel G ω M H ∧ Post G (fun _ (d : Bool) b => d = b) ω (evT C xs env M) Q
/-- the items of a walk -/
def IsWalk (ω : Wd) (items : List D) (J : It) : Prop := ∃ Gd Yd, Walk J items.length Gd Yd ∧ (∀ ω1 M1 H1, Le0 ω ω1 → HRel G ω1 M1 H1 → Gd H1) ∧
  ∀ i x H1 H2 ω1 M1, Le0 ω ω1 → HRel G ω1 M1 H1 → Yd i H1 x H2 → ∃ d ω2, items[i]? = some d ∧ Le ω1 ω2 ∧ HRel G ω2 M1 H2 ∧ Rel G ω2 d x
/-- what is walked, evaluated -/
def evW (k : Ik) (xs : List X) (env : En) (M : List O) : Rs (List D) := (evs C xs env M).bind fun ds M1 => match walkOf k ds with
  | some items => .ok items M1
  | none => .er
def tI (k : Ik) (xs : List X) : TI := fun σ H R => ∃ ω M env, EnvRel G ω env σ ∧ HRel G ω M H ∧ Post G (IsWalk G) ω (evW C k xs env M) R
end
theorem PE.imp {Y : L2.Cx} {e : Expr} {t t' : TE} (h : PE Y e t) (k : ∀ σ H Q, t' σ H Q → t σ H Q) : PE Y e t' := ⟨fun pins s σ H Q I q => h.run pins s σ H Q I (k σ H Q q)⟩
theorem PA.imp {Y : L2.Cx} {e : List Expr} {t t' : TA} (h : PA Y e t) (k : ∀ σ H Q, t' σ H Q → t σ H Q) : PA Y e t' := ⟨fun pos pins s σ H Q I q => h.run pos pins s σ H Q I (k σ H Q q)⟩
theorem PT.imp {Y : L2.Cx} {e : Expr} {t t' : TT} (h : PT Y e t) (k : ∀ σ H Q, t' σ H Q → t σ H Q) : PT Y e t' := ⟨fun pins s σ H Q I q => h.run pins s σ H Q I (k σ H Q q)⟩
theorem PW.imp {Y : L2.Cx} {e : Expr} {t t' : TT} (h : PW Y e t) (k : ∀ σ H Q, t' σ H Q → t σ H Q) : PW Y e t' := ⟨fun w pins s σ H Q I q => h.run w pins s σ H Q I (k σ H Q q)⟩
theorem PTs.imp {Y : L2.Cx} {e : List Expr} {t t' : TT} (h : PTs Y e t) (k : ∀ σ H Q, t' σ H Q → t σ H Q) : PTs Y e t' := ⟨fun pins s σ H Q I q => h.run pins s σ H Q I (k σ H Q q)⟩
theorem PI.imp {Y : L2.Cx} {tg e : Expr} {t t' : TI} (h : PI Y tg e t) (k : ∀ σ H Q, t' σ H Q → t σ H Q) : PI Y tg e t' := ⟨fun pins s σ H Q I q => h.run pins s σ H Q I (k σ H Q q)⟩
theorem PG.imp {Y : L2.Cx} {tg : Expr} {t t' : TG} (h : PG Y tg t) (k : ∀ v σ H Q, t' v σ H Q → t v σ H Q) : PG Y tg t' := ⟨fun pins s σ H v u Q I r q => h.run pins s σ H v u Q I r (k v σ H Q q)⟩
theorem PS.imp {Y : L2.Cx} {e : Stmt} {t t' : TS} (h : PS Y e t) (k : ∀ D σ H, t' D σ H → t D σ H) : PS Y e t' := ⟨fun pins s σ H D I q => h.run pins s σ H D I (k D σ H q)⟩
theorem PSs.imp {Y : L2.Cx} {e : List Stmt} {t t' : TS} (h : PSs Y e t) (k : ∀ D σ H, t' D σ H → t D σ H) : PSs Y e t' := ⟨fun pins s σ H D I q => h.run pins s σ H D I (k D σ H q)⟩

/-! ### the checker -/
structure Ck where
  N : List Str
  sc : Scope
  /-- names whose cells are the frame's (or block's) own -/
  fnv : Str → Bool
  /-- the defs by number -/
  fn : List Str
  /-- the exception classes by number: the name, the field -/
  xn : List (Str × Option Str)
  /-- the classes by number, the module's constants by number -/
  cn : List Str
  gn : List Str
  /-- what is made of lambdas -/
  wy : X → Expr → Bool
def Ck.gl (c : Ck) (x : Str) : Bool := decide (c.sc.names.lookup x = some .globalImplicit)
def Ck.vis (c : Ck) (x : Str) : Bool := match c.sc.names.lookup x with
  | some .local => true
  | some .cell => true
  | some .free => true
  | _ => false
def Ck.tgt (c : Ck) (i : Nat) (x : Str) : Bool := decide (c.N[i]? = some x) && (match c.sc.names.lookup x with
  | some .local => true
  | some .cell => c.fnv x
  | _ => false)
def clName : Cl → Option String
  | .int => some "int" | .bool => some "bool" | .str => some "str" | .list => some "list" | .tuple => some "tuple" | _ => none
def okCl (c : Ck) (k : Cl) : Expr → Bool
  | .Name x _ => (match clName k with
    | some n => decide (x = Str.ofString n) && c.gl x
    | none => false)
  | _ => false
def extName : Nat → Option String
  | 0 => some "ValueError" | 1 => some "LookupError" | 2 => some "IndexError" | _ => none
/-- a class of exceptions -/
def okX (c : Ck) (k : Cl) : Expr → Bool
  | .Name x _ => (match k with
    | .own n => (match c.xn[n]? with
      | some (y, _) => decide (x = y) && (c.gl x && (x == ("__debug__" : Str)) == false)
      | none => false)
    | .ext n => (match extName n with
      | some y => decide (x = Str.ofString y) && c.gl x
      | none => false)
    | _ => false)
  | _ => false
def notSup : Expr → Bool
  | .Call (.Name x _) [] [] _ => x != ("super" : Str)
  | _ => true
/-- a star at the end of an argument list -/
def splitStar : List Expr → List Expr × List Expr
  | [] => ([], [])
  | [.Starred e _] => ([], [e])
  | a :: as => (a :: (splitStar as).1, (splitStar as).2)
/-- the names of keywords, their values -/
def kwParts : List Keyword → Option (List Str × List Expr)
  | [] => some ([], [])
  | ⟨some k, e, _⟩ :: r => (match kwParts r with
    | some (ks, es) => some (k :: ks, e :: es)
    | none => none)
  | _ :: _ => none
def noDbg (x : Str) : Bool := (x == ("__debug__" : Str)) == false && (x == Str.empty) == false
/-- the keys of a display: written texts -/
def okKeys : List Tx → List (Option Expr) → Bool
  | [], [] => true
  | k :: ks, some (.Constant (.str z) _ _) :: es => decide (z.cps.toList = k) && okKeys ks es
  | _, _ => false
def unstar : Expr → Expr
  | .Starred e _ => e
  | e => e
def isStar : Expr → Bool
  | .Starred _ _ => true
  | _ => false
def isRev : Expr → Bool
  | .Slice none none (some (.UnaryOp .USub (.Constant (.int 1) _ _) _)) _ => true
  | _ => false
theorem isRev_ok {e : Expr} (h : isRev e = true) : ∃ k p1 p2 p3, e = .Slice none none (some (.UnaryOp .USub (.Constant (.int 1) k p1) p2)) p3 := by
  unfold isRev at h
  split at h
  · exact ⟨_, _, _, _, rfl⟩
  · cases h
def bmAr : Nat → Nat
  | 0 => 1 | 1 => 0 | 3 => 1 | 4 => 1 | 5 => 1 | 6 => 1 | _ => 2
def bmName : Nat → Option String
  | 0 => some "append" | 1 => some "clear" | 2 => some "get" | 3 => some "index" | 4 => some "join" | 5 => some "split" | 6 => some "extend" | _ => none
def okCls (c : Ck) : List Cl → List Expr → Bool
  | [], [] => true
  | k :: ks, e :: es => okCl c k e && okCls c ks es
  | _, _ => false
def bltName : Nat → Option String
  | 0 => some "len" | 1 => some "int" | 2 => some "all" | 3 => some "str" | 4 => some "list" | 5 => some "list" | 6 => some "tuple" | 7 => some "any" | 8 => some "dict" | 9 => some "sorted" | 10 => some "sum" | 11 => some "max" | 12 => some "min" | _ => none
def okPs (c : Ck) : List Nat → List Expr → Bool
  | [], [] => true
  | i :: is, .Name x _ :: es => c.tgt i x && okPs c is es
  | _, _ => false
def okP (c : Ck) : Pt → Expr → Bool
  | .nm i, .Name x _ => c.tgt i x
  | .tp is, .Tuple es _ _ => okPs c is es
  | _, _ => false
/-- the own names of a block -/
def ownOf (c : Ck) (is : List Nat) : List (Str × Nat) := is.filterMap fun i => (c.N[i]?).map fun x => (x, i)
def Ck.blk (c : Ck) (scope : Scope) : Ck := { c with sc := relS scope c.sc, fnv := fun x => scope.names.lookup x == some .cell, wy := fun _ _ => false }
def Ck.nowy (c : Ck) : Ck := { c with wy := fun _ _ => false }
/-- the arguments of what is walked -/
def itArgs (c : Ck) (k : Ik) (tg e : Expr) : Option (List Expr) := match k with
  | .val => some [e]
  | .rng => (match e with
    | .Call (.Name f _) as [] _ => if decide (f = "range") && (c.gl "range" && decide (as.length = 1 ∨ as.length = 2)) then some as else none
    | _ => none)
  | .enm => (match tg, e with
    | .Tuple _ _ _, .Call (.Name f _) as [] _ => if decide (f = "enumerate") && (c.gl "enumerate" && decide (as.length = 1)) then some as else none
    | _, _ => none)
  | .zip => (match tg, e with
    | .Tuple _ _ _, .Call (.Name f _) as [] _ => if decide (f = "zip") && (c.gl "zip" && decide (as.length = 2)) then some as else none
    | _, _ => none)
def okK : D → Const → Bool
  | .int i, .int j => decide (i = j)
  | .bl b, .bool b' => b == b'
  | .non, .none => true
  | .str s, .str z => decide (z.cps.toList = s)
  | _, _ => false
def noLc : Expr → Bool
  | .ListComp _ _ _ _ => false
  | _ => true
mutual
def okE : X → Ck → Expr → Bool
  | .var i, c, .Name x _ => decide (c.N[i]? = some x) && (c.vis x && ((x == ("__debug__" : Str)) == false && (x == ("__classdict__" : Str)) == false))
  | .cst d, _, .Constant k _ _ => okK d k
  | .bin o a b, c, .BinOp ea op eb _ => decide (op = bo o) && (okE a c ea && okE b c eb)
  | .neg a, c, .UnaryOp .USub ea _ => okE a c ea
  | .cmp o a b, c, .Compare ea [op] [eb] _ => decide (op = co o) && (okE a c ea && okE b c eb)
  | .cmp2 o p a b d, c, .Compare ea [op, pp] [eb, ed] _ => decide (op = co o) && (decide (pp = co p) && (okE a c ea && (okE b c eb && okE d c ed)))
  | .and a b, c, .BoolOp .And [ea, eb] _ => okE a c ea && okE b c eb
  | .and a b, c, .BoolOp .And (ea :: eb :: ed :: rest) pos => okE a c ea && okE b c (.BoolOp .And (eb :: ed :: rest) pos)
  | .or a b, c, .BoolOp .Or [ea, eb] _ => okE a c ea && okE b c eb
  | .or a b, c, .BoolOp .Or (ea :: eb :: ed :: rest) pos => okE a c ea && okE b c (.BoolOp .Or (eb :: ed :: rest) pos)
  | .not a, c, .UnaryOp .Not ea _ => okE a c ea
  | .ife t a b, c, .IfExp et ea eb _ => okE t c et && (okE a c ea && okE b c eb)
  | .tup es, c, .Tuple as _ _ => okEs es c as
  | .lst _ es, c, .List as _ => okEs es c as
  | .item a i, c, .Subscript ea ei _ => okE a c ea && okE i c ei
  | .dsp t fl es, c, .Tuple as _ _ => decide (t = 0 ∧ fl = as.map isStar) && okEs es c (as.map unstar)
  | .dsp t fl es, c, .List as _ => decide (t ≠ 0 ∧ fl = as.map isStar) && okEs es c (as.map unstar)
  | .rev a, c, .Subscript ea sl _ => isRev sl && okE a c ea
  | .gky i k, c, .Subscript (.Name x _) ek _ => decide (c.gn[i]? = some x) && (c.gl x && (noDbg x && okE k c ek))
  | .slc a lo hi, c, .Subscript ea (.Slice l h none _) _ => okE a c ea && (okEs lo c l.toList && okEs hi c h.toList)
  | .isi a k, c, .Call (.Name f _) [ea, ek] [] _ => decide (f = "isinstance") && (c.gl "isinstance" && (okE a c ea && (okCl c k ek || okX c k ek)))
  | .isis a (q :: ks), c, .Call (.Name f _) [ea, .Tuple eks _ _] [] _ => decide (f = "isinstance") && (c.gl "isinstance" && (okE a c ea && (okCls c (q :: ks) eks && decide ((q :: ks).length ≤ 1000))))
  | .glo i, c, .Name x _ => decide (c.gn[i]? = some x) && (c.gl x && noDbg x)
  | .call f es st ks vs, c, .Call (.Name x _) as kws _ => decide (c.fn[f]? = some x) && (c.gl x && (noDbg x && (((splitStar as).1.isEmpty || (splitStar as).2.isEmpty) && (okEs es c (splitStar as).1 && (okEs st c (splitStar as).2 && (match kwParts kws with
    | some (kn, ke) => decide (kn = ks.map sS) && okEs vs c ke
    | none => false))))))
  | .mk n _ es st ks vs, c, .Call (.Name x _) as kws _ => decide (c.cn[n]? = some x) && (c.gl x && (noDbg x && (((splitStar as).1.isEmpty || (splitStar as).2.isEmpty) && (okEs es c (splitStar as).1 && (okEs st c (splitStar as).2 && (match kwParts kws with
    | some (kn, ke) => decide (kn = ks.map sS) && okEs vs c ke
    | none => false))))))
  | .meth a m f es [] ks vs, c, .Call (.Attribute ea n ap) as kws p => decide (n = sS m ∧ f < c.fn.length) && (notSup ea && ((ap.endLine == p.line) && (decide (as.length + kws.length < 25) && (okE a c ea && (okEs es c as && (match kwParts kws with
    | some (kn, ke) => decide (kn = ks.map sS) && okEs vs c ke
    | none => false))))))
  | .isc a n, c, .Call (.Name f _) [ea, .Name x _] [] _ => decide (f = "isinstance") && (c.gl "isinstance" && (okE a c ea && (decide (c.cn[n]? = some x) && (c.gl x && noDbg x))))
  | .oeq a b f, c, .Compare ea [.Eq] [eb] _ => decide (f < c.fn.length) && (okE a c ea && okE b c eb)
  | .one a b f, c, .Compare ea [.NotEq] [eb] _ => decide (f < c.fn.length) && (okE a c ea && okE b c eb)
  | .olen a g, c, .Call (.Name f _) [ea] [] _ => decide (f = "len" ∧ g < c.fn.length) && (c.gl "len" && okE a c ea)
  | .orep a g, c, .Call (.Name f _) [ea] [] _ => decide (f = "repr" ∧ g < c.fn.length) && (c.gl "repr" && okE a c ea)
  | .fld a f, c, .Attribute ea n _ => decide (n = sS f) && (notSup ea && okE a c ea)
  | .prp a f g, c, .Attribute ea n _ => decide (n = sS f ∧ g < c.fn.length) && (notSup ea && okE a c ea)
  | .ccst n f, c, .Attribute (.Name x _) g _ => decide (c.cn[n]? = some x) && (c.gl x && (noDbg x && decide (g = sS f)))
  | .dic h ks vs, c, .Dict keys values _ => (h && (ks.isEmpty && (vs.isEmpty && (keys.isEmpty && values.isEmpty)))) || (okKeys ks keys && (decide (0 < ks.length ∧ ks.length ≤ 15) && (decide (ks.length = vs.length) && okEs vs c values)))
  | .key a k, c, .Subscript ea ek _ => okE a c ea && okE k c ek
  | .fst p a q, c, .JoinedStr [.Constant (.str y) _ _, .FormattedValue ea (.negSucc 0) none _, .Constant (.str z) _ _] _ => decide (y.cps.toList = p ∧ p.length ≤ lim) && (decide (z.cps.toList = q) && okE a c ea)
  | .bm m a es, c, .Call (.Attribute ea n ap) as [] p => (match bmName m with
    | some w => decide (n = Str.ofString w)
    | none => false) && (notSup ea && ((ap.endLine == p.line) && (decide (as.length = bmAr m) && (okE a c ea && okEs es c as))))
  | .attr a f, c, .Attribute ea n _ => decide (n = sS f) && (notSup ea && okE a c ea)
  | .mkx i kw es, c, .Call (.Name x _) as [] _ => kw == false && ((match c.xn[i]? with
    | some (y, _) => decide (x = y)
    | none => false) && (c.gl x && ((x == ("__debug__" : Str)) == false && okEs es c as)))
  | .mkx i kw es, c, .Call (.Name x _) [] [⟨some f, ea, _⟩] _ => kw == true && (decide (c.xn[i]? = some (x, some f)) && (c.gl x && ((x == ("__debug__" : Str)) == false && okEs es c [ea])))
  | .blt b es, c, .Call (.Name x _) as [] _ => (match bltName b with
    | some w => decide (x = Str.ofString w)
    | none => false) && (c.gl x && okEs es c as)
  | .lc _ p e k its ifs, c, .ListComp ee [⟨tg, eit, eifs, 0⟩] scope _ => (match itArgs c k tg eit with
    | some as => okEs its c as
    | none => false) && (blkC c.N c.sc scope (ownOf c (pslots p)) && (okP (c.blk scope) p tg && (okE e (c.blk scope) ee && okEs ifs (c.blk scope) eifs && decide (ifs.length ≤ 1) && decide ((ownOf c (pslots p)).map (·.2) = pslots p))))
  | .gc a, c, e => noLc e && okE a c e
  | .gct a, c, e => noLc e && okE a c e
  | .got n, c, .Call f as kws p => c.wy (.got n) (.Call f as kws p)
  | .why n, c, .Call f as kws p => c.wy (.why n) (.Call f as kws p)
  | .lams ns, c, .List es p => c.wy (.lams ns) (.List es p)
  | .whys a, c, .Call f as kws p => c.wy (.whys a) (.Call f as kws p)
  | _, _, _ => false
termination_by structural x => x
def okEs : List X → Ck → List Expr → Bool
  | [], _, [] => true
  | x :: xs, c, e :: es => okE x c e && okEs xs c es
  | _, _, _ => false
termination_by structural x => x
end
end Ev


set_option autoImplicit false
set_option Elab.async false
set_option linter.all false
set_option maxRecDepth 100000
set_option maxHeartbeats 4000000
/-! EvF: what the checker lets through is walked rightly: expressions. -/
namespace Ev
open PySem PySem.Spec PyProof.Rows L2
theorem okE_star : ∀ (x : X) (c : Ck) (v : Expr) (p : Pos), okE x c (.Starred v p) = false
  | .var _, c, v, p => rfl
  | .cst _, c, v, p => rfl
  | .glo _, c, v, p => rfl
  | .bin _ _ _, c, v, p => rfl
  | .neg _, c, v, p => rfl
  | .cmp _ _ _, c, v, p => rfl
  | .cmp2 _ _ _ _ _, c, v, p => rfl
  | .and _ _, c, v, p => rfl
  | .or _ _, c, v, p => rfl
  | .not _, c, v, p => rfl
  | .ife _ _ _, c, v, p => rfl
  | .tup _, c, v, p => rfl
  | .lst _ _, c, v, p => rfl
  | .item _ _, c, v, p => rfl
  | .slc _ _ _, c, v, p => rfl
  | .attr _ _, c, v, p => rfl
  | .isi _ _, c, v, p => rfl
  | .isis _ ks, c, v, p => by cases ks <;> rfl
  | .call _ _ _ _ _, c, v, p => rfl
  | .mk _ _ _ _ _ _, c, v, p => rfl
  | .meth _ _ _ _ st _ _, c, v, p => by cases st <;> rfl
  | .isc _ _, c, v, p => rfl
  | .oeq _ _ _, c, v, p => rfl
  | .one _ _ _, c, v, p => rfl
  | .olen _ _, c, v, p => rfl
  | .orep _ _, c, v, p => rfl
  | .fld _ _, c, v, p => rfl
  | .prp _ _ _, c, v, p => rfl
  | .ccst _ _, c, v, p => rfl
  | .dic _ _ _, c, v, p => rfl
  | .key _ _, c, v, p => rfl
  | .fst _ _ _, c, v, p => rfl
  | .bm _ _ _, c, v, p => rfl
  | .mkx _ _ _, c, v, p => rfl
  | .blt _ _, c, v, p => rfl
  | .lc _ _ _ _ _ _, c, v, p => rfl
  | .dsp _ _ _, c, v, p => rfl
  | .rev _, c, v, p => rfl
  | .gky _ _, c, v, p => rfl
  | .got _, c, v, p => rfl
  | .why _, c, v, p => rfl
  | .lams _, c, v, p => rfl
  | .whys _, c, v, p => rfl
  | .gc a, c, v, p => by rw [okE, okE_star a c v p, Bool.and_false]
  | .gct a, c, v, p => by rw [okE, okE_star a c v p, Bool.and_false]
theorem okE_set : ∀ (x : X) (c : Ck) (v : List Expr) (k : Nat) (p : Pos), okE x c (.Set v k p) = false
  | .var _, c, v, k, p => rfl
  | .cst _, c, v, k, p => rfl
  | .glo _, c, v, k, p => rfl
  | .bin _ _ _, c, v, k, p => rfl
  | .neg _, c, v, k, p => rfl
  | .cmp _ _ _, c, v, k, p => rfl
  | .cmp2 _ _ _ _ _, c, v, k, p => rfl
  | .and _ _, c, v, k, p => rfl
  | .or _ _, c, v, k, p => rfl
  | .not _, c, v, k, p => rfl
  | .ife _ _ _, c, v, k, p => rfl
  | .tup _, c, v, k, p => rfl
  | .lst _ _, c, v, k, p => rfl
  | .item _ _, c, v, k, p => rfl
  | .slc _ _ _, c, v, k, p => rfl
  | .attr _ _, c, v, k, p => rfl
  | .isi _ _, c, v, k, p => rfl
  | .isis _ ks, c, v, k, p => by cases ks <;> rfl
  | .call _ _ _ _ _, c, v, k, p => rfl
  | .mk _ _ _ _ _ _, c, v, k, p => rfl
  | .meth _ _ _ _ st _ _, c, v, k, p => by cases st <;> rfl
  | .isc _ _, c, v, k, p => rfl
  | .oeq _ _ _, c, v, k, p => rfl
  | .one _ _ _, c, v, k, p => rfl
  | .olen _ _, c, v, k, p => rfl
  | .orep _ _, c, v, k, p => rfl
  | .fld _ _, c, v, k, p => rfl
  | .prp _ _ _, c, v, k, p => rfl
  | .ccst _ _, c, v, k, p => rfl
  | .dic _ _ _, c, v, k, p => rfl
  | .key _ _, c, v, k, p => rfl
  | .fst _ _ _, c, v, k, p => rfl
  | .bm _ _ _, c, v, k, p => rfl
  | .mkx _ _ _, c, v, k, p => rfl
  | .blt _ _, c, v, k, p => rfl
  | .lc _ _ _ _ _ _, c, v, k, p => rfl
  | .dsp _ _ _, c, v, k, p => rfl
  | .rev _, c, v, k, p => rfl
  | .gky _ _, c, v, k, p => rfl
  | .got _, c, v, k, p => rfl
  | .why _, c, v, k, p => rfl
  | .lams _, c, v, k, p => rfl
  | .whys _, c, v, k, p => rfl
  | .gc a, c, v, k, p => by rw [okE, okE_set a c v k p, Bool.and_false]
  | .gct a, c, v, k, p => by rw [okE, okE_set a c v k p, Bool.and_false]
theorem okE_slice : ∀ (x : X) (c : Ck) (a b d : Option Expr) (p : Pos), okE x c (.Slice a b d p) = false
  | .var _, c, u, v, d, p => rfl
  | .cst _, c, u, v, d, p => rfl
  | .glo _, c, u, v, d, p => rfl
  | .bin _ _ _, c, u, v, d, p => rfl
  | .neg _, c, u, v, d, p => rfl
  | .cmp _ _ _, c, u, v, d, p => rfl
  | .cmp2 _ _ _ _ _, c, u, v, d, p => rfl
  | .and _ _, c, u, v, d, p => rfl
  | .or _ _, c, u, v, d, p => rfl
  | .not _, c, u, v, d, p => rfl
  | .ife _ _ _, c, u, v, d, p => rfl
  | .tup _, c, u, v, d, p => rfl
  | .lst _ _, c, u, v, d, p => rfl
  | .item _ _, c, u, v, d, p => rfl
  | .slc _ _ _, c, u, v, d, p => rfl
  | .attr _ _, c, u, v, d, p => rfl
  | .isi _ _, c, u, v, d, p => rfl
  | .isis _ ks, c, u, v, d, p => by cases ks <;> rfl
  | .call _ _ _ _ _, c, u, v, d, p => rfl
  | .mk _ _ _ _ _ _, c, u, v, d, p => rfl
  | .meth _ _ _ _ st _ _, c, u, v, d, p => by cases st <;> rfl
  | .isc _ _, c, u, v, d, p => rfl
  | .oeq _ _ _, c, u, v, d, p => rfl
  | .one _ _ _, c, u, v, d, p => rfl
  | .olen _ _, c, u, v, d, p => rfl
  | .orep _ _, c, u, v, d, p => rfl
  | .fld _ _, c, u, v, d, p => rfl
  | .prp _ _ _, c, u, v, d, p => rfl
  | .ccst _ _, c, u, v, d, p => rfl
  | .dic _ _ _, c, u, v, d, p => rfl
  | .key _ _, c, u, v, d, p => rfl
  | .fst _ _ _, c, u, v, d, p => rfl
  | .bm _ _ _, c, u, v, d, p => rfl
  | .mkx _ _ _, c, u, v, d, p => rfl
  | .blt _ _, c, u, v, d, p => rfl
  | .lc _ _ _ _ _ _, c, u, v, d, p => rfl
  | .dsp _ _ _, c, u, v, d, p => rfl
  | .rev _, c, u, v, d, p => rfl
  | .gky _ _, c, u, v, d, p => rfl
  | .got _, c, u, v, d, p => rfl
  | .why _, c, u, v, d, p => rfl
  | .lams _, c, u, v, d, p => rfl
  | .whys _, c, u, v, d, p => rfl
  | .gc a, c, u, v, d, p => by rw [okE, okE_slice a c u v d p, Bool.and_false]
  | .gct a, c, u, v, d, p => by rw [okE, okE_slice a c u v d p, Bool.and_false]
theorem ok_star {x : X} {c : Ck} {e : Expr} (h : okE x c e = true) (es : List Expr) (env : PySem.Env) : starEach (e :: es) env = (false, eval e env) :: starEach es env := by
  cases e with
  | Starred v p => rw [okE_star] at h; cases h
  | _ => rfl
theorem ok_stars : ∀ {xs : List X} {c : Ck} {es : List Expr}, okEs xs c es = true → ∀ (pos : Pos) (env : PySem.Env), (backTo pos (starEach es env)).any (·.1) = false
  | [], c, [], _, pos, env => rfl
  | [], c, _ :: _, h, _, _ => by cases h
  | _ :: _, c, [], h, _, _ => by cases h
  | x :: xs, c, e :: es, h, pos, env => by
    rw [okEs, Bool.and_eq_true] at h
    rw [ok_star h.1]
    have := ok_stars h.2 pos env
    unfold backTo at this ⊢
    rw [List.map_cons, List.any_cons, this]
    rfl
theorem ok_fold {x : X} {c : Ck} {e : Expr} (h : okE x c e = true) (env : PySem.Env) (v : Value) : foldedSetIterable e env v = pure v := by
  cases e with
  | Set v k p => rw [okE_set] at h; cases h
  | _ => rfl
theorem ok_mark {x : X} {c : Ck} {e : Expr} (h : okE x c e = true) (op : CmpOp) : behindInMarks op e = false := by
  cases e with
  | Set v k p => rw [okE_set] at h; cases h
  | _ => rfl
theorem ok_ix {x : X} {c : Ck} {e : Expr} (h : okE x c e = true) : PlainIx e := fun o i => by
  cases e with
  | Slice a b d p => rw [okE_slice] at h; cases h
  | _ => rfl
/-- a def's facts: its name if it is the module's, its place -/
structure Ft where
  name : Str
  adr : Addr
def frees : List Str := ["len", "int", "all", "isinstance", "range", "enumerate", "zip", "bool", "str", "list", "tuple", "ValueError", "LookupError", "IndexError", "any", "repr", "dict", "sorted", "sum", "min", "max"]
/-- nothing is raised -/
abbrev Gs.dead (G : Gs) : Gs := ⟨G.toG0, fun _ _ _ => False⟩
def ecN (P : Pg) (k : Nat) : Ec := mkC P (lvl P k)
open EvCall
def spC (G : G0) (P : Pg) (k f : Nat) : SpG := fun vs ks zs H Q E => ∃ ω M ds kn kds, HRel G ω M H ∧ Rels G ω ds vs ∧ ks = List.map sS kn ∧ kn.length = kds.length ∧ Rels G ω kds zs ∧ PostE ⟨G, E⟩ ω (callN P k f ds (kn.zip kds) M) Q
/-- what is known of a constant of the module: a value, or a dict with text keys -/
def GlK (G : G0) (w : World) (mg : Str → Option Value) (x : Str) (d : D) : Prop := ((∀ ks ds, d ≠ .dct ks ds) ∧ ∃ v u, mg x = some u ∧ L2.RelV v u ∧ ∀ ω, Rel G ω d v) ∨
  ∃ ks ds a, d = .dct ks ds ∧ mg x = some (.ref a) ∧ ∀ z e, dget ks ds (.str z) = some e → ∃ v, L2.KDct G.K w a (sS z) v ∧ ∀ ω, Rel G ω e v
/-- what is known of a class -/
structure CF (G : G0) (ft : List Ft) (i : Nat) (cd : Cd) : Prop where
  ini : cd.init < ft.length
  cls : Cls G.K (G.CC i)
  mkr : ∀ t, ft[cd.init]? = some t → Mk G.K (G.CC i) t.adr
  mth : ∀ m f t, (m, f) ∈ cd.mth → ft[f]? = some t → Meth G.K (G.CC i) (sS m) t.adr
  prp : ∀ m g t, (m, g) ∈ cd.prp → ft[g]? = some t → ∃ p, PropOf G.K (G.CC i) (sS m) p t.adr
  cst : ∀ f d, (f, d) ∈ cd.cst → ∃ mc v u, ClX.CRead G.K (G.CC i) mc ∧ ClX.CVal G.K (G.CC i) mc (sS f) v u ∧ ∀ ω, Rel G ω d v
  fld : ∀ f ∈ cd.fld, NoAttr G.K (G.CC i) (sS f)
  ca : PySem.W.findIn G.K (.ref (G.CC i)) "__class__" = some (some (.builtin "object.__class__"))
  cg : PySem.W.specialIn G.K (.builtin "object.__class__") "__get__" = some (some (.builtin "getset_descriptor.__get__"))
  ct : PySem.W.takesIn G.K (.builtin "object.__class__") = some true
  ob : PySem.W.mroIn G.K (G.CC i) (.type "object") = some true
  ne : PySem.W.findIn G.K (.ref (G.CC i)) "__ne__" = some (some (.builtin "object.__ne__"))
  dat : ∀ t ∈ ["NoneType", "bool", "int", "str", "tuple", "list"], PySem.W.subIn G.K (.type t) (.ref (G.CC i)) = some false ∧ PySem.W.kitOne G.K (.type t) (.ref (G.CC i)) = some false
/-- the fields' names of an exception -/
def xks : Option Tx → List Tx
  | some f => [f, [99, 111, 100, 101]]
  | none => [[99, 111, 100, 101]]
def clV (G : G0) : Cl → Option Value
  | .own n => some (.ref (G.CA n))
  | .ext n => (extName n).map Value.type
  | _ => none
/-- a test's evaluation -/
def evB (C : Ec) (x : X) (env : En) (M : List O) : Rs Bool := (ev C x env M).bind fun d M1 => match d with
  | .bl b => .ok b M1
  | _ => .er
abbrev PostB (G : Gs) := Post G (fun (_ : Wd) (d b : Bool) => d = b)
def tB' (G : Gs) (C : Ec) (x : X) : TT := fun σ H Q => ∃ ω M env, EnvRel G ω env σ ∧ HRel G ω M H ∧ PostB G ω (evB C x env M) Q
structure Snd (G : Gs) (C : Ec) (Y : L2.Cx) (e : Expr) (x : X) : Prop where
  pe : PE Y e (tE G C x)
  pt : PT Y e (tB' G C x)
  pw : ∀ op vs pos, e = .BoolOp op vs pos → PW Y e (tB' G C x)
structure Ok (G : Gs) (P : Pg) (ft : List Ft) (k : Nat) (c : Ck) (Y : L2.Cx) : Prop where
  hK : Y.K = G.K
  hN : Y.N = c.N
  hsc : Y.env.scope = c.sc
  nd : c.N.Nodup
  calm : Y.calm = true
  room : Room (6 * k + 9) Y.A
  tk : Takes Y (fun cls d _ H => G.E cls d H)
  po : PassesOwn (model Y.prog Y.w) Y.A Y.env Y.xe
  fnv : ∀ x, c.fnv x = true → Y.fn x = true
  hfn : c.fn = ft.map Ft.name
  flen : ft.length = P.fns.length
  fns : ∀ (f : Nat) t, ft[f]? = some t → (t.name ≠ Str.empty → Y.mg t.name = some (.ref t.adr)) ∧ PySem.W.keepIn Y.K (.ref t.adr) = true ∧ FnG Y.prog Y.w Y.K Y.mg Y.base (L2.CX Y.prog Y.w) (6 * k + 8) t.adr (spC G P k f)
  cls : ∀ (i : Nat) x, c.cn[i]? = some x → Y.mg x = some (.ref (G.CC i)) ∧ PySem.W.keepIn Y.K (.ref (G.CC i)) = true
  clf : ∀ (i : Nat) cd, P.cls[i]? = some cd → CF G ft i cd
  cnl : c.cn.length ≤ P.cls.length
  kit : ∀ i j, i < P.cls.length → j < c.cn.length → PySem.W.kitOne G.K (.ref (G.CC i)) (.ref (G.CC j)) = some (Nat.beq i j)
  glo : ∀ (i : Nat) x, c.gn[i]? = some x → ∃ d, P.glo[i]? = some d ∧ GlK G Y.w Y.mg x d
  free : ∀ x ∈ frees, Y.mg x = none
  xcs : ∀ (i : Nat) x f, c.xn[i]? = some (x, f) → Y.mg x = some (.ref (G.CA i)) ∧ PySem.W.keepIn Y.K (.ref (G.CA i)) = true ∧ ∀ code f', P.exn[i]? = some (some (code, f')) → f = f'.map sS ∧ Nonempty (XCl Y.K (G.CA i) (sS code) (f'.map sS)) ∧ XIs Y.K (G.CA i) (xks f')
  sub : ∀ (i : Nat) q b, P.sub i q = some b → ∃ cv, clV G q = some cv ∧ PySem.W.kitOne Y.K (.ref (G.CA i)) cv = some b
  wys : ∀ x e, c.wy x e = true → Snd G (ecN P k) Y e x
section
variable {G : Gs} {P : Pg} {ft : List Ft} {k : Nat} {c : Ck} {Y : L2.Cx}
theorem Ok.gl (O : Ok G P ft k c Y) {x : Str} (h : c.gl x = true) : Gl Y x := by
  unfold Ck.gl at h
  have h' := of_decide_eq_true h
  rw [← O.hsc] at h'
  exact h'
theorem Ok.pass (O : Ok G P ft k c Y) : Passes (L2.CX Y.prog Y.w) Y G.E := passes_call O.tk fun _ _ _ _ z => z
theorem Ok.fts (O : Ok G P ft k c Y) {f : Nat} (h : f < c.fn.length) : ∃ t, ft[f]? = some t := by
  rw [O.hfn, List.length_map] at h
  exact ⟨_, List.getElem?_eq_getElem h⟩
theorem Ok.room8 (O : Ok G P ft k c Y) : Room (6 * k + 8) Y.A := O.room.mono (Nat.le_succ _)
theorem Ok.vis (O : Ok G P ft k c Y) {x : Str} (h : c.vis x = true) : Vis Y.env.scope x := by
  unfold Ck.vis at h
  rw [← O.hsc] at h
  unfold Vis
  split at h
  · exact .inl (by assumption)
  · exact .inr (.inl (by assumption))
  · exact .inr (.inr (by assumption))
  · cases h
theorem Ok.tgt (O : Ok G P ft k c Y) {i : Nat} {x : Str} {pos : Pos} (h : c.tgt i x = true) : PG Y (.Name x pos) (gName i) := by
  unfold Ck.tgt at h
  rw [Bool.and_eq_true] at h
  have hi := of_decide_eq_true h.1
  have h2 := h.2
  rw [← O.hsc] at h2
  rw [← O.hN] at hi
  have nd : Y.N.Nodup := by rw [O.hN]; exact O.nd
  split at h2
  · rename_i e
    exact pg_name nd hi (.inl e) (.inr e)
  · rename_i e
    exact pg_name nd hi (.inr e) (.inl (O.fnv x h2))
  · cases h2
theorem Ok.nox (O : Ok G P ft k c Y) : Ok G.dead P ft k c.nowy Y.nox :=
  ⟨O.hK, O.hN, O.hsc, O.nd, O.calm, O.room, LamX.takes0, PassesOwn.never, O.fnv, O.hfn, O.flen, O.fns, O.cls, O.clf, O.cnl, O.kit, O.glo, O.free, O.xcs, O.sub, (fun _ _ z => nomatch z)⟩
theorem Ok.blk (O : Ok G P ft k c Y) {s : Shared} {H : Hp} {scope : Scope} {C : Addr} {cl : List (Str × Addr)} {fp : List Addr} : Ok G.dead P ft k (c.blk scope) (Y.blk s H scope (compEnvC scope cl C Y.env) fp) := by
  refine ⟨O.hK, O.hN, ?_, O.nd, O.calm, O.room, LamX.takes0, PassesOwn.never, fun x h => h, O.hfn, O.flen, O.fns, O.cls, O.clf, O.cnl, O.kit, O.glo, O.free, O.xcs, O.sub, (fun _ _ z => nomatch z)⟩
  show relS scope Y.env.scope = relS scope c.sc
  rw [O.hsc]
end
theorem passF {Z : L2.Cx} : Passes (L2.CX Z.prog Z.w) Z (fun _ _ _ => False) := passes_call (W := fun _ _ _ _ => False) LamX.takes0 fun _ _ _ _ z => z
theorem Post.quiet {α β : Type} {G : Gs} {RA : Wd → α → β → Prop} {ω : Wd} {r : Rs α} {Q : β → Hp → Prop} (h : Post G RA ω (noX r) Q) : Post G.dead RA ω r Q := by
  cases r with
  | ok d M => exact h
  | er => exact h
  | ex d M => exact False.elim h
theorem ev_test {C : Ec} {x : X} {env : En} {M : List O} {α : Type} {a b : List O → Rs α} : ((ev C x env M).bind fun d M1 => match d with
    | .bl true => a M1
    | .bl false => b M1
    | _ => .er) = (evB C x env M).bind fun t M1 => if t = true then a M1 else b M1 := by
  unfold evB
  cases ev C x env M with
  | er => rfl
  | ex _ _ => rfl
  | ok d M1 =>
    cases d with
    | bl t => cases t <;> rfl
    | _ => rfl
theorem PostB.bind {γ δ : Type} {G : Gs} {RB : Wd → γ → δ → Prop} {ω : Wd} {r : Rs Bool} {f : Bool → List O → Rs γ} {Q : δ → Hp → Prop} {Q' : Bool → Hp → Prop} (h : Post G RB ω (r.bind f) Q)
    (k : ∀ t M1 ω1 H1, Le ω ω1 → HRel G ω1 M1 H1 → Post G RB ω1 (f t M1) Q → Q' t H1) : PostB G ω r Q' :=
  Post.bind h fun d M1 ω1 H1 v le hh e p => by
    subst e
    exact k d M1 ω1 H1 le hh p
theorem Snd.of {G : Gs} {C : Ec} {Y : L2.Cx} {e : Expr} {x : X} (h : PE Y e (tE G C x)) (hp : ∀ whole, isTrue e Y.env whole = (do let v ← whole; standAt e.pos; holding [v] (truthy v))) (nb : ∀ op vs pos, e ≠ .BoolOp op vs pos) : Snd G C Y e x := by
  refine ⟨h, PT.imp (pt_val h hp) fun σ H Q q => ?_, fun op vs pos z => absurd z (nb op vs pos)⟩
  obtain ⟨ω, M, env, he, hh, post⟩ := q
  refine ⟨ω, M, env, he, hh, ?_⟩
  unfold evB at post
  refine Post.bind post fun d M1 ω1 H1 v le hh1 r p => ?_
  cases d with
  | bl b =>
    rw [Rel] at r
    exact ⟨b, r, Post.here (v := b) p hh1 rfl⟩
  | _ => exact False.elim p
/-- behind an evaluation -/
theorem tE_bind {G : Gs} {C : Ec} {x : X} {σ : L2.St} {H : Hp} {γ δ : Type} {RB : Wd → γ → δ → Prop} {f : D → List O → Rs γ} {Q : δ → Hp → Prop} {Q' : VK} {ω : Wd} {M : List O} {env : En} (he : EnvRel G ω env σ) (hh : HRel G ω M H)
    (post : Post G RB ω ((ev C x env M).bind f) Q) (k : ∀ d M1 ω1 H1 v, EnvRel G ω1 env σ → HRel G ω1 M1 H1 → Rel G ω1 d v → Post G RB ω1 (f d M1) Q → Le ω ω1 → Q' v H1) : tE G C x σ H Q' :=
  ⟨ω, M, env, he, hh, Post.bind post fun d M1 ω1 H1 v le hh1 r p => k d M1 ω1 H1 v (he.mono le) hh1 r p le⟩
theorem tEs_bind {G : Gs} {C : Ec} {xs : List X} {σ : L2.St} {H : Hp} {γ δ : Type} {RB : Wd → γ → δ → Prop} {f : List D → List O → Rs γ} {Q : δ → Hp → Prop} {Q' : List V → Hp → Prop} {ω : Wd} {M : List O} {env : En} (he : EnvRel G ω env σ) (hh : HRel G ω M H)
    (post : Post G RB ω ((evs C xs env M).bind f) Q) (k : ∀ d M1 ω1 H1 v, EnvRel G ω1 env σ → HRel G ω1 M1 H1 → Rels G ω1 d v → Post G RB ω1 (f d M1) Q → Le ω ω1 → Q' v H1) : tEs G C xs σ H Q' :=
  ⟨ω, M, env, he, hh, Post.bind post fun d M1 ω1 H1 v le hh1 r p => k d M1 ω1 H1 v (he.mono le) hh1 r p le⟩
theorem tB_bind {G : Gs} {C : Ec} {x : X} {σ : L2.St} {H : Hp} {γ δ : Type} {RB : Wd → γ → δ → Prop} {f : Bool → List O → Rs γ} {Q : δ → Hp → Prop} {Q' : Bool → Hp → Prop} {ω : Wd} {M : List O} {env : En} (he : EnvRel G ω env σ) (hh : HRel G ω M H)
    (post : Post G RB ω ((evB C x env M).bind f) Q) (k : ∀ d M1 ω1 H1, EnvRel G ω1 env σ → HRel G ω1 M1 H1 → Post G RB ω1 (f d M1) Q → Le ω ω1 → Q' d H1) : tB' G C x σ H Q' :=
  ⟨ω, M, env, he, hh, PostB.bind post fun d M1 ω1 H1 le hh1 p => k d M1 ω1 H1 (he.mono le) hh1 p le⟩
theorem tE_pair {G : Gs} {C : Ec} {a b : X} {σ : L2.St} {H : Hp} {γ δ : Type} {RB : Wd → γ → δ → Prop} {f : D → D → List O → Rs γ} {Q : δ → Hp → Prop} {Q' : V → V → Hp → Prop} {ω : Wd} {M : List O} {env : En} (he : EnvRel G ω env σ) (hh : HRel G ω M H)
    (post : Post G RB ω ((ev C a env M).bind fun x M1 => (ev C b env M1).bind fun y M2 => f x y M2) Q)
    (k : ∀ x y M2 ω2 H2 v w, EnvRel G ω2 env σ → HRel G ω2 M2 H2 → Rel G ω2 x v → Rel G ω2 y w → Post G RB ω2 (f x y M2) Q → Le ω ω2 → Q' v w H2) : tE G C a σ H fun v H1 => tE G C b σ H1 fun w H2 => Q' v w H2 :=
  tE_bind he hh post fun d M1 ω1 H1 v he1 hh1 r p le => tE_bind he1 hh1 p fun d2 M2 ω2 H2 w he2 hh2 r2 p2 le2 => k d d2 M2 ω2 H2 v w he2 hh2 (Rel.mono le2 _ _ r) r2 p2 (le.trans le2)
end Ev


set_option autoImplicit false
set_option Elab.async false
set_option linter.all false
set_option maxRecDepth 100000
set_option maxHeartbeats 4000000
/-! EvG: one rule a construct. -/
namespace Ev
open PySem PySem.Spec PyProof.Rows L2
section
variable {G : Gs} {P : Pg} {ft : List Ft} {k : Nat} {c : Ck} {Y : L2.Cx}
/-! ### names, constants -/
theorem s_var (O : Ok G P ft k c Y) {i : Nat} {x : Str} {pos : Pos} (h : okE (.var i) c (.Name x pos) = true) : Snd G (ecN P k) Y (.Name x pos) (.var i) := by
  rw [okE] at h
  simp only [Bool.and_eq_true, decide_eq_true_eq, beq_iff_eq] at h
  obtain ⟨h1, h2, h3, h4⟩ := h
  refine Snd.of (PE.imp (pe_var (i := i) (by rw [O.hN]; exact h1) (O.vis h2) h3 h4) fun σ H Q q => ?_) (fun _ => rfl) (fun _ _ _ z => nomatch z)
  obtain ⟨ω, M, env, he, hh, post⟩ := q
  rw [ev] at post
  split at post
  · rename_i d e
    obtain ⟨v, e1, r⟩ := he.val i d e
    exact ⟨v, e1, Post.here post hh r⟩
  · exact False.elim post
theorem s_cst {d : D} {kk : Const} {n : Nat} {pos : Pos} (h : okE (.cst d) c (.Constant kk n pos) = true) : Snd G (ecN P k) Y (.Constant kk n pos) (.cst d) := by
  rw [okE] at h
  unfold okK at h
  split at h
  · have e := of_decide_eq_true h
    subst e
    refine Snd.of (PE.imp pe_int fun σ H Q q => ?_) (fun _ => rfl) (fun _ _ _ z => nomatch z)
    obtain ⟨ω, M, env, he, hh, post⟩ := q
    rw [ev] at post
    exact post_int post hh
  · have e := eq_of_beq h
    subst e
    refine Snd.of (PE.imp pe_bl fun σ H Q q => ?_) (fun _ => rfl) (fun _ _ _ z => nomatch z)
    obtain ⟨ω, M, env, he, hh, post⟩ := q
    rw [ev] at post
    exact post_bl post hh
  · refine Snd.of (PE.imp pe_non fun σ H Q q => ?_) (fun _ => rfl) (fun _ _ _ z => nomatch z)
    obtain ⟨ω, M, env, he, hh, post⟩ := q
    rw [ev] at post
    exact Post.here post hh (by rw [Rel])
  · rename_i s z
    have e := of_decide_eq_true h
    have e2 : z = sS s := by
      unfold sS
      rw [← e]
    subst e2
    refine Snd.of (PE.imp pe_str fun σ H Q q => ?_) (fun _ => rfl) (fun _ _ _ z => nomatch z)
    obtain ⟨ω, M, env, he, hh, post⟩ := q
    rw [ev] at post
    exact post_str post hh
  · cases h
/-! ### operators -/
theorem s_bin (O : Ok G P ft k c Y) {o : BOp} {a b : X} {ea eb : Expr} {op : Operator} {pos : Pos} (ho : op = bo o) (A : Snd G (ecN P k) Y ea a) (B : Snd G (ecN P k) Y eb b) : Snd G (ecN P k) Y (.BinOp ea op eb pos) (.bin o a b) := by
  subst ho
  refine Snd.of (PE.imp (pe_op (opB (G := G) O.hK o) A.pe B.pe) fun σ H Q q => ?_) (fun _ => rfl) (fun _ _ _ z => nomatch z)
  obtain ⟨ω, M, env, he, hh, post⟩ := q
  rw [ev] at post
  exact tE_pair he hh post fun x y M2 ω2 H2 v w he2 hh2 r1 r2 p le => ⟨ω2, M2, x, y, hh2, r1, r2, p⟩
theorem s_neg {a : X} {ea : Expr} {pos : Pos} (A : Snd G (ecN P k) Y ea a) : Snd G (ecN P k) Y (.UnaryOp .USub ea pos) (.neg a) := by
  refine Snd.of (PE.imp (pe_un un_neg A.pe) fun σ H Q q => ?_) (fun _ => rfl) (fun _ _ _ z => nomatch z)
  obtain ⟨ω, M, env, he, hh, post⟩ := q
  rw [ev] at post
  refine tE_bind he hh post fun d M1 ω1 H1 v he1 hh1 r p le => ?_
  cases d with
  | int i =>
    rw [Rel] at r
    exact ⟨i, r, post_int p hh1⟩
  | _ => exact False.elim p
theorem s_cmp (O : Ok G P ft k c Y) {o : COp} {a b : X} {ea eb : Expr} {op : CmpOp} {pos : Pos} (ho : op = co o) (A : Snd G (ecN P k) Y ea a) (B : Snd G (ecN P k) Y eb b) (hm : behindInMarks op eb = false) : Snd G (ecN P k) Y (.Compare ea [op] [eb] pos) (.cmp o a b) := by
  subst ho
  have OC := opC (G := G) (Y := Y) O.hK O.room.units o
  have key : ∀ σ H Q, tE G (ecN P k) (.cmp o a b) σ H Q → tOp (rC G o) (tE G (ecN P k) a) (tE G (ecN P k) b) σ H Q := fun σ H Q q => by
    obtain ⟨ω, M, env, he, hh, post⟩ := q
    rw [ev] at post
    exact tE_pair he hh post fun x y M2 ω2 H2 v w he2 hh2 r1 r2 p le => ⟨ω2, M2, x, y, hh2, r1, r2, p⟩
  refine ⟨PE.imp (pe_cmpR OC A.pe B.pe hm) key, PT.imp (pt_cmpR OC A.pe B.pe hm) fun σ H Q q => ?_, fun _ _ _ z => nomatch z⟩
  obtain ⟨ω, M, env, he, hh, post⟩ := q
  refine key σ H _ ⟨ω, M, env, he, hh, ?_⟩
  unfold evB at post
  refine Post.bind post fun d M1 ω1 H1 v le hh1 r p => ?_
  cases d with
  | bl b =>
    rw [Rel] at r
    exact ⟨b, r, Post.here (v := b) p hh1 rfl⟩
  | _ => exact False.elim p
theorem last_marks {op op' : CmpOp} {b d : Expr} (h : behindInMarks op' d = false) : lastMarks [op, op'] [b, d] = false := h
theorem s_cmp2 (O : Ok G P ft k c Y) {o p : COp} {a b d : X} {ea eb ed : Expr} {op pp : CmpOp} {pos : Pos} (ho : op = co o) (hp : pp = co p) (A : Snd G (ecN P k) Y ea a) (B : Snd G (ecN P k) Y eb b) (E : Snd G (ecN P k) Y ed d) (hm : behindInMarks pp ed = false) :
    Snd G (ecN P k) Y (.Compare ea [op, pp] [eb, ed] pos) (.cmp2 o p a b d) := by
  subst ho hp
  have OC := opC (G := G) (Y := Y) O.hK O.room.units o
  have OP := opC (G := G) (Y := Y) O.hK O.room.units p
  have key : ∀ σ H Q, tE G (ecN P k) (.cmp2 o p a b d) σ H Q → tChain (rC G o) (rC G p) (tE G (ecN P k) a) (tE G (ecN P k) b) (tE G (ecN P k) d) σ H Q := fun σ H Q q => by
    obtain ⟨ω, M, env, he, hh, post⟩ := q
    rw [ev] at post
    refine tE_pair he hh post fun x y M2 ω2 H2 v w he2 hh2 r1 r2 q le => ⟨ω2, M2, x, y, hh2, r1, r2, ?_⟩
    refine Post.bind q fun z M3 ω3 H3 u le3 hh3 rz q3 => ?_
    cases z with
    | bl t =>
      rw [Rel] at rz
      refine ⟨t, rz, ?_⟩
      cases t with
      | true =>
        rw [if_pos rfl]
        exact tE_bind (he2.mono le3) hh3 q3 fun z4 M4 ω4 H4 u4 he4 hh4 r4 q4 le4 => ⟨ω4, M4, y, z4, hh4, Rel.mono (le3.trans le4) _ _ r2, r4, q4⟩
      | false =>
        rw [if_neg Bool.false_ne_true]
        exact post_bl q3 hh3
    | _ => exact False.elim q3
  refine ⟨PE.imp (pe_chain OC OP A.pe B.pe E.pe (last_marks hm)) key, PT.imp (pt_chain OC OP A.pe B.pe E.pe (last_marks hm)) fun σ H Q q => ?_, fun _ _ _ z => nomatch z⟩
  obtain ⟨ω, M, env, he, hh, post⟩ := q
  refine key σ H _ ⟨ω, M, env, he, hh, ?_⟩
  unfold evB at post
  refine Post.bind post fun d M1 ω1 H1 v le hh1 r p => ?_
  cases d with
  | bl b =>
    rw [Rel] at r
    exact ⟨b, r, Post.here (v := b) p hh1 rfl⟩
  | _ => exact False.elim p
/-! ### and, or, not, if -/
theorem evB_and {C : Ec} {a b : X} {env : En} {M : List O} : evB C (.and a b) env M = (evB C a env M).bind fun t M1 => if t = true then evB C b env M1 else .ok false M1 := by
  unfold evB
  rw [ev]
  cases ev C a env M with
  | er => rfl
  | ex _ _ => rfl
  | ok d M1 =>
    cases d with
    | bl t => cases t <;> rfl
    | _ => rfl
theorem evB_or {C : Ec} {a b : X} {env : En} {M : List O} : evB C (.or a b) env M = (evB C a env M).bind fun t M1 => if t = true then .ok true M1 else evB C b env M1 := by
  unfold evB
  rw [ev]
  cases ev C a env M with
  | er => rfl
  | ex _ _ => rfl
  | ok d M1 =>
    cases d with
    | bl t => cases t <;> rfl
    | _ => rfl
theorem evB_not {C : Ec} {a : X} {env : En} {M : List O} : evB C (.not a) env M = (evB C a env M).bind fun t M1 => .ok (!t) M1 := by
  unfold evB
  rw [ev]
  cases ev C a env M with
  | er => rfl
  | ex _ _ => rfl
  | ok d M1 => cases d <;> rfl
theorem PostB.done {ω : Wd} {t : Bool} {M : List O} {H : Hp} {Q : Bool → Hp → Prop} (h : PostB G ω (.ok t M) Q) (hh : HRel G ω M H) : Q t H := Post.here (v := t) h hh rfl
theorem pw_one_and {e : Expr} {pos : Pos} {t : TT} (h : PT Y e t) : PW Y (.BoolOp .And [e] pos) t := pw_and1 h
/-- the reading of a conjunction -/
theorem and_key {a b : X} (σ : L2.St) (H : Hp) (Q : Bool → Hp → Prop) (q : tB' G (ecN P k) (.and a b) σ H Q) : tAnd (tB' G (ecN P k) a) (tB' G (ecN P k) b) σ H Q := by
  obtain ⟨ω, M, env, he, hh, post⟩ := q
  rw [evB_and] at post
  refine tB_bind he hh post fun t M1 ω1 H1 he1 hh1 p le => ?_
  cases t with
  | true => rw [if_pos rfl] at p ⊢; exact ⟨ω1, M1, env, he1, hh1, p⟩
  | false => rw [if_neg Bool.false_ne_true] at p ⊢; exact PostB.done p hh1
theorem or_key {a b : X} (σ : L2.St) (H : Hp) (Q : Bool → Hp → Prop) (q : tB' G (ecN P k) (.or a b) σ H Q) : tOr (tB' G (ecN P k) a) (tB' G (ecN P k) b) σ H Q := by
  obtain ⟨ω, M, env, he, hh, post⟩ := q
  rw [evB_or] at post
  refine tB_bind he hh post fun t M1 ω1 H1 he1 hh1 p le => ?_
  cases t with
  | true => rw [if_pos rfl] at p ⊢; exact PostB.done p hh1
  | false => rw [if_neg Bool.false_ne_true] at p ⊢; exact ⟨ω1, M1, env, he1, hh1, p⟩
theorem and_keyV {a b : X} (σ : L2.St) (H : Hp) (Q : VK) (q : tE G (ecN P k) (.and a b) σ H Q) : tAndV (tE G (ecN P k) a) (tE G (ecN P k) b) σ H Q := by
  obtain ⟨ω, M, env, he, hh, post⟩ := q
  rw [ev] at post
  refine tE_bind he hh post fun d M1 ω1 H1 v he1 hh1 r p le => ?_
  cases d with
  | bl t =>
    rw [Rel] at r
    refine ⟨t, r, ?_⟩
    cases t with
    | true => rw [if_pos rfl]; exact ⟨ω1, M1, env, he1, hh1, p⟩
    | false => rw [if_neg Bool.false_ne_true]; exact post_bl p hh1
  | _ => exact False.elim p
theorem or_keyV {a b : X} (σ : L2.St) (H : Hp) (Q : VK) (q : tE G (ecN P k) (.or a b) σ H Q) : tOrV (tE G (ecN P k) a) (tE G (ecN P k) b) σ H Q := by
  obtain ⟨ω, M, env, he, hh, post⟩ := q
  rw [ev] at post
  refine tE_bind he hh post fun d M1 ω1 H1 v he1 hh1 r p le => ?_
  cases d with
  | bl t =>
    rw [Rel] at r
    refine ⟨t, r, ?_⟩
    cases t with
    | true => rw [if_pos rfl]; exact post_bl p hh1
    | false => rw [if_neg Bool.false_ne_true]; exact ⟨ω1, M1, env, he1, hh1, p⟩
  | _ => exact False.elim p
theorem s_and2 {a b : X} {ea eb : Expr} {pos : Pos} (A : Snd G (ecN P k) Y ea a) (B : Snd G (ecN P k) Y eb b) : Snd G (ecN P k) Y (.BoolOp .And [ea, eb] pos) (.and a b) := by
  have w : PW Y (.BoolOp .And [ea, eb] pos) (tB' G (ecN P k) (.and a b)) := PW.imp (pw_and A.pt (pw_and1 B.pt)) and_key
  exact ⟨PE.imp (pe_and A.pe (pe_one B.pe)) and_keyV, w.pt, fun _ _ _ _ => w⟩
theorem s_and3 {a b : X} {ea eb ed : Expr} {rest : List Expr} {pos : Pos} (A : Snd G (ecN P k) Y ea a) (B : Snd G (ecN P k) Y (.BoolOp .And (eb :: ed :: rest) pos) b) : Snd G (ecN P k) Y (.BoolOp .And (ea :: eb :: ed :: rest) pos) (.and a b) := by
  have w : PW Y (.BoolOp .And (ea :: eb :: ed :: rest) pos) (tB' G (ecN P k) (.and a b)) := PW.imp (pw_and A.pt (B.pw _ _ _ rfl)) and_key
  exact ⟨PE.imp (pe_and A.pe B.pe) and_keyV, w.pt, fun _ _ _ _ => w⟩
theorem s_or2 {a b : X} {ea eb : Expr} {pos : Pos} (A : Snd G (ecN P k) Y ea a) (B : Snd G (ecN P k) Y eb b) : Snd G (ecN P k) Y (.BoolOp .Or [ea, eb] pos) (.or a b) := by
  have w : PW Y (.BoolOp .Or [ea, eb] pos) (tB' G (ecN P k) (.or a b)) := PW.imp (pw_or A.pt (pw_or1 B.pt)) or_key
  exact ⟨PE.imp (pe_or A.pe (pe_one B.pe)) or_keyV, w.pt, fun _ _ _ _ => w⟩
theorem s_or3 {a b : X} {ea eb ed : Expr} {rest : List Expr} {pos : Pos} (A : Snd G (ecN P k) Y ea a) (B : Snd G (ecN P k) Y (.BoolOp .Or (eb :: ed :: rest) pos) b) : Snd G (ecN P k) Y (.BoolOp .Or (ea :: eb :: ed :: rest) pos) (.or a b) := by
  have w : PW Y (.BoolOp .Or (ea :: eb :: ed :: rest) pos) (tB' G (ecN P k) (.or a b)) := PW.imp (pw_or A.pt (B.pw _ _ _ rfl)) or_key
  exact ⟨PE.imp (pe_or A.pe B.pe) or_keyV, w.pt, fun _ _ _ _ => w⟩
theorem s_not {a : X} {ea : Expr} {pos : Pos} (A : Snd G (ecN P k) Y ea a) : Snd G (ecN P k) Y (.UnaryOp .Not ea pos) (.not a) := by
  refine ⟨PE.imp (pe_not A.pe) fun σ H Q q => ?_, PT.imp (pt_not A.pt) fun σ H Q q => ?_, fun _ _ _ z => nomatch z⟩
  · obtain ⟨ω, M, env, he, hh, post⟩ := q
    rw [ev] at post
    refine tE_bind he hh post fun d M1 ω1 H1 v he1 hh1 r p le => ?_
    cases d with
    | bl t =>
      rw [Rel] at r
      exact ⟨t, r, post_bl p hh1⟩
    | _ => exact False.elim p
  · obtain ⟨ω, M, env, he, hh, post⟩ := q
    rw [evB_not] at post
    exact tB_bind he hh post fun t M1 ω1 H1 he1 hh1 p le => PostB.done p hh1
theorem pt_ifExp {t1 t2 t3 : TT} {et ea eb : Expr} {pos : Pos} (h1 : PT Y et t1) (h2 : PT Y ea t2) (h3 : PT Y eb t3) : PT Y (.IfExp et ea eb pos) (fun σ H Q => t1 σ H fun b H1 => if b = true then t2 σ H1 Q else t3 σ H1 Q) := by
  refine ⟨fun pins s σ H Q I h => ?_⟩
  show wpAny _ _ (do if ← isTrue et Y.env (eval et Y.env) then isTrue ea Y.env (eval ea Y.env) else isTrue eb Y.env (eval eb Y.env)) _ _ _
  refine wpAny_bind (thn (h1.run pins s σ H _ I h) fun b s1 ⟨H1, I1, q1⟩ => ?_)
  cases b with
  | true => exact h2.run pins s1 σ H1 Q I1 q1
  | false => exact h3.run pins s1 σ H1 Q I1 q1
theorem evB_ife {C : Ec} {t a b : X} {env : En} {M : List O} : evB C (.ife t a b) env M = (evB C t env M).bind fun u M1 => if u = true then evB C a env M1 else evB C b env M1 := by
  unfold evB
  rw [ev]
  cases ev C t env M with
  | er => rfl
  | ex _ _ => rfl
  | ok d M1 =>
    cases d with
    | bl t => cases t <;> rfl
    | _ => rfl
theorem ev_ife {C : Ec} {t a b : X} {env : En} {M : List O} : ev C (.ife t a b) env M = (evB C t env M).bind fun u M1 => if u = true then ev C a env M1 else ev C b env M1 := by
  unfold evB
  rw [ev]
  cases ev C t env M with
  | er => rfl
  | ex _ _ => rfl
  | ok d M1 =>
    cases d with
    | bl t => cases t <;> rfl
    | _ => rfl
theorem s_ife {t a b : X} {et ea eb : Expr} {pos : Pos} (T : Snd G (ecN P k) Y et t) (A : Snd G (ecN P k) Y ea a) (B : Snd G (ecN P k) Y eb b) : Snd G (ecN P k) Y (.IfExp et ea eb pos) (.ife t a b) := by
  refine ⟨PE.imp (pe_ifExp T.pt A.pe B.pe) fun σ H Q q => ?_, PT.imp (pt_ifExp T.pt A.pt B.pt) fun σ H Q q => ?_, fun _ _ _ z => nomatch z⟩
  · obtain ⟨ω, M, env, he, hh, post⟩ := q
    rw [ev_ife] at post
    refine tB_bind he hh post fun u M1 ω1 H1 he1 hh1 p le => ?_
    cases u with
    | true => rw [if_pos rfl] at p ⊢; exact ⟨ω1, M1, env, he1, hh1, p⟩
    | false => rw [if_neg Bool.false_ne_true] at p ⊢; exact ⟨ω1, M1, env, he1, hh1, p⟩
  · obtain ⟨ω, M, env, he, hh, post⟩ := q
    rw [evB_ife] at post
    refine tB_bind he hh post fun u M1 ω1 H1 he1 hh1 p le => ?_
    cases u with
    | true => rw [if_pos rfl] at p ⊢; exact ⟨ω1, M1, env, he1, hh1, p⟩
    | false => rw [if_neg Bool.false_ne_true] at p ⊢; exact ⟨ω1, M1, env, he1, hh1, p⟩
end
end Ev


set_option autoImplicit false
set_option Elab.async false
set_option linter.all false
set_option maxRecDepth 100000
set_option maxHeartbeats 4000000
/-! EvH: displays, subscripts, calls. -/
namespace Ev
open PySem PySem.Spec PyProof.Rows L2
section
variable {G : Gs} {P : Pg} {ft : List Ft} {k : Nat} {c : Ck} {Y : L2.Cx}
/-! ### arguments, displays -/
theorem a_nil : PA Y [] (tEs G (ecN P k) []) := PA.imp pa_nil fun σ H Q q => by
  obtain ⟨ω, M, env, he, hh, post⟩ := q
  rw [evs] at post
  exact Post.here post hh Rels.nil
theorem a_cons {x : X} {xs : List X} {e : Expr} {es : List Expr} (hs : starEach (e :: es) Y.env = (false, eval e Y.env) :: starEach es Y.env) (A : PE Y e (tE G (ecN P k) x)) (B : PA Y es (tEs G (ecN P k) xs)) : PA Y (e :: es) (tEs G (ecN P k) (x :: xs)) := PA.imp (pa_cons A B hs) fun σ H Q q => by
  obtain ⟨ω, M, env, he, hh, post⟩ := q
  rw [evs] at post
  exact tE_bind he hh post fun d M1 ω1 H1 v he1 hh1 r p le => tEs_bind he1 hh1 p fun ds M2 ω2 H2 vs he2 hh2 r2 p2 le2 => Post.here p2 hh2 (Rels.cons (Rel.mono le2 _ _ r) r2)
theorem s_tup {es : List X} {as : List Expr} {n : Nat} {pos : Pos} (A : PA Y as (tEs G (ecN P k) es)) : Snd G (ecN P k) Y (.Tuple as n pos) (.tup es) := by
  refine Snd.of (PE.imp (pe_tup A) fun σ H Q q => ?_) (fun _ => rfl) (fun _ _ _ z => nomatch z)
  obtain ⟨ω, M, env, he, hh, post⟩ := q
  rw [ev] at post
  refine tEs_bind he hh post fun ds M1 ω1 H1 vs he1 hh1 r p le => ?_
  split at p
  · rename_i hl
    exact ⟨by rw [r.length]; exact Nat.le_trans hl lim_le, fun q hq => post_tup p hh1 hq r⟩
  · exact False.elim p
theorem s_lst {h : Bool} {es : List X} {as : List Expr} {pos : Pos} (A : PA Y as (tEs G (ecN P k) es)) : Snd G (ecN P k) Y (.List as pos) (.lst h es) := by
  refine Snd.of (PE.imp (pe_lst A) fun σ H Q q => ?_) (fun _ => rfl) (fun _ _ _ z => nomatch z)
  obtain ⟨ω, M, env, he, hh, post⟩ := q
  rw [ev] at post
  refine tEs_bind he hh post fun ds M1 ω1 H1 vs he1 hh1 r p le => ?_
  split at p
  · rename_i hl
    refine ⟨by rw [r.length]; exact Nat.le_trans hl lim_le, fun q hq => ?_⟩
    cases h with
    | true => exact post_new p hh1 hq r
    | false => exact post_lst p hh1 hq r
  · exact False.elim p
/-! ### subscripts -/
theorem ixOf_eq (n : Nat) (i : Int) : ixOf n i = ixN n i := by
  unfold ixOf ixN
  by_cases h : 0 ≤ i
  · rw [if_pos h, if_pos h]
    by_cases h2 : i.toNat < n
    · rw [if_pos h2, if_pos (by omega)]
    · rw [if_neg h2, if_neg (by omega)]
  · rw [if_neg h, if_neg h]
    by_cases h2 : 0 ≤ (n : Int) + i
    · rw [if_pos h2, if_pos (by omega), Int.add_comm]
    · rw [if_neg h2, if_neg (by omega)]
theorem s_item (O : Ok G P ft k c Y) {a i : X} {ea ei : Expr} {pos : Pos} (A : Snd G (ecN P k) Y ea a) (B : Snd G (ecN P k) Y ei i) (hp : PlainIx ei) : Snd G (ecN P k) Y (.Subscript ea ei pos) (.item a i) := by
  refine Snd.of (PE.imp (pe_ix (ix_list.or (ix_tup.or ix_str)) A.pe B.pe hp) fun σ H Q q => ?_) (fun _ => rfl) (fun _ _ _ z => nomatch z)
  obtain ⟨ω, M, env, he, hh, post⟩ := q
  rw [ev] at post
  refine tE_pair he hh post fun x y M2 ω2 H2 v w he2 hh2 r1 r2 p le => ?_
  have lst : PostE G ω2 (itL M2 x y) Q → rIxL Y.K v w H2 Q ∨ rIxT Y.K v w H2 Q ∨ rIxS v w H2 Q := fun p2 => by
    unfold itL at p2
    split at p2
    · rename_i ds kk e
      rw [Rel] at r2
      subst r2
      split at p2
      · rename_i j ej
        split at p2
        · rename_i d ed
          obtain ⟨q, vs, e1, e2, e3⟩ := itemsOf_ok hh2 r1 e
          subst e1
          obtain ⟨u, f1, f2⟩ := e3.get ed
          have at_ : atI vs kk = some u := by
            unfold atI
            rw [← ixOf_eq, e3.length, ej]
            exact f1
          rcases e2 with e2 | e2
          · exact .inl ⟨q, vs, kk, u, rfl, rfl, SqL.of e2, at_, Post.here p2 hh2 f2⟩
          · exact .inr (.inl ⟨q, vs, kk, u, rfl, rfl, by rw [O.hK]; exact e2, at_, Post.here p2 hh2 f2⟩)
        · exact False.elim p2
      · exact False.elim p2
    · exact False.elim p2
  cases x with
  | str s =>
    replace p : PostE G ω2 (itS M2 s y) Q := p
    unfold itS at p
    split at p
    · rename_i kk
      rw [Rel] at r1
      rw [Rel] at r2
      subst r1 r2
      split at p
      · rename_i hl
        split at p
        · rename_i j ej
          split at p
          · rename_i cc ec
            refine .inr (.inr ⟨sS s, kk, cc, rfl, rfl, ?_, ?_, post_str p hh2⟩)
            · rw [sS_len]
              exact Nat.le_trans (of_decide_eq_true hl) lim_le
            · show atI s.toArray.toList kk = some cc
              rw [List.toList_toArray]
              unfold atI
              rw [← ixOf_eq, ej]
              exact ec
          · exact False.elim p
        · exact False.elim p
      · exact False.elim p
    · exact False.elim p
  | _ => exact lst p
theorem cut_ok {ω : Wd} {ds : List D} {vs : List V} (r : Rels G ω ds vs) (l h : Option Int) : Rels G ω (cut ds l h) (cutV vs l h) := by
  have e : ∀ (n d : Nat) o, sx n d o = HT.sIx n d o := fun n d o => by cases o <;> rfl
  unfold cut cutV
  rw [r.length, e, e]
  exact Rels.take _ (Rels.drop _ r)
/-- a slice's bound -/
def tO (G : Gs) (C : Ec) (xs : List X) : TO := fun σ H Q => ∃ ω M env, EnvRel G ω env σ ∧ HRel G ω M H ∧ Post G (fun (_ : Wd) (a b : Option Int) => a = b) ω ((evs C xs env M).bind fun ds M1 => match bnd ds with
  | some o => .ok o M1
  | none => .er) Q
theorem po_of {lo : List X} {l : Option Expr} (A : PA Y l.toList (tEs G (ecN P k) lo)) (B : ∀ x e, lo = [x] → l = some e → PE Y e (tE G (ecN P k) x)) (hl : lo.length = l.toList.length) : PO Y l (tO G (ecN P k) lo) := by
  cases l with
  | none =>
    have : lo = [] := List.length_eq_zero_iff.mp hl
    subst this
    refine ⟨fun pins s σ H Q I h => po_none.run pins s σ H Q I ?_⟩
    obtain ⟨ω, M, env, he, hh, post⟩ := h
    rw [evs] at post
    exact Post.here (v := none) post hh rfl
  | some e =>
    obtain ⟨x, rfl⟩ : ∃ x, lo = [x] := by
      cases lo with
      | nil => cases hl
      | cons x r =>
        cases r with
        | nil => exact ⟨x, rfl⟩
        | cons y r => simp at hl
    refine ⟨fun pins s σ H Q I h => (po_some (B x e rfl rfl)).run pins s σ H Q I ?_⟩
    obtain ⟨ω, M, env, he, hh, post⟩ := h
    have e2 : ((evs (ecN P k) [x] env M).bind fun ds M1 => match bnd ds with
      | some o => Rs.ok o M1
      | none => .er) = (ev (ecN P k) x env M).bind fun d M1 => match d with
        | .int i => .ok (some i) M1
        | _ => .er := by
      rw [evs]
      cases ev (ecN P k) x env M with
      | er => rfl
      | ex _ _ => rfl
      | ok d M1 =>
        simp only [Rs.bind, evs]
        cases d <;> rfl
    rw [e2] at post
    refine tE_bind he hh post fun d M1 ω1 H1 v he1 hh1 r p le => ?_
    cases d with
    | int i =>
      rw [Rel] at r
      exact ⟨i, r, Post.here (v := some i) p hh1 rfl⟩
    | _ => exact False.elim p
theorem s_slc (O : Ok G P ft k c Y) {a : X} {lo hi : List X} {ea : Expr} {l h : Option Expr} {pos p2 : Pos} (A : Snd G (ecN P k) Y ea a) (B : PO Y l (tO G (ecN P k) lo)) (E : PO Y h (tO G (ecN P k) hi)) :
    Snd G (ecN P k) Y (.Subscript ea (.Slice l h none p2) pos) (.slc a lo hi) := by
  refine Snd.of (PE.imp (pe_slice (sl_or sl_list sl_tupA) A.pe B E) fun σ H Q q => ?_) (fun _ => rfl) (fun _ _ _ z => nomatch z)
  obtain ⟨ω, M, env, he, hh, post⟩ := q
  rw [ev] at post
  refine tE_bind he hh post fun d M1 ω1 H1 v he1 hh1 r p le => ?_
  refine ⟨ω1, M1, env, he1, hh1, ?_⟩
  cases e1 : evs (ecN P k) lo env M1 with
  | er => rw [e1] at p; exact p
  | ex _ _ => rw [e1] at p; exact False.elim p
  | ok ls M2 =>
    rw [e1] at p
    have p : PostE G ω1 ((noX (evs (ecN P k) hi env M2)).bind fun r M3 => cutD d ls r M3) Q := p
    show Post G _ ω1 (match bnd ls with
      | some o => .ok o M2
      | none => .er) _
    cases e2 : bnd ls with
    | none =>
      cases e3 : evs (ecN P k) hi env M2 with
      | er => rw [e3] at p; exact p
      | ex _ _ => rw [e3] at p; exact False.elim p
      | ok rs M3 =>
        rw [e3] at p
        have p : PostE G ω1 (cutD d ls rs M3) Q := p
        unfold cutD at p
        rw [e2] at p
        exact False.elim p
    | some lo' =>
      intro ω2 H2 v2 le2 hh2 ev2
      subst ev2
      refine ⟨ω2, M2, env, he1.mono le2, hh2, ?_⟩
      cases e3 : evs (ecN P k) hi env M2 with
      | er => rw [e3] at p; exact p
      | ex _ _ => rw [e3] at p; exact False.elim p
      | ok rs M3 =>
        rw [e3] at p
        have p : PostE G ω1 (cutD d ls rs M3) Q := p
        unfold cutD at p
        rw [e2] at p
        show Post G _ ω2 (match bnd rs with
          | some o => .ok o M3
          | none => .er) _
        cases e4 : bnd rs with
        | none => rw [e4] at p; exact False.elim p
        | some hi' =>
          rw [e4] at p
          intro ω3 H3 v3 le3 hh3 ev3
          subst ev3
          have rr := Rel.mono (le2.trans le3) _ _ r
          cases d with
          | tup ds =>
            have p : PostE G ω3 (.ok (.tup (cut ds lo' hi')) M3) Q := Post.mono p (le2.trans le3)
            have rr0 := rr
            rw [Rel] at rr
            obtain ⟨q, vs, f1, f2, f3⟩ := rr
            subst f1
            refine .inr ⟨q, vs, rfl, by rw [O.hK]; exact sqT_mono f2 hh3.imm, fun e => ?_, fun _ z hz => post_tup p hh3 hz (cut_ok f3 _ _)⟩
            have ec : cut ds lo' hi' = ds := by
              obtain ⟨g1, g2⟩ := e
              rw [f3.length] at g1 g2
              unfold cut
              rw [show sx ds.length 0 lo' = 0 from g1, show sx ds.length ds.length hi' = ds.length from g2]
              simp
            rw [ec] at p
            exact Post.here p hh3 rr0
          | _ =>
            dsimp only at p
            split at p
            · rename_i ds e5
              have p : PostE G ω3 (.ok (.lst (cut ds lo' hi')) M3) Q := Post.mono p (le2.trans le3)
              obtain ⟨q, vs, f1, f2, f3⟩ := sliceOf_ok hh3 rr e5
              exact .inl ⟨q, vs, f1, by rw [O.hK]; exact f2, fun z hz => post_lst p hh3 hz (cut_ok f3 _ _)⟩
            · exact False.elim p
end
end Ev


set_option autoImplicit false
set_option Elab.async false
set_option linter.all false
set_option maxRecDepth 100000
set_option maxHeartbeats 4000000
/-! EvZm: zip of a tuple and a list. -/
namespace Ev
open PySem PySem.Spec PyProof.Rows L2
/-- zip(tuple, list), turn by turn -/
def ItzM (K : PySem.W.Frag) (ta lb : Addr) : It :=
  ⟨fun n H => ∃ (ps qs : List V) (p q : V), SqT K H ta ps ∧ SqL K H lb qs ∧ ps[n]? = some p ∧ qs[n]? = some q,
    fun n H v H' => ∃ T p q, v = .ref T ∧ H T = none ∧ H' = upd H T (.tup [p, q]) ∧ (∀ ps, SqT K H ta ps → ps[n]? = some p) ∧ ∀ qs, SqL K H lb qs → qs[n]? = some q,
    fun n H => ∃ ps qs : List V, SqT K H ta ps ∧ SqL K H lb qs ∧ n = min ps.length qs.length⟩
theorem five {c z TI TO j1 j2 : Addr} (h : c ∈ [z, TI, TO, j1, j2]) : c = z ∨ c = TI ∨ c = TO ∨ c = j1 ∨ c = j2 := by simpa using h
theorem sepM {z TI TO j1 j2 ta lb : Addr} (D : ZipApart z TI TO j1 j2 ta lb) : ZipSep2 z TI TO j1 j2 [j1, ta] [j2, lb] where
  TIz := D.TIz
  TOz := D.TOz
  TITO := D.TITO
  TIi1 := D.TIi1
  mem1 := List.mem_cons_self
  zf1 := fun h => by
    rcases List.mem_cons.mp h with e | e
    · exact D.i1z e.symm
    · exact D.l1z (List.mem_singleton.mp e).symm
  Tf1 := fun h => by
    rcases List.mem_cons.mp h with e | e
    · exact D.TOi1 e
    · exact D.l1TO (List.mem_singleton.mp e).symm
  TIi2 := D.TIi2
  mem2 := List.mem_cons_self
  zf2 := fun h => by
    rcases List.mem_cons.mp h with e | e
    · exact D.i2z e.symm
    · exact D.l2z (List.mem_singleton.mp e).symm
  Tf2 := fun h => by
    rcases List.mem_cons.mp h with e | e
    · exact D.TOi2 e
    · exact D.l2TO (List.mem_singleton.mp e).symm
  sep1_2 := fun h => by
    rcases List.mem_cons.mp h with e | e
    · exact D.i12 e
    · exact D.l2i1 (List.mem_singleton.mp e).symm
  sep2_1 := fun h => by
    rcases List.mem_cons.mp h with e | e
    · exact D.i12 e.symm
    · exact D.l1i2 (List.mem_singleton.mp e).symm
theorem turn_zipM {P : Program} {w : World} {K : PySem.W.Frag} {elts : List Expr} {kk : Nat} {tpos : Pos} {ta lb z TI TO j1 j2 : Addr} (D : ZipApart z TI TO j1 j2 ta lb) :
    Turn P w K (.Tuple elts kk tpos) (ItzM K ta lb) [z, TI, TO, j1, j2] z (fun n h => IsZip h z TI TO .none ∧ IsPair h TI (.ref j1) (.ref j2) ∧ (∃ p q, IsPair h TO p q) ∧ h.IsTupleIter j1 ta n ∧ h.IsListIter j2 lb n) where
  mem := List.mem_cons_self
  obj := fun n h st c hc => by
    obtain ⟨k1, k2, ⟨p, q, k3⟩, ⟨u1, k4, _, m1⟩, ⟨u2, k5, _, m2⟩⟩ := st
    rcases five hc with rfl | rfl | rfl | rfl | rfl
    · exact ⟨_, k1, fun v x => nomatch x⟩
    · exact ⟨_, k2, fun v x => nomatch x⟩
    · exact ⟨_, k3, fun v x => nomatch x⟩
    · exact ⟨u1, k4, fun v x => by rw [m1] at x; cases x⟩
    · exact ⟨u2, k5, fun v x => by rw [m2] at x; cases x⟩
  keep := fun n h h' st kp => by
    obtain ⟨k1, k2, ⟨p, q, k3⟩, k4, k5⟩ := st
    exact ⟨kp z (by simp) _ k1, kp TI (by simp) _ k2, ⟨p, q, kp TO (by simp) _ k3⟩, k4.at fun o x => kp j1 (by simp) o x, k5.at fun o x => kp j2 (by simp) o x⟩
  item := by
    intro X hP hw hK hc n pins s σ H E I hf st hg
    subst hP hw hK
    obtain ⟨k1, k2, ⟨p0, q0, k3⟩, k4, k5⟩ := st
    obtain ⟨ps, qs, p, q, s1, s2, e1, e2⟩ := hg
    obtain ⟨us, r1, t1, _⟩ := I.tuple s1
    obtain ⟨ws, r2, t2, _⟩ := I.list s2
    obtain ⟨u, hu, ru⟩ := r1.get e1
    obtain ⟨y, hy, ry⟩ := r2.get e2
    have zl : z < s.heap.objs.size := Heap.lt_size k1
    have hd := I.ok.hd hc
    have n1 : n < us.toArray.size := by
      have := (List.getElem?_eq_some_iff.mp hu).1
      simpa using this
    have n2 : n < ws.toArray.size := by
      have := (List.getElem?_eq_some_iff.mp hy).1
      simpa using this
    refine wpAny_pyNext_zipD2_item (sepM D) (Draws.tuple (A := X.A.in1) hd j1 ta D.l1i1 us.toArray) (Draws.list (A := X.A.in1) hd j2 lb D.l2i2 ws.toArray) k1 k2 k3 ⟨k4, t1⟩ ⟨k5, t2.isList⟩ n1 n2 fun a1 a2 h' tk g1 g2 g3 g4 g5 g6 g7 g8 g9 => ?_
    have a1u : a1 = u := by
      have x : us.toArray[n]? = some u := by simpa using hu
      rw [x] at g1
      exact (Option.some.inj g1).symm
    have a2y : a2 = y := by
      have x : ws.toArray[n]? = some y := by simpa using hy
      rw [x] at g2
      exact (Option.some.inj g2).symm
    subst a1u a2y
    refine ⟨_, rfl, wpAny_letOwnedTupleGo_zip (s := { s with heap := h', toks := tk }) g3 fun h2 z2 sb => ?_⟩
    have pr : h2.get? s.heap.objs.size = some { cls := .type "tuple", data := .seq #[a1, a2] } := (sb.2 _ (Nat.ne_of_gt zl)).trans g7
    have nw : ObjOk X.prog X.w (upd H s.heap.objs.size (.tup [p, q])) h2 s.heap.objs.size (.tup [p, q]) :=
      ⟨by show 2 ≤ sizeLine; decide, [a1, a2], .cons ru (.cons ry .nil), ⟨_, pr, rfl, _, rfl⟩⟩
    have nb : ∀ c o, c ∉ [z, TI, TO, j1, j2] → s.heap.get? c = some o → h2.get? c = some o := fun c o hb x => by
      simp only [List.mem_cons, List.not_mem_nil, or_false, not_or] at hb
      exact (sb.2 c hb.1).trans (g9 c o hb.1 hb.2.2.1 hb.2.2.2.1 hb.2.2.2.2 x)
    have I1 : Inv X pins σ (upd H s.heap.objs.size (.tup [p, q])) { s with heap := h2, toks := tk } :=
      I.turnedNew (ch := [z, TI, TO, j1, j2]) nb hf (Nat.le_refl _) nw
    refine ⟨.ref s.heap.objs.size, _, I1, rfl, ⟨_, p, q, rfl, I.hok.fresh (Nat.le_refl _), rfl, fun l hl => by rw [I.tuple_inj hl s1]; exact e1, fun l hl => by rw [I.list_inj hl s2]; exact e2⟩, ⟨z2, ?_, ⟨a1, a2, ?_⟩, ?_, ?_⟩, fun c hcm => ?_⟩
    · exact (sb.2 _ D.TIz).trans (g9 _ _ D.TIz D.TITO D.TIi1 D.TIi2 k2)
    · exact (sb.2 _ D.TOz).trans g4
    · exact g5.1.at fun o x => (sb.2 _ D.i1z).trans x
    · exact g6.1.at fun o x => (sb.2 _ D.i2z).trans x
    · have lt : c < s.heap.objs.size := by
        rcases five hcm with rfl | rfl | rfl | rfl | rfl
        · exact zl
        · exact Heap.lt_size k2
        · exact Heap.lt_size k3
        · obtain ⟨_, x, _⟩ := k4; exact Heap.lt_size x
        · obtain ⟨_, x, _⟩ := k5; exact Heap.lt_size x
      rw [upd_ne (Nat.ne_of_lt lt)]
      exact (hf c hcm).1
  done := by
    intro X hP hw hK hc n pins s σ H E I hf st hg
    subst hP hw hK
    obtain ⟨k1, k2, ⟨p0, q0, k3⟩, k4, k5⟩ := st
    obtain ⟨ps, qs, s1, s2, fin⟩ := hg
    obtain ⟨us, r1, t1, _⟩ := I.tuple s1
    obtain ⟨ws, r2, t2, _⟩ := I.list s2
    have hd := I.ok.hd hc
    have l1 := r1.length
    have l2 := r2.length
    have l3 : us.toArray.size = ps.length := by rw [List.size_toArray, l1]
    have l4 : ws.toArray.size = qs.length := by rw [List.size_toArray, l2]
    refine wpAny_pyNext_zipD2_end (sepM D) (Draws.tuple (A := X.A.in1) hd j1 ta D.l1i1 us.toArray) (Draws.list (A := X.A.in1) hd j2 lb D.l2i2 ws.toArray) k1 k2 k3 ⟨k4, t1⟩ ⟨k5, t2.isList⟩ (by omega) (by omega) (by omega) fun h' tk kp => ⟨rfl, ?_⟩
    refine I.turnedL (t' := tk) (ch := [z, TI, TO, j1, j2]) (fun c o hb x => ?_) hf
    simp only [List.mem_cons, List.not_mem_nil, or_false, not_or] at hb
    exact kp c o hb.1 hb.2.2.1 hb.2.2.2.1 hb.2.2.2.2 x
  self := fun A n s Q E st h => wpAny_pyIter_zip st.1 h
/-- zip of two lists, two tuples, or a tuple and a list -/
def iZipM (K : PySem.W.Frag) (t : TA) : L2.TI := fun σ H R => t σ H fun vs H1 => ∃ ta lb ps qs, vs = [.ref ta, .ref lb] ∧
  ((SqT K H1 ta ps ∧ SqL K H1 lb qs ∧ R (ItzM K ta lb) H1) ∨ (SqL K H1 ta ps ∧ SqL K H1 lb qs ∧ R (Itz K ta lb) H1) ∨ (SqT K H1 ta ps ∧ SqT K H1 lb qs ∧ R (RZ.ItzT K ta lb) H1))
theorem pi_zipM {X : L2.Cx} {e e2 : Expr} {t : TA} {p pos tpos : Pos} {elts : List Expr} {kk : Nat} (hg : Gl X "zip") (hm : X.mg "zip" = none) (ha : PA X [e, e2] t)
    (hs : starEach [e, e2] X.env = (false, eval e X.env) :: starEach [e2] X.env) (hpl : (backTo pos (starEach [e2] X.env)).any (·.1) = false) :
    PI X (.Tuple elts kk tpos) (.Call (.Name "zip" p) [e, e2] [] pos) (iZipM X.K t) := by
  refine ⟨fun pins s σ H R I h => ?_⟩
  refine Call_ (ld_blt I hg hm PyProof.Rows.boot_zip (PyProof.Rows.callWith_type1 (thn (ha.run pos pins s σ H _ I h) fun us s1 ⟨vs, H1, I1, r1, q1⟩ => ?_) hs hpl))
  obtain ⟨ta, lb, ps, qs, rfl, fin⟩ := q1
  cases r1 with
  | cons ra rr =>
    cases rr with
    | cons rb rr =>
      cases rr
      cases ra
      cases rb
      have fr : ∀ c, c ∈ [s1.heap.objs.size + 4, s1.heap.objs.size + 2, s1.heap.objs.size + 3, s1.heap.objs.size, s1.heap.objs.size + 1] → FpOk X pins H1 c := fun c hc => by
        have le : s1.heap.objs.size ≤ c := by rcases five hc with z | z | z | z | z <;> (rw [z]; first | exact Nat.le_add_right _ _ | exact Nat.le_refl _)
        exact I1.fpOk le (I1.hok.fresh le)
      rcases fin with ⟨q1, q2, fin⟩ | ⟨q1, q2, fin⟩ | ⟨q1, q2, fin⟩
      · obtain ⟨as, _, t1, _⟩ := I1.tuple q1
        obtain ⟨bs, _, t2, _⟩ := I1.list q2
        obtain ⟨o1, ho1, _⟩ := id t1
        refine zip_begins2 (begins_tuple ta as.toArray) (begins_list lb bs.toArray) t1 t2.isList fun h' g1 g2 g3 g4 g5 g6 g7 => wpAny_pyIter_zip g1 ?_
        have I2 : Inv X pins σ H1 { s1 with heap := h' } := I1.kept (t' := s1.toks) g7
        exact ⟨s1.heap.objs.size + 4, _, _, _, H1, rfl, I2, turn_zipM (PySem.W.ktu_apart s1.heap.objs.size ta lb (Heap.lt_size ho1) t2.lt), ⟨g1, g2, ⟨_, _, g3⟩, ⟨_, g4, rfl, rfl⟩, ⟨_, g5, rfl, rfl⟩⟩, fr, fin⟩
      · obtain ⟨as, _, t1, _⟩ := I1.list q1
        obtain ⟨bs, _, t2, _⟩ := I1.list q2
        refine zip_begins2 (begins_list ta as.toArray) (begins_list lb bs.toArray) t1.isList t2.isList fun h' g1 g2 g3 g4 g5 g6 g7 => wpAny_pyIter_zip g1 ?_
        have I2 : Inv X pins σ H1 { s1 with heap := h' } := I1.kept (t' := s1.toks) g7
        exact ⟨s1.heap.objs.size + 4, _, _, _, H1, rfl, I2, turn_zip (PySem.W.ktu_apart s1.heap.objs.size ta lb t1.lt t2.lt), ⟨g1, g2, ⟨_, _, g3⟩, ⟨_, g4, rfl, rfl⟩, ⟨_, g5, rfl, rfl⟩⟩, fr, fin⟩
      · obtain ⟨as, _, t1, _⟩ := I1.tuple q1
        obtain ⟨bs, _, t2, _⟩ := I1.tuple q2
        obtain ⟨o1, ho1, _⟩ := id t1
        obtain ⟨o2, ho2, _⟩ := id t2
        refine zip_begins2 (begins_tuple ta as.toArray) (begins_tuple lb bs.toArray) t1 t2 fun h' g1 g2 g3 g4 g5 g6 g7 => wpAny_pyIter_zip g1 ?_
        have I2 : Inv X pins σ H1 { s1 with heap := h' } := I1.kept (t' := s1.toks) g7
        exact ⟨s1.heap.objs.size + 4, _, _, _, H1, rfl, I2, RZ.turn_zipT (PySem.W.ktu_apart s1.heap.objs.size ta lb (Heap.lt_size ho1) (Heap.lt_size ho2)), ⟨g1, g2, ⟨_, _, g3⟩, ⟨_, g4, rfl, rfl⟩, ⟨_, g5, rfl, rfl⟩⟩, fr, fin⟩
end Ev


set_option autoImplicit false
set_option Elab.async false
set_option linter.all false
set_option maxRecDepth 100000
set_option maxHeartbeats 4000000
/-! EvEn: enumerate of a tuple, the sum of a tuple, a tuple from its end. -/
namespace Ev
open PySem PySem.Spec PyProof.Rows L2
theorem enum_made {v : Value} {o : Obj} {Hh : Heap → Prop} (B : Begins v o Hh) :
    Meets (Builtin.«enumerate.__new__» ⟨[.type "enumerate", v], []⟩) (fun _ R s => Hh s.heap ∧
      R (.ok (.ret (.ref (s.heap.push o).objs.size))) { s with heap := (s.heap.push o).push { cls := .type "enumerate", data := .fields #[.none, .bool false, .ref s.heap.objs.size, rawInt 0, .none, .none] } }) :=
  .of_wp fun prog w A R s h => by
    obtain ⟨hp, g, d, tk, os⟩ := s
    obtain ⟨h1, h⟩ := h
    have hsub := sub_enumerate
    have q1 : ∀ {A' : Around} {E : Value → Shared → Prop} {Q : Value → Shared → Prop}, Q (.ref hp.objs.size) ⟨hp.push o, g, d, tk, os⟩ → wpAny (model prog w) A' (pyIter v) Q E ⟨hp, g, d, tk, os⟩ :=
      fun q => B.iter prog w _ _ ⟨hp, g, d, tk, os⟩ _ h1 q
    wp_walk using q1
    refine wpAny_stack_any fun stk => wpAny_pure ?_
    split
    · rename_i cc _ _ _ _ _
      cases (cc == Value.type "enumerate") <;> (wp_walk using q1; exact ⟨_, rfl, h⟩)
    · wp_walk using q1
      exact ⟨_, rfl, h⟩
/-- enumerate(tuple), turn by turn -/
def IteT (K : PySem.W.Frag) (a : Addr) : It :=
  ⟨fun i H => ∃ (xs : List V) (x : V), SqT K H a xs ∧ xs[i]? = some x, fun i H v H' => ∃ T x, v = .ref T ∧ H T = none ∧ H' = upd H T (.tup [.int (i : Nat), x]) ∧ ∀ xs, SqT K H a xs → xs[i]? = some x, fun i H => ∃ xs : List V, SqT K H a xs ∧ xs.length = i⟩
theorem turn_enumT {P : Program} {w : World} {K : PySem.W.Frag} {elts : List Expr} {kk : Nat} {tpos : Pos} (a e it : Addr) (hea : e ≠ a) (hia : a ≠ it) :
    Turn P w K (.Tuple elts kk tpos) (IteT K a) [e, it] e (fun i h => (∃ old, IsEnum h e it ((i : Nat) : Int) old) ∧ h.IsTupleIter it a i ∧ e ≠ it) where
  mem := List.mem_cons_self
  obj := fun i h st b hb => by
    obtain ⟨⟨old, k1⟩, ⟨o, k2, _, k3⟩, _⟩ := st
    have hb' : b = e ∨ b = it := by simpa using hb
    rcases hb' with rfl | rfl
    · exact ⟨_, k1, fun v x => nomatch x⟩
    · exact ⟨o, k2, fun v x => by rw [k3] at x; cases x⟩
  keep := fun i h h' st k => let ⟨⟨old, k1⟩, k2, k3⟩ := st; ⟨⟨old, k e (by simp) _ k1⟩, k2.at fun o x => k it (by simp) o x, k3⟩
  item := by
    intro X hP hw hK hc i pins s σ H E I hf st hg
    subst hP hw hK
    obtain ⟨⟨old, k1⟩, k2, k3⟩ := st
    obtain ⟨xs, x, hq, hx⟩ := hg
    obtain ⟨its, rv, ht, _⟩ := I.tuple hq
    obtain ⟨u, hu, ru⟩ := rv.get hx
    have el : e < s.heap.objs.size := Heap.lt_size k1
    have il : it < s.heap.objs.size := by obtain ⟨_, z, _⟩ := k2; exact Heap.lt_size z
    have n1 : i < its.toArray.size := by
      have := (List.getElem?_eq_some_iff.mp hu).1
      simpa using this
    have hd := I.ok.hd hc
    refine wpAny_pyNext_enum_itemC (Draws.tuple (A := X.A.in1) hd it a hia its.toArray) k1 ⟨k2, ht⟩ n1 k3 (by simp [k3, hea]) fun y h' tk g1 g2 g3 g4 g5 g6 => ?_
    have yu : y = u := by
      have z : its.toArray[i]? = some u := by simpa using hu
      rw [z] at g1
      exact (Option.some.inj g1).symm
    subst yu
    refine ⟨_, rfl, wpAny_letOwnedTupleGo_enum (s := { s with heap := h', toks := tk + 1 }) g2 fun h2 e2 sb => ?_⟩
    have pr : h2.get? s.heap.objs.size = some { cls := .type "tuple", data := .seq #[.int (i : Nat) tk, y] } := (sb.2 _ (Nat.ne_of_gt el)).trans g4
    have nw : ObjOk X.prog X.w (upd H s.heap.objs.size (.tup [.int (i : Nat), x])) h2 s.heap.objs.size (.tup [.int (i : Nat), x]) :=
      ⟨by show 2 ≤ sizeLine; decide, [.int (i : Nat) tk, y], .cons ⟨_, rfl⟩ (.cons ru .nil), ⟨_, pr, rfl, _, rfl⟩⟩
    have nb : ∀ b o, b ∉ [e, it] → s.heap.get? b = some o → h2.get? b = some o := fun b o hb z => by
      simp only [List.mem_cons, List.not_mem_nil, or_false, not_or] at hb
      exact (sb.2 b hb.1).trans (g6 b o hb.1 hb.2 z)
    have I1 : Inv X pins σ (upd H s.heap.objs.size (.tup [.int (i : Nat), x])) { s with heap := h2, toks := tk + 1 } :=
      I.turnedNew (ch := [e, it]) nb hf (Nat.le_refl _) nw
    refine ⟨.ref s.heap.objs.size, _, I1, rfl, ⟨_, x, rfl, I.hok.fresh (Nat.le_refl _), rfl, fun ys hy => by rw [I.tuple_inj hy hq]; exact hx⟩, ⟨⟨y, ?_⟩, g3.1.at fun o z => (sb.2 it (Ne.symm k3)).trans z, k3⟩, fun b hb => ?_⟩
    · have e1 : ((i + 1 : Nat) : Int) = (i : Int) + 1 := by omega
      rw [e1]
      exact e2
    · have lt : b < s.heap.objs.size := by
        have hb' : b = e ∨ b = it := by simpa using hb
        rcases hb' with rfl | rfl
        · exact el
        · exact il
      rw [upd_ne (Nat.ne_of_lt lt)]
      exact (hf b hb).1
  done := by
    intro X hP hw hK hc i pins s σ H E I hf st hg
    subst hP hw hK
    obtain ⟨⟨old, k1⟩, k2, k3⟩ := st
    obtain ⟨xs, hq, hx⟩ := hg
    obtain ⟨its, rv, ht, _⟩ := I.tuple hq
    have hl := rv.length
    have hd := I.ok.hd hc
    have e1 : i = its.toArray.size := by rw [List.size_toArray]; omega
    refine wpAny_pyNext_enum_endD (Draws.tuple (A := X.A.in1) hd it a hia its.toArray) k1 (by rw [← e1]; exact ⟨k2, ht⟩) fun h' eb => ⟨rfl, ?_⟩
    obtain ⟨f0, f1, f2, f3, f4, f5⟩ := hf it (by simp)
    exact I.turned (t' := s.toks) (fun b o hb z => eb b o hb z) f0 f1 f3 f4 f5
  self := fun A i s Q E st h => let ⟨⟨_, k1⟩, _⟩ := st; wpAny_pyIter_enum k1 h
/-- enumerate of a list or a tuple -/
def iEnumX (K : PySem.W.Frag) (ta : TA) : L2.TI := fun σ H R => ta σ H fun vs H1 => ∃ a xs, vs = [.ref a] ∧ ((SqL K H1 a xs ∧ R (Ite K a) H1) ∨ (SqT K H1 a xs ∧ R (IteT K a) H1))
theorem pi_enumX {X : L2.Cx} {e : Expr} {ta : TA} {p pos tpos : Pos} {elts : List Expr} {kk : Nat} (hg : Gl X "enumerate") (hm : X.mg "enumerate" = none) (ha : PA X [e] ta) (hs : starEach [e] X.env = [(false, eval e X.env)]) :
    PI X (.Tuple elts kk tpos) (.Call (.Name "enumerate" p) [e] [] pos) (iEnumX X.K ta) := by
  refine ⟨fun pins s σ H R I h => ?_⟩
  refine Call_ (ld_blt I hg hm boot_enumerate (PyProof.Rows.callWith_type1 (thn (ha.run pos pins s σ H _ I h) fun us s1 ⟨vs, H1, I1, r1, q1⟩ => ?_) hs rfl))
  obtain ⟨a, xs, rfl, q⟩ := q1
  cases r1 with
  | cons r rr =>
    cases rr
    cases r
    have fr : ∀ b, b ∈ [s1.heap.objs.size + 1, s1.heap.objs.size] → FpOk X pins H1 b := fun b hb => by
      have hb' : b = s1.heap.objs.size + 1 ∨ b = s1.heap.objs.size := by simpa using hb
      have le : s1.heap.objs.size ≤ b := by
        rcases hb' with z | z
        · rw [z]; exact Nat.le_add_right _ _
        · rw [z]; exact Nat.le_refl _
      exact I1.fpOk le (I1.hok.fresh le)
    rcases q with ⟨hq, q⟩ | ⟨hq, q⟩
    · obtain ⟨its, rv, p', hz⟩ := I1.list hq
      refine call_enumerate_list p'.isList fun h' he hit hsz hk => wpAny_pyIter_enum he ?_
      have I2 : Inv X pins σ H1 { s1 with heap := h' } := I1.kept (t' := s1.toks) hk
      exact ⟨s1.heap.objs.size + 1, [s1.heap.objs.size + 1, s1.heap.objs.size], _, _, H1, rfl, I2, turn_enum a (s1.heap.objs.size + 1) s1.heap.objs.size, ⟨⟨.none, he⟩, hit, Nat.succ_ne_self _⟩, fr, q⟩
    · obtain ⟨its, rv, ht, hz⟩ := I1.tuple hq
      obtain ⟨oa, hoa, _⟩ := id ht
      have la : a < s1.heap.objs.size := Heap.lt_size hoa
      refine callType_new F.called_enumerate (by decide) (F.typeCall_enumerate_1 _) (F.newCall_enumerate_1 _) (fun obj => F.args_object_init_2 obj _) F.entry_enumerate_new
        (enum_made (begins_tuple a its.toArray)) ⟨ht, ?_⟩
      have hz2 : (s1.heap.push { cls := .type "tuple_iterator", data := .fields #[.ref a, .int 0 0] }).objs.size = s1.heap.objs.size + 1 := Heap.size_push ..
      show _ ∧ _
      rw [hz2]
      generalize hh' : (s1.heap.push { cls := .type "tuple_iterator", data := .fields #[.ref a, .int 0 0] }).push { cls := .type "enumerate", data := .fields #[.none, .bool false, .ref s1.heap.objs.size, rawInt 0, .none, .none] } = h'
      have he : IsEnum h' (s1.heap.objs.size + 1) s1.heap.objs.size 0 .none := by
        rw [← hh', ← hz2]
        exact Heap.get?_push_size _ rfl
      have hit : h'.IsTupleIter s1.heap.objs.size a 0 := by
        rw [← hh']
        exact ⟨_, Heap.get?_push_of_some _ (Heap.get?_push_size _ rfl), rfl, rfl⟩
      have hk : ∀ b o, s1.heap.get? b = some o → h'.get? b = some o := fun b o z => by
        rw [← hh']
        exact Heap.get?_push_of_some _ (Heap.get?_push_of_some _ z)
      refine ⟨⟨_, he, rfl⟩, wpAny_pyIter_enum he ?_⟩
      have I2 : Inv X pins σ H1 { s1 with heap := h' } := I1.kept (t' := s1.toks) hk
      exact ⟨s1.heap.objs.size + 1, [s1.heap.objs.size + 1, s1.heap.objs.size], _, _, H1, rfl, I2, turn_enumT a (s1.heap.objs.size + 1) s1.heap.objs.size (Nat.ne_of_gt (Nat.lt_succ_of_lt la)) (Nat.ne_of_lt la), ⟨⟨.none, he⟩, hit, Nat.succ_ne_self _⟩, fr, q⟩
/-- t[::-1] -/
def tRevT (K : PySem.W.Frag) (te : TE) : TE := fun σ H Q => te σ H fun x H1 => ∃ a xs, x = .ref a ∧ SqT K H1 a xs ∧ (∀ p, H1 p = none → Q (.ref p) (upd H1 p (.tup xs.reverse)))
theorem fm_map {f : Nat → Option Value} {g : Nat → Value} : ∀ l : List Nat, (∀ m ∈ l, f m = some (g m)) → l.filterMap f = l.map g
  | [], _ => rfl
  | m :: l, h => by rw [List.filterMap_cons, h m List.mem_cons_self, List.map_cons, fm_map l fun x hx => h x (List.mem_cons_of_mem _ hx)]
theorem range_getD (L : List Value) : (List.range L.length).map (fun m => L.getD m .none) = L := by
  apply List.ext_getElem (by simp)
  intro j h1 h2
  simp [List.getD_eq_getElem?_getD, h2]
theorem back_at (us : Array Value) : ((List.range us.size).filterMap fun (m : Nat) => us[(((us.size : Int) - 1) + (m : Int) * (-1)).toNat]?) = us.toList.reverse := by
  have all : ∀ m ∈ List.range us.size, (us[(((us.size : Int) - 1) + (m : Int) * (-1)).toNat]?) = some (us.toList.reverse.getD m .none) := fun m hm => by
    have hl : m < us.size := List.mem_range.mp hm
    have e : (((us.size : Int) - 1) + (m : Int) * (-1)).toNat = us.size - 1 - m := by omega
    rw [e]
    have h2 : us.size - 1 - m < us.size := by omega
    rw [Array.getElem?_eq_getElem h2, List.getD_eq_getElem?_getD, List.getElem?_reverse (by simpa using hl)]
    simp [h2]
  rw [fm_map _ all]
  have := range_getD us.toList.reverse
  rw [List.length_reverse, Array.length_toList] at this
  exact this
section
variable {prog : Program} {w : World} {A : Around} {E : Value → Shared → Prop} {s : Shared}
theorem cut_back {sl : Addr} {va vb vc : Value} {n : Nat} {Q : Int × Int × Nat → Shared → Prop} (hs : s.heap.IsSliceOf sl va vb vc) (pa : IsPart va none) (pb : IsPart vb none) (pc : IsPart vc (some (-1)))
    (h : Q ((n : Int) - 1, -1, n) s) : wpAny (model prog w) A (Builtin.Slice.sliceApplied (.ref sl) (pure (n : Int))) Q E s := by
  obtain ⟨os, g1, _, g2⟩ := id hs
  unfold Builtin.Slice.sliceApplied Builtin.Slice.sliceFields
  refine wpAny_bind (wpAny_bind (wpAny_field g1 g2 (x := va) rfl (wpAny_bind (wpAny_field g1 g2 (x := vb) rfl (wpAny_bind (wpAny_field g1 g2 (x := vc) rfl (wpAny_pure ?_)))))))
  refine wpAny_bind (HT.slicePart_ pc ?_)
  show wpAny _ _ (if ((-1 : Int) == 0) = true then _ else _) _ _ s
  rw [if_neg (by decide)]
  refine wpAny_bind (HT.slicePart_ pa (wpAny_bind (HT.slicePart_ pb (wpAny_bind (wpAny_pure ?_)))))
  show wpAny _ _ (pure ((n : Int) - 1, (-1 : Int), Builtin.Slice.slicePlaces ((n : Int) - 1) (-1) (-1))) _ _ s
  have e : Builtin.Slice.slicePlaces ((n : Int) - 1) (-1) (-1) = n := by
    unfold Builtin.Slice.slicePlaces
    rw [if_neg (by decide)]
    by_cases h0 : n = 0
    · subst h0; decide
    · rw [if_pos (by omega)]
      simp only [Int.neg_neg, Int.ediv_one]
      omega
  rw [e]
  exact wpAny_pure h
theorem item_back {t sl : Addr} {us : Array Value} {va vb vc : Value} {Q : Value → Shared → Prop} (ht : IsTup s.heap t us) (hs : s.heap.IsSliceOf sl va vb vc) (pa : IsPart va none) (pb : IsPart vb none) (pc : IsPart vc (some (-1)))
    (h : Q (.ref s.heap.objs.size) { s with heap := s.heap.push { cls := .type "tuple", data := .seq us.toList.reverse.toArray } }) (hz : us.size ≤ sizeLine) : wpAny (model prog w) A (getItem (.ref t) (.ref sl)) Q E s := by
  have ok : sizeOk (.seq us.toList.reverse.toArray) := by
    show us.toList.reverse.toArray.size ≤ sizeLine
    rw [List.size_toArray, List.length_reverse, Array.length_toList]
    exact hz
  obtain ⟨os, g1, g2, g3⟩ := id hs
  have tys : s.TypeIs (.ref sl) "slice" := ⟨os, g1, g2⟩
  unfold getItem
  try with_reducible refine wpAny_holding ?_
  first | refine wpAny_bind (wpAny_pure ?_) | skip
  refine wpAny_bind (wpAny_sequenceKey ht.typeIs (by decide) ?_)
  refine wpAny_bind (wpAny_callSpecial?_slot (name := Str.ofString "__getitem__") ht.typeIs PyProof.Rows.slot_tuple_getitem (wpAny_call_entry PyProof.Rows.slot_tuple_getitem ht.typeIs entry_tuple_getitem ?_ (args_tuple_getitem _ _)))
  show wpAny _ _ (Builtin.Tuple.tupleItemsOf (.ref t) >>= _) _ _ s
  refine wpAny_bind (tupleItemsOf_ ht ?_)
  refine wpAny_bind (wpAny_typeOf tys ?_)
  rw [if_pos (by decide)]
  refine wpAny_bind (cut_back hs pa pb pc ?_)
  have no : ¬ ((((us.size : Int) - 1) == 0 && (-1 : Int) == 1 && us.size == us.size) = true) := by simp
  show wpAny _ _ (if (((us.size : Int) - 1) == 0 && (-1 : Int) == 1 && us.size == us.size) = true then _ else _) _ _ s
  rw [if_neg no, back_at]
  first
    | exact wpAny_bind (wpAny_newObj_type (wpAny_pure ⟨_, rfl, wpAny_pure h⟩) ok)
    | exact wpAny_bind (wpAny_bind (wpAny_newObj_type (wpAny_pure (wpAny_pure ⟨_, rfl, wpAny_pure h⟩)) ok))
    | exact wpAny_bind (wpAny_bind (wpAny_newObj_type (wpAny_pure ⟨_, rfl, wpAny_pure h⟩) ok))
end
section
variable {X : L2.Cx}
theorem pe_revT {e : Expr} {te : TE} {k : Nat} {p1 p2 p3 pos : Pos} (he : PE X e te) : PE X (.Subscript e (.Slice none none (some (.UnaryOp .USub (.Constant (.int 1) k p1) p2)) p3) pos) (tRevT X.K te) := by
  refine ⟨fun pins s σ H Q I h => ?_⟩
  refine Subscript_ (thn (he.run pins s σ H _ I h) fun v s1 ⟨x, H1, I1, r1, q1⟩ => ?_)
  obtain ⟨a, xs, ex, hx, q⟩ := q1
  subst ex
  cases r1
  have stp : PO X (some (.UnaryOp .USub (.Constant (.int 1) k p1) p2)) (tPart (tUn (rU fun i => .int (-i)) (tC (.int 1)))) := po_some (pe_un un_neg pe_int)
  refine wpAny_Slice (thn (po_none.run pins s1 σ H1 (fun o H2 => o = none ∧ H2 = H1) I1 ⟨rfl, rfl⟩) fun va s2 ⟨l, H2, I2, pa, el, e2⟩ => ?_)
  subst el e2
  refine thn (po_none.run pins s2 σ H2 (fun o H3 => o = none ∧ H3 = H2) I2 ⟨rfl, rfl⟩) fun vb s3 ⟨u, H3, I3, pb, eu, e3⟩ => ?_
  subst eu e3
  refine thn (stp.run pins s3 σ H3 (fun o H4 => o = some (-1) ∧ H4 = H3) I3 ⟨1, rfl, -1, rfl, rfl, rfl⟩) fun vc s4 ⟨o, H4, I4, pc, eo, e4⟩ => ?_
  subst eo e4
  have I5 : Inv X pins σ H4 { s4 with heap := s4.heap.push { cls := .type "slice", data := .fields #[va, vb, vc] } } := I4.kept (t' := s4.toks) fun b ob q => Heap.get?_push_of_some _ q
  obtain ⟨its, r, ht, hz⟩ := I5.tuple hx
  have hlen := r.length
  show wpAny (model X.prog X.w) X.A (subscriptTail e (.Slice none none (some (.UnaryOp .USub (.Constant (.int 1) k p1) p2)) p3) (.ref a) (.ref s4.heap.objs.size)) (EP X pins σ Q) X.xe { s4 with heap := s4.heap.push { cls := .type "slice", data := .fields #[va, vb, vc] } }
  refine tail_any (ops := [.ref a, .ref s4.heap.objs.size]) ht.typeIs PyProof.Rows.slot_tuple_getitem.lookup ?_ (by with_unfolding_all rfl)
  refine item_back ht (Heap.IsSliceOf.new _ va vb vc) pa pb pc ?_ (by rw [List.size_toArray]; omega)
  refine ⟨.ref _, _, I5.laid (t' := s4.toks) (o := .tup xs.reverse) (fun b ob q => Heap.get?_push_of_some _ q) (Nat.le_refl _) ?_, rfl, q _ (I5.hok.fresh (Nat.le_refl _))⟩
  rw [List.toList_toArray]
  exact ⟨by rw [List.length_reverse]; exact hz, its.reverse, r.reverse, ⟨_, Heap.get?_push_size _ rfl, rfl, _, rfl⟩⟩
end
section
variable {X : L2.Cx}
/-- sum of a list or a tuple of ints -/
def rSumT (K : PySem.W.Frag) : List V → Hp → VK → Prop := fun vs H Q => ∃ (a : Addr) (ns : List Int), vs = [V.ref a] ∧ SqT K H a (ns.map V.int) ∧ Q (.int ns.sum) H
theorem cr_sumT (hc : X.calm = true) : CallR X (.builtin "sum") (rSumT X.K) := by
  intro pins s σ H vs us Q I r h
  obtain ⟨a, ns, rfl, hs, q⟩ := h
  obtain ⟨its, rv, ht, _⟩ := I.tuple hs
  rw [Vals.ref1 r]
  have hi := rv.ints
  obtain ⟨xs, hx⟩ := hi.allInts.items
  have hn : numsOf its.toArray.toList = ns := by rw [show its.toArray.toList = its from rfl, hi.numsOf]
  have ht' : s.heap.IsTuple a its.toArray := ht
  rw [hx] at ht' hn
  rw [nums_intItems] at hn
  refine PySem.W.ktm_sumG (I.ok.hd hc) ht' fun h' tk t' hk => ?_
  rw [preSum_eq, List.take_of_length_le (by simp), hn]
  exact ⟨.int _, H, I.kept hk, ⟨_, rfl⟩, q⟩
end
end Ev


set_option autoImplicit false
set_option Elab.async false
set_option linter.all false
set_option maxRecDepth 100000
set_option maxHeartbeats 4000000
/-! EvX: built-in functions by values. -/
namespace Ev
open PySem PySem.Spec PyProof.Rows L2
section
variable {G : Gs} {P : Pg} {ft : List Ft} {k : Nat} {c : Ck} {Y : L2.Cx}
/-- a built-in by values -/
def rBl (G : Gs) (b : Nat) : List V → Hp → VK → Prop := fun vs H Q => ∃ ω M ds, HRel G ω M H ∧ Rels G ω ds vs ∧ PostE G ω (bltn b ds M) Q
theorem rels1 {ω : Wd} {d : D} {vs : List V} (r : Rels G ω [d] vs) : ∃ v, vs = [v] ∧ Rel G ω d v := by
  rw [Rels] at r
  obtain ⟨v, t, e, a, b⟩ := r
  rw [Rels] at b
  subst b
  exact ⟨v, e, a⟩
theorem allTrue_ok {ω : Wd} : ∀ {ds : List D} {vs : List V} {b : Bool}, allTrue ds = some b → Rels G ω ds vs → ∃ bs : List Bool, vs = bs.map V.bl ∧ b = bs.all id
  | [], vs, b, h, r => by
    rw [Rels] at r
    subst r
    rw [allTrue] at h
    cases h
    exact ⟨[], rfl, rfl⟩
  | d :: ds, vs, b, h, r => by
    cases d with
    | bl t =>
      rw [allTrue] at h
      rw [Rels] at r
      obtain ⟨v, w, e, a, q⟩ := r
      subst e
      rw [Rel] at a
      subst a
      cases e2 : allTrue ds with
      | none => rw [e2] at h; cases h
      | some b2 =>
        rw [e2] at h
        obtain ⟨bs, h1, h2⟩ := allTrue_ok e2 q
        refine ⟨t :: bs, by rw [h1]; rfl, ?_⟩
        have h3 : (t && b2) = b := Option.some.inj h
        rw [← h3, h2]
        rfl
    | _ => cases h
theorem dicOf_ok {ω : Wd} {M : List O} {H : Hp} {d : D} {v : V} {ks ds : List D} (h : HRel G ω M H) (r : Rel G ω d v) (e : dicOf M d = some (ks, ds)) : ∃ p vs, v = .ref p ∧ Rd H p (.dK (kvsOf ks vs)) ∧ keysOk ks = true ∧ ks.length = ds.length ∧ Rels G ω ds vs := by
  cases d with
  | dct ks' ds' =>
    unfold dicOf at e
    obtain ⟨rfl, rfl⟩ := Prod.mk.inj (Option.some.inj e)
    rw [Rel] at r
    obtain ⟨p, od, vs, e1, e2, e3, e4, q⟩ := r
    exact ⟨p, vs, e1, .inr ⟨od, h.imm _ _ e2⟩, e3, e4, q⟩
  | ref a =>
    unfold dicOf at e
    dsimp only at e
    cases c : M[a]? with
    | none => rw [c] at e; cases e
    | some o =>
      rw [c] at e
      cases o with
      | dic ks' ds' =>
        obtain ⟨rfl, rfl⟩ := Prod.mk.inj (Option.some.inj e)
        rw [Rel] at r
        obtain ⟨p, e1, e2⟩ := r
        obtain ⟨p', ho, f1, f2, ⟨vs, f3, f4, f5, f6⟩, _⟩ := h.obj a _ c (fun z => nomatch z)
        rw [e1] at f1
        cases f1
        subst f3
        exact ⟨p, vs, e2, .inl f2, f4, f5, f6⟩
      | _ => cases e
  | _ => cases e
theorem kvsOf_length : ∀ {ks : List D} {vs : List V}, ks.length = vs.length → (kvsOf ks vs).length = ks.length
  | [], [], _ => rfl
  | [], _ :: _, h => by simp at h
  | _ :: _, [], h => by simp at h
  | k :: ks, v :: vs, h => by
    rw [kvsOf, List.length_cons, List.length_cons, kvsOf_length (by simpa using h)]
theorem blt_len (O : Ok G P ft k c Y) : CallR Y (.builtin "len") (rBl G 0) := by
  intro pins s σ H vs us Q I r h
  obtain ⟨ω, M, ds, hh, rd, post⟩ := h
  change PostE G ω (bLen ds M) Q at post
  unfold bLen at post
  split at post
  · rename_i t
    split at post
    · rename_i hl
      obtain ⟨v, e1, r1⟩ := rels1 rd
      subst e1
      rw [Rel] at r1
      subst r1
      refine call_len_str pins s σ H _ us Q I r ⟨_, rfl, by rw [sS_len]; exact Nat.le_trans hl lim_le, ?_⟩
      rw [sS_len]
      exact post_int post hh
    · exact False.elim post
  · split at post
    · rename_i l e
      obtain ⟨v, e1, r1⟩ := rels1 rd
      subst e1
      obtain ⟨q, ws, f1, f2, f3⟩ := itemsOf_ok hh r1 e
      subst f1
      refine call_len_seq pins s σ H _ us Q I r ⟨q, ws, rfl, f2.imp (fun z => SqL.of z) (fun z => by rw [O.hK]; exact z), ?_⟩
      rw [f3.length]
      exact post_int post hh
    · split at post
      · rename_i ks ds e
        obtain ⟨v, e1, r1⟩ := rels1 rd
        subst e1
        obtain ⟨q, ws, f1, f2, f3, f4, f5⟩ := dicOf_ok hh r1 e
        subst f1
        rw [Vals.ref1 r]
        refine d_len I f2 fun t s' I' => ⟨.int ks.length, H, I', ⟨t, ?_⟩, post_int post hh⟩
        rw [kvsOf_length (by rw [f4, f5.length])]
      · exact False.elim post
  · exact False.elim post
theorem blt_int : CallR Y (.type "int") (rBl G 1) := by
  intro pins s σ H vs us Q I r h
  obtain ⟨ω, M, ds, hh, rd, post⟩ := h
  change PostE G ω (bInt ds M) Q at post
  unfold bInt at post
  split at post
  · obtain ⟨v, e1, r1⟩ := rels1 rd
    subst e1
    rw [Rel] at r1
    subst r1
    exact call_int1 pins s σ H _ us Q I r (.inl ⟨_, rfl, post_int post hh⟩)
  · obtain ⟨v, e1, r1⟩ := rels1 rd
    subst e1
    rw [Rel] at r1
    subst r1
    exact call_int1 pins s σ H _ us Q I r (.inr ⟨_, rfl, post_int post hh⟩)
  · rename_i t
    split at post
    · rename_i hf
      rw [Bool.and_eq_true] at hf
      have hl := of_decide_eq_true hf.2
      obtain ⟨v, e1, r1⟩ := rels1 rd
      subst e1
      rw [Rel] at r1
      subst r1
      exact call_int_str pins s σ H _ us Q I r ⟨_, _, rfl, int_sS hf.1 hl, by rw [sS_len]; omega, post_int post hh⟩
    · exact False.elim post
  · exact False.elim post
theorem blt_all (O : Ok G P ft k c Y) : CallR Y (.builtin "all") (rBl G 2) := by
  intro pins s σ H vs us Q I r h
  obtain ⟨ω, M, ds, hh, rd, post⟩ := h
  change PostE G ω (bAll ds M) Q at post
  unfold bAll at post
  split at post
  · split at post
    · rename_i l e
      split at post
      · rename_i b eb
        obtain ⟨v, e1, r1⟩ := rels1 rd
        subst e1
        obtain ⟨q, ws, f1, f2, f3⟩ := listOf_ok hh r1 e
        obtain ⟨bs, g1, g2⟩ := allTrue_ok eb f3
        subst f1 g1 g2
        exact cr_all O.calm pins s σ H _ us Q I r ⟨q, bs, rfl, SqL.of f2, post_bl post hh⟩
      · exact False.elim post
    · exact False.elim post
  · exact False.elim post
theorem anyTrue_ok {ω : Wd} : ∀ {ds : List D} {vs : List V} {b : Bool}, anyTrue ds = some b → Rels G ω ds vs → ∃ bs : List Bool, vs = bs.map V.bl ∧ b = bs.any id
  | [], vs, b, h, r => by
    rw [Rels] at r
    subst r
    rw [anyTrue] at h
    cases h
    exact ⟨[], rfl, rfl⟩
  | d :: ds, vs, b, h, r => by
    cases d with
    | bl t =>
      rw [anyTrue] at h
      rw [Rels] at r
      obtain ⟨v, w, e, a, q⟩ := r
      subst e
      rw [Rel] at a
      subst a
      cases e2 : anyTrue ds with
      | none => rw [e2] at h; cases h
      | some b2 =>
        rw [e2] at h
        obtain ⟨bs, h1, h2⟩ := anyTrue_ok e2 q
        refine ⟨t :: bs, by rw [h1]; rfl, ?_⟩
        have h3 : (t || b2) = b := Option.some.inj h
        rw [← h3, h2]
        rfl
    | _ => cases h
theorem blt_any (O : Ok G P ft k c Y) : CallR Y (.builtin "any") (rBl G 7) := by
  intro pins s σ H vs us Q I r h
  obtain ⟨ω, M, ds, hh, rd, post⟩ := h
  change PostE G ω (bAny ds M) Q at post
  unfold bAny at post
  split at post
  · split at post
    · rename_i l e
      split at post
      · rename_i b eb
        obtain ⟨v, e1, r1⟩ := rels1 rd
        subst e1
        obtain ⟨q, ws, f1, f2, f3⟩ := listOf_ok hh r1 e
        obtain ⟨bs, g1, g2⟩ := anyTrue_ok eb f3
        subst f1 g1 g2
        exact cr_any O.calm pins s σ H _ us Q I r ⟨q, bs, rfl, SqL.of f2, post_bl post hh⟩
      · exact False.elim post
    · exact False.elim post
  · exact False.elim post
theorem itx_str (i : Int) : sS (itx i) = Str.ofString (toString i) := by
  unfold sS itx
  rw [Str.ofString_eq_toList]
theorem blt_str : CallR Y (.type "str") (rBl G 3) := by
  intro pins s σ H vs us Q I r h
  obtain ⟨ω, M, ds, hh, rd, post⟩ := h
  change PostE G ω (bStr ds M) Q at post
  unfold bStr at post
  split at post
  · rename_i i
    obtain ⟨v, e1, r1⟩ := rels1 rd
    subst e1
    rw [Rel] at r1
    subst r1
    split at post
    · rename_i hb
      simp only [Bool.and_eq_true, decide_eq_true_eq] at hb
      refine call_str_int pins s σ H _ us Q I r ⟨i, rfl, ?_, ?_⟩
      · have h1 : i.natAbs < 2 ^ 64 := by
          have := hb.1
          have := hb.2
          unfold big at *
          omega
        have := PySem.Flt.log2_lt_of (by decide : 0 < 64) h1
        omega
      · have := post_str post hh
        rw [itx_str] at this
        exact this
    · exact False.elim post
  · obtain ⟨v, e1, r1⟩ := rels1 rd
    subst e1
    rw [Rel] at r1
    subst r1
    exact SkE.call_str_str pins s σ H _ us Q I r ⟨_, rfl, post_str post hh⟩
  · exact False.elim post
theorem blt_lst (O : Ok G P ft k c Y) : CallR Y (.type "list") (rBl G 4) := by
  intro pins s σ H vs us Q I r h
  obtain ⟨ω, M, ds, hh, rd, post⟩ := h
  change PostE G ω (bLst ds M) Q at post
  unfold bLst at post
  split at post
  · split at post
    · rename_i l e
      obtain ⟨v, e1, r1⟩ := rels1 rd
      subst e1
      obtain ⟨q, ws, f1, f2, f3⟩ := itemsOf_ok hh r1 e
      subst f1
      exact call_list_of pins s σ H _ us Q I r ⟨q, ws, rfl, f2.imp (fun z => SqL.of z) (fun z => by rw [O.hK]; exact z), fun z hz => post_lst post hh hz f3⟩
    · exact False.elim post
  · exact False.elim post
theorem blt_lsn (O : Ok G P ft k c Y) : CallR Y (.type "list") (rBl G 5) := by
  intro pins s σ H vs us Q I r h
  obtain ⟨ω, M, ds, hh, rd, post⟩ := h
  change PostE G ω (bLsN ds M) Q at post
  unfold bLsN at post
  split at post
  · split at post
    · rename_i l e
      obtain ⟨v, e1, r1⟩ := rels1 rd
      subst e1
      obtain ⟨q, ws, f1, f2, f3⟩ := itemsOf_ok hh r1 e
      subst f1
      exact call_list_of pins s σ H _ us Q I r ⟨q, ws, rfl, f2.imp (fun z => SqL.of z) (fun z => by rw [O.hK]; exact z), fun z hz => post_new post hh hz f3⟩
    · exact False.elim post
  · exact False.elim post
theorem blt_tup (O : Ok G P ft k c Y) : CallR Y (.type "tuple") (rBl G 6) := by
  intro pins s σ H vs us Q I r h
  obtain ⟨ω, M, ds, hh, rd, post⟩ := h
  change PostE G ω (bTup ds M) Q at post
  unfold bTup at post
  split at post
  · rename_i d
    split at post
    · rename_i l e
      obtain ⟨v, e1, r1⟩ := rels1 rd
      subst e1
      cases hl : listOf M d with
      | some es =>
        have e2 : es = l := by
          unfold listOf at hl
          unfold itemsOf at e
          split at hl
          · rename_i z
            rw [z] at e
            simp at hl e
            rw [← hl, ← e]
          · cases hl
        subst e2
        obtain ⟨q, ws, f1, f2, f3⟩ := listOf_ok hh r1 hl
        subst f1
        exact call_tuple_of pins s σ H _ us Q I r ⟨q, ws, rfl, .inl ⟨SqL.of f2, fun z hz => post_tup post hh hz f3⟩⟩
      | none =>
        have ed : d = .tup l := by
          cases d with
          | tup ds =>
            unfold itemsOf seen at e
            simp at e
            rw [e]
          | lst ds => simp [listOf, seen] at hl
          | ref a =>
            unfold itemsOf seen at e
            unfold listOf seen at hl
            cases c : M[a]? with
            | none => simp [c] at e
            | some o => cases o <;> simp [c] at e hl
          | _ => simp [itemsOf, seen] at e
        subst ed
        have r2 := r1
        rw [Rel] at r1
        obtain ⟨q, ws, f1, f2, f3⟩ := r1
        subst f1
        exact call_tuple_of pins s σ H _ us Q I r ⟨q, ws, rfl, .inr ⟨by rw [O.hK]; exact sqT_mono f2 hh.imm, Post.here post hh r2⟩⟩
    · exact False.elim post
  · exact False.elim post
/-- a new mutable dict -/
theorem post_newD {ω : Wd} {M : List O} {H : Hp} {Q : VK} {ks ds : List D} {vs : List V} {p : Addr} (h : PostE G ω (alloc (.dic ks ds) M) Q) (hh : HRel G ω M H) (n : H p = none) (hk : keysOk ks = true) (hl : ks.length = ds.length) (r : Rels G ω ds vs) : Q (.ref p) (upd H p (.dK (kvsOf ks vs))) := by
  obtain ⟨h2, le⟩ := hh.pushM (o := .dic ks ds) (ho := .dK (kvsOf ks vs)) n ⟨vs, rfl, hk, hl, r⟩
  refine h _ _ _ le h2 ?_
  rw [Rel]
  refine ⟨p, ?_, rfl⟩
  show (ω.ρ ++ [p])[M.length]? = some p
  rw [← hh.len]
  simp
theorem blt_dic : CallR Y (.type "dict") (rBl G 8) := by
  intro pins s σ H vs us Q I r h
  obtain ⟨ω, M, ds, hh, rd, post⟩ := h
  change PostE G ω (bDic ds M) Q at post
  unfold bDic at post
  split at post
  · split at post
    · rename_i ks es e
      obtain ⟨v, e1, r1⟩ := rels1 rd
      subst e1
      obtain ⟨q, ws, f1, f2, f3, f4, f5⟩ := dicOf_ok hh r1 e
      subst f1
      exact call_dictD pins s σ H _ us Q I r ⟨q, _, rfl, f2, fun z hz => post_newD post hh hz f3 f4 f5⟩
    · exact False.elim post
  · exact False.elim post
theorem intsOf_ok {ω : Wd} : ∀ {ds : List D} {vs : List V} {ns : List Int}, intsOf ds = some ns → Rels G ω ds vs → vs = ns.map V.int
  | [], vs, ns, h, r => by
    rw [Rels] at r
    subst r
    rw [intsOf] at h
    cases h
    rfl
  | d :: ds, vs, ns, h, r => by
    cases d with
    | int i =>
      rw [intsOf] at h
      rw [Rels] at r
      obtain ⟨v, w, e, a, q⟩ := r
      subst e
      rw [Rel] at a
      subst a
      cases e2 : intsOf ds with
      | none => rw [e2] at h; cases h
      | some ms =>
        rw [e2] at h
        have h3 : i :: ms = ns := Option.some.inj h
        rw [← h3, intsOf_ok e2 q]
        rfl
    | _ => cases h
theorem ints_rels {ω : Wd} : ∀ (ns : List Int), Rels G ω (ns.map D.int) (ns.map V.int)
  | [] => Rels.nil
  | i :: ns => Rels.cons (by rw [Rel]) (ints_rels ns)
theorem insI_perm (i : Int) : ∀ l : List Int, (insI i l).Perm (i :: l)
  | [] => .refl _
  | j :: l => by
    rw [insI]
    split
    · exact .refl _
    · exact ((insI_perm i l).cons j).trans (.swap i j l)
theorem sortI_perm : ∀ l : List Int, (sortI l).Perm l
  | [] => .refl _
  | i :: l => (insI_perm i _).trans ((sortI_perm l).cons i)
theorem insI_sorted (i : Int) : ∀ l : List Int, l.Pairwise (· ≤ ·) → (insI i l).Pairwise (· ≤ ·)
  | [], _ => by simp [insI]
  | j :: l, h => by
    rw [insI]
    obtain ⟨h1, h2⟩ := List.pairwise_cons.mp h
    split
    · rename_i c
      refine List.pairwise_cons.mpr ⟨fun a ha => ?_, h⟩
      rcases List.mem_cons.mp ha with e | e
      · rw [e]; exact c
      · exact Int.le_trans c (h1 a e)
    · rename_i c
      refine List.pairwise_cons.mpr ⟨fun a ha => ?_, insI_sorted i l h2⟩
      rcases List.mem_cons.mp ((insI_perm i l).mem_iff.mp ha) with e | e
      · rw [e]; omega
      · exact h1 a e
theorem sortI_sorted : ∀ l : List Int, (sortI l).Pairwise (· ≤ ·)
  | [] => by simp [sortI]
  | i :: l => insI_sorted i _ (sortI_sorted l)
theorem sorted_one : ∀ {a b : List Int}, a.Perm b → a.Pairwise (· ≤ ·) → b.Pairwise (· ≤ ·) → a = b
  | [], b, p, _, _ => (List.nil_perm.mp p).symm
  | i :: a, [], p, _, _ => absurd p.symm (by simp)
  | i :: a, j :: b, p, ha, hb => by
    obtain ⟨a1, a2⟩ := List.pairwise_cons.mp ha
    obtain ⟨b1, b2⟩ := List.pairwise_cons.mp hb
    have e : i = j := by
      have m1 : i ∈ j :: b := p.mem_iff.mp List.mem_cons_self
      have m2 : j ∈ i :: a := p.mem_iff.mpr List.mem_cons_self
      rcases List.mem_cons.mp m1 with e | e
      · exact e
      · rcases List.mem_cons.mp m2 with e' | e'
        · exact e'.symm
        · exact Int.le_antisymm (a1 j e') (b1 i e)
    subst e
    rw [sorted_one (List.Perm.cons_inv p) a2 b2]
theorem blt_sorted (O : Ok G P ft k c Y) : CallR Y (.builtin "sorted") (rBl G 9) := by
  intro pins s σ H vs us Q I r h
  obtain ⟨ω, M, ds, hh, rd, post⟩ := h
  change PostE G ω (bSorted ds M) Q at post
  unfold bSorted at post
  split at post
  · split at post
    · rename_i l e
      split at post
      · rename_i ns eb
        obtain ⟨v, e1, r1⟩ := rels1 rd
        subst e1
        obtain ⟨q, ws, f1, f2, f3⟩ := listOf_ok hh r1 e
        have g1 := intsOf_ok eb f3
        subst f1 g1
        refine cr_sortedI pins s σ H _ us Q I r ⟨q, ns, rfl, SqL.of f2, fun ms p h1 h2 hp => ?_⟩
        rw [sorted_one (h1.trans (sortI_perm ns).symm) h2 (sortI_sorted ns)]
        exact post_lst post hh hp (ints_rels _)
      · exact False.elim post
    · exact False.elim post
  · exact False.elim post
theorem blt_sum (O : Ok G P ft k c Y) : CallR Y (.builtin "sum") (rBl G 10) := by
  intro pins s σ H vs us Q I r h
  obtain ⟨ω, M, ds, hh, rd, post⟩ := h
  change PostE G ω (bSum ds M) Q at post
  unfold bSum at post
  split at post
  · split at post
    · rename_i l e
      split at post
      · rename_i ns eb
        obtain ⟨v, e1, r1⟩ := rels1 rd
        subst e1
        obtain ⟨q, ws, f1, f2, f3⟩ := itemsOf_ok hh r1 e
        have g1 := intsOf_ok eb f3
        subst f1 g1
        rcases f2 with f2 | f2
        · exact cr_sum O.calm pins s σ H _ us Q I r ⟨q, ns, rfl, SqL.of f2, post_int post hh⟩
        · exact cr_sumT O.calm pins s σ H _ us Q I r ⟨q, ns, rfl, by rw [O.hK]; exact f2, post_int post hh⟩
      · exact False.elim post
    · exact False.elim post
  · exact False.elim post
theorem rels2' {ω : Wd} {d e : D} {vs : List V} (r : Rels G ω [d, e] vs) : ∃ v w, vs = [v, w] ∧ Rel G ω d v ∧ Rel G ω e w := by
  rw [Rels] at r
  obtain ⟨v, t, e1, a, b⟩ := r
  obtain ⟨w, e2, c⟩ := rels1 b
  exact ⟨v, w, by rw [e1, e2], a, c⟩
theorem blt_max (O : Ok G P ft k c Y) : CallR Y (.builtin "max") (rBl G 11) := by
  intro pins s σ H vs us Q I r h
  obtain ⟨ω, M, ds, hh, rd, post⟩ := h
  change PostE G ω (bMax ds M) Q at post
  unfold bMax at post
  split at post
  · rename_i i j
    obtain ⟨v, w, e1, r1, r2⟩ := rels2' rd
    subst e1
    rw [Rel] at r1 r2
    subst r1 r2
    exact call_max2 O.calm pins s σ H _ us Q I r ⟨i, j, rfl, post_int post hh⟩
  · exact False.elim post
theorem blt_min (O : Ok G P ft k c Y) : CallR Y (.builtin "min") (rBl G 12) := by
  intro pins s σ H vs us Q I r h
  obtain ⟨ω, M, ds, hh, rd, post⟩ := h
  change PostE G ω (bMin ds M) Q at post
  unfold bMin at post
  split at post
  · rename_i i j
    obtain ⟨v, w, e1, r1, r2⟩ := rels2' rd
    subst e1
    rw [Rel] at r1 r2
    subst r1 r2
    exact call_min2 O.calm pins s σ H _ us Q I r ⟨i, j, rfl, post_int post hh⟩
  · exact False.elim post
theorem bltn_nil (b : Nat) (M : List O) : bltn b [] M = .er := by
  unfold bltn
  split <;> rfl
theorem s_blt (O : Ok G P ft k c Y) {b : Nat} {es : List X} {as : List Expr} {x : Str} {p pos : Pos} {w : String} (hb : bltName b = some w) (hx : x = Str.ofString w) (hg : c.gl x = true) (A : PA Y as (tEs G (ecN P k) es))
    (hs : ∀ e r, as = e :: r → starEach (e :: r) Y.env = (false, eval e Y.env) :: starEach r Y.env ∧ (backTo pos (starEach r Y.env)).any (·.1) = false) (hl : es.length = as.length) : Snd G (ecN P k) Y (.Call (.Name x p) as [] pos) (.blt b es) := by
  have key : ∀ σ H Q, tE G (ecN P k) (.blt b es) σ H Q → tCB (rBl G b) (tEs G (ecN P k) es) σ H Q := fun σ H Q q => by
    obtain ⟨ω, M, env, he, hh, post⟩ := q
    rw [ev] at post
    exact tEs_bind he hh post fun ds M1 ω1 H1 vs he1 hh1 r p le => ⟨ω1, M1, ds, hh1, r, p⟩
  cases as with
  | nil =>
    have : es = [] := List.length_eq_zero_iff.mp hl
    subst this
    refine ⟨⟨fun pins s σ H Q I h => ?_⟩, ⟨fun pins s σ H Q I h => ?_⟩, fun _ _ _ z => nomatch z⟩
    · obtain ⟨ω, M, env, he, hh, post⟩ := h
      rw [ev, evs] at post
      have post : PostE G ω (bltn b [] M) Q := post
      rw [bltn_nil] at post
      exact False.elim post
    · obtain ⟨ω, M, env, he, hh, post⟩ := h
      unfold evB at post
      rw [ev, evs] at post
      have post : PostB G ω ((bltn b [] M).bind _) Q := post
      rw [bltn_nil] at post
      exact False.elim post
  | cons a r =>
    obtain ⟨h1, h2⟩ := hs a r rfl
    subst hx
    have fin : ∀ {e : Expr} {t : TE}, PE Y e t → e = .Call (.Name (Str.ofString w) p) (a :: r) [] pos → (∀ σ H Q, tE G (ecN P k) (.blt b es) σ H Q → t σ H Q) → Snd G (ecN P k) Y (.Call (.Name (Str.ofString w) p) (a :: r) [] pos) (.blt b es) := fun h e q => by
      subst e
      exact Snd.of (PE.imp h q) (fun _ => rfl) (fun _ _ _ z => nomatch z)
    match b, hb with
    | 0, hb =>
      cases hb
      exact fin (pe_callB (blt_len O) (O.gl hg) (O.free _ (by decide +kernel)) PySem.boot_len A (he := h1) (hpl := h2)) rfl key
    | 1, hb =>
      cases hb
      exact fin (pe_callTy blt_int (O.gl hg) (O.free _ (by decide +kernel)) PyProof.Rows.boot_int A (he := h1) (hpl := h2)) rfl key
    | 2, hb =>
      cases hb
      exact fin (pe_callB (blt_all O) (O.gl hg) (O.free _ (by decide +kernel)) PyProof.Rows.boot_all A (he := h1) (hpl := h2)) rfl key
    | 3, hb =>
      cases hb
      exact fin (pe_callTy blt_str (O.gl hg) (O.free _ (by decide +kernel)) (by decide +kernel) A (he := h1) (hpl := h2)) rfl key
    | 4, hb =>
      cases hb
      exact fin (pe_callTy (blt_lst O) (O.gl hg) (O.free _ (by decide +kernel)) (by decide +kernel) A (he := h1) (hpl := h2)) rfl key
    | 5, hb =>
      cases hb
      exact fin (pe_callTy (blt_lsn O) (O.gl hg) (O.free _ (by decide +kernel)) (by decide +kernel) A (he := h1) (hpl := h2)) rfl key
    | 6, hb =>
      cases hb
      exact fin (pe_callTy (blt_tup O) (O.gl hg) (O.free _ (by decide +kernel)) (by decide +kernel) A (he := h1) (hpl := h2)) rfl key
    | 7, hb =>
      cases hb
      exact fin (pe_callB (blt_any O) (O.gl hg) (O.free _ (by decide +kernel)) (by decide +kernel) A (he := h1) (hpl := h2)) rfl key
    | 8, hb =>
      cases hb
      exact fin (pe_callTy blt_dic (O.gl hg) (O.free _ (by decide +kernel)) (by decide +kernel) A (he := h1) (hpl := h2)) rfl key
    | 9, hb =>
      cases hb
      exact fin (pe_callB (blt_sorted O) (O.gl hg) (O.free _ (by decide +kernel)) (by decide +kernel) A (he := h1) (hpl := h2)) rfl key
    | 10, hb =>
      cases hb
      exact fin (pe_callB (blt_sum O) (O.gl hg) (O.free _ (by decide +kernel)) (by decide +kernel) A (he := h1) (hpl := h2)) rfl key
    | 11, hb =>
      cases hb
      exact fin (pe_callB (blt_max O) (O.gl hg) (O.free _ (by decide +kernel)) (by decide +kernel) A (he := h1) (hpl := h2)) rfl key
    | 12, hb =>
      cases hb
      exact fin (pe_callB (blt_min O) (O.gl hg) (O.free _ (by decide +kernel)) (by decide +kernel) A (he := h1) (hpl := h2)) rfl key
    | _ + 13, hb => cases hb
end
end Ev


set_option autoImplicit false
set_option Elab.async false
set_option linter.all false
set_option maxRecDepth 100000
set_option maxHeartbeats 4000000
/-! EvY: calls of defs, classes and methods. -/
namespace Ev
open PySem PySem.Spec PyProof.Rows L2 EvCall
section
variable {G : Gs} {P : Pg} {ft : List Ft} {k : Nat} {c : Ck} {Y : L2.Cx}
/-- a row of expressions, each walked rightly -/
inductive PEs (G : Gs) (C : Ec) (Y : L2.Cx) : List Expr → List X → Prop
  | nil : PEs G C Y [] []
  | cons {e : Expr} {es : List Expr} {x : X} {xs : List X} (h : PE Y e (tE G C x)) (ns : ∀ es env, starEach (e :: es) env = (false, eval e env) :: starEach es env) (r : PEs G C Y es xs) : PEs G C Y (e :: es) (x :: xs)
theorem PEs.pa {es : List Expr} {xs : List X} (h : PEs G (ecN P k) Y es xs) : PA Y es (tEs G (ecN P k) xs) := by
  induction h with
  | nil => exact a_nil
  | cons h ns r ih => exact a_cons (ns _ _) h ih
theorem PK.imp {kws : List Keyword} {t t' : TA} (h : PK Y kws t) (q : ∀ σ H Q, t' σ H Q → t σ H Q) : PK Y kws t' := ⟨fun pos pins s σ H Q I z => h.run pos pins s σ H Q I (q σ H Q z)⟩
theorem kw_pk : ∀ {kws : List Keyword} {kn : List Str} {ke : List Expr} {xs : List X}, kwParts kws = some (kn, ke) → PEs G (ecN P k) Y ke xs → PK Y kws (tEs G (ecN P k) xs)
  | [], kn, ke, xs, h, r => by
    cases h
    cases r
    exact PK.imp pk_nil fun σ H Q q => by
      obtain ⟨ω, M, env, he, hh, post⟩ := q
      rw [evs] at post
      exact Post.here post hh Rels.nil
  | ⟨some k, e, p⟩ :: kws, kn, ke, xs, h, r => by
    rw [kwParts] at h
    cases e2 : kwParts kws with
    | none => rw [e2] at h; cases h
    | some q =>
      obtain ⟨ks, es⟩ := q
      rw [e2] at h
      cases h
      cases r with
      | cons h1 ns r =>
        exact PK.imp (pk_cons h1 (kw_pk e2 r)) fun σ H Q q => by
          obtain ⟨ω, M, env, he, hh, post⟩ := q
          rw [evs] at post
          exact tE_bind he hh post fun d M1 ω1 H1 v he1 hh1 r p le => tEs_bind he1 hh1 p fun ds M2 ω2 H2 vs he2 hh2 r2 p2 le2 => Post.here p2 hh2 (Rels.cons (Rel.mono le2 _ _ r) r2)
  | ⟨none, e, p⟩ :: kws, kn, ke, xs, h, r => by cases h
theorem kw_names : ∀ {kws : List Keyword} {kn : List Str} {ke : List Expr} (pos : Pos) (env : PySem.Env), kwParts kws = some (kn, ke) → (backToKw pos (keywordEach kws env)).filterMap (·.1) = kn ∧ (backToKw pos (keywordEach kws env)).all (·.1.isSome) = true ∧ (backToKw pos (keywordEach kws env)).any (·.1.isNone) = false
  | [], kn, ke, pos, env, h => by
    cases h
    exact ⟨rfl, rfl, rfl⟩
  | ⟨some k, e, p⟩ :: kws, kn, ke, pos, env, h => by
    rw [kwParts] at h
    cases e2 : kwParts kws with
    | none => rw [e2] at h; cases h
    | some q =>
      obtain ⟨ks, es⟩ := q
      rw [e2] at h
      cases h
      obtain ⟨a1, a2, a3⟩ := kw_names pos env e2
      refine ⟨?_, ?_, ?_⟩
      · show List.filterMap (·.1) ((some k, _) :: backToKw pos (keywordEach kws env)) = _
        rw [List.filterMap_cons]
        simp only [a1]
      · show ((some k, _) :: backToKw pos (keywordEach kws env)).all (·.1.isSome) = true
        rw [List.all_cons, a2]
        rfl
      · show ((some k, _) :: backToKw pos (keywordEach kws env)).any (·.1.isNone) = false
        rw [List.any_cons, a3]
        rfl
  | ⟨none, e, p⟩ :: kws, kn, ke, pos, env, h => by cases h
/-- the arguments of a call, evaluated -/
def evA (C : Ec) (es st vs : List X) (env : En) (M : List O) : Rs (List D × List D) := (evs C es env M).bind fun ds M1 => (evs C st env M1).bind fun ss M2 => (evs C vs env M2).bind fun ws M3 => match starOf ss with
  | some more => .ok (ds ++ more, ws) M3
  | none => .er
def RelA (G : Gs) (ω : Wd) (p : List D × List D) (q : List V × List V) : Prop := Rels G ω p.1 q.1 ∧ Rels G ω p.2 q.2
def tAr (G : Gs) (C : Ec) (es st vs : List X) : TAr := fun σ H Q => ∃ ω M env, EnvRel G ω env σ ∧ HRel G ω M H ∧ Post G (RelA G) ω (evA C es st vs env M) fun q H' => Q q.1 q.2 H'
theorem fixed_ok {ω : Wd} {M : List O} {H : Hp} {d : D} {v : V} {ds : List D} (h : HRel G ω M H) (r : Rel G ω d v) (e : fixed d = some ds) : ∃ p vs, v = .ref p ∧ (SqT G.K H p vs ∨ SqL G.K H p vs) ∧ Rels G ω ds vs := by
  cases d with
  | lst es =>
    cases e
    rw [Rel] at r
    obtain ⟨p, vs, e1, e2, q⟩ := r
    exact ⟨p, vs, e1, .inr (SqL.of (h.imm _ _ e2)), q⟩
  | tup es =>
    cases e
    rw [Rel] at r
    obtain ⟨p, vs, e1, e2, q⟩ := r
    exact ⟨p, vs, e1, .inl (sqT_mono e2 h.imm), q⟩
  | _ => cases e
theorem rels0 {ω : Wd} {vs : List V} (r : Rels G ω [] vs) : vs = [] := by rw [Rels] at r; exact r
theorem evA_one {C : Ec} {es vs : List X} {env : En} {M : List O} : evA C es [] vs env M = (evs C es env M).bind fun ds M1 => (evs C vs env M1).bind fun ws M3 => .ok (ds, ws) M3 := by
  unfold evA
  congr 1
  funext ds M1
  rw [evs]
  show (evs C vs env M1).bind _ = _
  congr 1
  funext ws M3
  simp [starOf]
theorem par_plain (O : Ok G P ft k c Y) {as : List Expr} {kws : List Keyword} {kn : List Str} {ke : List Expr} {es vs : List X} (A : PEs G (ecN P k) Y as es) (hk : kwParts kws = some (kn, ke)) (K : PEs G (ecN P k) Y ke vs) : PAr Y as kws kn (tAr G (ecN P k) es [] vs) := by
  have pk := kw_pk hk K
  refine ⟨fun pos => (kw_names pos Y.env hk).2.2, fun f pos pins s σ H Q I h => ?_⟩
  obtain ⟨n1, n2, n3⟩ := kw_names pos Y.env hk
  obtain ⟨ω, M, env, he, hh, post⟩ := h
  rw [evA_one] at post
  cases A with
  | nil =>
    rw [evs] at post
    have post : Post G (RelA G) ω ((evs (ecN P k) vs env M).bind fun ws M3 => .ok (([] : List D), ws) M3) (fun q H' => Q q.1 q.2 H') := post
    refine PyProof.Rows.evalArgs_kw2_nil n2 (thn (pk.run pos pins s σ H (fun zs H' => Q [] zs H') I (tEs_bind he hh post fun ws M1 ω1 H1 zs he1 hh1 r p le => Post.here (v := ([], zs)) p hh1 ⟨Rels.nil, r⟩)) fun us s1 ⟨zs, H1, I1, rz, q⟩ => ⟨[], zs, us, H1, I1, .nil, by rw [n1], rz, q⟩)
  | cons h1 ns r =>
    have pa := (PEs.cons h1 ns r).pa
    refine PyProof.Rows.evalArgs_kw2 n2 (thn (pa.run pos pins s σ H (fun ws H' => tEs G (ecN P k) vs σ H' fun zs H2 => Q ws zs H2) I (tEs_bind he hh post fun ds M1 ω1 H1 ws he1 hh1 r1 p1 le1 => ?_)) fun us s1 ⟨ws, H1, I1, r1, q1⟩ => thn (pk.run pos pins s1 σ H1 _ I1 q1) fun us2 s2 ⟨zs, H2, I2, rz, q2⟩ => ⟨ws, zs, us2, H2, I2, r1, by rw [n1], rz, q2⟩) (ns _ _)
    exact tEs_bind he1 hh1 p1 fun ks M2 ω2 H2 zs he2 hh2 r2 p2 le2 => Post.here (v := (ws, zs)) p2 hh2 ⟨Rels.mono le2 _ _ r1, r2⟩
theorem evs_one {C : Ec} {x : X} {env : En} {M : List O} : evs C [x] env M = (ev C x env M).bind fun d M1 => .ok [d] M1 := by
  rw [evs]
  cases ev C x env M with
  | er => rfl
  | ex _ _ => rfl
  | ok d M1 =>
    simp only [Rs.bind]
    rw [evs]
theorem evA_star {C : Ec} {x : X} {vs : List X} {env : En} {M : List O} : evA C [] [x] vs env M = (ev C x env M).bind fun d M1 => (evs C vs env M1).bind fun ws M3 => match fixed d with
    | some more => .ok (more, ws) M3
    | none => .er := by
  unfold evA
  rw [evs]
  show (evs C [x] env M).bind _ = _
  rw [evs_one]
  cases ev C x env M with
  | er => rfl
  | ex _ _ => rfl
  | ok d M1 => rfl
theorem par_star (O : Ok G P ft k c Y) {e : Expr} {sp : Pos} {kws : List Keyword} {kn : List Str} {ke : List Expr} {x : X} {vs : List X} (A : PE Y e (tE G (ecN P k) x)) (hk : kwParts kws = some (kn, ke)) (K : PEs G (ecN P k) Y ke vs) : PAr Y [.Starred e sp] kws kn (tAr G (ecN P k) [] [x] vs) := by
  have pk := kw_pk hk K
  refine ⟨fun pos => (kw_names pos Y.env hk).2.2, fun f pos pins s σ H Q I h => ?_⟩
  obtain ⟨n1, n2, n3⟩ := kw_names pos Y.env hk
  obtain ⟨ω, M, env, he, hh, post⟩ := h
  rw [evA_star] at post
  show wpAny (model Y.prog Y.w) Y.A (evalArgs f true [(true, (do let v ← eval e Y.env; standAt pos; pure v))] (backToKw pos (keywordEach kws Y.env))) _ _ _
  refine ea_lone n2 (thn (A.run pins s σ H (fun v H1 => tEs G (ecN P k) vs σ H1 fun zs H2 => ∃ p xs, v = V.ref p ∧ (SqT Y.K H2 p xs ∨ SqL Y.K H2 p xs) ∧ Q xs zs H2) I ?_) fun u s1 ⟨v, H1, I1, rv, q1⟩ => thn (pk.run pos pins s1 σ H1 _ I1 q1) fun us s2 ⟨zs, H2, I2, rz, p, xs, e1, hx, q2⟩ => ?_)
  · refine tE_bind he hh post fun d M1 ω1 H1 v he1 hh1 r p le => ?_
    refine tEs_bind he1 hh1 p fun ks M2 ω2 H2 zs he2 hh2 r2 p2 le2 => ?_
    cases e3 : fixed d with
    | none => rw [e3] at p2; exact False.elim p2
    | some more =>
      rw [e3] at p2
      obtain ⟨q, xs, f1, f2, f3⟩ := fixed_ok hh2 (Rel.mono le2 _ _ r) e3
      exact ⟨q, xs, f1, by rw [O.hK]; exact f2, Post.here (v := (xs, zs)) p2 hh2 ⟨f3, r2⟩⟩
  · subst e1
    obtain rfl : u = Value.ref p := rv
    exact StX.star_any I2 hx fun us2 s3 I3 r3 => ⟨xs, zs, us, H2, I3, r3, by rw [n1], rz, q2⟩
end
end Ev


set_option autoImplicit false
set_option Elab.async false
set_option linter.all false
set_option maxRecDepth 100000
set_option maxHeartbeats 4000000
/-! EvZ: calls of defs, classes and methods; what an own class does. -/
namespace Ev
open PySem PySem.Spec PyProof.Rows L2 EvCall
theorem notSup_ok {e : Expr} {n : Str} {env : PySem.Env} (h : notSup e = true) : attributeBase e n env (eval e env) = eval e env := by
  unfold notSup at h
  split at h
  · unfold attributeBase
    dsimp only
    rw [h]
    rfl
  · rename_i hne
    unfold attributeBase
    split
    · rename_i id p pos
      exact absurd rfl (hne id p pos)
    · rfl
theorem zipF_none : ∀ {ks : List Tx} {vs : List V} {f : Tx}, hasT ks f = false → (zipF ks vs).lookup (sS f) = none
  | [], vs, f, _ => by cases vs <;> rfl
  | k :: ks, [], f, _ => rfl
  | k :: ks, v :: vs, f, h => by
    rw [hasT, Bool.or_eq_false_iff] at h
    rw [zipF, List.lookup]
    have : (sS f == sS k) = false := by
      rw [txEq_str]
      cases q : txEq f k with
      | false => rfl
      | true => rw [txEq_iff.mp q, txEq_iff.mpr rfl] at h; cases h.1
    rw [this]
    exact zipF_none h.2
theorem zipF_at : ∀ {ks : List Tx} {vs : List V} {ds : List D} {G : Gs} {ω : Wd} {f : Tx} {d : D}, Rels G ω ds vs → field ks ds f = some d → ∃ v, (zipF ks vs).lookup (sS f) = some v ∧ Rel G ω d v
  | [], vs, ds, G, ω, f, d, r, h => by cases ds <;> cases h
  | k :: ks, vs, [], G, ω, f, d, r, h => by cases h
  | k :: ks, vs, e :: ds, G, ω, f, d, r, h => by
    rw [Rels] at r
    obtain ⟨v, t, ev, a, b⟩ := r
    subst ev
    rw [field] at h
    rw [zipF, List.lookup]
    by_cases e1 : txEq k f = true
    · rw [if_pos e1] at h
      have := txEq_iff.mp e1
      subst this
      cases h
      exact ⟨v, by simp, a⟩
    · rw [if_neg e1] at h
      have ne : (sS f == sS k) = false := by
        rw [txEq_str]
        cases q : txEq f k with
        | false => rfl
        | true => rw [txEq_iff.mp q] at e1; exact absurd (txEq_iff.mpr rfl) e1
      rw [ne]
      exact zipF_at b h
theorem hasM_mem {l : List (Tx × Nat)} {m : Tx} {f : Nat} (h : hasM l m f = true) : (m, f) ∈ l := by
  unfold hasM at h
  obtain ⟨p, hp, e⟩ := List.any_eq_true.mp h
  rw [Bool.and_eq_true] at e
  obtain ⟨a, b⟩ := p
  have e1 : a = m := txEq_iff.mp e.1
  have e2 : b = f := Nat.eq_of_beq_eq_true e.2
  subst e1 e2
  exact hp
theorem hasT_mem : ∀ {l : List Tx} {m : Tx}, hasT l m = true → m ∈ l
  | [], m, h => by cases h
  | k :: l, m, h => by
    rw [hasT, Bool.or_eq_true] at h
    rcases h with h | h
    · rw [txEq_iff.mp h]
      exact List.mem_cons_self
    · exact List.mem_cons_of_mem _ (hasT_mem h)
theorem look_mem {α : Type} : ∀ {l : List (Tx × α)} {f : Tx} {d : α}, look l f = some d → (f, d) ∈ l
  | [], f, d, h => by cases h
  | (k, v) :: r, f, d, h => by
    rw [look] at h
    by_cases e : txEq k f = true
    · rw [if_pos e] at h
      cases h
      rw [txEq_iff.mp e]
      exact List.mem_cons_self
    · rw [if_neg e] at h
      exact List.mem_cons_of_mem _ (look_mem h)
section
variable {G : Gs} {P : Pg} {ft : List Ft} {k : Nat} {c : Ck} {Y : L2.Cx}
theorem insOf_ok {ω : Wd} {M : List O} {H : Hp} {d : D} {v : V} {i : Nat} {ks : List Tx} {ds : List D} (h : HRel G ω M H) (r : Rel G ω d v) (e : insOf M d = some (i, ks, ds)) : ∃ p dx vs, v = .ref p ∧ H p = some (.ins (G.CC i) dx (zipF ks vs)) ∧ ks.length = ds.length ∧ Rels G ω ds vs := by
  cases d with
  | obj c' ks' ds' =>
    cases e
    rw [Rel] at r
    obtain ⟨p, dx, vs, e1, e2, e3, e4, e5⟩ := r
    exact ⟨p, dx, vs, e1, h.imm _ _ e2, e4, e5⟩
  | ref a =>
    unfold insOf at e
    dsimp only at e
    split at e
    · rename_i c' ks' ds' em
      cases e
      rw [Rel] at r
      obtain ⟨p, e1, e2⟩ := r
      obtain ⟨p', ho, f1, f2, f3, _⟩ := h.obj a _ em (by intro z; cases z)
      rw [e1] at f1
      cases f1
      obtain ⟨dx, vs, g1, g2, g3, g4⟩ := f3
      subst g1
      exact ⟨p, dx, vs, e2, f2, g3, g4⟩
    · cases e
  | _ => cases e
/-! ### calls of defs -/
theorem ev_call {C : Ec} {f : Nat} {es st : List X} {ks : List Tx} {vs : List X} {env : En} {M : List O} : ev C (.call f es st ks vs) env M = (evA C es st vs env M).bind fun p M3 => C.call f p.1 (ks.zip p.2) M3 := by
  rw [ev]
  unfold evA
  cases evs C es env M with
  | er => rfl
  | ex _ _ => rfl
  | ok ds M1 =>
    simp only [Rs.bind]
    cases evs C st env M1 with
    | er => rfl
    | ex _ _ => rfl
    | ok ss M2 =>
      simp only [Rs.bind]
      cases evs C vs env M2 with
      | er => rfl
      | ex _ _ => rfl
      | ok ws M3 =>
        simp only [Rs.bind]
        cases starOf ss <;> rfl
theorem evs_len {C : Ec} : ∀ {xs : List X} {env : En} {M M' : List O} {ds : List D}, evs C xs env M = .ok ds M' → ds.length = xs.length
  | [], env, M, M', ds, h => by rw [evs] at h; cases h; rfl
  | x :: xs, env, M, M', ds, h => by
    rw [evs] at h
    cases e : ev C x env M with
    | er => rw [e] at h; cases h
    | ex _ _ => rw [e] at h; cases h
    | ok d M1 =>
      rw [e] at h
      simp only [Rs.bind] at h
      cases e2 : evs C xs env M1 with
      | er => rw [e2] at h; cases h
      | ex _ _ => rw [e2] at h; cases h
      | ok ds2 M2 =>
        rw [e2] at h
        simp only [Rs.bind] at h
        cases h
        rw [List.length_cons, List.length_cons, evs_len e2]
theorem evA_len {C : Ec} {es st vs : List X} {env : En} {M M' : List O} {p : List D × List D} (h : evA C es st vs env M = .ok p M') : p.2.length = vs.length := by
  unfold evA at h
  cases e1 : evs C es env M with
  | er => rw [e1] at h; cases h
  | ex _ _ => rw [e1] at h; cases h
  | ok ds M1 =>
    rw [e1] at h
    simp only [Rs.bind] at h
    cases e2 : evs C st env M1 with
    | er => rw [e2] at h; cases h
    | ex _ _ => rw [e2] at h; cases h
    | ok ss M2 =>
      rw [e2] at h
      simp only [Rs.bind] at h
      cases e3 : evs C vs env M2 with
      | er => rw [e3] at h; cases h
      | ex _ _ => rw [e3] at h; cases h
      | ok ws M3 =>
        rw [e3] at h
        simp only [Rs.bind] at h
        cases e4 : starOf ss with
        | none => rw [e4] at h; cases h
        | some more =>
          rw [e4] at h
          cases h
          exact evs_len e3
/-- behind an argument list -/
theorem tAr_bind {C : Ec} {es st vs : List X} {σ : L2.St} {H : Hp} {f : List D × List D → List O → Rs D} {Q : VK} {Q' : List V → List V → Hp → Prop} {ω : Wd} {M : List O} {env : En} (he : EnvRel G ω env σ) (hh : HRel G ω M H)
    (post : PostE G ω ((evA C es st vs env M).bind f) Q) (k : ∀ p M1 ω1 H1 us zs, EnvRel G ω1 env σ → HRel G ω1 M1 H1 → Rels G ω1 p.1 us → Rels G ω1 p.2 zs → p.2.length = vs.length → PostE G ω1 (f p M1) Q → Le ω ω1 → Q' us zs H1) : tAr G C es st vs σ H Q' := by
  refine ⟨ω, M, env, he, hh, ?_⟩
  cases e : evA C es st vs env M with
  | er => rw [e] at post; exact post
  | ex _ _ => rw [e] at post; exact post
  | ok p M1 =>
    rw [e] at post
    intro ω1 H1 q le hh1 r
    exact k p M1 ω1 H1 q.1 q.2 (he.mono le) hh1 r.1 r.2 (evA_len e) (Post.mono post le) le
theorem s_call (O : Ok G P ft k c Y) {f : Nat} {t : Ft} {x : Str} {es st : List X} {ks : List Tx} {vs : List X} {as : List Expr} {kws : List Keyword} {p pos : Pos} (ht : ft[f]? = some t) (hx : t.name = x) (hg : c.gl x = true) (hd : (x == ("__debug__" : Str)) = false) (hn : x ≠ Str.empty) (hl : ks.length = vs.length)
    (A : PAr Y as kws (ks.map sS) (tAr G (ecN P k) es st vs)) : Snd G (ecN P k) Y (.Call (.Name x p) as kws pos) (.call f es st ks vs) := by
  obtain ⟨h1, h2, h3⟩ := O.fns f t ht
  subst hx
  refine Snd.of (PE.imp (pe_g (E := G.E) h3 O.room8 (O.gl hg) (h1 hn) h2 O.pass A hd) fun σ H Q q => ?_) (fun _ => rfl) (fun _ _ _ z => nomatch z)
  obtain ⟨ω, M, env, he, hh, post⟩ := q
  rw [ev_call] at post
  exact tAr_bind he hh post fun q M1 ω1 H1 us zs he1 hh1 r1 r2 hz p1 le => ⟨ω1, M1, q.1, ks, q.2, hh1, r1, rfl, by rw [hz, hl], r2, p1⟩
/-! ### new instances -/
theorem ev_mk {C : Ec} {i : Nat} {cd : Cd} {fz : Bool} {es st : List X} {ks : List Tx} {vs : List X} {env : En} {M : List O} (hc : C.cls[i]? = some cd) : ev C (.mk i fz es st ks vs) env M = (evA C es st vs env M).bind fun p M3 => (C.call cd.init (.ref M3.length :: p.1) (ks.zip p.2) (M3 ++ [.ins i [] []])).bind fun r M4 => made fz M3.length r M4 := by
  rw [ev, hc]
  dsimp only
  unfold evA
  cases evs C es env M with
  | er => rfl
  | ex _ _ => rfl
  | ok ds M1 =>
    simp only [Rs.bind]
    cases evs C st env M1 with
    | er => rfl
    | ex _ _ => rfl
    | ok ss M2 =>
      simp only [Rs.bind]
      cases evs C vs env M2 with
      | er => rfl
      | ex _ _ => rfl
      | ok ws M3 =>
        simp only [Rs.bind]
        cases starOf ss <;> rfl
theorem ev_mk0 {C : Ec} {i : Nat} {fz : Bool} {es st : List X} {ks : List Tx} {vs : List X} {env : En} {M : List O} (hc : C.cls[i]? = none) : ev C (.mk i fz es st ks vs) env M = .er := by
  rw [ev, hc]
theorem made_ok {ω : Wd} {M : List O} {H : Hp} {fz : Bool} {a : Nat} {r : D} {x : Addr} {w : V} {Q : VK} (hh : HRel G ω M H) (ha : ω.ρ[a]? = some x) (rr : Rel G ω r w) (post : PostE G ω (made fz a r M) Q) : w = .non ∧ Q (.ref x) H := by
  unfold made at post
  split at post
  · rename_i em
    rw [Rel] at rr
    refine ⟨rr, ?_⟩
    obtain ⟨p', ho, f1, f2, f3, f4, f5⟩ := hh.obj a _ em (by intro z; cases z)
    rw [ha] at f1
    cases f1
    obtain ⟨hf, le⟩ := hh.freeze em (by intro z; cases z) ha f2
    obtain ⟨dx, vs, g1, g2, g3, g4⟩ := f3
    refine Post.here (Post.mono post le) hf ?_
    rw [Rel]
    subst g1
    refine ⟨x, dx, vs, rfl, ?_, ?_, g3, Rels.mono le _ _ g4⟩
    · show upd _ _ _ _ = _
      exact upd_same
    · exact le.imm _ _ g2
  · rw [Rel] at rr
    refine ⟨rr, Post.here post hh ?_⟩
    rw [Rel]
    exact ⟨x, ha, rfl⟩
  · exact False.elim post
theorem new_ok {ω : Wd} {M : List O} {H : Hp} {x dx : Addr} {i : Nat} (hh : HRel G ω M H) (n1 : H x = none) (n2 : H dx = none) (ne : dx ≠ x) : ∃ ω', Le ω ω' ∧ HRel G ω' (M ++ [.ins i [] []]) (upd (upd H dx (.own x)) x (.ins (G.CC i) dx [])) ∧ ω'.ρ[M.length]? = some x := by
  obtain ⟨h1, l1⟩ := hh.addI (o := .own x) n2
  have n3 : upd H dx (.own x) x = none := by rw [upd_ne (Ne.symm ne)]; exact n1
  obtain ⟨h2, l2⟩ := h1.pushM (o := .ins i [] []) (ho := .ins (G.CC i) dx []) n3 ⟨dx, [], rfl, by show upd _ _ _ _ = _; exact upd_same, rfl, Rels.nil⟩
  refine ⟨_, l1.trans l2, h2, ?_⟩
  show (_ ++ [x])[M.length]? = some x
  rw [← h1.len]
  simp [Wd.add]
theorem s_mk (O : Ok G P ft k c Y) {i : Nat} {fz : Bool} {x : Str} {es st : List X} {ks : List Tx} {vs : List X} {as : List Expr} {kws : List Keyword} {p pos : Pos} (hc : c.cn[i]? = some x) (hg : c.gl x = true) (hd : (x == ("__debug__" : Str)) = false) (hl : ks.length = vs.length)
    (A : PAr Y as kws (ks.map sS) (tAr G (ecN P k) es st vs)) : Snd G (ecN P k) Y (.Call (.Name x p) as kws pos) (.mk i fz es st ks vs) := by
  cases hcl : P.cls[i]? with
  | none =>
    refine Snd.of ⟨fun pins s σ H Q I q => ?_⟩ (fun _ => rfl) (fun _ _ _ z => nomatch z)
    obtain ⟨ω, M, env, he, hh, post⟩ := q
    rw [ev_mk0 (C := ecN P k) hcl] at post
    exact False.elim post
  | some cd =>
  have cf := O.clf i cd hcl
  obtain ⟨t, ht⟩ : ∃ t, ft[cd.init]? = some t := ⟨_, List.getElem?_eq_getElem cf.ini⟩
  obtain ⟨h1, h2, h3⟩ := O.fns _ t ht
  obtain ⟨m1, m2⟩ := O.cls i x hc
  have F := cf.mkr t ht
  rw [← O.hK] at F
  refine Snd.of (PE.imp (pe_mkG (E := G.E) F h3 O.room (O.gl hg) m1 O.pass A hd) fun σ H Q q => ?_) (fun _ => rfl) (fun _ _ _ z => nomatch z)
  obtain ⟨ω, M, env, he, hh, post⟩ := q
  rw [ev_mk (C := ecN P k) hcl] at post
  refine tAr_bind he hh post fun q M1 ω1 H1 us zs he1 hh1 r1 r2 hz p1 le x dx n1 n2 ne => ?_
  obtain ⟨ω2, le2, hh2, ex⟩ := new_ok (i := i) hh1 n1 n2 ne
  refine ⟨ω2, M1 ++ [.ins i [] []], .ref M1.length :: q.1, ks, q.2, hh2, Rels.cons (by rw [Rel]; exact ⟨x, ex, rfl⟩) (Rels.mono le2 _ _ r1), rfl, by rw [hz, hl], Rels.mono le2 _ _ r2, ?_⟩
  exact Post.bind (Post.mono p1 le2) fun d M4 ω4 H4 v le4 hh4 rv p4 => made_ok hh4 (le4.at ex) rv p4
/-! ### methods -/
theorem few_ok {as : List Expr} {kws : List Keyword} {kn : List Str} {ke : List Expr} {es : List X} (A : PEs G (ecN P k) Y as es) (hk : kwParts kws = some (kn, ke)) (hf : as.length + kws.length < 25) (pos : Pos) : methodCallForm (as.length + kws.length) (backTo pos (starEach as Y.env)) (backToKw pos (keywordEach kws Y.env)) = true := by
  have h1 : (backTo pos (starEach as Y.env)).all (fun x => !x.1) = true := by
    clear hf
    induction A with
    | nil => rfl
    | cons h ns r ih =>
      rw [ns]
      unfold backTo at ih ⊢
      rw [List.map_cons, List.all_cons, ih]
      rfl
  unfold methodCallForm
  rw [h1, (kw_names pos Y.env hk).2.1]
  simp only [Bool.true_and, decide_eq_true_eq]
  split <;> omega
theorem PEs.len {as : List Expr} {es : List X} (A : PEs G (ecN P k) Y as es) : as.length = es.length := by
  induction A with
  | nil => rfl
  | cons h ns r ih => rw [List.length_cons, List.length_cons, ih]
theorem ev_meth {C : Ec} {a : X} {m : Tx} {f : Nat} {es : List X} {ks : List Tx} {vs : List X} {env : En} {M : List O} : ev C (.meth a m f es [] ks vs) env M = (ev C a env M).bind fun x M1 => if canM C M1 x m f = true then (evA C es [] vs env M1).bind fun p M3 => C.call f (x :: p.1) (ks.zip p.2) M3 else .er := by
  rw [ev]
  congr 1
  funext x M1
  by_cases h : canM C M1 x m f = true
  · rw [if_pos h, if_pos h]
    unfold evA
    cases evs C es env M1 with
    | er => rfl
    | ex _ _ => rfl
    | ok ds M2 =>
      simp only [Rs.bind]
      cases evs C [] env M2 with
      | er => rfl
      | ex _ _ => rfl
      | ok ss M3 =>
        simp only [Rs.bind]
        cases evs C vs env M3 with
        | er => rfl
        | ex _ _ => rfl
        | ok ws M4 =>
          simp only [Rs.bind]
          cases starOf ss <;> rfl
  · rw [if_neg h, if_neg h]
theorem canM_ok (O : Ok G P ft k c Y) {ω : Wd} {M : List Ev.O} {H : Hp} {d : D} {v : V} {m : Tx} {f : Nat} {t : Ft} (ht : ft[f]? = some t) (h : HRel G ω M H) (r : Rel G ω d v) (e : canM (ecN P k) M d m f = true) :
    ∃ p C dx fs, v = .ref p ∧ H p = some (.ins C dx fs) ∧ Cls Y.K C ∧ Meth Y.K C (sS m) t.adr ∧ fs.lookup (sS m) = none := by
  unfold canM at e
  split at e
  · rename_i i ks ds ei
    split at e
    · rename_i cd ec
      rw [Bool.and_eq_true] at e
      obtain ⟨p, dx, vs, e1, e2, e3, e4⟩ := insOf_ok h r ei
      have cf := O.clf i cd ec
      exact ⟨p, _, dx, _, e1, e2, by rw [O.hK]; exact cf.cls, by rw [O.hK]; exact cf.mth m f t (hasM_mem e.1) ht, zipF_none (by simpa using e.2)⟩
    · cases e
  · cases e
theorem s_meth (O : Ok G P ft k c Y) {a : X} {m : Tx} {f : Nat} {es : List X} {ks : List Tx} {vs : List X} {ea : Expr} {as : List Expr} {kws : List Keyword} {ke : List Expr} {ap pos : Pos} (A : Snd G (ecN P k) Y ea a) (hs : notSup ea = true) (hln : (ap.endLine == pos.line) = true) (hf : as.length + kws.length < 25) (hff : f < c.fn.length)
    (E : PEs G (ecN P k) Y as es) (hk : kwParts kws = some (ks.map sS, ke)) (K : PEs G (ecN P k) Y ke vs) (hl : ks.length = vs.length) : Snd G (ecN P k) Y (.Call (.Attribute ea (sS m) ap) as kws pos) (.meth a m f es [] ks vs) := by
  obtain ⟨t, ht⟩ := O.fts hff
  obtain ⟨h1, h2, h3⟩ := O.fns f t ht
  have form : eval (.Call (.Attribute ea (sS m) ap) as kws pos) Y.env = (do
      let ov ← eval ea Y.env
      standAt ap.atName
      let (f, first) ← holding [ov] (getMethod ov (sS m) (plainOf ea Y.env))
      callWith pos f first (backTo pos (starEach as Y.env)) (backToKw pos (keywordEach kws Y.env))) := by
    rw [arm_eval_Call, notSup_ok hs]
    congr 1
    funext ov
    congr 1
    funext u
    exact mcall_line (few_ok E hk hf pos) hln
  refine Snd.of (PE.imp (pe_mtG (E := G.E) A.pe h3 O.room8 O.pass (par_plain O E hk K) form) fun σ H Q q => ?_) (fun _ => rfl) (fun _ _ _ z => nomatch z)
  obtain ⟨ω, M, env, he, hh, post⟩ := q
  rw [ev_meth] at post
  refine tE_bind he hh post fun d M1 ω1 H1 v he1 hh1 r p le => ?_
  split at p
  · rename_i hc
    obtain ⟨b, C, dx, fs, e1, e2, e3, e4, e5⟩ := canM_ok O ht hh1 r hc
    refine ⟨b, C, dx, fs, e1, e2, e3, e4, e5, ?_⟩
    refine tAr_bind he1 hh1 p fun q M2 ω2 H2 us zs he2 hh2 r1 r2 hz p2 le2 => ?_
    exact ⟨ω2, M2, d :: q.1, ks, q.2, hh2, Rels.cons (Rel.mono le2 _ _ r) r1, rfl, by rw [hz, hl], r2, p2⟩
  · exact False.elim p
/-! ### what an own class does by its special methods -/
theorem canS_ok (O : Ok G P ft k c Y) {ω : Wd} {M : List Ev.O} {H : Hp} {d : D} {v : V} {m : Tx} {f : Nat} {t : Ft} (ht : ft[f]? = some t) (h : HRel G ω M H) (r : Rel G ω d v) (e : canS (ecN P k) M d m f = true) :
    ∃ p i dx fs, v = .ref p ∧ H p = some (.ins (G.CC i) dx fs) ∧ Cls Y.K (G.CC i) ∧ Meth Y.K (G.CC i) (sS m) t.adr := by
  unfold canS at e
  split at e
  · rename_i i ks ds ei
    split at e
    · rename_i cd ec
      obtain ⟨p, dx, vs, e1, e2, e3, e4⟩ := insOf_ok h r ei
      have cf := O.clf i cd ec
      exact ⟨p, i, dx, _, e1, e2, by rw [O.hK]; exact cf.cls, by rw [O.hK]; exact cf.mth m f t (hasM_mem e) ht⟩
    · cases e
  · cases e
theorem canS_ok2 (O : Ok G P ft k c Y) {ω : Wd} {M : List Ev.O} {H : Hp} {d : D} {v : V} {m : Tx} {f : Nat} {t : Ft} (ht : ft[f]? = some t) (h : HRel G ω M H) (r : Rel G ω d v) (e : canS (ecN P k) M d m f = true) :
    ∃ p i dx fs, v = .ref p ∧ H p = some (.ins (G.CC i) dx fs) ∧ Cls Y.K (G.CC i) ∧ Meth Y.K (G.CC i) (sS m) t.adr ∧ ∃ cd, P.cls[i]? = some cd := by
  unfold canS at e
  split at e
  · rename_i i ks ds ei
    split at e
    · rename_i cd ec
      obtain ⟨p, dx, vs, e1, e2, e3, e4⟩ := insOf_ok h r ei
      have cf := O.clf i cd ec
      exact ⟨p, i, dx, _, e1, e2, by rw [O.hK]; exact cf.cls, by rw [O.hK]; exact cf.mth m f t (hasM_mem e) ht, cd, ec⟩
    · cases e
  · cases e
/-! ### fields, properties, constants of classes -/
theorem s_fld (O : Ok G P ft k c Y) {a : X} {f : Tx} {ea : Expr} {pos : Pos} (A : Snd G (ecN P k) Y ea a) (hs : notSup ea = true) : Snd G (ecN P k) Y (.Attribute ea (sS f) pos) (.fld a f) := by
  refine Snd.of (PE.imp (pe_fld A.pe (notSup_ok hs)) fun σ H Q q => ?_) (fun _ => rfl) (fun _ _ _ z => nomatch z)
  obtain ⟨ω, M, env, he, hh, post⟩ := q
  rw [ev] at post
  refine tE_bind he hh post fun d M1 ω1 H1 v he1 hh1 r p le => ?_
  split at p
  · rename_i d' e
    unfold getF at e
    split at e
    · rename_i i ks ds ei
      split at e
      · rename_i cd ec
        split at e
        · rename_i hf
          obtain ⟨b, dx, vs, e1, e2, e3, e4⟩ := insOf_ok hh1 r ei
          obtain ⟨w, g1, g2⟩ := zipF_at e4 e
          have cf := O.clf i cd ec
          exact ⟨b, _, dx, _, w, e1, e2, by rw [O.hK]; exact cf.cls, by rw [O.hK]; exact cf.fld f (hasT_mem hf), g1, Post.here p hh1 g2⟩
        · cases e
      · cases e
    · cases e
  · exact False.elim p
theorem s_prp (O : Ok G P ft k c Y) {a : X} {f : Tx} {g : Nat} {ea : Expr} {pos : Pos} (A : Snd G (ecN P k) Y ea a) (hs : notSup ea = true) (hff : g < c.fn.length) : Snd G (ecN P k) Y (.Attribute ea (sS f) pos) (.prp a f g) := by
  obtain ⟨t, ht⟩ := O.fts hff
  obtain ⟨h1, h2, h3⟩ := O.fns g t ht
  refine Snd.of (PE.imp (pe_prG (E := fun _ _ _ => False) A.pe h3 O.room passF (notSup_ok hs)) fun σ H Q q => ?_) (fun _ => rfl) (fun _ _ _ z => nomatch z)
  obtain ⟨ω, M, env, he, hh, post⟩ := q
  rw [ev] at post
  refine tE_bind he hh post fun d M1 ω1 H1 v he1 hh1 r p le => ?_
  split at p
  · rename_i e
    unfold canP at e
    split at e
    · rename_i i ks ds ei
      split at e
      · rename_i cd ec
        obtain ⟨b, dx, vs, e1, e2, e3, e4⟩ := insOf_ok hh1 r ei
        have cf := O.clf i cd ec
        obtain ⟨pp, hp⟩ := cf.prp f g t (hasM_mem e) ht
        refine ⟨b, _, dx, _, pp, e1, e2, by rw [O.hK]; exact cf.cls, by rw [O.hK]; exact hp, ?_⟩
        exact ⟨ω1, M1, [d], [], [], hh1, Rels.one (by rw [← e1]; exact r), rfl, rfl, Rels.nil, Post.quiet p⟩
      · cases e
    · cases e
  · exact False.elim p
theorem s_ccst (O : Ok G P ft k c Y) {i : Nat} {f : Tx} {x : Str} {p pos : Pos} (hc : c.cn[i]? = some x) (hg : c.gl x = true) (hd : (x == ("__debug__" : Str)) = false) : Snd G (ecN P k) Y (.Attribute (.Name x p) (sS f) pos) (.ccst i f) := by
  obtain ⟨m1, m2⟩ := O.cls i x hc
  refine Snd.of (PE.imp (ClX.pe_cval (pe_glob (v := .ref (G.CC i)) (O.gl hg) m1 rfl hd) rfl) fun σ H Q q => ?_) (fun _ => rfl) (fun _ _ _ z => nomatch z)
  obtain ⟨ω, M, env, he, hh, post⟩ := q
  rw [ev] at post
  split at post
  · rename_i cd ec
    split at post
    · rename_i d e
      obtain ⟨mc, v, u, g1, g2, g3⟩ := (O.clf i cd ec).cst f d (look_mem e)
      exact ⟨_, mc, v, u, rfl, by rw [O.hK]; exact g1, by rw [O.hK]; exact g2, Post.here post hh (g3 ω)⟩
    · exact False.elim post
  · exact False.elim post
theorem s_glo (O : Ok G P ft k c Y) {i : Nat} {x : Str} {pos : Pos} (hc : c.gn[i]? = some x) (hg : c.gl x = true) (hd : (x == ("__debug__" : Str)) = false) : Snd G (ecN P k) Y (.Name x pos) (.glo i) := by
  obtain ⟨d, h1, gk⟩ := O.glo i x hc
  rcases gk with ⟨nd, v, u, h2, h3, h4⟩ | ⟨ks, ds, a, e, h2, _⟩
  · refine Snd.of (PE.imp (pe_glob (O.gl hg) h2 h3 hd) fun σ H Q q => ?_) (fun _ => rfl) (fun _ _ _ z => nomatch z)
    obtain ⟨ω, M, env, he, hh, post⟩ := q
    rw [ev, show (ecN P k).glo[i]? = some d from h1] at post
    cases d with
    | dct ks ds => exact absurd rfl (nd ks ds)
    | _ => exact Post.here post hh (h4 ω)
  · subst e
    refine Snd.of (PE.imp (pe_glob (O.gl hg) h2 (v := .ref a) rfl hd) fun σ H Q q => ?_) (fun _ => rfl) (fun _ _ _ z => nomatch z)
    obtain ⟨ω, M, env, he, hh, post⟩ := q
    rw [ev, show (ecN P k).glo[i]? = some (.dct ks ds) from h1] at post
    exact False.elim post
theorem s_gky (O : Ok G P ft k c Y) {i : Nat} {x : Str} {p pos : Pos} {ky : X} {ek : Expr} (hc : c.gn[i]? = some x) (hg : c.gl x = true) (hd : (x == ("__debug__" : Str)) = false) (B : Snd G (ecN P k) Y ek ky) (hp : PlainIx ek) : Snd G (ecN P k) Y (.Subscript (.Name x p) ek pos) (.gky i ky) := by
  obtain ⟨d, h1, gk⟩ := O.glo i x hc
  rcases gk with ⟨nd, v, u, h2, h3, h4⟩ | ⟨ks, ds, a, e, h2, h5⟩
  · refine Snd.of (PE.imp (pe_ix ix_kdict (pe_glob (O.gl hg) h2 h3 hd) B.pe hp) fun σ H Q q => ?_) (fun _ => rfl) (fun _ _ _ z => nomatch z)
    obtain ⟨ω, M, env, he, hh, post⟩ := q
    rw [ev] at post
    refine tE_bind he hh post fun y M1 ω1 H1 w he1 hh1 r pp le => ?_
    rw [show (ecN P k).glo[i]? = some d from h1] at pp
    cases d with
    | dct ks ds => exact absurd rfl (nd ks ds)
    | _ => exact False.elim pp
  · subst e
    refine Snd.of (PE.imp (pe_ix ix_kdict (pe_glob (O.gl hg) h2 (v := .ref a) rfl hd) B.pe hp) fun σ H Q q => ?_) (fun _ => rfl) (fun _ _ _ z => nomatch z)
    obtain ⟨ω, M, env, he, hh, post⟩ := q
    rw [ev] at post
    refine tE_bind he hh post fun y M1 ω1 H1 w he1 hh1 r pp le => ?_
    rw [show (ecN P k).glo[i]? = some (.dct ks ds) from h1] at pp
    cases y with
    | str z =>
      rw [Rel] at r
      subst r
      dsimp only at pp
      split at pp
      · rename_i e ee
        obtain ⟨v, g1, g2⟩ := h5 z e ee
        exact ⟨a, _, v, rfl, rfl, by rw [O.hK]; exact g1, Post.here pp hh1 (g2 ω1)⟩
      · exact False.elim pp
    | _ => exact False.elim pp
end
end Ev


set_option autoImplicit false
set_option Elab.async false
set_option linter.all false
set_option maxRecDepth 100000
set_option maxHeartbeats 4000000
/-! EvI: isinstance. -/
namespace Ev
open PySem PySem.Spec PyProof.Rows L2
def tyName : D → Option String
  | .non => some "NoneType" | .bl _ => some "bool" | .int _ => some "int" | .str _ => some "str" | .tup _ => some "tuple" | .lst _ => some "list" | _ => none
section
variable {G : Gs} {P : Pg} {ft : List Ft} {k : Nat} {c : Ck} {Y : L2.Cx}
theorem ty_ok {ω : Wd} {M : List O} {H : Hp} {d : D} {v : V} {t : String} (h : HRel G ω M H) (r : Rel G ω d v) (e : tyName (seen M d) = some t) : TyX G.K H v (.type t) := by
  cases d with
  | non => rw [Rel] at r; subst r; cases e; exact .base .non
  | bl b => rw [Rel] at r; subst r; cases e; exact .base (.bl b)
  | int i => rw [Rel] at r; subst r; cases e; exact .base (.int i)
  | str s => rw [Rel] at r; subst r; cases e; exact .base (.str _)
  | tup ds =>
    rw [Rel] at r
    obtain ⟨p, vs, e1, e2, q⟩ := r
    subst e1
    cases e
    rcases sqT_mono e2 h.imm with (z | ⟨o, z⟩) | ⟨o, its, n, z1, z2, _⟩
    · exact .base (.tup z)
    · exact .fTuple z
    · exact .kTuple z1 z2
  | lst ds =>
    rw [Rel] at r
    obtain ⟨p, vs, e1, e2, q⟩ := r
    subst e1
    cases e
    exact .base (.lst (h.imm _ _ e2))
  | obj _ _ _ => cases e
  | exc _ _ _ => cases e
  | fro _ => cases e
  | dct _ _ => cases e
  | lams _ => cases e
  | ref a =>
    have e3 : ∃ ds, M[a]? = some (.lst ds) ∧ t = "list" := by
      unfold seen at e
      dsimp only at e
      split at e
      · rename_i ds z
        cases e
        exact ⟨ds, z, rfl⟩
      · cases e
    obtain ⟨ds, e4, e5⟩ := e3
    subst e5
    have e6 : listOf M (.ref a) = some ds := by
      unfold listOf seen
      dsimp only
      rw [e4]
    obtain ⟨p, vs, f1, f2, _⟩ := listOf_ok h r e6
    subst f1
    exact .base (.lst f2)
theorem isA_kit {C : Ec} {d : D} {q : Cl} {b : Bool} {n : String} (hn : clName q = some n) (h : isA C d q = some b) : ∃ t, tyName d = some t ∧ kitB t n = some b := by
  cases q with
  | own _ => cases hn
  | ext _ => cases hn
  | int =>
    cases hn
    cases d with
    | _ => first | (cases h; exact ⟨_, rfl, by decide +kernel⟩) | cases h
  | bool =>
    cases hn
    cases d with
    | _ => first | (cases h; exact ⟨_, rfl, by decide +kernel⟩) | cases h
  | str =>
    cases hn
    cases d with
    | _ => first | (cases h; exact ⟨_, rfl, by decide +kernel⟩) | cases h
  | list =>
    cases hn
    cases d with
    | _ => first | (cases h; exact ⟨_, rfl, by decide +kernel⟩) | cases h
  | tuple =>
    cases hn
    cases d with
    | _ => first | (cases h; exact ⟨_, rfl, by decide +kernel⟩) | cases h
theorem boot_cl {q : Cl} {n : String} (h : clName q = some n) : bootBuiltins (Str.ofString n) = some (.type n) ∧ (Str.ofString n) ∈ frees ∧ (Str.ofString n) ≠ "__name__" ∧ ((Str.ofString n) == ("__debug__" : Str)) = false := by
  cases q with
  | own _ => cases h
  | ext _ => cases h
  | int => cases h; exact ⟨by decide +kernel, by decide +kernel, by decide +kernel, by decide +kernel⟩
  | bool => cases h; exact ⟨by decide +kernel, by decide +kernel, by decide +kernel, by decide +kernel⟩
  | str => cases h; exact ⟨by decide +kernel, by decide +kernel, by decide +kernel, by decide +kernel⟩
  | list => cases h; exact ⟨by decide +kernel, by decide +kernel, by decide +kernel, by decide +kernel⟩
  | tuple => cases h; exact ⟨by decide +kernel, by decide +kernel, by decide +kernel, by decide +kernel⟩
theorem cl_pe (O : Ok G P ft k c Y) {q : Cl} {e : Expr} (h : okCl c q e = true) : ∃ n, clName q = some n ∧ PE Y e (tC (.ty n)) ∧ ∀ es env, starEach (e :: es) env = (false, eval e env) :: starEach es env := by
  unfold okCl at h
  split at h
  · split at h
    · rename_i x p n hn
      rw [Bool.and_eq_true] at h
      have e := of_decide_eq_true h.1
      subst e
      obtain ⟨b1, b2, b3, b4⟩ := boot_cl hn
      exact ⟨n, hn, pe_bltn (O.gl h.2) (O.free _ b2) b1 rfl b3 b4, fun _ _ => rfl⟩
    · cases h
  · cases h
theorem s_isi (O : Ok G P ft k c Y) {a : X} {q : Cl} {ea ek : Expr} {p pos : Pos} (hg : c.gl "isinstance" = true) (A : Snd G (ecN P k) Y ea a) (hs : ∀ es env, starEach (ea :: es) env = (false, eval ea env) :: starEach es env) (hk : okCl c q ek = true) : Snd G (ecN P k) Y (.Call (.Name "isinstance" p) [ea, ek] [] pos) (.isi a q) := by
  obtain ⟨n, hn, pk, sk⟩ := cl_pe O hk
  refine Snd.of (PE.imp (pe_callB call_isi (O.gl hg) (O.free _ (by decide +kernel)) PyProof.Rows.boot_isinstance (pa_cons A.pe (pa_cons pk pa_nil (sk _ _)) (hs _ _)) (he := hs _ _) (hpl := by rw [sk]; rfl)) fun σ H Q q' => ?_) (fun _ => rfl) (fun _ _ _ z => nomatch z)
  obtain ⟨ω, M, env, he, hh, post⟩ := q'
  rw [ev] at post
  refine tE_bind he hh post fun d M1 ω1 H1 v he1 hh1 r p le => ?_
  split at p
  · rename_i b e
    obtain ⟨t, e1, e2⟩ := isA_kit hn e
    exact ⟨v, .ty n, .type t, .type n, b, rfl, .ty n, by rw [O.hK]; exact ty_ok hh1 r e1, kit_ty e2, post_bl p hh1⟩
  · exact False.elim p
/-- the classes of a written tuple -/
theorem cls_pa (O : Ok G P ft k c Y) : ∀ {qs : List Cl} {es : List Expr}, okCls c qs es = true → ∃ ns : List String, qs.map clName = ns.map some ∧ PA Y es (fun σ H Q => Q (ns.map V.ty) H)
  | [], [], _ => ⟨[], rfl, pa_nil⟩
  | [], _ :: _, h => by cases h
  | _ :: _, [], h => by cases h
  | q :: qs, e :: es, h => by
    rw [okCls, Bool.and_eq_true] at h
    obtain ⟨n, hn, pk, sk⟩ := cl_pe O h.1
    obtain ⟨ns, h1, h2⟩ := cls_pa O h.2
    refine ⟨n :: ns, by rw [List.map_cons, hn, h1]; rfl, PA.imp (pa_cons pk h2 (sk _ _)) fun σ H Q z => z⟩
theorem isAny_kit {C : Ec} {K : PySem.W.Frag} {d : D} {t : String} (ht : tyName d = some t) : ∀ {qs : List Cl} {ns : List String} {b : Bool}, qs.map clName = ns.map some → isAny C d qs = some b → PySem.W.kitAny K (.type t) (ns.map Value.type) = some b
  | [], [], b, _, h => by
    rw [isAny] at h
    cases h
    exact kitAny_nil
  | [], _ :: _, b, h, _ => by cases h
  | _ :: _, [], b, h, _ => by cases h
  | q :: qs, n :: ns, b, h, hb => by
    rw [List.map_cons, List.map_cons] at h
    injection h with h1 h2
    rw [isAny] at hb
    split at hb
    · rename_i p r e1 e2
      obtain ⟨t', f1, f2⟩ := isA_kit h1 e1
      rw [ht] at f1
      cases f1
      have ih := isAny_kit (K := K) ht h2 e2
      have hb' : (p || r) = b := Option.some.inj hb
      refine kitAny_cons (kit_ty f2) (fun z => ?_) (fun z => ?_)
      · subst z
        rw [Bool.false_or] at hb'
        rw [← hb']
        exact ih
      · subst z
        rw [Bool.true_or] at hb'
        exact hb'.symm
    · cases hb
theorem any_ty {C : Ec} {d : D} {q : Cl} {qs : List Cl} {b : Bool} {n : String} (hn : clName q = some n) (h : isAny C d (q :: qs) = some b) : ∃ t, tyName d = some t := by
  rw [isAny] at h
  split at h
  · rename_i e1 _
    obtain ⟨t, e, _⟩ := isA_kit hn e1
    exact ⟨t, e⟩
  · cases h
theorem cls_paired : ∀ ns : List String, Paired ClsV (ns.map V.ty) (ns.map Value.type)
  | [] => .nil
  | n :: ns => .cons (.ty n) (cls_paired ns)
theorem s_isis (O : Ok G P ft k c Y) {a : X} {q : Cl} {qs : List Cl} {ea : Expr} {eks : List Expr} {m : Nat} {p p2 pos : Pos} (hg : c.gl "isinstance" = true) (A : Snd G (ecN P k) Y ea a) (hs : ∀ es env, starEach (ea :: es) env = (false, eval ea env) :: starEach es env) (hk : okCls c (q :: qs) eks = true) (hln : decide ((q :: qs).length ≤ 1000) = true) :
    Snd G (ecN P k) Y (.Call (.Name "isinstance" p) [ea, .Tuple eks m p2] [] pos) (.isis a (q :: qs)) := by
  obtain ⟨ns, hn, pk⟩ := cls_pa O hk
  refine Snd.of (PE.imp (pe_callB call_isiT (O.gl hg) (O.free _ (by decide +kernel)) PyProof.Rows.boot_isinstance (pa_cons A.pe (pa_cons (pe_tup pk) pa_nil) (hs _ _)) (he := hs _ _)) fun σ H Q q' => ?_) (fun _ => rfl) (fun _ _ _ z => nomatch z)
  obtain ⟨ω, M, env, he, hh, post⟩ := q'
  rw [ev] at post
  refine tE_bind he hh post fun d M1 ω1 H1 v he1 hh1 r p le => ?_
  split at p
  · rename_i b e
    have hq : ∃ n, clName q = some n := by
      cases ns with
      | nil => cases hn
      | cons n ns => rw [List.map_cons, List.map_cons] at hn; injection hn with h1 _; exact ⟨n, h1⟩
    obtain ⟨n, hq⟩ := hq
    obtain ⟨t, e1⟩ := any_ty hq e
    have hlen : ns.length = (q :: qs).length := by
      have := congrArg List.length hn
      simpa using this.symm
    refine ⟨?_, fun tp hp => ?_⟩
    · rw [List.length_map, hlen]
      exact Nat.le_trans (of_decide_eq_true hln) (by rw [sizeLine_eq]; decide)
    · have h2 := (hh1.addI (o := .tup (ns.map V.ty)) hp)
      refine ⟨v, tp, ns.map V.ty, .type t, ns.map Value.type, b, rfl, upd_same, cls_paired ns, ?_, isAny_kit e1 hn e, ?_⟩
      · rw [O.hK]
        exact ty_ok h2.1 (Rel.mono h2.2 _ _ r) e1
      · exact post_bl (Post.mono p h2.2) h2.1
  · exact False.elim p
end
end Ev


set_option autoImplicit false
set_option Elab.async false
set_option linter.all false
set_option maxRecDepth 100000
set_option maxHeartbeats 4000000
/-! EvNe: != of an own class by its __eq__. -/
namespace EvCall
open PySem PySem.Spec PySem.W PySem.Calls PyProof.Rows L2 Builtin
section
variable {M : Model} {A : Around} {E : Value → Shared → Prop} {K : PySem.W.Frag} {s : Shared} {x C f : Addr} {ox : Obj} {od : Option Obj} {name : Str}
theorem callSpB_Kb {id : String} {args : List Value} {Q : Option Value → Shared → Prop} (X : K.In s.heap) (J : PySem.W.InstAt s.heap x ox C od) (hs : findIn K (.ref C) name = some (some (.builtin id)))
    (hb : ∀ self, bindSpecial (.builtin id) self = pure (.builtin id, [self])) (hcall : wpAny M A (call (.builtin id) (.ref x :: args)) (fun v => Q (some v)) E s) : wpAny M A (callSpecialIfBound? (.ref x) name args) Q E s := by
  simp only [callSpecialIfBound?, bindSpecialIfBound?]
  refine wpAny_holding (wpAny_bind (wpAny_bind ((J.type.andThen (looks_findIn X hs)).here ?_)))
  refine wpAny_bind (wpAny_askSetting (wpAny_ite ?_))
  have fin : wpAny M A (call (.builtin id) ([.ref x] ++ args) >>= fun v => pure (some v)) Q E s :=
    wpAny_bind (wpAny_mono hcall (fun v s' h' => wpAny_pure h') fun _ _ h' => h')
  split
  · exact wpAny_bind ((Looks.of_pure (hb _)).here (wpAny_pure (by exact fin)))
  · exact wpAny_tryCatch (wpAny_bind ((Looks.of_pure (hb _)).here (wpAny_pure (by exact fin))))
end
section
variable {prog : Program} {w : World} {A : Around} {E : Value → Shared → Prop} {K : PySem.W.Frag} {s : Shared} {x C f : Addr} {ox : Obj} {od : Option Obj}
theorem objNe_K {Q : Value → Shared → Prop} {y : Value} (X : K.In s.heap) (J : PySem.W.InstAt s.heap x ox C od) (hm : mroIn K C (.type "object") = some true) (hf : findIn K (.ref C) "__eq__" = some (some (.ref f))) (hfn : isFn K (.ref f) = true) (hu : A.in1.units < cLine)
    (hcall : wpAny (model prog w) A.in1 (call (.ref f) [.ref x, y]) (fun v s' => ∃ b, v = .bool b ∧ Q (.bool (!b)) s') E s) : wpAny (model prog w) A (call (.builtin "object.__ne__") [.ref x, y]) Q E s := by
  refine wpAny_call (codeAny_call_builtin PySem.F.cmp_object.ne.plain PySem.F.cmpEntry_ne (check_slot (i := "object.__ne__") (owner := "object") (n := "__ne__") PySem.F.cmpKind_ne PySem.F.cmpSplit_ne (J.type.andThen (looks_mroIn X hm)) (PySem.F.cmpArgs_ne _ _) ?_))
  unfold Builtin.«object.__ne__»
  refine wpAny_bind (m := slotArgs "__ne__" 1 _) (wpAny_pure ?_)
  refine wpAny_bind (m := cRoomFor _ _) (wpAny_cRoomFor hu ?_)
  refine wpAny_bind (m := callSpecialIfBound? (.ref x) (Str.ofString "__eq__") _) (callSpB_K X J hf hfn (wpAny_mono hcall (fun r s' hr => ?_) fun _ _ y => y))
  obtain ⟨b, rfl, hq⟩ := hr
  dsimp only
  refine wpAny_bind (wpAny_truthy_bool ?_)
  exact wpAny_pure hq
/-- x != y by x's own __eq__; y's class is x's, or no class below it -/
theorem ne_K {Q : Value → Shared → Prop} {y tb : Value} (X : K.In s.heap) (J : PySem.W.InstAt s.heap x ox C od) (hn : findIn K (.ref C) "__ne__" = some (some (.builtin "object.__ne__"))) (hm : mroIn K C (.type "object") = some true) (hf : findIn K (.ref C) "__eq__" = some (some (.ref f))) (hfn : isFn K (.ref f) = true) (hu : A.in1.units < cLine)
    (hy : Looks (model prog w) s.heap (typeOf y) tb) (ht : tb = .ref C ∨ subIn K tb (.ref C) = some false)
    (hcall : wpAny (model prog w) A.in1 (call (.ref f) [.ref x, y]) (fun v s' => ∃ b, v = .bool b ∧ Q (.bool (!b)) s') E s) : wpAny (model prog w) A (compareOp .NotEq (.ref x) y) Q E s := by
  have hu0 : A.units < cLine := Nat.lt_of_le_of_lt (Nat.le_succ _) (show A.units + 1 < cLine from hu)
  unfold compareOp
  show wpAny _ _ (richCompare .NotEq (.ref x) y) _ _ _
  unfold richCompare
  refine wpAny_holding ?_
  refine wpAny_bind (wpAny_cRoomFor hu0 ?_)
  have e0 : oneThing? .NotEq (.ref x) y = none := by cases y <;> rfl
  rw [e0]
  dsimp only [cmpInfo]
  refine wpAny_bind (J.type.here ?_)
  refine wpAny_bind (hy.here ?_)
  have go : wpAny (model prog w) A (tryCompare (.ref x) (Str.ofString "__ne__") y) (fun r s' => ∃ v, r = some v ∧ Q v s') E s := by
    unfold tryCompare
    refine wpAny_bind (callSpB_Kb X J hn PySem.F.cmp_object.ne.bind (objNe_K X J hm hf hfn hu (wpAny_mono hcall (fun v s' hv => ?_) fun _ _ e => e)))
    obtain ⟨b, rfl, hq⟩ := hv
    exact ⟨b, rfl, wpAny_pure ⟨_, rfl, hq⟩⟩
  have fin : ∀ k : Option Value → Sem Value, (∀ v, k (some v) = pure v) → wpAny (model prog w) A (tryCompare (.ref x) (Str.ofString "__ne__") y >>= k) Q E s := fun k hk =>
    wpAny_bind (wpAny_mono go (fun r s' hr => by
      obtain ⟨v, rfl, hq⟩ := hr
      rw [hk]
      exact wpAny_pure hq) fun _ _ e => e)
  by_cases c : tb = .ref C
  · subst c
    rw [show (Value.ref C != Value.ref C) = false from by simp]
    simp only [Bool.false_eq_true, if_false]
    refine wpAny_bind (wpAny_pure ?_)
    simp only [Bool.false_eq_true, if_false]
    exact fin _ fun v => rfl
  · have hs : subIn K tb (.ref C) = some false := ht.resolve_left c
    rw [show (Value.ref C != tb) = true from by simpa using fun z => c z.symm]
    simp only [if_true]
    refine wpAny_bind ((looks_subIn X hs).here ?_)
    simp only [Bool.false_eq_true, if_false]
    exact fin _ fun v => rfl
end
end EvCall


set_option autoImplicit false
set_option Elab.async false
set_option linter.all false
set_option maxRecDepth 100000
set_option maxHeartbeats 4000000
/-! EwA: isinstance of own classes; their len, repr, ==. -/
namespace Ev
open PySem PySem.Spec PyProof.Rows L2 EvCall
def datT : List String := ["NoneType", "bool", "int", "str", "tuple", "list"]
theorem dat_ty {n : Nat} {d : D} (h : dat n d = true) : ∃ t ∈ datT, tyName d = some t := by
  cases d with
  | non => exact ⟨_, by decide, rfl⟩
  | bl _ => exact ⟨_, by decide, rfl⟩
  | int _ => exact ⟨_, by decide, rfl⟩
  | str _ => exact ⟨_, by decide, rfl⟩
  | tup _ => exact ⟨_, by decide, rfl⟩
  | lst _ => exact ⟨_, by decide, rfl⟩
  | _ => cases n <;> cases h
section
variable {G : Gs} {P : Pg} {ft : List Ft} {k : Nat} {c : Ck} {Y : L2.Cx}
theorem ins_ty (O : Ok G P ft k c Y) {H : Hp} {p dx : Addr} {i : Nat} {cd : Cd} {fs : List (Str × V)} (hc : P.cls[i]? = some cd) (e : H p = some (.ins (G.CC i) dx fs)) : TyX Y.K H (.ref p) (.ref (G.CC i)) := by
  have cf := O.clf i cd hc
  rw [O.hK]
  exact .base (.ins e cf.cls cf.ca cf.cg cf.ct cf.ob)
theorem s_isc (O : Ok G P ft k c Y) {a : X} {n : Nat} {x : Str} {ea : Expr} {p p2 pos : Pos} (hg : c.gl "isinstance" = true) (A : Snd G (ecN P k) Y ea a) (hs : ∀ es env, starEach (ea :: es) env = (false, eval ea env) :: starEach es env) (hc : c.cn[n]? = some x) (hgx : c.gl x = true) (hd : (x == ("__debug__" : Str)) = false) :
    Snd G (ecN P k) Y (.Call (.Name "isinstance" p) [ea, .Name x p2] [] pos) (.isc a n) := by
  obtain ⟨m1, m2⟩ := O.cls n x hc
  have pk : PE Y (.Name x p2) (tC (.ref (G.CC n))) := pe_glob (O.gl hgx) m1 rfl hd
  refine Snd.of (PE.imp (pe_callB call_isi (O.gl hg) (O.free _ (by decide +kernel)) PyProof.Rows.boot_isinstance (pa_cons A.pe (pa_cons pk pa_nil) (hs _ _)) (he := hs _ _)) fun σ H Q q' => ?_) (fun _ => rfl) (fun _ _ _ z => nomatch z)
  obtain ⟨ω, M, env, he, hh, post⟩ := q'
  rw [ev] at post
  refine tE_bind he hh post fun d M1 ω1 H1 v he1 hh1 r p le => ?_
  have hn : n < c.cn.length := (List.getElem?_eq_some_iff.mp hc).1
  obtain ⟨cn, ecn⟩ : ∃ cd, P.cls[n]? = some cd := ⟨_, List.getElem?_eq_getElem (Nat.lt_of_lt_of_le hn O.cnl)⟩
  split at p
  · rename_i b e
    unfold isC at e
    split at e
    · rename_i i ks ds ei
      split at e
      · rename_i hi
        cases e
        obtain ⟨q, dx, vs, e1, e2, e3, e4⟩ := insOf_ok hh1 r ei
        subst e1
        obtain ⟨cd, ec⟩ : ∃ cd, P.cls[i]? = some cd := ⟨_, List.getElem?_eq_getElem hi⟩
        exact ⟨.ref q, .ref (G.CC n), .ref (G.CC i), .ref (G.CC n), _, rfl, .own _, ins_ty O ec e2, by rw [O.hK]; exact O.kit i n hi hn, post_bl p hh1⟩
      · cases e
    · split at e
      · rename_i hdat
        cases e
        obtain ⟨t, ht, et⟩ := dat_ty hdat
        exact ⟨v, .ref (G.CC n), .type t, .ref (G.CC n), false, rfl, .own _, by rw [O.hK]; exact ty_ok hh1 r et, by rw [O.hK]; exact ((O.clf n cn ecn).dat t ht).2, post_bl p hh1⟩
      · cases e
  · exact False.elim p
/-! ### calls one level further in -/
theorem run_g1 {X : Cx} {k : Nat} {f : Addr} {sp : SpG} {pins : List (Addr × Obj)} {σ : L2.St} {H : Hp} {s : Shared} {Q : VK} {us ws : List Value} {vs zs : List V} {ks : List Str} {Ex : Value → Shared → Prop} (F : FnG X.prog X.w X.K X.mg X.base (L2.CX X.prog X.w) k f sp) (hr : Room (k + 1) X.A) (I : L2.Inv X pins σ H s) (r : Vals vs us) (rz : Vals zs ws)
    (h : sp vs ks zs H Q fun _ _ _ => False) : wpAny (model X.prog X.w) X.A.in1 (call (.ref f) us (ks.zip ws)) (EP X pins σ Q) Ex s := by
  refine wpAny_call (codeAny_mono (F X.A.in1 X.stack s H us ks ws vs zs Q _ hr.in1 I.env0.in1 r rz h) fun r s' hq => ?_)
  cases r with
  | error e => exact False.elim (passF (Z := X.nox) pins σ H s e s' (I.wish _) hq)
  | ok fl =>
    cases fl with
    | ret u => exact I.after hq
    | next => exact False.elim hq
    | brk => exact False.elim hq
    | cont => exact False.elim hq
theorem tLen : sS [95, 95, 108, 101, 110, 95, 95] = ("__len__" : Str) := by decide +kernel
theorem tRep : sS [95, 95, 114, 101, 112, 114, 95, 95] = ("__repr__" : Str) := by decide +kernel
theorem tEq : sS [95, 95, 101, 113, 95, 95] = ("__eq__" : Str) := by decide +kernel
/-- len of an own thing -/
def olenE (C : Ec) (x : D) (f : Nat) (M : List O) : Rs D := if canS C M x [95, 95, 108, 101, 110, 95, 95] f then (noX (C.call f [x] [] M)).bind fun r M2 => match r with
    | .int n => if decide (0 ≤ n) && decide (n < big / 4) then .ok (.int n) M2 else .er
    | _ => .er
    else .er
def orepE (C : Ec) (x : D) (f : Nat) (M : List O) : Rs D := if canS C M x [95, 95, 114, 101, 112, 114, 95, 95] f then (noX (C.call f [x] [] M)).bind fun r M2 => match r with
    | .str s => .ok (.str s) M2
    | _ => .er
    else .er
def oneE (C : Ec) (x y : D) (f : Nat) (M : List O) : Rs D := if canE C M x y f then (noX (C.call f [x, y] [] M)).bind fun r M3 => match r with
    | .bl t => .ok (.bl (!t)) M3
    | _ => .er
    else .er
def oeqE (C : Ec) (x y : D) (f : Nat) (M : List O) : Rs D := if canE C M x y f then (noX (C.call f [x, y] [] M)).bind fun r M3 => match r with
    | .bl t => .ok (.bl t) M3
    | _ => .er
    else .er
theorem call_olen (O : Ok G P ft k c Y) {f : Nat} {t : Ft} (ht : ft[f]? = some t) : CallR Y (.builtin "len") (fun xs H Q => ∃ ω M d v, xs = [v] ∧ HRel G ω M H ∧ Rel G ω d v ∧ PostE G ω (olenE (ecN P k) d f M) Q) := by
  obtain ⟨h1, h2, h3⟩ := O.fns f t ht
  intro pins s σ H xs us Q I r h
  obtain ⟨ω, M, d, v, e0, hh, rd, post⟩ := h
  subst e0
  obtain ⟨u, e1, ru⟩ := r.one
  subst e1
  unfold olenE at post
  split at post
  · rename_i hc
    obtain ⟨p, i, dx, fs, e1, e2, e3, e4⟩ := canS_ok O ht hh rd hc
    rw [tLen] at e4
    subst e1
    obtain rfl : u = Value.ref p := ru
    obtain ⟨mA, Ob, _, _, _, _⟩ := ins_get I.hok e2
    obtain ⟨od, J, _⟩ := Ob.look
    refine len_K I.kIn J e4.at_ e4.fn (wpAny_mono (run_g1 (vs := [.ref p]) (ks := []) (ws := []) (zs := []) (Q := fun w H' => ∃ n : Int, w = .int n ∧ 0 ≤ n ∧ n < 2 ^ 63 ∧ Q (.int n) H') h3 O.room I (.cons rfl .nil) .nil ?_) (fun r' s' hq => ?_) fun _ _ z => z)
    · refine ⟨ω, M, [d], [], [], hh, Rels.one rd, rfl, rfl, Rels.nil, ?_⟩
      refine Post.quiet (Post.bind post fun z M2 ω2 H2 w le hh2 rz p2 => ?_)
      cases z with
      | int n =>
        rw [Rel] at rz
        dsimp only at p2
        split at p2
        · rename_i hb
          rw [Bool.and_eq_true, decide_eq_true_eq, decide_eq_true_eq] at hb
          refine ⟨n, rz, hb.1, ?_, post_int p2 hh2⟩
          have := hb.2
          unfold big at this
          omega
        · exact False.elim p2
      | _ => exact False.elim p2
    · obtain ⟨w, H', I', rw', n, e5, e6, e7, q⟩ := hq
      subst e5
      obtain ⟨tk, e8⟩ := rw'
      exact ⟨n, tk, e8, e6, e7, .int n, H', I'.tok _, ⟨_, rfl⟩, q⟩
  · exact False.elim post
theorem call_orep (O : Ok G P ft k c Y) {f : Nat} {t : Ft} (ht : ft[f]? = some t) : CallR Y (.builtin "repr") (fun xs H Q => ∃ ω M d v, xs = [v] ∧ HRel G ω M H ∧ Rel G ω d v ∧ PostE G ω (orepE (ecN P k) d f M) Q) := by
  obtain ⟨h1, h2, h3⟩ := O.fns f t ht
  intro pins s σ H xs us Q I r h
  obtain ⟨ω, M, d, v, e0, hh, rd, post⟩ := h
  subst e0
  obtain ⟨u, e1, ru⟩ := r.one
  subst e1
  unfold orepE at post
  split at post
  · rename_i hc
    obtain ⟨p, i, dx, fs, e1, e2, e3, e4⟩ := canS_ok O ht hh rd hc
    rw [tRep] at e4
    subst e1
    obtain rfl : u = Value.ref p := ru
    obtain ⟨mA, Ob, _, _, _, _⟩ := ins_get I.hok e2
    obtain ⟨od, J, _⟩ := Ob.look
    refine repr_K I.kIn J e4.at_ e4.fn (by have := O.room.un; show Y.A.units + 1 < _; omega) (wpAny_mono (run_g1 (vs := [.ref p]) (ks := []) (ws := []) (zs := []) (Q := fun w H' => ∃ n : Str, w = .str n ∧ Q (.str n) H') h3 O.room I (.cons rfl .nil) .nil ?_) (fun r' s' hq => ?_) fun _ _ z => z)
    · refine ⟨ω, M, [d], [], [], hh, Rels.one rd, rfl, rfl, Rels.nil, ?_⟩
      refine Post.quiet (Post.bind post fun z M2 ω2 H2 w le hh2 rz p2 => ?_)
      cases z with
      | str n =>
        rw [Rel] at rz
        exact ⟨_, rz, post_str p2 hh2⟩
      | _ => exact False.elim p2
    · obtain ⟨w, H', I', rw', n, e5, q⟩ := hq
      subst e5
      obtain ⟨tk, e8⟩ := rw'
      exact ⟨n, tk, e8, .str n, H', I', ⟨_, rfl⟩, q⟩
  · exact False.elim post
theorem s_olen (O : Ok G P ft k c Y) {a : X} {f : Nat} {ea : Expr} {p pos : Pos} (hg : c.gl "len" = true) (hff : f < c.fn.length) (A : Snd G (ecN P k) Y ea a) (hs : ∀ es env, starEach (ea :: es) env = (false, eval ea env) :: starEach es env) : Snd G (ecN P k) Y (.Call (.Name "len" p) [ea] [] pos) (.olen a f) := by
  obtain ⟨t, ht⟩ := O.fts hff
  refine Snd.of (PE.imp (pe_callB (call_olen O ht) (O.gl hg) (O.free _ (by decide +kernel)) PySem.boot_len (pa_cons A.pe pa_nil (hs _ _)) (he := hs _ _)) fun σ H Q q' => ?_) (fun _ => rfl) (fun _ _ _ z => nomatch z)
  obtain ⟨ω, M, env, he, hh, post⟩ := q'
  rw [ev] at post
  exact tE_bind he hh post fun d M1 ω1 H1 v he1 hh1 r p le => ⟨ω1, M1, d, v, rfl, hh1, r, p⟩
theorem s_orep (O : Ok G P ft k c Y) {a : X} {f : Nat} {ea : Expr} {p pos : Pos} (hg : c.gl "repr" = true) (hff : f < c.fn.length) (A : Snd G (ecN P k) Y ea a) (hs : ∀ es env, starEach (ea :: es) env = (false, eval ea env) :: starEach es env) : Snd G (ecN P k) Y (.Call (.Name "repr" p) [ea] [] pos) (.orep a f) := by
  obtain ⟨t, ht⟩ := O.fts hff
  refine Snd.of (PE.imp (pe_callB (call_orep O ht) (O.gl hg) (O.free _ (by decide +kernel)) (by decide +kernel) (pa_cons A.pe pa_nil (hs _ _)) (he := hs _ _)) fun σ H Q q' => ?_) (fun _ => rfl) (fun _ _ _ z => nomatch z)
  obtain ⟨ω, M, env, he, hh, post⟩ := q'
  rw [ev] at post
  exact tE_bind he hh post fun d M1 ω1 H1 v he1 hh1 r p le => ⟨ω1, M1, d, v, rfl, hh1, r, p⟩
theorem op_oeq (O : Ok G P ft k c Y) {f : Nat} {t : Ft} (ht : ft[f]? = some t) : OpR Y (compareOp .Eq) (fun x y H Q => ∃ ω M d e, HRel G ω M H ∧ Rel G ω d x ∧ Rel G ω e y ∧ PostE G ω (oeqE (ecN P k) d e f M) Q) := by
  obtain ⟨h1, h2, h3⟩ := O.fns f t ht
  intro pins s σ H x y u v Q I rx ry h
  obtain ⟨ω, M, d, e, hh, rd, re, post⟩ := h
  unfold oeqE at post
  split at post
  · rename_i hc
    unfold canE at hc
    rw [Bool.and_eq_true] at hc
    obtain ⟨hc, hc2⟩ := hc
    obtain ⟨p, i, dx, fs, e1, e2, e3, e4⟩ := canS_ok O ht hh rd hc
    rw [tEq] at e4
    subst e1
    obtain rfl : u = Value.ref p := rx
    obtain ⟨mA, Ob, _, _, _, _⟩ := ins_get I.hok e2
    obtain ⟨od, J, _⟩ := Ob.look
    have hy : ∃ tb, PySem.W.Looks (model Y.prog Y.w) s.heap (typeOf v) tb ∧ (tb = .ref (G.CC i) ∨ PySem.W.subIn Y.K tb (.ref (G.CC i)) = some false) := by
      split at hc2
      · rename_i ci ks ds cj ks2 ds2 ed ee
        have ec := Nat.eq_of_beq_eq_true hc2
        subst ec
        obtain ⟨q, dx2, vs2, g1, g2, g3, g4⟩ := insOf_ok hh re ee
        obtain ⟨q1, dx1, vs1, k1, k2, k3, k4⟩ := insOf_ok hh rd ed
        cases k1
        rw [e2] at k2
        injection k2 with k2
        injection k2 with k2 _ _
        subst g1
        obtain rfl : v = Value.ref q := ry
        obtain ⟨mA2, Ob2, _, _, _, _⟩ := ins_get I.hok g2
        obtain ⟨od2, J2, _⟩ := Ob2.look
        exact ⟨_, J2.type, .inl (by rw [k2])⟩
      · rename_i ci ks ds ed ee
        obtain ⟨tt, mt, et⟩ := dat_ty hc2
        have ty : TyX Y.K H y (.type tt) := by rw [O.hK]; exact ty_ok hh re et
        obtain ⟨PP, Z, pz, _⟩ := kit_of I ry ty
        refine ⟨_, Z.ty _ _ I.kIn pz, .inr ?_⟩
        unfold canS at hc
        rw [ed] at hc
        dsimp only at hc
        split at hc
        · rename_i cd ec
          obtain ⟨q1, dx1, vs1, k1, k2, k3, k4⟩ := insOf_ok hh rd ed
          cases k1
          rw [e2] at k2
          injection k2 with k2
          injection k2 with k2 _ _
          rw [k2, O.hK]
          exact ((O.clf _ cd ec).dat tt mt).1
        · cases hc
      · cases hc2
    obtain ⟨tb, hy1, hy2⟩ := hy
    refine eq_K I.kIn J e4.at_ e4.fn (by have := O.room.un; omega) hy1 hy2 (wpAny_mono (run_g (E := fun _ _ _ => False) (CX := L2.CX Y.prog Y.w) (ks := []) (ws := []) (zs := []) (vs := [.ref p, y]) (Q := fun w H' => ∃ b : Bool, w = .bl b ∧ Q (.bl b) H') h3 O.room8 passF I (.cons rfl (.cons ry .nil)) .nil ?_) (fun r' s' hq => ?_) fun _ _ z => z)
    · refine ⟨ω, M, [d, e], [], [], hh, Rels.cons rd (Rels.one re), rfl, rfl, Rels.nil, ?_⟩
      refine Post.quiet (Post.bind post fun z M2 ω2 H2 w le hh2 rz p2 => ?_)
      cases z with
      | bl b =>
        rw [Rel] at rz
        exact ⟨b, rz, post_bl p2 hh2⟩
      | _ => exact False.elim p2
    · obtain ⟨w, H', I', rw', b, e5, q⟩ := hq
      subst e5
      exact ⟨b, rw', .bl b, H', I', rfl, q⟩
  · exact False.elim post
theorem s_oeq (O : Ok G P ft k c Y) {f : Nat} {a b : X} {ea eb : Expr} {pos : Pos} (hff : f < c.fn.length) (A : Snd G (ecN P k) Y ea a) (B : Snd G (ecN P k) Y eb b) (hm : behindInMarks .Eq eb = false) : Snd G (ecN P k) Y (.Compare ea [.Eq] [eb] pos) (.oeq a b f) := by
  obtain ⟨t, ht⟩ := O.fts hff
  have OC := op_oeq O ht
  have key : ∀ σ H Q, tE G (ecN P k) (.oeq a b f) σ H Q → tOp (fun x y H Q => ∃ ω M d e, HRel G ω M H ∧ Rel G ω d x ∧ Rel G ω e y ∧ PostE G ω (oeqE (ecN P k) d e f M) Q) (tE G (ecN P k) a) (tE G (ecN P k) b) σ H Q := fun σ H Q q => by
    obtain ⟨ω, M, env, he, hh, post⟩ := q
    rw [ev] at post
    exact tE_pair he hh post fun x y M2 ω2 H2 v w he2 hh2 r1 r2 p le => ⟨ω2, M2, x, y, hh2, r1, r2, p⟩
  refine ⟨PE.imp (pe_cmpR OC A.pe B.pe hm) key, PT.imp (pt_cmpR OC A.pe B.pe hm) fun σ H Q q => ?_, fun _ _ _ z => nomatch z⟩
  obtain ⟨ω, M, env, he, hh, post⟩ := q
  refine key σ H _ ⟨ω, M, env, he, hh, ?_⟩
  unfold evB at post
  refine Post.bind post fun d M1 ω1 H1 v le hh1 r p => ?_
  cases d with
  | bl b =>
    rw [Rel] at r
    exact ⟨b, r, Post.here (v := b) p hh1 rfl⟩
  | _ => exact False.elim p
theorem op_one (O : Ok G P ft k c Y) {f : Nat} {t : Ft} (ht : ft[f]? = some t) : OpR Y (compareOp .NotEq) (fun x y H Q => ∃ ω M d e, HRel G ω M H ∧ Rel G ω d x ∧ Rel G ω e y ∧ PostE G ω (oneE (ecN P k) d e f M) Q) := by
  obtain ⟨h1, h2, h3⟩ := O.fns f t ht
  intro pins s σ H x y u v Q I rx ry h
  obtain ⟨ω, M, d, e, hh, rd, re, post⟩ := h
  unfold oneE at post
  split at post
  · rename_i hc
    unfold canE at hc
    rw [Bool.and_eq_true] at hc
    obtain ⟨hc, hc2⟩ := hc
    obtain ⟨p, i, dx, fs, e1, e2, e3, e4, cd0, ec0⟩ := canS_ok2 O ht hh rd hc
    rw [tEq] at e4
    subst e1
    obtain rfl : u = Value.ref p := rx
    obtain ⟨mA, Ob, _, _, _, _⟩ := ins_get I.hok e2
    obtain ⟨od, J, _⟩ := Ob.look
    have hy : ∃ tb, PySem.W.Looks (model Y.prog Y.w) s.heap (typeOf v) tb ∧ (tb = .ref (G.CC i) ∨ PySem.W.subIn Y.K tb (.ref (G.CC i)) = some false) := by
      split at hc2
      · rename_i ci ks ds cj ks2 ds2 ed ee
        have ec := Nat.eq_of_beq_eq_true hc2
        subst ec
        obtain ⟨q, dx2, vs2, g1, g2, g3, g4⟩ := insOf_ok hh re ee
        obtain ⟨q1, dx1, vs1, k1, k2, k3, k4⟩ := insOf_ok hh rd ed
        cases k1
        rw [e2] at k2
        injection k2 with k2
        injection k2 with k2 _ _
        subst g1
        obtain rfl : v = Value.ref q := ry
        obtain ⟨mA2, Ob2, _, _, _, _⟩ := ins_get I.hok g2
        obtain ⟨od2, J2, _⟩ := Ob2.look
        exact ⟨_, J2.type, .inl (by rw [k2])⟩
      · rename_i ci ks ds ed ee
        obtain ⟨tt, mt, et⟩ := dat_ty hc2
        have ty : TyX Y.K H y (.type tt) := by rw [O.hK]; exact ty_ok hh re et
        obtain ⟨PP, Z, pz, _⟩ := kit_of I ry ty
        refine ⟨_, Z.ty _ _ I.kIn pz, .inr ?_⟩
        unfold canS at hc
        rw [ed] at hc
        dsimp only at hc
        split at hc
        · rename_i cd ec
          obtain ⟨q1, dx1, vs1, k1, k2, k3, k4⟩ := insOf_ok hh rd ed
          cases k1
          rw [e2] at k2
          injection k2 with k2
          injection k2 with k2 _ _
          rw [k2, O.hK]
          exact ((O.clf _ cd ec).dat tt mt).1
        · cases hc
      · cases hc2
    obtain ⟨tb, hy1, hy2⟩ := hy
    have hci : PySem.W.findIn Y.K (.ref (G.CC i)) "__ne__" = some (some (.builtin "object.__ne__")) ∧ PySem.W.mroIn Y.K (G.CC i) (.type "object") = some true := ⟨by rw [O.hK]; exact (O.clf i cd0 ec0).ne, by rw [O.hK]; exact (O.clf i cd0 ec0).ob⟩
    refine ne_K I.kIn J hci.1 hci.2 e4.at_ e4.fn (by have := O.room.un; show Y.A.units + 1 < _; omega) hy1 hy2 (wpAny_mono (run_g1 (ks := []) (ws := []) (zs := []) (vs := [.ref p, y]) (Q := fun w H' => ∃ b : Bool, w = .bl b ∧ Q (.bl (!b)) H') h3 O.room I (.cons rfl (.cons ry .nil)) .nil ?_) (fun r' s' hq => ?_) fun _ _ z => z)
    · refine ⟨ω, M, [d, e], [], [], hh, Rels.cons rd (Rels.one re), rfl, rfl, Rels.nil, ?_⟩
      refine Post.quiet (Post.bind post fun z M2 ω2 H2 w le hh2 rz p2 => ?_)
      cases z with
      | bl b =>
        rw [Rel] at rz
        exact ⟨b, rz, post_bl p2 hh2⟩
      | _ => exact False.elim p2
    · obtain ⟨w, H', I', rw', b, e5, q⟩ := hq
      subst e5
      exact ⟨b, rw', .bl (!b), H', I', rfl, q⟩
  · exact False.elim post
theorem s_one (O : Ok G P ft k c Y) {f : Nat} {a b : X} {ea eb : Expr} {pos : Pos} (hff : f < c.fn.length) (A : Snd G (ecN P k) Y ea a) (B : Snd G (ecN P k) Y eb b) (hm : behindInMarks .NotEq eb = false) : Snd G (ecN P k) Y (.Compare ea [.NotEq] [eb] pos) (.one a b f) := by
  obtain ⟨t, ht⟩ := O.fts hff
  have OC := op_one O ht
  have key : ∀ σ H Q, tE G (ecN P k) (.one a b f) σ H Q → tOp (fun x y H Q => ∃ ω M d e, HRel G ω M H ∧ Rel G ω d x ∧ Rel G ω e y ∧ PostE G ω (oneE (ecN P k) d e f M) Q) (tE G (ecN P k) a) (tE G (ecN P k) b) σ H Q := fun σ H Q q => by
    obtain ⟨ω, M, env, he, hh, post⟩ := q
    rw [ev] at post
    exact tE_pair he hh post fun x y M2 ω2 H2 v w he2 hh2 r1 r2 p le => ⟨ω2, M2, x, y, hh2, r1, r2, p⟩
  refine ⟨PE.imp (pe_cmpR OC A.pe B.pe hm) key, PT.imp (pt_cmpR OC A.pe B.pe hm) fun σ H Q q => ?_, fun _ _ _ z => nomatch z⟩
  obtain ⟨ω, M, env, he, hh, post⟩ := q
  refine key σ H _ ⟨ω, M, env, he, hh, ?_⟩
  unfold evB at post
  refine Post.bind post fun d M1 ω1 H1 v le hh1 r p => ?_
  cases d with
  | bl b =>
    rw [Rel] at r
    exact ⟨b, r, Post.here (v := b) p hh1 rfl⟩
  | _ => exact False.elim p
end
end Ev


set_option autoImplicit false
set_option Elab.async false
set_option linter.all false
set_option maxRecDepth 100000
set_option maxHeartbeats 4000000
/-! EwB: dicts; texts with a place; methods of built-in things. -/
namespace Ev
open PySem PySem.Spec PyProof.Rows L2 EvCall
def kk (d : D) : Key := (keyOf d).getD (.inl 0)
theorem key_eq {k x : D} (hk : isKey k = true) (hx : isKey x = true) : eqD k x = decide (kk k = kk x) := by
  cases k with
  | str s =>
    cases x with
    | str t =>
      show txEq s t = decide ((Sum.inr (sS s) : Key) = Sum.inr (sS t))
      cases h : txEq s t with
      | true => rw [txEq_iff.mp h]; simp
      | false =>
        symm
        apply decide_eq_false
        intro z
        injection z with z
        rw [sS_inj.mp z, txEq_iff.mpr rfl] at h
        cases h
    | int j => rfl
    | _ => cases hx
  | int i =>
    cases x with
    | str t => rfl
    | int j =>
      show decide (i = j) = decide ((Sum.inl i : Key) = Sum.inl j)
      by_cases h : i = j
      · subst h; simp
      · rw [decide_eq_false h]
        symm
        apply decide_eq_false
        intro z
        injection z with z
        exact h z
    | _ => cases hx
  | _ => cases hk
section
variable {G : Gs} {ω : Wd}
theorem key_val {y : D} {w : V} (h : isKey y = true) (r : Rel G ω y w) : w = kV (kk y) := by
  cases y with
  | str s => rw [Rel] at r; exact r
  | int i => rw [Rel] at r; exact r
  | _ => cases h
theorem keysOk_cons {k : D} {ks : List D} : keysOk (k :: ks) = true ↔ isKey k = true ∧ keysOk ks = true := by
  unfold keysOk
  rw [List.all_cons, Bool.and_eq_true]
theorem dget_ok {x : D} (hx : isKey x = true) : ∀ {ks ds : List D} {vs : List V}, keysOk ks = true → ks.length = ds.length → Rels G ω ds vs → (∀ d, dget ks ds x = some d → ∃ v, valV (kvsOf ks vs) (kk x) = some v ∧ Rel G ω d v) ∧ (dget ks ds x = none → valV (kvsOf ks vs) (kk x) = none)
  | [], ds, vs, _, hl, r => ⟨fun d h => (by cases ds <;> cases h), fun _ => rfl⟩
  | k :: ks, [], vs, _, hl, r => (by cases hl)
  | k :: ks, d :: ds, vs, hk, hl, r => by
    rw [Rels] at r
    obtain ⟨v, t, e, a, b⟩ := r
    subst e
    obtain ⟨h1, h2⟩ := keysOk_cons.mp hk
    obtain ⟨i1, i2⟩ := dget_ok hx h2 (by simpa using hl) b
    rw [dget, key_eq h1 hx, show kvsOf (k :: ks) (v :: t) = (kk k, v) :: kvsOf ks t from rfl]
    by_cases c : kk k = kk x
    · rw [decide_eq_true c, valV_pos (p := (kk k, v)) c]
      exact ⟨fun d' h => by cases h; exact ⟨v, rfl, a⟩, fun h => by cases h⟩
    · rw [decide_eq_false c, valV_neg (p := (kk k, v)) c]
      exact ⟨i1, i2⟩
def vmap : List D → List V → D → V → List V
  | k :: ks, v :: vs, x, u => (if eqD k x then u else v) :: vmap ks vs x u
  | _, _, _, _ => []
theorem hasK_ok {x : D} (hx : isKey x = true) : ∀ {ks : List D} {vs : List V}, keysOk ks = true → ks.length = vs.length → ((kvsOf ks vs).any fun kv => decide (kv.1 = kk x)) = hasK ks x
  | [], vs, _, _ => by cases vs <;> rfl
  | k :: ks, [], _, hl => by cases hl
  | k :: ks, v :: vs, hk, hl => by
    obtain ⟨h1, h2⟩ := keysOk_cons.mp hk
    rw [show kvsOf (k :: ks) (v :: vs) = (kk k, v) :: kvsOf ks vs from rfl, List.any_cons, hasK_ok hx h2 (by simpa using hl)]
    unfold hasK
    rw [List.any_cons, key_eq h1 hx]
theorem vmap_ok {x : D} {u : V} (hx : isKey x = true) : ∀ {ks : List D} {vs : List V}, keysOk ks = true → ks.length = vs.length → ((kvsOf ks vs).map fun kv => if kv.1 = kk x then (kv.1, u) else kv) = kvsOf ks (vmap ks vs x u)
  | [], vs, _, _ => by cases vs <;> rfl
  | k :: ks, [], _, hl => by cases hl
  | k :: ks, v :: vs, hk, hl => by
    obtain ⟨h1, h2⟩ := keysOk_cons.mp hk
    rw [show kvsOf (k :: ks) (v :: vs) = (kk k, v) :: kvsOf ks vs from rfl, List.map_cons, vmap_ok hx h2 (by simpa using hl), vmap, key_eq h1 hx]
    show _ = (kk k, _) :: kvsOf ks _
    by_cases c : kk k = kk x
    · rw [if_pos c, decide_eq_true c, if_pos rfl]
    · rw [if_neg c, decide_eq_false c, if_neg Bool.false_ne_true]
theorem kvs_app {x : D} {u : V} : ∀ {ks : List D} {vs : List V}, ks.length = vs.length → kvsOf ks vs ++ [(kk x, u)] = kvsOf (ks ++ [x]) (vs ++ [u])
  | [], [], _ => rfl
  | [], _ :: _, hl => by cases hl
  | k :: ks, [], hl => by cases hl
  | k :: ks, v :: vs, hl => by
    show (kk k, v) :: (kvsOf ks vs ++ [(kk x, u)]) = (kk k, v) :: kvsOf (ks ++ [x]) (vs ++ [u])
    rw [kvs_app (by simpa using hl)]
theorem dmap_ok {x d : D} {u : V} (r : Rel G ω d u) : ∀ {ks ds : List D} {vs : List V}, ks.length = ds.length → Rels G ω ds vs → Rels G ω (dmap ks ds x d) (vmap ks vs x u) ∧ (dmap ks ds x d).length = ks.length
  | [], ds, vs, hl, h => by
    have : ds = [] := List.length_eq_zero_iff.mp hl.symm
    subst this
    rw [Rels] at h
    subst h
    exact ⟨Rels.nil, rfl⟩
  | k :: ks, [], vs, hl, h => by cases hl
  | k :: ks, e :: ds, vs, hl, h => by
    rw [Rels] at h
    obtain ⟨v, t, e1, a, b⟩ := h
    subst e1
    obtain ⟨i1, i2⟩ := dmap_ok (x := x) r (ks := ks) (by simpa using hl) b
    rw [dmap, vmap]
    refine ⟨Rels.cons ?_ i1, by rw [List.length_cons, List.length_cons, i2]⟩
    cases eqD k x
    · exact a
    · exact r
/-- a table with one more entry -/
theorem put_ok {x d : D} {u : V} {ks ds : List D} {vs : List V} (hx : isKey x = true) (r : Rel G ω d u) (hk : keysOk ks = true) (hl : ks.length = ds.length) (rs : Rels G ω ds vs) :
    ∃ vs', L2.putK (kvsOf ks vs) (kk x) u = kvsOf (dputK ks x) vs' ∧ keysOk (dputK ks x) = true ∧ (dputK ks x).length = (dputV ks ds x d).length ∧ Rels G ω (dputV ks ds x d) vs' := by
  have hlv : ks.length = vs.length := by rw [rs.length, hl]
  unfold L2.putK dputK dputV
  rw [hasK_ok hx hk hlv]
  cases hasK ks x with
  | true =>
    simp only [if_true]
    obtain ⟨i1, i2⟩ := dmap_ok (x := x) r hl rs
    exact ⟨_, vmap_ok hx hk hlv, hk, i2.symm, i1⟩
  | false =>
    simp only [Bool.false_eq_true, if_false]
    refine ⟨_, kvs_app hlv, ?_, by simp [hl], rs.append (Rels.one r)⟩
    unfold keysOk at hk ⊢
    rw [List.all_append, hk]
    simpa using hx
theorem puts_ok : ∀ {xs es : List D} {us : List V} {ks ds : List D} {vs : List V}, keysOk xs = true → xs.length = es.length → Rels G ω es us → keysOk ks = true → ks.length = ds.length → Rels G ω ds vs →
    ∃ vs', mergeK (kvsOf ks vs) (kvsOf xs us) = kvsOf (dputs xs es ks ds).1 vs' ∧ keysOk (dputs xs es ks ds).1 = true ∧ (dputs xs es ks ds).1.length = (dputs xs es ks ds).2.length ∧ Rels G ω (dputs xs es ks ds).2 vs'
  | [], es, us, ks, ds, vs, _, hl, r, hk, hkl, rs => by
    have : es = [] := List.length_eq_zero_iff.mp hl.symm
    subst this
    rw [Rels] at r
    subst r
    exact ⟨vs, rfl, hk, hkl, rs⟩
  | x :: xs, [], us, ks, ds, vs, _, hl, r, hk, hkl, rs => by cases hl
  | x :: xs, e :: es, us, ks, ds, vs, hx, hl, r, hk, hkl, rs => by
    rw [Rels] at r
    obtain ⟨u, t, e1, a, b⟩ := r
    subst e1
    obtain ⟨h1, h2⟩ := keysOk_cons.mp hx
    obtain ⟨vs1, p1, p2, p3, p4⟩ := put_ok h1 a hk hkl rs
    obtain ⟨vs2, q1, q2, q3, q4⟩ := puts_ok h2 (by simpa using hl) b p2 p3 p4
    refine ⟨vs2, ?_, q2, q3, q4⟩
    show mergeK (L2.putK (kvsOf ks vs) (kk x) u) (kvsOf xs t) = kvsOf (dputs xs es (dputK ks x) (dputV ks ds x e)).fst vs2
    rw [p1, q1]
end
theorem pe_frz {X : Cx} {e : Expr} {t : TE} (h : PE X e t) : PE X e (fun σ H Q => t σ H fun v H1 => ∃ p kvs, v = .ref p ∧ H1 p = some (.dK kvs) ∧ ∀ od, Q v (upd H1 p (.frz od (.dK kvs)))) := by
  refine ⟨fun pins s σ H Q I q => thn (h.run pins s σ H _ I q) fun u s1 ⟨v, H1, I1, r, p, kvs, e1, e2, q1⟩ => ?_⟩
  obtain ⟨od, I2⟩ := I1.lock e2 trivial
  exact ⟨v, _, I2, r, q1 od⟩
section
variable {G : Gs} {P : Pg} {ft : List Ft} {k : Nat} {c : Ck} {Y : L2.Cx}
theorem pps_ok {pos : Pos} : ∀ {ks : List Tx} {keys : List (Option Expr)} {values : List Expr} {vs : List X}, okKeys ks keys = true → ks.length = vs.length → PEs G (ecN P k) Y values vs →
    ∃ trs, PPs Y pos keys values trs ∧ keys.all (·.isSome) = true ∧ keys.length = ks.length ∧ keys.length = values.length ∧ ∀ σ H Q, tEs G (ecN P k) vs σ H (fun ws H' => Q ((ks.map fun k => V.str (sS k)).zip ws) H') → tPairs trs σ H Q
  | [], [], values, vs, _, hl, h => by
    have : vs = [] := List.length_eq_zero_iff.mp hl.symm
    subst this
    cases h
    exact ⟨[], pps_nil, rfl, rfl, rfl, fun σ H Q q => by
      obtain ⟨ω, M, env, he, hh, post⟩ := q
      rw [evs] at post
      exact Post.here (v := ([] : List V)) post hh Rels.nil⟩
  | [], _ :: _, values, vs, hk, hl, h => by cases hk
  | ks :: kr, [], values, vs, hk, hl, h => by cases hk
  | key :: ks, ke :: keys, values, [], hk, hl, h => by cases hl
  | key :: ks, ke :: keys, values, x :: xs, hk, hl, h => by
    cases h with
    | @cons e es _ _ h1 ns r =>
      unfold okKeys at hk
      split at hk
      · rename_i hz; cases hz
      · rename_i k' ks' z n p es' e1 e2
        cases e1
        cases e2
        rw [Bool.and_eq_true, decide_eq_true_eq] at hk
        obtain ⟨trs, a1, a2, a3, a4, a5⟩ := pps_ok (pos := pos) hk.2 (by simpa using hl) r
        have ez : z = sS key := by unfold sS; rw [← hk.1]
        subst ez
        refine ⟨_, pps_cons pe_str h1 a1, by rw [List.all_cons, a2]; rfl, by rw [List.length_cons, a3, List.length_cons], by rw [List.length_cons, a4, List.length_cons], fun σ H Q q => ?_⟩
        obtain ⟨ω, M, env, he, hh, post⟩ := q
        rw [evs] at post
        refine tE_bind he hh post fun d M1 ω1 H1 v he1 hh1 r1 p le => ?_
        exact a5 σ H1 _ (tEs_bind he1 hh1 p fun ds M2 ω2 H2 vs he2 hh2 r2 p2 le2 => Post.here (v := v :: vs) p2 hh2 (Rels.cons (Rel.mono le2 _ _ r1) r2))
      · cases hk
theorem zip_kvs : ∀ {ks : List Tx} {ws : List V}, ks.length = ws.length → (ks.map fun k => V.str (sS k)).zip ws = (kvsOf (ks.map D.str) ws).map fun kv => (kV kv.1, kv.2)
  | [], [], _ => rfl
  | [], _ :: _, h => by cases h
  | _ :: _, [], h => by cases h
  | k :: ks, w :: ws, h => by
    show (V.str (sS k), w) :: _ = (kV (kk (.str k)), w) :: _
    rw [← zip_kvs (by simpa using h)]
    rfl
theorem kvs_len : ∀ {ks : List D} {ws : List V}, ks.length = ws.length → (kvsOf ks ws).length = ks.length
  | [], [], _ => rfl
  | [], _ :: _, h => by cases h
  | _ :: _, [], h => by cases h
  | k :: ks, w :: ws, h => by
    show (kvsOf ks ws).length + 1 = ks.length + 1
    rw [kvs_len (by simpa using h)]
theorem keys_str : ∀ ks : List Tx, keysOk (ks.map D.str) = true
  | [] => rfl
  | k :: ks => by
    rw [List.map_cons]
    exact keysOk_cons.mpr ⟨rfl, keys_str ks⟩
theorem s_dic {h : Bool} {ks : List Tx} {vs : List X} {keys : List (Option Expr)} {values : List Expr} {pos : Pos} (hk : okKeys ks keys = true) (hz : 0 < ks.length ∧ ks.length ≤ 15) (hl : ks.length = vs.length) (A : PEs G (ecN P k) Y values vs) : Snd G (ecN P k) Y (.Dict keys values pos) (.dic h ks vs) := by
  obtain ⟨trs, a1, a2, a3, a4, a5⟩ := pps_ok (pos := pos) hk hl A
  have pd := pe_disp a1 a2 a4 (fun z => by rw [z] at a3; have := hz.1; simp at a3; omega) (by rw [a3]; exact hz.2)
  -- the world while the values are made
  have main : ∀ σ H (Q : Addr → Hp → Prop) p, H p = none → (∃ ω M env, EnvRel G ω env σ ∧ HRel G ω M H ∧ (match noX (evs (ecN P k) vs env M) with
      | .er => False
      | .ex _ _ => False
      | .ok ws M1 => ∀ ω2 H2 us, Le0 ω ω2 → ω2.lck = upd ω.lck p (.dK []) → ω.lck p = none → HRel G ω2 M1 H2 → Rels G ω2 ws us → ws.length = ks.length → ∀ kvs, kvs = mergeK [] (kvsOf (ks.map D.str) us) → Q p (upd H2 p (.dK kvs)))) →
      tPairs trs σ (upd H p (.dK [])) fun ps H2 => H2 p = some (.dK []) ∧ ∃ kvs : List (Key × V), ps = kvs.map (fun kv => (kV kv.1, kv.2)) ∧ kvs.length ≤ 15 ∧ Q p (upd H2 p (.dK (mergeK [] kvs))) := by
    intro σ H Q p hp ⟨ω, M, env, he, hh, post⟩
    refine a5 _ _ _ ⟨ω.lock p (.dK []), M, env, he.mono0 (Le0.lock _ _ _), hh.lockNew hp, ?_⟩
    cases e : evs (ecN P k) vs env M with
    | er => rw [e] at post; exact post
    | ex _ _ => rw [e] at post; exact False.elim post
    | ok ws M1 =>
      rw [e] at post
      intro ω2 H2 us le hh2 r
      have hw : ks.length = us.length := by rw [r.length, evs_len e, hl]
      have l2 : ω2.lck p = some (.dK []) := by rw [le.lck]; exact upd_same
      refine ⟨hh2.lck _ _ l2, kvsOf (ks.map D.str) us, zip_kvs hw, by rw [kvs_len (by simpa using hw), List.length_map]; exact hz.2, ?_⟩
      exact post ω2 H2 us ((Le0.lock _ _ _).trans le.le0) le.lck (hh.lckN hp) hh2 r (by rw [evs_len e, hl]) _ rfl
  cases h with
  | true =>
    refine Snd.of (PE.imp pd fun σ H Q q p hp => ?_) (fun _ => rfl) (fun _ _ _ z => nomatch z)
    refine main σ H (fun p H' => Q (.ref p) H') p hp ?_
    obtain ⟨ω, M, env, he, hh, post⟩ := q
    rw [ev] at post
    refine ⟨ω, M, env, he, hh, ?_⟩
    cases e : evs (ecN P k) vs env M with
    | er => rw [e] at post; exact post
    | ex _ _ => rw [e] at post; exact False.elim post
    | ok ws M1 =>
      rw [e] at post
      intro ω2 H2 us le l2 l1 hh2 r hw kvs ek
      obtain ⟨vs', q1, q2, q3, q4⟩ := puts_ok (keys_str ks) (by rw [List.length_map, hw]) r (ks := []) (ds := []) (vs := []) rfl rfl Rels.nil
      have lp : ω2.lck p = some (.dK []) := by rw [l2]; exact upd_same
      have hh3 := hh2.relock (o' := .dK kvs) lp
      have l3 : (ω2.lock p (.dK kvs)).lck = upd ω.lck p (.dK kvs) := by
        show upd ω2.lck p _ = _
        rw [l2, upd_upd]
      have ek2 : kvs = kvsOf (dputs (ks.map D.str) ws [] []).1 vs' := by rw [ek]; exact q1
      obtain ⟨hh4, le4⟩ := hh3.unlockM (ob := .dic (dputs (ks.map D.str) ws [] []).1 (dputs (ks.map D.str) ws [] []).2) l3 l1 ⟨vs', by rw [ek2], q2, q3, Rels.mono0 (Le0.lock _ _ _) _ _ q4⟩
      have post : PostE G ω (alloc (.dic (dputs (ks.map D.str) ws [] []).1 (dputs (ks.map D.str) ws [] []).2) M1) Q := post
      have le5 := (le.trans (Le0.lock _ _ _)).trans le4
      refine post _ _ _ ⟨le5.ρ, le5.imm, rfl⟩ hh4 ?_
      rw [Rel]
      refine ⟨p, ?_, rfl⟩
      show (ω2.ρ ++ [p])[M1.length]? = some p
      rw [← hh2.len]
      simp
  | false =>
    refine Snd.of (PE.imp (pe_frz pd) fun σ H Q q p hp => ?_) (fun _ => rfl) (fun _ _ _ z => nomatch z)
    refine main σ H (fun p H' => ∃ p' kvs, V.ref p = .ref p' ∧ H' p' = some (.dK kvs) ∧ ∀ od, Q (.ref p) (upd H' p' (.frz od (.dK kvs)))) p hp ?_
    obtain ⟨ω, M, env, he, hh, post⟩ := q
    rw [ev] at post
    refine ⟨ω, M, env, he, hh, ?_⟩
    cases e : evs (ecN P k) vs env M with
    | er => rw [e] at post; exact post
    | ex _ _ => rw [e] at post; exact False.elim post
    | ok ws M1 =>
      rw [e] at post
      intro ω2 H2 us le l2 l1 hh2 r hw kvs ek
      refine ⟨p, kvs, rfl, upd_same, fun od => ?_⟩
      rw [upd_upd]
      obtain ⟨vs', q1, q2, q3, q4⟩ := puts_ok (keys_str ks) (by rw [List.length_map, hw]) r (ks := []) (ds := []) (vs := []) rfl rfl Rels.nil
      have lp : ω2.lck p = some (.dK []) := by rw [l2]; exact upd_same
      have hh3 := hh2.relock (o' := .frz od (.dK kvs)) lp
      have l3 : (ω2.lock p (.frz od (.dK kvs))).lck = upd ω.lck p (.frz od (.dK kvs)) := by
        show upd ω2.lck p _ = _
        rw [l2, upd_upd]
      have ek2 : kvs = kvsOf (dputs (ks.map D.str) ws [] []).1 vs' := by rw [ek]; exact q1
      obtain ⟨hh4, le4⟩ := hh3.unlockI l3 l1
      have post : PostE G ω (.ok (.dct (dputs (ks.map D.str) ws [] []).1 (dputs (ks.map D.str) ws [] []).2) M1) Q := post
      have le5 := (le.trans (Le0.lock _ _ _)).trans le4
      refine post _ _ _ ⟨le5.ρ, le5.imm, rfl⟩ hh4 ?_
      rw [Rel]
      exact ⟨p, od, vs', rfl, by rw [← ek2]; exact upd_same, q2, q3, Rels.mono0 ((Le0.lock _ _ _).trans le4) _ _ q4⟩
/-! ### entries -/
theorem okE_nosl {x : X} {e : Expr} (h : okE x c e = true) : NoSl e := fun ov iv => by
  cases e with
  | Slice a b d p => rw [okE_slice] at h; cases h
  | _ => rfl
theorem s_key (O : Ok G P ft k c Y) {a i : X} {ea ei : Expr} {pos : Pos} (A : Snd G (ecN P k) Y ea a) (B : Snd G (ecN P k) Y ei i) (hp : NoSl ei) : Snd G (ecN P k) Y (.Subscript ea ei pos) (.key a i) := by
  refine Snd.of (PE.imp (pe_dget (by have := O.room.un; omega) A.pe B.pe hp) fun σ H Q q => ?_) (fun _ => rfl) (fun _ _ _ z => nomatch z)
  obtain ⟨ω, M, env, he, hh, post⟩ := q
  rw [ev] at post
  refine tE_pair he hh post fun x y M2 ω2 H2 v w he2 hh2 r1 r2 p le => ?_
  split at p
  · rename_i ks ds e1 e2
    split at p
    · rename_i d ed
      obtain ⟨q, vs, f1, f2, f3, f4, f5⟩ := dicOf_ok hh2 r1 e1
      obtain ⟨u, g1, g2⟩ := (dget_ok e2 f3 f4 f5).1 d ed
      exact ⟨q, u, f1, .inl ⟨_, kk y, f2, key_val e2 r2, g1.symm⟩, Post.here p hh2 g2⟩
    · exact False.elim p
  · exact False.elim p
/-! ### texts with a place -/
theorem s_fst {p q : Tx} {a : X} {y z : Str} {n m : Nat} {p1 p2 p3 pos : Pos} {ea : Expr} (hy : y.cps.toList = p) (hz : z.cps.toList = q) (hpl : p.length ≤ lim) (A : Snd G (ecN P k) Y ea a) :
    Snd G (ecN P k) Y (.JoinedStr [.Constant (.str y) n p1, .FormattedValue ea (.negSucc 0) none p2, .Constant (.str z) m p3] pos) (.fst p a q) := by
  have ey : y = sS p := by unfold sS; rw [← hy]
  have ez : z = sS q := by unfold sS; rw [← hz]
  subst ey ez
  refine Snd.of (PE.imp (pe_joined (.cons pe_str (.cons (pe_fmt A.pe) (.cons pe_str .nil)))) fun σ H Q q' => ?_) (fun _ => rfl) (fun _ _ _ z => nomatch z)
  obtain ⟨ω, M, env, he, hh, post⟩ := q'
  rw [ev] at post
  have e0 : Str.empty ++ sS p = sS p := by
    show sS [] ++ sS p = sS p
    rw [sS_app]
    rfl
  have big_log : ∀ i : Int, -big < i → i < big → i.natAbs.log2 < 1920 := fun i h1 h2 => by
    have h3 : i.natAbs < 2 ^ 64 := by unfold big at h1 h2; omega
    by_cases hz : i.natAbs = 0
    · rw [hz]; decide
    · exact Nat.lt_trans ((Nat.log2_lt hz).mpr h3) (by decide)
  have lim' := lim_le
  have fin : ∀ (s : Tx) (M1 : List O) (ω1 : Wd) (H1 : Hp), HRel G ω1 M1 H1 → PostE G ω1 (if p.length + s.length + q.length ≤ lim then .ok (.str (p ++ s ++ q)) M1 else .er) Q → s.length ≤ sizeLine ∧ ∃ y', V.str (sS s) = .str y' ∧ (Str.empty ++ sS p ++ y').length ≤ sizeLine ∧ ∃ y2, V.str (sS q) = .str y2 ∧ (Str.empty ++ sS p ++ y' ++ y2).length ≤ sizeLine ∧ Q (.str (Str.empty ++ sS p ++ y' ++ y2)) H1 := by
    intro s M1 ω1 H1 hh1 p1
    split at p1
    · rename_i hl
      refine ⟨by omega, sS s, rfl, ?_, sS q, rfl, ?_, ?_⟩
      · rw [e0, sS_app, sS_len, List.length_append]
        omega
      · rw [e0, sS_app, sS_app, sS_len, List.length_append, List.length_append]
        omega
      · rw [e0, sS_app, sS_app]
        exact post_str p1 hh1
    · exact False.elim p1
  show ∃ y : Str, V.str (sS p) = .str y ∧ (Str.empty ++ y).length ≤ sizeLine ∧ _
  refine ⟨sS p, rfl, by rw [e0, sS_len]; omega, ?_⟩
  refine tE_bind he hh post fun d M1 ω1 H1 v he1 hh1 r p1 le => ?_
  cases d with
  | str s =>
    rw [Rel] at r
    obtain ⟨f1, f2⟩ := fin s M1 ω1 H1 hh1 p1
    exact .inl ⟨sS s, r, by rw [sS_len]; exact f1, f2⟩
  | int i =>
    rw [Rel] at r
    have p1 : PostE G ω1 ((if (decide (-big < i) && decide (i < big)) = true then .ok (.str (itx i)) M1 else .er : Rs D).bind fun y M2 => match y with
      | .str s => if p.length + s.length + q.length ≤ lim then .ok (.str (p ++ s ++ q)) M2 else .er
      | _ => .er) Q := p1
    by_cases hb : (decide (-big < i) && decide (i < big)) = true
    · rw [if_pos hb] at p1
      rw [Bool.and_eq_true, decide_eq_true_eq, decide_eq_true_eq] at hb
      obtain ⟨f1, f2⟩ := fin (itx i) M1 ω1 H1 hh1 p1
      refine .inr ⟨i, r, big_log i hb.1 hb.2, ?_⟩
      rw [itx_str] at f2
      exact f2
    · rw [if_neg hb] at p1
      exact False.elim p1
  | _ => exact False.elim p1
end
end Ev


set_option autoImplicit false
set_option Elab.async false
set_option linter.all false
set_option maxRecDepth 100000
set_option maxHeartbeats 4000000
/-! EwC: methods of built-in things. -/
namespace Ev
open PySem PySem.Spec PyProof.Rows L2 EvCall
section
variable {G : Gs} {P : Pg} {ft : List Ft} {k : Nat} {c : Ck} {Y : L2.Cx}
theorem bm_lst {ω : Wd} {M : List O} {H : Hp} {d : D} {v : V} {m : Nat} (hm : m < 2 ∨ m = 6) (h : HRel G ω M H) (r : Rel G ω d v) (e : bmOk m d M = true) : ∃ p vs, v = .ref p ∧ H p = some (.lst vs) := by
  unfold bmOk at e
  split at e
  · exact absurd hm (by decide)
  · exact absurd hm (by decide)
  · exact absurd hm (by decide)
  · exact absurd hm (by decide)
  · split at e
    · rename_i a
      split at e
      · rename_i ds em
        obtain ⟨p, vs, f1, f2, _⟩ := listOf_ok (ds := ds) h r (by unfold listOf seen; dsimp only; rw [em])
        exact ⟨p, vs, f1, f2⟩
      · cases e
    · cases e
theorem evs_two {C : Ec} {x y : X} {env : En} {M : List O} {α : Type} {f : List D → List O → Rs α} : (evs C [x, y] env M).bind f = (ev C x env M).bind fun d M1 => (ev C y env M1).bind fun e M2 => f [d, e] M2 := by
  rw [evs]
  cases ev C x env M with
  | er => rfl
  | ex _ _ => rfl
  | ok d M1 =>
    simp only [Rs.bind]
    rw [evs_one]
    cases ev C y env M1 <;> rfl
theorem idx_ok {ω : Wd} {d : D} {v : V} (hd : flat d = true) (r : Rel G ω d v) : ∀ {ds : List D} {vs : List V} {j : Nat}, ds.all flat = true → Rels G ω ds vs → idxD d ds = some j →
    ∃ z, vs[j]? = some z ∧ eqV z v = true ∧ ∀ (m : Nat) (z' : V), m < j → vs[m]? = some z' → eqV z' v = false
  | [], _, _, _, _, h => by rw [idxD] at h; cases h
  | x :: ds, vs, j, hf, rs, h => by
    rw [List.all_cons, Bool.and_eq_true] at hf
    rw [Rels] at rs
    obtain ⟨u, ws, rfl, ru, rw_⟩ := rs
    have e := eq_ok hf.1 hd ru r
    rw [idxD] at h
    split at h
    · rename_i c
      cases h
      exact ⟨u, rfl, by rw [e]; exact c, fun m z' hm => absurd hm (Nat.not_lt_zero _)⟩
    · rename_i c
      cases e2 : idxD d ds with
      | none => rw [e2] at h; cases h
      | some i =>
        rw [e2] at h
        cases h
        obtain ⟨z, f1, f2, f3⟩ := idx_ok hd r hf.2 rw_ e2
        refine ⟨z, by simpa using f1, f2, fun m z' hm hz => ?_⟩
        cases m with
        | zero =>
          simp at hz
          subst hz
          rw [e]
          exact Bool.eq_false_iff.mpr c
        | succ m => exact f3 m z' (Nat.lt_of_succ_lt_succ hm) (by simpa using hz)
theorem strsOf_ok {ω : Wd} : ∀ {ds : List D} {vs : List V} {ys : List Tx}, strsOf ds = some ys → Rels G ω ds vs → vs = (ys.map sS).map V.str
  | [], vs, ys, h, r => by
    rw [Rels] at r
    subst r
    rw [strsOf] at h
    cases h
    rfl
  | d :: ds, vs, ys, h, r => by
    cases d with
    | str x =>
      rw [strsOf] at h
      rw [Rels] at r
      obtain ⟨v, w, e, a, q⟩ := r
      subst e
      rw [Rel] at a
      subst a
      cases e2 : strsOf ds with
      | none => rw [e2] at h; cases h
      | some zs =>
        rw [e2] at h
        have h3 : x :: zs = ys := Option.some.inj h
        rw [← h3, strsOf_ok e2 q]
        rfl
    | _ => cases h
theorem rels_strs {ω : Wd} : ∀ (ys : List Tx), Rels G ω (ys.map D.str) ((ys.map sS).map V.str)
  | [] => Rels.nil
  | y :: ys => Rels.cons (by rw [Rel]) (rels_strs ys)
theorem lens_sS (ys : List Tx) : ((ys.map sS).map (·.length)).sum = (ys.map List.length).sum := by
  induction ys with
  | nil => rfl
  | cons y ys ih => simp only [List.map_cons, List.sum_cons, ih, sS_len]
theorem bm_str {M : List O} {d : D} {m : Nat} (hm : m = 4 ∨ m = 5) (e : bmOk m d M = true) : ∃ a, d = .str a := by
  unfold bmOk at e
  rcases hm with rfl | rfl <;> (cases d with
    | str a => exact ⟨a, rfl⟩
    | _ => cases e)
theorem s_bm (O : Ok G P ft k c Y) {m : Nat} {a : X} {es : List X} {w : String} {ea : Expr} {as : List Expr} {ap pos : Pos} (hw : bmName m = some w) (hs : notSup ea = true) (hln : (ap.endLine == pos.line) = true) (hla : as.length = bmAr m) (A : Snd G (ecN P k) Y ea a) (E : PEs G (ecN P k) Y as es) :
    Snd G (ecN P k) Y (.Call (.Attribute ea (Str.ofString w) ap) as [] pos) (.bm m a es) := by
  have few := few_ok (kws := []) (kn := []) (ke := []) E rfl (by rw [hla]; unfold bmAr; split <;> decide) pos
  match m, hw with
  | 0, hw =>
    cases hw
    cases E with
    | nil => cases hla
    | @cons e rs x xs h1 ns r =>
      cases r with
      | cons _ _ _ => cases hla
      | nil =>
        refine Snd.of (PE.imp (pe_bm F.plainAttrs_list F.slot_list_append F.type_list_append mt_append A.pe (pa_cons h1 pa_nil (ns _ _)) (notSup_ok hs) few hln (ns _ _) rfl) fun σ H Q q => ?_) (fun _ => rfl) (fun _ _ _ z => nomatch z)
        obtain ⟨ω, M, env, he, hh, post⟩ := q
        rw [ev] at post
        refine tE_bind he hh post fun d M1 ω1 H1 v he1 hh1 r p le => ?_
        split at p
        · rename_i hok
          obtain ⟨b, vs0, e1, e2⟩ := bm_lst (m := 0) (by decide) hh1 r hok
          subst e1
          refine ⟨.inl ⟨rfl, vs0, SqL.of e2⟩, ?_⟩
          rw [evs_one] at p
          have p : PostE G ω1 ((ev (ecN P k) x env M1).bind fun y M2 => bmeth 0 d [y] M2) Q := by
            cases e9 : ev (ecN P k) x env M1 with
            | er => rw [e9] at p; exact p
            | ex _ _ => rw [e9] at p; exact p
            | ok y M2 => rw [e9] at p; exact p
          refine tE_bind he1 hh1 p fun y M2 ω2 H2 w he2 hh2 r2 p2 le2 => ?_
          have rd := Rel.mono le2 _ _ r
          cases d with
          | ref i =>
            have p2 : PostE G ω2 (match M2[i]? with
              | some (.lst l) => if l.length < lim then .ok .non (M2.set i (.lst (l ++ [y]))) else .er
              | _ => .er) Q := p2
            split at p2
            · rename_i l em
              split at p2
              · rename_i hl
                obtain ⟨b', vs, f1, f2, f3⟩ := listOf_ok (ds := l) hh2 rd (by unfold listOf seen; dsimp only; rw [em])
                cases f1
                refine ⟨b, vs, w, rfl, rfl, f2, by rw [f3.length]; exact Nat.lt_of_lt_of_le hl lim_le, ?_⟩
                rw [Rel] at rd
                obtain ⟨b2, g1, g2⟩ := rd
                cases g2
                have hh3 := hh2.setM (o' := .lst (l ++ [y])) (ho' := .lst (vs ++ [w])) em (by intro z; cases z) g1 ⟨_, rfl, f3.append (Rels.one r2)⟩
                exact Post.here p2 hh3 (by rw [Rel])
              · exact False.elim p2
            · exact False.elim p2
          | _ => exact False.elim p2
        · exact False.elim p
  | 1, hw =>
    cases hw
    cases E with
    | cons _ _ _ => cases hla
    | nil =>
      refine Snd.of (PE.imp (pe_bm0 F.plainAttrs_list F.slot_list_clear F.type_list_clear mt_clear A.pe (notSup_ok hs) hln) fun σ H Q q => ?_) (fun _ => rfl) (fun _ _ _ z => nomatch z)
      obtain ⟨ω, M, env, he, hh, post⟩ := q
      rw [ev] at post
      refine tE_bind he hh post fun d M1 ω1 H1 v he1 hh1 r p le => ?_
      split at p
      · rename_i hok
        obtain ⟨b, vs0, e1, e2⟩ := bm_lst (m := 1) (by decide) hh1 r hok
        subst e1
        refine ⟨.inl ⟨rfl, vs0, SqL.of e2⟩, ?_⟩
        rw [evs] at p
        cases d with
        | ref i =>
          have p : PostE G ω1 (match M1[i]? with
            | some (.lst _) => .ok .non (M1.set i (.lst []))
            | _ => .er) Q := p
          split at p
          · rename_i l em
            rw [Rel] at r
            obtain ⟨b2, g1, g2⟩ := r
            cases g2
            have hh3 := hh1.setM (o' := .lst []) (ho' := .lst []) em (by intro z; cases z) g1 ⟨[], rfl, Rels.nil⟩
            exact ⟨b, vs0, rfl, rfl, e2, Post.here p hh3 (by rw [Rel])⟩
          · exact False.elim p
        | _ => exact False.elim p
      · exact False.elim p
  | 2, hw =>
    cases hw
    cases E with
    | nil => cases hla
    | @cons e rs x xs h1 ns r =>
      cases r with
      | nil => cases hla
      | @cons e' rs' x' xs' h1' ns' r' =>
        cases r' with
        | cons _ _ _ => cases hla
        | nil =>
          have tr : backTo pos (starEach [e, e'] Y.env) = [(false, eval e Y.env), (false, eval e' Y.env)] := by
            rw [ns, ns']
            rfl
          refine Snd.of (PE.imp (pe_dget2 (by have := O.room.un; omega) A.pe h1 h1' ⟨notSup_ok hs, few, hln, tr⟩) fun σ H Q q => ?_) (fun _ => rfl) (fun _ _ _ z => nomatch z)
          obtain ⟨ω, M, env, he, hh, post⟩ := q
          rw [ev] at post
          refine tE_bind he hh post fun d M1 ω1 H1 v he1 hh1 r p le => ?_
          split at p
          · rename_i hok
            have hok : (dicOf M1 d).isSome = true := hok
            obtain ⟨⟨ks0, ds0⟩, ed⟩ := Option.isSome_iff_exists.mp hok
            obtain ⟨b, vs0, e1, e2, _⟩ := dicOf_ok hh1 r ed
            subst e1
            refine ⟨b, rfl, .inl ⟨_, e2⟩, ?_⟩
            rw [evs_two] at p
            refine tE_pair he1 hh1 p fun y z M3 ω3 H3 w u he3 hh3 r2 r3 p3 le3 => ?_
            have rd := Rel.mono le3 _ _ r
            have p3 : PostE G ω3 (match dicOf M3 d with
              | some (ks, ds) => if isKey y then .ok ((dget ks ds y).getD z) M3 else .er
              | none => .er) Q := p3
            split at p3
            · rename_i ks ds em
              split at p3
              · rename_i hk
                obtain ⟨b', vs, f1, f2, f3, f4, f5⟩ := dicOf_ok hh3 rd em
                cases f1
                obtain ⟨g1, g2⟩ := dget_ok hk f3 f4 f5
                refine ⟨valV (kvsOf ks vs) (kk y), .inl ⟨_, kk y, f2, key_val hk r2, rfl⟩, ?_⟩
                cases eg : dget ks ds y with
                | none =>
                  rw [eg] at p3
                  rw [g2 eg]
                  exact Post.here p3 hh3 r3
                | some dd =>
                  rw [eg] at p3
                  obtain ⟨vv, k1, k2⟩ := g1 dd eg
                  rw [k1]
                  exact Post.here p3 hh3 k2
              · exact False.elim p3
            · exact False.elim p3
          · exact False.elim p
  | 3, hw =>
    cases hw
    cases E with
    | nil => cases hla
    | @cons e rs x xs h1 ns r =>
      cases r with
      | cons _ _ _ => cases hla
      | nil =>
        refine Snd.of (PE.imp (pe_bm F.plainAttrs_list F.slot_list_index F.type_list_index mt_index A.pe (pa_cons h1 pa_nil (ns _ _)) (notSup_ok hs) few hln (ns _ _) rfl) fun σ H Q q => ?_) (fun _ => rfl) (fun _ _ _ z => nomatch z)
        obtain ⟨ω, M, env, he, hh, post⟩ := q
        rw [ev] at post
        refine tE_bind he hh post fun d M1 ω1 H1 v he1 hh1 r p le => ?_
        split at p
        · rename_i hok
          have hok : (listOf M1 d).isSome = true := hok
          obtain ⟨l0, ed⟩ := Option.isSome_iff_exists.mp hok
          obtain ⟨b, vs0, e1, e2, _⟩ := listOf_ok hh1 r ed
          subst e1
          refine ⟨.inl ⟨rfl, vs0, SqL.of e2⟩, ?_⟩
          rw [evs_one] at p
          have p : PostE G ω1 ((ev (ecN P k) x env M1).bind fun y M2 => bmeth 3 d [y] M2) Q := by
            cases e9 : ev (ecN P k) x env M1 with
            | er => rw [e9] at p; exact p
            | ex _ _ => rw [e9] at p; exact p
            | ok y M2 => rw [e9] at p; exact p
          refine tE_bind he1 hh1 p fun y M2 ω2 H2 w he2 hh2 r2 p2 le2 => ?_
          have rd := Rel.mono le2 _ _ r
          have p2 : PostE G ω2 (match listOf M2 d with
            | some l => if flat y && l.all flat then (match idxD y l with
              | some j => .ok (.int j) M2
              | none => .er) else .er
            | none => .er) Q := p2
          split at p2
          · rename_i l em
            split at p2
            · rename_i hf
              rw [Bool.and_eq_true] at hf
              split at p2
              · rename_i j ej
                obtain ⟨b', vs, f1, f2, f3⟩ := listOf_ok hh2 rd em
                cases f1
                obtain ⟨z, g1, g2, g3⟩ := idx_ok hf.1 r2 hf.2 f3 ej
                have ha := (in_ok hf.1 r2 hf.2 f3).1
                exact ⟨b, vs, w, j, z, rfl, rfl, SqL.of f2, flat_ok hf.1 r2, ha, g1, g2, g3, post_int p2 hh2⟩
              · exact False.elim p2
            · exact False.elim p2
          · exact False.elim p2
        · exact False.elim p
  | 4, hw =>
    cases hw
    cases E with
    | nil => cases hla
    | @cons e rs x xs h1 ns r =>
      cases r with
      | cons _ _ _ => cases hla
      | nil =>
        refine Snd.of (PE.imp (pe_m1 F.slot_str_join F.type_str_join mt_join A.pe h1 (ns _ _) (notSup_ok hs) hln) fun σ H Q q => ?_) (fun _ => rfl) (fun _ _ _ z => nomatch z)
        obtain ⟨ω, M, env, he, hh, post⟩ := q
        rw [ev] at post
        refine tE_bind he hh post fun d M1 ω1 H1 v he1 hh1 r p le => ?_
        split at p
        · rename_i hok
          obtain ⟨a, rfl⟩ := bm_str (.inl rfl) hok
          rw [Rel] at r
          subst r
          refine ⟨⟨_, rfl⟩, ?_⟩
          rw [evs_one] at p
          have p : PostE G ω1 ((ev (ecN P k) x env M1).bind fun y M2 => bmeth 4 (.str a) [y] M2) Q := by
            cases e9 : ev (ecN P k) x env M1 with
            | er => rw [e9] at p; exact p
            | ex _ _ => rw [e9] at p; exact p
            | ok y M2 => rw [e9] at p; exact p
          refine tE_bind he1 hh1 p fun y M2 ω2 H2 w he2 hh2 r2 p2 le2 => ?_
          have p2 : PostE G ω2 (match itemsOf M2 y with
            | some l => (match strsOf l with
              | some ys => if (ys.map List.length).sum + ys.length * a.length ≤ lim then .ok (.str (joinC a ys)) M2 else .er
              | none => .er)
            | none => .er) Q := p2
          split at p2
          · rename_i l em
            split at p2
            · rename_i ys ey
              split at p2
              · rename_i hl
                obtain ⟨q, vs, f1, f2, f3⟩ := itemsOf_ok hh2 r2 em
                have f4 := strsOf_ok ey f3
                subst f1 f4
                refine ⟨_, q, ys.map sS, rfl, rfl, f2.imp (fun z => SqL.of z) (fun z => by rw [O.hK]; exact z), ?_, ?_⟩
                · rw [lens_sS, List.length_map, sS_len]
                  exact Nat.le_trans hl (by decide)
                · rw [join_sS]
                  exact post_str p2 hh2
              · exact False.elim p2
            · exact False.elim p2
          · exact False.elim p2
        · exact False.elim p
  | 5, hw =>
    cases hw
    cases E with
    | nil => cases hla
    | @cons e rs x xs h1 ns r =>
      cases r with
      | cons _ _ _ => cases hla
      | nil =>
        refine Snd.of (PE.imp (pe_m1 F.slot_str_split F.type_str_split mt_split A.pe h1 (ns _ _) (notSup_ok hs) hln) fun σ H Q q => ?_) (fun _ => rfl) (fun _ _ _ z => nomatch z)
        obtain ⟨ω, M, env, he, hh, post⟩ := q
        rw [ev] at post
        refine tE_bind he hh post fun d M1 ω1 H1 v he1 hh1 r p le => ?_
        split at p
        · rename_i hok
          obtain ⟨a, rfl⟩ := bm_str (.inr rfl) hok
          rw [Rel] at r
          subst r
          refine ⟨⟨_, rfl⟩, ?_⟩
          rw [evs_one] at p
          have p : PostE G ω1 ((ev (ecN P k) x env M1).bind fun y M2 => bmeth 5 (.str a) [y] M2) Q := by
            cases e9 : ev (ecN P k) x env M1 with
            | er => rw [e9] at p; exact p
            | ex _ _ => rw [e9] at p; exact p
            | ok y M2 => rw [e9] at p; exact p
          refine tE_bind he1 hh1 p fun y M2 ω2 H2 w he2 hh2 r2 p2 le2 => ?_
          cases y with
          | str b =>
            match b, r2, p2 with
            | [cc], r2, p2 =>
              have p2 : PostE G ω2 (if Nat.blt cc 256 && decide (a.length < lim) then .ok (.lst ((splC cc a).map .str)) M2 else .er) Q := p2
              split at p2
              · rename_i hc
                rw [Bool.and_eq_true] at hc
                have c1 : cc < 256 := Nat.le_of_ble_eq_true hc.1
                have c2 := of_decide_eq_true hc.2
                rw [Rel] at r2
                subst r2
                refine ⟨_, _, rfl, rfl, rfl, ?_, fun z hz => ?_⟩
                · rw [sS_len]
                  have := lim_le
                  unfold lim at this c2
                  have : (16777216 : Nat) ≤ sizeLine := by rw [sizeLine_eq]; decide
                  omega
                · rw [split_sS c1]
                  exact post_lst p2 hh2 hz (rels_strs _)
              · exact False.elim p2
            | [], _, p2 => exact False.elim p2
            | _ :: _ :: _, _, p2 => exact False.elim p2
          | _ => exact False.elim p2
        · exact False.elim p
  | 6, hw =>
    cases hw
    cases E with
    | nil => cases hla
    | @cons e rs x xs h1 ns r =>
      cases r with
      | cons _ _ _ => cases hla
      | nil =>
        refine Snd.of (PE.imp (pe_bm F.plainAttrs_list F.slot_list_extend F.type_list_extend mt_extend A.pe (pa_cons h1 pa_nil (ns _ _)) (notSup_ok hs) few hln (ns _ _) rfl) fun σ H Q q => ?_) (fun _ => rfl) (fun _ _ _ z => nomatch z)
        obtain ⟨ω, M, env, he, hh, post⟩ := q
        rw [ev] at post
        refine tE_bind he hh post fun d M1 ω1 H1 v he1 hh1 r p le => ?_
        split at p
        · rename_i hok
          obtain ⟨b, vs0, e1, e2⟩ := bm_lst (m := 6) (by decide) hh1 r hok
          subst e1
          refine ⟨.inl ⟨rfl, vs0, SqL.of e2⟩, ?_⟩
          rw [evs_one] at p
          have p : PostE G ω1 ((ev (ecN P k) x env M1).bind fun y M2 => bmeth 6 d [y] M2) Q := by
            cases e9 : ev (ecN P k) x env M1 with
            | er => rw [e9] at p; exact p
            | ex _ _ => rw [e9] at p; exact p
            | ok y M2 => rw [e9] at p; exact p
          refine tE_bind he1 hh1 p fun y M2 ω2 H2 w he2 hh2 r2 p2 le2 => ?_
          have rd := Rel.mono le2 _ _ r
          cases d with
          | ref i =>
            cases y with
            | lst rl =>
              have p2 : PostE G ω2 (match M2[i]? with
                | some (.lst l) => if l.length + rl.length ≤ lim then .ok .non (M2.set i (.lst (l ++ rl))) else .er
                | _ => .er) Q := p2
              split at p2
              · rename_i l em
                split at p2
                · rename_i hl
                  obtain ⟨b', vs, f1, f2, f3⟩ := listOf_ok (ds := l) hh2 rd (by unfold listOf seen; dsimp only; rw [em])
                  cases f1
                  rw [Rel] at r2
                  obtain ⟨b3, zs, h3, h4, h5⟩ := r2
                  subst h3
                  refine ⟨b, b3, vs, zs, rfl, rfl, f2, hh2.imm _ _ h4, by rw [f3.length, h5.length]; exact Nat.le_trans hl lim_le, ?_⟩
                  rw [Rel] at rd
                  obtain ⟨b2, g1, g2⟩ := rd
                  cases g2
                  have hh3 := hh2.setM (o' := .lst (l ++ rl)) (ho' := .lst (vs ++ zs)) em (by intro z; cases z) g1 ⟨_, rfl, f3.append h5⟩
                  exact Post.here p2 hh3 (by rw [Rel])
                · exact False.elim p2
              · exact False.elim p2
            | _ => exact False.elim p2
          | _ => exact False.elim p2
        · exact False.elim p
  | _ + 7, hw => cases hw
end
end Ev


set_option autoImplicit false
set_option Elab.async false
set_option linter.all false
set_option maxRecDepth 100000
set_option maxHeartbeats 4000000
/-! EvS: exceptions as values, against the evaluator. -/
namespace Ev
open PySem PySem.Spec PyProof.Rows L2 PySem.EvXK
theorem codeT : sS [99, 111, 100, 101] = ("code" : Str) := by decide +kernel
theorem zipF_look : ∀ {ks : List Tx} {vs : List V} {ds : List D} {G : Gs} {ω : Wd} {f : Tx} {d : D}, Rels G ω ds vs → ks.length = ds.length → field ks ds f = some d → f ∈ ks ∧ ∃ v, (zipF ks vs).lookup (sS f) = some v ∧ Rel G ω d v
  | [], vs, ds, G, ω, f, d, r, hl, h => by cases ds <;> cases h
  | k :: ks, vs, [], G, ω, f, d, r, hl, h => by cases h
  | k :: ks, vs, e :: ds, G, ω, f, d, r, hl, h => by
    rw [Rels] at r
    obtain ⟨v, t, ev, a, b⟩ := r
    subst ev
    rw [field] at h
    have tx : ∀ {a b : Tx}, txEq a b = true ↔ a = b := by
      intro a
      induction a with
      | nil => intro b; cases b <;> simp [txEq]
      | cons x a ih => intro b; cases b with
        | nil => simp [txEq]
        | cons y b => simp [txEq, ih]
    by_cases e1 : txEq k f = true
    · rw [if_pos e1] at h
      have := tx.mp e1
      subst this
      cases h
      exact ⟨List.mem_cons_self, v, by simp [zipF, List.lookup], a⟩
    · rw [if_neg e1] at h
      obtain ⟨m, w, h1, h2⟩ := zipF_look (ks := ks) b (by simpa using hl) h
      have ne : (sS f == sS k) = false := by
        cases q : (sS f == sS k) with
        | false => rfl
        | true =>
          have q := eq_of_beq q
          unfold sS at q
          injection q with q
          have q : f = k := by simpa using congrArg Array.toList q
          exact absurd (tx.mpr q.symm) e1
      exact ⟨List.mem_cons_of_mem _ m, w, by rw [zipF, List.lookup, ne]; exact h1, h2⟩
section
variable {G : Gs} {P : Pg} {ft : List Ft} {k : Nat} {c : Ck} {Y : L2.Cx}
theorem s_attr (O : Ok G P ft k c Y) {a : X} {f : Tx} {ea : Expr} {pos : Pos} (A : Snd G (ecN P k) Y ea a) (hn : notSup ea = true) : Snd G (ecN P k) Y (.Attribute ea (sS f) pos) (.attr a f) := by
  refine Snd.of (PE.imp (pe_xa A.pe (notSup_ok hn)) fun σ H Q q => ?_) (fun _ => rfl) (fun _ _ _ z => nomatch z)
  obtain ⟨ω, M, env, he, hh, post⟩ := q
  rw [ev] at post
  refine tE_bind he hh post fun d M1 ω1 H1 v he1 hh1 r p le => ?_
  cases d with
  | exc i ks ds =>
    dsimp only at p
    split at p
    · rename_i d e
      rw [Rel] at r
      obtain ⟨q, dx, fs, vs, ev, e1, e2, e3, e4, e5, e6⟩ := r
      obtain ⟨m, w, f1, f2⟩ := zipF_look e6 e4 e
      refine ⟨q, G.CA i, dx, fs, w, ks, ev, e1.imp (hh1.imm _ _) (hh1.imm _ _), hh1.imm _ _ e2, (e3 _).trans f1, by rw [O.hK]; exact e5, by rw [O.hK]; exact e5.no f m, Post.here p hh1 f2⟩
    · exact False.elim p
  | _ => exact False.elim p
/-- a new exception -/
theorem post_exc {ω : Wd} {M : List O} {H : Hp} {i : Nat} {ks : List Tx} {ds : List D} {vs : List V} {fs : List (Str × V)} {Q : VK} {a dx : Addr} (p : PostE G ω (.ok (.exc i ks ds) M) Q) (hh : HRel G ω M H) (ha : H a = none) (hd : H dx = none) (ne : dx ≠ a)
    (e3 : ∀ f, fs.lookup f = (zipF ks vs).lookup f) (e4 : ks.length = ds.length) (e5 : XIs G.K (G.CA i) ks) (r : Rels G ω ds vs) : Q (.ref a) (upd (upd H dx (exd dx fs)) a (exo a (G.CA i) (some dx))) := by
  obtain ⟨h1, le1⟩ := hh.addI (o := exd dx fs) hd
  have ha2 : upd H dx (exd dx fs) a = none := by
    rw [upd_ne (Ne.symm ne)]
    exact ha
  obtain ⟨h2, le2⟩ := h1.addI (o := exo a (G.CA i) (some dx)) ha2
  refine p _ _ _ (le1.trans le2) h2 ?_
  rw [Rel]
  refine ⟨a, dx, fs, vs, rfl, .inl upd_same, ?_, e3, e4, e5, Rels.mono (le1.trans le2) _ _ r⟩
  show upd (upd ω.imm dx (exd dx fs)) a _ dx = _
  rw [upd_ne ne, upd_same]
/-- the class is called with these values, by position or by the field's name -/
theorem run_x (O : Ok G P ft k c Y) {i : Nat} {x : Str} {f : Option Str} (hx : c.xn[i]? = some (x, f)) {pins : List (Addr × Obj)} {s : Shared} {σ : L2.St} {H : Hp} {us ws : List Value} {kw : List (Str × Value)} {vs : List V} {Q : VK} (I : Inv Y pins σ H s) (r : Vals vs ws)
    (hk : us = ws ∧ kw = [] ∨ ∃ g, f = some g ∧ us = [] ∧ kw = [g].zip ws) (h : ∃ ω M ds, HRel G ω M H ∧ Rels G ω ds vs ∧ PostE G ω (match P.exn[i]?, ds with
      | some (some (n, some f)), [d] => .ok (.exc i [f, [99, 111, 100, 101]] [d, .str n]) M
      | some (some (n, none)), [] => .ok (.exc i [[99, 111, 100, 101]] [.str n]) M
      | _, _ => .er) Q) : wpAny (model Y.prog Y.w) Y.A (PySem.call (.ref (G.CA i)) us kw) (EP Y pins σ Q) Y.xe s := by
  obtain ⟨g1, g0, g2⟩ := O.xcs i x f hx
  obtain ⟨ω, M, ds, hh, rs, post⟩ := h
  split at post
  · rename_i n f' d en
    obtain ⟨k1, ⟨X⟩, k3⟩ := g2 n (some f') en
    obtain ⟨v, rfl, rd⟩ := rels1 rs
    obtain ⟨u, rfl, ru⟩ : ∃ u, ws = [u] ∧ RelV v u := by
      cases r with
      | cons a b => cases b; exact ⟨_, rfl, a⟩
    have p2 : PostE G ω (.ok (.exc i (xks (some f')) [d, .str n]) M) Q := post
    have fin : ∀ a dx, H a = none → H dx = none → dx ≠ a → Q (.ref a) (upd (upd H dx (exd dx (xfs (sS n) (some (sS f')) [v]))) a (exo a (G.CA i) (some dx))) := fun a dx ha hd ne => by
      refine post_exc (vs := [v, .str (sS n)]) p2 hh ha hd ne (fun g => ?_) rfl (by rw [← O.hK]; exact k3) (Rels.cons rd (Rels.one (by rw [Rel])))
      show List.lookup g [(sS f', v), ("code", _)] = List.lookup g [(sS f', v), (sS [99, 111, 100, 101], _)]
      rw [codeT]
    rcases hk with ⟨rfl, rfl⟩ | ⟨g, e1, rfl, rfl⟩
    · exact run_mkx (full := [u]) (vs := [v]) X (O.room.mono (by omega)) I (by simp) (fun s a => X.b1 s a u) (.cons ru .nil) ⟨v, rfl⟩ fin
    · rw [k1] at e1
      have e1 : sS f' = g := Option.some.inj e1
      subst e1
      exact run_mkx (full := [u]) (vs := [v]) X (O.room.mono (by omega)) I (by simp) (fun s a => X.bk s a u) (.cons ru .nil) ⟨v, rfl⟩ fin
  · rename_i n en
    obtain ⟨k1, ⟨X⟩, k3⟩ := g2 n none en
    have : vs = [] := by rw [Rels] at rs; exact rs
    subst this
    have : ws = [] := by cases r; rfl
    subst this
    have p2 : PostE G ω (.ok (.exc i (xks none) [.str n]) M) Q := post
    have fin : ∀ a dx, H a = none → H dx = none → dx ≠ a → Q (.ref a) (upd (upd H dx (exd dx (xfs (sS n) none []))) a (exo a (G.CA i) (some dx))) := fun a dx ha hd ne => by
      refine post_exc (vs := [.str (sS n)]) p2 hh ha hd ne (fun g => ?_) rfl (by rw [← O.hK]; exact k3) (Rels.one (by rw [Rel]))
      show List.lookup g [("code", _)] = List.lookup g [(sS [99, 111, 100, 101], _)]
      rw [codeT]
    rcases hk with ⟨rfl, rfl⟩ | ⟨g, e1, rfl, rfl⟩
    · exact run_mkx (full := []) (vs := []) X (O.room.mono (by omega)) I (by simp) (fun s a => X.b0 s a) .nil rfl fin
    · rw [k1] at e1
      cases e1
  · exact False.elim post
/-- what is wanted of the exception that is made of these values -/
def PXm (G : Gs) (P : Pg) (i : Nat) (ω : Wd) (M : List O) (ds : List D) : Prop := match P.exn[i]?, ds with
  | some (some (n, some f)), [d] => PX G ω (.exc i [f, [99, 111, 100, 101]] [d, .str n]) M
  | some (some (n, none)), [] => PX G ω (.exc i [[99, 111, 100, 101]] [.str n]) M
  | _, _ => False
theorem run_xr (O : Ok G P ft k c Y) {i : Nat} {x : Str} {f : Option Str} (hx : c.xn[i]? = some (x, f)) {pins : List (Addr × Obj)} {s : Shared} {σ : L2.St} {H : Hp} {us : List Value} {vs : List V} {QX : XK} (I : Inv Y pins σ H s) (r : Vals vs us)
    (h : ∃ ω M ds, HRel G ω M H ∧ Rels G ω ds vs ∧ PXm ⟨G.toG0, QX⟩ P i ω M ds) : wpAny (model Y.prog Y.w) Y.A (PySem.call (.ref (G.CA i)) us []) (MkP Y pins σ QX) Y.xe s := by
  obtain ⟨g1, g0, g2⟩ := O.xcs i x f hx
  obtain ⟨ω, M, ds, hh, rs, post⟩ := h
  unfold PXm at post
  split at post
  · rename_i n f' d en
    obtain ⟨k1, ⟨X⟩, k3⟩ := g2 n (some f') en
    obtain ⟨v, rfl, rd⟩ := rels1 rs
    obtain ⟨u, rfl, ru⟩ : ∃ u, us = [u] ∧ RelV v u := by
      cases r with
      | cons a b => cases b; exact ⟨_, rfl, a⟩
    refine run_mkr (full := [u]) (vs := [v]) X k3.be (O.room.mono (by omega)) I (by simp) (fun s a => X.b1 s a u) (.cons ru .nil) ⟨v, rfl⟩ fun dx hd => ?_
    obtain ⟨h1, le⟩ := hh.addI (o := exd dx (xfs (sS n) (some (sS f')) [v])) hd
    refine post _ _ _ _ le h1 ⟨rfl, dx, xfs (sS n) (some (sS f')) [v], [v, .str (sS n)], rfl, upd_same, fun g => ?_, rfl, by rw [← O.hK]; exact k3, Rels.mono le _ _ (Rels.cons rd (Rels.one (by rw [Rel])))⟩
    show List.lookup g [(sS f', v), ("code", _)] = List.lookup g [(sS f', v), (sS [99, 111, 100, 101], _)]
    rw [codeT]
  · rename_i n en
    obtain ⟨k1, ⟨X⟩, k3⟩ := g2 n none en
    have : vs = [] := by rw [Rels] at rs; exact rs
    subst this
    have : us = [] := by cases r; rfl
    subst this
    refine run_mkr (full := []) (vs := []) X k3.be (O.room.mono (by omega)) I (by simp) (fun s a => X.b0 s a) .nil rfl fun dx hd => ?_
    obtain ⟨h1, le⟩ := hh.addI (o := exd dx (xfs (sS n) none [])) hd
    refine post _ _ _ _ le h1 ⟨rfl, dx, xfs (sS n) none [], [.str (sS n)], rfl, upd_same, fun g => ?_, rfl, by rw [← O.hK]; exact k3, Rels.one (by rw [Rel])⟩
    show List.lookup g [("code", _)] = List.lookup g [(sS [99, 111, 100, 101], _)]
    rw [codeT]
  · exact False.elim post
def tRx (G : Gs) (P : Pg) (k i : Nat) (es : List X) : L2.St → Hp → XK → Prop := fun σ H QX => tEs G (ecN P k) es σ H fun vs H1 => ∃ ω M ds, HRel G ω M H1 ∧ Rels G ω ds vs ∧ PXm ⟨G.toG0, QX⟩ P i ω M ds
theorem pm_x (O : Ok G P ft k c Y) {i : Nat} {es : List X} {as : List Expr} {x : Str} {f : Option Str} {p pos : Pos} (hx : c.xn[i]? = some (x, f)) (hg : c.gl x = true) (hd : (x == ("__debug__" : Str)) = false) (A : PA Y as (tEs G (ecN P k) es)) (hl : es.length = as.length)
    (hs : ∀ e r, as = e :: r → starEach (e :: r) Y.env = (false, eval e Y.env) :: starEach r Y.env ∧ (backTo pos (starEach r Y.env)).any (·.1) = false) : PMk Y (.Call (.Name x p) as [] pos) (tRx G P k i es) := by
  obtain ⟨g1, g0, g2⟩ := O.xcs i x f hx
  intro pins s σ H Q I h
  refine wpAny_Call_Name_kw (ld_glob I (O.gl hg) g1 ?_ hd)
  cases as with
  | nil =>
    have : es = [] := List.length_eq_zero_iff.mp hl
    subst this
    obtain ⟨ω, M, env, he, hh, post⟩ := h
    rw [evs] at post
    exact PySem.W.callWith_K0 I.kIn g0 (run_xr O hx (vs := []) (us := []) I .nil (post ω H [] (Le.refl _) hh Rels.nil))
  | cons a r =>
    obtain ⟨h1, h2⟩ := hs a r rfl
    exact PySem.W.callWith_K (h₀ := Y.base) I.ok.mod.kin g0 (thn (A.run pos pins s σ H _ I h) fun us s1 ⟨vs, H1, I1, r1, q1⟩ => ⟨I1.kIn, run_xr O hx I1 r1 q1⟩) h1 h2
theorem s_mkx (O : Ok G P ft k c Y) {i : Nat} {es : List X} {as : List Expr} {x : Str} {f : Option Str} {kw : Bool} {p pos : Pos} (hx : c.xn[i]? = some (x, f)) (hg : c.gl x = true) (hd : (x == ("__debug__" : Str)) = false) (A : PA Y as (tEs G (ecN P k) es)) (hl : es.length = as.length)
    (hs : ∀ e r, as = e :: r → starEach (e :: r) Y.env = (false, eval e Y.env) :: starEach r Y.env ∧ (backTo pos (starEach r Y.env)).any (·.1) = false) : Snd G (ecN P k) Y (.Call (.Name x p) as [] pos) (.mkx i kw es) := by
  obtain ⟨g1, g0, g2⟩ := O.xcs i x f hx
  refine Snd.of ⟨fun pins s σ H Q I h => ?_⟩ (fun _ => rfl) (fun _ _ _ z => nomatch z)
  refine wpAny_Call_Name_kw (ld_glob I (O.gl hg) g1 ?_ hd)
  obtain ⟨ω, M, env, he, hh, post⟩ := h
  rw [ev] at post
  have post : PostE G ω ((evs (ecN P k) es env M).bind fun ds M1 => match P.exn[i]?, ds with
      | some (some (n, some f)), [d] => .ok (.exc i [f, [99, 111, 100, 101]] [d, .str n]) M1
      | some (some (n, none)), [] => .ok (.exc i [[99, 111, 100, 101]] [.str n]) M1
      | _, _ => .er) Q := post
  cases as with
  | nil =>
    have : es = [] := List.length_eq_zero_iff.mp hl
    subst this
    rw [evs] at post
    exact PySem.W.callWith_K0 I.kIn g0 (run_x O hx (vs := []) (ws := []) I .nil (.inl ⟨rfl, rfl⟩) ⟨ω, M, [], hh, Rels.nil, post⟩)
  | cons a r =>
    obtain ⟨h1, h2⟩ := hs a r rfl
    refine PySem.W.callWith_K (h₀ := Y.base) I.ok.mod.kin g0 (thn (A.run pos pins s σ H _ I ?_) fun us s1 ⟨vs, H1, I1, r1, q1⟩ => ⟨I1.kIn, run_x O hx I1 r1 (.inl ⟨rfl, rfl⟩) q1⟩) h1 h2
    exact tEs_bind he hh post fun ds M1 ω1 H1 vs he1 hh1 r p le => ⟨ω1, M1, ds, hh1, r, p⟩
theorem s_mkk (O : Ok G P ft k c Y) {i : Nat} {a : X} {ea : Expr} {x f : Str} {kw : Bool} {p kp pos : Pos} (hx : c.xn[i]? = some (x, some f)) (hg : c.gl x = true) (hd : (x == ("__debug__" : Str)) = false) (A : Snd G (ecN P k) Y ea a) : Snd G (ecN P k) Y (.Call (.Name x p) [] [⟨some f, ea, kp⟩] pos) (.mkx i kw [a]) := by
  obtain ⟨g1, g0, g2⟩ := O.xcs i x (some f) hx
  refine Snd.of ⟨fun pins s σ H Q I h => ?_⟩ (fun _ => rfl) (fun _ _ _ z => nomatch z)
  refine wpAny_Call_Name_kw (ld_glob I (O.gl hg) g1 ?_ hd)
  obtain ⟨ω, M, env, he, hh, post⟩ := h
  rw [ev, evs] at post
  have post : PostE G ω ((ev (ecN P k) a env M).bind fun d M1 => match P.exn[i]?, [d] with
      | some (some (n, some f)), [d] => .ok (.exc i [f, [99, 111, 100, 101]] [d, .str n]) M1
      | some (some (n, none)), [] => .ok (.exc i [[99, 111, 100, 101]] [.str n]) M1
      | _, _ => .er) Q := by
    cases e : ev (ecN P k) a env M with
    | er => rw [e] at post; exact False.elim post
    | ex _ _ => rw [e] at post; exact post
    | ok d M1 => rw [e] at post; exact post
  have q0 : tCons (tE G (ecN P k) a) tNil σ H (fun vs H1 => ∃ ω M ds, HRel G ω M H1 ∧ Rels G ω ds vs ∧ PostE G ω (match P.exn[i]?, ds with
      | some (some (n, some f)), [d] => .ok (.exc i [f, [99, 111, 100, 101]] [d, .str n]) M
      | some (some (n, none)), [] => .ok (.exc i [[99, 111, 100, 101]] [.str n]) M
      | _, _ => .er) Q) := tE_bind he hh post fun d M1 ω1 H1 v he1 hh1 r p le => ⟨ω1, M1, [d], hh1, Rels.one r, p⟩
  refine PySem.W.callWith_KW0 (h₀ := Y.base) I.ok.mod.kin g0 (by rfl) (thn ((pk_cons (nm := some f) (kpos := kp) A.pe pk_nil).run pos pins s σ H _ I q0) fun ws s2 ⟨zs, H2, I2, rz, q2⟩ => ⟨I2.kIn, ?_⟩) (by rfl)
  exact run_x (us := []) O hx I2 rz (.inr ⟨f, rfl, rfl, rfl⟩) q2
theorem boot_x {n : Nat} {y : String} (h : extName n = some y) : bootBuiltins (Str.ofString y) = some (.type y) ∧ (Str.ofString y) ∈ frees ∧ (Str.ofString y) ≠ "__name__" ∧ ((Str.ofString y) == ("__debug__" : Str)) = false := by
  match n, h with
  | 0, h => cases h; exact ⟨by decide +kernel, by decide +kernel, by decide +kernel, by decide +kernel⟩
  | 1, h => cases h; exact ⟨by decide +kernel, by decide +kernel, by decide +kernel, by decide +kernel⟩
  | 2, h => cases h; exact ⟨by decide +kernel, by decide +kernel, by decide +kernel, by decide +kernel⟩
  | _ + 3, h => cases h
theorem x_pe (O : Ok G P ft k c Y) {q : Cl} {e : Expr} (h : okX c q e = true) : ∃ v cv, clV G q = some cv ∧ (∀ u, RelV v u → u = cv) ∧ PE Y e (tC v) ∧ (∀ es env, starEach (e :: es) env = (false, eval e env) :: starEach es env) ∧ ((∃ n, q = .own n) ∨ ∃ n, q = .ext n) := by
  unfold okX at h
  split at h
  · rename_i x px
    split at h
    · rename_i n
      split at h
      · rename_i y f hy
        simp only [Bool.and_eq_true, decide_eq_true_eq, beq_iff_eq] at h
        obtain ⟨rfl, h2, h3⟩ := h
        obtain ⟨g1, _⟩ := O.xcs n x f hy
        exact ⟨.ref (G.CA n), .ref (G.CA n), rfl, fun u r => r, pe_glob (O.gl h2) g1 rfl h3, fun _ _ => rfl, .inl ⟨n, rfl⟩⟩
      · cases h
    · rename_i n
      split at h
      · rename_i y hy
        rw [Bool.and_eq_true] at h
        have e := of_decide_eq_true h.1
        subst e
        obtain ⟨b1, b2, b3, b4⟩ := boot_x hy
        refine ⟨.ty y, .type y, ?_, fun u r => r, pe_bltn (O.gl h.2) (O.free _ b2) b1 rfl b3 b4, fun _ _ => rfl, .inr ⟨n, rfl⟩⟩
        show (extName n).map Value.type = _
        rw [hy]
        rfl
      · cases h
    · cases h
  · cases h
theorem s_isx (O : Ok G P ft k c Y) {a : X} {q : Cl} {ea ek : Expr} {p pos : Pos} (hg : c.gl "isinstance" = true) (A : Snd G (ecN P k) Y ea a) (hs : ∀ es env, starEach (ea :: es) env = (false, eval ea env) :: starEach es env) (hk : okX c q ek = true) : Snd G (ecN P k) Y (.Call (.Name "isinstance" p) [ea, ek] [] pos) (.isi a q) := by
  obtain ⟨w, cv, h1, h2, pk, sk, hq⟩ := x_pe O hk
  refine Snd.of (PE.imp (pe_callB call_isX (O.gl hg) (O.free _ (by decide +kernel)) PyProof.Rows.boot_isinstance (pa_cons A.pe (pa_cons pk pa_nil (sk _ _)) (hs _ _)) (he := hs _ _) (hpl := by rw [sk]; rfl)) fun σ H Q q' => ?_) (fun _ => rfl) (fun _ _ _ z => nomatch z)
  obtain ⟨ω, M, env, he, hh, post⟩ := q'
  rw [ev] at post
  refine tE_bind he hh post fun d M1 ω1 H1 v he1 hh1 r p le => ?_
  split at p
  · rename_i b e
    have key : ∃ i ks ds, seen M1 d = .exc i ks ds ∧ P.sub i q = some b := by
      rcases hq with ⟨n, rfl⟩ | ⟨n, rfl⟩
      · unfold isA at e
        dsimp only at e
        split at e
        · rename_i z
          exact ⟨_, _, _, z, e⟩
        · cases e
      · unfold isA at e
        dsimp only at e
        split at e
        · rename_i z
          exact ⟨_, _, _, z, e⟩
        · cases e
    obtain ⟨i, ks, ds, z, sb⟩ := key
    have z2 : d = .exc i ks ds := by
      cases d with
      | ref a =>
        unfold seen at z
        dsimp only at z
        split at z <;> cases z
      | _ => exact z
    subst z2
    rw [Rel] at r
    obtain ⟨q1, dx, fs, vs, ev, e1, e2, e3, e4, e5, e6⟩ := r
    obtain ⟨cv', c1, c2⟩ := O.sub i q b sb
    rw [h1] at c1
    cases c1
    subst ev
    exact ⟨q1, G.CA i, dx, fs, ks, w, cv, b, rfl, e1.imp (hh1.imm _ _) (hh1.imm _ _), hh1.imm _ _ e2, by rw [O.hK]; exact e5, h2, c2, post_bl p hh1⟩
  · exact False.elim p
end
end Ev


set_option autoImplicit false
set_option Elab.async false
set_option linter.all false
set_option maxRecDepth 100000
set_option maxHeartbeats 4000000
/-! EvJ: targets, walks. -/
namespace Ev
open PySem PySem.Spec PyProof.Rows L2 RZ
/-! ### slots forgotten -/
theorem wipe_len (σ : L2.St) : ∀ is : List Nat, (wipe σ is).length = σ.length := wipe_length σ
theorem wipe_get (σ : L2.St) (j : Nat) : ∀ is : List Nat, (wipe σ is)[j]? = if j ∈ is ∧ j < σ.length then some none else σ[j]?
  | [] => by simp [wipe]
  | i :: is => by
    rw [wipe]
    by_cases h : i = j
    · subst h
      by_cases hl : i < σ.length
      · rw [List.getElem?_set_self (by rw [wipe_len]; exact hl), if_pos ⟨List.mem_cons_self, hl⟩]
      · rw [List.getElem?_eq_none (by rw [List.length_set, wipe_len]; omega), if_neg (fun z => hl z.2), List.getElem?_eq_none (by omega)]
    · rw [List.getElem?_set_ne h, wipe_get σ j is]
      by_cases h2 : j ∈ is ∧ j < σ.length
      · rw [if_pos h2, if_pos ⟨List.mem_cons_of_mem _ h2.1, h2.2⟩]
      · rw [if_neg h2, if_neg]
        rintro ⟨h3, h4⟩
        rcases List.mem_cons.mp h3 with z | z
        · exact h z.symm
        · exact h2 ⟨z, h4⟩
theorem wipe_set {σ : L2.St} {i : Nat} {x : Option V} {is : List Nat} (h : i ∈ is) : wipe (σ.set i x) is = wipe σ is := by
  apply List.ext_getElem?
  intro j
  rw [wipe_get, wipe_get, List.length_set]
  by_cases c : j ∈ is ∧ j < σ.length
  · rw [if_pos c, if_pos c]
  · rw [if_neg c, if_neg c]
    by_cases e : i = j
    · subst e
      have : ¬ i < σ.length := fun z => c ⟨h, z⟩
      rw [List.getElem?_eq_none (by rw [List.length_set]; omega), List.getElem?_eq_none (by omega)]
    · rw [List.getElem?_set_ne e]
theorem wipe_wipe (σ : L2.St) (is : List Nat) : wipe (wipe σ is) is = wipe σ is := by
  apply List.ext_getElem?
  intro j
  rw [wipe_get, wipe_len, wipe_get]
  by_cases c : j ∈ is ∧ j < σ.length
  · rw [if_pos c, if_pos c]
  · rw [if_neg c, if_neg c]
theorem EnvRel.wipe {G : Gs} {ω : Wd} {env : En} {σ : L2.St} (h : EnvRel G ω env σ) : ∀ is : List Nat, EnvRel G ω (wipeE env is) (L2.wipe σ is)
  | [] => h
  | i :: is => by
    have ih := EnvRel.wipe h is
    refine ⟨by rw [wipeE, L2.wipe, List.length_set, List.length_set]; exact ih.len, fun j d e => ?_⟩
    rw [wipeE] at e
    rw [L2.wipe]
    by_cases c : i = j
    · subst c
      by_cases hl : i < (wipeE env is).length
      · rw [List.getElem?_set_self hl] at e; cases e
      · rw [List.getElem?_eq_none (by rw [List.length_set]; omega)] at e; cases e
    · rw [List.getElem?_set_ne c] at e ⊢
      exact ih.val j d e
section
variable {G : Gs} {P : Pg} {ft : List Ft} {k : Nat} {c : Ck} {Y : L2.Cx}
/-! ### targets -/
def tP (G : Gs) (p : Pt) : TG := fun v σ H Q => ∃ ω M d env env', EnvRel G ω env σ ∧ HRel G ω M H ∧ Rel G ω d v ∧ setP p d env = some env' ∧ ∀ σ', EnvRel G ω env' σ' → wipe σ' (pslots p) = wipe σ (pslots p) → Q σ' H
def tPs (G : Gs) (is all : List Nat) : TGs := fun vs σ H Q => ∃ ω M ds env env', EnvRel G ω env σ ∧ HRel G ω M H ∧ Rels G ω ds vs ∧ setPs is ds env = some env' ∧ ∀ σ', EnvRel G ω env' σ' → wipe σ' all = wipe σ all → Q σ' H
theorem PGs.imp {es : List Expr} {t t' : TGs} (h : PGs Y es t) (q : ∀ v σ H Q, t' v σ H Q → t v σ H Q) : PGs Y es t' := ⟨fun pins s σ H v u Q I r z => h.run pins s σ H v u Q I r (q v σ H Q z)⟩
theorem okPs_each {c : Ck} : ∀ {is : List Nat} {es : List Expr}, okPs c is es = true → ∀ env : PySem.Env, (assignEach es env).length = is.length ∧ (assignEach es env).findIdx? (·.1) = none
  | [], [], _, env => ⟨rfl, rfl⟩
  | [], _ :: _, h, _ => by cases h
  | _ :: _, [], h, _ => by cases h
  | i :: is, e :: es, h, env => by
    cases e with
    | Name x p =>
      rw [okPs, Bool.and_eq_true] at h
      obtain ⟨h1, h2⟩ := okPs_each h.2 env
      refine ⟨by show (assignEach es env).length + 1 = _; rw [h1]; rfl, ?_⟩
      show ((false, assign (.Name x p) env) :: assignEach es env).findIdx? (·.1) = none
      rw [List.findIdx?_cons, if_neg Bool.false_ne_true, h2]
      rfl
    | _ => cases h
theorem pgs_ok (O : Ok G P ft k c Y) (all : List Nat) : ∀ {is : List Nat} {es : List Expr}, okPs c is es = true → (∀ i ∈ is, i ∈ all) → PGs Y es (tPs G is all)
  | [], [], _, _ => PGs.imp pgs_nil fun vs σ H Q q => by
    obtain ⟨ω, M, ds, env, env', he, hh, r, hs, q⟩ := q
    cases ds with
    | nil =>
      rw [Rels] at r
      rw [setPs] at hs
      cases hs
      exact ⟨r, q σ he rfl⟩
    | cons d ds => cases hs
  | [], _ :: _, h, _ => by cases h
  | _ :: _, [], h, _ => by cases h
  | i :: is, e :: es, h, ha => by
    cases e with
    | Name x p =>
      rw [okPs, Bool.and_eq_true] at h
      refine PGs.imp (pgs_cons (O.tgt h.1) (pgs_ok O all h.2 fun j hj => ha j (List.mem_cons_of_mem _ hj)) rfl) fun vs σ H Q q => ?_
      obtain ⟨ω, M, ds, env, env', he, hh, r, hs, q⟩ := q
      cases ds with
      | nil => cases hs
      | cons d ds =>
        rw [Rels] at r
        obtain ⟨v, t, e1, r1, r2⟩ := r
        rw [setPs] at hs
        split at hs
        · rename_i hl
          refine ⟨v, t, e1, ?_⟩
          show tPs G is all t (σ.set i (some v)) H Q
          exact ⟨ω, M, ds, env.set i (some d), env', he.set r1 hl, hh, r2, hs, fun σ' h1 h2 => q σ' h1 (h2.trans (wipe_set (ha i List.mem_cons_self)))⟩
        · cases hs
    | _ => cases h
theorem pg_ok (O : Ok G P ft k c Y) {p : Pt} {tg : Expr} (h : okP c p tg = true) : PG Y tg (tP G p) := by
  cases p with
  | nm i =>
    cases tg with
    | Name x pos =>
      refine PG.imp (O.tgt h) fun v σ H Q q => ?_
      obtain ⟨ω, M, d, env, env', he, hh, r, hs, q⟩ := q
      unfold setP at hs
      dsimp only at hs
      split at hs
      · rename_i hl
        cases hs
        exact q _ (he.set r hl) (wipe_set (List.mem_cons_self))
      · cases hs
    | _ => cases h
  | tp is =>
    cases tg with
    | Tuple es n pos =>
      have h : okPs c is es = true := h
      obtain ⟨h1, h2⟩ := okPs_each h Y.env
      refine PG.imp (pg_tup O.calm (pgs_ok O is h fun _ z => z) h1 h2) fun v σ H Q q => ?_
      obtain ⟨ω, M, d, env, env', he, hh, r, hs, q⟩ := q
      unfold setP at hs
      dsimp only at hs
      split at hs
      · rename_i ds
        rw [Rel] at r
        obtain ⟨a, vs, e1, e2, e3⟩ := r
        have hl : ds.length = is.length := by
          have : ∀ (is : List Nat) (ds : List D) (env env' : En), setPs is ds env = some env' → ds.length = is.length := fun is => by
            induction is with
            | nil => intro ds env env' h; cases ds with
              | nil => rfl
              | cons _ _ => cases h
            | cons i is ih => intro ds env env' h; cases ds with
              | nil => cases h
              | cons d ds =>
                rw [setPs] at h
                split at h
                · rw [List.length_cons, List.length_cons, ih ds _ _ h]
                · cases h
          exact this is ds env env' hs
        exact ⟨a, vs, e1, by rw [O.hK]; exact sqT_mono e2 hh.imm, by rw [e3.length]; exact hl, ω, M, ds, env, env', he, hh, e3, hs, q⟩
      · cases hs
    | _ => cases h
/-! ### walks -/
theorem walk_lst {ω : Wd} {ds : List D} {p : Addr} {vs : List V} (h : ω.imm p = some (.lst vs)) (r : Rels G ω ds vs) : IsWalk G ω ds (Itl G.K p) := by
  refine ⟨_, _, by rw [← r.length]; exact walk_list (xs := vs), fun ω1 M1 H1 le hh => SqL.of (hh.imm _ _ (le.imm _ _ h)), fun i x H1 H2 ω1 M1 le hh y => ?_⟩
  obtain ⟨e, y⟩ := y
  subst e
  obtain ⟨d, e1, e2⟩ := r.getV y
  exact ⟨d, ω1, e1, Le.refl _, hh, Rel.mono0 le _ _ e2⟩
theorem walk_tpl {ω : Wd} {ds : List D} {p : Addr} {vs : List V} (h : SqT G.K ω.imm p vs) (r : Rels G ω ds vs) : IsWalk G ω ds (Itt G.K p) := by
  refine ⟨_, _, by rw [← r.length]; exact walk_tup (xs := vs), fun ω1 M1 H1 le hh => sqT_mono h fun p o z => hh.imm p o (le.imm p o z), fun i x H1 H2 ω1 M1 le hh y => ?_⟩
  obtain ⟨e, y⟩ := y
  subst e
  obtain ⟨d, e1, e2⟩ := r.getV y
  exact ⟨d, ω1, e1, Le.refl _, hh, Rel.mono0 le _ _ e2⟩
theorem upto_get : ∀ (n : Nat) (lo : Int) (i : Nat), i < n → (upto lo n)[i]? = some (.int (lo + i))
  | 0, lo, i, h => by omega
  | n + 1, lo, 0, h => by simp [upto]
  | n + 1, lo, i + 1, h => by
    rw [upto, List.getElem?_cons_succ, upto_get n (lo + 1) i (by omega)]
    congr 2
    omega
theorem upto_len : ∀ (n : Nat) (lo : Int), (upto lo n).length = n
  | 0, lo => rfl
  | n + 1, lo => by rw [upto, List.length_cons, upto_len]
theorem walk_rng {ω : Wd} {lo : Int} {n : Nat} : IsWalk G ω (upto lo n) (Itr lo n) := by
  refine ⟨fun _ => True, fun i H x H' => i < n ∧ YFn (fun i => .int (lo + i)) i H x H', ⟨fun i H hi g => walk_range.goes i H (by rw [upto_len] at hi; exact hi) g, fun H g => by rw [upto_len]; exact walk_range.stops H g, fun i H x H' hi g y => ⟨by rw [upto_len] at hi; exact hi, walk_range.yields i H x H' (by rw [upto_len] at hi; exact hi) g y⟩⟩, fun _ _ _ _ _ => trivial, fun i x H1 H2 ω1 M1 le hh y => ?_⟩
  obtain ⟨hi, e1, e2⟩ := y
  subst e1 e2
  exact ⟨_, ω1, upto_get n lo i hi, Le.refl _, hh, by rw [Rel]⟩
theorem pairs_get : ∀ (ds : List D) (lo : Int) (i : Nat), (pairs lo ds)[i]? = (ds[i]?).map fun d => .tup [.int (lo + i), d]
  | [], lo, i => by simp [pairs]
  | d :: ds, lo, 0 => by simp [pairs]
  | d :: ds, lo, i + 1 => by
    rw [pairs, List.getElem?_cons_succ, pairs_get ds (lo + 1) i, List.getElem?_cons_succ]
    cases ds[i]? with
    | none => rfl
    | some d =>
      show some (D.tup [.int (lo + 1 + (i : Nat)), d]) = some (D.tup [.int (lo + ((i + 1 : Nat) : Int)), d])
      rw [show lo + 1 + (i : Int) = lo + ((i + 1 : Nat) : Int) by omega]
theorem pairs_len : ∀ (ds : List D) (lo : Int), (pairs lo ds).length = ds.length
  | [], lo => rfl
  | d :: ds, lo => by rw [pairs, List.length_cons, List.length_cons, pairs_len]
theorem pair_new {ω1 : Wd} {M1 : List O} {H1 H2 : Hp} {T : Addr} {x y : V} {a b : D} (hh : HRel G ω1 M1 H1) (n : H1 T = none) (e : H2 = upd H1 T (.tup [x, y])) (r1 : Rel G ω1 a x) (r2 : Rel G ω1 b y) : ∃ ω2, Le ω1 ω2 ∧ HRel G ω2 M1 H2 ∧ Rel G ω2 (.tup [a, b]) (.ref T) := by
  subst e
  obtain ⟨h, le⟩ := hh.addI (o := .tup [x, y]) n
  refine ⟨_, le, h, ?_⟩
  rw [Rel]
  exact ⟨T, [x, y], rfl, .inl (.inl upd_same), Rels.cons (Rel.mono le _ _ r1) (Rels.one (Rel.mono le _ _ r2))⟩
theorem walk_enm {ω : Wd} {ds : List D} {p : Addr} {vs : List V} (h : ω.imm p = some (.lst vs)) (r : Rels G ω ds vs) : IsWalk G ω (pairs 0 ds) (Ite G.K p) := by
  refine ⟨_, _, by rw [pairs_len, ← r.length]; exact walk_enum (xs := vs), fun ω1 M1 H1 le hh => SqL.of (hh.imm _ _ (le.imm _ _ h)), fun i x H1 H2 ω1 M1 le hh y => ?_⟩
  obtain ⟨T, a, b, e1, e2, e3, e4, e5⟩ := y
  subst e1
  have e4 : a = .int (i : Nat) := (Option.some.inj e4).symm
  subst e4
  obtain ⟨d, f1, f2⟩ := r.getV e5
  obtain ⟨ω2, g1, g2, g3⟩ := pair_new (a := .int (i : Nat)) hh e2 e3 (by rw [Rel]) (Rel.mono0 le _ _ f2)
  refine ⟨_, ω2, ?_, g1, g2, g3⟩
  rw [pairs_get, f1]
  show some (D.tup [.int (0 + (i : Int)), d]) = _
  rw [Int.zero_add]
theorem zips_get : ∀ (a b : List D) (i : Nat) (x y : D), a[i]? = some x → b[i]? = some y → (zips a b)[i]? = some (.tup [x, y])
  | [], _, i, x, y, h, _ => by simp at h
  | _ :: _, [], i, x, y, _, h => by simp at h
  | u :: a, v :: b, 0, x, y, h1, h2 => by
    simp at h1 h2
    subst h1 h2
    simp [zips]
  | u :: a, v :: b, i + 1, x, y, h1, h2 => by
    rw [zips, List.getElem?_cons_succ]
    exact zips_get a b i x y (by simpa using h1) (by simpa using h2)
theorem zips_len : ∀ (a b : List D), (zips a b).length = min a.length b.length
  | [], _ => by simp [zips]
  | _ :: _, [] => by simp [zips]
  | u :: a, v :: b => by
    rw [zips, List.length_cons, zips_len, List.length_cons, List.length_cons]
    omega
theorem walk_zpL {ω : Wd} {ds es : List D} {p q : Addr} {vs ws : List V} (h : ω.imm p = some (.lst vs)) (h2 : ω.imm q = some (.lst ws)) (r : Rels G ω ds vs) (r2 : Rels G ω es ws) : IsWalk G ω (zips ds es) (Itz G.K p q) := by
  refine ⟨_, _, walk_zip (xs := vs) (ys := ws) (by rw [zips_len, r.length, r2.length]), fun ω1 M1 H1 le hh => ⟨SqL.of (hh.imm _ _ (le.imm _ _ h)), SqL.of (hh.imm _ _ (le.imm _ _ h2))⟩, fun i x H1 H2 ω1 M1 le hh y => ?_⟩
  obtain ⟨T, a, b, e1, e2, e3, e4, e5⟩ := y
  subst e1
  obtain ⟨d, f1, f2⟩ := r.getV e4
  obtain ⟨d', f1', f2'⟩ := r2.getV e5
  obtain ⟨ω2, g1, g2, g3⟩ := pair_new hh e2 e3 (Rel.mono0 le _ _ f2) (Rel.mono0 le _ _ f2')
  exact ⟨_, ω2, zips_get ds es i d d' f1 f1', g1, g2, g3⟩
theorem walk_zpT {ω : Wd} {ds es : List D} {p q : Addr} {vs ws : List V} (h : SqT G.K ω.imm p vs) (h2 : SqT G.K ω.imm q ws) (r : Rels G ω ds vs) (r2 : Rels G ω es ws) : IsWalk G ω (zips ds es) (ItzT G.K p q) := by
  refine ⟨fun H => SqT G.K H p vs ∧ SqT G.K H q ws, YPair (fun i => vs[i]?) (fun i => ws[i]?), ⟨fun i H hi g => ?_, fun H g => ?_, fun i H v H' hi g y => ?_⟩, fun ω1 M1 H1 le hh => ⟨sqT_mono h fun p o z => hh.imm p o (le.imm p o z), sqT_mono h2 fun p o z => hh.imm p o (le.imm p o z)⟩, fun i x H1 H2 ω1 M1 le hh y => ?_⟩
  · rw [zips_len, ← r.length, ← r2.length] at hi
    exact ⟨vs, ws, vs[i]'(by omega), ws[i]'(by omega), g.1, g.2, by simp, by simp⟩
  · rw [zips_len, ← r.length, ← r2.length]
    exact ⟨vs, ws, g.1, g.2, by omega⟩
  · obtain ⟨T, a, b, e1, e2, e3, e4, e5⟩ := y
    exact ⟨T, a, b, e1, e2, e3, e4 vs g.1, e5 ws g.2⟩
  · obtain ⟨T, a, b, e1, e2, e3, e4, e5⟩ := y
    subst e1
    obtain ⟨d, f1, f2⟩ := r.getV e4
    obtain ⟨d', f1', f2'⟩ := r2.getV e5
    obtain ⟨ω2, g1, g2, g3⟩ := pair_new hh e2 e3 (Rel.mono0 le _ _ f2) (Rel.mono0 le _ _ f2')
    exact ⟨_, ω2, zips_get ds es i d d' f1 f1', g1, g2, g3⟩
theorem walk_enT {ω : Wd} {ds : List D} {p : Addr} {vs : List V} (h : SqT G.K ω.imm p vs) (r : Rels G ω ds vs) : IsWalk G ω (pairs 0 ds) (IteT G.K p) := by
  refine ⟨fun H => SqT G.K H p vs, fun i H v H' => ∃ T a b, v = .ref T ∧ H T = none ∧ H' = upd H T (.tup [a, b]) ∧ a = .int (i : Nat) ∧ vs[i]? = some b, ⟨fun i H hi g => ?_, fun H g => ?_, fun i H v H' hi g y => ?_⟩, fun ω1 M1 H1 le hh => sqT_mono h fun p o z => hh.imm p o (le.imm p o z), fun i x H1 H2 ω1 M1 le hh y => ?_⟩
  · rw [pairs_len, ← r.length] at hi
    exact ⟨vs, vs[i]'hi, g, by simp⟩
  · rw [pairs_len, ← r.length]
    exact ⟨vs, g, rfl⟩
  · obtain ⟨T, b, e1, e2, e3, e4⟩ := y
    exact ⟨T, _, b, e1, e2, e3, rfl, e4 vs g⟩
  · obtain ⟨T, a, b, e1, e2, e3, e4, e5⟩ := y
    subst e1 e4
    obtain ⟨d, f1, f2⟩ := r.getV e5
    obtain ⟨ω2, g1, g2, g3⟩ := pair_new (a := .int (i : Nat)) hh e2 e3 (by rw [Rel]) (Rel.mono0 le _ _ f2)
    refine ⟨_, ω2, ?_, g1, g2, g3⟩
    rw [pairs_get, f1]
    show some (D.tup [.int (0 + (i : Int)), d]) = _
    rw [Int.zero_add]
theorem walk_sgn {ω : Wd} {t : Tx} : IsWalk G ω (t.map fun c => .str [c]) (Its (sS t)) := by
  have sz : (sS t).cps.size = (t.map fun c => D.str [c]).length := by rw [List.length_map]; exact List.size_toArray ..
  refine ⟨_, _, by rw [← sz]; exact walk_str, fun ω1 M1 H1 le hh => trivial, fun i x H1 H2 ω1 M1 le hh y => ?_⟩
  obtain ⟨e1, c, e2, e3⟩ := y
  subst e1 e3
  have e4 : t[i]? = some c := by
    have : (sS t).cps[i]? = t[i]? := List.getElem?_toArray ..
    rw [← this]
    exact e2
  refine ⟨.str [c], ω1, by rw [List.getElem?_map, e4]; rfl, Le.refl _, hh, ?_⟩
  rw [Rel]
  rfl
theorem walk_zpM {ω : Wd} {ds es : List D} {p q : Addr} {vs ws : List V} (h : SqT G.K ω.imm p vs) (h2 : ω.imm q = some (.lst ws)) (r : Rels G ω ds vs) (r2 : Rels G ω es ws) : IsWalk G ω (zips ds es) (ItzM G.K p q) := by
  refine ⟨fun H => SqT G.K H p vs ∧ SqL G.K H q ws, YPair (fun i => vs[i]?) (fun i => ws[i]?), ⟨fun i H hi g => ?_, fun H g => ?_, fun i H v H' hi g y => ?_⟩, fun ω1 M1 H1 le hh => ⟨sqT_mono h fun p o z => hh.imm p o (le.imm p o z), SqL.of (hh.imm _ _ (le.imm _ _ h2))⟩, fun i x H1 H2 ω1 M1 le hh y => ?_⟩
  · rw [zips_len, ← r.length, ← r2.length] at hi
    exact ⟨vs, ws, vs[i]'(by omega), ws[i]'(by omega), g.1, g.2, by simp, by simp⟩
  · rw [zips_len, ← r.length, ← r2.length]
    exact ⟨vs, ws, g.1, g.2, rfl⟩
  · obtain ⟨T, a, b, e1, e2, e3, e4, e5⟩ := y
    exact ⟨T, a, b, e1, e2, e3, e4 vs g.1, e5 ws g.2⟩
  · obtain ⟨T, a, b, e1, e2, e3, e4, e5⟩ := y
    subst e1
    obtain ⟨d, f1, f2⟩ := r.getV e4
    obtain ⟨d', f1', f2'⟩ := r2.getV e5
    obtain ⟨ω2, g1, g2, g3⟩ := pair_new hh e2 e3 (Rel.mono0 le _ _ f2) (Rel.mono0 le _ _ f2')
    exact ⟨_, ω2, zips_get ds es i d d' f1 f1', g1, g2, g3⟩
end
end Ev


set_option autoImplicit false
set_option Elab.async false
set_option linter.all false
set_option maxRecDepth 100000
set_option maxHeartbeats 4000000
/-! EvK: what is walked, comprehensions, the theorem for expressions. -/
namespace Ev
open PySem PySem.Spec PyProof.Rows L2 RZ
section
variable {G : Gs} {P : Pg} {ft : List Ft} {k : Nat} {c : Ck} {Y : L2.Cx}
theorem okEs_len : ∀ {xs : List X} {c : Ck} {es : List Expr}, okEs xs c es = true → xs.length = es.length
  | [], c, [], _ => rfl
  | [], c, _ :: _, h => by cases h
  | _ :: _, c, [], h => by cases h
  | x :: xs, c, e :: es, h => by
    rw [okEs, Bool.and_eq_true] at h
    rw [List.length_cons, List.length_cons, okEs_len h.2]
theorem kvs_get : ∀ {ks : List D} {vs : List V} {i : Nat} {q : Key} {v : V}, keysOk ks = true → (kvsOf ks vs)[i]? = some (q, v) → ∃ d, ks[i]? = some d ∧ isKey d = true ∧ q = kk d
  | [], vs, i, q, v, _, h => by cases vs <;> cases i <;> cases h
  | d :: ks, [], i, q, v, _, h => by cases i <;> cases h
  | d :: ks, w :: vs, 0, q, v, hk, h => by
    rw [show kvsOf (d :: ks) (w :: vs) = (kk d, w) :: kvsOf ks vs from rfl] at h
    cases h
    exact ⟨d, rfl, (keysOk_cons.mp hk).1, rfl⟩
  | d :: ks, w :: vs, i + 1, q, v, hk, h => by
    rw [show kvsOf (d :: ks) (w :: vs) = (kk d, w) :: kvsOf ks vs from rfl, List.getElem?_cons_succ] at h
    obtain ⟨d', h1, h2, h3⟩ := kvs_get (keysOk_cons.mp hk).2 h
    exact ⟨d', by rw [List.getElem?_cons_succ]; exact h1, h2, h3⟩
theorem key_rel {ω : Wd} {d : D} (h : isKey d = true) : Rel G ω d (kV (kk d)) := by
  cases d with
  | str s => rw [Rel]; rfl
  | int i => rw [Rel]; rfl
  | _ => cases h
theorem walk_dct {ω : Wd} {ks : List D} {vs : List V} {p : Addr} {od : Obj} (h : ω.imm p = some (.frz od (.dK (kvsOf ks vs)))) (hk : keysOk ks = true) (hl : ks.length = vs.length) : IsWalk G ω ks (Itk p od (kvsOf ks vs)) := by
  refine ⟨_, _, by rw [← kvs_len hl]; exact walk_keys, fun ω1 M1 H1 le hh => hh.imm _ _ (le.imm _ _ h), fun i x H1 H2 ω1 M1 le hh y => ?_⟩
  obtain ⟨e1, q, v, e2, e3⟩ := y
  subst e1 e3
  obtain ⟨d, h1, h2, h3⟩ := kvs_get hk e2
  subst h3
  exact ⟨d, ω1, h1, Le.refl _, hh, key_rel h2⟩
theorem len1 {α : Type} {l : List α} (h : l.length = 1) : ∃ a, l = [a] := by
  match l, h with
  | [a], _ => exact ⟨a, rfl⟩
theorem len2 {α : Type} {l : List α} (h : l.length = 2) : ∃ a b, l = [a, b] := by
  match l, h with
  | [a, b], _ => exact ⟨a, b, rfl⟩
theorem rels2 {ω : Wd} {d e : D} {vs : List V} (r : Rels G ω [d, e] vs) : ∃ v w, vs = [v, w] ∧ Rel G ω d v ∧ Rel G ω e w := by
  rw [Rels] at r
  obtain ⟨v, t, e1, a, b⟩ := r
  obtain ⟨w, e2, f⟩ := rels1 b
  subst e2
  exact ⟨v, w, e1, a, f⟩
/-- what the walk of evaluated arguments asks -/
theorem tI_bind {kk : Ik} {xs : List X} {σ : L2.St} {H : Hp} {R : It → Hp → Prop} {Q' : List V → Hp → Prop} (q : tI G (ecN P k) kk xs σ H R)
    (h : ∀ ds M1 ω1 H1 vs items, HRel G ω1 M1 H1 → Rels G ω1 ds vs → ds.length = xs.length → walkOf kk ds = some items → (∀ J, IsWalk G ω1 items J → R J H1) → Q' vs H1) : tEs G (ecN P k) xs σ H Q' := by
  obtain ⟨ω, M, env, he, hh, post⟩ := q
  unfold evW at post
  refine ⟨ω, M, env, he, hh, ?_⟩
  cases e0 : evs (ecN P k) xs env M with
  | er => rw [e0] at post; exact post
  | ex _ _ => rw [e0] at post; exact post
  | ok ds M1 =>
    rw [e0] at post
    have post : Post G (IsWalk G) ω (match walkOf kk ds with
      | some items => .ok items M1
      | none => .er) R := post
    intro ω1 H1 vs le hh1 r
    cases e : walkOf kk ds with
    | none => rw [e] at post; exact False.elim post
    | some items =>
      rw [e] at post
      exact h ds M1 ω1 H1 vs items hh1 r (evs_len e0) e fun J w => post ω1 H1 J le hh1 w
theorem pi_ok (O : Ok G P ft k c Y) {kk : Ik} {its : List X} {tg e : Expr} {as : List Expr} (h : itArgs c kk tg e = some as) (hok : okEs its c as = true) (A : PA Y as (tEs G (ecN P k) its)) (B : ∀ x, kk = .val → its = [x] → PE Y e (tE G (ecN P k) x)) :
    PI Y tg e (tI G (ecN P k) kk its) := by
  have hlen := okEs_len hok
  cases kk with
  | val =>
    cases h
    obtain ⟨x, rfl⟩ := len1 hlen
    have hx := B x rfl rfl
    refine ⟨fun pins s σ H R I q => ?_⟩
    obtain ⟨ω, M, env, he, hh, post⟩ := q
    unfold evW at post
    rw [evs] at post
    cases e1 : ev (ecN P k) x env M with
    | er => rw [e1] at post; exact False.elim post
    | ex _ _ =>
      rw [e1] at post
      refine wpAny_mono (hx.run pins s σ H (fun _ _ => False) I ⟨ω, M, env, he, hh, by rw [e1]; exact post⟩) (fun v s1 q => ?_) fun _ _ z => z
      obtain ⟨_, _, _, _, q⟩ := q
      exact q.elim
    | ok d M1 =>
      rw [e1] at post
      simp only [Rs.bind, evs] at post
      cases d with
      | lst ds =>
        have post : Post G (IsWalk G) ω (.ok ds M1) R := post
        refine (pi_list hx).run pins s σ H R I ⟨ω, M, env, he, hh, ?_⟩
        rw [e1]
        intro ω1 H1 v le hh1 r
        rw [Rel] at r
        obtain ⟨p, vs, f1, f2, f3⟩ := r
        refine ⟨p, f1, ⟨vs, SqL.of (hh1.imm _ _ f2)⟩, ?_⟩
        rw [O.hK]
        exact post ω1 H1 _ le hh1 (walk_lst f2 f3)
      | tup ds =>
        have post : Post G (IsWalk G) ω (.ok ds M1) R := post
        refine (pi_tup hx).run pins s σ H R I ⟨ω, M, env, he, hh, ?_⟩
        rw [e1]
        intro ω1 H1 v le hh1 r
        rw [Rel] at r
        obtain ⟨p, vs, f1, f2, f3⟩ := r
        refine ⟨p, f1, ⟨vs, by rw [O.hK]; exact sqT_mono f2 hh1.imm⟩, ?_⟩
        rw [O.hK]
        exact post ω1 H1 _ le hh1 (walk_tpl f2 f3)
      | str t =>
        have post : Post G (IsWalk G) ω (.ok (t.map fun c => .str [c]) M1) R := post
        refine (pi_str hx).run pins s σ H R I ⟨ω, M, env, he, hh, ?_⟩
        rw [e1]
        intro ω1 H1 v le hh1 r
        rw [Rel] at r
        exact ⟨sS t, r, post ω1 H1 _ le hh1 walk_sgn⟩
      | dct ks ds =>
        have post : Post G (IsWalk G) ω (.ok ks M1) R := post
        refine (pi_keys hx).run pins s σ H R I ⟨ω, M, env, he, hh, ?_⟩
        rw [e1]
        intro ω1 H1 v le hh1 r
        rw [Rel] at r
        obtain ⟨p, od, vs, f1, f2, f3, f4, f5⟩ := r
        exact ⟨p, od, f1, .inl ⟨_, hh1.imm _ _ f2, post ω1 H1 _ le hh1 (walk_dct f2 f3 (by rw [f4, f5.length]))⟩⟩
      | _ => exact False.elim post
  | rng =>
    unfold itArgs at h
    dsimp only at h
    split at h
    · rename_i f p0 as' pos
      split at h
      · rename_i hb
        cases h
        rw [Bool.and_eq_true, Bool.and_eq_true] at hb
        have ef := of_decide_eq_true hb.1
        subst ef
        rcases of_decide_eq_true hb.2.2 with l1 | l2
        · obtain ⟨a, rfl⟩ := len1 l1
          obtain ⟨x, rfl⟩ := len1 (hlen.trans l1)
          rw [okEs, Bool.and_eq_true] at hok
          refine PI.imp (pi_range1 (O.gl hb.2.1) (O.free _ (by decide +kernel)) A (ok_star hok.1 [] Y.env)) fun σ H R q => ?_
          refine tI_bind q fun ds M1 ω1 H1 vs items hh1 r hl e w => ?_
          obtain ⟨d, rfl⟩ := len1 hl
          obtain ⟨v, f1, f2⟩ := rels1 r
          subst f1
          cases d with
          | int n =>
            rw [Rel] at f2
            subst f2
            unfold walkOf at e
            dsimp only at e
            split at e
            · rename_i hb
              cases e
              exact ⟨n, rfl, by omega, by omega, w _ walk_rng⟩
            · cases e
          | _ => cases e
        · obtain ⟨a, b, rfl⟩ := len2 l2
          obtain ⟨x, y, rfl⟩ := len2 (hlen.trans l2)
          rw [okEs, okEs, Bool.and_eq_true, Bool.and_eq_true] at hok
          refine PI.imp (pi_range2 (O.gl hb.2.1) (O.free _ (by decide +kernel)) A (by rw [ok_star hok.1, ok_star hok.2.1]; rfl) (ok_star hok.2.1 [] Y.env)) fun σ H R q => ?_
          refine tI_bind q fun ds M1 ω1 H1 vs items hh1 r hl e w => ?_
          obtain ⟨d, d2, rfl⟩ := len2 hl
          obtain ⟨v, u, f1, f2, f3⟩ := rels2 r
          subst f1
          cases d with
          | int n =>
            cases d2 with
            | int m =>
              rw [Rel] at f2 f3
              subst f2 f3
              unfold walkOf at e
              dsimp only at e
              split at e
              · rename_i hb
                cases e
                exact ⟨n, m, rfl, by omega, w _ walk_rng⟩
              · cases e
            | _ => cases e
          | _ => cases e
      · cases h
    · cases h
  | enm =>
    unfold itArgs at h
    dsimp only at h
    split at h
    · rename_i es n tp f p0 as' pos
      split at h
      · rename_i hb
        cases h
        rw [Bool.and_eq_true, Bool.and_eq_true] at hb
        have ef := of_decide_eq_true hb.1
        subst ef
        have l1 := of_decide_eq_true hb.2.2
        obtain ⟨a, rfl⟩ := len1 l1
        obtain ⟨x, rfl⟩ := len1 (hlen.trans l1)
        rw [okEs, Bool.and_eq_true] at hok
        refine PI.imp (pi_enumX (O.gl hb.2.1) (O.free _ (by decide +kernel)) A (ok_star hok.1 [] Y.env)) fun σ H R q => ?_
        refine tI_bind q fun ds M1 ω1 H1 vs items hh1 r hl e w => ?_
        obtain ⟨d, rfl⟩ := len1 hl
        obtain ⟨v, f1, f2⟩ := rels1 r
        subst f1
        cases d with
        | lst l =>
          rw [Rel] at f2
          obtain ⟨p, ws, g1, g2, g3⟩ := f2
          subst g1
          cases e
          refine ⟨p, ws, rfl, .inl ⟨SqL.of (hh1.imm _ _ g2), ?_⟩⟩
          rw [O.hK]
          exact w _ (walk_enm g2 g3)
        | tup l =>
          rw [Rel] at f2
          obtain ⟨p, ws, g1, g2, g3⟩ := f2
          subst g1
          cases e
          refine ⟨p, ws, rfl, .inr ?_⟩
          rw [O.hK]
          exact ⟨sqT_mono g2 hh1.imm, w _ (walk_enT g2 g3)⟩
        | _ => cases e
      · cases h
    · cases h
  | zip =>
    unfold itArgs at h
    dsimp only at h
    split at h
    · rename_i es n tp f p0 as' pos
      split at h
      · rename_i hb
        cases h
        rw [Bool.and_eq_true, Bool.and_eq_true] at hb
        have ef := of_decide_eq_true hb.1
        subst ef
        have l2 := of_decide_eq_true hb.2.2
        obtain ⟨a, b, rfl⟩ := len2 l2
        obtain ⟨x, y, rfl⟩ := len2 (hlen.trans l2)
        have hok2 := hok
        rw [okEs, Bool.and_eq_true] at hok
        refine PI.imp (pi_zipM (O.gl hb.2.1) (O.free _ (by decide +kernel)) A (ok_star hok.1 _ Y.env) (ok_stars hok.2 pos Y.env)) fun σ H R q => ?_
        refine tI_bind q fun ds M1 ω1 H1 vs items hh1 r hl e w => ?_
        obtain ⟨d, d2, rfl⟩ := len2 hl
        obtain ⟨v, u, f1, f2, f3⟩ := rels2 r
        subst f1
        cases d with
        | lst l =>
          cases d2 with
          | lst l2 =>
            rw [Rel] at f2 f3
            obtain ⟨p, ws, g1, g2, g3⟩ := f2
            obtain ⟨p', ws', g1', g2', g3'⟩ := f3
            subst g1 g1'
            cases e
            refine ⟨p, p', ws, ws', rfl, .inr (.inl ⟨SqL.of (hh1.imm _ _ g2), SqL.of (hh1.imm _ _ g2'), ?_⟩)⟩
            rw [O.hK]
            exact w _ (walk_zpL g2 g2' g3 g3')
          | _ => cases e
        | tup l =>
          cases d2 with
          | tup l2 =>
            rw [Rel] at f2 f3
            obtain ⟨p, ws, g1, g2, g3⟩ := f2
            obtain ⟨p', ws', g1', g2', g3'⟩ := f3
            subst g1 g1'
            cases e
            refine ⟨p, p', ws, ws', rfl, .inr (.inr ?_)⟩
            rw [O.hK]
            exact ⟨sqT_mono g2 hh1.imm, sqT_mono g2' hh1.imm, w _ (walk_zpT g2 g2' g3 g3')⟩
          | lst l2 =>
            rw [Rel] at f2
            rw [Rel] at f3
            obtain ⟨p, ws, g1, g2, g3⟩ := f2
            obtain ⟨p', ws', g1', g2', g3'⟩ := f3
            subst g1 g1'
            cases e
            refine ⟨p, p', ws, ws', rfl, .inl ?_⟩
            rw [O.hK]
            exact ⟨sqT_mono g2 hh1.imm, SqL.of (hh1.imm _ _ g2'), w _ (walk_zpM g2 g2' g3 g3')⟩
          | _ => cases e
        | _ => cases e
      · cases h
    · cases h
/-! ### comprehensions -/
/-- what is wanted of a comprehension's list, the lock still on -/
def PostD (G : Gs) (l0 : Hp) (p : Addr) (ω : Wd) (r : Rs (List D)) (Q : Hp → Prop) : Prop := match r with
  | .ok l M => ∀ ω' H' ws, Le0 ω ω' → ω'.lck = upd l0 p (.lst ws) → HRel G ω' M H' → Rels G ω' l ws → Q H'
  | .er => False
  | .ex _ _ => False
theorem PostD.mono {l0 : Hp} {p : Addr} {ω ω1 : Wd} {r : Rs (List D)} {Q : Hp → Prop} (h : PostD G l0 p ω r Q) (le : Le0 ω ω1) : PostD G l0 p ω1 r Q := by
  cases r with
  | ok l M => exact fun ω' H' ws a => h ω' H' ws (le.trans a)
  | er => exact h
  | ex _ _ => exact h
theorem tTs_of {ifs : List X} {es : List Expr} (h : ifs.length ≤ 1) (hl : ifs.length = es.length) (B : ∀ x e, ifs = [x] → es = [e] → PT Y e (tB' G (ecN P k) x)) : PTs Y es (tTs G (ecN P k) ifs) := by
  cases ifs with
  | nil =>
    have : es = [] := List.length_eq_zero_iff.mp hl.symm
    subst this
    refine PTs.imp pts_nil fun σ H Q q => ?_
    obtain ⟨ω, M, env, he, hh, post⟩ := q
    rw [evT] at post
    exact PostB.done post hh
  | cons x r =>
    have : r = [] := by
      cases r with
      | nil => rfl
      | cons y r => simp at h
    subst this
    obtain ⟨e, rfl⟩ := len1 hl.symm
    refine PTs.imp (pts_one (B x e rfl rfl)) fun σ H Q q => ?_
    obtain ⟨ω, M, env, he, hh, post⟩ := q
    have e1 : evT (ecN P k) [x] env M = evB (ecN P k) x env M := by
      unfold evB
      rw [evT]
      cases ev (ecN P k) x env M with
      | er => rfl
      | ex _ _ => rfl
      | ok d M1 =>
        cases d with
        | bl t => cases t <;> simp [Rs.bind, evT]
        | _ => rfl
    rw [e1] at post
    exact ⟨ω, M, env, he, hh, post⟩
theorem ev_lc {C : Ec} {h : Bool} {p : Pt} {e : X} {kk : Ik} {its ifs : List X} {env : En} {M : List O} : ev C (.lc h p e kk its ifs) env M = (evW C kk its env M).bind fun items M1 => (comp (ev C e) (evT C ifs) p items [] (wipeE env (pslots p)) M1).bind fun l M2 => mkL h l M2 := by
  rw [ev]
  unfold evW
  cases evs C its env M with
  | er => rfl
  | ex _ _ => rfl
  | ok ds M1 =>
    simp only [Rs.bind]
    cases walkOf kk ds <;> rfl
theorem comp_nex {elt : En → List O → Rs D} {tests : En → List O → Rs Bool} {p : Pt} : ∀ (items acc : List D) (env : En) (M : List O) (d : D) (M' : List O), comp elt tests p items acc env M ≠ .ex d M'
  | [], acc, env, M, d, M', h => by rw [comp] at h; cases h
  | x :: items, acc, env, M, d, M', h => by
    rw [comp] at h
    cases e1 : setP p x env with
    | none => rw [e1] at h; cases h
    | some env1 =>
      rw [e1] at h
      dsimp only at h
      cases e2 : tests env1 M with
      | er => rw [e2] at h; cases h
      | ex _ _ => rw [e2] at h; cases h
      | ok t M1 =>
        rw [e2] at h
        cases t with
        | false => exact comp_nex items acc env M1 d M' h
        | true =>
          dsimp only at h
          cases e3 : elt env1 M1 with
          | er => rw [e3] at h; cases h
          | ex _ _ => rw [e3] at h; cases h
          | ok v M2 =>
            rw [e3] at h
            dsimp only at h
            split at h
            · exact comp_nex items (acc ++ [v]) env M2 d M' h
            · cases h
theorem s_lc (O : Ok G P ft k c Y) {h : Bool} {p : Pt} {e : X} {kk : Ik} {its ifs : List X} {tg eit ee : Expr} {eifs : List Expr} {scope : Scope} {pos : Pos}
    (hi : PI Y tg eit (tI G (ecN P k) kk its)) (hb : blkC c.N c.sc scope (ownOf c (pslots p)) = true) (ho : (ownOf c (pslots p)).map (·.2) = pslots p)
    (hg : ∀ (s : Shared) (H : Hp) (C : Addr) (cl : List (Str × Addr)) (fp : List Addr), PG (Y.blk s H scope (compEnvC scope cl C Y.env) fp) tg (tP G p))
    (ht : ∀ (s : Shared) (H : Hp) (C : Addr) (cl : List (Str × Addr)) (fp : List Addr), PTs (Y.blk s H scope (compEnvC scope cl C Y.env) fp) eifs (tTs G.dead (ecN P k) ifs))
    (he : ∀ (s : Shared) (H : Hp) (C : Addr) (cl : List (Str × Addr)) (fp : List Addr), PE (Y.blk s H scope (compEnvC scope cl C Y.env) fp) ee (tE G.dead (ecN P k) e))
    (hs : ∀ x, foldedSetIterable eit Y.env x = pure x) : PE Y (.ListComp ee [⟨tg, eit, eifs, 0⟩] scope pos) (tE G (ecN P k) (.lc h p e kk its ifs)) ∧
      (∀ σ H Q, tE G (ecN P k) (.lc h p e kk its ifs) σ H Q → tLc (tI G (ecN P k) kk its) (tP G p) (tTs G.dead (ecN P k) ifs) (tE G.dead (ecN P k) e) ((ownOf c (pslots p)).map (·.2)) σ H Q) := by
  have ok : BlkOk Y.N Y.env.scope scope (ownOf c (pslots p)) := by
    rw [O.hN, O.hsc]
    exact blkOk_by hb
  have nd : Y.N.Nodup := by rw [O.hN]; exact O.nd
  have key : ∀ σ H Q, tE G (ecN P k) (.lc h p e kk its ifs) σ H Q → tLc (tI G (ecN P k) kk its) (tP G p) (tTs G.dead (ecN P k) ifs) (tE G.dead (ecN P k) e) ((ownOf c (pslots p)).map (·.2)) σ H Q := fun σ H Q q => by
    rw [ho]
    obtain ⟨ω, M, env, he, hh, post⟩ := q
    rw [ev_lc] at post
    refine ⟨ω, M, env, he, hh, Post.bind post fun items M1 ω1 H1 J le hh1 w p1 => ?_⟩
    intro D0 hD
    obtain ⟨Gd, Yd, wk, hG, hY⟩ := w
    have l1 : ω1.lck D0 = none := hh1.lckN hD
    -- the wish with the lock
    have pd : PostD G ω1.lck D0 (ω1.lock D0 (.lst [])) (comp (ev (ecN P k) e) (evT (ecN P k) ifs) p items [] (wipeE env (pslots p)) M1) (fun H' => Q (.ref D0) H') := by
      cases e2 : comp (ev (ecN P k) e) (evT (ecN P k) ifs) p items [] (wipeE env (pslots p)) M1 with
      | er => rw [e2] at p1; exact p1
      | ex _ _ => exact absurd e2 (comp_nex _ _ _ _ _ _)
      | ok l M2 =>
        rw [e2] at p1
        intro ω' H' ws le' hl hh' r
        have le1 : Le0 ω1 ω' := (Le0.lock ω1 D0 (.lst [])).trans le'
        cases h with
        | true =>
          obtain ⟨h2, le2⟩ := hh'.unlockM (ob := .lst l) hl l1 ⟨ws, rfl, r⟩
          have p1 : PostE G ω1 (alloc (.lst l) M2) Q := p1
          refine p1 _ _ _ ⟨(le1.trans le2).ρ, (le1.trans le2).imm, rfl⟩ h2 ?_
          rw [Rel]
          refine ⟨D0, ?_, rfl⟩
          show (ω'.ρ ++ [D0])[M2.length]? = some D0
          rw [← hh'.len]
          simp
        | false =>
          obtain ⟨h2, le2⟩ := hh'.unlockI hl l1
          have p1 : PostE G ω1 (.ok (.lst l) M2) Q := p1
          refine p1 _ _ _ ⟨(le1.trans le2).ρ, (le1.trans le2).imm, rfl⟩ h2 ?_
          rw [Rel]
          exact ⟨D0, ws, rfl, upd_same, Rels.mono0 le2 _ _ r⟩
    refine lc_it wk (fun i H => ∃ ω' M' acc ws, Le0 ω1 ω' ∧ ω'.lck = upd ω1.lck D0 (.lst ws) ∧ HRel G ω' M' H ∧ Rels G ω' acc ws ∧ PostD G ω1.lck D0 ω' (comp (ev (ecN P k) e) (evT (ecN P k) ifs) p (items.drop i) acc (wipeE env (pslots p)) M') (fun H' => Q (.ref D0) H')) ?_ ?_ ?_ ?_
    · exact ⟨ω1.lock D0 (.lst []), M1, [], [], Le0.lock _ _ _, rfl, hh1.lockNew hD, Rels.nil, pd⟩
    · rintro i H' _ ⟨ω', M', acc, ws, le', _, hh', _, _⟩
      exact hG ω' M' H' le' hh'
    · rintro i x H' H2 hi ⟨ω', M', acc, ws, le', hl', hh', ra, pd'⟩ y
      obtain ⟨d, ω2, hd, le2, hh2, rx⟩ := hY i x H' H2 ω' M' le' hh' y
      have le02 : Le0 ω1 ω2 := le'.trans le2.le0
      have hl2 : ω2.lck = upd ω1.lck D0 (.lst ws) := by rw [le2.lck, hl']
      have dr : items.drop i = d :: items.drop (i + 1) := by
        obtain ⟨hlt, e9⟩ := List.getElem?_eq_some_iff.mp hd
        rw [List.drop_eq_getElem_cons hlt, e9]
      rw [dr, comp] at pd'
      cases es : setP p d (wipeE env (pslots p)) with
      | none => rw [es] at pd'; exact False.elim pd'
      | some env1 =>
        rw [es] at pd'
        dsimp only at pd'
        have he2 : EnvRel G ω2 (wipeE env (pslots p)) (wipe σ (pslots p)) := ((he.mono le).mono0 le02).wipe _
        refine ⟨ω2, M', d, wipeE env (pslots p), env1, he2, hh2, rx, es, fun σ2 he3 hw => ⟨by rw [hw, wipe_wipe], ?_⟩⟩
        have pd2 := PostD.mono pd' le2.le0
        refine ⟨ω2, M', env1, he3, hh2, ?_⟩
        cases et : evT (ecN P k) ifs env1 M' with
        | er => rw [et] at pd2; exact False.elim pd2
        | ex _ _ => rw [et] at pd2; exact False.elim pd2
        | ok t M3 =>
          rw [et] at pd2
          intro ω3 H3 t' le3 hh3 et'
          subst et'
          have hl3 : ω3.lck = upd ω1.lck D0 (.lst ws) := by rw [le3.lck, hl2]
          have pd3 := PostD.mono pd2 le3.le0
          cases t with
          | false =>
            rw [if_neg Bool.false_ne_true]
            exact ⟨ω3, M3, acc, ws, le02.trans le3.le0, hl3, hh3, Rels.mono0 (le2.le0.trans le3.le0) _ _ ra, pd3⟩
          | true =>
            rw [if_pos rfl]
            refine ⟨ω3, M3, env1, he3.mono le3, hh3, ?_⟩
            dsimp only at pd3
            cases ee' : ev (ecN P k) e env1 M3 with
            | er => rw [ee'] at pd3; exact pd3
            | ex _ _ => rw [ee'] at pd3; exact False.elim pd3
            | ok v M4 =>
              rw [ee'] at pd3
              dsimp only at pd3
              intro ω4 H4 y4 le4 hh4 ry
              by_cases hac : acc.length < lim
              · rw [if_pos hac] at pd3
                have hl4 : ω4.lck = upd ω1.lck D0 (.lst ws) := by rw [le4.lck, hl3]
                have l4 : ω4.lck D0 = some (.lst ws) := by rw [hl4, upd_same]
                have ra4 := Rels.mono0 ((le2.le0.trans le3.le0).trans le4.le0) _ _ ra
                refine ⟨ws, hh4.lck _ _ l4, by rw [ra4.length]; exact Nat.lt_of_lt_of_le hac lim_le, ?_⟩
                refine ⟨ω4.lock D0 (.lst (ws ++ [y4])), M4, acc ++ [v], ws ++ [y4], ((le02.trans le3.le0).trans le4.le0).trans (Le0.lock _ _ _), ?_, hh4.relock l4, ?_, PostD.mono pd3 (le4.le0.trans (Le0.lock _ _ _))⟩
                · show upd ω4.lck D0 _ = _
                  rw [hl4, upd_upd]
                · exact Rels.mono0 (Le0.lock _ _ _) _ _ (ra4.append (Rels.one ry))
              · rw [if_neg hac] at pd3
                exact False.elim pd3
    · rintro H' ⟨ω', M', acc, ws, le', hl', hh', ra, pd'⟩
      rw [List.drop_length, comp] at pd'
      exact pd' ω' H' ws (Le0.refl _) hl' hh' ra
  exact ⟨PE.imp (pe_lc O.calm nd hi ok hg ht he hs) key, key⟩
end
end Ev


set_option autoImplicit false
set_option Elab.async false
set_option linter.all false
set_option maxRecDepth 100000
set_option maxHeartbeats 4000000
/-! EvGc: what is evaluated on a heap of its own; new objects forgotten. -/
namespace Ev
open PySem PySem.Spec PyProof.Rows L2
/-- a world cut: the first n objects alone -/
def Wd.cut (ω : Wd) (n : Nat) : Wd := { ω with ρ := ω.ρ.take n }
theorem take_get {α : Type} {l : List α} {n a : Nat} {x : α} (h : (l.take n)[a]? = some x) : l[a]? = some x ∧ a < n := by
  rw [List.getElem?_take] at h
  split at h
  · exact ⟨h, by assumption⟩
  · cases h
theorem get_take {α : Type} {l : List α} {n a : Nat} (h : a < n) : (l.take n)[a]? = l[a]? := by
  rw [List.getElem?_take, if_pos h]
mutual
theorem Rel.bel {G : G0} {ω ω' : Wd} {n : Nat} (hr : ∀ (a : Nat) p, a < n → ω.ρ[a]? = some p → ω'.ρ[a]? = some p) (hi : ∀ p o, ω.imm p = some o → ω'.imm p = some o) : ∀ (d : D) (v : V), bel n d = true → Rel G ω d v → Rel G ω' d v
  | .non, v, _, r => by simpa [Rel] using r
  | .bl b, v, _, r => by simpa [Rel] using r
  | .int i, v, _, r => by simpa [Rel] using r
  | .str s, v, _, r => by simpa [Rel] using r
  | .tup ds, v, b, r => by
    rw [Rel] at r ⊢
    rw [Ev.bel] at b
    obtain ⟨p, vs, e, s, q⟩ := r
    exact ⟨p, vs, e, sqT_mono s hi, Rels.bel hr hi ds vs b q⟩
  | .lst ds, v, b, r => by
    rw [Rel] at r ⊢
    rw [Ev.bel] at b
    obtain ⟨p, vs, e, s, q⟩ := r
    exact ⟨p, vs, e, hi _ _ s, Rels.bel hr hi ds vs b q⟩
  | .fro ds, v, b, r => by
    rw [Rel] at r ⊢
    rw [Ev.bel] at b
    obtain ⟨p, vs, e, s, q⟩ := r
    exact ⟨p, vs, e, sqL_mono s hi, Rels.bel hr hi ds vs b q⟩
  | .obj c ks ds, v, b, r => by
    rw [Rel] at r ⊢
    rw [Ev.bel] at b
    obtain ⟨p, dx, vs, e, h1, h2, h3, q⟩ := r
    exact ⟨p, dx, vs, e, hi _ _ h1, hi _ _ h2, h3, Rels.bel hr hi ds vs b q⟩
  | .dct ks ds, v, b, r => by
    rw [Rel] at r ⊢
    rw [Ev.bel] at b
    obtain ⟨p, od, vs, e, h1, h2, h3, q⟩ := r
    exact ⟨p, od, vs, e, hi _ _ h1, h2, h3, Rels.bel hr hi ds vs b q⟩
  | .exc c ks ds, v, b, r => by
    rw [Rel] at r ⊢
    rw [Ev.bel] at b
    obtain ⟨p, dx, fs, vs, e, h1, h2, h3, h4, h5, q⟩ := r
    exact ⟨p, dx, fs, vs, e, h1.imp (hi _ _) (hi _ _), hi _ _ h2, h3, h4, h5, Rels.bel hr hi ds vs b q⟩
  | .lams ns, v, b, r => by
    rw [Rel] at r ⊢
    obtain ⟨p, fs, e, h1, h2⟩ := r
    exact ⟨p, fs, e, hi _ _ h1, h2.mono hi⟩
  | .ref a, v, b, r => by
    rw [Rel] at r ⊢
    rw [Ev.bel] at b
    obtain ⟨p, e, q⟩ := r
    exact ⟨p, hr a p (Nat.le_of_ble_eq_true b) e, q⟩
theorem Rels.bel {G : G0} {ω ω' : Wd} {n : Nat} (hr : ∀ (a : Nat) p, a < n → ω.ρ[a]? = some p → ω'.ρ[a]? = some p) (hi : ∀ p o, ω.imm p = some o → ω'.imm p = some o) : ∀ (ds : List D) (vs : List V), bels n ds = true → Rels G ω ds vs → Rels G ω' ds vs
  | [], vs, _, r => by simpa [Rels] using r
  | d :: ds, vs, b, r => by
    rw [Rels] at r ⊢
    rw [Ev.bels, Bool.and_eq_true] at b
    obtain ⟨v, t, e, a, c⟩ := r
    exact ⟨v, t, e, Rel.bel hr hi d v b.1 a, Rels.bel hr hi ds t b.2 c⟩
end
theorem belE_get : ∀ {env : En} {n i : Nat} {d : D}, (belE n env)[i]? = some (some d) → env[i]? = some (some d) ∧ bel n d = true
  | [], n, i, d, h => by simp [belE] at h
  | none :: r, n, i, d, h => by
    cases i with
    | zero => simp [belE, belS] at h
    | succ i => exact belE_get (env := r) (by simpa [belE] using h)
  | some x :: r, n, i, d, h => by
    cases i with
    | zero =>
      rw [belE, List.getElem?_cons_zero, belS] at h
      by_cases c : bel n x = true
      · rw [if_pos c] at h
        cases h
        exact ⟨rfl, c⟩
      · rw [if_neg c] at h
        cases h
    | succ i => exact belE_get (env := r) (by simpa [belE] using h)
theorem belE_len : ∀ (env : En) (n : Nat), (belE n env).length = env.length
  | [], _ => rfl
  | o :: r, n => by simp [belE, belE_len r n]
theorem belM_get : ∀ {M : List O} {n i : Nat} {o : O}, belM n M = true → M[i]? = some o → belO n o = true
  | [], n, i, o, _, h => by simp at h
  | x :: M, n, i, o, b, h => by
    rw [belM, Bool.and_eq_true] at b
    cases i with
    | zero => simp at h; subst h; exact b.1
    | succ i => exact belM_get b.2 (by simpa using h)
section
variable {G : G0} {ω ω' : Wd} {M : List O} {H : Hp} {n : Nat} {env : En} {σ : L2.St}
theorem ORel.bel (hr : ∀ (a : Nat) p, a < n → ω.ρ[a]? = some p → ω'.ρ[a]? = some p) (hi : ∀ p o, ω.imm p = some o → ω'.imm p = some o) {p : Addr} {o : O} {ho : HO} (b : belO n o = true) (r : ORel G ω p o ho) : ORel G ω' p o ho := by
  cases o with
  | lst ds =>
    obtain ⟨vs, e, q⟩ := r
    exact ⟨vs, e, Rels.bel hr hi ds vs b q⟩
  | dic ks ds =>
    obtain ⟨vs, e, k, l, q⟩ := r
    exact ⟨vs, e, k, l, Rels.bel hr hi ds vs b q⟩
  | ins c ks ds =>
    obtain ⟨dx, vs, e, k, l, q⟩ := r
    exact ⟨dx, vs, e, hi _ _ k, l, Rels.bel hr hi ds vs b q⟩
  | gone => exact r.elim
  | tbl => exact r
theorem cut_at (ω : Wd) (n : Nat) : ∀ (a : Nat) p, a < n → ω.ρ[a]? = some p → (ω.cut n).ρ[a]? = some p := fun a p h e => by
  show (ω.ρ.take n)[a]? = _
  rw [get_take h]
  exact e
theorem HRel.cut (h : HRel G ω M H) (b : belM n (M.take n) = true) : HRel G (ω.cut n) (M.take n) H := by
  refine ⟨h.imm, h.lck, ?_, fun a o e ng => ?_, ?_, fun p hp => h.there p (List.mem_of_mem_take hp), h.dj, fun p hp => h.nl p (List.mem_of_mem_take hp), fun a e => h.tab a (take_get e).1, h.lkd⟩
  · show (ω.ρ.take n).length = _
    rw [List.length_take, List.length_take, h.len]
  · obtain ⟨e1, hl⟩ := take_get e
    obtain ⟨p, ho, f1, f2, f3, f4, f5⟩ := h.obj a o e1 ng
    exact ⟨p, ho, cut_at ω n a p hl f1, f2, f3.bel (cut_at ω n) (fun _ _ z => z) (belM_get b e), f4, f5⟩
  · exact List.Sublist.nodup (List.take_sublist n ω.ρ) h.nd
theorem EnvRel.cut (h : EnvRel G ω env σ) (n : Nat) : EnvRel G (ω.cut n) (belE n env) σ :=
  ⟨by rw [belE_len]; exact h.len, fun i d e => by
    obtain ⟨e1, b⟩ := belE_get e
    obtain ⟨v, a, r⟩ := h.val i d e1
    exact ⟨v, a, Rel.bel (cut_at ω n) (fun _ _ z => z) d v b r⟩⟩
theorem Le.cut (h : Le ω ω') (hn : ω.ρ.length ≤ n) : Le ω (ω'.cut n) := by
  obtain ⟨t, e⟩ := h.ρ
  refine ⟨⟨t.take (n - ω.ρ.length), ?_⟩, h.imm, h.lck⟩
  show ω'.ρ.take n = _
  rw [e, List.take_append, List.take_of_length_le hn]
/-! ### a world where all is locked -/
open Classical in
noncomputable def immL (ω : Wd) (H : Hp) : Hp := fun p => match ω.imm p with
  | some o => some o
  | none => match H p with
    | some (.ext f) => some (.ext f)
    | _ => none
noncomputable def lckL (ω : Wd) (H : Hp) : Hp := fun p => match ω.imm p with
  | some _ => none
  | none => match H p with
    | some (.ext _) => none
    | o => o
noncomputable def Wd.lockAll (ω : Wd) (H : Hp) : Wd := ⟨[], immL ω H, lckL ω H⟩
theorem immL_mono {H : Hp} {p : Addr} {o : HO} (h : ω.imm p = some o) : immL ω H p = some o := by
  unfold immL
  rw [h]
theorem HRel.lockAll (h : HRel G ω M H) : HRel G (ω.lockAll H) [] H := by
  refine ⟨fun p o e => ?_, fun p o e => ?_, rfl, fun a o e => by simp at e, List.nodup_nil, fun p hp => (nomatch hp), fun p o e => ?_, fun p hp => (nomatch hp), fun a e => by simp at e, fun p f e => ?_⟩
  · have e : immL ω H p = some o := e
    unfold immL at e
    cases q : ω.imm p with
    | some u => rw [q] at e; cases e; exact h.imm _ _ q
    | none =>
      rw [q] at e
      dsimp only at e
      split at e
      · rename_i f z; rw [z]; exact e
      · cases e
  · have e : lckL ω H p = some o := e
    unfold lckL at e
    cases q : ω.imm p with
    | some u => rw [q] at e; cases e
    | none =>
      rw [q] at e
      dsimp only at e
      split at e
      · cases e
      · exact e
  · show lckL ω H p = none
    have e : immL ω H p = some o := e
    unfold immL at e
    unfold lckL
    cases q : ω.imm p with
    | some u => rfl
    | none =>
      rw [q] at e
      dsimp only at e ⊢
      split at e
      · rename_i f z
        first | rfl | (rw [z])
      · cases e
  · have e : lckL ω H p = some (.ext f) := e
    unfold lckL at e
    cases q : ω.imm p with
    | some u => rw [q] at e; cases e
    | none =>
      rw [q] at e
      dsimp only at e
      split at e
      · cases e
      · rename_i z; exact z f e
/-- behind it: the old objects again -/
theorem HRel.unlockAll {ω1 : Wd} {M1 : List O} {H1 : Hp} (h : HRel G ω M H) (le : Le (ω.lockAll H) ω1) (h1 : HRel G ω1 M1 H1) : HRel G ⟨ω.ρ, ω1.imm, ω.lck⟩ M H1 ∧ Le ω ⟨ω.ρ, ω1.imm, ω.lck⟩ := by
  have keep : ∀ p o, H p = some o → H1 p = some o := fun p o e => by
    cases q : ω.imm p with
    | some u =>
      have : u = o := by rw [h.imm _ _ q] at e; exact Option.some.inj e
      subst this
      exact h1.imm _ _ (le.imm _ _ (immL_mono q))
    | none =>
      cases o with
      | ext f =>
        refine h1.imm _ _ (le.imm _ _ ?_)
        show immL ω H p = _
        unfold immL
        rw [q]
        dsimp only
        rw [e]
      | _ =>
        refine h1.lck _ _ ?_
        rw [le.lck]
        show lckL ω H p = _
        unfold lckL
        rw [q]
        dsimp only
        rw [e]
  have li : ∀ p o, ω.imm p = some o → ω1.imm p = some o := fun p o e => le.imm _ _ (immL_mono e)
  have lk : ∀ p o, ω.lck p = some o → ω1.lck p = some o := fun p o e => by
    rw [le.lck]
    show lckL ω H p = _
    have hp := h.lck p o e
    have hi : ω.imm p = none := by
      cases q : ω.imm p with
      | none => rfl
      | some u => have := h.dj p u q; rw [e] at this; cases this
    unfold lckL
    rw [hi]
    dsimp only
    rw [hp]
    cases o with
    | ext f => exact absurd e (h.lkd p f)
    | _ => rfl
  have l0 : Le ω ⟨ω.ρ, ω1.imm, ω.lck⟩ := ⟨⟨[], by simp⟩, li, rfl⟩
  refine ⟨⟨h1.imm, fun p o e => keep p o (h.lck p o e), h.len, fun a o e ng => ?_, h.nd, fun p hp z => ?_, fun p o e => ?_, h.nl, fun a e => ?_, h.lkd⟩, l0⟩
  · obtain ⟨p, ho, e1, e2, e3, e4, e5⟩ := h.obj a o e ng
    refine ⟨p, ho, e1, keep _ _ e2, e3.mono l0, ?_, e5⟩
    show ω1.imm p = none
    have nx : ∀ f, ho ≠ .ext f := fun f z => by
      subst z
      cases o with
      | lst ds => obtain ⟨vs, z, _⟩ := e3; cases z
      | dic ks ds => obtain ⟨vs, z, _⟩ := e3; cases z
      | ins c ks ds => obtain ⟨dx, vs, z, _⟩ := e3; cases z
      | gone => exact ng rfl
      | tbl => obtain ⟨_, ps, z⟩ := e3; cases z
    have : ω1.lck p = some ho := by
      rw [le.lck]
      show lckL ω H p = _
      unfold lckL
      rw [e4]
      dsimp only
      rw [e2]
      cases ho with
      | ext f => exact absurd rfl (nx f)
      | _ => rfl
    cases q : ω1.imm p with
    | none => rfl
    | some u =>
      have hz := h1.dj p u q
      rw [this] at hz
      cases hz
  · cases q : H p with
    | none => exact h.there p hp q
    | some o => rw [keep p o q] at z; cases z
  · show ω.lck p = none
    cases q : ω.lck p with
    | none => rfl
    | some u => have := h1.dj p o e; rw [lk p u q] at this; cases this
  · exact (h.tab a e).ext fun b o e => keep b o e
theorem EnvRel.lockAll (h : EnvRel G ω env σ) : EnvRel G (ω.lockAll H) (belE 0 env) σ :=
  ⟨by rw [belE_len]; exact h.len, fun i d e => by
    obtain ⟨e1, b⟩ := belE_get e
    obtain ⟨v, a, r⟩ := h.val i d e1
    exact ⟨v, a, Rel.bel (fun _ _ z => absurd z (Nat.not_lt_zero _)) (fun _ _ z => immL_mono z) d v b r⟩⟩
end
section
variable {G : Gs} {C : Ec} {Y : L2.Cx} {e : Expr} {a : X} {ω : Wd} {M : List O} {H : Hp} {env : En}
theorem xrel_bel {G : G0} {ω ω' : Wd} (hi : ∀ p o, ω.imm p = some o → ω'.imm p = some o) {d : D} {cls : Value} {dd : Option Addr} (b : bel 0 d = true) (x : XRel G ω d cls dd) : XRel G ω' d cls dd := by
  unfold XRel at x ⊢
  cases d with
  | exc c ks ds =>
    obtain ⟨e1, dx, fs, vs, e2, e3, e4, e5, e6, r⟩ := x
    rw [Ev.bel] at b
    exact ⟨e1, dx, fs, vs, e2, hi _ _ e3, e4, e5, e6, Rels.bel (fun _ _ z => absurd z (Nat.not_lt_zero _)) hi ds vs b r⟩
  | _ => exact x.elim
theorem Post.gc {α β : Type} {RA : Wd → α → β → Prop} {G : Gs} {ω : Wd} {M : List O} {H : Hp} (hh : HRel G ω M H) {r : Rs D} {f : D → List O → Rs α} {Q : β → Hp → Prop} (h : Post G RA ω ((gcR r M).bind f) Q)
    (hf : ∀ d M1, bel 0 d = true → f d M1 = .er ∨ ∃ x, f d M1 = .ok x M1 ∧ f d M = .ok x M ∧ ∀ ω1 v, RA ω1 x v → RA ⟨ω.ρ, ω1.imm, ω.lck⟩ x v) (he : ∀ d M1, f d M1 = .er → f d M = .er) : Post G RA (ω.lockAll H) (r.bind f) Q := by
  cases r with
  | er => exact h
  | ok d M1 =>
    unfold gcR at h
    dsimp only at h
    split at h
    · rename_i hb
      show Post G RA (ω.lockAll H) (f d M1) Q
      have h : Post G RA ω (f d M) Q := h
      rcases hf d M1 hb with z | ⟨x, e1, e2, e3⟩
      · rw [he d M1 z] at h; exact False.elim h
      · rw [e1]
        rw [e2] at h
        intro ω1 H1 v le h1 r
        obtain ⟨q1, q2⟩ := hh.unlockAll le h1
        exact h _ _ _ q2 q1 (e3 ω1 v r)
    · exact False.elim h
  | ex d M1 =>
    unfold gcR at h
    dsimp only at h
    split at h
    · rename_i hb
      intro ω1 H1 cls dd le h1 x
      obtain ⟨q1, q2⟩ := hh.unlockAll le h1
      exact h _ _ cls dd q2 q1 (xrel_bel (ω := ω1) (ω' := ⟨ω.ρ, ω1.imm, ω.lck⟩) (fun _ _ z => z) hb x)
    · exact False.elim h
theorem Snd.gc (h : Snd G C Y e a) : Snd G C Y e (.gc a) := by
  have T : ∀ σ H Q, tB' G C (.gc a) σ H Q → tB' G C a σ H Q := fun σ H Q z => by
    obtain ⟨ω, M, env, he, hh, post⟩ := z
    refine ⟨ω.lockAll H, [], belE 0 env, he.lockAll, hh.lockAll, ?_⟩
    unfold evB at post ⊢
    rw [ev] at post
    refine Post.gc hh post (fun d M1 hb => ?_) fun d M1 z => ?_
    · cases d with
      | bl b => exact .inr ⟨b, rfl, rfl, fun _ _ z => z⟩
      | _ => exact .inl rfl
    · cases d with
      | bl b => cases z
      | _ => rfl
  refine ⟨PE.imp h.pe fun σ H Q z => ?_, PT.imp h.pt T, fun op vs pos z => PW.imp (h.pw op vs pos z) T⟩
  obtain ⟨ω, M, env, he, hh, post⟩ := z
  refine ⟨ω.lockAll H, [], belE 0 env, he.lockAll, hh.lockAll, ?_⟩
  rw [ev] at post
  have e1 : ∀ r : Rs D, r.bind (fun d M => .ok d M) = r := fun r => by cases r <;> rfl
  rw [← e1 (gcR _ _)] at post
  rw [← e1 (ev C a (belE 0 env) [])]
  -- a value without references
  cases r : ev C a (belE 0 env) [] with
  | er => rw [r] at post; exact post
  | ok d M1 =>
    rw [r] at post
    unfold gcR at post
    dsimp only at post
    split at post
    · rename_i hb
      intro ω1 H1 v le h1 q
      obtain ⟨q1, q2⟩ := hh.unlockAll le h1
      exact post _ _ _ q2 q1 (Rel.bel (ω := ω1) (ω' := ⟨ω.ρ, ω1.imm, ω.lck⟩) (fun _ _ z => absurd z (Nat.not_lt_zero _)) (fun _ _ z => z) d v hb q)
    · exact False.elim post
  | ex d M1 =>
    rw [r] at post
    unfold gcR at post
    dsimp only at post
    split at post
    · rename_i hb
      intro ω1 H1 cls dd le h1 x
      obtain ⟨q1, q2⟩ := hh.unlockAll le h1
      exact post _ _ cls dd q2 q1 (xrel_bel (ω := ω1) (ω' := ⟨ω.ρ, ω1.imm, ω.lck⟩) (fun _ _ z => z) hb x)
    · exact False.elim post
theorem Snd.gct (h : Snd G C Y e a) : Snd G C Y e (.gct a) := by
  refine ⟨PE.imp h.pe fun σ H Q z => ?_, PT.imp h.pt fun σ H Q z => ?_, fun op vs pos z0 => PW.imp (h.pw op vs pos z0) fun σ H Q z => ?_⟩
  · obtain ⟨ω, M, env, he, hh, post⟩ := z
    refine ⟨ω, M, env, he, hh, ?_⟩
    rw [ev] at post
    cases r : ev C a env M with
    | er => rw [r] at post; exact post
    | ex d M1 => rw [r] at post; exact post
    | ok d M1 =>
      rw [r] at post
      unfold gcT at post
      dsimp only at post
      split at post
      · rename_i hb
        rw [Bool.and_eq_true] at hb
        exact fun ω' H' v le h1 q => post _ _ v (le.cut (Nat.le_of_eq hh.len)) (h1.cut hb.2) (Rel.bel (cut_at ω' _) (fun _ _ z => z) d v hb.1 q)
      · exact False.elim post
  all_goals
    obtain ⟨ω, M, env, he, hh, post⟩ := z
    refine ⟨ω, M, env, he, hh, ?_⟩
    unfold evB at post ⊢
    rw [ev] at post
    cases r : ev C a env M with
    | er => rw [r] at post; exact post
    | ex d M1 => rw [r] at post; exact post
    | ok d M1 =>
      rw [r] at post
      unfold gcT at post
      dsimp only at post
      split at post
      · rename_i hb
        rw [Bool.and_eq_true] at hb
        simp only [Rs.bind] at post ⊢
        cases d with
        | bl b => exact fun ω' H' v le h1 q => post _ _ v (le.cut (Nat.le_of_eq hh.len)) (h1.cut hb.2) q
        | _ => exact post
      · exact False.elim post
end
end Ev


set_option autoImplicit false
set_option Elab.async false
set_option linter.all false
set_option maxRecDepth 100000
set_option maxHeartbeats 4000000
/-! EvDp: displays with stars, t[::-1], {}. -/
namespace Ev
open PySem PySem.Spec PyProof.Rows L2
section
variable {G : Gs} {P : Pg} {ft : List Ft} {k : Nat} {c : Ck} {Y : L2.Cx}
theorem Rels.reverse {ω : Wd} : ∀ {ds : List D} {vs : List V}, Rels G ω ds vs → Rels G ω ds.reverse vs.reverse
  | [], vs, r => by
    rw [Rels] at r
    subst r
    exact Rels.nil
  | d :: ds, vs, r => by
    rw [Rels] at r
    obtain ⟨v, w, e, a, b⟩ := r
    subst e
    rw [List.reverse_cons, List.reverse_cons]
    exact (Rels.reverse b).append (Rels.one a)
def tDp (G : Gs) (C : Ec) (es : List X) (fl : List Bool) : TA := fun σ H Q => ∃ ω M env, EnvRel G ω env σ ∧ HRel G ω M H ∧ Post G (Rels G) ω (evp C es fl env M) Q
theorem tDp_bind {C : Ec} {xs : List X} {fl : List Bool} {σ : L2.St} {H : Hp} {γ δ : Type} {RB : Wd → γ → δ → Prop} {f : List D → List O → Rs γ} {Q : δ → Hp → Prop} {Q' : List V → Hp → Prop} {ω : Wd} {M : List O} {env : En} (he : EnvRel G ω env σ) (hh : HRel G ω M H)
    (post : Post G RB ω ((evp C xs fl env M).bind f) Q) (kk : ∀ d M1 ω1 H1 v, EnvRel G ω1 env σ → HRel G ω1 M1 H1 → Rels G ω1 d v → Post G RB ω1 (f d M1) Q → Le ω ω1 → Q' v H1) : tDp G C xs fl σ H Q' :=
  ⟨ω, M, env, he, hh, Post.bind post fun d M1 ω1 H1 v le hh1 r p => kk d M1 ω1 H1 v (he.mono le) hh1 r p le⟩
theorem pa_dp (hK : Y.K = G.K) : ∀ {as : List Expr} {es : List X}, PEs G (ecN P k) Y (as.map unstar) es → PA Y as (tDp G (ecN P k) es (as.map isStar))
  | [], es, h => by
    cases h
    refine PA.imp pa_nil fun σ H Q q => ?_
    obtain ⟨ω, M, env, he, hh, post⟩ := q
    rw [evp] at post
    exact Post.here (v := []) post hh Rels.nil
  | a :: as, es, h => by
    rw [List.map_cons] at h
    cases h with
    | @cons e1 rs x xs h1 ns r =>
      have ih := pa_dp hK r
      have plain : (∀ es' env, starEach (a :: es') env = (false, eval a env) :: starEach es' env) → PE Y a (tE G (ecN P k) x) → isStar a = false → PA Y (a :: as) (tDp G (ecN P k) (x :: xs) ((a :: as).map isStar)) := fun n1 h1 hs => by
        refine PA.imp (pa_cons h1 ih (n1 _ _)) fun σ H Q q => ?_
        obtain ⟨ω, M, env, he, hh, post⟩ := q
        rw [List.map_cons, hs, evp] at post
        refine tE_bind he hh post fun d M1 ω1 H1 v he1 hh1 r1 p le => ?_
        have p : Post G (Rels G) ω1 ((evp (ecN P k) xs (as.map isStar) env M1).bind fun r M2 => .ok ([d] ++ r) M2) Q := p
        exact tDp_bind he1 hh1 p fun ds M2 ω2 H2 vs he2 hh2 r2 p2 le2 => Post.here p2 hh2 (Rels.cons (Rel.mono le2 _ _ r1) r2)
      cases a with
      | Starred e p =>
        refine PA.imp (StX.pa_star h1 ih rfl) fun σ H Q q => ?_
        obtain ⟨ω, M, env, he, hh, post⟩ := q
        have hm : ((Expr.Starred e p) :: as).map isStar = true :: as.map isStar := rfl
        rw [hm, evp] at post
        refine tE_bind he hh post fun d M1 ω1 H1 v he1 hh1 r1 pp le => ?_
        have pp : Post G (Rels G) ω1 (match itemsOf M1 d with
          | some l => (evp (ecN P k) xs (as.map isStar) env M1).bind fun r M2 => .ok (l ++ r) M2
          | none => .er) Q := pp
        split at pp
        · rename_i l el
          obtain ⟨q, ws, f1, f2, f3⟩ := itemsOf_ok hh1 r1 el
          subst f1
          refine ⟨q, ws, rfl, f2.elim (fun z => .inr (SqL.of z)) (fun z => .inl (by rw [hK]; exact z)), ?_⟩
          exact tDp_bind he1 hh1 pp fun ds M2 ω2 H2 vs he2 hh2 r2 p2 le2 => Post.here p2 hh2 ((Rels.mono le2 _ _ f3).append r2)
        · exact False.elim pp
      | _ => exact plain ns h1 rfl
theorem s_dspT (O : Ok G P ft k c Y) {es : List X} {as : List Expr} {n : Nat} {pos : Pos} (A : PEs G (ecN P k) Y (as.map unstar) es) : Snd G (ecN P k) Y (.Tuple as n pos) (.dsp 0 (as.map isStar) es) := by
  refine Snd.of (PE.imp (pe_tup (pa_dp O.hK A)) fun σ H Q q => ?_) (fun _ => rfl) (fun _ _ _ z => nomatch z)
  obtain ⟨ω, M, env, he, hh, post⟩ := q
  rw [ev] at post
  refine tDp_bind he hh post fun ds M1 ω1 H1 vs he1 hh1 r p le => ?_
  split at p
  · rename_i hl
    exact ⟨by rw [r.length]; exact Nat.le_trans hl lim_le, fun q hq => post_tup p hh1 hq r⟩
  · exact False.elim p
theorem s_dspL (O : Ok G P ft k c Y) {t : Nat} {es : List X} {as : List Expr} {pos : Pos} (A : PEs G (ecN P k) Y (as.map unstar) es) (ht : t ≠ 0) : Snd G (ecN P k) Y (.List as pos) (.dsp t (as.map isStar) es) := by
  refine Snd.of (PE.imp (pe_lst (pa_dp O.hK A)) fun σ H Q q => ?_) (fun _ => rfl) (fun _ _ _ z => nomatch z)
  obtain ⟨ω, M, env, he, hh, post⟩ := q
  rw [ev] at post
  refine tDp_bind he hh post fun ds M1 ω1 H1 vs he1 hh1 r p le => ?_
  split at p
  · rename_i hl
    refine ⟨by rw [r.length]; exact Nat.le_trans hl lim_le, fun q hq => ?_⟩
    match t, ht with
    | 1, _ => exact post_lst p hh1 hq r
    | _ + 2, _ => exact post_new p hh1 hq r
  · exact False.elim p
theorem s_rev (O : Ok G P ft k c Y) {a : X} {ea : Expr} {kk : Nat} {p1 p2 p3 pos : Pos} (A : Snd G (ecN P k) Y ea a) : Snd G (ecN P k) Y (.Subscript ea (.Slice none none (some (.UnaryOp .USub (.Constant (.int 1) kk p1) p2)) p3) pos) (.rev a) := by
  refine Snd.of (PE.imp (pe_revT A.pe) fun σ H Q q => ?_) (fun _ => rfl) (fun _ _ _ z => nomatch z)
  obtain ⟨ω, M, env, he, hh, post⟩ := q
  rw [ev] at post
  refine tE_bind he hh post fun d M1 ω1 H1 v he1 hh1 r p le => ?_
  cases d with
  | tup l =>
    dsimp only at p
    split at p
    · rw [Rel] at r
      obtain ⟨q, vs, f1, f2, f3⟩ := r
      subst f1
      exact ⟨q, vs, rfl, by rw [O.hK]; exact sqT_mono f2 hh1.imm, fun z hz => post_tup p hh1 hz f3.reverse⟩
    · exact False.elim p
  | _ => exact False.elim p
theorem s_dic0 (O : Ok G P ft k c Y) {h : Bool} {pos : Pos} : Snd G (ecN P k) Y (.Dict [] [] pos) (.dic true [] []) := by
  refine Snd.of (PE.imp pe_dnewK fun σ H Q q => ?_) (fun _ => rfl) (fun _ _ _ z => nomatch z)
  obtain ⟨ω, M, env, he, hh, post⟩ := q
  rw [ev, evs] at post
  have post : PostE G ω (alloc (.dic [] []) M) Q := post
  exact fun z hz => post_newD (ks := []) (ds := []) (vs := []) post hh hz rfl rfl Rels.nil
end
end Ev


set_option autoImplicit false
set_option Elab.async false
set_option linter.all false
set_option maxRecDepth 100000
set_option maxHeartbeats 4000000
/-! EvL: the theorem for expressions. -/
namespace Ev
open PySem PySem.Spec PyProof.Rows L2 RZ EvCall
section
variable {G : Gs} {P : Pg} {ft : List Ft} {k : Nat}
theorem no_of {x : X} {c : Ck} {e : Expr} (h : okE x c e = true) (hf : okE x c e = false) {p : Prop} : p := by rw [h] at hf; cases hf
theorem arg_side {es : List X} {c : Ck} {as : List Expr} {Y : L2.Cx} {pos : Pos} (h : okEs es c as = true) : ∀ e r, as = e :: r → starEach (e :: r) Y.env = (false, eval e Y.env) :: starEach r Y.env ∧ (backTo pos (starEach r Y.env)).any (·.1) = false := fun e r z => by
  subst z
  cases es with
  | nil => cases h
  | cons x xs =>
    rw [okEs, Bool.and_eq_true] at h
    exact ⟨ok_star h.1 r Y.env, ok_stars h.2 pos Y.env⟩
theorem kw_len : ∀ {kws : List Keyword} {kn : List Str} {ke : List Expr}, kwParts kws = some (kn, ke) → kn.length = ke.length
  | [], kn, ke, h => by cases h; rfl
  | ⟨some k, e, p⟩ :: kws, kn, ke, h => by
    rw [kwParts] at h
    cases e2 : kwParts kws with
    | none => rw [e2] at h; cases h
    | some q =>
      obtain ⟨ks, es⟩ := q
      rw [e2] at h
      cases h
      rw [List.length_cons, List.length_cons, kw_len e2]
  | ⟨none, e, p⟩ :: kws, kn, ke, h => by cases h
theorem noDbg_ok {x : Str} (h : noDbg x = true) : (x == ("__debug__" : Str)) = false ∧ x ≠ Str.empty := by
  unfold noDbg at h
  rw [Bool.and_eq_true, beq_iff_eq, beq_iff_eq] at h
  exact ⟨h.1, fun z => by rw [z] at h; simp at h⟩
theorem split_plain : ∀ {as : List Expr}, (splitStar as).2 = [] → (splitStar as).1 = as
  | [], _ => rfl
  | a :: b :: as, h => by
    have e1 : splitStar (a :: b :: as) = (a :: (splitStar (b :: as)).1, (splitStar (b :: as)).2) := by cases a <;> rfl
    rw [e1] at h ⊢
    show a :: (splitStar (b :: as)).1 = _
    rw [split_plain (as := b :: as) h]
  | [a], h => by
    cases a with
    | Starred e p => cases h
    | _ => rfl
theorem split_lone {as : List Expr} (h : (splitStar as).1 = []) : as = [] ∨ ∃ e p, as = [.Starred e p] := by
  cases as with
  | nil => exact .inl rfl
  | cons a as =>
    cases as with
    | cons b as =>
      have e1 : splitStar (a :: b :: as) = (a :: (splitStar (b :: as)).1, (splitStar (b :: as)).2) := by cases a <;> rfl
      rw [e1] at h
      cases h
    | nil =>
      cases a with
      | Starred e p => exact .inr ⟨e, p, rfl⟩
      | _ => cases h
theorem par_ok {c : Ck} {Y : L2.Cx} (O : Ok G P ft k c Y) {as : List Expr} {kws : List Keyword} {kn : List Str} {ke : List Expr} {es st vs : List X} (hd : ((splitStar as).1.isEmpty || (splitStar as).2.isEmpty) = true) (A : PEs G (ecN P k) Y (splitStar as).1 es) (B : PEs G (ecN P k) Y (splitStar as).2 st) (hk : kwParts kws = some (kn, ke)) (K : PEs G (ecN P k) Y ke vs) : PAr Y as kws kn (tAr G (ecN P k) es st vs) := by
  cases e2 : (splitStar as).2 with
  | nil =>
    rw [split_plain e2] at A
    rw [e2] at B
    cases B
    exact par_plain O A hk K
  | cons z r =>
    rw [e2] at hd
    have e1 : (splitStar as).1 = [] := by simpa using hd
    rcases split_lone e1 with rfl | ⟨e, p, rfl⟩
    · cases e2
    · have A : PEs G (ecN P k) Y [] es := A
      have B : PEs G (ecN P k) Y [e] st := B
      cases A
      cases B with
      | cons h ns r =>
        cases r
        exact par_star O h hk K
theorem fst_form {p q : Tx} {a : X} {c : Ck} {e : Expr} (h : okE (.fst p a q) c e = true) : ∃ (y : Str) (n : Nat) (p1 : Pos) (ea : Expr) (p2 : Pos) (z : Str) (m : Nat) (p3 pos : Pos), e = .JoinedStr [.Constant (.str y) n p1, .FormattedValue ea (.negSucc 0) none p2, .Constant (.str z) m p3] pos ∧ (y.cps.toList = p ∧ p.length ≤ lim) ∧ z.cps.toList = q ∧ okE a c ea = true := by
  cases e with
  | JoinedStr vs pos =>
    match vs, h with
    | [v1, v2, v3], h =>
      cases v1 with
      | Constant k1 n p1 =>
        cases k1 with
        | str y =>
          cases v2 with
          | FormattedValue ea cv sp p2 =>
            match cv, sp, h with
            | .negSucc 0, none, h =>
              cases v3 with
              | Constant k3 m p3 =>
                cases k3 with
                | str z =>
                  rw [okE, Bool.and_eq_true, Bool.and_eq_true] at h
                  exact ⟨y, n, p1, ea, p2, z, m, p3, pos, rfl, of_decide_eq_true h.1, of_decide_eq_true h.2.1, h.2.2⟩
                | _ => cases h
              | _ => cases h
            | .negSucc 0, some _, h => cases h
            | .negSucc (_ + 1), _, h => cases h
            | .ofNat _, _, h => cases h
          | _ => cases h
        | _ => cases h
      | _ => cases h
    | [], h => cases h
    | [v1], h =>
      cases v1 with
      | Constant k1 n p1 => cases k1 <;> cases h
      | _ => cases h
    | [v1, v2], h =>
      cases v1 with
      | Constant k1 n p1 =>
        cases k1 with
        | str y =>
          cases v2 with
          | FormattedValue ea cv sp p2 =>
            match cv, sp, h with
            | .negSucc 0, none, h => cases h
            | .negSucc 0, some _, h => cases h
            | .negSucc (_ + 1), _, h => cases h
            | .ofNat _, _, h => cases h
          | _ => cases h
        | _ => cases h
      | _ => cases h
    | v1 :: v2 :: v3 :: _ :: _, h =>
      cases v1 with
      | Constant k1 n p1 =>
        cases k1 with
        | str y =>
          cases v2 with
          | FormattedValue ea cv sp p2 =>
            match cv, sp, h with
            | .negSucc 0, none, h =>
              cases v3 with
              | Constant k3 m p3 => cases k3 <;> cases h
              | _ => cases h
            | .negSucc 0, some _, h => cases h
            | .negSucc (_ + 1), _, h => cases h
            | .ofNat _, _, h => cases h
          | _ => cases h
        | _ => cases h
      | _ => cases h
  | _ => cases h
theorem bm_name {m : Nat} {n : Str} (h : (match bmName m with
    | some w => decide (n = Str.ofString w)
    | none => false) = true) : ∃ w, bmName m = some w ∧ n = Str.ofString w := by
  split at h
  · rename_i w e
    exact ⟨w, e, of_decide_eq_true h⟩
  · cases h
theorem blt_name {m : Nat} {n : Str} (h : (match bltName m with
    | some w => decide (n = Str.ofString w)
    | none => false) = true) : ∃ w, bltName m = some w ∧ n = Str.ofString w := by
  split at h
  · rename_i w e
    exact ⟨w, e, of_decide_eq_true h⟩
  · cases h
mutual
theorem sndE : ∀ (x : X) (G : Gs) (c : Ck) (e : Expr) (Y : L2.Cx), Ok G P ft k c Y → okE x c e = true → Snd G (ecN P k) Y e x
  | .var i, G, c, e, Y, O, h => by
    cases e with
    | Name x p => exact s_var O h
    | _ => cases h
  | .cst d, G, c, e, Y, O, h => by
    cases e with
    | Constant kk n p => exact s_cst (c := c) h
    | _ => cases h
  | .glo i, G, c, e, Y, O, h => by
    cases e with
    | Name x p =>
      rw [okE, Bool.and_eq_true, Bool.and_eq_true] at h
      exact s_glo O (of_decide_eq_true h.1) h.2.1 (noDbg_ok h.2.2).1
    | _ => cases h
  | .bin o a b, G, c, e, Y, O, h => by
    cases e with
    | BinOp ea op eb p =>
      rw [okE, Bool.and_eq_true, Bool.and_eq_true] at h
      exact s_bin O (of_decide_eq_true h.1) (sndE a G c ea Y O h.2.1) (sndE b G c eb Y O h.2.2)
    | _ => cases h
  | .neg a, G, c, e, Y, O, h => by
    cases e with
    | UnaryOp op ea p =>
      cases op with
      | USub => exact s_neg (sndE a G c ea Y O h)
      | _ => cases h
    | _ => cases h
  | .cmp o a b, G, c, e, Y, O, h => by
    cases e with
    | Compare ea ops es p =>
      match ops, es, h with
      | [op], [eb], h =>
        rw [okE, Bool.and_eq_true, Bool.and_eq_true] at h
        exact s_cmp O (of_decide_eq_true h.1) (sndE a G c ea Y O h.2.1) (sndE b G c eb Y O h.2.2) (ok_mark h.2.2 op)
      | [], _, h => cases h
      | [_], [], h => cases h
      | [_], _ :: _ :: _, h => cases h
      | _ :: _ :: _, _, h => cases h
    | _ => cases h
  | .cmp2 o q a b d, G, c, e, Y, O, h => by
    cases e with
    | Compare ea ops es p =>
      match ops, es, h with
      | [op, pp], [eb, ed], h =>
        rw [okE] at h
        simp only [Bool.and_eq_true] at h
        obtain ⟨h1, h2, h3, h4, h5⟩ := h
        exact s_cmp2 O (of_decide_eq_true h1) (of_decide_eq_true h2) (sndE a G c ea Y O h3) (sndE b G c eb Y O h4) (sndE d G c ed Y O h5) (ok_mark h5 pp)
      | [], _, h => cases h
      | [_], _, h => cases h
      | [_, _], [], h => cases h
      | [_, _], [_], h => cases h
      | [_, _], _ :: _ :: _ :: _, h => cases h
      | _ :: _ :: _ :: _, _, h => cases h
    | _ => cases h
  | .and a b, G, c, e, Y, O, h => by
    cases e with
    | BoolOp op es p =>
      match op, es, h with
      | .And, [ea, eb], h =>
        rw [okE, Bool.and_eq_true] at h
        exact s_and2 (sndE a G c ea Y O h.1) (sndE b G c eb Y O h.2)
      | .And, ea :: eb :: ed :: rest, h =>
        rw [okE, Bool.and_eq_true] at h
        exact s_and3 (sndE a G c ea Y O h.1) (sndE b G c _ Y O h.2)
      | .And, [], h => cases h
      | .And, [_], h => cases h
      | .Or, _, h => cases h
    | _ => cases h
  | .or a b, G, c, e, Y, O, h => by
    cases e with
    | BoolOp op es p =>
      match op, es, h with
      | .Or, [ea, eb], h =>
        rw [okE, Bool.and_eq_true] at h
        exact s_or2 (sndE a G c ea Y O h.1) (sndE b G c eb Y O h.2)
      | .Or, ea :: eb :: ed :: rest, h =>
        rw [okE, Bool.and_eq_true] at h
        exact s_or3 (sndE a G c ea Y O h.1) (sndE b G c _ Y O h.2)
      | .Or, [], h => cases h
      | .Or, [_], h => cases h
      | .And, _, h => cases h
    | _ => cases h
  | .not a, G, c, e, Y, O, h => by
    cases e with
    | UnaryOp op ea p =>
      cases op with
      | Not => exact s_not (sndE a G c ea Y O h)
      | _ => cases h
    | _ => cases h
  | .ife t a b, G, c, e, Y, O, h => by
    cases e with
    | IfExp et ea eb p =>
      rw [okE, Bool.and_eq_true, Bool.and_eq_true] at h
      exact s_ife (sndE t G c et Y O h.1) (sndE a G c ea Y O h.2.1) (sndE b G c eb Y O h.2.2)
    | _ => cases h
  | .tup es, G, c, e, Y, O, h => by
    cases e with
    | Tuple as n p => exact s_tup (sndEs es G c as Y O h).pa
    | _ => cases h
  | .lst hp es, G, c, e, Y, O, h => by
    cases e with
    | List as p => exact s_lst (sndEs es G c as Y O h).pa
    | _ => cases h
  | .item a i, G, c, e, Y, O, h => by
    cases e with
    | Subscript ea ei p =>
      rw [okE, Bool.and_eq_true] at h
      exact s_item O (sndE a G c ea Y O h.1) (sndE i G c ei Y O h.2) (ok_ix h.2)
    | _ => cases h
  | .dsp t fl es, G, c, e, Y, O, h => by
    cases e with
    | Tuple as n p =>
      rw [okE, Bool.and_eq_true] at h
      obtain ⟨h1, h2⟩ := of_decide_eq_true h.1
      subst h1 h2
      exact s_dspT O (sndEs es G c _ Y O h.2)
    | List as p =>
      rw [okE, Bool.and_eq_true] at h
      obtain ⟨h1, h2⟩ := of_decide_eq_true h.1
      subst h2
      exact s_dspL O (sndEs es G c _ Y O h.2) h1
    | _ => cases h
  | .rev a, G, c, e, Y, O, h => by
    cases e with
    | Subscript ea ei p =>
      rw [okE, Bool.and_eq_true] at h
      obtain ⟨kk, p1, p2, p3, e1⟩ := isRev_ok h.1
      subst e1
      exact s_rev O (sndE a G c ea Y O h.2)
    | _ => cases h
  | .gky i ky, G, c, e, Y, O, h => by
    cases e with
    | Subscript ea ei p =>
      cases ea with
      | Name x p' =>
        rw [okE] at h
        simp only [Bool.and_eq_true] at h
        obtain ⟨h1, h2, h3, h4⟩ := h
        exact s_gky O (of_decide_eq_true h1) h2 (noDbg_ok h3).1 (sndE ky G c ei Y O h4) (ok_ix h4)
      | _ => cases h
    | _ => cases h
  | .slc a lo hi, G, c, e, Y, O, h => by
    cases e with
    | Subscript ea ei p =>
      cases ei with
      | Slice l u st p2 =>
        cases st with
        | none =>
          rw [okE, Bool.and_eq_true, Bool.and_eq_true] at h
          refine s_slc O (sndE a G c ea Y O h.1) (po_of (sndEs lo G c _ Y O h.2.1).pa (fun x e z1 z2 => ?_) (okEs_len h.2.1)) (po_of (sndEs hi G c _ Y O h.2.2).pa (fun x e z1 z2 => ?_) (okEs_len h.2.2))
          · subst z1 z2
            have h2 := h.2.1
            rw [show (some e).toList = [e] from rfl, okEs, Bool.and_eq_true] at h2
            exact (sndE x G c e Y O h2.1).pe
          · subst z1 z2
            have h2 := h.2.2
            rw [show (some e).toList = [e] from rfl, okEs, Bool.and_eq_true] at h2
            exact (sndE x G c e Y O h2.1).pe
        | some _ => cases h
      | _ => cases h
    | _ => cases h
  | .attr a f, G, c, e, Y, O, h => by
    cases e with
    | Attribute ea n p =>
      rw [okE] at h
      simp only [Bool.and_eq_true] at h
      obtain ⟨h1, h2, h3⟩ := h
      have ef := of_decide_eq_true h1
      subst ef
      exact s_attr O (sndE a G c ea Y O h3) h2
    | _ => cases h
  | .isi a q, G, c, e, Y, O, h => by
    cases e with
    | Call f as ks p =>
      cases f with
      | Name f p0 =>
        match as, ks, h with
        | [ea, ek], [], h =>
          rw [okE] at h
          simp only [Bool.and_eq_true] at h
          obtain ⟨h1, h2, h3, h4⟩ := h
          have ef := of_decide_eq_true h1
          subst ef
          rw [Bool.or_eq_true] at h4
          rcases h4 with h4 | h4
          · exact s_isi O h2 (sndE a G c ea Y O h3) (fun es env => ok_star h3 es env) h4
          · exact s_isx O h2 (sndE a G c ea Y O h3) (fun es env => ok_star h3 es env) h4
        | [], _, h => cases h
        | [_], _, h => cases h
        | [_, _], _ :: _, h => cases h
        | _ :: _ :: _ :: _, _, h => cases h
      | _ => cases h
    | _ => cases h
  | .isis a qs, G, c, e, Y, O, h => by
    cases qs with
    | nil => cases e <;> cases h
    | cons q qs =>
      cases e with
      | Call f as ks p =>
        cases f with
        | Name f p0 =>
          match as, ks, h with
          | [ea, e2], [], h =>
            cases e2 with
            | Tuple eks n p2 =>
              rw [okE] at h
              simp only [Bool.and_eq_true] at h
              obtain ⟨h1, h2, h3, h4, h5⟩ := h
              have ef := of_decide_eq_true h1
              subst ef
              exact s_isis O h2 (sndE a G c ea Y O h3) (fun es env => ok_star h3 es env) h4 h5
            | _ => cases h
          | [], _, h => cases h
          | [_], _, h => cases h
          | [_, e2], _ :: _, h => cases e2 <;> cases h
          | _ :: e2 :: _ :: _, _, h => cases e2 <;> cases h
        | _ => cases h
      | _ => cases h
  | .call f es st ks vs, G, c, e, Y, O, h => by
    cases e with
    | Call g as kws p =>
      cases g with
      | Name x p0 =>
        rw [okE] at h
        simp only [Bool.and_eq_true] at h
        obtain ⟨h1, h2, h3, h4, h5, h6, h7⟩ := h
        cases hk : kwParts kws with
        | none => rw [hk] at h7; cases h7
        | some q =>
          obtain ⟨kn, ke⟩ := q
          rw [hk] at h7
          rw [Bool.and_eq_true] at h7
          have ek := of_decide_eq_true h7.1
          subst ek
          have K := sndEs vs G c ke Y O h7.2
          have hl : ks.length = vs.length := by rw [← K.len, ← kw_len hk, List.length_map]
          have h1 := of_decide_eq_true h1
          rw [O.hfn, List.getElem?_map] at h1
          obtain ⟨t, ht, hx⟩ := Option.map_eq_some_iff.mp h1
          exact s_call O ht hx h2 (noDbg_ok h3).1 (noDbg_ok h3).2 hl (par_ok O h4 (sndEs es G c _ Y O h5) (sndEs st G c _ Y O h6) hk K)
      | _ => cases h
    | _ => cases h
  | .mk i fz es st ks vs, G, c, e, Y, O, h => by
    cases e with
    | Call g as kws p =>
      cases g with
      | Name x p0 =>
        rw [okE] at h
        simp only [Bool.and_eq_true] at h
        obtain ⟨h1, h2, h3, h4, h5, h6, h7⟩ := h
        cases hk : kwParts kws with
        | none => rw [hk] at h7; cases h7
        | some q =>
          obtain ⟨kn, ke⟩ := q
          rw [hk] at h7
          rw [Bool.and_eq_true] at h7
          have ek := of_decide_eq_true h7.1
          subst ek
          have K := sndEs vs G c ke Y O h7.2
          have hl : ks.length = vs.length := by rw [← K.len, ← kw_len hk, List.length_map]
          exact s_mk O (of_decide_eq_true h1) h2 (noDbg_ok h3).1 hl (par_ok O h4 (sndEs es G c _ Y O h5) (sndEs st G c _ Y O h6) hk K)
      | _ => cases h
    | _ => cases h
  | .meth a m f es st ks vs, G, c, e, Y, O, h => by
    cases st with
    | cons _ _ => cases e <;> cases h
    | nil =>
      cases e with
      | Call g as kws p =>
        cases g with
        | Attribute ea n ap =>
          rw [okE] at h
          simp only [Bool.and_eq_true] at h
          obtain ⟨h1, h2, h3, h4, h5, h6, h7⟩ := h
          cases hk : kwParts kws with
          | none => rw [hk] at h7; cases h7
          | some q =>
            obtain ⟨kn, ke⟩ := q
            rw [hk] at h7
            rw [Bool.and_eq_true] at h7
            have ek := of_decide_eq_true h7.1
            subst ek
            have K := sndEs vs G c ke Y O h7.2
            have hl : ks.length = vs.length := by rw [← K.len, ← kw_len hk, List.length_map]
            obtain ⟨en, ef⟩ := of_decide_eq_true h1
            subst en
            exact s_meth O (sndE a G c ea Y O h5) h2 h3 (of_decide_eq_true h4) ef (sndEs es G c as Y O h6) hk K hl
        | _ => cases h
      | _ => cases h
  | .isc a n, G, c, e, Y, O, h => by
    cases e with
    | Call f as kws p =>
      cases f with
      | Name f p0 =>
        match as, kws, h with
        | [ea, e2], [], h =>
          cases e2 with
          | Name x p2 =>
            rw [okE] at h
            simp only [Bool.and_eq_true] at h
            obtain ⟨h1, h2, h3, h4, h5, h6⟩ := h
            have ef := of_decide_eq_true h1
            subst ef
            exact s_isc O h2 (sndE a G c ea Y O h3) (fun es env => ok_star h3 es env) (of_decide_eq_true h4) h5 (noDbg_ok h6).1
          | _ => cases h
        | [], _, h => cases h
        | [_], _, h => cases h
        | [_, e2], _ :: _, h => cases e2 <;> cases h
        | _ :: e2 :: _ :: _, _, h => cases e2 <;> cases h
      | _ => cases h
    | _ => cases h
  | .oeq a b f, G, c, e, Y, O, h => by
    cases e with
    | Compare ea ops es p =>
      match ops, es, h with
      | [op], [eb], h =>
        cases op with
        | Eq =>
          rw [okE, Bool.and_eq_true, Bool.and_eq_true] at h
          exact s_oeq O (of_decide_eq_true h.1) (sndE a G c ea Y O h.2.1) (sndE b G c eb Y O h.2.2) (ok_mark h.2.2 _)
        | _ => cases h
      | [], _, h => cases h
      | [o], [], h => cases o <;> cases h
      | [o], _ :: _ :: _, h => cases o <;> cases h
      | o :: _ :: _, _, h => cases o <;> cases h
    | _ => cases h
  | .one a b f, G, c, e, Y, O, h => by
    cases e with
    | Compare ea ops es p =>
      match ops, es, h with
      | [op], [eb], h =>
        cases op with
        | NotEq =>
          rw [okE, Bool.and_eq_true, Bool.and_eq_true] at h
          exact s_one O (of_decide_eq_true h.1) (sndE a G c ea Y O h.2.1) (sndE b G c eb Y O h.2.2) (ok_mark h.2.2 _)
        | _ => cases h
      | [], _, h => cases h
      | [o], [], h => cases o <;> cases h
      | [o], _ :: _ :: _, h => cases o <;> cases h
      | o :: _ :: _, _, h => cases o <;> cases h
    | _ => cases h
  | .olen a g, G, c, e, Y, O, h => by
    cases e with
    | Call f as kws p =>
      cases f with
      | Name f p0 =>
        match as, kws, h with
        | [ea], [], h =>
          rw [okE] at h
          simp only [Bool.and_eq_true] at h
          obtain ⟨h1, h2, h3⟩ := h
          obtain ⟨ef, eg⟩ := of_decide_eq_true h1
          subst ef
          exact s_olen O h2 eg (sndE a G c ea Y O h3) (fun es env => ok_star h3 es env)
        | [], _, h => cases h
        | [_], _ :: _, h => cases h
        | _ :: _ :: _, _, h => cases h
      | _ => cases h
    | _ => cases h
  | .orep a g, G, c, e, Y, O, h => by
    cases e with
    | Call f as kws p =>
      cases f with
      | Name f p0 =>
        match as, kws, h with
        | [ea], [], h =>
          rw [okE] at h
          simp only [Bool.and_eq_true] at h
          obtain ⟨h1, h2, h3⟩ := h
          obtain ⟨ef, eg⟩ := of_decide_eq_true h1
          subst ef
          exact s_orep O h2 eg (sndE a G c ea Y O h3) (fun es env => ok_star h3 es env)
        | [], _, h => cases h
        | [_], _ :: _, h => cases h
        | _ :: _ :: _, _, h => cases h
      | _ => cases h
    | _ => cases h
  | .fld a f, G, c, e, Y, O, h => by
    cases e with
    | Attribute ea n p =>
      rw [okE] at h
      simp only [Bool.and_eq_true] at h
      obtain ⟨h1, h2, h3⟩ := h
      have ef := of_decide_eq_true h1
      subst ef
      exact s_fld O (sndE a G c ea Y O h3) h2
    | _ => cases h
  | .prp a f g, G, c, e, Y, O, h => by
    cases e with
    | Attribute ea n p =>
      rw [okE] at h
      simp only [Bool.and_eq_true] at h
      obtain ⟨h1, h2, h3⟩ := h
      obtain ⟨ef, eg⟩ := of_decide_eq_true h1
      subst ef
      exact s_prp O (sndE a G c ea Y O h3) h2 eg
    | _ => cases h
  | .ccst n f, G, c, e, Y, O, h => by
    cases e with
    | Attribute ea g p =>
      cases ea with
      | Name x p0 =>
        rw [okE] at h
        simp only [Bool.and_eq_true] at h
        obtain ⟨h1, h2, h3, h4⟩ := h
        have ef := of_decide_eq_true h4
        subst ef
        exact s_ccst O (of_decide_eq_true h1) h2 (noDbg_ok h3).1
      | _ => cases h
    | _ => cases h
  | .dic b ks vs, G, c, e, Y, O, h => by
    cases e with
    | Dict keys values p =>
      rw [okE, Bool.or_eq_true] at h
      rcases h with h | h
      · simp only [Bool.and_eq_true, List.isEmpty_iff] at h
        obtain ⟨rfl, rfl, rfl, rfl, rfl⟩ := h
        exact s_dic0 (h := true) O
      · simp only [Bool.and_eq_true] at h
        obtain ⟨h1, h2, h3, h4⟩ := h
        exact s_dic h1 (of_decide_eq_true h2) (of_decide_eq_true h3) (sndEs vs G c values Y O h4)
    | _ => cases h
  | .key a i, G, c, e, Y, O, h => by
    cases e with
    | Subscript ea ei p =>
      rw [okE, Bool.and_eq_true] at h
      exact s_key O (sndE a G c ea Y O h.1) (sndE i G c ei Y O h.2) (okE_nosl h.2)
    | _ => cases h
  | .fst p a q, G, c, e, Y, O, h => by
    obtain ⟨y, n, p1, ea, p2, z, m, p3, pos, rfl, ⟨h1, h2⟩, h3, h4⟩ := fst_form h
    exact s_fst h1 h3 h2 (sndE a G c ea Y O h4)
  | .bm m a es, G, c, e, Y, O, h => by
    cases e with
    | Call g as kws p =>
      cases g with
      | Attribute ea n ap =>
        cases kws with
        | nil =>
          rw [okE] at h
          simp only [Bool.and_eq_true] at h
          obtain ⟨h1, h2, h3, h4, h5, h6⟩ := h
          obtain ⟨w, hw, en⟩ := bm_name h1
          subst en
          exact s_bm O hw h2 h3 (of_decide_eq_true h4) (sndE a G c ea Y O h5) (sndEs es G c as Y O h6)
        | cons _ _ => cases h
      | _ => cases h
    | _ => cases h
  | .mkx n kw es, G, c, e, Y, O, h => by
    cases e with
    | Call g as ks p =>
      cases g with
      | Name x p0 =>
        cases ks with
        | nil =>
          rw [okE] at h
          simp only [Bool.and_eq_true, beq_iff_eq] at h
          obtain ⟨h0, h1, h2, h3, h4⟩ := h
          split at h1
          · rename_i y f hy
            have ex := of_decide_eq_true h1
            subst ex
            exact s_mkx O hy h2 h3 (sndEs es G c as Y O h4).pa (okEs_len h4) (arg_side h4)
          · cases h1
        | cons kx kr =>
          obtain ⟨nm, ea, kp⟩ := kx
          cases as with
          | cons _ _ => cases nm <;> cases kr <;> cases h
          | nil =>
            cases nm with
            | none => cases kr <;> cases h
            | some f =>
              cases kr with
              | cons _ _ => cases h
              | nil =>
                rw [okE] at h
                simp only [Bool.and_eq_true, beq_iff_eq] at h
                obtain ⟨h0, h1, h2, h3, h4⟩ := h
                cases es with
                | nil => cases h4
                | cons a r =>
                  rw [okEs, Bool.and_eq_true] at h4
                  cases r with
                  | nil => exact s_mkk O (of_decide_eq_true h1) h2 h3 (sndE a G c ea Y O h4.1)
                  | cons _ _ => cases h4.2
      | _ => cases h
    | _ => cases h
  | .blt b es, G, c, e, Y, O, h => by
    cases e with
    | Call g as ks p =>
      cases g with
      | Name x p0 =>
        cases ks with
        | nil =>
          rw [okE] at h
          simp only [Bool.and_eq_true] at h
          obtain ⟨h1, h2, h3⟩ := h
          obtain ⟨w, hw, en⟩ := blt_name h1
          exact s_blt O hw en h2 (sndEs es G c as Y O h3).pa (arg_side h3) (okEs_len h3)
        | cons _ _ => cases h
      | _ => cases h
    | _ => cases h
  | .lc hp p x kk its ifs, G, c, e, Y, O, h => by
    cases e with
    | ListComp ee gs scope pos =>
      match gs, h with
      | [⟨tg, eit, eifs, 0⟩], h =>
        rw [okE] at h
        simp only [Bool.and_eq_true] at h
        obtain ⟨h1, h2, h3, ⟨⟨h4, h5⟩, h6⟩, h7⟩ := h
        cases ha : itArgs c kk tg eit with
        | none => rw [ha] at h1; cases h1
        | some as =>
          rw [ha] at h1
          have h1 : okEs its c as = true := h1
          have B : ∀ y, kk = .val → its = [y] → okE y c eit = true := fun y z1 z2 => by
            subst z1 z2
            cases ha
            rw [okEs, Bool.and_eq_true] at h1
            exact h1.1
          have hf : ∀ v, foldedSetIterable eit Y.env v = pure v := fun v => by
            cases kk with
            | val =>
              obtain ⟨y, rfl⟩ := len1 (show its.length = 1 by rw [okEs_len h1]; cases ha; rfl)
              exact ok_fold (B y rfl rfl) Y.env v
            | _ =>
              cases eit with
              | Set _ _ _ => cases tg <;> cases ha
              | _ => rfl
          have pi := pi_ok O ha h1 (sndEs its G c as Y O h1).pa fun y z1 z2 => by
            have q := B y z1 z2
            subst z2
            exact (sndE y G c eit Y O q).pe
          exact Snd.of (s_lc O pi h2 (of_decide_eq_true h7) (fun s H C cl fp => pg_ok O.blk h3) (fun s H C cl fp => tTs_of (of_decide_eq_true h6) (okEs_len h5) fun y e z1 z2 => by
            subst z1 z2
            rw [okEs, Bool.and_eq_true] at h5
            exact (sndE y _ _ e _ O.blk h5.1).pt) (fun s H C cl fp => (sndE x _ _ ee _ O.blk h4).pe) hf).1 (fun _ => rfl) (fun _ _ _ z => nomatch z)
      | [], h => cases h
      | [⟨_, _, _, .ofNat (_ + 1)⟩], h => cases h
      | [⟨_, _, _, .negSucc _⟩], h => cases h
      | ⟨_, _, _, i⟩ :: _ :: _, h =>
        cases i with
        | ofNat n => cases n <;> cases h
        | negSucc _ => cases h
    | _ => cases h
  | .gc a, G, c, e, Y, O, h => Snd.gc (sndE a G c e Y O (by rw [okE, Bool.and_eq_true] at h; exact h.2))
  | .gct a, G, c, e, Y, O, h => Snd.gct (sndE a G c e Y O (by rw [okE, Bool.and_eq_true] at h; exact h.2))
  | .got n, G, c, e, Y, O, h => by
    cases e with
    | Call f as kws p => exact O.wys (.got n) _ h
    | _ => cases h
  | .why n, G, c, e, Y, O, h => by
    cases e with
    | Call f as kws p => exact O.wys (.why n) _ h
    | _ => cases h
  | .lams n, G, c, e, Y, O, h => by
    cases e with
    | List es p => exact O.wys (.lams n) _ h
    | _ => cases h
  | .whys a, G, c, e, Y, O, h => by
    cases e with
    | Call f as kws p => exact O.wys (.whys a) _ h
    | _ => cases h
theorem sndEs : ∀ (xs : List X) (G : Gs) (c : Ck) (es : List Expr) (Y : L2.Cx), Ok G P ft k c Y → okEs xs c es = true → PEs G (ecN P k) Y es xs
  | [], G, c, es, Y, O, h => by
    cases es with
    | nil => exact .nil
    | cons _ _ => cases h
  | x :: xs, G, c, es, Y, O, h => by
    cases es with
    | nil => cases h
    | cons e es =>
      rw [okEs, Bool.and_eq_true] at h
      exact .cons (sndE x G c e Y O h.1).pe (fun es env => ok_star h.1 es env) (sndEs xs G c es Y O h.2)
end
end
end Ev


set_option autoImplicit false
set_option Elab.async false
set_option linter.all false
set_option maxRecDepth 100000
set_option maxHeartbeats 4000000
/-! EvM: statements. -/
namespace Ev
open PySem PySem.Spec PyProof.Rows L2 RZ EvCall
def notComp : Expr → Bool
  | .ListComp _ _ _ _ => false
  | .SetComp _ _ _ _ => false
  | .DictComp _ _ _ _ _ => false
  | _ => true
def notTup : Expr → Bool
  | .Tuple _ _ _ => false
  | _ => true
def isTupX : X → Bool
  | .tup _ => true
  | _ => false
/-- two names, two values, the stores exchanged -/
def okSwap (c : Ck) : List Nat → Expr → Expr → Bool
  | [i, j], .Tuple [.Name x px, .Name y py] _ _, .Tuple [ea, eb] _ _ => decide (c.N[i]? = some x ∧ c.N[j]? = some y ∧ i ≠ j ∧ c.sc.names.lookup x = some .local ∧ c.sc.names.lookup y = some .local) && ((py.line == px.line) && (([ea, eb].all (foldedForSure 8)) == false && ([ea, eb].all (constantsAlone 8)) == false))
  | _, _, _ => false
/-- two names of which one is no plain local: no exchange -/
def okNoSw (c : Ck) : Expr → Expr → Bool
  | .Tuple [.Name x _, .Name y _] _ _, .Tuple [_, _] _ _ => (decide (c.sc.names.lookup x = some .local) && decide (c.sc.names.lookup y = some .local)) == false
  | _, _ => false
/-- three names -/
def okSwap3 (c : Ck) : List Nat → Expr → Expr → Bool
  | [i, j, l], .Tuple [.Name x px, .Name y py, .Name z pz] _ _, .Tuple [ea, eb, ed] _ _ => decide (c.N[i]? = some x ∧ c.N[j]? = some y ∧ c.N[l]? = some z ∧ i ≠ j ∧ i ≠ l ∧ j ≠ l ∧ c.sc.names.lookup x = some .local ∧ c.sc.names.lookup y = some .local ∧ c.sc.names.lookup z = some .local) && ((py.line == px.line && pz.line == px.line) && (([ea, eb, ed].all (foldedForSure 8)) == false && ([ea, eb, ed].all (constantsAlone 8)) == false))
  | _, _, _ => false
def notNm : Expr → Bool
  | .Attribute _ _ _ => true
  | .Subscript _ _ _ => true
  | _ => false
/-- four or more, or one that is no name: no exchange -/
def okFar : Expr → Expr → Bool
  | .Tuple ts _ _, .Tuple _ _ _ => Nat.ble 4 ts.length || ts.any notNm
  | _, _ => false
def okStar (c : Ck) (i j : Nat) : Expr → Bool
  | .Tuple [.Starred (.Name x _) _, .Name y _] _ _ => c.tgt i x && c.tgt j y
  | _ => false
theorem okStar_ok {c : Ck} {i j : Nat} {tg : Expr} (h : okStar c i j tg = true) : ∃ x px ps y py kt pt, tg = .Tuple [.Starred (.Name x px) ps, .Name y py] kt pt ∧ c.tgt i x = true ∧ c.tgt j y = true := by
  unfold okStar at h
  split at h
  · rw [Bool.and_eq_true] at h
    exact ⟨_, _, _, _, _, _, _, rfl, h.1, h.2⟩
  · cases h
/-- targets of several kinds -/
def okTg (c : Ck) : Tg → Expr → Bool
  | .nm i, .Name x _ => c.tgt i x
  | .at o f, .Attribute eo n _ => decide (n = sS f) && okE o c eo
  | .sb o i, .Subscript eo ei _ => okE o c eo && okE i c ei
  | _, _ => false
def okTgs (c : Ck) : List Tg → List Expr → Bool
  | [], [] => true
  | t :: ts, e :: es => okTg c t e && okTgs c ts es
  | _, _ => false
/-- += and -= of ints -/
def okIp : BOp → Operator → Bool
  | .add, .Add => true
  | .sub, .Sub => true
  | _, _ => false
mutual
def okS : S → Ck → Stmt → Bool
  | .ex e, c, .Expr v _ => okE e c v && notComp v
  | .asg i e, c, .Assign [.Name x _] v _ => c.tgt i x && (okE e c v && notComp v)
  | .asl i e, c, .Assign [.Name x px] (.ListComp ee gs scope pos) _ => (decide (c.N[i]? = some x) && decide (c.sc.names.lookup x = some .local)) && (okE e c (.ListComp ee gs scope pos) && ((px.line == pos.line) && ((scope.names.any fun (n, k) => n == x && (k == .local || k == .cell)) == false)))
  | .put o i e, c, .Assign [.Subscript eo ei _] v _ => okE e c v && (okE o c eo && (okE i c ei && notComp v))
  | .ret e, c, .Return (some v) _ => okE e c v
  | .ret (.cst .non), _, .Return none _ => true
  | .iff t a b, c, .If et ea eb _ => okE t c et && (okSs a c ea && okSs b c eb)
  | .for p k its b, c, .For tg it body [] _ => (match itArgs c k tg it with
    | some as => okEs its c as
    | none => false) && (okP c p tg && okSs b c body)
  | .forg p k its b, c, .For tg it body [] _ => (match itArgs c k tg it with
    | some as => okEs its c as
    | none => false) && (okP c p tg && okSs b c body)
  | .gcs s, c, st => okS s c st
  | .whl t b, c, .While et body [] _ => okE t c et && okSs b c body
  | .atr o f e, c, .Assign [.Attribute eo n _] v _ => decide (n = sS f) && (okE e c v && (okE o c eo && notComp v))
  | .una is e, c, .Assign [tg] v _ => okP c (.tp is) tg && (okE e c v && (notComp v && (notTup v || (okFar tg v || (isTupX e && (okSwap c is tg v || (okNoSw c tg v || okSwap3 c is tg v)))))))
  | .uns i j e, c, .Assign [tg] v _ => okStar c i j tg && (okE e c v && (notComp v && notTup v))
  | .unx ts e, c, .Assign [.Tuple es n p] v _ => okTgs c ts es && (okE e c v && (notComp v && (notTup v || okFar (.Tuple es n p) v)))
  | .aug i o e, c, .AugAssign (.Name x _) op v _ => c.tgt i x && (okIp o op && okE e c v)
  | .fin b f, c, .Try body [] [] (f0 :: fs) _ => okSs b c.nowy body && okSs f c (f0 :: fs)
  | .putk o k e, c, .Assign [.Subscript eo ek _] v _ => okE e c v && (okE o c eo && (okE k c ek && notComp v))
  | .putk2 o k p q a b, c, .Assign [.Tuple [.Subscript eo ek _, .Subscript ep eq _] _ _] (.Tuple [ea, eb] _ _) _ => okE a c ea && (okE b c eb && (okE o c eo && (okE k c ek && (okE p c ep && okE q c eq))))
  | .never, _, _ => true
  | .rai i kw es, c, .Raise (some (.Call (.Name x _) as [] _)) none _ => kw == false && ((match c.xn[i]? with
    | some (y, _) => decide (x = y)
    | none => false) && (c.gl x && ((x == ("__debug__" : Str)) == false && okEs es c as)))
  | _, _, _ => false
termination_by structural x => x
def okSs : List S → Ck → List Stmt → Bool
  | [], _, [] => true
  | s :: r, c, st :: rest => okS s c st && okSs r c rest
  | _, _, _ => false
termination_by structural x => x
end
def PostS (G : Gs) (ω : Wd) (r : Out) (D : Ends) : Prop := match r with
  | .nx env M => ∀ ω' σ' H', Le ω ω' → EnvRel G ω' env σ' → HRel G ω' M H' → D.nx σ' H'
  | .rt d M => ∀ ω' H' v, Le ω ω' → HRel G ω' M H' → Rel G ω' d v → D.rt v H'
  | .bk env M => ∀ ω' σ' H', Le ω ω' → EnvRel G ω' env σ' → HRel G ω' M H' → D.bk σ' H'
  | .ct env M => ∀ ω' σ' H', Le ω ω' → EnvRel G ω' env σ' → HRel G ω' M H' → D.ct σ' H'
  | .er => False
  | .ex d M => PX G ω d M
def tS (G : Gs) (C : Ec) (s : S) : TS := fun D σ H => ∃ ω M env, EnvRel G ω env σ ∧ HRel G ω M H ∧ PostS G ω (exec C s env M) D
def tSs (G : Gs) (C : Ec) (s : List S) : TS := fun D σ H => ∃ ω M env, EnvRel G ω env σ ∧ HRel G ω M H ∧ PostS G ω (execs C s env M) D
theorem PostS.mono {G : Gs} {ω ω1 : Wd} {r : Out} {D : Ends} (h : PostS G ω r D) (le : Le ω ω1) : PostS G ω1 r D := by
  cases r with
  | nx env M => exact fun ω' σ' H' l => h ω' σ' H' (le.trans l)
  | rt d M => exact fun ω' H' v l => h ω' H' v (le.trans l)
  | bk env M => exact fun ω' σ' H' l => h ω' σ' H' (le.trans l)
  | ct env M => exact fun ω' σ' H' l => h ω' σ' H' (le.trans l)
  | er => exact h
  | ex _ _ => exact PX.mono h le
theorem PostS.gc {G : Gs} {ω : Wd} {M : List O} {H : Hp} {r : Out} {D : Ends} (hh : HRel G ω M H) (h : PostS G ω (gcO M.length r) D) : PostS G ω r D := by
  have hl : M.length = ω.ρ.length := hh.len.symm
  cases r with
  | nx env M2 =>
    unfold gcO at h
    dsimp only at h
    split at h
    · rename_i hb
      exact fun ω' σ' H' le he' hh' => h (ω'.cut M.length) σ' H' (le.cut (Nat.le_of_eq hl.symm)) (he'.cut M.length) (hh'.cut hb)
    · exact False.elim h
  | ct env M2 =>
    unfold gcO at h
    dsimp only at h
    split at h
    · rename_i hb
      exact fun ω' σ' H' le he' hh' => h (ω'.cut M.length) σ' H' (le.cut (Nat.le_of_eq hl.symm)) (he'.cut M.length) (hh'.cut hb)
    · exact False.elim h
  | rt d M => exact h
  | bk env M => exact h
  | er => exact h
  | ex d M => exact h
section
variable {G : Gs} {P : Pg} {ft : List Ft} {k : Nat} {c : Ck} {Y : L2.Cx}
/-- an evaluation ahead of the rest of a statement -/
theorem eE_of {C : Ec} {x : X} {σ : L2.St} {H : Hp} {ω : Wd} {M : List O} {env : En} {Q : VK} (he : EnvRel G ω env σ) (hh : HRel G ω M H) (h0 : ev C x env M = .er → False)
    (h1 : ∀ d M1, ev C x env M = .ok d M1 → ∀ ω1 H1 v, Le ω ω1 → EnvRel G ω1 env σ → HRel G ω1 M1 H1 → Rel G ω1 d v → Q v H1) (hx : ∀ d M1, ev C x env M = .ex d M1 → PX G ω d M1 := by intro _ _ z; first | (rw [z] at post; first | exact post | exact False.elim post) | (rw [z] at pd; first | exact pd | exact False.elim pd)) : tE G C x σ H Q := by
  refine ⟨ω, M, env, he, hh, ?_⟩
  cases e : ev C x env M with
  | er => exact (h0 e).elim
  | ex d M1 => exact hx d M1 e
  | ok d M1 => exact fun ω1 H1 v le hh1 r => h1 d M1 e ω1 H1 v le (he.mono le) hh1 r
theorem eB_of {C : Ec} {x : X} {σ : L2.St} {H : Hp} {ω : Wd} {M : List O} {env : En} {Q : Bool → Hp → Prop} (he : EnvRel G ω env σ) (hh : HRel G ω M H) (h0 : (∀ b M1, ev C x env M ≠ .ok (.bl b) M1) → (∀ d M1, ev C x env M ≠ .ex d M1) → False)
    (h1 : ∀ b M1, ev C x env M = .ok (.bl b) M1 → ∀ ω1 H1, Le ω ω1 → EnvRel G ω1 env σ → HRel G ω1 M1 H1 → Q b H1) (hx : ∀ d M1, ev C x env M = .ex d M1 → PX G ω d M1 := by intro _ _ z; first | (rw [z] at post; exact post) | (rw [z] at pd; exact pd)) : tB' G C x σ H Q := by
  refine ⟨ω, M, env, he, hh, ?_⟩
  unfold evB
  cases e : ev C x env M with
  | er => exact (h0 (fun b M1 z => by rw [e] at z; cases z) (fun b M1 z => by rw [e] at z; cases z)).elim
  | ex d M1 => exact hx d M1 e
  | ok d M1 =>
    cases d with
    | bl b =>
      intro ω1 H1 b' le hh1 r
      subst r
      exact h1 b M1 e ω1 H1 le (he.mono le) hh1
    | _ => exact (h0 (fun b M1 z => by rw [e] at z; cases z) (fun b M1 z => by rw [e] at z; cases z)).elim
theorem notComp_sw {v : Expr} (h : notComp v = true) (t : Option Expr) (l : Nat) (env : PySem.Env) : swapsWith v t l env = pure false := by
  cases v <;> first | rfl | cases h
theorem notComp_sole {v : Expr} (h : notComp v = true) (t : Expr) (l : Nat) (env : PySem.Env) : swapsWithSole [t] v l env = pure false := notComp_sw h (some t) l env
theorem ss_ex {v : Expr} {e : X} {pos : Pos} (A : Snd G (ecN P k) Y v e) (h : notComp v = true) : PS Y (.Expr v pos) (tS G (ecN P k) (.ex e)) := by
  refine PS.imp (ps_expr A.pe (notComp_sw h _ _ _)) fun D σ H q => ?_
  obtain ⟨ω, M, env, he, hh, post⟩ := q
  rw [exec] at post
  refine eE_of he hh (fun z => by rw [z] at post; exact post) fun d M1 z ω1 H1 w le he1 hh1 r => ?_
  rw [z] at post
  exact post ω1 σ H1 le he1 hh1
theorem ss_asg (O : Ok G P ft k c Y) {x : Str} {v : Expr} {e : X} {i : Nat} {pos px : Pos} (A : Snd G (ecN P k) Y v e) (ht : c.tgt i x = true) (h : notComp v = true) : PS Y (.Assign [.Name x px] v pos) (tS G (ecN P k) (.asg i e)) := by
  refine PS.imp (ps_asg A.pe (O.tgt ht) (notComp_sole h _ _ _) rfl) fun D σ H q => ?_
  obtain ⟨ω, M, env, he, hh, post⟩ := q
  rw [exec] at post
  refine eE_of he hh (fun z => by rw [z] at post; exact post) fun d M1 z ω1 H1 w le he1 hh1 r => ?_
  rw [z] at post
  dsimp only at post
  split at post
  · rename_i hl
    exact post ω1 _ H1 le (he1.set r hl) hh1
  · exact False.elim post
theorem ss_put (O : Ok G P ft k c Y) {v eo ei : Expr} {e o i : X} {pos px : Pos} (A : Snd G (ecN P k) Y v e) (B : Snd G (ecN P k) Y eo o) (E : Snd G (ecN P k) Y ei i) (h : notComp v = true) (hns : ∀ a b d p, ei ≠ .Slice a b d p) : PS Y (.Assign [.Subscript eo ei px] v pos) (tS G (ecN P k) (.put o i e)) := by
  refine PS.imp (ps_asg A.pe (pg_sub B.pe E.pe set_list (by cases ei <;> first | (intro _; rfl) | exact absurd rfl (hns _ _ _ _))) (notComp_sole h _ _ _) rfl) fun D σ H q => ?_
  obtain ⟨ω, M, env, he, hh, post⟩ := q
  rw [exec] at post
  refine eE_of he hh (fun z => by rw [z] at post; exact post) fun d M1 z ω1 H1 w le he1 hh1 r => ?_
  rw [z] at post
  dsimp only at post
  have post := PostS.mono post le
  refine eE_of he1 hh1 (fun z => by rw [z] at post; exact post) fun d2 M2 z ω2 H2 w2 le2 he2 hh2 r2 => ?_
  rw [z] at post
  cases d2 with
  | ref a =>
    dsimp only at post
    have post := PostS.mono post le2
    refine eE_of he2 hh2 (fun z => by rw [z] at post; exact post) fun d3 M3 z ω3 H3 w3 le3 he3 hh3 r3 => ?_
    rw [z] at post
    cases d3 with
    | int kk =>
      dsimp only at post
      have post := PostS.mono post le3
      rw [Rel] at r3
      subst r3
      have r2 := Rel.mono le3 _ _ r2
      rw [Rel] at r2
      obtain ⟨p, ep, e2⟩ := r2
      subst e2
      cases em : M3[a]? with
      | none => rw [em] at post; exact False.elim post
      | some ob =>
        rw [em] at post
        cases ob with
        | lst ds =>
          dsimp only at post
          cases ej : ixOf ds.length kk with
          | none => rw [ej] at post; exact False.elim post
          | some j =>
            rw [ej] at post
            obtain ⟨p', ho, f1, f2, ⟨vs, f3, f4⟩, _⟩ := hh3.obj a _ em (fun z => nomatch z)
            rw [ep] at f1
            cases f1
            subst f3
            refine ⟨p, vs, kk, j, rfl, rfl, f2, by rw [← ixOf_eq, f4.length]; exact ej, ?_⟩
            exact post ω3 σ _ (Le.refl _) he3 (hh3.setM em (fun z => nomatch z) ep ⟨_, rfl, Rels.set (Rel.mono (le2.trans le3) _ _ r) j f4⟩)
        | _ => exact False.elim post
    | _ => exact False.elim post
  | _ => exact False.elim post
theorem ss_ret {v : Expr} {e : X} {pos : Pos} (A : Snd G (ecN P k) Y v e) : PS Y (.Return (some v) pos) (tS G (ecN P k) (.ret e)) := by
  refine PS.imp (ps_ret A.pe) fun D σ H q => ?_
  obtain ⟨ω, M, env, he, hh, post⟩ := q
  rw [exec] at post
  refine eE_of he hh (fun z => by rw [z] at post; exact post) fun d M1 z ω1 H1 w le he1 hh1 r => ?_
  rw [z] at post
  exact post ω1 H1 w le hh1 r
theorem ss_retN {pos : Pos} : PS Y (.Return none pos) (tS G (ecN P k) (.ret (.cst .non))) := by
  refine PS.imp ps_retN fun D σ H q => ?_
  obtain ⟨ω, M, env, he, hh, post⟩ := q
  rw [exec, ev] at post
  exact post ω H .non (Le.refl _) hh (by rw [Rel])
theorem ss_iff {et : Expr} {ea eb : List Stmt} {t : X} {a b : List S} {pos : Pos} (T : Snd G (ecN P k) Y et t) (A : PSs Y ea (tSs G (ecN P k) a)) (B : PSs Y eb (tSs G (ecN P k) b)) : PS Y (.If et ea eb pos) (tS G (ecN P k) (.iff t a b)) := by
  refine PS.imp (ps_if T.pt A B) fun D σ H q => ?_
  obtain ⟨ω, M, env, he, hh, post⟩ := q
  rw [exec] at post
  refine eB_of he hh (fun z z' => ?_) fun u M1 z ω1 H1 le he1 hh1 => ?_
  · split at post
    · rename_i e; exact z _ _ e
    · rename_i e; exact z _ _ e
    · rename_i e; exact z' _ _ e
    · exact post
  · rw [z] at post
    cases u with
    | true =>
      dsimp only at post
      rw [if_pos rfl]
      exact ⟨ω1, M1, env, he1, hh1, PostS.mono post le⟩
    | false =>
      dsimp only at post
      rw [if_neg Bool.false_ne_true]
      exact ⟨ω1, M1, env, he1, hh1, PostS.mono post le⟩
theorem sss_nil : PSs Y [] (tSs G (ecN P k) []) := PSs.imp pss_nil fun D σ H q => by
  obtain ⟨ω, M, env, he, hh, post⟩ := q
  rw [execs] at post
  exact post ω σ H (Le.refl _) he hh
theorem sss_cons {st : Stmt} {rest : List Stmt} {s : S} {r : List S} (A : PS Y st (tS G (ecN P k) s)) (B : PSs Y rest (tSs G (ecN P k) r)) : PSs Y (st :: rest) (tSs G (ecN P k) (s :: r)) := PSs.imp (pss_cons A B) fun D σ H q => by
  obtain ⟨ω, M, env, he, hh, post⟩ := q
  rw [execs] at post
  refine ⟨ω, M, env, he, hh, ?_⟩
  cases e : exec (ecN P k) s env M with
  | nx env1 M1 =>
    rw [e] at post
    exact fun ω' σ' H' le he' hh' => ⟨ω', M1, env1, he', hh', PostS.mono post le⟩
  | rt d M1 => rw [e] at post; exact post
  | bk env1 M1 => rw [e] at post; exact post
  | ct env1 M1 => rw [e] at post; exact post
  | er => rw [e] at post; exact post
  | ex _ _ => rw [e] at post; exact post
def tRun (G : Gs) (run : En → List O → Out) : TS := fun D σ H => ∃ ω M env, EnvRel G ω env σ ∧ HRel G ω M H ∧ PostS G ω (run env M) D
def tForR (G : Gs) (C : Ec) (run : En → List O → Out) (p : Pt) (kk : Ik) (its : List X) : TS := fun D σ H => ∃ ω M env, EnvRel G ω env σ ∧ HRel G ω M H ∧ PostS G ω (match evs C its env M with
  | .ok ds M1 => (match walkOf kk ds with
    | some items => loop run p items env M1
    | none => .er)
  | .er => .er
  | .ex d M1 => .ex d M1) D
theorem ss_forR (O : Ok G P ft k c Y) {tg it : Expr} {body : List Stmt} {p : Pt} {kk : Ik} {its : List X} {pos : Pos} (hi : PI Y tg it (tI G (ecN P k) kk its)) (hg : PG Y tg (tP G p)) {run : En → List Ev.O → Out} (B : PSs Y body (tRun G run)) (hs : ∀ x, foldedSetIterable it Y.env x = pure x) :
    PS Y (.For tg it body [] pos) (tForR G (ecN P k) run p kk its) := by
  have po : PassesOwn (model Y.prog Y.w) Y.A Y.env Y.xe := O.po
  refine PS.imp (ps_for po O.calm hi hg B hs) fun D σ H q => ?_
  obtain ⟨ω, M, env, he, hh, post⟩ := q
  refine ⟨ω, M, env, he, hh, ?_⟩
  unfold evW
  cases e1 : evs (ecN P k) its env M with
  | er => rw [e1] at post; exact post
  | ex _ _ => rw [e1] at post; exact post
  | ok ds M1 =>
    rw [e1] at post
    dsimp only at post
    simp only [Rs.bind]
    cases e2 : walkOf kk ds with
    | none => rw [e2] at post; exact post
    | some items =>
      rw [e2] at post
      dsimp only at post
      intro ω1 H1 J le hh1 w
      obtain ⟨Gd, Yd, wk, hG, hY⟩ := w
      refine for_it wk (fun i σ' H' => ∃ ω' M' env', Le ω1 ω' ∧ EnvRel G ω' env' σ' ∧ HRel G ω' M' H' ∧ PostS G ω' (loop run p (items.drop i) env' M') D) ⟨ω1, M1, env, Le.refl _, he.mono le, hh1, PostS.mono post le⟩ ?_ ?_ ?_
      · rintro i σ' H' _ ⟨ω', M', env', le', he', hh', _⟩
        exact hG ω' M' H' le'.le0 hh'
      · rintro i x σ' H' H2 hi ⟨ω', M', env', le', he', hh', pd⟩ y
        obtain ⟨d, ω2, hd, le2, hh2, rx⟩ := hY i x H' H2 ω' M' le'.le0 hh' y
        have dr : items.drop i = d :: items.drop (i + 1) := by
          obtain ⟨hlt, e9⟩ := List.getElem?_eq_some_iff.mp hd
          rw [List.drop_eq_getElem_cons hlt, e9]
        rw [dr, loop] at pd
        cases es : setP p d env' with
        | none => rw [es] at pd; exact False.elim pd
        | some env1 =>
          rw [es] at pd
          dsimp only at pd
          refine ⟨ω2, M', d, env', env1, he'.mono le2, hh2, rx, es, fun σ2 he3 _ => ?_⟩
          have pd := PostS.mono pd le2
          refine ⟨ω2, M', env1, he3, hh2, ?_⟩
          have le12 := le'.trans le2
          cases e3 : run env1 M' with
          | nx env3 M3 =>
            rw [e3] at pd
            exact fun ω3 σ3 H3 le3 he3 hh3 => ⟨ω3, M3, env3, le12.trans le3, he3, hh3, PostS.mono pd le3⟩
          | ct env3 M3 =>
            rw [e3] at pd
            exact fun ω3 σ3 H3 le3 he3 hh3 => ⟨ω3, M3, env3, le12.trans le3, he3, hh3, PostS.mono pd le3⟩
          | bk env3 M3 => rw [e3] at pd; exact pd
          | rt d3 M3 => rw [e3] at pd; exact pd
          | er => rw [e3] at pd; exact pd
          | ex _ _ => rw [e3] at pd; exact pd
      · rintro σ' H' ⟨ω', M', env', le', he', hh', pd⟩
        rw [List.drop_length, loop] at pd
        exact pd ω' σ' H' (Le.refl _) he' hh'
theorem ss_for (O : Ok G P ft k c Y) {tg it : Expr} {body : List Stmt} {p : Pt} {kk : Ik} {its : List X} {b : List S} {pos : Pos} (hi : PI Y tg it (tI G (ecN P k) kk its)) (hg : PG Y tg (tP G p)) (B : PSs Y body (tSs G (ecN P k) b)) (hs : ∀ x, foldedSetIterable it Y.env x = pure x) :
    PS Y (.For tg it body [] pos) (tS G (ecN P k) (.for p kk its b)) :=
  PS.imp (ss_forR O hi hg (run := execs (ecN P k) b) B hs) fun D σ H ⟨ω, M, env, he, hh, post⟩ => ⟨ω, M, env, he, hh, by rw [exec] at post; exact post⟩
theorem ss_forg (O : Ok G P ft k c Y) {tg it : Expr} {body : List Stmt} {p : Pt} {kk : Ik} {its : List X} {b : List S} {pos : Pos} (hi : PI Y tg it (tI G (ecN P k) kk its)) (hg : PG Y tg (tP G p)) (B : PSs Y body (tSs G (ecN P k) b)) (hs : ∀ x, foldedSetIterable it Y.env x = pure x) :
    PS Y (.For tg it body [] pos) (tS G (ecN P k) (.forg p kk its b)) :=
  PS.imp (ss_forR O hi hg (run := fun env M => gcO M.length (execs (ecN P k) b env M)) (PSs.imp B fun D σ H ⟨ω, M, env, he, hh, post⟩ => ⟨ω, M, env, he, hh, PostS.gc hh post⟩) hs) fun D σ H ⟨ω, M, env, he, hh, post⟩ => ⟨ω, M, env, he, hh, by rw [exec] at post; exact post⟩
theorem ss_gcs {st : Stmt} {s : S} (A : PS Y st (tS G (ecN P k) s)) : PS Y st (tS G (ecN P k) (.gcs s)) :=
  PS.imp A fun D σ H ⟨ω, M, env, he, hh, post⟩ => ⟨ω, M, env, he, hh, PostS.gc hh (by rw [exec] at post; exact post)⟩
theorem ss_whl (O : Ok G P ft k c Y) {et : Expr} {body : List Stmt} {t : X} {b : List S} {pos : Pos} (T : Snd G (ecN P k) Y et t) (B : PSs Y body (tSs G (ecN P k) b)) : PS Y (.While et body [] pos) (tS G (ecN P k) (.whl t b)) := by
  have po : PassesOwn (model Y.prog Y.w) Y.A Y.env Y.xe := O.po
  refine PS.imp (ps_while po T.pt B) fun D σ H q => ?_
  obtain ⟨ω, M, env, he, hh, post⟩ := q
  rw [exec] at post
  refine ⟨fun m σ' H' => ∃ ω' M' env', EnvRel G ω' env' σ' ∧ HRel G ω' M' H' ∧ PostS G ω' (whl (ev (ecN P k) t) (execs (ecN P k) b) m env' M') D, ⟨_, ω, M, env, he, hh, post⟩, ?_⟩
  rintro m σ' H' ⟨ω', M', env', he', hh', pd⟩
  cases m with
  | zero => exact False.elim pd
  | succ m =>
    rw [whl] at pd
    refine eB_of he' hh' (fun z z' => ?_) fun u M1 z ω1 H1 le he1 hh1 => ?_
    · split at pd
      · rename_i e; exact z _ _ e
      · rename_i e; exact z _ _ e
      · rename_i e; exact z' _ _ e
      · exact pd
    · rw [z] at pd
      cases u with
      | false =>
        dsimp only at pd
        rw [if_neg Bool.false_ne_true]
        exact pd ω1 σ' H1 le he1 hh1
      | true =>
        dsimp only at pd
        rw [if_pos rfl]
        have pd := PostS.mono pd le
        refine ⟨fun σ2 H2 => ∃ ω' M' env', EnvRel G ω' env' σ2 ∧ HRel G ω' M' H2 ∧ PostS G ω' (whl (ev (ecN P k) t) (execs (ecN P k) b) m env' M') D, fun σ2 H2 n => ⟨m, Nat.lt_succ_self m, n⟩, ω1, M1, env', he1, hh1, ?_⟩
        cases e3 : execs (ecN P k) b env' M1 with
        | nx env3 M3 =>
          rw [e3] at pd
          exact fun ω3 σ3 H3 le3 he3 hh3 => ⟨ω3, M3, env3, he3, hh3, PostS.mono pd le3⟩
        | ct env3 M3 =>
          rw [e3] at pd
          exact fun ω3 σ3 H3 le3 he3 hh3 => ⟨ω3, M3, env3, he3, hh3, PostS.mono pd le3⟩
        | bk env3 M3 => rw [e3] at pd; exact pd
        | rt d3 M3 => rw [e3] at pd; exact pd
        | er => rw [e3] at pd; exact pd
        | ex _ _ => rw [e3] at pd; exact pd
theorem ss_asl (O : Ok G P ft k c Y) {x : Str} {ee : Expr} {gs : List Comprehension} {scope : Scope} {e : X} {i : Nat} {pos px lp : Pos} (A : PS Y (.Assign [.Name x px] (.ListComp ee gs scope lp) pos) (tAsg (tE G (ecN P k) e) (gName i))) : PS Y (.Assign [.Name x px] (.ListComp ee gs scope lp) pos) (tS G (ecN P k) (.asl i e)) := by
  refine PS.imp A fun D σ H q => ?_
  obtain ⟨ω, M, env, he, hh, post⟩ := q
  rw [exec] at post
  refine eE_of he hh (fun z => by rw [z] at post; exact post) fun d M1 z ω1 H1 w le he1 hh1 r => ?_
  rw [z] at post
  dsimp only at post
  split at post
  · rename_i hl
    exact post ω1 _ H1 le (he1.set r hl) hh1
  · exact False.elim post
/-- a comprehension's parts, for an assignment -/
theorem lc_parts (O : Ok G P ft k c Y) {hp : Bool} {p : Pt} {x : X} {kk : Ik} {its ifs : List X} {ee : Expr} {gs : List Comprehension} {scope : Scope} {pos : Pos} (h : okE (.lc hp p x kk its ifs) c (.ListComp ee gs scope pos) = true) :
    ∃ tg eit eifs, gs = [⟨tg, eit, eifs, 0⟩] ∧ PI Y tg eit (tI G (ecN P k) kk its) ∧ blkC c.N c.sc scope (ownOf c (pslots p)) = true ∧ (ownOf c (pslots p)).map (·.2) = pslots p ∧
      (∀ (s : Shared) (H : Hp) (C : Addr) (cl : List (Str × Addr)) (fp : List Addr), PG (Y.blk s H scope (compEnvC scope cl C Y.env) fp) tg (tP G p)) ∧
      (∀ (s : Shared) (H : Hp) (C : Addr) (cl : List (Str × Addr)) (fp : List Addr), PTs (Y.blk s H scope (compEnvC scope cl C Y.env) fp) eifs (tTs G.dead (ecN P k) ifs)) ∧
      (∀ (s : Shared) (H : Hp) (C : Addr) (cl : List (Str × Addr)) (fp : List Addr), PE (Y.blk s H scope (compEnvC scope cl C Y.env) fp) ee (tE G.dead (ecN P k) x)) ∧ (∀ v, foldedSetIterable eit Y.env v = pure v) := by
  match gs, h with
  | [⟨tg, eit, eifs, 0⟩], h =>
    rw [okE] at h
    simp only [Bool.and_eq_true] at h
    obtain ⟨h1, h2, h3, ⟨⟨h4, h5⟩, h6⟩, h7⟩ := h
    cases ha : itArgs c kk tg eit with
    | none => rw [ha] at h1; cases h1
    | some as =>
      rw [ha] at h1
      have h1 : okEs its c as = true := h1
      have B : ∀ y, kk = .val → its = [y] → okE y c eit = true := fun y z1 z2 => by
        subst z1 z2
        cases ha
        rw [okEs, Bool.and_eq_true] at h1
        exact h1.1
      have hf : ∀ v, foldedSetIterable eit Y.env v = pure v := fun v => by
        cases kk with
        | val =>
          obtain ⟨y, rfl⟩ := len1 (show its.length = 1 by rw [okEs_len h1]; cases ha; rfl)
          exact ok_fold (B y rfl rfl) Y.env v
        | _ =>
          cases eit with
          | Set _ _ _ => cases tg <;> cases ha
          | _ => rfl
      have pi := pi_ok O ha h1 (sndEs its _ c as Y O h1).pa fun y z1 z2 => by
        have q := B y z1 z2
        exact (sndE y _ c eit Y O q).pe
      exact ⟨tg, eit, eifs, rfl, pi, h2, of_decide_eq_true h7, fun s H C cl fp => pg_ok O.blk h3, fun s H C cl fp => tTs_of (of_decide_eq_true h6) (okEs_len h5) fun y e z1 z2 => by
        subst z1 z2
        rw [okEs, Bool.and_eq_true] at h5
        exact (sndE y _ _ e _ O.blk h5.1).pt, fun s H C cl fp => (sndE x _ _ ee _ O.blk h4).pe, hf⟩
  | [], h => cases h
  | [⟨_, _, _, .ofNat (_ + 1)⟩], h => cases h
  | [⟨_, _, _, .negSucc _⟩], h => cases h
  | ⟨_, _, _, i⟩ :: _ :: _, h =>
    cases i with
    | ofNat n => cases n <;> cases h
    | negSucc _ => cases h
theorem ps_lcset (O : Ok G P ft k c Y) {x : Str} {ee : Expr} {gs : List Comprehension} {scope : Scope} {e : X} {i : Nat} {pos px lp : Pos} (hi : c.N[i]? = some x) (hx : c.sc.names.lookup x = some .local) (h : okE e c (.ListComp ee gs scope lp) = true) (hl : (px.line == lp.line) = true)
    (ha : (scope.names.any fun (n, k) => n == x && (k == .local || k == .cell)) = false) (hk : Y.env.scope.kind = .function) : PS Y (.Assign [.Name x px] (.ListComp ee gs scope lp) pos) (tAsg (tE G (ecN P k) e) (gName i)) := by
  have nd : Y.N.Nodup := by rw [O.hN]; exact O.nd
  cases e with
  | lc hp p y kk its ifs =>
    obtain ⟨tg, eit, eifs, rfl, pi, h2, h3, hg, ht, he, hf⟩ := lc_parts O h
    have ok : BlkOk Y.N Y.env.scope scope (ownOf c (pslots p)) := by
      rw [O.hN, O.hsc]
      exact blkOk_by h2
    have key := (s_lc (h := hp) (pos := lp) O pi h2 h3 hg ht he hf).2
    have hyl : Y.env.scope.names.lookup x = some .local := by rw [O.hsc]; exact hx
    exact PS.imp (ps_setLc (i := i) O.calm nd (by rw [O.hN]; exact hi) hyl (sw_true hk hyl hl ha) pi ok hg ht he hf) fun D σ H q => key σ H _ q
  | isis a ks => cases ks <;> cases h
  | meth a m f es st ks vs => cases st <;> cases h
  | _ => cases h
/-! ### fields, unpacking, entries of dicts -/
theorem putF_ok {ω : Wd} {d : D} {u : V} {f : Tx} (r : Rel G ω d u) : ∀ {ks : List Tx} {ds : List D} {vs : List V}, ks.length = ds.length → Rels G ω ds vs → ∃ vs', L2.putF (sS f) u (zipF ks vs) = zipF (putF ks f) vs' ∧ Rels G ω (putFv ks ds f d) vs' ∧ (putF ks f).length = (putFv ks ds f d).length
  | [], ds, vs, hl, h => by
    have : ds = [] := List.length_eq_zero_iff.mp hl.symm
    subst this
    rw [Rels] at h
    subst h
    exact ⟨[u], rfl, Rels.one r, rfl⟩
  | g :: ks, [], vs, hl, h => by cases hl
  | g :: ks, e :: ds, vs, hl, h => by
    rw [Rels] at h
    obtain ⟨v, t, e1, a, b⟩ := h
    subst e1
    rw [zipF, L2.putF, putF, putFv]
    by_cases c : txEq g f = true
    · rw [if_pos c, if_pos c, if_pos (by rw [txEq_iff.mp c])]
      exact ⟨u :: t, rfl, Rels.cons r b, by simpa using hl⟩
    · rw [if_neg c, if_neg c, if_neg (fun z => c (txEq_iff.mpr (sS_inj.mp z)))]
      obtain ⟨vs', q1, q2, q3⟩ := putF_ok r (ks := ks) (by simpa using hl) b
      exact ⟨v :: vs', by rw [q1]; rfl, Rels.cons a q2, by rw [List.length_cons, List.length_cons, q3]⟩
theorem zipF_len : ∀ {ks : List Tx} {vs : List V}, (zipF ks vs).length ≤ ks.length
  | [], vs => by cases vs <;> exact Nat.zero_le _
  | k :: ks, [] => Nat.zero_le _
  | k :: ks, v :: vs => Nat.succ_le_succ zipF_len
theorem ss_atr (O : Ok G P ft k c Y) {v eo : Expr} {e o : X} {f : Tx} {pos px : Pos} (A : Snd G (ecN P k) Y v e) (B : Snd G (ecN P k) Y eo o) (h : notComp v = true) : PS Y (.Assign [.Attribute eo (sS f) px] v pos) (tS G (ecN P k) (.atr o f e)) := by
  refine PS.imp (ps_fld B.pe A.pe (notComp_sw h _ _ _)) fun D σ H q => ?_
  obtain ⟨ω, M, env, he, hh, post⟩ := q
  rw [exec] at post
  refine eE_of he hh (fun z => by rw [z] at post; exact post) fun d M1 z ω1 H1 w le he1 hh1 r => ?_
  rw [z] at post
  dsimp only at post
  have post := PostS.mono post le
  refine eE_of he1 hh1 (fun z => by rw [z] at post; exact post) fun d2 M2 z ω2 H2 w2 le2 he2 hh2 r2 => ?_
  rw [z] at post
  cases d2 with
  | ref a =>
    dsimp only at post
    have post := PostS.mono post le2
    rw [Rel] at r2
    obtain ⟨p, ep, e2⟩ := r2
    subst e2
    cases em : M2[a]? with
    | none => rw [em] at post; exact False.elim post
    | some ob =>
      rw [em] at post
      cases ob with
      | ins i ks ds =>
        dsimp only at post
        cases ec : (ecN P k).cls[i]? with
        | none => rw [ec] at post; exact False.elim post
        | some cd =>
          rw [ec] at post
          dsimp only at post
          split at post
          · rename_i hb
            rw [Bool.and_eq_true, decide_eq_true_eq] at hb
            obtain ⟨p', ho, f1, f2, ⟨dx, vs, f3, f4, f5, f6⟩, _⟩ := hh2.obj a _ em (fun z => nomatch z)
            rw [ep] at f1
            cases f1
            subst f3
            have cf := O.clf i cd ec
            obtain ⟨vs', q1, q2, q3⟩ := putF_ok (f := f) (Rel.mono le2 _ _ r) f5 f6
            refine ⟨p, _, dx, _, rfl, f2, by rw [O.hK]; exact cf.cls, by rw [O.hK]; exact cf.fld f (hasT_mem hb.1), Nat.lt_of_le_of_lt zipF_len (by omega), ?_⟩
            rw [q1]
            exact post ω2 σ _ (Le.refl _) he2 (hh2.setM em (fun z => nomatch z) ep ⟨dx, vs', rfl, f4, q3, q2⟩)
          · exact False.elim post
      | _ => exact False.elim post
  | _ => exact False.elim post
theorem ss_una (O : Ok G P ft k c Y) {tg v : Expr} {e : X} {is : List Nat} {pos : Pos} (A : Snd G (ecN P k) Y v e) (ht : okP c (.tp is) tg = true) (h : notComp v = true) (hw : swappedStores [tg] v Y.env = pure none) : PS Y (.Assign [tg] v pos) (tS G (ecN P k) (.una is e)) := by
  have h1 : (assignEach [tg] Y.env).map (·.2) = [assign tg Y.env] := by
    cases tg with
    | Tuple _ _ _ => rfl
    | _ => cases ht
  refine PS.imp (ps_asg A.pe (pg_ok O ht) (notComp_sole h _ _ _) hw h1) fun D σ H q => ?_
  obtain ⟨ω, M, env, he, hh, post⟩ := q
  rw [exec] at post
  refine eE_of he hh (fun z => by rw [z] at post; exact post) fun d M1 z ω1 H1 w le he1 hh1 r => ?_
  rw [z] at post
  dsimp only at post
  cases es : setP (.tp is) d env with
  | none => rw [es] at post; exact False.elim post
  | some env1 =>
    rw [es] at post
    exact ⟨ω1, M1, d, env, env1, he1, hh1, r, es, fun σ' he' _ => post ω1 σ' H1 le he' hh1⟩
theorem last_ok {ω : Wd} {G : Gs} : ∀ {ds : List D} {vs : List V} {d : D}, Rels G ω ds vs → ds.getLast? = some d → ∃ ws z, vs = ws ++ [z] ∧ Rels G ω ds.dropLast ws ∧ Rel G ω d z
  | [], vs, d, _, h => by simp at h
  | [x], vs, d, r, h => by
    simp at h
    subst h
    obtain ⟨v, e, a⟩ := rels1 r
    subst e
    exact ⟨[], v, rfl, Rels.nil, a⟩
  | x :: y :: ds, vs, d, r, h => by
    rw [Rels] at r
    obtain ⟨v, w, e, a, b⟩ := r
    subst e
    rw [List.getLast?_cons_cons] at h
    obtain ⟨ws, z, e2, f, g⟩ := last_ok b h
    subst e2
    exact ⟨v :: ws, z, rfl, Rels.cons a f, g⟩
theorem ss_uns (O : Ok G P ft k c Y) {x y : Str} {px ps py pt : Pos} {kt : Nat} {v : Expr} {e : X} {i j : Nat} {pos : Pos} (A : Snd G (ecN P k) Y v e) (h1 : c.tgt i x = true) (h2 : c.tgt j y = true) (h : notComp v = true) (hn : notTup v = true) :
    PS Y (.Assign [.Tuple [.Starred (.Name x px) ps, .Name y py] kt pt] v pos) (tS G (ecN P k) (.uns i j e)) := by
  have hw : swappedStores [.Tuple [.Starred (.Name x px) ps, .Name y py] kt pt] v Y.env = pure none := by
    cases v with
    | Tuple _ _ _ => cases hn
    | _ => rfl
  refine PS.imp (ps_asg A.pe (pg_star O.calm (O.tgt h1) (O.tgt h2) rfl) (notComp_sole h _ _ _) hw rfl) fun D σ H q => ?_
  obtain ⟨ω, M, env, he, hh, post⟩ := q
  rw [exec] at post
  refine eE_of he hh (fun z => by rw [z] at post; exact post) fun d M1 z ω1 H1 w le he1 hh1 r => ?_
  rw [z] at post
  cases d with
  | lst l =>
    dsimp only at post
    split at post
    · rename_i d ed
      split at post
      · rename_i hij
        rw [Bool.and_eq_true] at hij
        have hi := of_decide_eq_true hij.1
        have hj := of_decide_eq_true hij.2
        rw [Rel] at r
        obtain ⟨p, vs, f1, f2, f3⟩ := r
        subst f1
        obtain ⟨ws, u, g1, g2, g3⟩ := last_ok f3 ed
        subst g1
        refine ⟨p, ws, u, rfl, SqL.of (hh1.imm _ _ f2), fun p' hp' => ?_⟩
        obtain ⟨hh2, le2⟩ := hh1.addI (o := .lst ws) hp'
        refine post _ _ _ (le.trans le2) (((he1.mono le2).set (d := .lst l.dropLast) (v := .ref p') ?_ hi).set (Rel.mono le2 _ _ g3) (by rw [List.length_set]; exact hj)) hh2
        rw [Rel]
        exact ⟨p', ws, rfl, upd_same, Rels.mono le2 _ _ g2⟩
      · exact False.elim post
    · exact False.elim post
  | _ => exact False.elim post
theorem sw2 {env : PySem.Env} {x y : Str} {px py pt pt2 : Pos} {kt k2 : Nat} {ea eb : Expr} (hb : env.blockKind = .function) (hx : env.scope.names.lookup x = some .local) (hy : env.scope.names.lookup y = some .local) (hl : (py.line == px.line) = true) (ne : x ≠ y) (hsa : ∀ v p, ea ≠ .Starred v p) (hsb : ∀ v p, eb ≠ .Starred v p)
    (h1 : [ea, eb].all (foldedForSure 8) = false) (h2 : [ea, eb].all (constantsAlone 8) = false) : swappedStores [.Tuple [.Name x px, .Name y py] kt pt] (.Tuple [ea, eb] k2 pt2) env = pure (some [x, y]) := by
  have s1 : ([ea, eb].any fun | .Starred .. => true | _ => false) = false := by
    cases ea with
    | Starred v p => exact absurd rfl (hsa v p)
    | _ =>
      cases eb with
      | Starred v p => exact absurd rfl (hsb v p)
      | _ => rfl
  have e1 : (env.kindOf x == some .local) = true := by unfold Env.kindOf; rw [hx]; rfl
  have e2 : (env.kindOf y == some .local) = true := by unfold Env.kindOf; rw [hy]; rfl
  have e5 : [x, y].eraseDups = [x, y] := by
    have : (y == x) = false := by simpa using Ne.symm ne
    simp [List.eraseDups, List.eraseDupsBy, List.eraseDupsBy.loop, this]
  have hln : (Option.map (fun x => x.pos.line) [Expr.Name x px, Expr.Name y py].head?).getD 0 = px.line := rfl
  unfold swappedStores
  dsimp only
  rw [hb]
  simp only [hln, List.filterMap_cons, List.filterMap_nil, e1, e2, hl, beq_self_eq_true, Bool.and_self, if_true, e5, h1, h2]
  refine (if_neg ?_).trans ((if_neg ?_).trans ((if_neg ?_).trans ?_))
  · intro z; cases z
  · intro z
    exact Bool.false_ne_true (s1.symm.trans z)
  · intro z
    simp at z
  · rfl
theorem sw0 {env : PySem.Env} {eo ek ep eq : Expr} {p1 p2 pt pt2 : Pos} {kt k2 : Nat} {ea eb : Expr} (hb : env.blockKind = .function) (hsa : ∀ v p, ea ≠ .Starred v p) (hsb : ∀ v p, eb ≠ .Starred v p) : swappedStores [.Tuple [.Subscript eo ek p1, .Subscript ep eq p2] kt pt] (.Tuple [ea, eb] k2 pt2) env = pure none := by
  have s1 : ([ea, eb].any fun | .Starred .. => true | _ => false) = false := by
    cases ea with
    | Starred v p => exact absurd rfl (hsa v p)
    | _ =>
      cases eb with
      | Starred v p => exact absurd rfl (hsb v p)
      | _ => rfl
  unfold swappedStores
  dsimp only
  rw [hb]
  refine (if_neg ?_).trans ((if_neg ?_).trans ((if_pos ?_)))
  · intro z; cases z
  · intro z
    exact Bool.false_ne_true (s1.symm.trans z)
  · rfl
theorem tup_form {e : X} {as : List Expr} {n : Nat} {p : Pos} (ht : isTupX e = true) (h : okE e c (.Tuple as n p) = true) : ∃ es, e = .tup es ∧ okEs es c as = true := by
  cases e with
  | tup es => exact ⟨es, rfl, h⟩
  | _ => cases ht
theorem sw2n {env : PySem.Env} {x y : Str} {px py pt pt2 : Pos} {kt k2 : Nat} {ea eb : Expr} (hn : (decide (env.scope.names.lookup x = some .local) && decide (env.scope.names.lookup y = some .local)) = false) (hsa : ∀ v p, ea ≠ .Starred v p) (hsb : ∀ v p, eb ≠ .Starred v p) : swappedStores [.Tuple [.Name x px, .Name y py] kt pt] (.Tuple [ea, eb] k2 pt2) env = pure none := by
  have s1 : ([ea, eb].any fun | .Starred .. => true | _ => false) = false := by
    cases ea with
    | Starred v p => exact absurd rfl (hsa v p)
    | _ =>
      cases eb with
      | Starred v p => exact absurd rfl (hsb v p)
      | _ => rfl
  have kd : ∀ x, (env.kindOf x == some .local) = decide (env.scope.names.lookup x = some .local) := fun x => by
    unfold Env.kindOf
    by_cases h : env.scope.names.lookup x = some .local
    · rw [decide_eq_true h, h]; rfl
    · rw [decide_eq_false h]
      exact beq_eq_false_iff_ne.mpr h
  unfold swappedStores
  dsimp only
  by_cases hb : (!([Expr.Name x px, Expr.Name y py].length == 2 || [Expr.Name x px, Expr.Name y py].length == 3) || [ea, eb].length != [Expr.Name x px, Expr.Name y py].length || env.blockKind != ScopeKind.function) = true
  · exact if_pos hb
  · refine (if_neg hb).trans ((if_neg ?_).trans (if_pos ?_))
    · intro z
      exact Bool.false_ne_true (s1.symm.trans z)
    · simp only [List.filterMap_cons, List.filterMap_nil, kd]
      cases e1 : decide (env.scope.names.lookup x = some .local) with
      | false =>
        simp only [Bool.false_and, Bool.false_eq_true, if_false]
        split <;> rfl
      | true =>
        rw [e1, Bool.true_and] at hn
        rw [hn]
        simp only [Bool.false_and, Bool.false_eq_true, if_false]
        split <;> rfl
theorem nosw_form {tg v : Expr} (hs : okNoSw c tg v = true) : ∃ x px y py kt pt ea eb k2 pt2, tg = .Tuple [.Name x px, .Name y py] kt pt ∧ v = .Tuple [ea, eb] k2 pt2 ∧ (decide (c.sc.names.lookup x = some .local) && decide (c.sc.names.lookup y = some .local)) = false := by
  unfold okNoSw at hs
  split at hs
  · exact ⟨_, _, _, _, _, _, _, _, _, _, rfl, rfl, eq_of_beq hs⟩
  · cases hs
theorem nosw_ok (O : Ok G P ft k c Y) {e : X} {tg v : Expr} (ht : isTupX e = true) (ho : okE e c v = true) (hs : okNoSw c tg v = true) : swappedStores [tg] v Y.env = pure none := by
  obtain ⟨x, px, y, py, kt, pt, ea, eb, k2, pt2, rfl, rfl, h⟩ := nosw_form hs
  obtain ⟨es, rfl, hes⟩ := tup_form ht ho
  have st : ∀ {z : X} {e : Expr}, okE z c e = true → ∀ v p, e ≠ .Starred v p := fun h v p z => by
    subst z
    rw [okE_star] at h
    cases h
  obtain ⟨xa, xb, rfl⟩ := len2 (show es.length = 2 by rw [okEs_len hes]; rfl)
  rw [okEs, Bool.and_eq_true] at hes
  obtain ⟨oa, hes⟩ := hes
  rw [okEs, Bool.and_eq_true] at hes
  exact sw2n (by rw [O.hsc]; exact h) (st oa) (st hes.1)
theorem swap_form {is : List Nat} {tg v : Expr} (hs : okSwap c is tg v = true) : ∃ i j x px y py kt pt ea eb k2 pt2, is = [i, j] ∧ tg = .Tuple [.Name x px, .Name y py] kt pt ∧ v = .Tuple [ea, eb] k2 pt2 ∧ (c.N[i]? = some x ∧ c.N[j]? = some y ∧ i ≠ j ∧ c.sc.names.lookup x = some .local ∧ c.sc.names.lookup y = some .local) ∧ (py.line == px.line) = true ∧ [ea, eb].all (foldedForSure 8) = false ∧ [ea, eb].all (constantsAlone 8) = false := by
  unfold okSwap at hs
  split at hs
  · simp only [Bool.and_eq_true] at hs
    obtain ⟨h1, h2, h3, h4⟩ := hs
    exact ⟨_, _, _, _, _, _, _, _, _, _, _, _, rfl, rfl, rfl, of_decide_eq_true h1, h2, eq_of_beq h3, eq_of_beq h4⟩
  · cases hs
theorem ss_swap (O : Ok G P ft k c Y) {v : Expr} {e : X} {tg : Expr} {is : List Nat} {pos : Pos} (hk : Y.env.scope.kind = .function) (ht : isTupX e = true) (ho : okE e c v = true) (hs : okSwap c is tg v = true) : PS Y (.Assign [tg] v pos) (tS G (ecN P k) (.una is e)) := by
  obtain ⟨i, j, x, px, y, py, kt, pt, ea, eb, k2, pt2, rfl, rfl, rfl, ⟨h1, h2, h3, h4, h5⟩, h6, h7, h8⟩ := swap_form hs
  obtain ⟨es, rfl, hes⟩ := tup_form ht ho
  have hb : Y.env.blockKind = .function := by
    unfold Env.blockKind
    rw [hk]
    rfl
  have ne : x ≠ y := fun z => by
    subst z
    have := O.nd
    obtain ⟨l1, e1⟩ := List.getElem?_eq_some_iff.mp h1
    obtain ⟨l2, e2⟩ := List.getElem?_eq_some_iff.mp h2
    exact h3 (List.getElem_inj this |>.mp (e1.trans e2.symm))
  have st : ∀ {z : X} {e : Expr}, okE z c e = true → ∀ v p, e ≠ .Starred v p := fun h v p z => by
    subst z
    rw [okE_star] at h
    cases h
  have hes2 := hes
  obtain ⟨xa, xb, rfl⟩ := len2 (show es.length = 2 by rw [okEs_len hes]; rfl)
  rw [okEs, Bool.and_eq_true] at hes
  obtain ⟨oa, hes⟩ := hes
  rw [okEs, Bool.and_eq_true] at hes
  have PA2 := (sndEs [xa, xb] _ c [ea, eb] Y O hes2).pa
  refine PS.imp (ps_par O.calm (by rw [O.hN]; exact O.nd) (by rw [O.hN]; exact h1) (by rw [O.hN]; exact h2) h3 (by rw [O.hsc]; exact h4) (by rw [O.hsc]; exact h5) PA2 (sw2 hb (by rw [O.hsc]; exact h4) (by rw [O.hsc]; exact h5) h6 ne (st oa) (st hes.1) h7 h8) rfl) fun D σ H q => ?_
  obtain ⟨ω, M, env, he, hh, post⟩ := q
  rw [exec, ev] at post
  refine ⟨ω, M, env, he, hh, ?_⟩
  cases e0 : evs (ecN P k) [xa, xb] env M with
  | er => rw [e0] at post; exact post
  | ex _ _ => rw [e0] at post; exact post
  | ok ds M1 =>
    rw [e0] at post
    obtain ⟨d1, d2, rfl⟩ := len2 (evs_len e0)
    intro ω1 H1 vs le hh1 r
    obtain ⟨v, w, rfl, r1, r2⟩ := rels2 r
    have post : PostS G ω (match setPs [i, j] [d1, d2] env with
      | some env1 => .nx env1 M1
      | none => .er) D := post
    rw [setPs] at post
    by_cases c1 : i < env.length
    · rw [if_pos c1, setPs] at post
      by_cases c2 : j < (env.set i (some d1)).length
      · rw [if_pos c2, setPs] at post
        exact ⟨v, w, rfl, post ω1 _ H1 le ((he.mono le |>.set r1 c1).set r2 c2) hh1⟩
      · rw [if_neg c2] at post
        exact False.elim post
    · rw [if_neg c1] at post
      exact False.elim post
theorem sw3 {env : PySem.Env} {x y z : Str} {px py pz pt pt2 : Pos} {kt k2 : Nat} {ea eb ed : Expr} (hb : env.blockKind = .function) (hx : env.scope.names.lookup x = some .local) (hy : env.scope.names.lookup y = some .local) (hz : env.scope.names.lookup z = some .local) (hl : (py.line == px.line) = true) (hl2 : (pz.line == px.line) = true) (ne : x ≠ y) (ne2 : x ≠ z) (ne3 : y ≠ z) (hsa : ∀ v p, ea ≠ .Starred v p) (hsb : ∀ v p, eb ≠ .Starred v p) (hsd : ∀ v p, ed ≠ .Starred v p)
    (h1 : [ea, eb, ed].all (foldedForSure 8) = false) (h2 : [ea, eb, ed].all (constantsAlone 8) = false) : swappedStores [.Tuple [.Name x px, .Name y py, .Name z pz] kt pt] (.Tuple [ea, eb, ed] k2 pt2) env = pure (some [x, y, z]) := by
  have st1 : ∀ {e : Expr}, (∀ v p, e ≠ .Starred v p) → (match e with | .Starred .. => true | _ => false) = false := fun {e} h => by
    cases e with
    | Starred v p => exact absurd rfl (h v p)
    | _ => rfl
  have s1 : ([ea, eb, ed].any fun | .Starred .. => true | _ => false) = false := by
    rw [List.any_cons, List.any_cons, List.any_cons, List.any_nil, st1 hsa, st1 hsb, st1 hsd]
    rfl
  have e1 : (env.kindOf x == some .local) = true := by unfold Env.kindOf; rw [hx]; rfl
  have e2 : (env.kindOf y == some .local) = true := by unfold Env.kindOf; rw [hy]; rfl
  have e3 : (env.kindOf z == some .local) = true := by unfold Env.kindOf; rw [hz]; rfl
  have e5 : [x, y, z].eraseDups = [x, y, z] := by
    have q1 : (y == x) = false := by simpa using Ne.symm ne
    have q2 : (z == x) = false := by simpa using Ne.symm ne2
    have q3 : (z == y) = false := by simpa using Ne.symm ne3
    simp [List.eraseDups, List.eraseDupsBy, List.eraseDupsBy.loop, q1, q2, q3]
  have hln : (Option.map (fun x => x.pos.line) [Expr.Name x px, Expr.Name y py, Expr.Name z pz].head?).getD 0 = px.line := rfl
  unfold swappedStores
  dsimp only
  rw [hb]
  simp only [hln, List.filterMap_cons, List.filterMap_nil, e1, e2, e3, hl, hl2, beq_self_eq_true, Bool.and_self, if_true, e5, h1, h2]
  refine (if_neg ?_).trans ((if_neg ?_).trans ((if_neg ?_).trans ?_))
  · intro z; cases z
  · intro z
    exact Bool.false_ne_true (s1.symm.trans z)
  · intro z
    simp at z
  · rfl
theorem swap3_form {is : List Nat} {tg v : Expr} (hs : okSwap3 c is tg v = true) : ∃ i j l x px y py z pz kt pt ea eb ed k2 pt2, is = [i, j, l] ∧ tg = .Tuple [.Name x px, .Name y py, .Name z pz] kt pt ∧ v = .Tuple [ea, eb, ed] k2 pt2 ∧ (c.N[i]? = some x ∧ c.N[j]? = some y ∧ c.N[l]? = some z ∧ i ≠ j ∧ i ≠ l ∧ j ≠ l ∧ c.sc.names.lookup x = some .local ∧ c.sc.names.lookup y = some .local ∧ c.sc.names.lookup z = some .local) ∧ ((py.line == px.line) = true ∧ (pz.line == px.line) = true) ∧ [ea, eb, ed].all (foldedForSure 8) = false ∧ [ea, eb, ed].all (constantsAlone 8) = false := by
  unfold okSwap3 at hs
  split at hs
  · simp only [Bool.and_eq_true] at hs
    obtain ⟨h1, h2, h3, h4⟩ := hs
    exact ⟨_, _, _, _, _, _, _, _, _, _, _, _, _, _, _, _, rfl, rfl, rfl, of_decide_eq_true h1, h2, eq_of_beq h3, eq_of_beq h4⟩
  · cases hs
theorem ss_swap3 (O : Ok G P ft k c Y) {v : Expr} {e : X} {tg : Expr} {is : List Nat} {pos : Pos} (hk : Y.env.scope.kind = .function) (ht : isTupX e = true) (ho : okE e c v = true) (hs : okSwap3 c is tg v = true) : PS Y (.Assign [tg] v pos) (tS G (ecN P k) (.una is e)) := by
  obtain ⟨i, j, l, x, px, y, py, z, pz, kt, pt, ea, eb, ed, k2, pt2, rfl, rfl, rfl, ⟨h1, h2, h3, n1, n2, n3, h4, h5, h5'⟩, ⟨h6, h6'⟩, h7, h8⟩ := swap3_form hs
  obtain ⟨es, rfl, hes⟩ := tup_form ht ho
  have hb : Y.env.blockKind = .function := by
    unfold Env.blockKind
    rw [hk]
    rfl
  have nd := O.nd
  have apart : ∀ {a b : Nat} {p q : Str}, c.N[a]? = some p → c.N[b]? = some q → a ≠ b → p ≠ q := fun {a b p q} q1 q2 q3 z => by
    subst z
    obtain ⟨l1, e1⟩ := List.getElem?_eq_some_iff.mp q1
    obtain ⟨l2, e2⟩ := List.getElem?_eq_some_iff.mp q2
    exact q3 (List.getElem_inj nd |>.mp (e1.trans e2.symm))
  have st : ∀ {z : X} {e : Expr}, okE z c e = true → ∀ v p, e ≠ .Starred v p := fun h v p z => by
    subst z
    rw [okE_star] at h
    cases h
  have hes2 := hes
  obtain ⟨xa, xb, xd, rfl⟩ : ∃ xa xb xd, es = [xa, xb, xd] := by
    have hl : es.length = 3 := by rw [okEs_len hes]; rfl
    match es, hl with
    | [a, b, d], _ => exact ⟨a, b, d, rfl⟩
  rw [okEs, Bool.and_eq_true] at hes
  obtain ⟨oa, hes⟩ := hes
  rw [okEs, Bool.and_eq_true] at hes
  obtain ⟨ob, hes⟩ := hes
  rw [okEs, Bool.and_eq_true] at hes
  have PA2 := (sndEs [xa, xb, xd] _ c [ea, eb, ed] Y O hes2).pa
  refine PS.imp (ps_par3 O.calm (by rw [O.hN]; exact O.nd) (by rw [O.hN]; exact h1) (by rw [O.hN]; exact h2) (by rw [O.hN]; exact h3) n1 n2 n3 (by rw [O.hsc]; exact h4) (by rw [O.hsc]; exact h5) (by rw [O.hsc]; exact h5') PA2 (sw3 hb (by rw [O.hsc]; exact h4) (by rw [O.hsc]; exact h5) (by rw [O.hsc]; exact h5') h6 h6' (apart h1 h2 n1) (apart h1 h3 n2) (apart h2 h3 n3) (st oa) (st ob) (st hes.1) h7 h8) rfl) fun D σ H q => ?_
  obtain ⟨ω, M, env, he, hh, post⟩ := q
  rw [exec, ev] at post
  refine ⟨ω, M, env, he, hh, ?_⟩
  cases e0 : evs (ecN P k) [xa, xb, xd] env M with
  | er => rw [e0] at post; exact post
  | ex _ _ => rw [e0] at post; exact post
  | ok ds M1 =>
    rw [e0] at post
    have hl := evs_len e0
    match ds, hl, post with
    | [d1, d2, d3], _, post =>
    intro ω1 H1 vs le hh1 r
    rw [Rels] at r
    obtain ⟨v1, t1, rfl, r1, r⟩ := r
    rw [Rels] at r
    obtain ⟨v2, t2, rfl, r2, r⟩ := r
    obtain ⟨v3, rfl, r3⟩ := rels1 r
    have post : PostS G ω (match setPs [i, j, l] [d1, d2, d3] env with
      | some env1 => .nx env1 M1
      | none => .er) D := post
    rw [setPs] at post
    by_cases c1 : i < env.length
    · rw [if_pos c1, setPs] at post
      by_cases c2 : j < (env.set i (some d1)).length
      · rw [if_pos c2, setPs] at post
        by_cases c3 : l < ((env.set i (some d1)).set j (some d2)).length
        · rw [if_pos c3, setPs] at post
          exact ⟨v1, v2, v3, rfl, post ω1 _ H1 le (((he.mono le |>.set r1 c1).set r2 c2).set r3 c3) hh1⟩
        · rw [if_neg c3] at post
          exact False.elim post
      · rw [if_neg c2] at post
        exact False.elim post
    · rw [if_neg c1] at post
      exact False.elim post
theorem fm_lt {α β : Type} {f : α → Option β} {p : α → Bool} (h : ∀ a, p a = true → f a = none) : ∀ {l : List α}, l.any p = true → (l.filterMap f).length < l.length
  | [], z => by cases z
  | a :: l, z => by
    rw [List.any_cons, Bool.or_eq_true] at z
    rw [List.filterMap_cons]
    rcases z with z | z
    · rw [h a z]
      exact Nat.lt_succ_of_le (List.length_filterMap_le f l)
    · have := fm_lt h z
      cases f a with
      | none => exact Nat.lt_succ_of_lt this
      | some b => exact Nat.succ_lt_succ this
theorem far_ok {env : PySem.Env} {tg v : Expr} (h : okFar tg v = true) : swappedStores [tg] v env = pure none := by
  unfold okFar at h
  split at h
  · rename_i ts n p vs m q
    unfold swappedStores
    dsimp only
    by_cases g : (!(ts.length == 2 || ts.length == 3) || vs.length != ts.length || env.blockKind != ScopeKind.function) = true
    · exact if_pos g
    · refine (if_neg g).trans ?_
      by_cases g2 : (vs.any fun | .Starred .. => true | _ => false) = true
      · exact if_pos g2
      · refine (if_neg g2).trans (if_pos ?_)
        rw [Bool.or_eq_true] at h
        rcases h with h | h
        · refine absurd ?_ g
          have h := Nat.le_of_ble_eq_true h
          have e2 : (ts.length == 2) = false := beq_eq_false_iff_ne.mpr (by omega)
          have e3 : (ts.length == 3) = false := beq_eq_false_iff_ne.mpr (by omega)
          rw [e2, e3]
          rfl
        · rw [Bool.or_eq_true]
          refine .inl (bne_iff_ne.mpr (Nat.ne_of_lt (fm_lt (p := notNm) (fun a ha => ?_) h)))
          cases a <;> first | rfl | cases ha
  · cases h
theorem putK_ok {ω : Wd} {M : List O} {H : Hp} {x y d : D} {vx vy vd : V} {σ : L2.St} {f : List O → Out} {D : Ends} (hh : HRel G ω M H) (rx : Rel G ω x vx) (ry : Rel G ω y vy) (rd : Rel G ω d vd) (post : PostS G ω (Ev.putK x y d M f) D) :
    ∃ a H4, vx = .ref a ∧ DPut H a vy vd H4 ∧ ∃ M4, HRel G ω M4 H4 ∧ PostS G ω (f M4) D := by
  unfold Ev.putK at post
  split at post
  · rename_i a hky
    split at post
    · rename_i ks ds em
      split at post
      · rename_i hl
        rw [Rel] at rx
        obtain ⟨p, ep, e2⟩ := rx
        obtain ⟨p', ho, f1, f2, ⟨vs, f3, f4, f5, f6⟩, _⟩ := hh.obj a _ em (fun z => nomatch z)
        rw [ep] at f1
        cases f1
        subst f3
        obtain ⟨vs', q1, q2, q3, q4⟩ := put_ok hky rd f4 f5 f6
        refine ⟨p, _, e2, .inl ⟨_, kk y, f2, key_val hky ry, ?_, rfl⟩, _, ?_, post⟩
        · rw [kvs_len (by rw [f6.length, f5])]
          exact Nat.lt_of_lt_of_le hl lim_le
        · rw [q1]
          exact hh.setM em (fun z => nomatch z) ep ⟨vs', rfl, q2, q3, q4⟩
      · exact False.elim post
    · exact False.elim post
  · exact False.elim post
theorem ss_putk (O : Ok G P ft k c Y) {v eo ek : Expr} {e o i : X} {pos px : Pos} (A : Snd G (ecN P k) Y v e) (B : Snd G (ecN P k) Y eo o) (E : Snd G (ecN P k) Y ek i) (h : notComp v = true) : PS Y (.Assign [.Subscript eo ek px] v pos) (tS G (ecN P k) (.putk o i e)) := by
  refine PS.imp (ps_dput (by have := O.room.un; omega) B.pe E.pe A.pe (notComp_sw h _ _ _)) fun D σ H q => ?_
  obtain ⟨ω, M, env, he, hh, post⟩ := q
  rw [exec] at post
  refine eE_of he hh (fun z => by rw [z] at post; exact post) fun d M1 z ω1 H1 w le he1 hh1 r => ?_
  rw [z] at post
  dsimp only at post
  have post := PostS.mono post le
  refine eE_of he1 hh1 (fun z => by rw [z] at post; exact post) fun d2 M2 z ω2 H2 w2 le2 he2 hh2 r2 => ?_
  rw [z] at post
  dsimp only at post
  have post := PostS.mono post le2
  refine eE_of he2 hh2 (fun z => by rw [z] at post; exact post) fun d3 M3 z ω3 H3 w3 le3 he3 hh3 r3 => ?_
  rw [z] at post
  dsimp only at post
  have post := PostS.mono post le3
  obtain ⟨a, H4, g1, g2, M4, g3, g4⟩ := putK_ok (σ := σ) hh3 (Rel.mono le3 _ _ r2) r3 (Rel.mono (le2.trans le3) _ _ r) post
  exact ⟨a, H4, g1, g2, g4 ω3 σ H4 (Le.refl _) he3 g3⟩
theorem putk2_form {o i p q a b : X} {c : Ck} {st : Stmt} (h : okS (.putk2 o i p q a b) c st = true) : ∃ (eo ek : Expr) (p1 : Pos) (ep eq : Expr) (p2 : Pos) (n : Nat) (p3 : Pos) (ea eb : Expr) (m : Nat) (p4 pos : Pos), st = .Assign [.Tuple [.Subscript eo ek p1, .Subscript ep eq p2] n p3] (.Tuple [ea, eb] m p4) pos ∧ okE a c ea = true ∧ okE b c eb = true ∧ okE o c eo = true ∧ okE i c ek = true ∧ okE p c ep = true ∧ okE q c eq = true := by
  cases st with
  | Assign ts v pos =>
    match ts, h with
    | [t], h =>
      cases t with
      | Tuple tt n p3 =>
        match tt, h with
        | [t1, t2], h =>
          cases t1 with
          | Subscript eo ek p1 =>
            cases t2 with
            | Subscript ep eq p2 =>
              cases v with
              | Tuple vv m p4 =>
                match vv, h with
                | [ea, eb], h =>
                  rw [okS] at h
                  simp only [Bool.and_eq_true] at h
                  obtain ⟨h1, h2, h3, h4, h5, h6⟩ := h
                  exact ⟨eo, ek, p1, ep, eq, p2, n, p3, ea, eb, m, p4, pos, rfl, h1, h2, h3, h4, h5, h6⟩
                | [], h => cases h
                | [_], h => cases h
                | _ :: _ :: _ :: _, h => cases h
              | _ => cases h
            | _ => cases h
          | _ => cases h
        | [], h => cases h
        | [t1], h => cases t1 <;> cases h
        | t1 :: t2 :: _ :: _, h =>
          cases t1 with
          | Subscript eo ek p1 => cases t2 <;> cases h
          | _ => cases h
      | _ => cases h
    | [], h => cases h
    | t :: _ :: _, h =>
      cases t with
      | Tuple tt n p3 =>
        match tt, h with
        | [t1, t2], h =>
          cases t1 with
          | Subscript eo ek p1 => cases t2 <;> cases h
          | _ => cases h
        | [], h => cases h
        | [t1], h => cases t1 <;> cases h
        | t1 :: t2 :: _ :: _, h =>
          cases t1 with
          | Subscript eo ek p1 => cases t2 <;> cases h
          | _ => cases h
      | _ => cases h
  | _ => cases h
theorem ss_putk2 (O : Ok G P ft k c Y) {eo ek ep eq ea eb : Expr} {o i p q a b : X} {pos p1 p2 p3 p4 : Pos} {n m : Nat} (hk : Y.env.scope.kind = .function) (A : Snd G (ecN P k) Y ea a) (B : Snd G (ecN P k) Y eb b) (E1 : Snd G (ecN P k) Y eo o) (E2 : Snd G (ecN P k) Y ek i) (E3 : Snd G (ecN P k) Y ep p) (E4 : Snd G (ecN P k) Y eq q) (sa : ∀ es env, starEach (ea :: es) env = (false, eval ea env) :: starEach es env) (sb : ∀ es env, starEach (eb :: es) env = (false, eval eb env) :: starEach es env)
    (na : ∀ v p, ea ≠ .Starred v p) (nb : ∀ v p, eb ≠ .Starred v p) (n1 : ∀ a b d p, ek ≠ .Slice a b d p) (n2 : ∀ a b d p, eq ≠ .Slice a b d p) :
    PS Y (.Assign [.Tuple [.Subscript eo ek p1, .Subscript ep eq p2] n p3] (.Tuple [ea, eb] m p4) pos) (tS G (ecN P k) (.putk2 o i p q a b)) := by
  have hu : Y.A.units + 1 < cLine := by have := O.room.un; omega
  have hb : Y.env.blockKind = .function := by
    unfold Env.blockKind
    rw [hk]
    rfl
  have g1 := pg_sub (pos := p1) E1.pe E2.pe (set_dict hu) (by cases ek <;> first | (intro _; rfl) | exact absurd rfl (n1 _ _ _ _))
  have g2 := pg_sub (pos := p2) E3.pe E4.pe (set_dict hu) (by cases eq <;> first | (intro _; rfl) | exact absurd rfl (n2 _ _ _ _))
  refine PS.imp (ps_asg (pe_tup (pa_cons A.pe (pa_cons B.pe pa_nil (sb _ _)) (sa _ _))) (pg_tup O.calm (pgs_cons g1 (pgs_cons g2 pgs_nil)) (n := 2)) rfl (sw0 hb na nb)) fun D σ H q => ?_
  obtain ⟨ω, M, env, he, hh, post⟩ := q
  rw [exec] at post
  refine eE_of he hh (fun z => by rw [z] at post; exact post) fun d1 M1 z ω1 H1 w1 le1 he1 hh1 r1 => ?_
  rw [z] at post
  dsimp only at post
  have post := PostS.mono post le1
  refine eE_of he1 hh1 (fun z => by rw [z] at post; exact post) fun d2 M2 z ω2 H2 w2 le2 he2 hh2 r2 => ?_
  rw [z] at post
  dsimp only at post
  have post := PostS.mono post le2
  refine ⟨by show 2 ≤ sizeLine; rw [sizeLine_eq]; decide, fun t ht => ?_⟩
  obtain ⟨hh3, le3⟩ := hh2.addI (o := .tup [w1, w2]) ht
  have post := PostS.mono post le3
  have he3 := he2.mono le3
  refine ⟨t, [w1, w2], rfl, .inl (.inl upd_same), rfl, w1, [w2], rfl, ?_⟩
  refine eE_of he3 hh3 (fun z => by rw [z] at post; exact post) fun d4 M4 z ω4 H4 w4 le4 he4 hh4 r4 => ?_
  rw [z] at post
  dsimp only at post
  have post := PostS.mono post le4
  refine eE_of he4 hh4 (fun z => by rw [z] at post; exact post) fun d5 M5 z ω5 H5 w5 le5 he5 hh5 r5 => ?_
  rw [z] at post
  dsimp only at post
  have post := PostS.mono post le5
  obtain ⟨u1, H6, k1, k2, M6, k3, post⟩ := putK_ok (σ := σ) hh5 (Rel.mono le5 _ _ r4) r5 (Rel.mono ((((le2.trans le3).trans le4).trans le5)) _ _ r1) post
  refine ⟨u1, H6, k1, k2, w2, [], rfl, ?_⟩
  refine eE_of he5 k3 (fun z => by rw [z] at post; exact post) fun d7 M7 z ω7 H7 w7 le7 he7 hh7 r7 => ?_
  rw [z] at post
  dsimp only at post
  have post := PostS.mono post le7
  refine eE_of he7 hh7 (fun z => by rw [z] at post; exact post) fun d8 M8 z ω8 H8 w8 le8 he8 hh8 r8 => ?_
  rw [z] at post
  dsimp only at post
  have post := PostS.mono post le8
  obtain ⟨u2, H9, j1, j2, M9, j3, post⟩ := putK_ok (σ := σ) hh8 (Rel.mono le8 _ _ r7) r8 (Rel.mono (((((le3.trans le4).trans le5)).trans le7).trans le8) _ _ r2) post
  exact ⟨u2, H9, j1, j2, rfl, post ω8 σ H9 (Le.refl _) he8 j3⟩

/-! ### targets of several kinds, op=, try/finally -/
def gAt (K : PySem.W.Frag) (to : TE) (f : Str) : TG := fun v σ H Q => to σ H fun x H1 => ∃ a C dx fs, x = .ref a ∧ H1 a = some (.ins C dx fs) ∧ Cls K C ∧ NoAttr K C f ∧ fs.length < 1000 ∧ Q σ (upd H1 a (.ins C dx (L2.putF f v fs)))
theorem pg_at {o : Expr} {f : Str} {px : Pos} {to : TE} (ho : PE Y o to) : PG Y (.Attribute o f px) (gAt Y.K to f) := by
  refine ⟨fun pins s σ H v u Q I r h => ?_⟩
  refine PySem.W.kas_attr (thn (ho.run pins s σ H _ I h) fun ov s1 ⟨x, H1, I1, rx, a, C, dx, fs, ex, ea, c, n, l, q⟩ => ?_)
  subst ex
  obtain rfl : ov = Value.ref a := rx
  exact setattr_ok I1 ea c n l r fun s3 I3 => ⟨σ, _, I3, q⟩
def gTs (G : Gs) (C : Ec) (ts : List Tg) : TGs := fun vs σ H Q => ∃ ω M env ds, EnvRel G ω env σ ∧ HRel G ω M H ∧ Rels G ω ds vs ∧ PostS G ω (stores C ts ds env M) { nx := Q, rt := fun _ _ => False }
theorem putA_ok (Oo : Ok G P ft k c Y) {x d : D} {w w3 : V} {f : Tx} {M : List O} {ω : Wd} {H : Hp} {D : Ends} {kk : List O → Out} (hh : HRel G ω M H) (rx : Rel G ω x w) (rd : Rel G ω d w3) (post : PostS G ω (putA (ecN P k) x f d M kk) D) :
    ∃ a C dx fs, w = .ref a ∧ H a = some (.ins C dx fs) ∧ Cls Y.K C ∧ NoAttr Y.K C (sS f) ∧ fs.length < 1000 ∧ ∃ M', HRel G ω M' (upd H a (.ins C dx (L2.putF (sS f) w3 fs))) ∧ PostS G ω (kk M') D := by
  unfold putA at post
  cases x with
  | ref a =>
    dsimp only at post
    rw [Rel] at rx
    obtain ⟨p, ep, e2⟩ := rx
    subst e2
    cases em : M[a]? with
    | none => rw [em] at post; exact False.elim post
    | some ob =>
      rw [em] at post
      cases ob with
      | ins i ks ds =>
        dsimp only at post
        cases ec : (ecN P k).cls[i]? with
        | none => rw [ec] at post; exact False.elim post
        | some cd =>
          rw [ec] at post
          dsimp only at post
          split at post
          · rename_i hb
            rw [Bool.and_eq_true, decide_eq_true_eq] at hb
            obtain ⟨p', ho, f1, f2, ⟨dx, vs, f3, f4, f5, f6⟩, _⟩ := hh.obj a _ em (fun z => nomatch z)
            rw [ep] at f1
            cases f1
            subst f3
            have cf := Oo.clf i cd ec
            obtain ⟨vs', q1, q2, q3⟩ := putF_ok (f := f) rd f5 f6
            refine ⟨p, _, dx, _, rfl, f2, by rw [Oo.hK]; exact cf.cls, by rw [Oo.hK]; exact cf.fld f (hasT_mem hb.1), Nat.lt_of_le_of_lt zipF_len (by omega), _, ?_, post⟩
            rw [q1]
            exact hh.setM em (fun z => nomatch z) ep ⟨dx, vs', rfl, f4, q3, q2⟩
          · exact False.elim post
      | _ => exact False.elim post
  | _ => exact False.elim post
theorem putL_ok {x y d : D} {w wy w3 : V} {M : List O} {ω : Wd} {H : Hp} {D : Ends} {kk : List O → Out} (hh : HRel G ω M H) (rx : Rel G ω x w) (ry : Rel G ω y wy) (rd : Rel G ω d w3) (post : PostS G ω (putL x y d M kk) D) :
    ∃ p vs i j, w = .ref p ∧ wy = .int i ∧ H p = some (.lst vs) ∧ ixN vs.length i = some j ∧ ∃ M', HRel G ω M' (upd H p (.lst (vs.set j w3))) ∧ PostS G ω (kk M') D := by
  unfold putL at post
  cases x with
  | ref a =>
    cases y with
    | int i =>
      dsimp only at post
      rw [Rel] at rx
      rw [Rel] at ry
      subst ry
      obtain ⟨p, ep, e2⟩ := rx
      subst e2
      cases em : M[a]? with
      | none => rw [em] at post; exact False.elim post
      | some ob =>
        rw [em] at post
        cases ob with
        | lst ds =>
          dsimp only at post
          cases ej : ixOf ds.length i with
          | none => rw [ej] at post; exact False.elim post
          | some j =>
            rw [ej] at post
            obtain ⟨p', ho, f1, f2, ⟨vs, f3, f4⟩, _⟩ := hh.obj a _ em (fun z => nomatch z)
            rw [ep] at f1
            cases f1
            subst f3
            exact ⟨p, vs, i, j, rfl, rfl, f2, by rw [← ixOf_eq, f4.length]; exact ej, M.set a (.lst (ds.set j d)), hh.setM em (fun z => nomatch z) ep ⟨_, rfl, Rels.set rd j f4⟩, post⟩
        | _ => exact False.elim post
    | _ => exact False.elim post
  | _ => exact False.elim post
theorem pgs_tg (O : Ok G P ft k c Y) : ∀ {ts : List Tg} {es : List Expr}, okTgs c ts es = true → PGs Y es (gTs G (ecN P k) ts)
  | [], [], _ => PGs.imp pgs_nil fun vs σ H Q q => by
    obtain ⟨ω, M, env, ds, he, hh, r, post⟩ := q
    cases ds with
    | nil =>
      rw [Rels] at r
      rw [stores] at post
      exact ⟨r, post ω σ H (Le.refl _) he hh⟩
    | cons d ds => exact False.elim post
  | [], _ :: _, h => by cases h
  | _ :: _, [], h => by cases h
  | t :: ts, e :: es, h => by
    rw [okTgs, Bool.and_eq_true] at h
    have rest := pgs_tg O h.2
    have nil0 : ∀ {Q : L2.St → Hp → Prop} {ω : Wd} {env : En} {M : List Ev.O}, PostS G ω (stores (ecN P k) (t :: ts) [] env M) { nx := Q, rt := fun _ _ => False } → False := fun post => by cases t <;> exact post
    cases t with
    | nm i =>
      cases e with
      | Name x p =>
        refine PGs.imp (pgs_cons (O.tgt h.1) rest rfl) fun vs σ H Q q => ?_
        obtain ⟨ω, M, env, ds, he, hh, r, post⟩ := q
        cases ds with
        | nil => exact (nil0 post).elim
        | cons d ds =>
          rw [Rels] at r
          obtain ⟨v, t, e1, r1, r2⟩ := r
          rw [stores] at post
          split at post
          · rename_i hl
            refine ⟨v, t, e1, ?_⟩
            show gTs G (ecN P k) ts t (σ.set i (some v)) H Q
            exact ⟨ω, M, env.set i (some d), ds, he.set r1 hl, hh, r2, post⟩
          · exact False.elim post
      | _ => cases h.1
    | «at» o f =>
      cases e with
      | Attribute eo n p =>
        have h1 := h.1
        rw [okTg, Bool.and_eq_true] at h1
        have ef := of_decide_eq_true h1.1
        subst ef
        refine PGs.imp (pgs_cons (pg_at (sndE o _ c eo Y O h1.2).pe) rest rfl) fun vs σ H Q q => ?_
        obtain ⟨ω, M, env, ds, he, hh, r, post⟩ := q
        cases ds with
        | nil => exact (nil0 post).elim
        | cons d ds =>
          rw [Rels] at r
          obtain ⟨v, t, e1, r1, r2⟩ := r
          rw [stores] at post
          refine ⟨v, t, e1, ?_⟩
          refine eE_of he hh (fun z => by rw [z] at post; exact post) fun d2 M2 z ω2 H2 w2 le2 he2 hh2 rr2 => ?_
          rw [z] at post
          dsimp only at post
          obtain ⟨a, C, dx, fs, g1, g2, g3, g4, g5, M', g6, g7⟩ := putA_ok O hh2 rr2 (Rel.mono le2 _ _ r1) (PostS.mono post le2)
          exact ⟨a, C, dx, fs, g1, g2, g3, g4, g5, ω2, M', env, ds, he2, g6, Rels.mono le2 _ _ r2, g7⟩
      | _ => cases h.1
    | sb o i =>
      cases e with
      | Subscript eo ei p =>
        have h1 := h.1
        rw [okTg, Bool.and_eq_true] at h1
        have hns : ∀ a b d p, ei ≠ .Slice a b d p := fun a b d p z => by
          have h3 := h1.2
          subst z
          rw [okE_slice] at h3
          cases h3
        refine PGs.imp (pgs_cons (pg_sub (sndE o _ c eo Y O h1.1).pe (sndE i _ c ei Y O h1.2).pe set_list (by cases ei <;> first | (intro _; rfl) | exact absurd rfl (hns _ _ _ _))) rest rfl) fun vs σ H Q q => ?_
        obtain ⟨ω, M, env, ds, he, hh, r, post⟩ := q
        cases ds with
        | nil => exact (nil0 post).elim
        | cons d ds =>
          rw [Rels] at r
          obtain ⟨v, t, e1, r1, r2⟩ := r
          rw [stores] at post
          refine ⟨v, t, e1, ?_⟩
          refine eE_of he hh (fun z => by rw [z] at post; exact post) fun d2 M2 z ω2 H2 w2 le2 he2 hh2 rr2 => ?_
          rw [z] at post
          dsimp only at post
          have post := PostS.mono post le2
          refine eE_of he2 hh2 (fun z => by rw [z] at post; exact post) fun d3 M3 z ω3 H3 w3 le3 he3 hh3 rr3 => ?_
          rw [z] at post
          dsimp only at post
          obtain ⟨a, vs', i', j, g1, g2, g3, g4, M', g6, g7⟩ := putL_ok hh3 (Rel.mono le3 _ _ rr2) rr3 (Rel.mono (le2.trans le3) _ _ r1) (PostS.mono post le3)
          exact ⟨a, vs', i', j, g1, g2, g3, g4, ω3, M', env, ds, he3, g6, Rels.mono (le2.trans le3) _ _ r2, g7⟩
      | _ => cases h.1
theorem okTgs_each : ∀ {ts : List Tg} {es : List Expr}, okTgs c ts es = true → ∀ (env : PySem.Env), (assignEach es env).length = ts.length ∧ (assignEach es env).findIdx? (·.1) = none
  | [], [], _, env => ⟨rfl, rfl⟩
  | [], _ :: _, h, _ => by cases h
  | _ :: _, [], h, _ => by cases h
  | t :: ts, e :: es, h, env => by
    rw [okTgs, Bool.and_eq_true] at h
    obtain ⟨a, b⟩ := okTgs_each h.2 env
    have key : ∃ g, assignEach (e :: es) env = (false, g) :: assignEach es env := by
      cases t <;> cases e <;> first | exact ⟨_, rfl⟩ | cases h.1
    obtain ⟨g, key⟩ := key
    rw [key]
    refine ⟨by rw [List.length_cons, List.length_cons, a], ?_⟩
    rw [List.findIdx?_cons, b]
    rfl
theorem putA_out {C : Ec} {x d : D} {f : Tx} {M : List O} {kk : List O → Out} : putA C x f d M kk = .er ∨ ∃ M', putA C x f d M kk = kk M' := by
  unfold putA
  split
  · split
    · split
      · split
        · exact .inr ⟨_, rfl⟩
        · exact .inl rfl
      · exact .inl rfl
    · exact .inl rfl
  · exact .inl rfl
theorem putL_out {x y d : D} {M : List O} {kk : List O → Out} : putL x y d M kk = .er ∨ ∃ M', putL x y d M kk = kk M' := by
  unfold putL
  split
  · split
    · split
      · exact .inr ⟨_, rfl⟩
      · exact .inl rfl
    · exact .inl rfl
  · exact .inl rfl
theorem stores_out {C : Ec} : ∀ (ts : List Tg) (ds : List D) (env : En) (M : List O), stores C ts ds env M = .er ∨ (ts.length = ds.length ∧ ∃ e m, stores C ts ds env M = .nx e m)
  | [], [], env, M => .inr ⟨rfl, env, M, rfl⟩
  | [], _ :: _, env, M => .inl rfl
  | t :: ts, [], env, M => .inl (by cases t <;> rfl)
  | t :: ts, d :: ds, env, M => by
    have up : ∀ {env M}, stores C ts ds env M = .er ∨ ((t :: ts).length = (d :: ds).length ∧ ∃ e m, stores C ts ds env M = .nx e m) := fun {env M} => by
      rcases stores_out ts ds env M with h | ⟨h1, h2⟩
      · exact .inl h
      · exact .inr ⟨by rw [List.length_cons, List.length_cons, h1], h2⟩
    cases t with
    | nm i =>
      rw [stores]
      split
      · exact up
      · exact .inl rfl
    | «at» o f =>
      rw [stores]
      split
      · rename_i x M1 _
        rcases putA_out (C := C) (x := x) (f := f) (d := d) (M := M1) (kk := fun M2 => stores C ts ds env M2) with h | ⟨M', h⟩
        · exact .inl h
        · rw [h]
          exact up
      · exact .inl rfl
    | sb o i =>
      rw [stores]
      cases ev C o env M with
      | er => exact .inl rfl
      | ex _ _ => exact .inl rfl
      | ok x M1 =>
        dsimp only
        cases ev C i env M1 with
        | er => exact .inl rfl
        | ex _ _ => exact .inl rfl
        | ok y M2 =>
          dsimp only
          rcases putL_out (x := x) (y := y) (d := d) (M := M2) (kk := fun M3 => stores C ts ds env M3) with h | ⟨M', h⟩
          · exact .inl h
          · rw [h]
            exact up
theorem ss_unx (O : Ok G P ft k c Y) {es : List Expr} {n : Nat} {px : Pos} {v : Expr} {e : X} {ts : List Tg} {pos : Pos} (A : Snd G (ecN P k) Y v e) (ht : okTgs c ts es = true) (h : notComp v = true) (hn : (notTup v || okFar (.Tuple es n px) v) = true) : PS Y (.Assign [.Tuple es n px] v pos) (tS G (ecN P k) (.unx ts e)) := by
  have hw : swappedStores [.Tuple es n px] v Y.env = pure none := by
    rw [Bool.or_eq_true] at hn
    rcases hn with hn | hn
    · cases v with
      | Tuple _ _ _ => cases hn
      | _ => rfl
    · exact far_ok hn
  obtain ⟨z1, z2⟩ := okTgs_each ht Y.env
  refine PS.imp (ps_asg A.pe (pg_tup O.calm (pgs_tg O ht) z1 z2) (notComp_sole h _ _ _) hw rfl) fun D σ H q => ?_
  obtain ⟨ω, M, env, he, hh, post⟩ := q
  rw [exec] at post
  refine eE_of he hh (fun z => by rw [z] at post; exact post) fun d M1 z ω1 H1 w le he1 hh1 r => ?_
  rw [z] at post
  cases d with
  | tup ds =>
    dsimp only at post
    rw [Rel] at r
    obtain ⟨p, vs, e1, e2, e3⟩ := r
    have post := PostS.mono post le
    rcases stores_out (C := ecN P k) ts ds env M1 with eo | ⟨hl, env2, M2, eo⟩
    · rw [eo] at post
      exact False.elim post
    · refine ⟨p, vs, e1, by rw [O.hK]; exact sqT_mono e2 hh1.imm, by rw [e3.length]; exact hl.symm, ω1, M1, env, ds, he1, hh1, e3, ?_⟩
      rw [eo] at post ⊢
      exact post
  | _ => exact False.elim post
theorem ss_aug (O : Ok G P ft k c Y) {x : Str} {px pos : Pos} {op : Operator} {v : Expr} {i : Nat} {o : BOp} {e : X} (A : Snd G (ecN P k) Y v e) (ht : c.tgt i x = true) (ho : okIp o op = true) : PS Y (.AugAssign (.Name x px) op v pos) (tS G (ecN P k) (.aug i o e)) := by
  unfold Ck.tgt at ht
  rw [Bool.and_eq_true] at ht
  have hi := of_decide_eq_true ht.1
  have h2 := ht.2
  rw [← O.hsc] at h2
  rw [← O.hN] at hi
  have nd : Y.N.Nodup := by rw [O.hN]; exact O.nd
  have key : ∀ (f : Int → Int → Int), PIp Y op (ipI f) → (∀ a b M, binop o (.int a) (.int b) M = .ok (.int (f a b)) M) → PS Y (.AugAssign (.Name x px) op v pos) (tS G (ecN P k) (.aug i o e)) := fun f hp hb => by
    have base : PS Y (.AugAssign (.Name x px) op v pos) (tAug i (tE G (ecN P k) e) (ipI f)) := by
      split at h2
      · rename_i e
        exact ps_aug nd hi (.inl e) A.pe hp (.inr e)
      · rename_i e
        exact ps_aug nd hi (.inr e) A.pe hp (.inl (O.fnv x h2))
      · cases h2
    refine PS.imp base fun D σ H q => ?_
    obtain ⟨ω, M, env, he, hh, post⟩ := q
    rw [exec] at post
    split at post
    · rename_i d ed
      obtain ⟨w, ew, rw_⟩ := he.val _ _ ed
      refine ⟨w, ew, ?_⟩
      refine eE_of he hh (fun z => by rw [z] at post; exact post) fun d2 M1 z ω1 H1 w1 le he1 hh1 r => ?_
      rw [z] at post
      dsimp only at post
      split at post
      · rename_i a b
        rw [hb] at post
        dsimp only at post
        have r1 := Rel.mono le _ _ rw_
        rw [Rel] at r1
        rw [Rel] at r
        refine ⟨a, b, r1, r, post ω1 _ H1 le (he1.set (d := .int (f a b)) (by rw [Rel]) ?_) hh1⟩
        obtain ⟨hl, _⟩ := List.getElem?_eq_some_iff.mp ed
        exact hl
      · exact False.elim post
    · exact False.elim post
  unfold okIp at ho
  split at ho
  · exact key _ ip_add fun a b M => rfl
  · exact key _ ip_sub fun a b M => rfl
  · cases ho
theorem ss_fin (O : Ok G P ft k c Y) {body fs : List Stmt} {f0 : Stmt} {b f : List S} {pos : Pos} (B : PSs Y.nox body (tSs G.dead (ecN P k) b)) (F : PSs Y (f0 :: fs) (tSs G (ecN P k) f)) : PS Y (.Try body [] [] (f0 :: fs) pos) (tS G (ecN P k) (.fin b f)) := by
  refine ⟨fun pins s σ H D I q => ?_⟩
  obtain ⟨ω, M, env, he, hh, post⟩ := q
  rw [exec] at post
  have first := B.run pins s σ H { nx := fun σ1 H1 => tSs G (ecN P k) f D σ1 H1, rt := fun _ _ => False } (I.wish _) ⟨ω, M, env, he, hh, by
    cases e1 : execs (ecN P k) b env M with
    | nx env1 M1 =>
      rw [e1] at post
      exact fun ω1 σ1 H1 le he1 hh1 => ⟨ω1, M1, env1, he1, hh1, PostS.mono post le⟩
    | _ =>
      rw [e1] at post
      exact False.elim post⟩
  refine wpAny_Try_finally (wpAny_mono first (fun g s1 hsp => ?_) fun _ _ z => z.elim)
  have hsp := hsp.unwish
  cases g with
  | ret u =>
    obtain ⟨_, _, _, _, _, q⟩ := hsp
    exact False.elim q
  | brk =>
    obtain ⟨_, _, _, q⟩ := hsp
    exact False.elim q
  | cont =>
    obtain ⟨_, _, _, q⟩ := hsp
    exact False.elim q
  | next =>
    obtain ⟨σ1, H1, I1, q1⟩ := hsp
    refine wpAny_execs_nil (wpAny_mono (F.run pins s1 σ1 H1 D I1 q1) (fun g s2 z => ?_) fun u t z => O.po u t z)
    cases g <;> exact z
theorem ss_rai (O : Ok G P ft k c Y) {i : Nat} {es : List X} {as : List Expr} {x : Str} {f : Option Str} {kw : Bool} {p pos pos' : Pos} (hx : c.xn[i]? = some (x, f)) (hg : c.gl x = true) (hd : (x == ("__debug__" : Str)) = false) (A : PA Y as (tEs G (ecN P k) es)) (hl : es.length = as.length)
    (hs : ∀ e r, as = e :: r → starEach (e :: r) Y.env = (false, eval e Y.env) :: starEach r Y.env ∧ (backTo pos (starEach r Y.env)).any (·.1) = false) : PS Y (.Raise (some (.Call (.Name x p) as [] pos)) none pos') (tS G (ecN P k) (.rai i kw es)) := by
  refine PS.imp (ps_raise O.calm O.tk (pm_x O hx hg hd A hl hs)) fun D σ H q => ?_
  obtain ⟨ω, M, env, he, hh, post⟩ := q
  rw [exec] at post
  refine ⟨ω, M, env, he, hh, ?_⟩
  cases e1 : evs (ecN P k) es env M with
  | er => rw [e1] at post; exact post
  | ex _ _ => rw [e1] at post; exact post
  | ok ds M1 =>
    rw [e1] at post
    dsimp only at post
    intro ω1 H1 vs le hh1 r
    refine ⟨ω1, M1, ds, hh1, r, ?_⟩
    replace post := PostS.mono post le
    unfold PXm
    have e9 : (ecN P k).exn = P.exn := rfl
    rw [e9] at post
    split at post
    · rename_i n f' d en
      first
        | exact post
        | (rw [en]; exact post)
    · rename_i n en
      first
        | exact post
        | (rw [en]; exact post)
    · exact False.elim post
mutual
theorem sndS : ∀ (s : S) (G : Gs) (c : Ck) (st : Stmt) (Y : L2.Cx), Ok G P ft k c Y → Y.env.scope.kind = .function → okS s c st = true → PS Y st (tS G (ecN P k) s)
  | .ex e, G, c, st, Y, O, hk, h => by
    cases st with
    | Expr v p =>
      rw [okS, Bool.and_eq_true] at h
      exact ss_ex (sndE e _ c v Y O h.1) h.2
    | _ => cases h
  | .asg i e, G, c, st, Y, O, hk, h => by
    cases st with
    | Assign ts v p =>
      match ts, h with
      | [t], h =>
        cases t with
        | Name x px =>
          rw [okS, Bool.and_eq_true, Bool.and_eq_true] at h
          exact ss_asg O (sndE e _ c v Y O h.2.1) h.1 h.2.2
        | _ => cases h
      | [], h => cases h
      | t :: _ :: _, h => cases t <;> cases h
    | _ => cases h
  | .asl i e, G, c, st, Y, O, hk, h => by
    cases st with
    | Assign ts v p =>
      match ts, h with
      | [t], h =>
        cases t with
        | Name x px =>
          cases v with
          | ListComp ee gs scope pos =>
            rw [okS] at h
            simp only [Bool.and_eq_true, beq_iff_eq] at h
            obtain ⟨⟨h1, h2⟩, h3, h4, h5⟩ := h
            exact ss_asl O (ps_lcset O (of_decide_eq_true h1) (of_decide_eq_true h2) h3 (by rw [h4]; exact beq_self_eq_true _) h5 hk)
          | _ => cases h
        | _ => cases h
      | [], h => cases h
      | t :: _ :: _, h => cases t <;> cases h
    | _ => cases h
  | .put o i e, G, c, st, Y, O, hk, h => by
    cases st with
    | Assign ts v p =>
      match ts, h with
      | [t], h =>
        cases t with
        | Subscript eo ei px =>
          rw [okS] at h
          simp only [Bool.and_eq_true] at h
          obtain ⟨h1, h2, h3, h4⟩ := h
          exact ss_put O (sndE e _ c v Y O h1) (sndE o _ c eo Y O h2) (sndE i _ c ei Y O h3) h4 fun a b d p z => by
            subst z
            rw [okE_slice] at h3
            cases h3
        | _ => cases h
      | [], h => cases h
      | t :: _ :: _, h => cases t <;> cases h
    | _ => cases h
  | .ret e, G, c, st, Y, O, hk, h => by
    cases st with
    | Return v p =>
      cases v with
      | some v =>
        have h : okE e c v = true := by
          cases e with
          | cst d => cases d <;> exact h
          | _ => exact h
        exact ss_ret (sndE e _ c v Y O h)
      | none =>
        cases e with
        | cst d =>
          cases d with
          | non => exact ss_retN
          | _ => cases h
        | _ => cases h
    | _ => cases e with
      | cst d => cases d <;> cases h
      | _ => cases h
  | .iff t a b, G, c, st, Y, O, hk, h => by
    cases st with
    | If et ea eb p =>
      rw [okS, Bool.and_eq_true, Bool.and_eq_true] at h
      exact ss_iff (sndE t _ c et Y O h.1) (sndSs a _ c ea Y O hk h.2.1) (sndSs b _ c eb Y O hk h.2.2)
    | _ => cases h
  | .for p kk its b, G, c, st, Y, O, hk, h => by
    cases st with
    | For tg it body els pos =>
      cases els with
      | nil =>
        rw [okS] at h
        simp only [Bool.and_eq_true] at h
        obtain ⟨h1, h2, h3⟩ := h
        cases ha : itArgs c kk tg it with
        | none => rw [ha] at h1; cases h1
        | some as =>
          rw [ha] at h1
          have h1 : okEs its c as = true := h1
          have B : ∀ y, kk = .val → its = [y] → okE y c it = true := fun y z1 z2 => by
            subst z1 z2
            cases ha
            rw [okEs, Bool.and_eq_true] at h1
            exact h1.1
          have hf : ∀ v, foldedSetIterable it Y.env v = pure v := fun v => by
            cases kk with
            | val =>
              obtain ⟨y, rfl⟩ := len1 (show its.length = 1 by rw [okEs_len h1]; cases ha; rfl)
              exact ok_fold (B y rfl rfl) Y.env v
            | _ =>
              cases it with
              | Set _ _ _ => cases tg <;> cases ha
              | _ => rfl
          have pi := pi_ok O ha h1 (sndEs its _ c as Y O h1).pa fun y z1 z2 => (sndE y _ c it Y O (B y z1 z2)).pe
          exact ss_for O pi (pg_ok O h2) (sndSs b _ c body Y O hk h3) hf
      | cons _ _ => cases h
    | _ => cases h
  | .forg p kk its b, G, c, st, Y, O, hk, h => by
    cases st with
    | For tg it body els pos =>
      cases els with
      | nil =>
        rw [okS] at h
        simp only [Bool.and_eq_true] at h
        obtain ⟨h1, h2, h3⟩ := h
        cases ha : itArgs c kk tg it with
        | none => rw [ha] at h1; cases h1
        | some as =>
          rw [ha] at h1
          have h1 : okEs its c as = true := h1
          have B : ∀ y, kk = .val → its = [y] → okE y c it = true := fun y z1 z2 => by
            subst z1 z2
            cases ha
            rw [okEs, Bool.and_eq_true] at h1
            exact h1.1
          have hf : ∀ v, foldedSetIterable it Y.env v = pure v := fun v => by
            cases kk with
            | val =>
              obtain ⟨y, rfl⟩ := len1 (show its.length = 1 by rw [okEs_len h1]; cases ha; rfl)
              exact ok_fold (B y rfl rfl) Y.env v
            | _ =>
              cases it with
              | Set _ _ _ => cases tg <;> cases ha
              | _ => rfl
          have pi := pi_ok O ha h1 (sndEs its _ c as Y O h1).pa fun y z1 z2 => (sndE y _ c it Y O (B y z1 z2)).pe
          exact ss_forg O pi (pg_ok O h2) (sndSs b _ c body Y O hk h3) hf
      | cons _ _ => cases h
    | _ => cases h
  | .gcs s, G, c, st, Y, O, hk, h => ss_gcs (sndS s G c st Y O hk (by rw [okS] at h; exact h))
  | .whl t b, G, c, st, Y, O, hk, h => by
    cases st with
    | While et body els p =>
      cases els with
      | nil =>
        rw [okS, Bool.and_eq_true] at h
        exact ss_whl O (sndE t _ c et Y O h.1) (sndSs b _ c body Y O hk h.2)
      | cons _ _ => cases h
    | _ => cases h
  | .atr o f e, G, c, st, Y, O, hk, h => by
    cases st with
    | Assign ts v p =>
      match ts, h with
      | [t], h =>
        cases t with
        | Attribute eo n px =>
          rw [okS] at h
          simp only [Bool.and_eq_true] at h
          obtain ⟨h1, h2, h3, h4⟩ := h
          have ef := of_decide_eq_true h1
          subst ef
          exact ss_atr O (sndE e _ c v Y O h2) (sndE o _ c eo Y O h3) h4
        | _ => cases h
      | [], h => cases h
      | t :: _ :: _, h => cases t <;> cases h
    | _ => cases h
  | .una is e, G, c, st, Y, O, hk, h => by
    cases st with
    | Assign ts v p =>
      match ts, h with
      | [tg], h =>
        rw [okS] at h
        simp only [Bool.and_eq_true] at h
        obtain ⟨h1, h2, h3, h4⟩ := h
        cases hn : notTup v with
        | true =>
          refine ss_una O (sndE e _ c v Y O h2) h1 h3 ?_
          cases v with
          | Tuple _ _ _ => cases hn
          | _ => cases tg <;> rfl
        | false =>
          rw [hn, Bool.false_or, Bool.or_eq_true, Bool.and_eq_true, Bool.or_eq_true, Bool.or_eq_true] at h4
          rcases h4 with h4 | ⟨h5, h4 | h4 | h4⟩
          · exact ss_una O (sndE e _ c v Y O h2) h1 h3 (far_ok h4)
          · exact ss_swap O hk h5 h2 h4
          · exact ss_una O (sndE e _ c v Y O h2) h1 h3 (nosw_ok O h5 h2 h4)
          · exact ss_swap3 O hk h5 h2 h4
      | [], h => cases h
      | t :: _ :: _, h => cases h
    | _ => cases h
  | .uns i j e, G, c, st, Y, O, hk, h => by
    cases st with
    | Assign ts v p =>
      match ts, h with
      | [tg], h =>
        rw [okS] at h
        simp only [Bool.and_eq_true] at h
        obtain ⟨h1, h2, h3, h4⟩ := h
        obtain ⟨x, px, ps, y, py, kt, pt, rfl, g1, g2⟩ := okStar_ok h1
        exact ss_uns O (sndE e _ c v Y O h2) g1 g2 h3 h4
      | [], h => cases h
      | t :: _ :: _, h => cases h
    | _ => cases h
  | .unx ts e, G, c, st, Y, O, hk, h => by
    cases st with
    | Assign tt v p =>
      match tt, h with
      | [t], h =>
        cases t with
        | Tuple es n px =>
          rw [okS] at h
          simp only [Bool.and_eq_true] at h
          obtain ⟨h1, h2, h3, h4⟩ := h
          exact ss_unx O (sndE e _ c v Y O h2) h1 h3 h4
        | _ => cases h
      | [], h => cases h
      | t :: _ :: _, h => cases t <;> cases h
    | _ => cases h
  | .aug i o e, G, c, st, Y, O, hk, h => by
    cases st with
    | AugAssign t op v p =>
      cases t with
      | Name x px =>
        rw [okS] at h
        simp only [Bool.and_eq_true] at h
        obtain ⟨h1, h2, h3⟩ := h
        exact ss_aug O (sndE e _ c v Y O h3) h1 h2
      | _ => cases h
    | _ => cases h
  | .fin b f, G, c, st, Y, O, hk, h => by
    cases st with
    | Try body hs els fi p =>
      cases hs with
      | nil =>
        cases els with
        | nil =>
          cases fi with
          | cons f0 fs =>
            rw [okS, Bool.and_eq_true] at h
            exact ss_fin O (sndSs b _ c.nowy body _ O.nox hk h.1) (sndSs f _ c (f0 :: fs) Y O hk h.2)
          | nil => cases h
        | cons _ _ => cases h
      | cons _ _ => cases h
    | _ => cases h
  | .putk o i e, G, c, st, Y, O, hk, h => by
    cases st with
    | Assign ts v p =>
      match ts, h with
      | [t], h =>
        cases t with
        | Subscript eo ek px =>
          rw [okS] at h
          simp only [Bool.and_eq_true] at h
          obtain ⟨h1, h2, h3, h4⟩ := h
          exact ss_putk O (sndE e _ c v Y O h1) (sndE o _ c eo Y O h2) (sndE i _ c ek Y O h3) h4
        | _ => cases h
      | [], h => cases h
      | t :: _ :: _, h => cases t <;> cases h
    | _ => cases h
  | .putk2 o i p q a b, G, c, st, Y, O, hk, h => by
    obtain ⟨eo, ek, p1, ep, eq, p2, n, p3, ea, eb, m, p4, pos, rfl, h1, h2, h3, h4, h5, h6⟩ := putk2_form h
    refine ss_putk2 O hk (sndE a _ c ea Y O h1) (sndE b _ c eb Y O h2) (sndE o _ c eo Y O h3) (sndE i _ c ek Y O h4) (sndE p _ c ep Y O h5) (sndE q _ c eq Y O h6) (fun es env => ok_star h1 es env) (fun es env => ok_star h2 es env) (fun v p z => by subst z; rw [okE_star] at h1; cases h1) (fun v p z => by subst z; rw [okE_star] at h2; cases h2) ?_ ?_
    · intro a b d p z
      subst z
      rw [okE_slice] at h4
      cases h4
    · intro a b d p z
      subst z
      rw [okE_slice] at h6
      cases h6
  | .never, G, c, st, Y, O, hk, h => PS.imp ps_never fun D σ H q => by
    obtain ⟨ω, M, env, he, hh, post⟩ := q
    rw [exec] at post
    exact post
  | .rai i kw es, G, c, st, Y, O, hk, h => by
    cases st with
    | Raise e fr p =>
      match e, fr, h with
      | some (.Call (.Name x px) as [] pos), none, h =>
        rw [okS] at h
        simp only [Bool.and_eq_true, beq_iff_eq] at h
        obtain ⟨h0, h1, h2, h3, h4⟩ := h
        split at h1
        · rename_i y f ey
          have e1 := of_decide_eq_true h1
          subst e1
          exact ss_rai O ey h2 h3 (sndEs es _ c as Y O h4).pa (okEs_len h4) (arg_side h4)
        · cases h1
    | _ => cases h
theorem sndSs : ∀ (ss : List S) (G : Gs) (c : Ck) (sts : List Stmt) (Y : L2.Cx), Ok G P ft k c Y → Y.env.scope.kind = .function → okSs ss c sts = true → PSs Y sts (tSs G (ecN P k) ss)
  | [], G, c, sts, Y, O, hk, h => by
    cases sts with
    | nil => exact sss_nil
    | cons _ _ => cases h
  | s :: ss, G, c, sts, Y, O, hk, h => by
    cases sts with
    | nil => cases h
    | cons st sts =>
      rw [okSs, Bool.and_eq_true] at h
      exact sss_cons (sndS s _ c st Y O hk h.1) (sndSs ss _ c sts Y O hk h.2)
end
end
end Ev


set_option autoImplicit false
set_option Elab.async false
set_option linter.all false
set_option maxRecDepth 100000
set_option maxHeartbeats 4000000
/-! EwE: how arguments are bound. -/
namespace Ev
open PySem PySem.Spec PyProof.Rows L2 RZ EvCall
abbrev KD (G : G0) (ω : Wd) (a : List (Tx × D)) (b : List (Str × V)) : Prop := Paired (fun (p : Tx × D) (q : Str × V) => sS p.1 = q.1 ∧ Rel G ω p.2 q.2) a b
section
variable {G : G0} {ω : Wd}
theorem KD.append {a c : List (Tx × D)} {b d : List (Str × V)} (h : KD G ω a b) (k : KD G ω c d) : KD G ω (a ++ c) (b ++ d) := by
  induction h with
  | nil => exact k
  | cons r t ih => exact .cons r ih
theorem KD.one {k : Tx} {d : D} {v : V} (r : Rel G ω d v) : KD G ω [(k, d)] [(sS k, v)] := .cons ⟨rfl, r⟩ .nil
theorem KD.zip : ∀ (ns : List Tx) {ds : List D} {vs : List V}, Rels G ω ds vs → KD G ω (ns.zip ds) ((ns.map sS).zip vs)
  | [], ds, vs, _ => by simpa using Paired.nil
  | n :: ns, [], vs, r => by
    rw [Rels] at r
    subst r
    exact .nil
  | n :: ns, d :: ds, vs, r => by
    rw [Rels] at r
    obtain ⟨v, t, e, a, b⟩ := r
    subst e
    exact .cons ⟨rfl, a⟩ (KD.zip ns b)
theorem str_beq (f k : Tx) : (sS f == sS k) = txEq k f := by
  rw [txEq_str]
  cases h : txEq k f with
  | true => rw [txEq_iff.mp h]; exact txEq_iff.mpr rfl
  | false =>
    cases h2 : txEq f k with
    | false => rfl
    | true => rw [txEq_iff.mp h2, txEq_iff.mpr rfl] at h; cases h
theorem KD.look {a : List (Tx × D)} {b : List (Str × V)} (h : KD G ω a b) (f : Tx) : (∀ d, look a f = some d → ∃ v, b.lookup (sS f) = some v ∧ Rel G ω d v) ∧ (look a f = none → b.lookup (sS f) = none) := by
  induction h with
  | nil => exact ⟨fun d z => (nomatch z), fun _ => rfl⟩
  | @cons p q a b r t ih =>
    obtain ⟨k, e⟩ := p
    obtain ⟨k2, v⟩ := q
    obtain ⟨r1, r2⟩ := r
    have r1 : sS k = k2 := r1
    subst r1
    rw [Ev.look, List.lookup, str_beq]
    cases c : txEq k f with
    | true => exact ⟨fun d z => by cases z; exact ⟨v, rfl, r2⟩, fun z => nomatch z⟩
    | false => exact ih
theorem hasT_str (k : Tx) : ∀ ps : List Tx, (ps.map sS).contains (sS k) = hasT ps k
  | [] => rfl
  | p :: ps => by
    rw [List.map_cons, List.contains_cons, hasT_str k ps, hasT, str_beq]
theorem KD.names {a : List (Tx × D)} {b : List (Str × V)} (h : KD G ω a b) : b.map (·.1) = a.map fun p => sS p.1 := by
  induction h with
  | nil => rfl
  | cons r t ih => rw [List.map_cons, List.map_cons, ih, r.1]
theorem kw_ok {ps : List Tx} {kwa : Bool} {kws : List (Tx × D)} {kV : List (Str × V)} (hk : KD G ω kws kV) : ∀ {sl ex sl' ex' : List (Tx × D)} {slV exV : List (Str × V)}, KD G ω sl slV → KD G ω ex exV → (exV.map (·.1)).Nodup → kwWalk ps kwa kws sl ex = some (sl', ex') →
    ∃ slV' exV', kwF (ps.map sS) kwa kV slV exV = some (slV', exV') ∧ KD G ω sl' slV' ∧ KD G ω ex' exV' ∧ (exV'.map (·.1)).Nodup ∧ exV'.length ≤ exV.length + kws.length := by
  induction hk with
  | nil =>
    intro sl ex sl' ex' slV exV h1 h2 hn h
    cases h
    exact ⟨slV, exV, rfl, h1, h2, hn, Nat.le_add_right _ _⟩
  | @cons p q a b r t ih =>
    intro sl ex sl' ex' slV exV h1 h2 hn h
    obtain ⟨k, e⟩ := p
    obtain ⟨k2, v⟩ := q
    obtain ⟨r1, r2⟩ := r
    have r1 : sS k = k2 := r1
    subst r1
    rw [kwWalk] at h
    rw [kwF, hasT_str]
    cases hc : hasT ps k with
    | true =>
      rw [hc] at h
      simp only [if_true] at h ⊢
      obtain ⟨l1, l2⟩ := h1.look k
      cases hl : Ev.look sl k with
      | some d => rw [hl] at h; cases h
      | none =>
        rw [hl] at h
        rw [l2 hl]
        obtain ⟨s', e', q1, q2, q3, q4, q5⟩ := ih (h1.append (KD.one (k := k) r2)) h2 hn h
        exact ⟨s', e', by simpa using q1, q2, q3, q4, by rw [List.length_cons]; omega⟩
    | false =>
      rw [hc] at h
      simp only [Bool.false_eq_true, if_false] at h ⊢
      cases kwa with
      | false => cases h
      | true =>
        simp only [if_true] at h ⊢
        cases ha : ex.any (fun p => txEq p.1 k) with
        | true => rw [ha] at h; cases h
        | false =>
          rw [ha] at h
          simp only [Bool.false_eq_true, if_false] at h
          have nn : sS k ∉ exV.map (·.1) := fun z => by
            rw [h2.names] at z
            obtain ⟨p, hp, ep⟩ := List.mem_map.mp z
            have := List.any_eq_false.mp ha p hp
            exact this (txEq_iff.mpr (sS_inj.mp ep))
          have hn2 : ((exV ++ [(sS k, v)]).map (·.1)).Nodup := by
            rw [List.map_append]
            refine List.nodup_append.mpr ⟨hn, by simp, fun x hx y hy => ?_⟩
            have : y = sS k := by simpa using hy
            subst this
            exact fun z => nn (z ▸ hx)
          obtain ⟨s', e', q1, q2, q3, q4, q5⟩ := ih h1 (h2.append (KD.one (k := k) r2)) hn2 h
          refine ⟨s', e', q1, q2, q3, q4, ?_⟩
          rw [List.length_append, List.length_singleton] at q5
          rw [List.length_cons]
          omega
theorem fill_look {α : Type} {dv : Str → α} : ∀ {ns : List Str} {sl : List (Str × α)} {n : Str}, (∀ v, sl.lookup n = some v → (fillK dv ns sl).lookup n = some v) ∧ (sl.lookup n = none → n ∈ ns → (fillK dv ns sl).lookup n = some (dv n))
  | [], sl, n => ⟨fun v h => h, fun _ z => nomatch z⟩
  | m :: ns, sl, n => by
    have la : ∀ (l : List (Str × α)) (q : Str × α) (x : Str), (l ++ [q]).lookup x = match l.lookup x with
      | some v => some v
      | none => if x == q.1 then some q.2 else none := by
      intro l q x
      induction l with
      | nil =>
        obtain ⟨a, b⟩ := q
        simp only [List.nil_append, List.lookup_cons, List.lookup_nil]
        cases x == a <;> rfl
      | cons p l ih =>
        obtain ⟨a, b⟩ := p
        rw [List.cons_append, List.lookup, List.lookup, ih]
        cases x == a <;> rfl
    rw [fillK]
    cases hm : (sl.lookup m).isNone with
    | false =>
      simp only [Bool.false_eq_true, if_false]
      obtain ⟨i1, i2⟩ := fill_look (dv := dv) (ns := ns) (sl := sl) (n := n)
      refine ⟨i1, fun h z => ?_⟩
      rcases List.mem_cons.mp z with rfl | z
      · rw [h] at hm; cases hm
      · exact i2 h z
    | true =>
      simp only [if_true]
      obtain ⟨i1, i2⟩ := fill_look (dv := dv) (ns := ns) (sl := sl ++ [(m, dv m)]) (n := n)
      refine ⟨fun v h => i1 v (by rw [la, h]), fun h z => ?_⟩
      by_cases e : n = m
      · subst e
        exact i1 _ (by rw [la, h]; simp)
      · rcases List.mem_cons.mp z with z | z
        · exact absurd z e
        · exact i2 (by rw [la, h]; simp [e]) z
theorem take_ok {sl : List (Tx × D)} {slV : List (Str × V)} {dv : Str → V} {ns : List Str} (h : KD G ω sl slV) : ∀ {ps : List Tx} {xs : List D}, takeAll sl ps = some xs → (∀ n ∈ ps.map sS, (slV.lookup n).isNone = false) ∧ Rels G ω xs (pick (fillK dv ns slV) (ps.map sS)) ∧ xs.length = ps.length
  | [], xs, e => by
    cases e
    exact ⟨fun n z => (nomatch z), Rels.nil, rfl⟩
  | p :: ps, xs, e => by
    rw [takeAll] at e
    cases e1 : Ev.look sl p with
    | none => rw [e1] at e; cases e
    | some d =>
      cases e2 : takeAll sl ps with
      | none => rw [e1, e2] at e; cases e
      | some ds =>
        rw [e1, e2] at e
        cases e
        obtain ⟨i1, i2, i3⟩ := take_ok (dv := dv) (ns := ns) h e2
        obtain ⟨v, l1, l2⟩ := (h.look p).1 d e1
        refine ⟨fun n hn => ?_, ?_, by rw [List.length_cons, List.length_cons, i3]⟩
        · rcases List.mem_cons.mp hn with rfl | hn
          · rw [l1]; rfl
          · exact i1 n hn
        · unfold pick at i2 ⊢
          rw [List.map_cons, List.filterMap_cons, (fill_look (dv := dv) (ns := ns)).1 v l1]
          exact Rels.cons l2 i2
theorem takeK_ok {sl : List (Tx × D)} {slV : List (Str × V)} {dv : Str → V} {ns : List Str} (h : KD G ω sl slV) : ∀ {ps : List (Tx × D)}, (∀ p ∈ ps, sS p.1 ∈ ns ∧ Rel G ω p.2 (dv (sS p.1))) → Rels G ω (takeKw sl ps) (pick (fillK dv ns slV) (ps.map fun p => sS p.1)) ∧ (takeKw sl ps).length = ps.length
  | [], _ => ⟨Rels.nil, rfl⟩
  | (p, d) :: ps, hd => by
    obtain ⟨i1, i2⟩ := takeK_ok (dv := dv) (ns := ns) h (ps := ps) fun q hq => hd q (List.mem_cons_of_mem _ hq)
    obtain ⟨m1, m2⟩ := hd (p, d) List.mem_cons_self
    rw [takeKw]
    refine ⟨?_, by rw [List.length_cons, List.length_cons, i2]⟩
    unfold pick at i1 ⊢
    rw [List.map_cons, List.filterMap_cons]
    cases e : Ev.look sl p with
    | none =>
      rw [(fill_look (dv := dv) (ns := ns)).2 ((h.look p).2 e) m1]
      exact Rels.cons m2 i1
    | some d' =>
      obtain ⟨v, l1, l2⟩ := (h.look p).1 d' e
      rw [(fill_look (dv := dv) (ns := ns)).1 v l1]
      exact Rels.cons l2 i1
theorem KD.vals {a : List (Tx × D)} {b : List (Str × V)} (h : KD G ω a b) : Rels G ω (a.map (·.2)) (b.map (·.2)) ∧ txK b = kvsOf (a.map fun p => D.str p.1) (b.map (·.2)) := by
  induction h with
  | nil => exact ⟨Rels.nil, rfl⟩
  | @cons p q a b r t ih =>
    refine ⟨Rels.cons r.2 ih.1, ?_⟩
    show (Sum.inr q.1, q.2) :: txK b = (kk (.str p.1), q.2) :: kvsOf _ _
    rw [ih.2, ← r.1]
    rfl
theorem keys_str2 (a : List (Tx × D)) : keysOk (a.map fun p => D.str p.1) = true := by
  have := keys_str (a.map (·.1))
  rw [List.map_map] at this
  exact this
end
/-- what a body promises -/
def bodyR (P : Pg) (k : Nat) (fd : FD) (xs : List D) (M : List O) : Rs D := match execs (ecN P k) fd.body (xs.map some ++ List.replicate (fd.ns - xs.length) none) M with
  | .nx _ M2 => .ok .non M2
  | .rt d M2 => .ok d M2
  | .ex d M2 => .ex d M2
  | _ => .er
def spB (G : G0) (P : Pg) (k : Nat) (fd : FD) : Sp := fun vs H Q E => ∃ ω M xs, HRel G ω M H ∧ Rels G ω xs vs ∧ xs.length ≤ fd.ns ∧ PostE ⟨G, E⟩ ω (bodyR P k fd xs M) Q
theorem callN_eq {P : Pg} {k f : Nat} {fd : FD} {ds : List D} {kws : List (Tx × D)} {M : List O} (h : P.fns[f]? = some fd) : callN P (k + 1) f ds kws M = (bindD fd ds kws M).bind fun xs M1 => bodyR P k fd xs M1 := by
  show callOf P (mkC P (lvl P k)) f ds kws M = _
  unfold callOf
  rw [h]
  rfl
def nArgs (fd : FD) : Nat := fd.pos.length + fd.kwo.length + ((if fd.va then 1 else 0) + (if fd.kwa then 1 else 0))
theorem bind_sp {G : G0} {P : Pg} {k f : Nat} {fd : FD} {dv : Str → V} {vs zs : List V} {ks : List Str} {H : Hp} {Q : VK} {E : XK} (hf : P.fns[f]? = some fd) (hns : nArgs fd ≤ fd.ns) (hdv : ∀ p ∈ fd.kwo, ∀ ω, Rel G ω p.2 (dv (sS p.1))) (h : spC G P (k + 1) f vs ks zs H Q E) :
    SpOf (fd.pos.map sS) (fd.kwo.map fun p => sS p.1) fd.va fd.kwa dv (spB G P k fd) vs ks zs H Q E := by
  obtain ⟨ω, M, ds, kn, kds, hh, r, e1, hl, rk, post⟩ := h
  subst e1
  rw [callN_eq hf] at post
  unfold bindD at post
  cases hw : kwWalk (fd.pos ++ fd.kwo.map (·.1)) fd.kwa (kn.zip kds) (fd.pos.zip ds) [] with
  | none => rw [hw] at post; exact False.elim post
  | some q =>
    obtain ⟨sl, ex⟩ := q
    rw [hw] at post
    dsimp only at post
    cases ht : takeAll sl fd.pos with
    | none => rw [ht] at post; exact False.elim post
    | some xs =>
      rw [ht] at post
      dsimp only at post
      by_cases hb : ((decide (ds.length ≤ fd.pos.length) || fd.va) && decide (ds.length ≤ lim) && decide ((kn.zip kds).length ≤ lim)) = true
      case neg => rw [if_neg hb] at post; exact False.elim post
      case pos =>
        rw [if_pos hb] at post
        rw [Bool.and_eq_true, Bool.and_eq_true, decide_eq_true_eq, decide_eq_true_eq] at hb
        obtain ⟨⟨hb1, hb2⟩, hb3⟩ := hb
        have KZ : KD G ω (kn.zip kds) ((kn.map sS).zip zs) := KD.zip kn rk
        obtain ⟨slV, exV, q1, q2, q3, q4, q5⟩ := kw_ok KZ (KD.zip fd.pos r) Paired.nil List.nodup_nil hw
        have lim' := lim_le
        have epn : (fd.pos ++ fd.kwo.map (·.1)).map sS = fd.pos.map sS ++ fd.kwo.map fun p => sS p.1 := by
          rw [List.map_append, List.map_map]
          rfl
        rw [epn] at q1
        obtain ⟨t1, t2, t3⟩ := take_ok (dv := dv) (ns := fd.kwo.map fun p => sS p.1) q2 ht
        obtain ⟨u1, u2⟩ := takeK_ok (dv := dv) (ns := fd.kwo.map fun p => sS p.1) q2 (ps := fd.kwo) fun p hp => ⟨List.mem_map_of_mem hp, hdv p hp ω⟩
        have ep : pick (fillK dv (fd.kwo.map fun p => sS p.1) slV) (fd.pos.map sS ++ fd.kwo.map fun p => sS p.1) = pick (fillK dv (fd.kwo.map fun p => sS p.1) slV) (fd.pos.map sS) ++ pick (fillK dv (fd.kwo.map fun p => sS p.1) slV) (fd.kwo.map fun p => sS p.1) := by
          unfold pick
          rw [List.filterMap_append]
        have rr := t2.append u1
        rw [← ep] at rr
        refine ⟨slV, exV, ?_, q1, t1, ?_, ?_, q4, ?_, ?_, fun tl H2 hT => ?_⟩
        · rw [List.length_map, rk.length, hl]
        · rw [r.length, List.length_map]
          rw [Bool.or_eq_true, decide_eq_true_eq] at hb1
          exact hb1
        · have : exV.length ≤ (kn.zip kds).length := by simpa using q5
          omega
        · rw [List.length_drop, r.length]
          omega
        · rw [rr.length, List.length_append, t3, u2, List.length_append, List.length_map, List.length_map]
        · unfold nArgs at hns
          cases hva : fd.va with
          | false =>
            cases hkw : fd.kwa with
            | false =>
              rw [hva, hkw] at hT post hns
              obtain ⟨rfl, rfl⟩ := hT
              simp only [Bool.false_eq_true, if_false, List.append_nil] at post hns
              rw [List.append_nil]
              exact ⟨ω, M, _, hh, rr, by rw [List.length_append, t3, u2]; omega, post⟩
            | true =>
              rw [hva, hkw] at hT post hns
              obtain ⟨q, od, hq, rfl, rfl⟩ := hT
              simp only [Bool.false_eq_true, if_false, if_true, List.append_nil] at post hns
              obtain ⟨hh2, le2⟩ := hh.addI (o := .frz od (.dK (txK exV))) hq
              obtain ⟨k1, k2⟩ := q3.vals
              refine ⟨_, M, _, hh2, (Rels.mono le2 _ _ rr).append (Rels.one ?_), by rw [List.length_append, List.length_append, t3, u2, List.length_singleton]; omega, Post.mono post le2⟩
              rw [Rel]
              refine ⟨q, od, exV.map (·.2), rfl, ?_, keys_str2 ex, by rw [List.length_map, List.length_map], Rels.mono le2 _ _ k1⟩
              rw [← k2]
              exact upd_same
          | true =>
            cases hkw : fd.kwa with
            | false =>
              rw [hva, hkw] at hT post hns
              obtain ⟨q, hq, rfl, rfl⟩ := hT
              simp only [Bool.false_eq_true, if_false, if_true] at post hns
              obtain ⟨hh2, le2⟩ := hh.addI (o := .tup (vs.drop (fd.pos.map sS).length)) hq
              refine ⟨_, M, _, hh2, (Rels.mono le2 _ _ rr).append (Rels.one ?_), by rw [List.length_append, List.length_append, t3, u2, List.length_singleton]; omega, Post.mono post le2⟩
              rw [Rel]
              refine ⟨q, _, rfl, .inl (.inl upd_same), ?_⟩
              have z : Rels G ω (ds.drop fd.pos.length) (vs.drop (fd.pos.map sS).length) := by
                rw [List.length_map]
                exact r.drop _
              exact Rels.mono le2 _ _ z
            | true =>
              rw [hva, hkw] at hT
              exact hT.elim
end Ev


set_option autoImplicit false
set_option Elab.async false
set_option linter.all false
set_option maxRecDepth 100000
set_option maxHeartbeats 4000000
/-! EvN: defs, the law's end. -/
namespace Ev
open PySem PySem.Spec PyProof.Rows L2 RZ EvCall
abbrev Fq := PySem.W.Frag
/-- a def of the text: its name at the module's level if it has one, where it lies -/
structure Fs where
  name : Str
  gname : Str
  qual : Str
  st : Stmt
  N : List Str
  adr : Fq → Addr
def scB (N ps : List Str) (sc : Scope) : Bool := decide (sc.kind = .function) && (sc.isCoroutine == false && (sc.isGenerator == false && (decide N.Nodup && (decide (N.take ps.length = ps) &&
  ((ps.all fun x => match sc.names.lookup x with
    | some .local => true
    | some .cell => true
    | _ => false) && sc.names.all fun y => decide (y.2 ≠ .free))))))
theorem scB_ok {N ps : List Str} {sc : Scope} (h : scB N ps sc = true) : FnScope N ps sc := by
  unfold scB at h
  simp only [Bool.and_eq_true, decide_eq_true_eq, beq_iff_eq, List.all_eq_true] at h
  obtain ⟨h1, h2, h3, h4, h5, h6, h7⟩ := h
  refine ⟨h1, h2, h3, h4, h5, fun x hx => ?_, fun y hy => h7 y hy⟩
  have q := h6 x hx
  split at q
  · exact .inl (by assumption)
  · exact .inr (by assumption)
  · cases q
/-- what the checker knows of the module -/
structure Nm where
  fn : List Str
  xn : List (Str × Option Str)
  cn : List Str
  gn : List Str
def ckOf (s : Fs) (n : Nm) : Ck := ⟨s.N, defScope s.st, fun _ => true, n.fn, n.xn, n.cn, n.gn, fun _ _ => false⟩
def vOf : D → V
  | .bl b => .bl b
  | .int i => .int i
  | .str s => .str (sS s)
  | _ => .non
def flat1 : D → Bool
  | .non => true | .bl _ => true | .int _ => true | .str _ => true | _ => false
theorem vOf_ok {G : G0} {ω : Wd} {d : D} (h : flat1 d = true) : Rel G ω d (vOf d) := by
  cases d with
  | non => rw [Rel]; rfl
  | bl b => rw [Rel]; rfl
  | int i => rw [Rel]; rfl
  | str s => rw [Rel]; rfl
  | _ => cases h
/-- the parameters -/
def argB (fd : FD) (sc : Scope) (N : List Str) : Arguments → Bool
  | ⟨[], as, va, kos, _, kwa, []⟩ => decide (as.map (·.arg) = fd.pos.map sS) && (decide (kos.map (·.arg) = fd.kwo.map fun p => sS p.1) && ((va.isSome == fd.va) && ((kwa.isSome == fd.kwa) && ((fd.va && fd.kwa) == false && ((decide (fd.kwo.map (fun p => sS p.1)).Nodup &&
    scB N (as.map (fun x : Arg => x.arg) ++ kos.map (fun x : Arg => x.arg) ++ (vaN va ++ vaN kwa)) sc))))))
  | _ => false
def okF (n : Nm) (s : Fs) (fd : FD) : Bool := argB fd (defScope s.st) s.N (defArgs s.st) && (decide (fd.ns = s.N.length) && okSs fd.body (ckOf s n) (defBody s.st))
def okFs (n : Nm) : List Fs → List FD → Bool
  | [], [] => true
  | s :: ss, f :: fs => okF n s f && okFs n ss fs
  | _, _ => false
theorem okFs_at {n : Nm} : ∀ {ss : List Fs} {fs : List FD} {i : Nat} {s : Fs}, okFs n ss fs = true → ss[i]? = some s → ∃ f, fs[i]? = some f ∧ okF n s f = true
  | [], [], i, s, _, e => by simp at e
  | [], _ :: _, _, _, h, _ => by cases h
  | _ :: _, [], _, _, h, _ => by cases h
  | s :: ss, f :: fs, i, s', h, e => by
    rw [okFs, Bool.and_eq_true] at h
    cases i with
    | zero =>
      simp at e
      subst e
      exact ⟨f, rfl, h.1⟩
    | succ i =>
      obtain ⟨g, h1, h2⟩ := okFs_at h.2 (show ss[i]? = some s' by simpa using e)
      exact ⟨g, by simpa using h1, h2⟩
theorem okFs_len {n : Nm} : ∀ {ss : List Fs} {fs : List FD}, okFs n ss fs = true → ss.length = fs.length
  | [], [], _ => rfl
  | [], _ :: _, h => by cases h
  | _ :: _, [], h => by cases h
  | s :: ss, f :: fs, h => by
    rw [okFs, Bool.and_eq_true] at h
    rw [List.length_cons, List.length_cons, okFs_len h.2]
/-- a keyword-only default that is an object -/
def kwV (K : Fq) (a : Addr) (x : Str) : V := match K.lookup a with
  | some ⟨_, _, .func fd, _⟩ => (match fd.kwdefaults with
    | .ref D => (match PySem.W.nsIn K D x with
      | some (some (.ref t)) => .ref t
      | _ => .non)
    | _ => .non)
  | _ => .non
def dfV (K : Fq) (a : Addr) (x : Tx) : D → V
  | .tup _ => kwV K a (sS x)
  | d => vOf d
/-- the keyword-only defaults -/
def kwsV (K : Fq) (a : Addr) (fd : FD) : List (Str × V) := fd.kwo.map fun p => (sS p.1, dfV K a p.1 p.2)
/-- what the top has left of a def -/
structure Fct (G : G0) (mg : Str → Option Value) (s : Fs) (fd : FD) (t : Ft) : Prop where
  fun_ : ∃ fd', FunD G.K s.name s.qual (defArgs s.st) (defBody s.st) (defScope s.st) [] (kwsV G.K t.adr fd) t.adr fd'
  name : t.name = s.gname
  glo : t.name ≠ Str.empty → mg t.name = some (.ref t.adr)
  dfl : ∀ p ∈ fd.kwo, ∀ ω, Rel G ω p.2 (dfV G.K t.adr p.1 p.2)
/-- what the top has left of the module, the defs left out -/
structure Tops (G : G0) (P : Pg) (w : World) (mg : Str → Option Value) (ft : List Ft) (n : Nm) : Prop where
  free : ∀ x ∈ frees, mg x = none
  cls : ∀ (i : Nat) x, n.cn[i]? = some x → mg x = some (.ref (G.CC i)) ∧ PySem.W.keepIn G.K (.ref (G.CC i)) = true
  clf : ∀ (i : Nat) cd, P.cls[i]? = some cd → CF G ft i cd
  cnl : n.cn.length ≤ P.cls.length
  kit : ∀ i j, i < P.cls.length → j < n.cn.length → PySem.W.kitOne G.K (.ref (G.CC i)) (.ref (G.CC j)) = some (Nat.beq i j)
  glo : ∀ (i : Nat) x, n.gn[i]? = some x → ∃ d, P.glo[i]? = some d ∧ GlK G w mg x d
  xcs : ∀ (i : Nat) x f, n.xn[i]? = some (x, f) → mg x = some (.ref (G.CA i)) ∧ PySem.W.keepIn G.K (.ref (G.CA i)) = true ∧ ∀ code f', P.exn[i]? = some (some (code, f')) → f = f'.map sS ∧ Nonempty (XCl G.K (G.CA i) (sS code) (f'.map sS)) ∧ XIs G.K (G.CA i) (xks f')
  sub : ∀ (i : Nat) q b, P.sub i q = some b → ∃ cv, clV G q = some cv ∧ PySem.W.kitOne G.K (.ref (G.CA i)) cv = some b
section
variable {prog : Program} {w : World} {mg : Str → Option Value} {base : Heap} {G : G0} {P : Pg} {ft : List Ft} {ss : List Fs}
theorem FnG.imp {CX : CXT} {k : Nat} {f : Addr} {sp sp' : SpG} (F : FnG prog w G.K mg base CX k f sp) (h : ∀ vs ks zs H Q E, sp' vs ks zs H Q E → sp vs ks zs H Q E) : FnG prog w G.K mg base CX k f sp' :=
  fun A outer s H us ks ws vs zs Q E hr he r rz q => F A outer s H us ks ws vs zs Q E hr he r rz (h vs ks zs H Q E q)
theorem env_start {ω : Wd} {N : List Str} {ds : List D} {vs : List V} {n : Nat} (r : Rels G ω ds vs) (hn : n = N.length) (hl : ds.length ≤ n) : EnvRel G ω (ds.map some ++ List.replicate (n - ds.length) none) (L2.start N vs) := by
  subst hn
  unfold L2.start
  refine ⟨by simp [r.length], fun i d e => ?_⟩
  by_cases hi : i < ds.length
  · rw [List.getElem?_append_left (by simpa using hi), List.getElem?_map] at e
    cases q : ds[i]? with
    | none => rw [q] at e; cases e
    | some d' =>
      rw [q] at e
      have : d' = d := by simpa using e
      subst this
      obtain ⟨v, e1, e2⟩ := r.get q
      refine ⟨v, ?_, e2⟩
      rw [List.getElem?_append_left (by rw [List.length_map, r.length]; exact hi), List.getElem?_map, e1]
      rfl
  · rw [List.getElem?_append_right (by simpa using hi), List.getElem?_replicate] at e
    split at e <;> cases e
theorem kws_look {K : Fq} {a : Addr} {fd : FD} (nd : (fd.kwo.map fun p => sS p.1).Nodup) : ∀ p ∈ fd.kwo, ((kwsV K a fd).lookup (sS p.1)).getD .non = dfV K a p.1 p.2 := by
  unfold kwsV
  generalize fd.kwo = l at nd
  intro p hp
  induction l with
  | nil => cases hp
  | cons q l ih =>
    rw [List.map_cons] at nd ⊢
    obtain ⟨n1, n2⟩ := List.nodup_cons.mp nd
    rw [List.lookup]
    by_cases e : sS p.1 = sS q.1
    · rcases List.mem_cons.mp hp with rfl | hp
      · simp
      · exact absurd (e ▸ List.mem_map_of_mem (f := fun p : Tx × D => sS p.1) hp) n1
    · have : (sS p.1 == sS q.1) = false := beq_eq_false_iff_ne.mpr e
      rw [this]
      rcases List.mem_cons.mp hp with rfl | hp
      · exact absurd rfl e
      · exact ih n2 hp
theorem all_ok {n : Nm} (hn : n.fn = ft.map Ft.name) (hf : ∀ (i : Nat) t, ft[i]? = some t → ∃ s fd, ss[i]? = some s ∧ P.fns[i]? = some fd ∧ Fct G mg s fd t) (hlen : ft.length = P.fns.length) (hok : okFs n ss P.fns = true) (ht : Tops G P w mg ft n) :
    ∀ (k f : Nat) t, ft[f]? = some t → FnG prog w G.K mg base (L2.CX prog w) (6 * k + 8) t.adr (spC G P k f)
  | 0, f, t, e => fun A outer s H us ks ws vs zs Q E hr he r rz h => by
    obtain ⟨ω, M, ds, kn, kds, _, _, _, _, _, post⟩ := h
    exact False.elim post
  | k + 1, f, t, e => by
    obtain ⟨s, fd0, es, ef0, F⟩ := hf f t e
    obtain ⟨fd, ef, okf⟩ := okFs_at hok es
    rw [ef0] at ef
    cases ef
    unfold okF at okf
    simp only [Bool.and_eq_true] at okf
    obtain ⟨h1, h3, h4⟩ := okf
    have h3 := of_decide_eq_true h3
    unfold argB at h1
    split at h1
    case h_2 => cases h1
    case h_1 as va kos kds kwa ea =>
      simp only [Bool.and_eq_true, List.all_eq_true, beq_iff_eq, decide_eq_true_eq] at h1
      obtain ⟨a1, a2, a3, a4, a5, a7, a8⟩ := h1
      have sc := scB_ok a8
      obtain ⟨fd', oc, od, dV, kV, doc, pm, an, cdv, ct, osl, e1, lk, hcd, hdf, hkw⟩ := (show ∃ fd', FunD G.K s.name s.qual (defArgs s.st) (defBody s.st) (defScope s.st) [] (kwsV G.K t.adr fd0) t.adr fd' from F.fun_).imp fun _ z => z.ex
      have hdV : dV = .none := by
        rcases hdf with ⟨_, h⟩ | ⟨h, _⟩
        · exact h
        · exact absurd rfl h
      subst hdV e1
      rw [ea] at lk
      have hd : ∀ m ∈ kos.map (fun x : Arg => x.arg), ∃ d u, kV = .ref d ∧ PySem.W.nsIn G.K d m = some (some u) ∧ L2.RelV (((kwsV G.K t.adr fd0).lookup m).getD .non) u := by
        intro m hm
        rw [a2] at hm
        obtain ⟨p, hp, em⟩ := List.mem_map.mp hm
        rcases hkw with z | ⟨D, z1, z2⟩
        · unfold kwsV at z
          rw [List.map_eq_nil_iff] at z
          rw [z] at hp
          cases hp
        · obtain ⟨u, w1, w2⟩ := z2 (sS p.1, dfV G.K t.adr p.1 p.2) (List.mem_map.mpr ⟨p, hp, rfl⟩)
          subst em
          exact ⟨D, u, z1, w1, by rw [kws_look a7 p hp]; exact w2⟩
      have nN : nArgs fd0 ≤ fd0.ns := by
        have l1 := congrArg List.length a1
        have l2 := congrArg List.length a2
        have l3 := congrArg List.length sc.pre
        rw [List.length_map, List.length_map] at l1 l2
        rw [List.length_take] at l3
        unfold nArgs
        rw [h3]
        have l4 : (vaN va).length = if fd0.va then 1 else 0 := by
          rw [← a3]
          cases va <;> rfl
        have l5 : (vaN kwa).length = if fd0.kwa then 1 else 0 := by
          rw [← a4]
          cases kwa <;> rfl
        rw [← l4, ← l5]
        simp only [List.length_append, List.length_map] at l3
        omega
      have fg := fnG_of (CX := (L2.CX prog w)) (P := prog) (w := w) (mg := mg) (base := base) (k := 6 * k + 13) (N := s.N) (sp := spB G P k fd0) (dvV := fun m => ((kwsV G.K t.adr fd0).lookup m).getD .non) lk hcd sc StX.cxUp (by rw [a3, a4]; intro z; rw [z.1, z.2] at a5; cases a5) hd
        fun A outer s1 H vs Q E hr h => by
          have O : Ok ⟨G, E⟩ P ft k (ckOf s n) (cxOf (L2.CX prog w) prog w G.K mg base s.N s.qual (defScope s.st) t.adr cdv A outer s1 H E) :=
            ⟨rfl, rfl, rfl, sc.nd, rfl, hr.mono (by omega), takes_of rfl rfl rfl rfl, PassesOwn.leaving, fun _ _ => rfl, hn, hlen, fun g u eu => by
              obtain ⟨s', fd', _, _, F'⟩ := hf g u eu
              obtain ⟨_, FF⟩ := F'.fun_
              exact ⟨F'.glo, FF.kp, all_ok hn hf hlen hok ht k g u eu⟩, ht.cls, ht.clf, ht.cnl, ht.kit, ht.glo, ht.free, ht.xcs, ht.sub, (fun _ _ z => nomatch z)⟩
          refine ⟨_, sndSs fd0.body _ _ _ _ O sc.kind h4, ?_⟩
          obtain ⟨ω, M, xs, hh, r, hl, post⟩ := h
          refine ⟨ω, M, _, env_start (n := fd0.ns) r h3 hl, hh, ?_⟩
          unfold bodyR at post
          cases e8 : execs (ecN P k) fd0.body (xs.map some ++ List.replicate (fd0.ns - xs.length) none) M with
          | nx env' M' =>
            rw [e8] at post
            exact fun ω' σ' H' le he' hh' => post ω' H' .non le hh' (by rw [Rel])
          | rt d M' => rw [e8] at post; exact post
          | bk _ _ => rw [e8] at post; exact False.elim post
          | ct _ _ => rw [e8] at post; exact False.elim post
          | er => rw [e8] at post; exact False.elim post
          | ex _ _ => rw [e8] at post; exact post
      refine FnG.imp (G := G) fg fun vs ks zs H Q E h => ?_
      have z := bind_sp (dv := fun m => ((kwsV G.K t.adr fd0).lookup m).getD .non) ef0 nN (fun p hp ω => by show Rel G ω p.2 (((kwsV G.K t.adr fd0).lookup (sS p.1)).getD .non); rw [kws_look a7 p hp]; exact F.dfl p hp ω) h
      rw [← a1, ← a2, ← a3, ← a4] at z
      exact z
/-- the script -/
theorem rels_ints {ω : Wd} : ∀ ns : List Int, Rels G ω (ns.map D.int) (ns.map V.int)
  | [] => Rels.nil
  | n :: ns => Rels.cons (by rw [Rel]) (rels_ints ns)
end
end Ev


set_option autoImplicit false
set_option Elab.async false
set_option linter.all false
set_option maxRecDepth 100000
set_option maxHeartbeats 4000000
/-! EvT: what the head must tell, as Bools. -/
namespace Ev
open PySem PySem.Spec PyProof.Rows L2 PySem.EvXK EvCall
def ownRow (C : Addr) (n : String) (tl : List Value) : Obj → Bool
  | ⟨.type c, _, .cls cd, sl⟩ => decide (c = "type") && (match cd.mro, sl.toList with
    | .ref C' :: bm, [_, _, _, _, some (.builtin m), _] => decide (C' = C) && (decide (m = n) && (cd.hasDel == false && (cd.hasDict == true && ownM tl bm)))
    | _, _ => false)
  | _ => false
def xcB (K : Fq) (C : Addr) (n : String) (tl : List Value) : Bool := (match K.lookup C with
  | some o => ownRow C n tl o
  | none => false) && (decide (PySem.W.findIn K (.ref C) "__setattr__" = some (some (.builtin "object.__setattr__"))) && PySem.W.keepIn K (.ref C))
theorem xcB_ok {K : Fq} {C : Addr} {n : String} {tl : List Value} (h : xcB K C n tl = true) : XC K C n tl := by
  unfold xcB at h
  simp only [Bool.and_eq_true, decide_eq_true_eq] at h
  obtain ⟨h1, h2, h3⟩ := h
  refine ⟨?_, h2, h3⟩
  cases e : K.lookup C with
  | none => rw [e] at h1; cases h1
  | some o =>
    rw [e] at h1
    obtain ⟨oc, od, dt, osl⟩ := o
    cases oc with
    | type c =>
      cases dt with
      | cls cd =>
        have h1 : (decide (c = "type") && (match cd.mro, osl.toList with
          | .ref C' :: bm, [_, _, _, _, some (.builtin m), _] => decide (C' = C) && (decide (m = n) && (cd.hasDel == false && (cd.hasDict == true && ownM tl bm)))
          | _, _ => false)) = true := h1
        rw [Bool.and_eq_true] at h1
        obtain ⟨a1, a2⟩ := h1
        have a1 : c = "type" := of_decide_eq_true a1
        subst a1
        split at a2
        · rename_i C' bm k0 k1 k2 k3 m k5 e1 e2
          simp only [Bool.and_eq_true, decide_eq_true_eq, beq_iff_eq] at a2
          obtain ⟨b1, b2, b3, b4, b5⟩ := a2
          subst b1 b2
          obtain ⟨nm, bs, mro, ns, qn, hd, sn, sb, ab, col, del⟩ := cd
          dsimp only at e1 b3 b4
          subst e1 b3 b4
          obtain ⟨sl⟩ := osl
          have e2 : sl = [k0, k1, k2, k3, some (.builtin m), k5] := e2
          subst e2
          exact ⟨nm, qn, ns, bs, bm, sn, sb, ab, col, od, k0, k1, k2, k3, k5, rfl, ownM_ok b5⟩
        · cases a2
      | _ => cases h1
    | _ => cases h1
def tlOf : Nat → String × List Value
  | 0 => ("ValueError.__new__", [.type "ValueError", .type "Exception", .type "BaseException", .type "object"])
  | 1 => ("LookupError.__new__", [.type "LookupError", .type "Exception", .type "BaseException", .type "object"])
  | _ => ("IndexError.__new__", [.type "IndexError", .type "LookupError", .type "Exception", .type "BaseException", .type "object"])
theorem tlOf_ok : ∀ b : Nat, XB (tlOf b).1 (tlOf b).2
  | 0 => xb_VE
  | 1 => xb_LE
  | _ + 2 => xb_IE
def xisB (K : Fq) (C : Addr) (ks : List Tx) : Bool := (PySem.W.clsIn K C).isSome && (decide (PySem.W.findIn K (.ref C) "__getattribute__" = some (some (.builtin "BaseException.__getattribute__"))) && (decide (PySem.W.findIn K (.ref C) "__getattr__" = some none) &&
  (decide (PySem.W.subIn K (.ref C) (.type "BaseException") = some true) && (PySem.W.hasDictIn K C && (decide (PySem.W.findIn K (.ref C) "__class__" = some (some (.builtin "object.__class__"))) &&
  (decide (PySem.W.specialIn K (.builtin "object.__class__") "__get__" = some (some (.builtin "getset_descriptor.__get__"))) && (decide (PySem.W.takesIn K (.builtin "object.__class__") = some true) && (decide (PySem.W.mroIn K C (.type "object") = some true) &&
  ks.all fun k => decide (PySem.W.findIn K (.ref C) (sS k) = some none)))))))))
theorem xisB_ok {K : Fq} {C : Addr} {ks : List Tx} (h : xisB K C ks = true) : XIs K C ks := by
  unfold xisB at h
  simp only [Bool.and_eq_true, decide_eq_true_eq, List.all_eq_true] at h
  obtain ⟨h1, h2, h3, h4, h5, h6, h7, h8, h9, h10⟩ := h
  exact ⟨h1, h2, h3, h4, h5, h6, h7, h8, h9, h10⟩
/-- an exception class of the text: its name, its built-in base, its __init__, its code and field -/
structure Xs where
  name : Str
  base : Nat
  st : Stmt
  qual : Str
  code : Tx
  fld : Option Tx
def visB (sc : Scope) (x : Str) : Bool := match sc.names.lookup x with
  | some .local => true
  | some .cell => true
  | some .free => true
  | _ => false
theorem visB_ok {sc : Scope} {x : Str} (h : visB sc x = true) : Vis sc x := by
  unfold visB at h
  unfold Vis
  split at h
  · exact .inl (by assumption)
  · exact .inr (.inl (by assumption))
  · exact .inr (.inr (by assumption))
  · cases h
/-- what the text itself must say of it -/
def xsB (x : Xs) : Bool := scB (psI (x.fld.map sS)) (psI (x.fld.map sS)) (defScope x.st) && ((psI (x.fld.map sS)).all (visB (defScope x.st)) && (okI (sS x.code) (x.fld.map sS) (defBody x.st) && (okA (x.fld.map sS) (defArgs x.st) &&
  (match x.fld with
    | none => true
    | some g => (sS g == ("__debug__" : Str)) == false && ((sS g == ("__classdict__" : Str)) == false && !decide (sS g = ("self" : Str)))))))
def xhB (K : Fq) (x : Xs) : Bool := xcB K (He.ga K x.name) (tlOf x.base).1 (tlOf x.base).2 && (decide (PySem.W.findIn K (.ref (He.ga K x.name)) "__init__" = some (some (.ref (He.ma K (He.ga K x.name) "__init__")))) &&
  (decide (PySem.W.typeIn K (.ref (He.ma K (He.ga K x.name) "__init__")) = some (.type "function")) && (decide (PySem.W.findIn K (.ref (He.ga K x.name)) "code" = some none) && ((match x.fld with
    | none => true
    | some g => decide (PySem.W.findIn K (.ref (He.ga K x.name)) (sS g) = some none)) && xisB K (He.ga K x.name) (xks x.fld)))))
theorem xcl_of {K : Fq} {x : Xs} (h1 : xsB x = true) (h2 : xhB K x = true) {fd : FuncData} (F : FunD K "__init__" x.qual (defArgs x.st) (defBody x.st) (defScope x.st) [] [] (He.ma K (He.ga K x.name) "__init__") fd) :
    Nonempty (XCl K (He.ga K x.name) (sS x.code) (x.fld.map sS)) ∧ XIs K (He.ga K x.name) (xks x.fld) := by
  unfold xsB at h1
  unfold xhB at h2
  simp only [Bool.and_eq_true, List.all_eq_true] at h1 h2
  obtain ⟨a1, a2, a3, a4, a5⟩ := h1
  obtain ⟨b1, b2, b3, b4, b5, b6⟩ := h2
  refine ⟨⟨?_⟩, xisB_ok b6⟩
  exact {
    n := (tlOf x.base).1, tl := (tlOf x.base).2, B := tlOf_ok x.base, T := xcB_ok b1
    fI := He.ma K (He.ga K x.name) "__init__", fd := fd, st := x.st, q := x.qual
    ini := of_decide_eq_true b2, tI := of_decide_eq_true b3, noc := of_decide_eq_true b4
    nof := fun g e => by
      cases hx : x.fld with
      | none => rw [hx] at e; cases e
      | some g' =>
        rw [hx] at e b5
        cases e
        exact of_decide_eq_true b5
    fn := F, sc := scB_ok a1, loc := fun y hy => visB_ok (a2 y hy), bd := a3, as := a4
    nd := fun g e => by
      cases hx : x.fld with
      | none => rw [hx] at e; cases e
      | some g' =>
        rw [hx] at e a5
        cases e
        simp only [Bool.and_eq_true, beq_iff_eq, Bool.not_eq_true', decide_eq_false_iff_not] at a5
        exact ⟨a5.1, a5.2.1, a5.2.2⟩ }
/-! ### the hook -/
/-- a def: where it lies, what it is -/
structure Df where
  adr : Fq → Addr
  name : Str
  qual : Str
  params : Arguments
  body : List Stmt
  scope : Scope
  kws : Fq → List (Str × V)
def fnWa (K : Fq) (a : Addr) : He.FnW := match K.lookup a with
  | some ⟨_, _, .func fd, _⟩ => some (fd.name, fd.qualname, fd.params, fd.body, fd.scope, fd.globals, fd.closure, fd.builtins)
  | _ => none
def Df.val (d : Df) : He.FnW := some (d.name, d.qual, d.params, .stmts d.body, d.scope, mainGlobals, [], builtinsNs)
def Df.ok (K : Fq) (d : Df) : Bool := PySem.W.keepIn K (.ref (d.adr K)) && (match K.lookup (d.adr K) with
  | some ⟨_, _, .func fd, _⟩ => PySem.W.codeIn K fd.code d.qual && (He.dflB K fd.defaults [] && He.kwdB K fd.kwdefaults (d.kws K))
  | _ => false)
theorem Df.funD {K : Fq} {d : Df} (e : fnWa K (d.adr K) = d.val) (c : d.ok K = true) : ∃ fd, FunD K d.name d.qual d.params d.body d.scope [] (d.kws K) (d.adr K) fd := by
  obtain ⟨kp, c2⟩ := He.ba c
  unfold fnWa at e
  cases q : K.lookup (d.adr K) with
  | none => rw [q] at c2; cases c2
  | some o =>
    obtain ⟨oc, od, dt, osl⟩ := o
    rw [q] at c2 e
    cases dt with
    | func fd =>
      obtain ⟨n1, n2, n3, n4, n5, n6, n7, n8, n9, n10, n11, n12, n13, n14, n15⟩ := fd
      have e2 : (some (n1, n2, n3, n4, n5, n6, n7, n15) : He.FnW) = some (d.name, d.qual, d.params, .stmts d.body, d.scope, mainGlobals, [], builtinsNs) := e
      simp only [Option.some.injEq, Prod.mk.injEq] at e2
      obtain ⟨h1, h2, h3, h4, h5, h6, h7, h8⟩ := e2
      subst h1 h2 h3 h4 h5 h6 h7 h8
      obtain ⟨k1, k2⟩ := He.ba (show (PySem.W.codeIn K n13 d.qual && (He.dflB K n8 [] && He.kwdB K n9 (d.kws K))) = true from c2)
      obtain ⟨k3, k4⟩ := He.ba k2
      exact ⟨_, ⟨oc, od, n8, n9, n10, n11, n12, n13, n14, osl, rfl, q, k1, He.dflB_ok k3, He.kwdB_ok k4⟩, kp⟩
    | _ => cases c2
/-- what is told: the defs, the tables -/
abbrev AlX : Type := He.AlD × List (Option (List (Option (Str × Int))))
def valX (fn : List Df) (ts : List He.Tab) (w : World) : AlX := ((true, fn.map Df.val), ts.map fun t => some (He.keysIn w.params t.2))
def obsX (ck : Fq → Bool) (fn : List Df) (ts : List He.Tab) (K : Fq) : AlX := ((ck K && fn.all fun d => d.ok K, fn.map fun d => fnWa K (d.adr K)), ts.map fun t => He.dicW K (t.1 K))
def SaysX (ck : Fq → Bool) (fn : List Df) (ts : List He.Tab) (w : World) (K : Fq) : Prop := obsX ck fn ts K = valX fn ts w
def obsXG (n : Nat) (ck : Fq → Bool) (fn : List Df) (ts : List He.Tab) (g : Addr → Option Obj) : AlX := obsX ck fn ts (He.frG g (cStatics :: He.asD g n))
def hookX (n : Nat) (ck : Fq → Bool) (fn : List Df) (ts : List He.Tab) : PySem.W.Hook where
  α := AlX
  obs := fun s => obsXG n ck fn ts s.heap.get?
  val := fun w => valX fn ts w
  says := fun w h => ∃ K : Fq, K.In h ∧ SaysX ck fn ts w K
  of := fun _ _ e => ⟨_, He.frG_in, e⟩
  keeps := fun _ _ _ ⟨K, hK, c⟩ k => ⟨K, PySem.W.Frag.In.keeps hK k, c⟩
/-- the same, the places told -/
def obsXA (as : List Addr) (ck : Fq → Bool) (fn : List Df) (ts : List He.Tab) (g : Addr → Option Obj) : AlX := obsX ck fn ts (He.frG g as)
def hookA (as : List Addr) (ck : Fq → Bool) (fn : List Df) (ts : List He.Tab) : PySem.W.Hook where
  α := AlX
  obs := fun s => obsXA as ck fn ts s.heap.get?
  val := fun w => valX fn ts w
  says := fun w h => ∃ K : Fq, K.In h ∧ SaysX ck fn ts w K
  of := fun _ _ e => ⟨_, He.frG_in, e⟩
  keeps := fun _ _ _ ⟨K, hK, c⟩ k => ⟨K, PySem.W.Frag.In.keeps hK k, c⟩
theorem obsXA_eq {as : List Addr} {ck : Fq → Bool} {fn : List Df} {ts : List He.Tab} {g : Addr → Option Obj} {s : Shared} (h : ∀ a, g a = s.heap.get? a) : obsXA as ck fn ts g = (hookA as ck fn ts).obs s := by
  have e : g = s.heap.get? := funext h
  rw [e] <;> rfl
theorem obsXG_eq {n : Nat} {ck : Fq → Bool} {fn : List Df} {ts : List He.Tab} {g : Addr → Option Obj} {s : Shared} (h : ∀ a, g a = s.heap.get? a) : obsXG n ck fn ts g = (hookX n ck fn ts).obs s := by
  have e : g = s.heap.get? := funext h
  rw [e] <;> rfl
section
variable {ck : Fq → Bool} {fn : List Df} {ts : List He.Tab} {w : World} {K : Fq}
theorem SaysX.ck_ (c : SaysX ck fn ts w K) : ck K = true := (He.ba (show (ck K && fn.all fun d => d.ok K) = true from congrArg (fun z : AlX => z.1.1) c)).1
theorem SaysX.def_ (c : SaysX ck fn ts w K) {d : Df} (h : d ∈ fn) : ∃ fd, FunD K d.name d.qual d.params d.body d.scope [] (d.kws K) (d.adr K) fd := by
  have c2 := (He.ba (show (ck K && fn.all fun d => d.ok K) = true from congrArg (fun z : AlX => z.1.1) c)).2
  have e : fn.map (fun d => fnWa K (d.adr K)) = fn.map Df.val := congrArg (fun z : AlX => z.1.2) c
  obtain ⟨i, hi⟩ := List.getElem?_of_mem h
  have e2 : (fn.map fun d => fnWa K (d.adr K))[i]? = (fn.map Df.val)[i]? := by rw [e]
  rw [List.getElem?_map, List.getElem?_map, hi] at e2
  exact Df.funD (Option.some.inj e2) (List.all_eq_true.mp c2 d h)
theorem SaysX.tab_ (c : SaysX ck fn ts w K) {t : He.Tab} (h : t ∈ ts) : ∃ es n, KDict K w (t.1 K) es n := by
  have e : (ts.map fun q => He.dicW K (q.1 K)) = ts.map fun q => some (He.keysIn w.params q.2) := congrArg (fun z : AlX => z.2) c
  obtain ⟨i, hi⟩ := List.getElem?_of_mem h
  have e2 : (ts.map fun q => He.dicW K (q.1 K))[i]? = (ts.map fun q => some (He.keysIn w.params q.2))[i]? := by rw [e]
  rw [List.getElem?_map, List.getElem?_map, hi] at e2
  exact He.dicW_ok (Option.some.inj e2)
end
/-! ### where things lie -/
def atG (x : Str) : Fq → Addr := fun K => He.ga K x
def atM (C m : Str) : Fq → Addr := fun K => He.ma K (He.ga K C) m
def atP (C m : Str) : Fq → Addr := fun K => match PySem.W.recIn K (He.ma K (He.ga K C) m) "property" with
  | some (.ref g :: _) => g
  | _ => 0
/-! ### all facts of a text -/
def fDf (s : Fs) (fd : FD) : Df := ⟨s.adr, s.name, s.qual, defArgs s.st, defBody s.st, defScope s.st, fun K => kwsV K (s.adr K) fd⟩
def xDf (x : Xs) : Df := ⟨atM x.name "__init__", "__init__", x.qual, defArgs x.st, defBody x.st, defScope x.st, fun _ => []⟩
def gloB (K : Fq) (x : Str) : Bool := decide (PySem.W.nsIn K mainGlobals x = some (some (.ref (He.ga K x))))
def freeB (K : Fq) (x : Str) : Bool := decide (PySem.W.nsIn K mainGlobals x = some none)
/-- the classes of exceptions: those with an __init__ are given whole -/
def xNames (xs : List (Str × Option Xs)) : List (Str × Option Str) := xs.map fun p => (p.1, match p.2 with
  | some x => x.fld.map sS
  | none => none)
def subB (K : Fq) (xs : List (Str × Option Xs)) (anc : List (List Nat × List Nat)) : Bool := (xs.zip anc).all fun p =>
  (List.range xs.length).all (fun j => match xs[j]? with
    | some q => decide (PySem.W.kitOne K (.ref (He.ga K p.1.1)) (.ref (He.ga K q.1)) = some (p.2.1.contains j))
    | none => true) && [0, 1, 2].all fun j => match extName j with
    | some t => decide (PySem.W.kitOne K (.ref (He.ga K p.1.1)) (.type t) = some (p.2.2.contains j))
    | none => true
def subOf (anc : List (List Nat × List Nat)) (k : Nat) : Cl → Option Bool
  | .own c => (anc[k]?).bind fun p => if c < anc.length then some (p.1.contains c) else none
  | .ext c => (anc[k]?).bind fun p => if c < 3 then some (p.2.contains c) else none
  | _ => none
def exnOf (xs : List (Str × Option Xs)) : List (Option (Tx × Option Tx)) := xs.map fun p => p.2.map fun x => (x.code, x.fld)
def exnOf2 (xs : List (Str × Option Xs)) : List (Option (Tx × Option Tx)) := exnOf xs
/-- a class -/
def clsB (K : Fq) (C : Addr) (ss : List Fs) (cd : Cd) : Bool := PySem.W.plainGet K C Str.empty && (PySem.W.hasDictIn K C && (PySem.W.plainOver K C && (decide (PySem.W.findIn K (.ref C) "__setattr__" = some (some (.builtin "object.__setattr__"))) && (PySem.W.keepIn K (.ref C) &&
  (decide (PySem.W.findIn K (.ref C) "__class__" = some (some (.builtin "object.__class__"))) && (decide (PySem.W.specialIn K (.builtin "object.__class__") "__get__" = some (some (.builtin "getset_descriptor.__get__"))) && (decide (PySem.W.takesIn K (.builtin "object.__class__") = some true) && (decide (PySem.W.mroIn K C (.type "object") = some true) && (decide (PySem.W.findIn K (.ref C) "__ne__" = some (some (.builtin "object.__ne__"))) &&
  ((datT.all fun t => decide (PySem.W.subIn K (.type t) (.ref C) = some false) && decide (PySem.W.kitOne K (.type t) (.ref C) = some false)) &&
  ((cd.fld.all fun f => decide (PySem.W.findIn K (.ref C) (sS f) = some none)) &&
  (PySem.W.makesIn K C && ((match ss[cd.init]? with
    | some s => decide (PySem.W.findIn K (.ref C) "__init__" = some (some (.ref (s.adr K)))) && PySem.W.isFn K (.ref (s.adr K))
    | none => false) &&
  ((cd.mth.all fun p => match ss[p.2]? with
    | some s => decide (PySem.W.findIn K (.ref C) (sS p.1) = some (some (.ref (s.adr K)))) && (PySem.W.isFn K (.ref (s.adr K)) && PySem.W.keepIn K (.ref (s.adr K)))
    | none => false) &&
  ((cd.prp.all fun p => match ss[p.2]? with
    | some s => (let q := He.ma K C (sS p.1); decide (PySem.W.findIn K (.ref C) (sS p.1) = some (some (.ref q))) && (decide (PySem.W.specialIn K (.ref q) "__get__" = some (some (.builtin "property.__get__"))) && (decide (PySem.W.takesIn K (.ref q) = some true) && (match PySem.W.recIn K q "property" with
      | some (.ref g :: _) => decide (g = s.adr K)
      | _ => false))))
    | none => false) &&
  (cd.cst.all fun p => flat1 p.2 && (PySem.W.readsIn K C (.type "type") && (decide (PySem.W.specialIn K (.ref C) "__getattribute__" = some (some (.builtin "type.__getattribute__"))) && (match PySem.W.findCls K (.ref C) (.type "type") (sS p.1) with
      | some (.val u) => He.relB (vOf p.2) u
      | _ => false)))))))))))))))))))
theorem clsB_ok {G : G0} {ft : List Ft} {ss : List Fs} {i : Nat} {cd : Cd} (hft : ∀ (j : Nat) t, ft[j]? = some t → ∃ s, ss[j]? = some s ∧ t.adr = s.adr G.K) (hl : ft.length = ss.length) (h : clsB G.K (G.CC i) ss cd = true) : CF G ft i cd ∧ PySem.W.keepIn G.K (.ref (G.CC i)) = true := by
  unfold clsB at h
  simp only [Bool.and_eq_true, List.all_eq_true, decide_eq_true_eq] at h
  obtain ⟨h1, h2, h3, h4, h5, h6, h7, h8, h9, hne, h10, h11, h12, h13, h14, h15, h16⟩ := h
  refine ⟨⟨?_, ⟨h1, h2, h3, h4⟩, fun t ht => ?_, fun m f t hm ht => ?_, fun m g t hm ht => ?_, fun f d hm => ?_, h11, h6, h7, h8, h9, hne, h10⟩, h5⟩
  · rw [hl]
    cases e : ss[cd.init]? with
    | none => rw [e] at h13; cases h13
    | some s => exact (List.getElem?_eq_some_iff.mp e).1
  · obtain ⟨s, es, ea⟩ := hft _ t ht
    rw [es] at h13
    simp only [Bool.and_eq_true, decide_eq_true_eq] at h13
    rw [ea]
    exact ⟨h12, h13.1, h13.2, h5⟩
  · obtain ⟨s, es, ea⟩ := hft _ t ht
    have z := h14 (m, f) hm
    dsimp only at z
    rw [es] at z
    simp only [Bool.and_eq_true, decide_eq_true_eq] at z
    rw [ea]
    exact ⟨z.1, z.2.1, z.2.2⟩
  · obtain ⟨s, es, ea⟩ := hft _ t ht
    have z := h15 (m, g) hm
    dsimp only at z
    rw [es] at z
    simp only [Bool.and_eq_true, decide_eq_true_eq] at z
    obtain ⟨z1, z2, z3, z4⟩ := z
    refine ⟨He.ma G.K (G.CC i) (sS m), z1, z2, z3, ?_⟩
    split at z4
    · rename_i g' rest er
      have := of_decide_eq_true z4
      rw [ea, ← this]
      exact ⟨rest, er⟩
    · cases z4
  · obtain ⟨z1, z2, z3, z4⟩ := h16 (f, d) hm
    split at z4
    · rename_i u eu
      exact ⟨.type "type", vOf d, u, ⟨z2, z3⟩, ⟨eu, He.relB_ok z4⟩, fun ω => vOf_ok z1⟩
    · cases z4
/-- a constant of the module: a flat thing, or a tuple of such -/
def gcB (K : Fq) (x : Str) : D → Bool
  | .dct ks ds => gloB K x && ((ks.zip ds).all fun p => match p.1 with
    | .str z => flat1 p.2 && (match PySem.W.nsIn K (He.ga K x) (sS z) with
      | some (some u) => He.relB (vOf p.2) u
      | _ => false)
    | _ => false)
  | .tup ds => (match PySem.W.nsIn K mainGlobals x with
    | some (some (.ref a)) => (match K.lookup a with
      | some ⟨.type c, _, .seq its _, _⟩ => decide (c = "tuple") && (decide (its.size ≤ sizeLine) && ((ds.all flat1) && He.relAll (ds.map vOf) its.toList))
      | _ => false)
    | _ => false)
  | d => flat1 d && (match PySem.W.nsIn K mainGlobals x with
    | some (some u) => He.relB (vOf d) u
    | _ => false)
theorem rels_flat {G : G0} {ω : Wd} : ∀ {ds : List D}, ds.all flat1 = true → Rels G ω ds (ds.map vOf)
  | [], _ => Rels.nil
  | d :: ds, h => by
    rw [List.all_cons, Bool.and_eq_true] at h
    exact Rels.cons (vOf_ok h.1) (rels_flat h.2)
def isDct : D → Bool
  | .dct _ _ => true
  | _ => false
theorem dget_mem : ∀ {ks ds : List D} {z : Tx} {e : D}, dget ks ds (.str z) = some e → (D.str z, e) ∈ ks.zip ds
  | [], ds, z, e, h => by cases ds <;> cases h
  | k :: ks, [], z, e, h => by cases h
  | k :: ks, d :: ds, z, e, h => by
    rw [dget] at h
    rw [List.zip_cons_cons]
    split at h
    · rename_i hk
      cases h
      cases k with
      | str s =>
        have := txEq_iff.mp (show txEq s z = true from hk)
        subst this
        exact List.mem_cons_self
      | _ => cases hk
    · exact List.mem_cons_of_mem _ (dget_mem h)
theorem gcB_ok {G : G0} {h : Heap} {w : World} {mg : Str → Option Value} (X : G.K.In h) (N : h.Ns mainGlobals mg) {x : Str} {d : D} (c : gcB G.K x d = true) (ht : ∀ ks ds, d = .dct ks ds → ∃ es n, KDict G.K w (He.ga G.K x) es n) : GlK G w mg x d := by
  cases isd : isDct d with
  | true =>
    cases d with
    | dct ks ds =>
      obtain ⟨es, n, kd⟩ := ht ks ds rfl
      unfold gcB at c
      rw [Bool.and_eq_true, List.all_eq_true] at c
      refine .inr ⟨ks, ds, He.ga G.K x, rfl, PySem.W.mg_of X N (of_decide_eq_true c.1), fun z e hg => ?_⟩
      have q := c.2 (.str z, e) (dget_mem hg)
      rw [Bool.and_eq_true] at q
      obtain ⟨q1, q2⟩ := q
      split at q2
      · rename_i u eu
        exact ⟨vOf e, ⟨es, n, u, kd.at_, kd.lit, eu, He.relB_ok q2⟩, fun ω => vOf_ok q1⟩
      · cases q2
    | _ => cases isd
  | false =>
  refine .inl ⟨fun ks ds z => ?_, ?_⟩
  · subst z
    cases isd
  have flat : ∀ d, (flat1 d && (match PySem.W.nsIn G.K mainGlobals x with
    | some (some u) => He.relB (vOf d) u
    | _ => false)) = true → ∃ v u, mg x = some u ∧ L2.RelV v u ∧ ∀ ω, Rel G ω d v := fun d c => by
    rw [Bool.and_eq_true] at c
    obtain ⟨c1, c2⟩ := c
    split at c2
    · rename_i u eu
      exact ⟨vOf d, u, PySem.W.mg_of X N eu, He.relB_ok c2, fun ω => vOf_ok c1⟩
    · cases c2
  cases d with
  | tup ds =>
    unfold gcB at c
    dsimp only at c
    split at c
    · rename_i a ea
      split at c
      · rename_i cl od its n osl el
        simp only [Bool.and_eq_true, decide_eq_true_eq] at c
        obtain ⟨c1, c2, c3, c4⟩ := c
        refine ⟨.ref a, .ref a, PySem.W.mg_of X N ea, rfl, fun ω => ?_⟩
        rw [Rel]
        exact ⟨a, ds.map vOf, rfl, .inr ⟨_, its, n, el, congrArg Value.type c1, rfl, c2, He.relAll_ok c4⟩, rels_flat c3⟩
      · cases c
    · cases c
  | non => exact flat _ c
  | bl _ => exact flat _ c
  | int _ => exact flat _ c
  | str _ => exact flat _ c
  | dct _ _ => cases isd
  | _ => cases c
/-- the module -/
structure Md where
  ss : List Fs
  xs : List (Str × Option Xs)
  anc : List (List Nat × List Nat)
  cs : List Str
  gs : List Str
/-- the defaults that are tuples -/
def dflC (K : Fq) (a : Addr) (p : Tx × D) : Bool := match p.2 with
  | .tup ds => (match kwV K a (sS p.1) with
    | .ref t => (match K.lookup t with
      | some ⟨.type c, _, .seq its _, _⟩ => decide (c = "tuple") && (decide (its.size ≤ sizeLine) && ((ds.all flat1) && He.relAll (ds.map vOf) its.toList))
      | _ => false)
    | _ => false)
  | d => flat1 d
theorem dflC_ok {G : G0} {a : Addr} {p : Tx × D} (h : dflC G.K a p = true) (ω : Wd) : Rel G ω p.2 (dfV G.K a p.1 p.2) := by
  obtain ⟨x, d⟩ := p
  have fl : flat1 d = true → dfV G.K a x d = vOf d → Rel G ω d (dfV G.K a x d) := fun c e => by rw [e]; exact vOf_ok c
  cases d with
  | tup ds =>
    unfold dflC at h
    dsimp only at h
    split at h
    · rename_i t et
      split at h
      · rename_i cl od its n osl el
        simp only [Bool.and_eq_true, decide_eq_true_eq] at h
        obtain ⟨c1, c2, c3, c4⟩ := h
        show Rel G ω (.tup ds) (kwV G.K a (sS x))
        rw [et, Rel]
        exact ⟨t, ds.map vOf, rfl, .inr ⟨_, its, n, el, congrArg Value.type c1, rfl, c2, He.relAll_ok c4⟩, rels_flat c3⟩
      · cases h
    · cases h
  | non => exact fl rfl rfl
  | bl _ => exact fl rfl rfl
  | int _ => exact fl rfl rfl
  | str _ => exact fl rfl rfl
  | _ => cases h
def ckX (m : Md) (P : Pg) (K : Fq) : Bool := (m.ss.all fun s => decide (s.gname = Str.empty) || (gloB K s.gname && decide (s.adr K = He.ga K s.gname))) && ((frees.all (freeB K)) && ((m.xs.all fun p => gloB K p.1 && (PySem.W.keepIn K (.ref (He.ga K p.1)) && (match p.2 with
  | some x => decide (x.name = p.1) && xhB K x
  | none => true))) && (subB K m.xs m.anc && ((m.cs.all (gloB K)) && (((m.cs.zip P.cls).all fun p => clsB K (He.ga K p.1) m.ss p.2) && ((m.cs.all fun a => m.cs.all fun b => decide (PySem.W.kitOne K (.ref (He.ga K a)) (.ref (He.ga K b)) = some (decide (a = b)))) &&
  (((m.gs.zip P.glo).all fun p => gcB K p.1 p.2) && ((m.ss.zip P.fns).all fun p => p.2.kwo.all (dflC K (p.1.adr K))))))))))
def keyT : D → Option Str
  | .str z => some (sS z)
  | _ => none
def tabX (m : Md) (P : Pg) : List He.Tab := (m.gs.zip P.glo).filterMap fun p => match p.2 with
  | .dct ks _ => some (atG p.1, ks.filterMap keyT)
  | _ => none
def fnsX (m : Md) (P : Pg) : List Df := (m.ss.zip P.fns).map (fun p => fDf p.1 p.2) ++ m.xs.filterMap fun p => p.2.map xDf
end Ev
namespace Ev
open PySem PySem.Spec PyProof.Rows L2 PySem.EvXK EvCall
/-- plain parameters -/
def plainA (ps : List Str) : Arguments → Bool
  | ⟨[], as, none, [], [], none, []⟩ => decide (as.map (·.arg) = ps) && decide ps.Nodup
  | _ => false
theorem zip_look : ∀ {ns : List Str} {us : List Value}, ns.Nodup → us.length = ns.length → ∀ n ∈ ns, ((ns.zip us).lookup n).isNone = false
  | [], _, _, _, n, h => nomatch h
  | x :: ns, [], _, hl, n, h => by cases hl
  | x :: ns, u :: us, nd, hl, n, h => by
    rw [List.zip_cons_cons, List.lookup_cons]
    by_cases e : n = x
    · subst e
      simp
    · have q : (n == x) = false := beq_eq_false_iff_ne.mpr e
      rw [q]
      rcases List.mem_cons.mp h with z | z
      · exact absurd z e
      · exact zip_look (List.nodup_cons.mp nd).2 (by simpa using hl) n z
theorem fm_congr {α β : Type} {f g : α → Option β} : ∀ {l : List α}, (∀ n ∈ l, f n = g n) → l.filterMap f = l.filterMap g
  | [], _ => rfl
  | a :: l, h => by
    rw [List.filterMap_cons, List.filterMap_cons, h a List.mem_cons_self, fm_congr fun n hn => h n (List.mem_cons_of_mem _ hn)]
theorem zip_bind : ∀ {ns : List Str} {us : List Value}, ns.Nodup → us.length = ns.length → (ns.filterMap fun n => ((ns.zip us).lookup n).map fun v => (n, v)) = ns.zip us
  | [], _, _, _ => by simp
  | x :: ns, [], _, hl => by cases hl
  | x :: ns, u :: us, nd, hl => by
    obtain ⟨n1, n2⟩ := List.nodup_cons.mp nd
    have ih := zip_bind n2 (show us.length = ns.length by simpa using hl)
    rw [List.zip_cons_cons, List.filterMap_cons, List.lookup_cons]
    simp only [beq_self_eq_true, Option.map_some]
    congr 1
    refine (fm_congr fun n hn => ?_).trans ih
    have q : (n == x) = false := beq_eq_false_iff_ne.mpr fun z => n1 (z ▸ hn)
    rw [List.lookup_cons, q]
theorem bind_plain {x q : Str} {as : Arguments} {body : List Stmt} {sc : Scope} {ps : List Str} (h : plainA ps as = true) (kV doc pm : Value) (an : Option Addr) (cdv ct : Value) (us : List Value) (hl : us.length = ps.length) :
    bindArgs (PySem.W.fnOf x q as body sc .none kV doc pm an cdv ct) ⟨us, []⟩ = pure (ps.zip us) := by
  unfold plainA at h
  split at h
  · rename_i ag
    rw [Bool.and_eq_true] at h
    obtain ⟨h1, h2⟩ := h
    have h1 := of_decide_eq_true h1
    have h2 := of_decide_eq_true h2
    have e1 : (ps.filter fun n => ((ps.zip us).lookup n).isNone) = [] := by
      rw [List.filter_eq_nil_iff]
      intro n hn
      rw [zip_look h2 hl n hn]
      decide
    have e2 := zip_bind h2 hl
    simp [bindArgs, PySem.W.fnOf, seqItems?, h1, hl, e1, e2]
    try rfl
  · cases h
/-! ### the end -/
def nmOf (m : Md) : Nm := ⟨m.ss.map Fs.gname, xNames m.xs, m.cs, m.gs⟩
/-- what is known of the law's lambdas -/
structure Lx where
  tp : Addr
  lq : Str
  lo : Nat → Addr → Addr → HO
def lx0 : Lx := ⟨0, Str.empty, fun _ _ _ => .own 0⟩
def GOf (K : Fq) (m : Md) (x : Lx) : G0 := ⟨K, fun i => He.ga K ((m.xs[i]?.map (·.1)).getD Str.empty), fun i => He.ga K ((m.cs[i]?).getD Str.empty), x.tp, x.lq, x.lo⟩
section
variable {prog : Program} {w : World} {mg : Str → Option Value} {base : Heap} {K : Fq} {h : Heap} {m : Md} {P : Pg}
theorem gloB_ok (X : K.In h) (G : h.Ns mainGlobals mg) {x : Str} (c : gloB K x = true) : mg x = some (.ref (He.ga K x)) := PySem.W.mg_of X G (of_decide_eq_true c)
theorem freeB_ok (X : K.In h) (G : h.Ns mainGlobals mg) {x : Str} (c : freeB K x = true) : mg x = none := PySem.W.mg_none_of X G (of_decide_eq_true c)
/-- all facts -/
theorem facts_of {lx : Lx} (X : K.In h) (N : h.Ns mainGlobals mg) (c : SaysX (ckX m P) (fnsX m P) (tabX m P) w K) (hx : m.xs.all (fun p => match p.2 with
    | some x => xsB x
    | none => true) = true) (hla : m.xs.length = m.anc.length) (hlf : m.ss.length = P.fns.length) (hlc : m.cs.length = P.cls.length) (hlg : m.gs.length = P.glo.length) (hsub : P.sub = subOf m.anc) (hexn : P.exn = exnOf m.xs) (hcn : m.cs.Nodup) :
    ∃ ft : List Ft, ft.map Ft.name = m.ss.map Fs.gname ∧ ft.length = P.fns.length ∧ (∀ (i : Nat) t, ft[i]? = some t → ∃ s fd, m.ss[i]? = some s ∧ P.fns[i]? = some fd ∧ Fct (GOf K m lx) mg s fd t) ∧ (∀ (i : Nat) t, ft[i]? = some t → ∃ s, m.ss[i]? = some s ∧ t.adr = s.adr K) ∧ Tops (GOf K m lx) P w mg ft (nmOf m) := by
  have ck := c.ck_
  unfold ckX at ck
  simp only [Bool.and_eq_true, List.all_eq_true] at ck
  obtain ⟨c1, c2, c3, c4, c5, c6, c7, c8, c9⟩ := ck
  have hft : ∀ (i : Nat) t, (m.ss.map fun s => (⟨s.gname, s.adr K⟩ : Ft))[i]? = some t → ∃ s, m.ss[i]? = some s ∧ t = ⟨s.gname, s.adr K⟩ := fun i t e => by
    rw [List.getElem?_map] at e
    cases es : m.ss[i]? with
    | none => rw [es] at e; cases e
    | some s =>
      rw [es] at e
      exact ⟨s, rfl, (Option.some.inj e).symm⟩
  have hadr : ∀ (i : Nat) t, (m.ss.map fun s => (⟨s.gname, s.adr K⟩ : Ft))[i]? = some t → ∃ s, m.ss[i]? = some s ∧ t.adr = s.adr K := fun i t e => by
    obtain ⟨s, h1, h2⟩ := hft i t e
    exact ⟨s, h1, by rw [h2]⟩
  have CCi : ∀ (i : Nat) x, m.cs[i]? = some x → (GOf K m lx).CC i = He.ga K x := fun i x e => by
    show He.ga K ((m.cs[i]?).getD Str.empty) = _
    rw [e]
    rfl
  have clf : ∀ (i : Nat) cd, P.cls[i]? = some cd → CF (GOf K m lx) (m.ss.map fun s => (⟨s.gname, s.adr K⟩ : Ft)) i cd ∧ PySem.W.keepIn K (.ref ((GOf K m lx).CC i)) = true := fun i cd e => by
    have il : i < m.cs.length := by rw [hlc]; exact (List.getElem?_eq_some_iff.mp e).1
    obtain ⟨x, ex⟩ : ∃ x, m.cs[i]? = some x := ⟨_, List.getElem?_eq_getElem il⟩
    have hz : (x, cd) ∈ m.cs.zip P.cls := List.mem_of_getElem? (i := i) (by rw [List.getElem?_zip_eq_some]; exact ⟨ex, e⟩)
    have z := c6 (x, cd) hz
    exact clsB_ok (G := GOf K m lx) hadr (by rw [List.length_map]) (by rw [CCi i x ex]; exact z)
  refine ⟨m.ss.map fun s => ⟨s.gname, s.adr K⟩, by rw [List.map_map]; rfl, by rw [List.length_map, hlf], fun i t e => ?_, hadr, fun x hx => freeB_ok X N (c2 x hx), fun i x e => ?_, fun i cd e => (clf i cd e).1, by show m.cs.length ≤ _; rw [hlc]; exact Nat.le_refl _, fun i j hi hj => ?_, fun i x e => ?_, fun i x f e => ?_, fun i q b e => ?_⟩
  · obtain ⟨s, es, et⟩ := hft i t e
    obtain ⟨fd, ef⟩ : ∃ fd, P.fns[i]? = some fd := ⟨_, List.getElem?_eq_getElem (by rw [← hlf]; exact (List.getElem?_eq_some_iff.mp es).1)⟩
    have hz : (s, fd) ∈ m.ss.zip P.fns := List.mem_of_getElem? (i := i) (by rw [List.getElem?_zip_eq_some]; exact ⟨es, ef⟩)
    have F := c.def_ (d := fDf s fd) (List.mem_append_left _ (List.mem_map.mpr ⟨_, hz, rfl⟩))
    subst et
    refine ⟨s, fd, es, ef, F, rfl, fun hne => ?_, fun p hp ω => dflC_ok (G := GOf K m lx) (c9 (s, fd) hz p hp) ω⟩
    have z := c1 s (List.mem_of_getElem? es)
    rw [Bool.or_eq_true] at z
    rcases z with z | z
    · exact absurd (of_decide_eq_true z) hne
    · rw [Bool.and_eq_true] at z
      show mg s.gname = some (.ref (s.adr K))
      rw [of_decide_eq_true z.2]
      exact gloB_ok X N z.1
  · have ex : m.cs[i]? = some x := e
    have il : i < P.cls.length := by rw [← hlc]; exact (List.getElem?_eq_some_iff.mp ex).1
    rw [CCi i x ex]
    refine ⟨gloB_ok X N (c5 x (List.mem_of_getElem? ex)), ?_⟩
    have z := (clf i _ (List.getElem?_eq_getElem il)).2
    rw [CCi i x ex] at z
    exact z
  · have hi : i < m.cs.length := by rw [hlc]; exact hi
    have hj : j < m.cs.length := hj
    have ei := List.getElem?_eq_getElem hi
    have ej := List.getElem?_eq_getElem hj
    have z := of_decide_eq_true (c7 _ (List.mem_of_getElem? ei) _ (List.mem_of_getElem? ej))
    rw [CCi i _ ei, CCi j _ ej]
    refine z.trans (congrArg some ?_)
    by_cases q : i = j
    · subst q
      rw [decide_eq_true rfl, Nat.beq_refl]
    · rw [decide_eq_false fun z => q ((List.getElem_inj hcn).mp z)]
      symm
      cases hb : Nat.beq i j with
      | false => rfl
      | true => exact absurd (Nat.eq_of_beq_eq_true hb) q
  · have ex : m.gs[i]? = some x := e
    obtain ⟨d, ed⟩ : ∃ d, P.glo[i]? = some d := ⟨_, List.getElem?_eq_getElem (by rw [← hlg]; exact (List.getElem?_eq_some_iff.mp ex).1)⟩
    have hz : (x, d) ∈ m.gs.zip P.glo := List.mem_of_getElem? (i := i) (by rw [List.getElem?_zip_eq_some]; exact ⟨ex, ed⟩)
    refine ⟨d, ed, gcB_ok (G := GOf K m lx) X N (c8 (x, d) hz) fun ks ds z => ?_⟩
    subst z
    exact c.tab_ (t := (atG x, ks.filterMap keyT)) (List.mem_filterMap.mpr ⟨_, hz, rfl⟩)
  · have e : (xNames m.xs)[i]? = some (x, f) := e
    unfold xNames at e
    rw [List.getElem?_map] at e
    cases ep : m.xs[i]? with
    | none => rw [ep] at e; cases e
    | some p =>
      rw [ep] at e
      have e := Option.some.inj e
      obtain ⟨ex, ef⟩ := Prod.mk.inj e
      have hm : p ∈ m.xs := List.mem_of_getElem? ep
      have ga : (GOf K m lx).CA i = He.ga K x := by
        show He.ga K ((m.xs[i]?.map (·.1)).getD Str.empty) = _
        rw [ep]
        exact congrArg (He.ga K) ex
      obtain ⟨d1, d2, d3⟩ := c3 p hm
      rw [ex] at d1 d2
      refine ⟨by rw [ga]; exact gloB_ok X N d1, by rw [ga]; exact d2, fun code f' e2 => ?_⟩
      have e2 : (exnOf m.xs)[i]? = some (some (code, f')) := by rw [← hexn]; exact e2
      unfold exnOf at e2
      rw [List.getElem?_map, ep] at e2
      have e2 : p.2.map (fun x => (x.code, x.fld)) = some (code, f') := Option.some.inj e2
      cases e3 : p.2 with
      | none => rw [e3] at e2; cases e2
      | some y =>
        rw [e3] at e2 d3 ef
        obtain ⟨e4, e5⟩ := Prod.mk.inj (Option.some.inj e2)
        have d3 : (decide (y.name = p.1) && xhB K y) = true := d3
        rw [Bool.and_eq_true] at d3
        have yn := of_decide_eq_true d3.1
        have xb : xsB y = true := by
          have := List.all_eq_true.mp hx p hm
          rw [e3] at this
          exact this
        obtain ⟨fd, F⟩ := c.def_ (d := xDf y) (List.mem_append_right _ (List.mem_filterMap.mpr ⟨p, hm, by rw [e3]; rfl⟩))
        have z := xcl_of xb d3.2 F
        rw [e4, e5, yn, ex] at z
        rw [ga]
        refine ⟨?_, z⟩
        rw [← e5]
        exact ef.symm
  · unfold subB at c4
    simp only [List.all_eq_true, Bool.and_eq_true] at c4
    have e : subOf m.anc i q = some b := by rw [← hsub]; exact e
    cases q with
    | own j =>
      unfold subOf at e
      cases ea : m.anc[i]? with
      | none => rw [ea] at e; cases e
      | some p =>
        rw [ea] at e
        have e : (if j < m.anc.length then some (p.1.contains j) else none) = some b := e
        split at e
        · rename_i hj
          have il : i < m.anc.length := (List.getElem?_eq_some_iff.mp ea).1
          obtain ⟨xi, ei⟩ : ∃ xi, m.xs[i]? = some xi := ⟨m.xs[i]'(by omega), List.getElem?_eq_getElem (by omega)⟩
          obtain ⟨xj, ej⟩ : ∃ xj, m.xs[j]? = some xj := ⟨m.xs[j]'(by omega), List.getElem?_eq_getElem (by omega)⟩
          have hz : (xi, p) ∈ m.xs.zip m.anc := List.mem_of_getElem? (i := i) (by rw [List.getElem?_zip_eq_some]; exact ⟨ei, ea⟩)
          have q1 := (c4 (xi, p) hz).1 j (List.mem_range.mpr (by omega))
          rw [ej] at q1
          refine ⟨_, rfl, ?_⟩
          show PySem.W.kitOne K (.ref (He.ga K ((m.xs[i]?.map (·.1)).getD Str.empty))) (.ref (He.ga K ((m.xs[j]?.map (·.1)).getD Str.empty))) = some b
          rw [ei, ej]
          exact (of_decide_eq_true q1).trans e
        · cases e
    | ext j =>
      unfold subOf at e
      cases ea : m.anc[i]? with
      | none => rw [ea] at e; cases e
      | some p =>
        rw [ea] at e
        have e : (if j < 3 then some (p.2.contains j) else none) = some b := e
        split at e
        · rename_i hj
          have il : i < m.anc.length := (List.getElem?_eq_some_iff.mp ea).1
          obtain ⟨xi, ei⟩ : ∃ xi, m.xs[i]? = some xi := ⟨m.xs[i]'(by omega), List.getElem?_eq_getElem (by omega)⟩
          have hz : (xi, p) ∈ m.xs.zip m.anc := List.mem_of_getElem? (i := i) (by rw [List.getElem?_zip_eq_some]; exact ⟨ei, ea⟩)
          have q1 := (c4 (xi, p) hz).2 j (by have : j = 0 ∨ j = 1 ∨ j = 2 := by omega
                                             rcases this with rfl | rfl | rfl <;> simp)
          obtain ⟨t, et⟩ : ∃ t, extName j = some t := by
            have : j = 0 ∨ j = 1 ∨ j = 2 := by omega
            rcases this with rfl | rfl | rfl <;> exact ⟨_, rfl⟩
          rw [et] at q1
          refine ⟨.type t, by show (extName j).map Value.type = _; rw [et]; rfl, ?_⟩
          show PySem.W.kitOne K (.ref (He.ga K ((m.xs[i]?.map (·.1)).getD Str.empty))) (.type t) = some b
          rw [ei]
          exact (of_decide_eq_true q1).trans e
        · cases e
    | _ => cases e
/-- the law's own def -/
theorem law_fn {n : Nm} {ft : List Ft} {ss : List Fs} {G : G0} (hn : n.fn = ft.map Ft.name) (hf : ∀ (i : Nat) t, ft[i]? = some t → ∃ s fd, ss[i]? = some s ∧ P.fns[i]? = some fd ∧ Fct G mg s fd t) (hlen : ft.length = P.fns.length) (hok : okFs n ss P.fns = true) (ht : Tops G P w mg ft n) {k f : Nat} {t : Ft} {s : Fs} {fd : FD} {x : Str}
    (et : ft[f]? = some t) (es : ss[f]? = some s) (ef : P.fns[f]? = some fd) (hp : plainA [x] (defArgs s.st) = true) (hps : scB s.N [x] (defScope s.st) = true) :
    ∃ fd' : FuncData, (∀ (s : Shared) (v : Value), BindsTo s fd' ⟨[v], []⟩ [(x, v)]) ∧ ∀ base : Heap, FnOk prog w G.K mg base (L2.CX prog w) (6 * k + 14) t.adr fd' [x] (fun vs H Q E => vs.length = 1 ∧ spB G P k fd vs H Q E) := by
  obtain ⟨s0, fd0, es0, ef0, F⟩ := hf f t et
  rw [es] at es0
  cases es0
  rw [ef] at ef0
  cases ef0
  obtain ⟨fd1, ef1, okf⟩ := okFs_at hok es
  rw [ef] at ef1
  cases ef1
  unfold okF at okf
  simp only [Bool.and_eq_true] at okf
  obtain ⟨h1, h3, h4⟩ := okf
  have h3 := of_decide_eq_true h3
  have sc := scB_ok hps
  obtain ⟨fd', FF⟩ := F.fun_
  have kz : FunD G.K s.name s.qual (defArgs s.st) (defBody s.st) (defScope s.st) [] (kwsV G.K t.adr fd) t.adr fd' := FF
  refine ⟨fd', fun s1 v => ?_, fun base => ?_⟩
  · have b := FunD.bindsA (ps := [x]) FF fun kV doc pm an cdv ct us hl => bind_plain (ps := [x]) hp kV doc pm an cdv ct us hl
    exact b s1 [v] rfl
  · refine FF.ok (k := 6 * k + 13) sc (fun vs H Q E h => h.1) fun cdv A outer s1 H vs Q E hr h => ?_
    have O : Ok ⟨G, E⟩ P ft k (ckOf s n) (cxOf (L2.CX prog w) prog w G.K mg base s.N s.qual (defScope s.st) t.adr cdv A outer s1 H E) :=
      ⟨rfl, rfl, rfl, sc.nd, rfl, hr.mono (by omega), takes_of rfl rfl rfl rfl, PassesOwn.leaving, fun _ _ => rfl, hn, hlen, fun g u eu => by
        obtain ⟨s', fd', _, _, F'⟩ := hf g u eu
        obtain ⟨_, FF⟩ := F'.fun_
        exact ⟨F'.glo, FF.kp, all_ok hn hf hlen hok ht k g u eu⟩, ht.cls, ht.clf, ht.cnl, ht.kit, ht.glo, ht.free, ht.xcs, ht.sub, (fun _ _ z => nomatch z)⟩
    refine ⟨_, sndSs fd.body _ _ _ _ O sc.kind h4, ?_⟩
    obtain ⟨_, ω, M, xs, hh, r, hl, post⟩ := h
    refine ⟨ω, M, _, env_start (n := fd.ns) r h3 hl, hh, ?_⟩
    unfold bodyR at post
    cases e8 : execs (ecN P k) fd.body (xs.map some ++ List.replicate (fd.ns - xs.length) none) M with
    | nx env' M' =>
      rw [e8] at post
      exact fun ω' σ' H' le he' hh' => post ω' H' .non le hh' (by rw [Rel])
    | rt d M' => rw [e8] at post; exact post
    | bk _ _ => rw [e8] at post; exact False.elim post
    | ct _ _ => rw [e8] at post; exact False.elim post
    | er => rw [e8] at post; exact False.elim post
    | ex _ _ => rw [e8] at post; exact post
theorem law_sp {G : G0} {k : Nat} {fd : FD} {H : Hp} {a : Addr} {ns : List Int} {E : XK} (hS : SqL G.K H a (ns.map V.int)) (hl : 1 ≤ fd.ns) (h : ∃ M, bodyR P k fd [.fro (ns.map D.int)] [] = .ok (.bl true) M) : [V.ref a].length = 1 ∧ spB G P k fd [.ref a] H (fun v _ => v = .bl true) E := by
  obtain ⟨M, h⟩ := h
  refine ⟨rfl, ⟨[], H, fun _ => none⟩, [], [.fro (ns.map D.int)], ⟨fun _ _ z => z, (fun p o z => nomatch z), rfl, (fun a o z => by simp at z), List.nodup_nil, (fun p z => nomatch z), fun _ _ _ => rfl, (fun _ z => nomatch z), (fun a z => by simp at z), (fun _ _ z => nomatch z)⟩, Rels.one ?_, hl, ?_⟩
  · rw [Rel]
    exact ⟨a, _, rfl, hS, rels_ints ns⟩
  · rw [h]
    intro ω' H' v _ _ r
    rw [Rel] at r
    exact r
end
end Ev


set_option autoImplicit false
set_option Elab.async false
set_option linter.all false
set_option maxRecDepth 100000
set_option maxHeartbeats 4000000
/-! EvLa: defs called where an exception is handled; try .. except (A, B, C) as e. -/
namespace Ev
open PySem PySem.Spec PyProof.Rows L2 RZ EvCall
/-- the context of a def's body, whatever is handled around -/
def cxJ (CX : CXT) (P : Program) (w : World) (K : PySem.W.Frag) (mg : Str → Option Value) (base : Heap) (N : List Str) (qual : Str) (scope : Scope) (f : Addr) (cd : Value) (A : Around) (outer : List Env) (s : Shared) (H : Hp) (E : XK) : L2.Cx :=
  { cxOf CX P w K mg base N qual scope f cd A outer s H E with calm := false }
theorem inv_startJ {CX : CXT} {P : Program} {w : World} {K : PySem.W.Frag} {mg : Str → Option Value} {base : Heap} {N ps : List Str} {qual : Str} {scope : Scope} {f : Addr} {cd : Value} {A : Around} {outer : List Env} {s s1 : Shared} {H : Hp} {E : XK} {us : List Value} {vs : List V}
    (S : FnScope N ps scope) (e0 : Env0 P w K mg base A outer s H) (hl : vs.length = ps.length) (r : Vals vs us)
    (x : InCallC s s.heap.objs.size (bindL (envOfC qual scope s.heap.objs.size f cd).kindOf (ps.zip us) fun _ => none) (cellsFrom (s.heap.objs.size + 1) scope.names []) (bindC (envOfC qual scope s.heap.objs.size f cd).kindOf (ps.zip us) fun _ => none) s1) :
    Inv (cxJ CX P w K mg base N qual scope f cd A outer s H E) [] (L2.start N vs) H s1 := by
  have hpl : ps.length ≤ N.length := by have := congrArg List.length S.pre; rw [List.length_take] at this; omega
  obtain ⟨h1, tk, rfl, hk⟩ := x.done
  have noA : ∀ b : Addr, b ∉ (cxJ CX P w K mg base N qual scope f cd A outer s H E).ex := fun b z => absurd (show b ∈ ([] : List Addr) from z) (by simp)
  refine ⟨⟨e0.mod, S.kind, rfl, rfl, Nat.le_refl _, fun y z c h1 h2 => ?_, fun y hy => ?_, fun y c _ h => ?_, (fun z => Bool.noConfusion (show false = true from z)), Around.frames_deeper e0.frames, .inr ⟨rfl, rfl⟩, fun b z => absurd z (noA b), e0.bs, e0.bsz, fun b _ _ => noA b, fun b z => absurd z (noA b), e0.funs, e0.frf⟩,
    rfl, e0.bare, Un.kept hk, ⟨_, x.toInCall.ns, fun i y v h1 h2 h3 => ?_⟩, fun y c h => ⟨_, x.cell y c h⟩, e0.hok.fresh (Nat.le_refl _), fun y c h => ?_, fun q hq => ?_, e0.hok.kept hk, ?_⟩
  · exact name_of_addr x.apart (PySem.mem_of_lookup h1) (PySem.mem_of_lookup h2)
  · have hy : scope.names.lookup y = some .cell ∨ scope.names.lookup y = some .free := hy
    rcases hy with hy | hy
    · exact cell_has hy
    · exact absurd rfl (S.nofree _ (PySem.mem_of_lookup hy))
  · exact Nat.le_of_lt (x.above y c (PySem.mem_of_lookup h))
  · have hi : i < vs.length := by
      unfold L2.start at h2
      by_cases hi : i < vs.length
      · exact hi
      · rw [List.getElem?_append_right (by simpa using hi)] at h2
        rw [List.getElem?_replicate] at h2
        split at h2 <;> cases h2
    have ha : vs[i]? = some v := by
      unfold L2.start at h2
      rw [List.getElem?_append_left (by simpa using hi), List.getElem?_map] at h2
      cases e : vs[i]? with
      | none => rw [e] at h2; cases h2
      | some a => rw [e] at h2; cases h2; rfl
    obtain ⟨u, hu, rv⟩ := r.get ha
    have hp : ps[i]? = some y := by
      rw [← S.pre, List.getElem?_take_of_lt (by omega)]; exact h1
    have ndP : ps.Nodup := by rw [← S.pre]; exact S.nd.sublist (List.take_sublist _ _)
    refine ⟨u, rv, ?_⟩
    rcases S.par y (List.mem_of_getElem? hp) with k | k
    · exact .inl ⟨k, bindL_get ndP hp hu k⟩
    · obtain ⟨c, e⟩ := cell_has (n := s.heap.objs.size + 1) k
      refine .inr ⟨.inl k, c, e, ?_⟩
      have q := x.cell y c e
      rw [bindC_get ndP hp hu (by show scope.names.lookup y ≠ _; rw [k]; decide)] at q
      exact q
  · exact e0.hok.fresh (Nat.le_of_lt (x.above y c (PySem.mem_of_lookup h)))
  · exact absurd (show q ∈ ([] : List (Addr × Obj)) ++ [] from hq) (by simp)
  · unfold L2.start
    show _ = N.length
    rw [List.length_append, List.length_map, List.length_replicate]
    omega
theorem run_ofJ {CX : CXT} {P : Program} {w : World} {K : PySem.W.Frag} {mg : Str → Option Value} {base : Heap} {f : Addr} {name qual : Str} {params : Arguments} {body : List Stmt} {scope : Scope} {dV kV doc pm cdv ct oc : Value} {an od : Option Addr}
    {osl : Array (Option Value)} {N ps : List Str} (lk : K.lookup f = some ⟨oc, od, .func (PySem.W.fnOf name qual params body scope dV kV doc pm an cdv ct), osl⟩) (hcd : PySem.W.codeIn K cdv qual = true) (S : FnScope N ps scope)
    {A : Around} {outer : List Env} {s : Shared} {H : Hp} {args : Args} {us : List Value} {vs : List V} {Q : VK} {E : XK} (hr : A.depth < recursionLimit) (e0 : Env0 P w K mg base A outer s H) (hb : BindsTo s (PySem.W.fnOf name qual params body scope dV kV doc pm an cdv ct) args (ps.zip us)) (r : Vals vs us) (hl : vs.length = ps.length)
    (hbody : ∃ t, PSs (cxJ CX P w K mg base N qual scope f cdv A outer s H E) body t ∧ t { nx := fun _ H' => Q .non H', rt := Q } (L2.start N vs) H) :
    codeAny (model P w) A (.call (.ref f) args) (CR CX outer P w H s Q E) s := by
  have KX : K.In s.heap := e0.mod.kin.keeps fun b o e => (e0.bs b o e).1
  have lim : s.heap.NoLimit := e0.mod.nolimit.keeps fun b o e => (e0.bs b o e).1
  have hkind : ∀ y ∈ ps.zip us, scope.names.lookup y.1 = some .local ∨ (scope.names.lookup y.1 = some .cell ∧ ((cellsFrom (s.heap.objs.size + 1) scope.names []).lookup y.1).isSome = true) := fun ⟨n, v⟩ hy => by
    rcases S.par n (List.of_mem_zip hy).1 with q | q
    · exact .inl q
    · exact .inr ⟨q, PySem.W.cellsFrom_some _ _ _ (.inl q)⟩
  refine codeAny_call_function hr (KX _ _ lk) rfl S.co S.gen rfl (PySem.W.codeRec_of KX hcd) (hb _ _ _ _ ?_)
  refine wpAny_newFunctionEnv_cells S.kind hkind fun env he s1 x => ?_
  subst he
  refine ⟨lim.keeps x.toInCall.keep, codeAny_func ?_⟩
  obtain ⟨t, ht, hq⟩ := hbody
  have I : Inv (cxJ CX P w K mg base N qual scope f cdv A outer s H E) [] (L2.start N vs) H s1 := inv_startJ S e0 hl r x
  refine wpAny_mono (ht.run [] s1 (L2.start N vs) H _ I hq) (fun fl s' hs => ?_) fun e s' hs => hs
  have fin : ∀ {σ' : L2.St} {H' : Hp} {v : V} {u : Value}, Inv (cxJ CX P w K mg base N qual scope f cdv A outer s H E) [] σ' H' s' → RelV v u → Q v H' → CE outer P w H s Q u s' :=
    fun {σ' H' v u} J rv q => ⟨v, H', J.os, J.bare, J.base, J.hok, rv, q⟩
  cases fl with
  | ret u =>
    obtain ⟨v, σ', H', J, rv, q⟩ := hs
    exact fin J rv q
  | next =>
    obtain ⟨σ', H', J, q⟩ := hs
    exact fin (v := V.non) (u := Value.none) J rfl q
  | brk =>
    obtain ⟨_, _, _, q⟩ := hs
    exact False.elim q
  | cont =>
    obtain ⟨_, _, _, q⟩ := hs
    exact False.elim q
end Ev


set_option autoImplicit false
set_option Elab.async false
set_option linter.all false
set_option maxRecDepth 100000
set_option maxHeartbeats 4000000
/-! EvLb: try .. except (A, B, C) as e. -/
namespace Ev
open PySem PySem.Spec PyProof.Rows L2 RZ EvCall
abbrev suiteJ (X : L2.Cx) (a : Addr) : L2.Cx := { X with A := X.A.mark (some (.ref a)), calm := false, xe := fun _ _ => False }
section
variable {X : L2.Cx} {pins : List (Addr × Obj)} {σ : L2.St} {H : Hp} {s : Shared}
theorem okJ (ok : X.Ok) (a : Addr) : (suiteJ X a).Ok :=
  ⟨ok.mod, ok.kind, ok.glob, ok.blt, ok.above, ok.inj, ok.has, ok.cab, (fun z => absurd (show false = true from z) Bool.false_ne_true), ok.frames, ok.stk, ok.exf, ok.bs, ok.bsz, ok.noex, ok.exfs, ok.funs, ok.frf⟩
theorem invJ (I : Inv X pins σ H s) (a : Addr) : Inv (suiteJ X a) pins σ H s :=
  ⟨okJ I.ok a, I.os, I.bare, I.base, I.loc, I.cell, I.free, I.freeC, I.pin, I.hok, I.len⟩
theorem unJ {a : Addr} (I : Inv (suiteJ X a) pins σ H s) (ok : X.Ok) : Inv X pins σ H s :=
  ⟨ok, I.os, I.bare, I.base, I.loc, I.cell, I.free, I.freeC, I.pin, I.hok, I.len⟩
/-- an object that stands there is told of -/
theorem inv_held {a : Addr} {u : HO} (J : Inv X pins σ H s) (na : H a = none) (n0 : ∀ b o, X.s_0.heap.get? b = some o → b ∉ X.ex → b ≠ a) (nL : a ≠ X.env.locals) (nc : ∀ x c, X.env.cells.lookup x = some c → c ≠ a) (np : ∀ p ∈ X.pn ++ pins, p.1 ≠ a) (hu : ObjOk X.prog X.w (upd H a u) s.heap a u) : Inv X pins σ (upd H a u) s := by
  refine ⟨J.ok, J.os, J.bare, ⟨J.base.keep, J.base.slot, fun b o e n hx => ?_, J.base.there, fun b xs e => ?_, fun b o v e => ?_, fun b ps e => ?_⟩, J.loc, J.cell, ?_, fun x c e => ?_, fun p hp => ?_, fun b o e => ?_, J.len⟩
  · rw [upd_ne (n0 b o e hx)]
    exact J.base.free b o e n hx
  · have z := J.base.tups b xs e
    rw [upd_ne (ne_of_none z na)]
    exact z
  · have z := J.base.frzs b o v e
    rw [upd_ne (ne_of_none z na)]
    exact z
  · obtain ⟨more, z⟩ := J.base.tbls b ps e
    exact ⟨more, by rw [upd_ne (ne_of_none z na)]; exact z⟩
  · rw [upd_ne (Ne.symm nL)]
    exact J.free
  · rw [upd_ne (nc x c e)]
    exact J.freeC x c e
  · obtain ⟨h1, h2, h3⟩ := J.pin p hp
    exact ⟨h1, by rw [upd_ne (np p hp)]; exact h2, h3⟩
  · by_cases hb : b = a
    · subst hb
      rw [upd_same] at e
      cases e
      exact hu
    · rw [upd_ne hb] at e
      exact (J.hok b o e).stay (fun c v _ q => q) (fun c q => by rw [upd_ne (ne_of_none q na)]; exact q) fun c xs q => by rw [upd_ne (ne_of_none q na)]; exact q
end
theorem flying_push {B h : Heap} {l : List PySem.Env} {a : Addr} {Z : Obj → Prop} {o : Obj} (x : PySem.HandSPX.FlyingZ B l a Z h) : PySem.HandSPX.FlyingZ B l a Z (h.push o) := by
  obtain ⟨f1, f2, f3, oe, vs, T, oT, ts, he, hz, hd, h1, hnT, hTe, hT, hdT, h3⟩ := x
  exact ⟨fun b o e => Heap.get?_push_of_some _ (f1 b o e), f2, f3.of_keeps fun b o hb hnf => ⟨o, Heap.get?_push_of_some _ hb, rfl⟩,
    oe, vs, T, oT, ts, Heap.get?_push_of_some _ he, hz, hd, h1, hnT, hTe, Heap.get?_push_of_some _ hT, hdT, h3⟩
/-- what the clause wishes of an exception of the body: slot i is its name's -/
def wTry (X : L2.Cx) (cs : List Value) (i : Nat) (ts : Value → Option Addr → TS) (D : Ends) : XK := fun cls d H =>
  PySem.W.exmAny X.K cls cs = some true ∧ ∀ a, H a = none → ∀ σ : L2.St, σ.length = X.N.length → ts cls d { nx := fun σ' H' => D.nx (σ'.set i none) H', rt := D.rt, bk := fun σ' H' => D.bk (σ'.set i none) H', ct := fun σ' H' => D.ct (σ'.set i none) H' } (σ.set i (some (.ref a))) (upd H a (exq a cls d))
section
variable {X : L2.Cx} {x1 x2 x3 n : Str} {c1 c2 c3 : Value} {i tn : Nat} {body suite : List Stmt} {b₀ : Stmt} {p1 p2 p3 pt pos pos' : Pos} {tb : XK → TS} {ts : Value → Option Addr → TS}
theorem ps_try3 (hs : X.stack = X.env :: X.outer) (hf : X.env.frame = some X.env.locals) (hN : X.N.Nodup) (hi : X.N[i]? = some n) (hln : X.env.kindOf n = some .local) (h1 : Gl X x1 ∧ (x1 == ("__debug__" : Str)) = false ∧ X.mg x1 = some c1) (h2 : Gl X x2 ∧ (x2 == ("__debug__" : Str)) = false ∧ X.mg x2 = some c2) (h3 : Gl X x3 ∧ (x3 == ("__debug__" : Str)) = false ∧ X.mg x3 = some c3)
    (hb : ∀ (E : XK) (pn : List (Addr × Obj)) (xe : Value → Shared → Prop), Takes (X.tr pn xe) (fun cls d _ H => E cls d H) → PassesOwn (model X.prog X.w) X.A X.env xe → PSs (X.tr pn xe) body (tb E))
    (hsu : ∀ (a : Addr) (cls : Value) (d : Option Addr), PSs (suiteJ X a) (b₀ :: suite) (ts cls d)) :
    PS X (.Try body [.ExceptHandler (some (.Tuple [.Name x1 p1, .Name x2 p2, .Name x3 p3] tn pt)) (some n) (b₀ :: suite) pos'] [] [] pos) (fun D σ H => tb (wTry X [c1, c2, c3] i ts D) D σ H) := by
  refine ⟨fun pins s σ H D I h => ?_⟩
  have ok := I.ok
  have hfr : X.A.frames = some (X.env :: X.outer) := by rw [ok.frames, hs]
  have hloc : Loc X.env.scope n := .inl hln
  refine wpAny_Try_except ?_
  refine wpAny_mono ((hb (wTry X [c1, c2, c3] i ts D) (X.pn ++ pins) (fun e s₁ => wpAny (model X.prog X.w) X.A (noteFrame e X.env) (fun _ s₂ => wpAny (model X.prog X.w) X.A (setFlight e none) (fun _ s₃ =>
    wpAny (model X.prog X.w) X.A (handleBy e X.env [.ExceptHandler (some (.Tuple [.Name x1 p1, .Name x2 p2, .Name x3 p3] tn pt)) (some n) (b₀ :: suite) pos']) (SP X pins D) X.xe s₃) X.xe s₂) X.xe s₁) (fun u s' xx => ?_) PassesOwn.looking).run [] s σ H D (I.toTry _) h) (fun f s1 hsp => ?_) (fun e s1 he => he)
  · obtain ⟨a, B, sI, pins', σ', H', cls, d, rfl, J', nb, up, sky, na, os, ag, hb1, hyes⟩ := xx
    have J : Inv X pins σ' H' sI := J'.ofTry ok
    have sky' : Sky B (X.env :: X.outer) a (Zc cls d) X.env.locals s'.heap := by rw [← hs]; exact sky
    show wpAny (model X.prog X.w) X.A (noteFrame (.ref a) X.env) _ _ _
    refine Sky.land Zc.steady hfr hf sky' fun h3' fl3 up3 => ?_
    have J3 : Inv X pins σ' H' { s' with heap := h3' } := J.landed nb fl3.1 (up.trans up3) os ag
    obtain ⟨oe3, vs3, he3, hz3, hd3⟩ := fl3.there
    have notFr : ∀ {h : Heap} {o : Obj} {vs : Array Value}, h.FunFrames B (X.env :: X.outer) → h.get? a = some o → o.data = .fields vs → a ∉ frs (X.env :: X.outer) := fun {h o vs} ff e dd hm => by
      obtain ⟨_, o', e', hnf⟩ := ff.mem hm
      rw [e] at e'; cases e'
      exact hnf _ dd
    have nfr := notFr fl3.2.2.1 he3 hd3
    have nL : a ≠ X.env.locals := fun z => nfr (List.mem_filterMap.mpr ⟨X.env, List.mem_cons_self, by rw [hf, z]⟩)
    have aI : sI.heap.get? a = none := by
      cases e : sI.heap.get? a with
      | none => rfl
      | some o =>
        have := nb a o e (by rw [hs]; exact nfr)
        rw [fl3.2.1] at this
        cases this
    refine wpAny_handleBy_cons (codeAny_handlers_test ?_) (by intro q; cases q)
    have S3 := invJ J3 a
    refine wpAny_Tuple_spliced (Calls.spliced_cons (ld_glob (X := suiteJ X a) S3 h1.1 h1.2.2 (Calls.spliced_cons (ld_glob (X := suiteJ X a) S3 h2.1 h2.2.2 (Calls.spliced_cons (ld_glob (X := suiteJ X a) S3 h3.1 h3.2.2 (Calls.spliced_nil ⟨by rw [sizeLine_eq]; show 3 ≤ _; omega, ?_⟩) h3.2.1)) h2.2.1)) h1.2.1))
    have fl4 := flying_push (o := { cls := .type "tuple", data := .seq [c1, c2, c3].toArray }) fl3
    have upp : h3'.UpToSlots (h3'.push { cls := .type "tuple", data := .seq [c1, c2, c3].toArray }) := fun b o e _ => ⟨o.slots, Heap.get?_push_of_some _ e⟩
    have J4 : Inv X pins σ' H' { s' with heap := h3'.push { cls := .type "tuple", data := .seq [c1, c2, c3].toArray } } := J.landed nb fl4.1 ((up.trans up3).trans upp) os ag
    have he4 : (h3'.push { cls := .type "tuple", data := .seq [c1, c2, c3].toArray }).get? a = some oe3 := Heap.get?_push_of_some _ he3
    have LT : PySem.W.Looks (model X.prog X.w) (h3'.push { cls := .type "tuple", data := .seq [c1, c2, c3].toArray }) (typeOf (.ref a)) cls := fun A Q E s k q => wpAny_typeOf_ref (k _ _ he4) (by rw [hz3.1]; exact q)
    have LM := PySem.W.exm_tup3 (M := model X.prog X.w) (tp := h3'.objs.size) (J4.kIn) LT (Heap.get?_push_size _ rfl) hb1
    refine LM.here ?_
    refine codeAny_handlers_suite_as ?_
    refine PySem.HandSPX.lands_againZ fl4 fun h5 fl5 up5 => ?_
    have J5 : Inv X pins σ' H' { s' with heap := h5 } := J.landed nb fl5.1 (((up.trans up3).trans upp).trans up5) os ag
    obtain ⟨oe5, vs5, he5, hz5, hd5⟩ := fl5.there
    have n0 : ∀ b o, X.s_0.heap.get? b = some o → b ∉ X.ex → b ≠ a := fun b o e hx z => by
      subst z
      obtain ⟨o', e'⟩ := J.base.there b o e hx
      rw [aI] at e'
      cases e'
    have nc : ∀ x c, X.env.cells.lookup x = some c → c ≠ a := fun x c e z => by
      obtain ⟨v, o, e', _⟩ := J.cell x c e
      rw [z, aI] at e'
      cases e'
    have np : ∀ p ∈ X.pn ++ pins, p.1 ≠ a := fun p hp z => by
      have e' := (J.pin p hp).1
      rw [z, aI] at e'
      cases e'
    have K5 : Inv X pins σ' (upd H' a (exq a cls d)) { s' with heap := h5 } := inv_held J5 na n0 nL nc np (exq_ok he5 hz5 hd5)
    refine store_ok (X := suiteJ X a) (v := .ref a) (invJ K5 a) hN hi hloc rfl (fun s6 S6 => ?_) (.inr hln)
    refine wpAny_mono ((hsu a cls d).run pins s6 _ _ _ S6 (hyes a na σ' J.len)) (fun f s7 hsp => ?_) (fun _ _ z => False.elim z)
    have end_ : ∀ {σ6 : L2.St} {H6 : Hp} {Q : Shared → Prop}, Inv (suiteJ X a) pins σ6 H6 s7 → (∀ s8, Inv X pins (σ6.set i none) H6 s8 → Q s8) →
        wpAny (model X.prog X.w) X.A (do bindName X.env n .none; unbindBehindTheSuite X.env n pos') (fun _ s8 => Q s8) X.xe s7 := fun {σ6 H6 Q} S6 hq => gone_ok (unJ S6 ok) hN hi hln hq
    cases f with
    | next =>
      obtain ⟨σ6, H6, S6, q6⟩ := hsp
      exact end_ S6 fun s7 J7 => ⟨_, _, J7, q6⟩
    | brk =>
      obtain ⟨σ6, H6, S6, q6⟩ := hsp
      exact end_ S6 fun s7 J7 => ⟨_, _, J7, q6⟩
    | cont =>
      obtain ⟨σ6, H6, S6, q6⟩ := hsp
      exact end_ S6 fun s7 J7 => ⟨_, _, J7, q6⟩
    | ret u =>
      obtain ⟨v6, σ6, H6, S6, r6, q6⟩ := hsp
      exact end_ S6 fun s7 J7 => ⟨_, _, _, J7, r6, q6⟩
  · cases f with
    | next =>
      obtain ⟨σ', H', J', q⟩ := hsp
      exact wpAny_execs_nil ⟨σ', H', J'.ofTry ok, q⟩
    | brk =>
      obtain ⟨σ', H', J', q⟩ := hsp
      exact ⟨σ', H', J'.ofTry ok, q⟩
    | cont =>
      obtain ⟨σ', H', J', q⟩ := hsp
      exact ⟨σ', H', J'.ofTry ok, q⟩
    | ret u =>
      obtain ⟨v, σ', H', J', r, q⟩ := hsp
      exact ⟨v, σ', H', J'.ofTry ok, r, q⟩
end
end Ev


set_option autoImplicit false
set_option Elab.async false
set_option linter.all false
set_option maxRecDepth 100000
set_option maxHeartbeats 4000000
/-! EvLc: what is walked rightly where an exception is handled; what a call got. -/
namespace Ev
open PySem PySem.Spec PyProof.Rows L2 RZ EvCall
/-- a context of which little is known -/
structure OkW (G : G0) (c : Ck) (Y : L2.Cx) : Prop where
  hK : Y.K = G.K
  hN : Y.N = c.N
  hsc : Y.env.scope = c.sc
  un : Y.A.units + 64 < cLine
section
variable {G : Gs} {P : Pg} {k : Nat} {c : Ck} {Y : L2.Cx}
theorem w_vis (O : OkW G c Y) {x : Str} (h : c.vis x = true) : Vis Y.env.scope x := by
  unfold Ck.vis at h
  rw [← O.hsc] at h
  unfold Vis
  split at h
  · exact .inl (by assumption)
  · exact .inr (.inl (by assumption))
  · exact .inr (.inr (by assumption))
  · cases h
theorem w_var (O : OkW G c Y) {i : Nat} {x : Str} {pos : Pos} (h : okE (.var i) c (.Name x pos) = true) : Snd G (ecN P k) Y (.Name x pos) (.var i) := by
  rw [okE] at h
  simp only [Bool.and_eq_true, decide_eq_true_eq, beq_iff_eq] at h
  obtain ⟨h1, h2, h3, h4⟩ := h
  refine Snd.of (PE.imp (pe_var (i := i) (by rw [O.hN]; exact h1) (w_vis O h2) h3 h4) fun σ H Q q => ?_) (fun _ => rfl) (fun _ _ _ z => nomatch z)
  obtain ⟨ω, M, env, he, hh, post⟩ := q
  rw [ev] at post
  split at post
  · rename_i d e
    obtain ⟨v, e1, r⟩ := he.val i d e
    exact ⟨v, e1, Post.here post hh r⟩
  · exact False.elim post
theorem w_cmp (O : OkW G c Y) {o : COp} {a b : X} {ea eb : Expr} {op : CmpOp} {pos : Pos} (ho : op = co o) (A : Snd G (ecN P k) Y ea a) (B : Snd G (ecN P k) Y eb b) (hm : behindInMarks op eb = false) : Snd G (ecN P k) Y (.Compare ea [op] [eb] pos) (.cmp o a b) := by
  subst ho
  have OC := opC (G := G) (Y := Y) O.hK O.un o
  have key : ∀ σ H Q, tE G (ecN P k) (.cmp o a b) σ H Q → tOp (rC G o) (tE G (ecN P k) a) (tE G (ecN P k) b) σ H Q := fun σ H Q q => by
    obtain ⟨ω, M, env, he, hh, post⟩ := q
    rw [ev] at post
    exact tE_pair he hh post fun x y M2 ω2 H2 v w he2 hh2 r1 r2 p le => ⟨ω2, M2, x, y, hh2, r1, r2, p⟩
  refine ⟨PE.imp (pe_cmpR OC A.pe B.pe hm) key, PT.imp (pt_cmpR OC A.pe B.pe hm) fun σ H Q q => ?_, fun _ _ _ z => nomatch z⟩
  obtain ⟨ω, M, env, he, hh, post⟩ := q
  refine key σ H _ ⟨ω, M, env, he, hh, ?_⟩
  unfold evB at post
  refine Post.bind post fun d M1 ω1 H1 v le hh1 r p => ?_
  cases d with
  | bl b =>
    rw [Rel] at r
    exact ⟨b, r, Post.here (v := b) p hh1 rfl⟩
  | _ => exact False.elim p
theorem w_attr (O : OkW G c Y) {a : X} {f : Tx} {ea : Expr} {pos : Pos} (A : Snd G (ecN P k) Y ea a) (hn : notSup ea = true) : Snd G (ecN P k) Y (.Attribute ea (sS f) pos) (.attr a f) := by
  refine Snd.of (PE.imp (pe_xa A.pe (notSup_ok hn)) fun σ H Q q => ?_) (fun _ => rfl) (fun _ _ _ z => nomatch z)
  obtain ⟨ω, M, env, he, hh, post⟩ := q
  rw [ev] at post
  refine tE_bind he hh post fun d M1 ω1 H1 v he1 hh1 r p le => ?_
  cases d with
  | exc i ks ds =>
    dsimp only at p
    split at p
    · rename_i d e
      rw [Rel] at r
      obtain ⟨q, dx, fs, vs, ev, e1, e2, e3, e4, e5, e6⟩ := r
      obtain ⟨m, w, f1, f2⟩ := zipF_look e6 e4 e
      refine ⟨q, G.CA i, dx, fs, w, ks, ev, e1.imp (hh1.imm _ _) (hh1.imm _ _), hh1.imm _ _ e2, (e3 _).trans f1, by rw [O.hK]; exact e5, by rw [O.hK]; exact e5.no f m, Post.here p hh1 f2⟩
    · exact False.elim p
  | _ => exact False.elim p
theorem w_item (O : OkW G c Y) {a i : X} {ea ei : Expr} {pos : Pos} (A : Snd G (ecN P k) Y ea a) (B : Snd G (ecN P k) Y ei i) (hp : PlainIx ei) : Snd G (ecN P k) Y (.Subscript ea ei pos) (.item a i) := by
  refine Snd.of (PE.imp (pe_ix (ix_list.or (ix_tup.or ix_str)) A.pe B.pe hp) fun σ H Q q => ?_) (fun _ => rfl) (fun _ _ _ z => nomatch z)
  obtain ⟨ω, M, env, he, hh, post⟩ := q
  rw [ev] at post
  refine tE_pair he hh post fun x y M2 ω2 H2 v w he2 hh2 r1 r2 p le => ?_
  have lst : PostE G ω2 (itL M2 x y) Q → rIxL Y.K v w H2 Q ∨ rIxT Y.K v w H2 Q ∨ rIxS v w H2 Q := fun p2 => by
    unfold itL at p2
    split at p2
    · rename_i ds kk e
      rw [Rel] at r2
      subst r2
      split at p2
      · rename_i j ej
        split at p2
        · rename_i d ed
          obtain ⟨q, vs, e1, e2, e3⟩ := itemsOf_ok hh2 r1 e
          subst e1
          obtain ⟨u, f1, f2⟩ := e3.get ed
          have at_ : atI vs kk = some u := by
            unfold atI
            rw [← ixOf_eq, e3.length, ej]
            exact f1
          rcases e2 with e2 | e2
          · exact .inl ⟨q, vs, kk, u, rfl, rfl, SqL.of e2, at_, Post.here p2 hh2 f2⟩
          · exact .inr (.inl ⟨q, vs, kk, u, rfl, rfl, by rw [O.hK]; exact e2, at_, Post.here p2 hh2 f2⟩)
        · exact False.elim p2
      · exact False.elim p2
    · exact False.elim p2
  cases x with
  | str s =>
    replace p : PostE G ω2 (itS M2 s y) Q := p
    unfold itS at p
    split at p
    · rename_i kk
      rw [Rel] at r1
      rw [Rel] at r2
      subst r1 r2
      split at p
      · rename_i hl
        split at p
        · rename_i j ej
          split at p
          · rename_i cc ec
            refine .inr (.inr ⟨sS s, kk, cc, rfl, rfl, ?_, ?_, post_str p hh2⟩)
            · rw [sS_len]
              exact Nat.le_trans (of_decide_eq_true hl) lim_le
            · show atI s.toArray.toList kk = some cc
              rw [List.toList_toArray]
              unfold atI
              rw [← ixOf_eq, ej]
              exact ec
          · exact False.elim p
        · exact False.elim p
      · exact False.elim p
    · exact False.elim p
  | _ => exact lst p
mutual
/-- what may stand where an exception is handled -/
def hotX : X → Bool
  | .var _ => true
  | .cst _ => true
  | .attr a _ => hotX a
  | .cmp _ a b => hotX a && hotX b
  | .tup es => hotXs es
  | .item a i => hotX a && hotX i
  | .ife t a b => hotX t && (hotX a && hotX b)
  | _ => false
termination_by structural x => x
def hotXs : List X → Bool
  | [] => true
  | x :: xs => hotX x && hotXs xs
termination_by structural x => x
end
mutual
def hotS : S → Bool
  | .ret e => hotX e
  | .iff t a b => hotX t && (hotSs a && hotSs b)
  | _ => false
termination_by structural x => x
def hotSs : List S → Bool
  | [] => true
  | s :: r => hotS s && hotSs r
termination_by structural x => x
end
mutual
theorem wndE : ∀ (x : X) (c : Ck) (e : Expr) (Y : L2.Cx), OkW G c Y → hotX x = true → okE x c e = true → Snd G (ecN P k) Y e x
  | .var i, c, e, Y, O, hx, h => by
    cases e with
    | Name x p => exact w_var O h
    | _ => cases h
  | .cst d, c, e, Y, O, hx, h => by
    cases e with
    | Constant kk n p => exact s_cst (c := c) h
    | _ => cases h
  | .attr a f, c, e, Y, O, hx, h => by
    cases e with
    | Attribute ea n p =>
      rw [okE] at h
      simp only [Bool.and_eq_true] at h
      obtain ⟨h1, h2, h3⟩ := h
      have ef := of_decide_eq_true h1
      subst ef
      rw [hotX] at hx
      exact w_attr O (wndE a c ea Y O hx h3) h2
    | _ => cases h
  | .cmp o a b, c, e, Y, O, hx, h => by
    cases e with
    | Compare ea ops es p =>
      match ops, es, h with
      | [op], [eb], h =>
        rw [okE, Bool.and_eq_true, Bool.and_eq_true] at h
        rw [hotX, Bool.and_eq_true] at hx
        exact w_cmp O (of_decide_eq_true h.1) (wndE a c ea Y O hx.1 h.2.1) (wndE b c eb Y O hx.2 h.2.2) (ok_mark h.2.2 op)
      | [], _, h => cases h
      | [_], [], h => cases h
      | [_], _ :: _ :: _, h => cases h
      | _ :: _ :: _, _, h => cases h
    | _ => cases h
  | .tup es, c, e, Y, O, hx, h => by
    cases e with
    | Tuple as n p => rw [hotX] at hx; exact s_tup (wndEs es c as Y O hx h).pa
    | _ => cases h
  | .item a i, c, e, Y, O, hx, h => by
    cases e with
    | Subscript ea ei p =>
      rw [okE, Bool.and_eq_true] at h
      rw [hotX, Bool.and_eq_true] at hx
      exact w_item O (wndE a c ea Y O hx.1 h.1) (wndE i c ei Y O hx.2 h.2) (ok_ix h.2)
    | _ => cases h
  | .ife t a b, c, e, Y, O, hx, h => by
    cases e with
    | IfExp et ea eb p =>
      rw [okE, Bool.and_eq_true, Bool.and_eq_true] at h
      rw [hotX, Bool.and_eq_true, Bool.and_eq_true] at hx
      exact s_ife (wndE t c et Y O hx.1 h.1) (wndE a c ea Y O hx.2.1 h.2.1) (wndE b c eb Y O hx.2.2 h.2.2)
    | _ => cases h
  | .glo _, _, _, _, _, hx, _ => by cases hx
  | .bin _ _ _, _, _, _, _, hx, _ => by cases hx
  | .neg _, _, _, _, _, hx, _ => by cases hx
  | .cmp2 _ _ _ _ _, _, _, _, _, hx, _ => by cases hx
  | .and _ _, _, _, _, _, hx, _ => by cases hx
  | .or _ _, _, _, _, _, hx, _ => by cases hx
  | .not _, _, _, _, _, hx, _ => by cases hx
  | .lst _ _, _, _, _, _, hx, _ => by cases hx
  | .slc _ _ _, _, _, _, _, hx, _ => by cases hx
  | .isi _ _, _, _, _, _, hx, _ => by cases hx
  | .isis _ _, _, _, _, _, hx, _ => by cases hx
  | .call _ _ _ _ _, _, _, _, _, hx, _ => by cases hx
  | .mk _ _ _ _ _ _, _, _, _, _, hx, _ => by cases hx
  | .meth _ _ _ _ _ _ _, _, _, _, _, hx, _ => by cases hx
  | .isc _ _, _, _, _, _, hx, _ => by cases hx
  | .oeq _ _ _, _, _, _, _, hx, _ => by cases hx
  | .olen _ _, _, _, _, _, hx, _ => by cases hx
  | .orep _ _, _, _, _, _, hx, _ => by cases hx
  | .fld _ _, _, _, _, _, hx, _ => by cases hx
  | .prp _ _ _, _, _, _, _, hx, _ => by cases hx
  | .ccst _ _, _, _, _, _, hx, _ => by cases hx
  | .dic _ _ _, _, _, _, _, hx, _ => by cases hx
  | .key _ _, _, _, _, _, hx, _ => by cases hx
  | .fst _ _ _, _, _, _, _, hx, _ => by cases hx
  | .bm _ _ _, _, _, _, _, hx, _ => by cases hx
  | .mkx _ _ _, _, _, _, _, hx, _ => by cases hx
  | .blt _ _, _, _, _, _, hx, _ => by cases hx
  | .lc _ _ _ _ _ _, _, _, _, _, hx, _ => by cases hx
  | .dsp _ _ _, _, _, _, _, hx, _ => by cases hx
  | .rev _, _, _, _, _, hx, _ => by cases hx
  | .gky _ _, _, _, _, _, hx, _ => by cases hx
  | .gc _, _, _, _, _, hx, _ => by cases hx
  | .one _ _ _, _, _, _, _, hx, _ => by cases hx
  | .gct _, _, _, _, _, hx, _ => by cases hx
  | .got _, _, _, _, _, hx, _ => by cases hx
  | .why _, _, _, _, _, hx, _ => by cases hx
  | .lams _, _, _, _, _, hx, _ => by cases hx
  | .whys _, _, _, _, _, hx, _ => by cases hx
theorem wndEs : ∀ (xs : List X) (c : Ck) (es : List Expr) (Y : L2.Cx), OkW G c Y → hotXs xs = true → okEs xs c es = true → PEs G (ecN P k) Y es xs
  | [], c, es, Y, O, hx, h => by
    cases es with
    | nil => exact .nil
    | cons _ _ => cases h
  | x :: xs, c, es, Y, O, hx, h => by
    cases es with
    | nil => cases h
    | cons e es =>
      rw [okEs, Bool.and_eq_true] at h
      rw [hotXs, Bool.and_eq_true] at hx
      exact .cons (wndE x c e Y O hx.1 h.1).pe (fun es env => ok_star h.1 es env) (wndEs xs c es Y O hx.2 h.2)
end
mutual
theorem wndS : ∀ (s : S) (c : Ck) (st : Stmt) (Y : L2.Cx), OkW G c Y → hotS s = true → okS s c st = true → PS Y st (tS G (ecN P k) s)
  | .ret e, c, st, Y, O, hx, h => by
    cases st with
    | Return v p =>
      cases v with
      | some v =>
        rw [hotS] at hx
        exact ss_ret (wndE e c v Y O hx (by cases e <;> first | exact h | (rw [okS] at h; exact h)))
      | none =>
        cases e with
        | cst d =>
          cases d with
          | non => exact ss_retN
          | _ => cases h
        | _ => cases h
    | _ => cases h
  | .iff t a b, c, st, Y, O, hx, h => by
    cases st with
    | If et ea eb p =>
      rw [okS, Bool.and_eq_true, Bool.and_eq_true] at h
      rw [hotS, Bool.and_eq_true, Bool.and_eq_true] at hx
      exact ss_iff (wndE t c et Y O hx.1 h.1) (wndSs a c ea Y O hx.2.1 h.2.1) (wndSs b c eb Y O hx.2.2 h.2.2)
    | _ => cases h
  | .ex _, _, _, _, _, hx, _ => by cases hx
  | .asg _ _, _, _, _, _, hx, _ => by cases hx
  | .put _ _ _, _, _, _, _, hx, _ => by cases hx
  | .for _ _ _ _, _, _, _, _, hx, _ => by cases hx
  | .whl _ _, _, _, _, _, hx, _ => by cases hx
  | .asl _ _, _, _, _, _, hx, _ => by cases hx
  | .atr _ _ _, _, _, _, _, hx, _ => by cases hx
  | .una _ _, _, _, _, _, hx, _ => by cases hx
  | .uns _ _ _, _, _, _, _, hx, _ => by cases hx
  | .unx _ _, _, _, _, _, hx, _ => by cases hx
  | .aug _ _ _, _, _, _, _, hx, _ => by cases hx
  | .fin _ _, _, _, _, _, hx, _ => by cases hx
  | .putk _ _ _, _, _, _, _, hx, _ => by cases hx
  | .putk2 _ _ _ _ _ _, _, _, _, _, hx, _ => by cases hx
  | .never, _, _, _, _, hx, _ => by cases hx
  | .forg _ _ _ _, _, _, _, _, hx, _ => by cases hx
  | .gcs _, _, _, _, _, hx, _ => by cases hx
  | .rai _ _ _, _, _, _, _, hx, _ => by cases hx
theorem wndSs : ∀ (ss : List S) (c : Ck) (sts : List Stmt) (Y : L2.Cx), OkW G c Y → hotSs ss = true → okSs ss c sts = true → PSs Y sts (tSs G (ecN P k) ss)
  | [], c, sts, Y, O, hx, h => by
    cases sts with
    | nil => exact sss_nil
    | cons _ _ => cases h
  | s :: ss, c, sts, Y, O, hx, h => by
    cases sts with
    | nil => cases h
    | cons st sts =>
      rw [okSs, Bool.and_eq_true] at h
      rw [hotSs, Bool.and_eq_true] at hx
      exact sss_cons (wndS s c st Y O hx.1 h.1) (wndSs ss c sts Y O hx.2 h.2)
end
end
end Ev


set_option autoImplicit false
set_option Elab.async false
set_option linter.all false
set_option maxRecDepth 100000
set_option maxHeartbeats 4000000
/-! EvLd: a lambda called some frames above its maker; the def that tells an error's field, called where the error is handled. -/
namespace Ev
open PySem PySem.Spec PyProof.Rows L2 RZ EvCall
theorem un_chain {fr fs : List Addr} {H H1 H2 : Hp} {h h1 h2 : Heap} (a : Un fr [] H H1 h h1) (b : Un fs [] H1 H2 h1 h2) (hf : ∀ x ∈ fs, x ∈ fr ∨ h.objs.size ≤ x) : Un fr [] H H2 h h2 := by
  have nx : ∀ x : Addr, x ∉ ([] : List Addr) := fun x z => nomatch z
  refine ⟨fun x o e n hx _ => ?_, fun x o e n hx _ => ?_, fun x o e n _ => ?_, fun x o e _ => ?_, fun x xs e => b.tups x xs (a.tups x xs e), fun x o u e => b.frzs x o u (a.frzs x o u e), fun x ps e => ?_⟩
  · refine b.keep x o (a.keep x o e n hx (nx x)) (a.free x o e n (nx x)) (fun z => ?_) (nx x)
    rcases hf x z with y | y
    · exact hx y
    · exact Nat.lt_irrefl _ (Nat.lt_of_lt_of_le (Heap.lt_size e) y)
  · obtain ⟨sl, e1⟩ := a.slot x o e n hx (nx x)
    obtain ⟨sl2, e2⟩ := b.any e1 (a.free x o e n (nx x)) (nx x)
    exact ⟨sl2, e2⟩
  · obtain ⟨sl, e1⟩ := a.any e n (nx x)
    exact b.free x _ e1 (a.free x o e n (nx x)) (nx x)
  · obtain ⟨o1, e1⟩ := a.there x o e (nx x)
    exact b.there x o1 e1 (nx x)
  · obtain ⟨m1, e1⟩ := a.tbls x ps e
    obtain ⟨m2, e2⟩ := b.tbls x _ e1
    exact ⟨m1 ++ m2, by rw [e2, Array.append_assoc]⟩
/-- what was made can be called wherever Z holds; Z holds in all frames above -/
structure CallsF (prog : Program) (w : World) (K : PySem.W.Frag) (mg : Str → Option Value) (base : Heap) (k : Nat) (f : Addr) (Z : Shared → Hp → List PySem.Env → Prop) (tl : XK → Hp → VK → Prop) : Prop where
  st : ∀ {s1 s2 : Shared} {H1 H2 : Hp} {outer : List PySem.Env} {q : Str} {sc : Scope} {g : Addr} {cd : Value}, Z s1 H1 outer → Un (frs outer) [] H1 H2 s1.heap s2.heap → s1.heap.objs.size < s2.heap.objs.size → Z s2 H2 (envOfC q sc s1.heap.objs.size g cd :: outer)
  isf : ∀ (s1 : Shared) (H1 : Hp) (outer : List PySem.Env) (E : XK) (Q : VK), Z s1 H1 outer → HOk prog w H1 s1.heap → tl E H1 Q → PySem.W.FnAt f s1.heap
  run : ∀ (A : Around) (outer : List PySem.Env) (s1 : Shared) (H1 : Hp) (Q : VK) (E : XK), Room k A → Env0 prog w K mg base A outer s1 H1 → Z s1 H1 outer → tl E H1 Q →
    codeAny (model prog w) A (.call (.ref f) ⟨[], []⟩) (CR (L2.CX prog w) outer prog w H1 s1 Q E) s1
/-- nothing of what the maker's frames hold has changed since -/
def ZU (fr : List Addr) (s : Shared) (H : Hp) : Shared → Hp → List PySem.Env → Prop := fun s1 H1 outer => Un fr [] H H1 s.heap s1.heap ∧ s.heap.objs.size ≤ s1.heap.objs.size ∧ ∀ b ∈ frs outer, b ∈ fr ∨ s.heap.objs.size ≤ b
theorem ZU.st {fr : List Addr} {s s1 s2 : Shared} {H H1 H2 : Hp} {outer : List PySem.Env} {q : Str} {sc : Scope} {g : Addr} {cd : Value} (z : ZU fr s H s1 H1 outer) (u : Un (frs outer) [] H1 H2 s1.heap s2.heap) (lt : s1.heap.objs.size < s2.heap.objs.size) : ZU fr s H s2 H2 (envOfC q sc s1.heap.objs.size g cd :: outer) := by
  obtain ⟨a, b, c⟩ := z
  refine ⟨un_chain a u c, Nat.le_trans b (Nat.le_of_lt lt), fun x hx => ?_⟩
  rcases List.mem_cons.mp (show x ∈ s1.heap.objs.size :: frs outer from hx) with z | z
  · exact .inr (by rw [z]; exact b)
  · exact c x z
section
variable {prog : Program} {w : World} {K : PySem.W.Frag} {mg : Str → Option Value} {base : Heap} {k i : Nat} {f g : Addr} {s1 : Shared} {H1 : Hp} {Z : Shared → Hp → List PySem.Env → Prop} {tl : XK → Hp → VK → Prop} {N : List Str} {qual a : Str} {scope : Scope} {cd : Value} {A : Around} {outer : List PySem.Env} {E0 E : XK} {pn : List (Addr × Obj)} {xe : Value → Shared → Prop} {p1 p2 : Pos}
/-- a() in the frame of a def -/
theorem pe_ask (C : CallsF prog w K mg base k f Z tl) (hz : Z s1 H1 outer)
    (tk : Takes ((cxOf (L2.CX prog w) prog w K mg base N qual scope g cd A outer s1 H1 E0).tr pn xe) (fun cls d _ H => E cls d H)) (hr : Room k (A.deeper (envOfC qual scope s1.heap.objs.size g cd)))
    (hN : N[i]? = some a) (hv : Vis scope a) (hd : (a == ("__debug__" : Str)) = false := by decide) (hcd : (a == ("__classdict__" : Str)) = false := by decide) :
    PE ((cxOf (L2.CX prog w) prog w K mg base N qual scope g cd A outer s1 H1 E0).tr pn xe) (.Call (.Name a p1) [] [] p2) (fun σZ HZ Q => σZ[i]? = some (some (.ref f)) ∧ tl E HZ Q) := by
  refine ⟨fun pinsZ sZ σZ HZ Q IZ h => ?_⟩
  obtain ⟨hs, ht⟩ := h
  refine wpAny_Call_Name_kw (thn ((pe_var (pos := p1) (i := i) hN hv hd hcd).run pinsZ sZ σZ HZ (fun v H1 => v = .ref f ∧ H1 = HZ) IZ ⟨.ref f, hs, rfl, rfl⟩) fun u s2 ⟨v, H2, I2, r2, q2⟩ => ?_)
  obtain ⟨ev, eH⟩ := q2
  subst ev
  rw [eH] at I2
  obtain rfl : u = Value.ref f := r2
  have ub : Un (frs outer) [] H1 HZ s1.heap s2.heap := I2.base
  have hz2 : Z s2 HZ (envOfC qual scope s1.heap.objs.size g cd :: outer) := C.st hz ub I2.lt
  refine PySem.W.callWith_F0 (C.isf s2 HZ _ E Q hz2 I2.hok ht) ?_
  have rc := C.run _ (envOfC qual scope s1.heap.objs.size g cd :: outer) s2 HZ Q E hr I2.env0 hz2 ht
  have hx : Passes (L2.CX prog w) ((cxOf (L2.CX prog w) prog w K mg base N qual scope g cd A outer s1 H1 E0).tr pn xe) E := passes_call tk fun _ _ _ _ z => z
  refine wpAny_call (codeAny_mono rc fun r s' hq => ?_)
  cases r with
  | error e => exact hx pinsZ σZ HZ s2 e s' I2 hq
  | ok fl =>
    cases fl with
    | ret u => exact I2.after hq
    | next => exact False.elim hq
    | brk => exact False.elim hq
    | cont => exact False.elim hq
end
/-- a def of the module, as the top has left it -/
structure DefAt (K : PySem.W.Frag) (mg : Str → Option Value) (st : Stmt) (name : Str) (adr : Addr) : Prop where
  ex : ∃ (oc : Value) (od : Option Addr) (kV doc pm : Value) (an : Option Addr) (cdv ct : Value) (osl : Array (Option Value)), K.lookup adr = some ⟨oc, od, .func (PySem.W.fnOf name name (defArgs st) (defBody st) (defScope st) .none kV doc pm an cdv ct), osl⟩ ∧ PySem.W.codeIn K cdv name = true
  glo : mg name = some (.ref adr)
  kp : PySem.W.keepIn K (.ref adr) = true
theorem starE_one {e : Expr} {env : PySem.Env} (h : ∀ es env, starEach (e :: es) env = (false, eval e env) :: starEach es env) (pos : Pos) : starEach [e] env = (false, eval e env) :: starEach [] env ∧ (backTo pos (starEach [] env)).any (·.1) = false := ⟨h [] env, rfl⟩
section
variable {G : G0} {P : Pg} {k : Nat} {X : L2.Cx}
/-- f(e) for a def that only reads, whatever is handled -/
theorem pe_callJ {st : Stmt} {name x : Str} {adr : Addr} {N : List Str} {fd : FD} {c : Ck} {e : Expr} {te : TE} {p pos : Pos} (hK : X.K = G.K) (DA : DefAt X.K X.mg st name adr) (hp : plainA [x] (defArgs st) = true) (S : FnScope N [x] (defScope st)) (hdp : X.A.depth < recursionLimit) (hun : X.A.units + 100 < cLine)
    (hg : Gl X name) (hd : (name == ("__debug__" : Str)) = false) (ha : PE X e te) (hs : ∀ es env, starEach (e :: es) env = (false, eval e env) :: starEach es env) (hc : c.N = N ∧ c.sc = defScope st) (hns : fd.ns = N.length) (hot : hotSs fd.body = true) (ok : okSs fd.body c (defBody st) = true) :
    PE X (.Call (.Name name p) [e] [] pos) (fun σ H Q => te σ H fun v H1 => ∃ ω M d, HRel G ω M H1 ∧ Rel G ω d v ∧ PostE ⟨G, fun _ _ _ => False⟩ ω (bodyR P k fd [d] M) Q) := by
  obtain ⟨oc, od, kV, doc, pm, an, cdv, ct, osl, lk, hcd⟩ := DA.ex
  refine ⟨fun pins s σ H Q I h => ?_⟩
  obtain ⟨h1, h2⟩ := starE_one (env := X.env) hs pos
  refine wpAny_Call_Name_kw (ld_glob I hg DA.glo ?_ hd)
  refine PySem.W.callWith_K (h₀ := X.base) I.ok.mod.kin DA.kp (thn ((pa_cons ha pa_nil (hs [] X.env)).run pos pins s σ H (fun vs H1 => match vs with
    | [v] => ∃ ω M d, HRel G ω M H1 ∧ Rel G ω d v ∧ PostE ⟨G, fun _ _ _ => False⟩ ω (bodyR P k fd [d] M) Q
    | _ => False) I h) fun us s1 ⟨vs, H1, I1, r1, q1⟩ => ⟨I1.kIn, ?_⟩) h1 h2
  dsimp only at q1
  split at q1
  · rename_i v
    obtain ⟨ω, M, d, hh, rd, post⟩ := q1
    obtain ⟨u, e1, ru⟩ := r1.one
    subst e1
    have b := bind_plain (x := name) (q := name) (body := defBody st) (sc := defScope st) (ps := [x]) hp kV doc pm an cdv ct [u] rfl
    have hb : BindsTo s1 (PySem.W.fnOf name name (defArgs st) (defBody st) (defScope st) .none kV doc pm an cdv ct) ⟨[u], []⟩ ([x].zip [u]) := fun M A Q E h => by
      rw [b]
      exact wpAny_pure h
    have O : OkW G c (cxJ (L2.CX X.prog X.w) X.prog X.w X.K X.mg X.base N name (defScope st) adr cdv X.A X.stack s1 H1 (fun _ _ _ => False)) := ⟨hK, hc.1.symm, hc.2.symm, by show X.A.units + 3 + 64 < cLine; omega⟩
    refine wpAny_call (codeAny_mono (run_ofJ (E := fun _ _ _ => False) (Q := Q) lk hcd S hdp I1.env0 hb (.cons ru .nil) rfl ⟨_, wndSs (G := ⟨G, fun _ _ _ => False⟩) (P := P) (k := k) fd.body c (defBody st) _ O hot ok, ?_⟩) fun r s' hq => ?_)
    · refine ⟨ω, M, _, env_start (n := fd.ns) (Rels.one rd) hns (by rw [hns]; have := congrArg List.length S.pre; rw [List.length_take] at this; simp at this ⊢; omega), hh, ?_⟩
      unfold bodyR at post
      cases e8 : execs (ecN P k) fd.body ([d].map some ++ List.replicate (fd.ns - [d].length) none) M with
      | nx env' M' =>
        rw [e8] at post
        exact fun ω' σ' H' le he' hh' => post ω' H' .non le hh' (by rw [Rel])
      | rt d M' => rw [e8] at post; exact post
      | bk _ _ => rw [e8] at post; exact False.elim post
      | ct _ _ => rw [e8] at post; exact False.elim post
      | er => rw [e8] at post; exact False.elim post
      | ex _ _ => rw [e8] at post; exact post
    · cases r with
      | error e => exact False.elim (passF (Z := X.nox) pins σ H1 s1 e s' (I1.wish _) hq)
      | ok fl =>
        cases fl with
        | ret u => exact I1.after hq
        | next => exact False.elim hq
        | brk => exact False.elim hq
        | cont => exact False.elim hq
  · exact False.elim q1
end
end Ev


set_option autoImplicit false
set_option Elab.async false
set_option linter.all false
set_option maxRecDepth 100000
set_option maxHeartbeats 4000000
/-! EvLe: the def that tells what a call returns or raises. -/
namespace Ev
open PySem PySem.Spec PyProof.Rows L2 RZ EvCall
/-- the text of the def -/
def gotTx (st : Stmt) : Bool := match defBody st with
  | [.Try [.Return (some (.Tuple [.Constant (.str t) _ _, .Call (.Name a _) [] [] _] _ _)) _] [.ExceptHandler (some (.Tuple [.Name x1 _, .Name x2 _, .Name x3 _] _ _)) (some n) [.Return (some (.Tuple [.Attribute (.Name n1 _) cd _, .Call (.Name ff _) [.Name n2 _] [] _] _ _)) _] _] [] [] _] =>
    decide (t = "told" ∧ a = "_law_ask" ∧ x1 = "BeltError" ∧ x2 = "Missing" ∧ x3 = "NothingLeft" ∧ n = "_law_e" ∧ n1 = "_law_e" ∧ n2 = "_law_e" ∧ cd = "code" ∧ ff = "_law_field")
  | _ => false
theorem gotTx_ok {st : Stmt} (h : gotTx st = true) : ∃ m1 p1 p2 p3 m2 p4 p5 q1 q2 q3 m3 q4 r1 r2 r3 r4 r5 m4 r6 r7 q5 p6, defBody st = [.Try [.Return (some (.Tuple [.Constant (.str "told") m1 p1, .Call (.Name "_law_ask" p2) [] [] p3] m2 p4)) p5]
    [.ExceptHandler (some (.Tuple [.Name "BeltError" q1, .Name "Missing" q2, .Name "NothingLeft" q3] m3 q4)) (some "_law_e") [.Return (some (.Tuple [.Attribute (.Name "_law_e" r1) "code" r2, .Call (.Name "_law_field" r3) [.Name "_law_e" r4] [] r5] m4 r6)) r7] q5] [] [] p6] := by
  unfold gotTx at h
  split at h
  · rename_i e
    obtain ⟨rfl, rfl, rfl, rfl, rfl, rfl, rfl, rfl, rfl, rfl⟩ := of_decide_eq_true h
    exact ⟨_, _, _, _, _, _, _, _, _, _, _, _, _, _, _, _, _, _, _, _, _, _, e⟩
  · cases h
/-- what is known of the def that tells an error's field -/
structure FieldOk (G : G0) (P : Pg) (mg : Str → Option Value) (fd : FD) (x : Str) (N : List Str) (st : Stmt) (adr : Addr) (c : Ck) : Prop where
  at_ : DefAt G.K mg st "_law_field" adr
  pl : plainA [x] (defArgs st) = true
  sc : FnScope N [x] (defScope st)
  ck : c.N = N ∧ c.sc = defScope st
  ns : fd.ns = N.length
  hot : hotSs fd.body = true
  ok : okSs fd.body c (defBody st) = true
  fn : P.fns[P.ff]? = some fd
  one : fd.pos.length = 1 ∧ fd.kwo = [] ∧ fd.va = false ∧ fd.kwa = false
theorem call_one {P : Pg} {k : Nat} {fd : FD} {d : D} {M : List O} (hf : P.fns[P.ff]? = some fd) (h : fd.pos.length = 1 ∧ fd.kwo = [] ∧ fd.va = false ∧ fd.kwa = false) : callN P (k + 1) P.ff [d] [] M = bodyR P k fd [d] M := by
  rw [callN_eq hf]
  obtain ⟨h1, h2, h3, h4⟩ := h
  obtain ⟨pos, kwo, va, kwa, ns, body⟩ := fd
  dsimp only at h1 h2 h3 h4
  subst h2 h3 h4
  match pos, h1 with
  | [p], _ =>
    have e : bindD ⟨[p], [], false, false, ns, body⟩ [d] [] M = .ok [d] M := by
      simp [bindD, kwWalk, takeAll, takeKw, look, lim, txEq_iff.mpr rfl]
    rw [e]
    rfl
/-- the context in which the error is handled: its checker -/
def ckG (st : Stmt) : Ck := ⟨["_law_ask", "_law_e"], defScope st, fun _ => true, [], [], [], [], fun _ _ => false⟩
/-- what the clause returns -/
def gotX (P : Pg) : X := .tup [.attr (.var 1) [99, 111, 100, 101], .call P.ff [.var 1] [] [] []]
structure GotOk (G : G0) (P : Pg) (mg : Str → Option Value) (st : Stmt) (adr : Addr) (c1 c2 c3 : Value) : Prop where
  at_ : DefAt G.K mg st "_law_got" adr
  tx : gotTx st = true
  pl : plainA ["_law_ask"] (defArgs st) = true
  sc : FnScope ["_law_ask", "_law_e"] ["_law_ask"] (defScope st)
  nms : (defScope st).names.lookup ("_law_ask" : Str) = some .local ∧ (defScope st).names.lookup ("_law_e" : Str) = some .local ∧ (defScope st).names.lookup ("BeltError" : Str) = some .globalImplicit ∧ (defScope st).names.lookup ("Missing" : Str) = some .globalImplicit ∧ (defScope st).names.lookup ("NothingLeft" : Str) = some .globalImplicit ∧ (defScope st).names.lookup ("_law_field" : Str) = some .globalImplicit
  m1 : mg "BeltError" = some c1
  m2 : mg "Missing" = some c2
  m3 : mg "NothingLeft" = some c3
  xm : P.xall = true → ∀ i ks, XIs G.K (G.CA i) ks → PySem.W.exmAny G.K (.ref (G.CA i)) [c1, c2, c3] = some true
section
variable {G : G0} {P : Pg} {k : Nat} {prog : Program} {w : World} {mg : Str → Option Value} {base : Heap}
/-- the error's tuple, where the error is handled -/
theorem s_gotX {X : L2.Cx} {st stF : Stmt} {fA gA : Addr} {c1 c2 c3 : Value} {fd : FD} {x : Str} {N : List Str} {c : Ck} {r1 r2 r3 r4 r5 r6 : Pos} {m4 : Nat} (hK : X.K = G.K) (hN : X.N = (["_law_ask", "_law_e"] : List Str)) (hsc : X.env.scope = defScope st) (GO : GotOk G P X.mg st gA c1 c2 c3) (FO : FieldOk G P X.mg fd x N stF fA c) (hdp : X.A.depth < recursionLimit) (hun : X.A.units + 100 < cLine) :
    Snd ⟨G, fun _ _ _ => False⟩ (ecN P (k + 1)) X (.Tuple [.Attribute (.Name "_law_e" r1) "code" r2, .Call (.Name "_law_field" r3) [.Name "_law_e" r4] [] r5] m4 r6) (gotX P) := by
  have O : OkW G (ckG st) X := ⟨hK, hN, hsc, by omega⟩
  obtain ⟨n1, n2, n3, n4, n5, n6⟩ := GO.nms
  have okv : ∀ r, okE (.var 1) (ckG st) (.Name "_law_e" r) = true := fun r => by
    rw [okE]
    have : (ckG st).vis "_law_e" = true := by
      show (match (defScope st).names.lookup ("_law_e" : Str) with
        | some .local => true
        | some .cell => true
        | some .free => true
        | _ => false) = true
      rw [n2]
    rw [this]
    show (decide (((["_law_ask", "_law_e"] : List Str))[1]? = some ("_law_e" : Str)) && (true && ((("_law_e" : Str) == ("__debug__" : Str)) == false && (("_law_e" : Str) == ("__classdict__" : Str)) == false))) = true
    decide +kernel
  have ecode : sS [99, 111, 100, 101] = ("code" : Str) := by decide +kernel
  have a1 : Snd ⟨G, fun _ _ _ => False⟩ (ecN P (k + 1)) X (.Attribute (.Name "_law_e" r1) "code" r2) (.attr (.var 1) [99, 111, 100, 101]) := by
    have z := w_attr (G := ⟨G, fun _ _ _ => False⟩) (P := P) (k := k + 1) (f := [99, 111, 100, 101]) (pos := r2) O (w_var (pos := r1) O (okv r1)) (by rfl)
    rw [ecode] at z
    exact z
  have hs : ∀ es env, starEach ((.Name "_law_e" r4 : Expr) :: es) env = (false, eval (.Name "_law_e" r4) env) :: starEach es env := fun _ _ => rfl
  have gl : Gl X "_law_field" := by
    show X.env.scope.names.lookup ("_law_field" : Str) = some .globalImplicit
    rw [hsc]
    exact n6
  have DA : DefAt X.K X.mg stF "_law_field" fA := by rw [hK]; exact FO.at_
  have pc := pe_callJ (G := G) (P := P) (k := k) (p := r3) (pos := r5) hK DA FO.pl FO.sc hdp hun gl (by decide) (w_var (G := ⟨G, fun _ _ _ => False⟩) (P := P) (k := k + 1) (pos := r4) O (okv r4)).pe hs FO.ck FO.ns FO.hot FO.ok
  have a2 : Snd ⟨G, fun _ _ _ => False⟩ (ecN P (k + 1)) X (.Call (.Name "_law_field" r3) [.Name "_law_e" r4] [] r5) (.call P.ff [.var 1] [] [] []) := by
    refine Snd.of (PE.imp pc fun σ H Q q => ?_) (fun _ => rfl) (fun _ _ _ z => nomatch z)
    obtain ⟨ω, M, env, he, hh, post⟩ := q
    have e1 : ev (ecN P (k + 1)) (.call P.ff [.var 1] [] [] []) env M = (ev (ecN P (k + 1)) (.var 1) env M).bind fun d M1 => callN P (k + 1) P.ff [d] [] M1 := by
      rw [ev_call]
      unfold evA
      rw [evs]
      cases ev (ecN P (k + 1)) (.var 1) env M with
      | ok d M1 => simp [Rs.bind, evs, starOf]; rfl
      | er => rfl
      | ex _ _ => rfl
    rw [e1] at post
    refine tE_bind he hh post fun d M1 ω1 H1 v he1 hh1 r p le => ?_
    rw [call_one FO.fn FO.one] at p
    exact ⟨ω1, M1, d, hh1, r, p⟩
  exact s_tup (PEs.cons a1.pe (fun _ _ => rfl) (PEs.cons a2.pe (fun _ _ => rfl) .nil)).pa
theorem got_run {st stF : Stmt} {gA fA : Addr} {c1 c2 c3 : Value} {fd : FD} {x : Str} {N : List Str} {c : Ck} (GO : GotOk G P mg st gA c1 c2 c3) (FO : FieldOk G P mg fd x N stF fA c) {k0 : Nat} {f : Addr} {s1 : Shared} {H1 : Hp} {Z : Shared → Hp → List PySem.Env → Prop} {A : Around} {outer : List PySem.Env} {Q : VK} {Wk : Wd → Prop} {lv : List O → Rs D}
    (C : CallsF prog w G.K mg base k0 f Z (fun E H' Q' => ∃ ω M, HRel G ω M H' ∧ Wk ω ∧ PostE ⟨G, E⟩ ω (lv M) Q')) (hz : Z s1 H1 outer) (hr : Room (k0 + 1) A) (e0 : Env0 prog w G.K mg base A outer s1 H1)
    (h : ∃ ω M, HRel G ω M H1 ∧ Wk ω ∧ PostE ⟨G, fun _ _ _ => False⟩ ω (gotR (ecN P (k + 1)) (lv M)) Q) :
    codeAny (model prog w) A (.call (.ref gA) ⟨[.ref f], []⟩) (CR (L2.CX prog w) outer prog w H1 s1 Q (fun _ _ _ => False)) s1 := by
  obtain ⟨oc, od, kV, doc, pm, an, cdv, ct, osl, lk, hcd⟩ := GO.at_.ex
  obtain ⟨n1, n2, n3, n4, n5, n6⟩ := id GO.nms
  have b := bind_plain (x := "_law_got") (q := "_law_got") (body := defBody st) (sc := defScope st) (ps := ["_law_ask"]) GO.pl kV doc pm an cdv ct [.ref f] rfl
  have hb : BindsTo s1 (PySem.W.fnOf "_law_got" "_law_got" (defArgs st) (defBody st) (defScope st) .none kV doc pm an cdv ct) ⟨[.ref f], []⟩ ((["_law_ask"] : List Str).zip [Value.ref f]) := fun M A Q E h => by
    rw [b]
    exact wpAny_pure h
  refine LamX.run_ofS (k := k0) (N := ["_law_ask", "_law_e"]) (ps := ["_law_ask"]) (us := [.ref f]) (vs := [.ref f]) lk hcd GO.sc hr e0 hb (.cons rfl .nil) rfl fun hr' => ?_
  obtain ⟨m1, p1, p2, p3, m2, p4, p5, q1, q2, q3, m3, q4, r1, r2, r3, r4, r5, m4, r6, r7, q5, p6, eb⟩ := gotTx_ok GO.tx
  rw [eb]
  have hun : A.units + 3 + 16 * k0 + 200 < cLine := hr'.un
  have hdp := hr'.depth
  refine ⟨_, pss_one (ps_try3 (i := 1) (c1 := c1) (c2 := c2) (c3 := c3) rfl rfl GO.sc.nd rfl n2 ⟨n3, by decide, GO.m1⟩ ⟨n4, by decide, GO.m2⟩ ⟨n5, by decide, GO.m3⟩
    (fun E pn xe tk _ => pss_one (ps_ret (pe_tup (pa_cons pe_str (pa_cons (pe_ask (i := 0) C hz tk hr' rfl (.inl n1)) pa_nil)))))
    (fun a cls d => pss_one (ss_ret (s_gotX (G := G) (P := P) (k := k) (st := st) rfl rfl rfl GO FO hdp (by show A.units + 3 + 100 < cLine; omega))))), ?_⟩
  obtain ⟨ω, M, hh, wk, post⟩ := h
  refine ⟨rfl, ω, M, hh, wk, ?_⟩
  cases e : lv M with
  | er => rw [e] at post; exact post
  | ok d M1 =>
    rw [e] at post
    intro ω1 H2 v le hh1 r
    refine ⟨by rw [sizeLine_eq]; show 2 ≤ _; omega, fun p hp => ?_⟩
    obtain ⟨h2, le2⟩ := hh1.addI (o := .tup [.str "told", v]) hp
    refine post _ _ _ (le.trans le2) h2 ?_
    rw [Rel]
    refine ⟨p, [.str "told", v], rfl, .inl (.inl upd_same), Rels.cons ?_ (Rels.one (Rel.mono le2 _ _ r))⟩
    rw [Rel]
    congr 1
  | ex d M1 =>
    rw [e] at post
    cases d with
    | exc ci ks ds =>
      unfold gotR at post
      dsimp only at post
      split at post
      · rename_i hx
        have hx : P.xall = true := hx
        split at post
        · rename_i cd ef
          intro ω1 H2 cls dd le hh1 xr
          obtain ⟨rfl, dx, fs, vs, rfl, e1, e2, e3, e4, e5⟩ := xr
          refine ⟨GO.xm hx ci ks e4, fun a ha σ hl => ?_⟩
          obtain ⟨h2, le2⟩ := hh1.addI (o := exq a (.ref (G.CA ci)) (some dx)) ha
          have ia : (ω1.add a (exq a (.ref (G.CA ci)) (some dx))).imm a = some (exq a (.ref (G.CA ci)) (some dx)) := upd_same
          have hl : σ.length = 2 := hl
          refine ⟨ω1.add a (exq a (.ref (G.CA ci)) (some dx)), M1, [none, some (.exc ci ks ds)], ⟨by rw [List.length_set, hl]; rfl, fun i d ed => ?_⟩, h2, ?_⟩
          · match i, ed with
            | 1, ed =>
              have ed : D.exc ci ks ds = d := by simpa using ed
              subst ed
              refine ⟨.ref a, List.getElem?_set_self (by rw [hl]; decide), ?_⟩
              rw [Rel]
              exact ⟨a, dx, fs, vs, rfl, .inr ia, le2.imm _ _ e1, e2, e3, e4, Rels.mono le2 _ _ e5⟩
            | 0, ed => simp at ed
            | i + 2, ed => simp at ed
          · have ee : ev (ecN P (k + 1)) (gotX P) [none, some (.exc ci ks ds)] M1 = (callN P (k + 1) P.ff [.exc ci ks ds] [] M1).bind fun t M2 => .ok (.tup [cd, t]) M2 := by
              have a1 : ev (ecN P (k + 1)) (.attr (.var 1) [99, 111, 100, 101]) [none, some (.exc ci ks ds)] M1 = .ok cd M1 := by
                rw [ev, ev]
                simp [Rs.bind, ef]
              have a2 : ev (ecN P (k + 1)) (.call P.ff [.var 1] [] [] []) [none, some (.exc ci ks ds)] M1 = callN P (k + 1) P.ff [.exc ci ks ds] [] M1 := by
                rw [ev_call]
                unfold evA
                rw [evs, ev]
                simp [Rs.bind, evs, starOf]
                rfl
              unfold gotX
              rw [ev, evs, a1]
              simp only [Rs.bind]
              rw [evs, a2]
              cases callN P (k + 1) P.ff [.exc ci ks ds] [] M1 with
              | ok t M2 => simp [Rs.bind, evs, lim]
              | er => rfl
              | ex _ _ => rfl
            rw [exec, ee]
            have post : PostE ⟨G, fun _ _ _ => False⟩ ω ((noX (callN P (k + 1) P.ff [.exc ci ks ds] [] M1)).bind fun t M2 => .ok (.tup [cd, t]) M2) Q := post
            cases e9 : callN P (k + 1) P.ff [.exc ci ks ds] [] M1 with
            | ok t M2 =>
              rw [e9] at post
              exact fun ω' H' v l hh' rv => post ω' H' v ((le.trans le2).trans l) hh' rv
            | er => rw [e9] at post; exact False.elim post
            | ex _ _ => rw [e9] at post; exact False.elim post
        · exact False.elim post
      · exact False.elim post
    | _ => exact False.elim post
end
end Ev


set_option autoImplicit false
set_option Elab.async false
set_option linter.all false
set_option maxRecDepth 100000
set_option maxHeartbeats 4000000
/-! EvLf: a lambda is made in the law's own frame. -/
namespace Ev
open PySem PySem.Spec PyProof.Rows L2 RZ EvCall
section
variable {X : L2.Cx} {pins : List (Addr × Obj)} {σ : L2.St} {H : Hp} {s : Shared}
open LamX in
/-- the lambda is made: its code object is new, or found in the table -/
theorem lam_make3 {c P : Addr} {q : Str} {params : Arguments} {body : Expr} {scope : Scope} {pos : Pos} {E : Value → Shared → Prop} {Q : Value → Shared → Prop} (I : Inv X pins σ H s) (TB : TabB X.base X.mg c P) (hcode : X.env.code = .ref c) (hq : X.env.qual ++ "<lambda>" = q)
    (hT : TabS H P q) (hdef : defaultsOf params X.env = ([], [])) (hfree : ∀ y ∈ scope.names, y.2 = .free → ∃ c, X.env.cells.lookup y.1 = some c)
    (h : ∀ (f c' : Addr) (pm ctv : Value) (H1 : Hp) (s' : Shared), Inv X pins σ H1 s' → (∀ b o, b ≠ P → H b = some o → H1 b = some o) → TabS H1 P q →
      s'.heap.get? f = some (PySem.W.kla_obj "<lambda>" q params body scope (cloFrom X.env.cells scope.names []) pm c' ctv) → H1 f = none → f ∉ frs X.stack → H1 c' = some (CodeO c' q) → Q (.ref f) s') :
    wpAny (model X.prog X.w) X.A (eval (.Lambda params body scope pos) X.env) Q E s := by
  subst hq
  obtain ⟨ps, hP, ht, ha⟩ := hT
  refine PySem.W.kla_eval hdef ?_
  have bP : s.heap.BuiltinsAt X.mg P := TB.bm.keeps I.bk
  have hP' : s.heap.get? P = some { cls := .none, data := .fields ps } := I.hok P _ hP
  have nofr : ∀ f, s.heap.objs.size ≤ f → f ∉ frs X.stack := fun f hf z => by
    rcases List.mem_cons.mp (I.stkSub _ z) with e | e
    · have h1 := I.lt
      rw [← e] at h1
      exact Nat.lt_irrefl _ (Nat.lt_of_lt_of_le h1 hf)
    · exact I.nofs hf e
  cases hc : codeAmong pos ps.toList with
  | none =>
    refine PySem.W.kla_makeFunction (mg := X.mg) (c := c) (P := P) (ps := ps) (closure_ok hfree) I.ok.glob (I.mod.glob.keeps I.bk) hcode (TB.code.keeps I.bk) hP' ht hc TB.gP bP fun c' ctv h' tk hx hge hlt hrec htb => ?_
    obtain ⟨c2, oc, vs, t, e2, hoc, hd, hv⟩ := hrec
    cases e2
    have hsz : s.heap.objs.size ≤ h'.objs.size := Nat.le_trans hge (Nat.le_of_lt hlt)
    have nC : H c' = none := I.hok.fresh hge
    have I1 := inv_table (t' := tk) (more := #[rawInt pos.line, rawInt pos.col, .ref c']) (h' := h'.push (PySem.W.kla_obj "<lambda>" (X.env.qual ++ "<lambda>") params body scope (cloFrom X.env.cells scope.names []) ((X.mg "__name__").getD .none) c' ctv)) I hP
      (fun b o hb e => Heap.get?_push_of_some _ (hx b o hb e)) (Heap.get?_push_of_some _ htb) hge ⟨oc, vs, t, Heap.get?_push_of_some _ hoc, hd, hv⟩
    have hE : ∀ b o, b ≠ P → H b = some o → upd (upd H P (.tbl (ps ++ #[rawInt pos.line, rawInt pos.col, .ref c']))) c' (CodeO c' (X.env.qual ++ "<lambda>")) b = some o := fun b o n e => by
      rw [upd_ne (ne_of_none e nC), upd_ne n]
      exact e
    have eL : (ps ++ #[rawInt pos.line, rawInt pos.col, .ref c']).toList = ps.toList ++ [rawInt pos.line, rawInt pos.col, .ref c'] := by simp
    refine h h'.objs.size c' ((X.mg "__name__").getD .none) ctv _ _ I1 hE ?_ (Heap.get?_push_size _ rfl) ?_ (nofr _ hsz) upd_same
    · refine ⟨_, by rw [upd_ne (ne_of_none hP nC), upd_same], by rw [eL]; exact PySem.TriplesOk_snoc _ _ _ _ ht, fun p' cv hcv => ?_⟩
      rw [eL] at hcv
      rcases among_app _ ht hcv with z | z
      · obtain ⟨c0, e1, e2⟩ := ha p' cv z
        refine ⟨c0, e1, hE _ _ (fun y => ?_) e2⟩
        rw [y, hP] at e2
        exact codeO_ne ps (Option.some.inj e2).symm
      · exact ⟨c', z, upd_same⟩
    · have n1 : h'.objs.size ≠ c' := Nat.ne_of_gt hlt
      have n2 : h'.objs.size ≠ P := Nat.ne_of_gt (Nat.lt_of_lt_of_le (Heap.lt_size hP') hsz)
      rw [upd_ne n1, upd_ne n2]
      exact I.hok.fresh hsz
  | some cv =>
    obtain ⟨c', e, hco⟩ := ha pos cv hc
    subst e
    refine PySem.W.kla_makeFunctionHit (mg := X.mg) (c := c) (P := P) (ps := ps) (closure_ok hfree) I.ok.glob (I.mod.glob.keeps I.bk) hcode (TB.code.keeps I.bk) hP' ht hc bP fun ctv h' tk hx hsz => ?_
    have I1 : Inv X pins σ H { s with heap := h'.push (PySem.W.kla_obj "<lambda>" (X.env.qual ++ "<lambda>") params body scope (cloFrom X.env.cells scope.names []) ((X.mg "__name__").getD .none) c' ctv), toks := tk } := I.kept fun b o e => Heap.get?_push_of_some _ (hx b o e)
    exact h h'.objs.size c' ((X.mg "__name__").getD .none) ctv H _ I1 (fun _ _ _ e => e) ⟨ps, hP, ht, ha⟩ (Heap.get?_push_size _ rfl) (I.hok.fresh hsz) (nofr _ hsz) hco
end
/-- the world behind that -/
theorem hrel_lam {G : G0} {ω : Wd} {M : List O} {H H1 : Hp} {c' : Addr} (hh : HRel G ω M H) (h0 : M[0]? = some .tbl) (ex : ∀ b o, b ≠ G.tp → H b = some o → H1 b = some o) (tb : LamX.TabS H1 G.tp G.lq) (hc : H1 c' = some (LamX.CodeO c' G.lq)) : ∃ ω1, Le ω ω1 ∧ HRel G ω1 M H1 ∧ ω1.imm c' = some (LamX.CodeO c' G.lq) := by
  obtain ⟨p0, ho0, a1, a2, ⟨rfl, ps0, rfl⟩, a4, a5⟩ := hh.obj 0 _ h0 (fun z => nomatch z)
  obtain ⟨ps, t1, t2, t3⟩ := id tb
  have base : HRel G ω M H1 := by
    refine ⟨fun p o e => ex p o (fun z => by rw [z, a4] at e; cases e) (hh.imm p o e), fun p o e => ex p o (fun z => by rw [z, a5] at e; cases e) (hh.lck p o e), hh.len, fun a o e ng => ?_, hh.nd, fun p hp => ?_, hh.dj, hh.nl, fun a e => tb, hh.lkd⟩
    · obtain ⟨p, ho, e1, e2, e3, e4, e5⟩ := hh.obj a o e ng
      by_cases c : p = G.tp
      · subst c
        have ea : a = 0 := by
          obtain ⟨l1, q1⟩ := List.getElem?_eq_some_iff.mp e1
          obtain ⟨l2, q2⟩ := List.getElem?_eq_some_iff.mp a1
          exact (List.getElem_inj hh.nd).mp (q1.trans q2.symm)
        subst ea
        rw [h0] at e
        cases e
        exact ⟨_, _, e1, t1, ⟨rfl, ps, rfl⟩, e4, e5⟩
      · exact ⟨p, ho, e1, ex p ho c e2, e3, e4, e5⟩
    · by_cases c : p = G.tp
      · rw [c, t1]
        exact fun z => nomatch z
      · intro z
        have := hh.there p hp
        cases e : H p with
        | none => exact this e
        | some o => rw [ex p o c e] at z; cases z
  cases e : ω.imm c' with
  | some o =>
    have := base.imm c' o e
    rw [hc] at this
    cases this
    exact ⟨ω, Le.refl _, base, e⟩
  | none =>
    have nr : ∀ p ho o, H1 p = some ho → ORel G ω p o ho → o ≠ .gone → p ≠ c' := fun p ho o e1 r ng z => by
      rw [z, hc] at e1
      have e1 := Option.some.inj e1
      subst e1
      cases o with
      | lst ds => obtain ⟨_, z, _⟩ := r; unfold LamX.CodeO at z; cases z
      | dic ks ds => obtain ⟨_, z, _⟩ := r; unfold LamX.CodeO at z; cases z
      | ins c ks ds => obtain ⟨_, _, z, _⟩ := r; unfold LamX.CodeO at z; cases z
      | gone => exact ng rfl
      | tbl => obtain ⟨_, _, z⟩ := r; unfold LamX.CodeO at z; cases z
    have le : Le ω (ω.add c' (LamX.CodeO c' G.lq)) := Le.add e
    refine ⟨ω.add c' (LamX.CodeO c' G.lq), le, ⟨fun p o q => ?_, base.lck, base.len, fun a o q ng => ?_, base.nd, base.there, fun p o q => ?_, base.nl, base.tab, base.lkd⟩, upd_same⟩
    · have q' : upd ω.imm c' (LamX.CodeO c' G.lq) p = some o := q
      by_cases c : p = c'
      · subst c
        rw [upd_same] at q'
        cases q'
        exact hc
      · rw [upd_ne c] at q'
        exact base.imm p o q'
    · obtain ⟨p, ho, e1, e2, e3, e4, e5⟩ := base.obj a o q ng
      refine ⟨p, ho, e1, e2, e3.mono le, ?_, e5⟩
      show upd ω.imm c' _ p = none
      rw [upd_ne (nr p ho o e2 e3 ng)]
      exact e4
    · have q' : upd ω.imm c' (LamX.CodeO c' G.lq) p = some o := q
      by_cases c : p = c'
      · subst c
        cases z : ω.lck p with
        | none => exact z
        | some u =>
          have y := base.lck p u z
          rw [hc] at y
          have y := Option.some.inj y
          unfold LamX.CodeO at y
          rw [← y] at z
          exact absurd z (base.lkd p _)
      · rw [upd_ne c] at q'
        exact base.dj p o q'
section
variable {G : G0} {X : L2.Cx} {pins : List (Addr × Obj)} {σ : L2.St} {H : Hp} {s : Shared}
open LamX in
/-- it can be called from the frames above -/
theorem lam_calls {f c' : Addr} {q : Str} {params : Arguments} {body : Expr} {scope : Scope} {pm ctv : Value} {k : Nat} {C : Ec} {x : Ev.X} {env : En} (I : Inv X pins σ H s) (L : LamS X.env.scope scope) (hq : X.env.qual ++ "<lambda>" = q)
    (hf : s.heap.get? f = some (PySem.W.kla_obj "<lambda>" q params body scope (cloFrom X.env.cells scope.names []) pm c' ctv)) (hfn : H f = none) (hfr : f ∉ frs X.stack)
    (hbind : bindArgs (PySem.W.kla_fn "<lambda>" q params body scope (cloFrom X.env.cells scope.names []) pm (.ref c') ctv) ⟨[], []⟩ = pure [])
    (hbody : ∀ (A : Around) (outer : List PySem.Env) (s : Shared) (H : Hp) (E : XK), Room k (A.deeper (lamEnv X scope s.heap.objs.size f c')) → PE (lamCx X A outer s H E scope f c') body (tE ⟨G, E⟩ C x)) :
    CallsF X.prog X.w X.K X.mg X.base (k + 1) f (ZU (frs X.stack) s H) (fun E H' Q' => ∃ ω M, HRel G ω M H' ∧ (EnvRel G ω env σ ∧ ω.imm c' = some (CodeO c' q)) ∧ PostE ⟨G, E⟩ ω (ev C x env M) Q') := by
  subst hq
  refine ⟨ZU.st, fun s1 H1 outer E Q z _ _ => ⟨_, _, _, _, z.1.keep f _ hf hfn hfr (by simp)⟩, fun A outer s1 H1 Q E hr e0 z h => ?_⟩
  obtain ⟨un, hsz0, hfr'⟩ := z
  obtain ⟨ω, M, hh, ⟨he, hc⟩, post⟩ := h
  have of1 := un.keep f _ hf hfn hfr (by simp)
  obtain ⟨⟨oc, vs, t, hoc, hdc, hvc⟩, _, _⟩ := e0.hok c' _ (hh.imm _ _ hc)
  have lim : s1.heap.NoLimit := e0.mod.nolimit.keeps fun b o e => (e0.bs b o e).1
  refine PySem.W.kla_callFunE hr.depth of1 rfl L.co L.gen rfl ⟨c', oc, vs, t, rfl, hoc, hdc, hvc⟩ ?_
  rw [hbind]
  refine wpAny_pure (wpAny_newFunctionEnv (fun y hy => (L.own y hy).2) (fun y hy => absurd hy (by simp)) (fun h₁ hns hsb => ⟨lim.fresh _ hsb, ?_⟩) L.kind)
  show codeAny _ _ (.expr body (lamEnv X scope s1.heap.objs.size f c')) _ _
  have kp : ∀ b o, s1.heap.get? b = some o → h₁.get? b = some o := fun b o e => hsb.extBut b o (Nat.ne_of_lt (Heap.lt_size e)) (Heap.get?_push_of_some _ e)
  have J : Inv (lamCx X A outer s1 H1 E scope f c') [] σ H1 { s1 with heap := h₁, toks := s1.toks + ([] : List (Str × Value)).length } := lam_start2 I L e0 hr.hd un hns kp
  refine PySem.W.kla_codeExpr (wpAny_mono ((hbody A outer s1 H1 E (hr.deeper _)).run [] _ _ H1 Q J ⟨ω, M, env, he, hh, post⟩) (fun v s' hq => ?_) fun e s' hq => hq)
  obtain ⟨w', H', J', rv, q⟩ := hq
  exact ⟨w', H', J'.os, J'.bare, J'.base, J'.hok, rv, q⟩
end
end Ev


set_option autoImplicit false
set_option Elab.async false
set_option linter.all false
set_option maxRecDepth 100000
set_option maxHeartbeats 4000000
/-! EvLg: got(lambda: e) in the law's own frame. -/
namespace Ev
open PySem PySem.Spec PyProof.Rows L2 RZ EvCall
theorem gotR_nex {C : Ec} {r : Rs D} {d : D} {M : List O} : gotR C r ≠ .ex d M := by
  cases r with
  | ok d M => intro h; cases h
  | er => intro h; cases h
  | ex d' M1 =>
    cases d' with
    | exc ci ks ds =>
      intro h
      unfold gotR at h
      dsimp only at h
      split at h
      · split at h
        · cases e : C.call C.ff [.exc ci ks ds] [] M1 with
          | ok t M2 => rw [e] at h; cases h
          | er => rw [e] at h; cases h
          | ex _ _ => rw [e] at h; cases h
        · cases h
      · cases h
    | _ => intro h; cases h
theorem Post.dead {α β : Type} {G : G0} {E : XK} {RA : Wd → α → β → Prop} {ω : Wd} {r : Rs α} {Q : β → Hp → Prop} (h : Post ⟨G, E⟩ RA ω r Q) (n : ∀ d M, r ≠ .ex d M) : Post ⟨G, fun _ _ _ => False⟩ RA ω r Q := by
  cases r with
  | ok d M => exact h
  | er => exact h
  | ex d M => exact absurd rfl (n d M)
theorem tb_at {M : List O} (h : hasTb M = true) : M[0]? = some .tbl := by
  cases M with
  | nil => cases h
  | cons o M => cases o <;> first | rfl | cases h
section
variable {G : G0} {P : Pg} {k k0 n : Nat} {Y : L2.Cx} {E : XK} {C0 : Ec} {x : Ev.X} {st stF : Stmt} {gA fA cc : Addr} {c1 c2 c3 : Value} {fd : FD} {xf : Str} {N : List Str} {c : Ck} {params : Arguments} {body : Expr} {scope : Scope} {p lpos pos : Pos}
theorem pe_got (hK : Y.K = G.K) (GO : GotOk G P Y.mg st gA c1 c2 c3) (FO : FieldOk G P Y.mg fd xf N stF fA c) (TB : LamX.TabB Y.base Y.mg cc G.tp) (hcode : Y.env.code = .ref cc) (hq : Y.env.qual ++ "<lambda>" = G.lq) (L : LamX.LamS Y.env.scope scope) (hdef : defaultsOf params Y.env = ([], []))
    (hbind : ∀ (q : Str) (cl : List (Str × Addr)) (pm cv ctv : Value), bindArgs (PySem.W.kla_fn "<lambda>" q params body scope cl pm cv ctv) ⟨[], []⟩ = pure []) (hr : Room (k0 + 2) Y.A) (hg : Gl Y "_law_got") (hlev : ∀ env M, (ecN P (k + 1)).lev n env M = ev C0 x env M)
    (hbody : ∀ (A : Around) (outer : List PySem.Env) (s : Shared) (H : Hp) (E : XK) (f c' : Addr), Room k0 (A.deeper (LamX.lamEnv Y scope s.heap.objs.size f c')) → PE (LamX.lamCx Y A outer s H E scope f c') body (tE ⟨G, E⟩ C0 x)) :
    PE Y (.Call (.Name "_law_got" p) [.Lambda params body scope lpos] [] pos) (tE ⟨G, E⟩ (ecN P (k + 1)) (.got n)) := by
  refine ⟨fun pins s σ H Q I h => ?_⟩
  obtain ⟨ω, M, env, he, hh, post⟩ := h
  rw [ev] at post
  split at post
  · rename_i htb
    have h0 := tb_at htb
    refine wpAny_Call_Name_kw (ld_glob I hg GO.at_.glo ?_ (by decide))
    have kp : PySem.W.keepIn Y.K (.ref gA) = true := by rw [hK]; exact GO.at_.kp
    refine PySem.W.callWith_K (h₀ := Y.base) I.ok.mod.kin kp ?_ (by rfl) (by rfl)
    show wpAny _ _ (spliced ((false, eval (.Lambda params body scope lpos) Y.env) :: backTo pos (starEach [] Y.env))) _ _ s
    refine Calls.spliced_cons (lam_make3 I TB hcode hq (hh.tab 0 h0) hdef (L.has I.ok) fun f c' pm ctv H1 s' I1 ex T1 hf hfn hfr hco => ?_)
    refine Calls.spliced_nil ⟨I1.kIn, ?_⟩
    obtain ⟨ω1, le, hh1, hc1⟩ := hrel_lam hh h0 ex T1 hco
    have cf := lam_calls (G := G) (env := env) I1 L hq hf hfn hfr (hbind _ _ _ _ _) (fun A outer s H E hr => hbody A outer s H E f c' hr)
    have e0 := I1.env0
    rw [hK] at cf e0
    rw [hlev] at post
    refine wpAny_call (codeAny_mono (got_run (k := k) (lv := fun M => ev C0 x env M) GO FO cf ⟨Un.kept fun _ _ z => z, Nat.le_refl _, fun b hb => .inl hb⟩ hr e0 ⟨ω1, M, hh1, ⟨he.mono le, hc1⟩, (Post.dead (Post.mono post le) fun _ _ => gotR_nex)⟩) fun r s2 hq => ?_)
    cases r with
    | error e => exact False.elim (passF (Z := Y.nox) pins σ H1 s' e s2 (I1.wish _) hq)
    | ok fl =>
      cases fl with
      | ret u => exact I1.after hq
      | next => exact False.elim hq
      | brk => exact False.elim hq
      | cont => exact False.elim hq
  · exact False.elim post
end
end Ev


set_option autoImplicit false
set_option Elab.async false
set_option linter.all false
set_option maxRecDepth 100000
set_option maxHeartbeats 4000000
/-! EvLh: why(lambda: e) in the law's own frame. -/
namespace Ev
open PySem PySem.Spec PyProof.Rows L2 RZ EvCall
def whyX : X := .ife (.cmp .ne (.item (.var 1) (.cst (.int 0))) (.cst (.str tTold))) (.var 1) (.tup [.cst (.str tTold), .cst .non])
def ckW (st : Stmt) : Ck := ⟨["_law_ask", "_law_found"], defScope st, fun _ => true, [], [], [], [], fun _ _ => false⟩
/-- the text of the def -/
def whyTx (st : Stmt) : Bool := match defBody st with
  | [.Assign [.Name x1 _] (.Call (.Name g _) [.Name a _] [] _) _, .Return (some v) _] => decide (x1 = "_law_found" ∧ g = "_law_got" ∧ a = "_law_ask") && okE whyX (ckW st) v
  | _ => false
theorem whyTx_ok {st : Stmt} (h : whyTx st = true) : ∃ p1 p2 p3 p4 p5 v p6, defBody st = [.Assign [.Name "_law_found" p1] (.Call (.Name "_law_got" p2) [.Name "_law_ask" p3] [] p4) p5, .Return (some v) p6] ∧ okE whyX (ckW st) v = true := by
  unfold whyTx at h
  split at h
  · rename_i e
    rw [Bool.and_eq_true] at h
    obtain ⟨rfl, rfl, rfl⟩ := of_decide_eq_true h.1
    exact ⟨_, _, _, _, _, _, _, e, h.2⟩
  · cases h
theorem why_ev {C : Ec} {w : Tx} {y : D} {a : Option D} {M : List O} (h : okTx w = true) : ev C whyX [a, some (.tup [.str w, y])] M = whyR (.ok (.tup [.str w, y]) M) := by
  have dt : dat 60 (D.str tTold) = true := by decide
  have e2 : ev C (.cmp .ne (.item (.var 1) (.cst (.int 0))) (.cst (.str tTold))) [a, some (.tup [.str w, y])] M = .ok (.bl (!txEq w tTold)) M := by
    show (if dat 60 (D.str w) && dat 60 (D.str tTold) then Rs.ok (D.bl (!eqD (.str w) (.str tTold))) M else .er) = _
    rw [dt, show dat 60 (D.str w) = true from h]
    rfl
  have e3 : ev C whyX [a, some (.tup [.str w, y])] M = (ev C (.cmp .ne (.item (.var 1) (.cst (.int 0))) (.cst (.str tTold))) [a, some (.tup [.str w, y])] M).bind fun x M1 => match x with
    | .bl true => ev C (.var 1) [a, some (.tup [.str w, y])] M1
    | .bl false => ev C (.tup [.cst (.str tTold), .cst .non]) [a, some (.tup [.str w, y])] M1
    | _ => .er := rfl
  rw [e3, e2]
  unfold whyR
  simp only [Rs.bind, h, if_true]
  cases e : txEq w tTold with
  | true => rfl
  | false => rfl
structure WhyOk (G : G0) (mg : Str → Option Value) (st : Stmt) (adr : Addr) : Prop where
  at_ : DefAt G.K mg st "_law_why" adr
  tx : whyTx st = true
  pl : plainA ["_law_ask"] (defArgs st) = true
  sc : FnScope ["_law_ask", "_law_found"] ["_law_ask"] (defScope st)
  nms : (defScope st).names.lookup ("_law_ask" : Str) = some .local ∧ (defScope st).names.lookup ("_law_found" : Str) = some .local ∧ (defScope st).names.lookup ("_law_got" : Str) = some .globalImplicit
end Ev


set_option autoImplicit false
set_option Elab.async false
set_option linter.all false
set_option maxRecDepth 100000
set_option maxHeartbeats 4000000
/-! EvLi: why(lambda: e) in the law's own frame. -/
namespace Ev
open PySem PySem.Spec PyProof.Rows L2 RZ EvCall
section
variable {G : G0} {P : Pg} {k : Nat} {prog : Program} {w : World} {mg : Str → Option Value} {base : Heap}
theorem why_run {st stF stW : Stmt} {gA fA wA : Addr} {c1 c2 c3 : Value} {fd : FD} {x : Str} {N : List Str} {c : Ck} (GO : GotOk G P mg st gA c1 c2 c3) (FO : FieldOk G P mg fd x N stF fA c) (WO : WhyOk G mg stW wA) {k0 : Nat} {f : Addr} {s1 : Shared} {H1 : Hp} {Z : Shared → Hp → List PySem.Env → Prop} {A : Around} {outer : List PySem.Env} {Q : VK} {Wk : Wd → Prop} {lv : List O → Rs D}
    (C : CallsF prog w G.K mg base k0 f Z (fun E H' Q' => ∃ ω M, HRel G ω M H' ∧ Wk ω ∧ PostE ⟨G, E⟩ ω (lv M) Q')) (hzz : Z s1 H1 outer) (hr : Room (k0 + 2) A) (e0 : Env0 prog w G.K mg base A outer s1 H1)
    (h : ∃ ω M, HRel G ω M H1 ∧ Wk ω ∧ PostE ⟨G, fun _ _ _ => False⟩ ω (whyR (gotR (ecN P (k + 1)) (lv M))) Q) :
    codeAny (model prog w) A (.call (.ref wA) ⟨[.ref f], []⟩) (CR (L2.CX prog w) outer prog w H1 s1 Q (fun _ _ _ => False)) s1 := by
  obtain ⟨oc, od, kV, doc, pm, an, cdv, ct, osl, lk, hcd⟩ := WO.at_.ex
  obtain ⟨n1, n2, n3⟩ := id WO.nms
  have b := bind_plain (x := "_law_why") (q := "_law_why") (body := defBody stW) (sc := defScope stW) (ps := ["_law_ask"]) WO.pl kV doc pm an cdv ct [.ref f] rfl
  have hb : BindsTo s1 (PySem.W.fnOf "_law_why" "_law_why" (defArgs stW) (defBody stW) (defScope stW) .none kV doc pm an cdv ct) ⟨[.ref f], []⟩ ((["_law_ask"] : List Str).zip [Value.ref f]) := fun M A Q E h => by
    rw [b]
    exact wpAny_pure h
  refine LamX.run_ofS (k := k0 + 1) (N := ["_law_ask", "_law_found"]) (ps := ["_law_ask"]) (us := [.ref f]) (vs := [.ref f]) lk hcd WO.sc hr e0 hb (.cons rfl .nil) rfl fun hr' => ?_
  obtain ⟨p1, p2, p3, p4, p5, v, p6, eb, okv⟩ := whyTx_ok WO.tx
  rw [eb]
  have hun : A.units + 3 + 16 * (k0 + 1) + 200 < cLine := hr'.un
  have pg : PE (cxOf (L2.CX prog w) prog w G.K mg base ["_law_ask", "_law_found"] "_law_why" (defScope stW) wA cdv A outer s1 H1 (fun _ _ _ => False)) (.Call (.Name "_law_got" p2) [.Name "_law_ask" p3] [] p4) (fun σ H' Q' => σ[0]? = some (some (.ref f)) ∧ ∃ ω M, HRel G ω M H' ∧ Wk ω ∧ PostE ⟨G, fun _ _ _ => False⟩ ω (gotR (ecN P (k + 1)) (lv M)) Q') := by
    refine ⟨fun pinsZ sZ σZ HZ Q' IZ hz => ?_⟩
    obtain ⟨hs, hz⟩ := hz
    refine wpAny_Call_Name_kw (ld_glob IZ n3 GO.at_.glo ?_ (by decide))
    refine PySem.W.callWith_K (h₀ := base) IZ.ok.mod.kin GO.at_.kp (thn ((pa_cons (pe_var (pos := p3) (i := 0) rfl (.inl n1) (by decide) (by decide)) pa_nil).run p4 pinsZ sZ σZ HZ (fun vs H2 => vs = [V.ref f] ∧ H2 = HZ) IZ ⟨.ref f, hs, rfl, rfl⟩) fun us s2 ⟨vs, H2, I2, r2, q2⟩ => ⟨I2.kIn, ?_⟩) (by rfl) (by rfl)
    obtain ⟨rfl, rfl⟩ := q2
    obtain ⟨u, e1, ru⟩ := r2.one
    subst e1
    obtain rfl : u = Value.ref f := ru
    have ub : Un (frs outer) [] H1 H2 s1.heap s2.heap := I2.base
    have hlt : s1.heap.objs.size < s2.heap.objs.size := I2.lt
    refine wpAny_call (codeAny_mono (got_run (k := k) (lv := lv) GO FO C (C.st hzz ub hlt) hr' I2.env0 hz) fun r s3 hq => ?_)
    cases r with
    | error e => exact False.elim (passF (Z := (cxOf (L2.CX prog w) prog w G.K mg base ["_law_ask", "_law_found"] "_law_why" (defScope stW) wA cdv A outer s1 H1 (fun _ _ _ => False)).nox) pinsZ σZ H2 s2 e s3 (I2.wish _) hq)
    | ok fl =>
      cases fl with
      | ret u => exact I2.after hq
      | next => exact False.elim hq
      | brk => exact False.elim hq
      | cont => exact False.elim hq
  have OW : OkW G (ckW stW) (cxOf (L2.CX prog w) prog w G.K mg base ["_law_ask", "_law_found"] "_law_why" (defScope stW) wA cdv A outer s1 H1 (fun _ _ _ => False)) := ⟨rfl, rfl, rfl, by show A.units + 3 + 64 < cLine; omega⟩
  refine ⟨_, pss_cons (ps_asg pg (pg_name (i := 1) WO.sc.nd rfl (.inl n2) (.inr n2)) rfl rfl) (pss_one (ss_ret (wndE (G := ⟨G, fun _ _ _ => False⟩) (P := P) (k := 0) whyX (ckW stW) v _ OW rfl okv))), ?_⟩
  obtain ⟨ω, M, hh, wk, post⟩ := h
  refine ⟨rfl, ω, M, hh, wk, ?_⟩
  unfold whyR at post
  refine Post.bind post fun d M1 ω1 H2 v le hh1 r p => ?_
  split at p
  · rename_i ww y
    split at p
    · rename_i hw
      refine ⟨ω1, M1, [none, some (.tup [.str ww, y])], ⟨rfl, fun i d ed => ?_⟩, hh1, ?_⟩
      · match i, ed with
        | 1, ed =>
          have ed : D.tup [.str ww, y] = d := by simpa using ed
          subst ed
          exact ⟨v, rfl, r⟩
        | 0, ed => simp at ed
        | i + 2, ed => simp at ed
      · rw [exec, why_ev hw]
        unfold whyR
        simp only [Rs.bind, hw, if_true]
        split at p
        · rename_i hz
          rw [if_pos hz]
          exact p
        · rename_i hz
          rw [if_neg hz]
          exact p
    · exact False.elim p
  · exact False.elim p
end
theorem whyR_nex {r : Rs D} {d : D} {M : List O} (n : ∀ d M, r ≠ .ex d M) : whyR r ≠ .ex d M := by
  cases r with
  | er => intro h; cases h
  | ex d' M' => exact absurd rfl (n d' M')
  | ok p M1 =>
    intro h
    unfold whyR at h
    simp only [Rs.bind] at h
    split at h
    · split at h
      · split at h <;> cases h
      · cases h
    · cases h
section
variable {G : G0} {P : Pg} {k k0 n : Nat} {Y : L2.Cx} {E : XK} {C0 : Ec} {x : Ev.X} {st stF : Stmt} {gA fA cc : Addr} {c1 c2 c3 : Value} {fd : FD} {xf : Str} {N : List Str} {c : Ck} {params : Arguments} {body : Expr} {scope : Scope} {p lpos pos : Pos}
theorem pe_why {stW : Stmt} {wA : Addr} (hK : Y.K = G.K) (WO : WhyOk G Y.mg stW wA) (GO : GotOk G P Y.mg st gA c1 c2 c3) (FO : FieldOk G P Y.mg fd xf N stF fA c) (TB : LamX.TabB Y.base Y.mg cc G.tp) (hcode : Y.env.code = .ref cc) (hq : Y.env.qual ++ "<lambda>" = G.lq) (L : LamX.LamS Y.env.scope scope) (hdef : defaultsOf params Y.env = ([], []))
    (hbind : ∀ (q : Str) (cl : List (Str × Addr)) (pm cv ctv : Value), bindArgs (PySem.W.kla_fn "<lambda>" q params body scope cl pm cv ctv) ⟨[], []⟩ = pure []) (hr : Room (k0 + 3) Y.A) (hg : Gl Y "_law_why") (hlev : ∀ env M, (ecN P (k + 1)).lev n env M = ev C0 x env M)
    (hbody : ∀ (A : Around) (outer : List PySem.Env) (s : Shared) (H : Hp) (E : XK) (f c' : Addr), Room k0 (A.deeper (LamX.lamEnv Y scope s.heap.objs.size f c')) → PE (LamX.lamCx Y A outer s H E scope f c') body (tE ⟨G, E⟩ C0 x)) :
    PE Y (.Call (.Name "_law_why" p) [.Lambda params body scope lpos] [] pos) (tE ⟨G, E⟩ (ecN P (k + 1)) (.why n)) := by
  refine ⟨fun pins s σ H Q I h => ?_⟩
  obtain ⟨ω, M, env, he, hh, post⟩ := h
  rw [ev] at post
  split at post
  · rename_i htb
    have h0 := tb_at htb
    refine wpAny_Call_Name_kw (ld_glob I hg WO.at_.glo ?_ (by decide))
    have kp : PySem.W.keepIn Y.K (.ref wA) = true := by rw [hK]; exact WO.at_.kp
    refine PySem.W.callWith_K (h₀ := Y.base) I.ok.mod.kin kp ?_ (by rfl) (by rfl)
    show wpAny _ _ (spliced ((false, eval (.Lambda params body scope lpos) Y.env) :: backTo pos (starEach [] Y.env))) _ _ s
    refine Calls.spliced_cons (lam_make3 I TB hcode hq (hh.tab 0 h0) hdef (L.has I.ok) fun f c' pm ctv H1 s' I1 ex T1 hf hfn hfr hco => ?_)
    refine Calls.spliced_nil ⟨I1.kIn, ?_⟩
    obtain ⟨ω1, le, hh1, hc1⟩ := hrel_lam hh h0 ex T1 hco
    have cf := lam_calls (G := G) (env := env) I1 L hq hf hfn hfr (hbind _ _ _ _ _) (fun A outer s H E hr => hbody A outer s H E f c' hr)
    have e0 := I1.env0
    rw [hK] at cf e0
    rw [hlev] at post
    refine wpAny_call (codeAny_mono (why_run (k := k) (lv := fun M => ev C0 x env M) GO FO WO cf ⟨Un.kept fun _ _ z => z, Nat.le_refl _, fun b hb => .inl hb⟩ hr e0 ⟨ω1, M, hh1, ⟨he.mono le, hc1⟩, (Post.dead (Post.mono post le) fun _ _ => whyR_nex fun _ _ => gotR_nex)⟩) fun r s2 hq => ?_)
    cases r with
    | error e => exact False.elim (passF (Z := Y.nox) pins σ H1 s' e s2 (I1.wish _) hq)
    | ok fl =>
      cases fl with
      | ret u => exact I1.after hq
      | next => exact False.elim hq
      | brk => exact False.elim hq
      | cont => exact False.elim hq
  · exact False.elim post
end
end Ev


set_option autoImplicit false
set_option Elab.async false
set_option linter.all false
set_option maxRecDepth 100000
set_option maxHeartbeats 4000000
/-! EvLm: lists of lambdas: they are made, and can be called later. -/
namespace Ev
open PySem PySem.Spec PyProof.Rows L2 RZ EvCall
/-- at f: a lambda that is good -/
def LamO (cells : List (Str × Addr)) (q : Str) (good : Arguments → Expr → Scope → Prop) (f c : Addr) : HO :=
  .ext fun h => ∃ params body scope pm ctv, h.get? f = some (PySem.W.kla_obj "<lambda>" q params body scope (cloFrom cells scope.names []) pm c ctv) ∧ good params body scope
theorem lamO_ok {prog : Program} {w : World} {H : Hp} {h : Heap} {cells : List (Str × Addr)} {q : Str} {good : Arguments → Expr → Scope → Prop} {f c : Addr} {params : Arguments} {body : Expr} {scope : Scope} {pm ctv : Value}
    (e : h.get? f = some (PySem.W.kla_obj "<lambda>" q params body scope (cloFrom cells scope.names []) pm c ctv)) (g : good params body scope) : ObjOk prog w H h f (LamO cells q good f c) :=
  ⟨⟨params, body, scope, pm, ctv, e, g⟩, ⟨_, e⟩, fun h1 h2 z k => by
    obtain ⟨a, b, s, p, t, e1, e2⟩ := z
    exact ⟨a, b, s, p, t, k _ e1, e2⟩⟩
section
variable {X : L2.Cx} {pins : List (Addr × Obj)} {σ : L2.St} {H : Hp} {s : Shared}
open LamX in
/-- the lambda is made and known from now on -/
theorem lam_make4 {c P : Addr} {q : Str} {params : Arguments} {body : Expr} {scope : Scope} {pos : Pos} {good : Arguments → Expr → Scope → Prop} {E : Value → Shared → Prop} {Q : Value → Shared → Prop} (I : Inv X pins σ H s) (TB : TabB X.base X.mg c P) (hcode : X.env.code = .ref c) (hq : X.env.qual ++ "<lambda>" = q)
    (hT : TabS H P q) (hdef : defaultsOf params X.env = ([], [])) (hfree : ∀ y ∈ scope.names, y.2 = .free → ∃ c, X.env.cells.lookup y.1 = some c) (hg : good params body scope)
    (h : ∀ (f c' : Addr) (H1 : Hp) (s' : Shared), Inv X pins σ (upd H1 f (LamO X.env.cells q good f c')) s' → (∀ b o, b ≠ P → H b = some o → H1 b = some o) → TabS H1 P q → H1 f = none → H1 c' = some (CodeO c' q) → Q (.ref f) s') :
    wpAny (model X.prog X.w) X.A (eval (.Lambda params body scope pos) X.env) Q E s := by
  subst hq
  obtain ⟨ps, hP, ht, ha⟩ := hT
  refine PySem.W.kla_eval hdef ?_
  have bP : s.heap.BuiltinsAt X.mg P := TB.bm.keeps I.bk
  have hP' : s.heap.get? P = some { cls := .none, data := .fields ps } := I.hok P _ hP
  cases hc : codeAmong pos ps.toList with
  | none =>
    refine PySem.W.kla_makeFunction (mg := X.mg) (c := c) (P := P) (ps := ps) (closure_ok hfree) I.ok.glob (I.mod.glob.keeps I.bk) hcode (TB.code.keeps I.bk) hP' ht hc TB.gP bP fun c' ctv h' tk hx hge hlt hrec htb => ?_
    obtain ⟨c2, oc, vs, t, e2, hoc, hd, hv⟩ := hrec
    cases e2
    have hsz : s.heap.objs.size ≤ h'.objs.size := Nat.le_trans hge (Nat.le_of_lt hlt)
    have nC : H c' = none := I.hok.fresh hge
    have I0 := inv_table (t' := tk) (more := #[rawInt pos.line, rawInt pos.col, .ref c']) (h' := h') I hP hx htb hge ⟨oc, vs, t, hoc, hd, hv⟩
    have I1 := I0.laid (t' := tk) (a := h'.objs.size) (o := LamO X.env.cells (X.env.qual ++ "<lambda>") good h'.objs.size c') (h' := h'.push (PySem.W.kla_obj "<lambda>" (X.env.qual ++ "<lambda>") params body scope (cloFrom X.env.cells scope.names []) ((X.mg "__name__").getD .none) c' ctv))
      (fun b u e => Heap.get?_push_of_some _ e) (Nat.le_refl _) (lamO_ok (Heap.get?_push_size _ rfl) hg)
    have hE : ∀ b o, b ≠ P → H b = some o → upd (upd H P (.tbl (ps ++ #[rawInt pos.line, rawInt pos.col, .ref c']))) c' (CodeO c' (X.env.qual ++ "<lambda>")) b = some o := fun b o n e => by
      rw [upd_ne (ne_of_none e nC), upd_ne n]
      exact e
    have eL : (ps ++ #[rawInt pos.line, rawInt pos.col, .ref c']).toList = ps.toList ++ [rawInt pos.line, rawInt pos.col, .ref c'] := by simp
    refine h h'.objs.size c' _ _ I1 hE ?_ ?_ upd_same
    · refine ⟨_, by rw [upd_ne (ne_of_none hP nC), upd_same], by rw [eL]; exact PySem.TriplesOk_snoc _ _ _ _ ht, fun p' cv hcv => ?_⟩
      rw [eL] at hcv
      rcases among_app _ ht hcv with z | z
      · obtain ⟨c0, e1, e2⟩ := ha p' cv z
        refine ⟨c0, e1, hE _ _ (fun y => ?_) e2⟩
        rw [y, hP] at e2
        exact codeO_ne ps (Option.some.inj e2).symm
      · exact ⟨c', z, upd_same⟩
    · have n1 : h'.objs.size ≠ c' := Nat.ne_of_gt hlt
      have n2 : h'.objs.size ≠ P := Nat.ne_of_gt (Nat.lt_of_lt_of_le (Heap.lt_size hP') hsz)
      rw [upd_ne n1, upd_ne n2]
      exact I.hok.fresh hsz
  | some cv =>
    obtain ⟨c', e, hco⟩ := ha pos cv hc
    subst e
    refine PySem.W.kla_makeFunctionHit (mg := X.mg) (c := c) (P := P) (ps := ps) (closure_ok hfree) I.ok.glob (I.mod.glob.keeps I.bk) hcode (TB.code.keeps I.bk) hP' ht hc bP fun ctv h' tk hx hsz => ?_
    have I1 := I.laid (t' := tk) (a := h'.objs.size) (o := LamO X.env.cells (X.env.qual ++ "<lambda>") good h'.objs.size c') (h' := h'.push (PySem.W.kla_obj "<lambda>" (X.env.qual ++ "<lambda>") params body scope (cloFrom X.env.cells scope.names []) ((X.mg "__name__").getD .none) c' ctv))
      (fun b u e => Heap.get?_push_of_some _ (hx b u e)) hsz (lamO_ok (Heap.get?_push_size _ rfl) hg)
    exact h h'.objs.size c' H _ I1 (fun _ _ _ e => e) ⟨ps, hP, ht, ha⟩ (I.hok.fresh hsz) hco
end
/-! ### the cells of the law's frame, as a part of what never changes -/
section
variable {Y : L2.Cx} {pins : List (Addr × Obj)} {σ : L2.St} {H : Hp} {s : Shared}
open Classical in
theorem cells_base (I : Inv Y pins σ H s) (hfn : ∀ x, Y.fn x = true) : ∃ base' : Heap, (∀ b o, Y.base.get? b = some o → base'.get? b = some o) ∧ (∀ x c, Y.env.cells.lookup x = some c → ∃ o, base'.get? c = some o ∧ s.heap.get? c = some o) ∧ Env0 Y.prog Y.w Y.K Y.mg base' Y.A Y.stack s H := by
  let Hx : Hp := fun b => if (∃ o, Y.base.get? b = some o) ∨ ∃ x, Y.env.cells.lookup x = some b then none else some (.own 0)
  have e0 := I.env0
  have up : ∀ b o, Y.base.get? b = some o → (hidT s.heap Hx).get? b = some o := fun b o e => hidT_get (I.bk b o e) (if_pos (.inl ⟨o, e⟩))
  have dn : ∀ b o, (hidT s.heap Hx).get? b = some o → s.heap.get? b = some o ∧ H b = none := fun b o e => by
    obtain ⟨e1, e2⟩ := of_hidT e
    refine ⟨e1, ?_⟩
    by_cases c : (∃ o, Y.base.get? b = some o) ∨ ∃ x, Y.env.cells.lookup x = some b
    · rcases c with ⟨o', c⟩ | ⟨x, c⟩
      · exact (I.bs b o' c).2
      · exact I.freeC x b c
    · have e2 : (if (∃ o, Y.base.get? b = some o) ∨ ∃ x, Y.env.cells.lookup x = some b then none else some (HO.own 0)) = none := e2
      rw [if_neg c] at e2
      cases e2
  refine ⟨hidT s.heap Hx, up, fun x c e => ?_, e0.frames, ⟨fun b o e => up b o (e0.mod.kin b o e), e0.mod.glob.keeps up, let ⟨mb, h1, h2⟩ := e0.mod.blt; ⟨mb, h1.keeps up, h2⟩, e0.mod.nolimit.keeps up⟩, dn, Nat.le_of_eq (hidT_size _ _), ?_, e0.frf, e0.hok, e0.bare⟩
  · obtain ⟨v, o, ho, hd⟩ := I.cell x c e
    exact ⟨o, hidT_get ho (if_pos (.inr ⟨x, e⟩)), ho⟩
  · have cel : ∀ b x, Y.env.cells.lookup x = some b → b ∉ frs Y.stack := fun b x e z => by
      obtain ⟨v, o, ho, hd⟩ := I.cell x b e
      have out : b ∉ frs Y.outer := fun z => by
        obtain ⟨_, o2, h2, _⟩ := I.ok.funs.mem z
        exact Nat.lt_irrefl _ (Nat.lt_of_lt_of_le (Heap.lt_size h2) (I.ok.cab x b (hfn x) e))
      rcases I.ok.stk with k | ⟨k, k2⟩
      · rw [k] at z
        exact out z
      · rw [k] at z
        rcases List.mem_cons.mp (show b ∈ Y.env.locals :: frs Y.outer from by
          unfold frs at z
          rw [List.filterMap_cons, k2] at z
          exact z) with z | z
        · obtain ⟨m, ⟨o3, es, ep, e3, d3, _⟩, _⟩ := I.loc
          rw [← z, ho] at e3
          cases e3
          rw [hd] at d3
          cases d3
        · exact out z
    have key : ∀ l : List PySem.Env, (∀ b ∈ frs l, b ∈ frs Y.stack) → s.heap.FunFrames Y.base l → s.heap.FunFrames (hidT s.heap Hx) l := fun l => by
      induction l with
      | nil => exact fun _ _ => trivial
      | cons env rest ih =>
        rintro hl ⟨a, ⟨L, o, f1, f2, f3, f4⟩, c⟩
        refine ⟨a, ⟨L, o, f1, ?_, f3, f4⟩, ih (fun b hb => hl b ?_) c⟩
        · cases q : (hidT s.heap Hx).get? L with
          | none => rfl
          | some o' =>
            obtain ⟨e1, e2⟩ := of_hidT q
            have e2 : (if (∃ o, Y.base.get? L = some o) ∨ ∃ x, Y.env.cells.lookup x = some L then none else some (HO.own 0)) = none := e2
            by_cases c : (∃ o, Y.base.get? L = some o) ∨ ∃ x, Y.env.cells.lookup x = some L
            · rcases c with ⟨o', c⟩ | ⟨x, c⟩
              · rw [c] at f2; cases f2
              · exact absurd (hl L (List.mem_filterMap.mpr ⟨env, List.mem_cons_self, f1⟩)) (cel L x c)
            · rw [if_neg c] at e2
              cases e2
        · obtain ⟨e, he, q⟩ := List.mem_filterMap.mp hb
          exact List.mem_filterMap.mpr ⟨e, List.mem_cons_of_mem _ he, q⟩
    exact key _ (fun _ z => z) e0.funs
/-- the context of the lambda's body over another base -/
def lamCxB (Y : L2.Cx) (base' : Heap) (A : Around) (outer : List PySem.Env) (s : Shared) (H : Hp) (E : XK) (scope : Scope) (f c' : Addr) : L2.Cx := { LamX.lamCx Y A outer s H E scope f c' with base := base' }
open LamX in
theorem lam_startB {base' : Heap} {A : Around} {outer : List PySem.Env} {E : XK} {scope : Scope} {f c' : Addr} {s1 : Shared} {HZ : Hp} {h₁ : Heap} {tk : Nat} (I : Inv Y pins σ H s) (hb : ∀ x c, Y.env.cells.lookup x = some c → ∃ o, base'.get? c = some o ∧ s.heap.get? c = some o) (L : LamS Y.env.scope scope) (e0 : Env0 Y.prog Y.w Y.K Y.mg base' A outer s1 HZ) (hd : A.handled = none)
    (hns : h₁.Ns s1.heap.objs.size fun y => ([] : List (Str × Value)).reverse.lookup y) (kp : ∀ b o, s1.heap.get? b = some o → h₁.get? b = some o) :
    Inv (lamCxB Y base' A outer s1 HZ E scope f c') [] σ HZ { s1 with heap := h₁, toks := tk } := by
  have clo : ∀ {y c}, (cloFrom Y.env.cells scope.names []).lookup y = some c → Y.env.cells.lookup y = some c := fun {y c} e => by
    rcases cloFrom_mem (PySem.mem_of_lookup e) with hm | ⟨h1, h2⟩
    · cases hm
    · obtain ⟨c1, q⟩ := L.has I.ok _ h1 rfl
      have q : Y.env.cells.lookup y = some c1 := q
      rw [q] at h2
      rw [q]
      exact congrArg some h2.symm
  have find : ∀ {y}, scope.names.lookup y = some .free → ∃ c, (cloFrom Y.env.cells scope.names []).lookup y = some c := fun {y} hl => mem_lookup (cloFrom_has (cells := Y.env.cells) (acc := []) (PySem.mem_of_lookup hl))
  have cel : ∀ {x c v}, Y.env.cells.lookup x = some c → s.heap.IsCell c v → h₁.IsCell c v := fun {x c v} e ⟨o, ho, q⟩ => by
    obtain ⟨o', b1, b2⟩ := hb x c e
    rw [ho] at b2
    cases b2
    exact ⟨o, kp _ _ (e0.bs _ _ b1).1, q⟩
  have noA : ∀ b : Addr, b ∉ (lamCxB Y base' A outer s1 HZ E scope f c').ex := fun b z => absurd (show b ∈ ([] : List Addr) from z) (by simp)
  refine ⟨⟨e0.mod, L.kind, rfl, rfl, Nat.le_refl _, fun y z c e1 e2 => I.ok.inj y z c (clo e1) (clo e2), fun y hy => ?_, fun y c z _ => (nomatch (show false = true from z)), fun _ => hd, Around.frames_deeper e0.frames, .inr ⟨rfl, rfl⟩, fun b z => absurd z (noA b), e0.bs, e0.bsz, fun b _ _ => noA b, fun b z => absurd z (noA b), e0.funs, e0.frf⟩,
    rfl, e0.bare, Un.kept kp, ⟨_, hns, fun i y v e1 e2 e3 => ?_⟩, fun y c e => ?_, e0.hok.fresh (Nat.le_refl _), fun y c e => ?_, fun q hq => absurd (show q ∈ ([] : List (Addr × Obj)) ++ [] from hq) (by simp), e0.hok.kept kp, I.len⟩
  · rcases (show scope.names.lookup y = some .cell ∨ scope.names.lookup y = some .free from hy) with hy | hy
    · exact absurd rfl (L.own _ (PySem.mem_of_lookup hy)).2
    · exact find hy
  · rcases (show Vis scope y from e3) with k | k | k
    · exact absurd rfl (L.own _ (PySem.mem_of_lookup k)).1
    · exact absurd rfl (L.own _ (PySem.mem_of_lookup k)).2
    · obtain ⟨m, hn, hl⟩ := I.loc
      obtain ⟨w', r, q⟩ := hl i y v e1 e2 ((L.free _ (PySem.mem_of_lookup k) rfl).elim (fun k => .inr (.inl k)) (fun k => .inr (.inr k)))
      obtain ⟨c2, h2⟩ := find k
      refine ⟨w', r, .inr ⟨.inr k, c2, h2, ?_⟩⟩
      rcases q with ⟨k', _⟩ | ⟨_, c3, e', z⟩
      · have k' : Y.env.scope.names.lookup y = some .local := k'
        rcases L.free _ (PySem.mem_of_lookup k) rfl with k2 | k2
        · rw [show Y.env.scope.names.lookup y = _ from k2] at k'; cases k'
        · rw [show Y.env.scope.names.lookup y = _ from k2] at k'; cases k'
      · rw [clo h2] at e'
        cases e'
        exact cel (clo h2) z
  · obtain ⟨w', z⟩ := I.cell y c (clo e)
    exact ⟨w', cel (clo e) z⟩
  · obtain ⟨o, b1, _⟩ := hb y c (clo e)
    exact (e0.bs _ _ b1).2
variable {G : G0}
open LamX in
/-- a lambda of a list can be called from the frames above -/
theorem lam_callsB {base' : Heap} {f : Addr} {q : Str} {good : Arguments → Expr → Scope → Prop} {k : Nat} {C : Ec} {x : Ev.X} {env : En} (I : Inv Y pins σ H s) (hb : ∀ x c, Y.env.cells.lookup x = some c → ∃ o, base'.get? c = some o ∧ s.heap.get? c = some o) (hq : Y.env.qual ++ "<lambda>" = q)
    (hgood : ∀ params body scope, good params body scope → LamS Y.env.scope scope ∧ (∀ (cl : List (Str × Addr)) (pm cv ctv : Value), bindArgs (PySem.W.kla_fn "<lambda>" q params body scope cl pm cv ctv) ⟨[], []⟩ = pure []) ∧
      ∀ (c' : Addr) (A : Around) (outer : List PySem.Env) (s : Shared) (H : Hp) (E : XK), Room k (A.deeper (lamEnv Y scope s.heap.objs.size f c')) → PE (lamCxB Y base' A outer s H E scope f c') body (tE ⟨G, E⟩ C x)) :
    CallsF Y.prog Y.w Y.K Y.mg base' (k + 1) f (fun _ _ _ => True) (fun E H' Q' => ∃ ω M, HRel G ω M H' ∧ (EnvRel G ω env σ ∧ ∃ c', ω.imm f = some (LamO Y.env.cells q good f c') ∧ ω.imm c' = some (CodeO c' q)) ∧ PostE ⟨G, E⟩ ω (ev C x env M) Q') := by
  subst hq
  refine ⟨fun _ _ _ => trivial, fun s1 H1 outer E Q _ hok h => ?_, fun A outer s1 H1 Q E hr e0 _ h => ?_⟩
  · obtain ⟨ω, M, hh, ⟨he, c', hf, hc⟩, post⟩ := h
    obtain ⟨⟨params, body, scope, pm, ctv, of1, _⟩, _⟩ := hok f _ (hh.imm _ _ hf)
    exact ⟨_, _, _, _, of1⟩
  · obtain ⟨ω, M, hh, ⟨he, c', hf, hc⟩, post⟩ := h
    obtain ⟨⟨params, body, scope, pm, ctv, of1, gd⟩, _⟩ := e0.hok f _ (hh.imm _ _ hf)
    obtain ⟨L, hbind, hbody⟩ := hgood params body scope gd
    obtain ⟨⟨oc, vs, t, hoc, hdc, hvc⟩, _, _⟩ := e0.hok c' _ (hh.imm _ _ hc)
    have lim : s1.heap.NoLimit := e0.mod.nolimit.keeps fun b o e => (e0.bs b o e).1
    refine PySem.W.kla_callFunE hr.depth of1 rfl L.co L.gen rfl ⟨c', oc, vs, t, rfl, hoc, hdc, hvc⟩ ?_
    rw [hbind]
    refine wpAny_pure (wpAny_newFunctionEnv (fun y hy => (L.own y hy).2) (fun y hy => absurd hy (by simp)) (fun h₁ hns hsb => ⟨lim.fresh _ hsb, ?_⟩) L.kind)
    show codeAny _ _ (.expr body (lamEnv Y scope s1.heap.objs.size f c')) _ _
    have kp : ∀ b o, s1.heap.get? b = some o → h₁.get? b = some o := fun b o e => hsb.extBut b o (Nat.ne_of_lt (Heap.lt_size e)) (Heap.get?_push_of_some _ e)
    have J : Inv (lamCxB Y base' A outer s1 H1 E scope f c') [] σ H1 { s1 with heap := h₁, toks := s1.toks + ([] : List (Str × Value)).length } := lam_startB I hb L e0 hr.hd hns kp
    refine PySem.W.kla_codeExpr (wpAny_mono ((hbody c' A outer s1 H1 E (hr.deeper _)).run [] _ _ H1 Q J ⟨ω, M, env, he, hh, post⟩) (fun v s' hq => ?_) fun e s' hq => hq)
    obtain ⟨w', H', J', rv, q⟩ := hq
    exact ⟨w', H', J'.os, J'.bare, J'.base, J'.hok, rv, q⟩
end
end Ev


set_option autoImplicit false
set_option Elab.async false
set_option linter.all false
set_option maxRecDepth 100000
set_option maxHeartbeats 4000000
/-! EvLo: whys(asks), the def's own run. -/
namespace Ev
open PySem PySem.Spec PyProof.Rows L2 RZ EvCall
def whysL (C : Ec) (lv : Nat → List O → Rs D) : List Nat → List D → List O → Rs (List D)
  | [], acc, M => .ok acc M
  | n :: ns, acc, M => (whyR (gotR C (lv n M))).bind fun d M1 => if acc.length < lim then whysL C lv ns (acc ++ [d]) M1 else .er
theorem whysR_L {C : Ec} {env : En} : ∀ (ns : List Nat) (acc : List D) (M : List O), whysR C env ns acc M = whysL C (fun n M => C.lev n env M) ns acc M
  | [], acc, M => rfl
  | n :: ns, acc, M => by
    rw [whysR, whysL]
    congr 1
    funext d M1
    rw [whysR_L ns]
theorem whysL_nex {C : Ec} {lv : Nat → List O → Rs D} : ∀ (ns : List Nat) (acc : List D) (M : List O) (d : D) (M' : List O), whysL C lv ns acc M ≠ .ex d M'
  | [], acc, M, d, M', h => by cases h
  | n :: ns, acc, M, d, M', h => by
    rw [whysL] at h
    cases e : whyR (gotR C (lv n M)) with
    | er => rw [e] at h; cases h
    | ex d2 M2 => exact whyR_nex (fun _ _ => gotR_nex) e
    | ok x M2 =>
      rw [e] at h
      simp only [Rs.bind] at h
      split at h
      · exact whysL_nex ns _ _ _ _ h
      · cases h
def ownS : List (Str × Nat) := [("_law_ask", 1)]
/-- the text of the def -/
def whysTx (st : Stmt) : Bool := match defBody st with
  | [.Return (some (.ListComp (.Call (.Name w _) [.Name a _] [] _) [⟨.Name b _, .Name l _, [], 0⟩] scope _)) _] =>
      decide (w = "_law_why" ∧ a = "_law_ask" ∧ b = "_law_ask" ∧ l = "_law_asks") && (blkC ["_law_asks", "_law_ask"] (defScope st) scope ownS && (decide ((relS scope (defScope st)).names.lookup ("_law_ask" : Str) = some .local) && decide ((relS scope (defScope st)).names.lookup ("_law_why" : Str) = some .globalImplicit)))
  | _ => false
theorem whysTx_ok {st : Stmt} (h : whysTx st = true) : ∃ p1 p2 p3 p4 p5 scope p6 p7, defBody st = [.Return (some (.ListComp (.Call (.Name "_law_why" p1) [.Name "_law_ask" p2] [] p3) [⟨.Name "_law_ask" p4, .Name "_law_asks" p5, [], 0⟩] scope p6)) p7] ∧
    BlkOk ["_law_asks", "_law_ask"] (defScope st) scope ownS ∧ (relS scope (defScope st)).names.lookup ("_law_ask" : Str) = some .local ∧ (relS scope (defScope st)).names.lookup ("_law_why" : Str) = some .globalImplicit := by
  unfold whysTx at h
  split at h
  · rename_i e
    simp only [Bool.and_eq_true] at h
    obtain ⟨h1, h2, h3, h4⟩ := h
    obtain ⟨rfl, rfl, rfl, rfl⟩ := of_decide_eq_true h1
    exact ⟨_, _, _, _, _, _, _, _, e, blkOk_by h2, of_decide_eq_true h3, of_decide_eq_true h4⟩
  · cases h
structure WhysOk (G : G0) (mg : Str → Option Value) (st : Stmt) (adr : Addr) : Prop where
  at_ : DefAt G.K mg st "_law_whys" adr
  tx : whysTx st = true
  pl : plainA ["_law_asks"] (defArgs st) = true
  sc : FnScope ["_law_asks", "_law_ask"] ["_law_asks"] (defScope st)
  nms : (defScope st).names.lookup ("_law_asks" : Str) = some .local
def tWy (G : G0) (P : Pg) (k : Nat) (lv : Nat → List O → Rs D) (Wk : Nat → Addr → Wd → Prop) (ns : List Nat) (fs : List Addr) : TE := fun σ H Q => ∃ (i : Nat) (n : Nat) (f : Addr), ns[i]? = some n ∧ fs[i]? = some f ∧ σ[1]? = some (some (V.ref f)) ∧ ∃ ω M, HRel G ω M H ∧ Wk n f ω ∧ PostE ⟨G, fun _ _ _ => False⟩ ω (whyR (gotR (ecN P (k + 1)) (lv n M))) Q
section
variable {G : G0} {P : Pg} {k : Nat} {prog : Program} {w : World} {mg : Str → Option Value} {base : Heap}
theorem whys_run {st stF stW stS : Stmt} {gA fA wA sA : Addr} {c1 c2 c3 : Value} {fd : FD} {x : Str} {N : List Str} {c : Ck} (GO : GotOk G P mg st gA c1 c2 c3) (FO : FieldOk G P mg fd x N stF fA c) (WO : WhyOk G mg stW wA) (SO : WhysOk G mg stS sA) {k0 : Nat} {ns : List Nat} {fs : List Addr} {p : Addr} {s1 : Shared} {H1 : Hp} {A : Around} {outer : List PySem.Env} {Q : VK} {Wk : Nat → Addr → Wd → Prop} {lv : Nat → List O → Rs D}
    (hm : ∀ n f ω ω', Le0 ω ω' → Wk n f ω → Wk n f ω') (C : ∀ (i : Nat) n f, ns[i]? = some n → fs[i]? = some f → CallsF prog w G.K mg base k0 f (fun _ _ _ => True) (fun E H' Q' => ∃ ω M, HRel G ω M H' ∧ Wk n f ω ∧ PostE ⟨G, E⟩ ω (lv n M) Q')) (hr : Room (k0 + 3) A) (e0 : Env0 prog w G.K mg base A outer s1 H1)
    (h : ∃ ω M, HRel G ω M H1 ∧ ω.imm p = some (.lst (fs.map V.ref)) ∧ fs.length = ns.length ∧ (∀ (i : Nat) n f, ns[i]? = some n → fs[i]? = some f → Wk n f ω) ∧ PostE ⟨G, fun _ _ _ => False⟩ ω ((whysL (ecN P (k + 1)) lv ns [] M).bind fun l M2 => .ok (.lst l) M2) Q) :
    codeAny (model prog w) A (.call (.ref sA) ⟨[.ref p], []⟩) (CR (L2.CX prog w) outer prog w H1 s1 Q (fun _ _ _ => False)) s1 := by
  obtain ⟨oc, od, kV, doc, pm, an, cdv, ct, osl, lk, hcd⟩ := SO.at_.ex
  have b := bind_plain (x := "_law_whys") (q := "_law_whys") (body := defBody stS) (sc := defScope stS) (ps := ["_law_asks"]) SO.pl kV doc pm an cdv ct [.ref p] rfl
  have hb : BindsTo s1 (PySem.W.fnOf "_law_whys" "_law_whys" (defArgs stS) (defBody stS) (defScope stS) .none kV doc pm an cdv ct) ⟨[.ref p], []⟩ ((["_law_asks"] : List Str).zip [Value.ref p]) := fun M A Q E h => by
    rw [b]
    exact wpAny_pure h
  refine LamX.run_ofS (k := k0 + 2) (N := ["_law_asks", "_law_ask"]) (ps := ["_law_asks"]) (us := [.ref p]) (vs := [.ref p]) lk hcd SO.sc hr e0 hb (.cons rfl .nil) rfl fun hr' => ?_
  obtain ⟨p1, p2, p3, p4, p5, scope, p6, p7, eb, bok, v1, v2⟩ := whysTx_ok SO.tx
  rw [eb]
  have he : ∀ (s : Shared) (H : Hp) (Ca : Addr) (cl : List (Str × Addr)) (fp : List Addr), PE ((cxOf (L2.CX prog w) prog w G.K mg base ["_law_asks", "_law_ask"] "_law_whys" (defScope stS) sA cdv A outer s1 H1 (fun _ _ _ => False)).blk s H scope (compEnvC scope cl Ca (cxOf (L2.CX prog w) prog w G.K mg base ["_law_asks", "_law_ask"] "_law_whys" (defScope stS) sA cdv A outer s1 H1 (fun _ _ _ => False)).env) fp) (.Call (.Name "_law_why" p1) [.Name "_law_ask" p2] [] p3)
      (tWy G P k lv Wk ns fs) := fun s H Ca cl fp => by
    refine ⟨fun pinsZ sZ σZ HZ Q' IZ hz => ?_⟩
    obtain ⟨i, n, f, hn, hf, hs, hz⟩ := hz
    refine wpAny_Call_Name_kw (ld_glob IZ v2 WO.at_.glo ?_ (by decide))
    refine PySem.W.callWith_K (h₀ := base) IZ.ok.mod.kin WO.at_.kp (thn ((pa_cons (pe_var (pos := p2) (i := 1) rfl (.inl v1) (by decide) (by decide)) pa_nil).run p3 pinsZ sZ σZ HZ (fun vs H2 => vs = [V.ref f] ∧ H2 = HZ) IZ ⟨.ref f, hs, rfl, rfl⟩) fun us s2 ⟨vs, H2, I2, r2, q2⟩ => ⟨I2.kIn, ?_⟩) (by rfl) (by rfl)
    obtain ⟨rfl, rfl⟩ := q2
    obtain ⟨u, e1, ru⟩ := r2.one
    subst e1
    obtain rfl : u = Value.ref f := ru
    refine wpAny_call (codeAny_mono (why_run (k := k) (lv := lv n) GO FO WO (C i n f hn hf) trivial hr' I2.env0 hz) fun r s3 hq => ?_)
    cases r with
    | error e => exact passF pinsZ σZ H2 s2 e s3 I2 hq
    | ok fl =>
      cases fl with
      | ret u => exact I2.after hq
      | next => exact False.elim hq
      | brk => exact False.elim hq
      | cont => exact False.elim hq
  refine ⟨_, pss_one (ps_ret (pe_lc (X := cxOf (L2.CX prog w) prog w G.K mg base ["_law_asks", "_law_ask"] "_law_whys" (defScope stS) sA cdv A outer s1 H1 (fun _ _ _ => False)) (own := ownS) rfl SO.sc.nd (pi_list (pe_var (pos := p5) (i := 0) rfl (.inl SO.nms) (by decide) (by decide))) bok
    (fun s H Ca cl fp => pg_name (i := 1) SO.sc.nd rfl (.inl v1) (.inr v1)) (fun s H Ca cl fp => pts_nil) he)), ?_⟩
  obtain ⟨ω, M, hh, hp, hl, wk, post⟩ := h
  refine ⟨.ref p, rfl, p, rfl, ⟨_, SqL.of (hh.imm _ _ hp)⟩, fun D0 hD => ?_⟩
  have l1 : ω.lck D0 = none := hh.lckN hD
  have pd : PostD ⟨G, fun _ _ _ => False⟩ ω.lck D0 (ω.lock D0 (.lst [])) (whysL (ecN P (k + 1)) lv ns [] M) (fun H' => Q (.ref D0) H') := by
    cases e2 : whysL (ecN P (k + 1)) lv ns [] M with
    | er => rw [e2] at post; exact post
    | ex _ _ => exact absurd e2 (whysL_nex _ _ _ _ _)
    | ok l M2 =>
      rw [e2] at post
      intro ω' H' ws le' hl' hh' r
      have le1 : Le0 ω ω' := (Le0.lock ω D0 (.lst [])).trans le'
      obtain ⟨h2, le2⟩ := hh'.unlockI hl' l1
      refine post _ _ _ ⟨(le1.trans le2).ρ, (le1.trans le2).imm, rfl⟩ h2 ?_
      rw [Rel]
      exact ⟨D0, ws, rfl, upd_same, Rels.mono0 le2 _ _ r⟩
  have hlf : (fs.map V.ref).length = ns.length := by rw [List.length_map, hl]
  refine lc_it (g := gName 1) (tt := tYes) (te := tWy G P k lv Wk ns fs) (vs := ownS.map (·.2)) (σ := L2.start ["_law_asks", "_law_ask"] [V.ref p]) (Qd := fun H => Q (.ref D0) H) (walk_list (K := G.K) (a := p) (xs := fs.map V.ref)) (fun i H => ∃ ω' M' acc ws, Le0 ω ω' ∧ ω'.lck = upd ω.lck D0 (.lst ws) ∧ HRel G ω' M' H ∧ Rels G ω' acc ws ∧ PostD ⟨G, fun _ _ _ => False⟩ ω.lck D0 ω' (whysL (ecN P (k + 1)) lv (ns.drop i) acc M') (fun H' => Q (.ref D0) H')) ?_ ?_ ?_ ?_
  · exact ⟨ω.lock D0 (.lst []), M, [], [], Le0.lock _ _ _, rfl, hh.lockNew hD, Rels.nil, pd⟩
  · rintro i H' _ ⟨ω', M', acc, ws, le', _, hh', _, _⟩
    exact SqL.of (hh'.imm _ _ (le'.imm _ _ hp))
  · rintro i x H' H2 hi ⟨ω', M', acc, ws, le', hl', hh', ra, pd'⟩ y
    obtain ⟨e, y⟩ := y
    subst e
    rw [List.getElem?_map] at y
    cases ef : fs[i]? with
    | none => rw [ef] at y; cases y
    | some f =>
      rw [ef] at y
      obtain rfl : V.ref f = x := Option.some.inj y
      obtain ⟨n, en⟩ : ∃ n, ns[i]? = some n := ⟨_, List.getElem?_eq_getElem (by rw [← hl]; exact (List.getElem?_eq_some_iff.mp ef).1)⟩
      have dr : ns.drop i = n :: ns.drop (i + 1) := by
        obtain ⟨hlt, e9⟩ := List.getElem?_eq_some_iff.mp en
        rw [List.drop_eq_getElem_cons hlt, e9]
      rw [dr, whysL] at pd'
      refine ⟨rfl, ?_⟩
      unfold tYes
      dsimp only
      rw [if_pos rfl]
      refine ⟨i, n, f, en, ef, rfl, ω', M', hh', hm _ _ _ _ le' (wk i n f en ef), ?_⟩
      cases ee : whyR (gotR (ecN P (k + 1)) (lv n M')) with
      | er => rw [ee] at pd'; exact pd'
      | ex _ _ => rw [ee] at pd'; exact False.elim pd'
      | ok v M4 =>
        rw [ee] at pd'
        simp only [Rs.bind] at pd'
        intro ω4 H4 y4 le4 hh4 ry
        by_cases hac : acc.length < lim
        · rw [if_pos hac] at pd'
          have hl4 : ω4.lck = upd ω.lck D0 (.lst ws) := by rw [le4.lck, hl']
          have l4 : ω4.lck D0 = some (.lst ws) := by rw [hl4, upd_same]
          have ra4 := Rels.mono0 le4.le0 _ _ ra
          refine ⟨ws, hh4.lck _ _ l4, by rw [ra4.length]; exact Nat.lt_of_lt_of_le hac lim_le, ?_⟩
          refine ⟨ω4.lock D0 (.lst (ws ++ [y4])), M4, acc ++ [v], ws ++ [y4], (le'.trans le4.le0).trans (Le0.lock _ _ _), ?_, hh4.relock l4, ?_, PostD.mono pd' (le4.le0.trans (Le0.lock _ _ _))⟩
          · show upd ω4.lck D0 _ = _
            rw [hl4, upd_upd]
          · exact Rels.mono0 (Le0.lock _ _ _) _ _ (ra4.append (Rels.one ry))
        · rw [if_neg hac] at pd'
          exact False.elim pd'
  · rintro H' ⟨ω', M', acc, ws, le', hl', hh', ra, pd'⟩
    rw [hlf, List.drop_length, whysL] at pd'
    exact pd' ω' H' ws (Le0.refl _) hl' hh' ra
end
end Ev


set_option autoImplicit false
set_option Elab.async false
set_option linter.all false
set_option maxRecDepth 100000
set_option maxHeartbeats 4000000
/-! EvLj: a lambda's body in its own frame; why and got as expressions of the law. -/
namespace Ev
open PySem PySem.Spec PyProof.Rows L2 RZ EvCall
def Ck.lamC (c : Ck) (scope : Scope) : Ck := { c with sc := scope, fnv := fun _ => false, wy := fun _ _ => false }
def noPar : Arguments → Bool
  | ⟨[], [], none, [], [], none, []⟩ => true
  | _ => false
theorem noPar_ok {a : Arguments} (h : noPar a = true) : a = ⟨[], [], none, [], [], none, []⟩ := by
  unfold noPar at h
  split at h
  · rfl
  · cases h
section
variable {G : G0} {P : Pg} {ft : List Ft} {k k' : Nat} {c : Ck} {Y : L2.Cx} {E E0 : XK} {A : Around} {outer : List PySem.Env} {s : Shared} {H : Hp} {scope : Scope} {f c' : Addr}
theorem ok_lam (O : Ok ⟨G, E0⟩ P ft k' c Y) (hf : ∀ (f : Nat) t, ft[f]? = some t → FnG Y.prog Y.w Y.K Y.mg Y.base (L2.CX Y.prog Y.w) (6 * k + 8) t.adr (spC G P k f)) (hr : Room (6 * k + 9) (A.deeper (LamX.lamEnv Y scope s.heap.objs.size f c'))) : Ok ⟨G, E⟩ P ft k (c.lamC scope) (LamX.lamCx Y A outer s H E scope f c') :=
  ⟨O.hK, O.hN, rfl, O.nd, rfl, hr, takes_of rfl rfl rfl rfl, PassesOwn.leaving, (fun _ z => nomatch z), O.hfn, O.flen, fun g t e => ⟨(O.fns g t e).1, (O.fns g t e).2.1, hf g t e⟩, O.cls, O.clf, O.cnl, O.kit, O.glo, O.free, O.xcs, O.sub, (fun _ _ z => nomatch z)⟩
variable {n : Nat} {x : Ev.X} {st stF stW : Stmt} {gA fA wA cc : Addr} {c1 c2 c3 : Value} {fd : FD} {xf : Str} {N : List Str} {cf : Ck} {params : Arguments} {body : Expr} {p lpos pos : Pos}
theorem lev_at (h : P.lam[n]? = some x) (env : En) (M : List O) : (ecN P (k + 1)).lev n env M = ev (ecN P k) x env M := by
  show (match P.lam[n]? with
    | some x => ev (mkC P (lvl P k)) x env M
    | none => .er) = _
  rw [h]
  rfl
theorem bind0 (q : Str) (cl : List (Str × Addr)) (pm cv ctv : Value) : bindArgs (PySem.W.kla_fn "<lambda>" q ⟨[], [], none, [], [], none, []⟩ body scope cl pm cv ctv) ⟨[], []⟩ = pure [] := by
  rfl
theorem s_why (O : Ok ⟨G, E0⟩ P ft k' c Y) (hf : ∀ (f : Nat) t, ft[f]? = some t → FnG Y.prog Y.w Y.K Y.mg Y.base (L2.CX Y.prog Y.w) (6 * k + 8) t.adr (spC G P k f)) (hr : Room (6 * k + 12) Y.A) (GO : GotOk G P Y.mg st gA c1 c2 c3) (FO : FieldOk G P Y.mg fd xf N stF fA cf) (WO : WhyOk G Y.mg stW wA) (TB : LamX.TabB Y.base Y.mg cc G.tp) (hcode : Y.env.code = .ref cc) (hq : Y.env.qual ++ "<lambda>" = G.lq)
    (L : LamX.lamSB c.sc scope = true) (hp : noPar params = true) (hg : c.gl "_law_why" = true) (hx : P.lam[n]? = some x) (ok : okE x (c.lamC scope) body = true) : Snd ⟨G, E0⟩ (ecN P (k + 1)) Y (.Call (.Name "_law_why" p) [.Lambda params body scope lpos] [] pos) (.why n) := by
  have e := noPar_ok hp
  subst e
  exact Snd.of (pe_why (k0 := 6 * k + 9) O.hK WO GO FO TB hcode hq (LamX.lamS_by (by rw [O.hsc]; exact L)) rfl (fun q cl pm cv ctv => bind0 q cl pm cv ctv) hr (O.gl hg) (lev_at hx) fun A outer s H E f c' hr2 => (sndE x _ _ body _ (ok_lam O hf hr2) ok).pe) (fun _ => rfl) (fun _ _ _ z => nomatch z)
theorem s_got (O : Ok ⟨G, E0⟩ P ft k' c Y) (hf : ∀ (f : Nat) t, ft[f]? = some t → FnG Y.prog Y.w Y.K Y.mg Y.base (L2.CX Y.prog Y.w) (6 * k + 8) t.adr (spC G P k f)) (hr : Room (6 * k + 11) Y.A) (GO : GotOk G P Y.mg st gA c1 c2 c3) (FO : FieldOk G P Y.mg fd xf N stF fA cf) (TB : LamX.TabB Y.base Y.mg cc G.tp) (hcode : Y.env.code = .ref cc) (hq : Y.env.qual ++ "<lambda>" = G.lq)
    (L : LamX.lamSB c.sc scope = true) (hp : noPar params = true) (hg : c.gl "_law_got" = true) (hx : P.lam[n]? = some x) (ok : okE x (c.lamC scope) body = true) : Snd ⟨G, E0⟩ (ecN P (k + 1)) Y (.Call (.Name "_law_got" p) [.Lambda params body scope lpos] [] pos) (.got n) := by
  have e := noPar_ok hp
  subst e
  exact Snd.of (pe_got (k0 := 6 * k + 9) O.hK GO FO TB hcode hq (LamX.lamS_by (by rw [O.hsc]; exact L)) rfl (fun q cl pm cv ctv => bind0 q cl pm cv ctv) hr (O.gl hg) (lev_at hx) fun A outer s H E f c' hr2 => (sndE x _ _ body _ (ok_lam O hf hr2) ok).pe) (fun _ => rfl) (fun _ _ _ z => nomatch z)
end
end Ev


set_option autoImplicit false
set_option Elab.async false
set_option linter.all false
set_option maxRecDepth 100000
set_option maxHeartbeats 4000000
/-! EvLk: the end where the law itself makes lambdas, the written part told by a Hook. -/
namespace Ev
open PySem PySem.Spec PyProof.Rows L2 RZ EvCall LamX
theorem walk_ownE {l : PySem.W.OpenLaw} {n k : Nat} {q : Program} {loose : List Str} {XP : (Str → Option Value) → Heap → Prop} {YP : World → Heap → Prop} {d : DefRec} {CX : World → CXT} {x : Str}
    (hn : l.most = some n) (hn2 : n ≤ sizeLine) (hdf : d.params.defaults = []) (hr : Room k callerA) (hrec : ((recsOf q).any fun e => e.name == d.name) = true)
    (F : ∀ (w : World) (mg : Str → Option Value) (fa : Addr) (h : Heap), YP w h → h.Ns mainGlobals mg → mg d.name = some (.ref fa) → (∀ K : PySem.W.Frag, K.In h → OwnTab K fa h) → ∃ K : PySem.W.Frag, K.In h ∧ LawAtS l w K (CX w) k n x mg fa h)
    (hCX : ∀ (w : World) (H : Hp) (s : Shared) (e : Value) (s' : Shared), CX w [] H s (fun _ _ _ => False) e s' → False) :
    PySem.W.WalkO q loose XP YP l.row.toRowW d [] (fun f vs => PySem.call f vs) := by
  refine Att.attach_callB hn hdf fun w s₀ s₁ mg mb fa o pm cd doc a vs ns G Y ho hd hcd hmg hobj hints hlen hbits hg => ?_
  have own : ∀ K : PySem.W.Frag, K.In s₁.heap → OwnTab K fa s₁.heap := fun K KX c P o1 fd1 e dd vs1 sl k1 k2 k3 k4 k5 => by
    obtain ⟨dL, hm, hn1⟩ := List.any_eq_true.mp hrec
    have hn2 : dL.name = d.name := beq_iff_eq.mp hn1
    obtain ⟨a', o', fd', c', P', h1, h2, h3, h4, h5, h6⟩ := G.T.tab dL hm
    rw [hn2, hmg] at h1
    cases h1
    have g1 := KX _ _ k1
    rw [g1] at h2
    cases h2
    rw [k2] at h3
    cases h3
    rw [k3] at h4
    cases h4
    obtain ⟨⟨oc, vc, e1, _, e3, e4⟩, hP⟩ := h6
    have g2 := KX _ _ k4
    rw [g2] at e1
    cases e1
    cases e3
    rw [k5] at e4
    cases e4
    exact hP
  obtain ⟨K, KX, fd, cs, sp, hT, nT, C, hb, hsp, hF⟩ := F w mg fa _ Y G.T.g hmg own
  exact law_callTs KX G.T.g G.T.b G.T.builtins G.T.nolimit hg hT nT C G.T.bmain hobj hints (Nat.le_trans hlen hn2) hr hF hb (fun H hH hS => hsp H a ns hlen hbits hH hS) fun H e s' => hCX w H s₁ e s'
end Ev


set_option autoImplicit false
set_option Elab.async false
set_option linter.all false
set_option maxRecDepth 100000
set_option maxHeartbeats 4000000
/-! EvLp: lists of lambdas and whys(asks) in the law's own frame. -/
namespace Ev
open PySem PySem.Spec PyProof.Rows L2 RZ EvCall
def lamGood (P : Pg) (c : Ck) (n : Nat) (params : Arguments) (body : Expr) (scope : Scope) : Prop := noPar params = true ∧ LamX.lamSB c.sc scope = true ∧ ∃ x, P.lam[n]? = some x ∧ okE x (c.lamC scope) body = true
def lamB (P : Pg) (c : Ck) (n : Nat) : Expr → Bool
  | .Lambda params body scope _ => noPar params && (LamX.lamSB c.sc scope && (match P.lam[n]? with
    | some x => okE x (c.lamC scope) body
    | none => false))
  | _ => false
theorem lamB_ok {P : Pg} {c : Ck} {n : Nat} {e : Expr} (h : lamB P c n e = true) : ∃ params body scope pos, e = .Lambda params body scope pos ∧ lamGood P c n params body scope := by
  cases e with
  | Lambda params body scope pos =>
    have h : (noPar params && (LamX.lamSB c.sc scope && (match P.lam[n]? with
      | some x => okE x (c.lamC scope) body
      | none => false))) = true := h
    simp only [Bool.and_eq_true] at h
    obtain ⟨h1, h2, h3⟩ := h
    refine ⟨params, body, scope, pos, rfl, h1, h2, ?_⟩
    cases q : P.lam[n]? with
    | none => rw [q] at h3; cases h3
    | some x => rw [q] at h3; exact ⟨x, rfl, h3⟩
  | _ => cases h
def lamsB (P : Pg) (c : Ck) : List Nat → List Expr → Bool
  | [], [] => true
  | n :: ns, e :: es => lamB P c n e && lamsB P c ns es
  | _, _ => false
def tLam (G : G0) (n : Nat) : TE := fun σ H Q => ∃ ω M env, EnvRel G ω env σ ∧ HRel G ω M H ∧ hasTb M = true ∧ ∀ ω' H' f c', Le ω ω' → HRel G ω' M H' → ω'.imm f = some (G.lo n f c') → ω'.imm c' = some (LamX.CodeO c' G.lq) → Q (.ref f) H'
def tLams (G : G0) (ns : List Nat) : TA := fun σ H Q => ∃ ω M env, EnvRel G ω env σ ∧ HRel G ω M H ∧ hasTb M = true ∧ ∀ ω' H' fs, Le ω ω' → HRel G ω' M H' → LamsAt G.lo G.lq ω'.imm ns fs → Q (fs.map V.ref) H'
theorem LamsAt.len {lo : Nat → Addr → Addr → HO} {lq : Str} {H : Hp} : ∀ {ns : List Nat} {fs : List Addr}, LamsAt lo lq H ns fs → fs.length = ns.length
  | [], fs, e => by
    have e : fs = [] := e
    rw [e]
  | n :: ns, fs, ⟨f, c, r, e, a, a2, b⟩ => by
    rw [e, List.length_cons, List.length_cons, LamsAt.len b]
theorem LamsAt.get {lo : Nat → Addr → Addr → HO} {lq : Str} {H : Hp} : ∀ {ns : List Nat} {fs : List Addr} {i n : Nat} {f : Addr}, LamsAt lo lq H ns fs → ns[i]? = some n → fs[i]? = some f → ∃ c, H f = some (lo n f c) ∧ H c = some (LamX.CodeO c lq)
  | [], fs, i, n, f, e, h, _ => by simp at h
  | m :: ns, fs, 0, n, f, ⟨f', c, r, e, a, a2, b⟩, h, h2 => by
    subst e
    simp at h h2
    subst h h2
    exact ⟨c, a, a2⟩
  | m :: ns, fs, i + 1, n, f, ⟨f', c, r, e, a, a2, b⟩, h, h2 => by
    subst e
    exact LamsAt.get b (by simpa using h) (by simpa using h2)
section
variable {G : G0} {P : Pg} {ft : List Ft} {k k' n : Nat} {c : Ck} {Y : L2.Cx} {E E0 : XK} {cc : Addr}
theorem pe_lam (hK : Y.K = G.K) (hsc : Y.env.scope = c.sc) (hlo : ∀ n f c', G.lo n f c' = LamO Y.env.cells G.lq (lamGood P c n) f c') (TB : LamX.TabB Y.base Y.mg cc G.tp) (hcode : Y.env.code = .ref cc) (hq : Y.env.qual ++ "<lambda>" = G.lq) {e : Expr} (h : lamB P c n e = true) : PE Y e (tLam G n) := by
  obtain ⟨params, body, scope, pos, rfl, gd⟩ := lamB_ok h
  refine ⟨fun pins s σ H Q I h => ?_⟩
  obtain ⟨ω, M, env, he, hh, ht, q⟩ := h
  have h0 := tb_at ht
  have L : LamX.LamS Y.env.scope scope := LamX.lamS_by (by rw [hsc]; exact gd.2.1)
  have hp := noPar_ok gd.1
  refine lam_make4 (good := lamGood P c n) I TB hcode hq (hh.tab 0 h0) (by rw [hp]; rfl) (L.has I.ok) gd fun f c' H1 s' I1 ex T1 hfn hco => ?_
  obtain ⟨ω1, le, hh1, hc1⟩ := hrel_lam hh h0 ex T1 hco
  obtain ⟨hh2, le2⟩ := hh1.addI (o := LamO Y.env.cells G.lq (lamGood P c n) f c') hfn
  refine ⟨.ref f, _, I1, rfl, q _ _ f c' (le.trans le2) hh2 ?_ (le2.imm _ _ hc1)⟩
  rw [hlo]
  exact upd_same
theorem pa_lams (hK : Y.K = G.K) (hsc : Y.env.scope = c.sc) (hlo : ∀ n f c', G.lo n f c' = LamO Y.env.cells G.lq (lamGood P c n) f c') (TB : LamX.TabB Y.base Y.mg cc G.tp) (hcode : Y.env.code = .ref cc) (hq : Y.env.qual ++ "<lambda>" = G.lq) : ∀ {ns : List Nat} {es : List Expr}, lamsB P c ns es = true → PA Y es (tLams G ns)
  | [], [], _ => PA.imp pa_nil fun σ H Q ⟨ω, M, env, he, hh, ht, q⟩ => q ω H [] (Le.refl _) hh rfl
  | n :: ns, e :: es, h => by
    rw [lamsB, Bool.and_eq_true] at h
    have hs : ∀ es env, starEach (e :: es) env = (false, eval e env) :: starEach es env := by
      obtain ⟨params, body, scope, pos, rfl, gd⟩ := lamB_ok h.1
      exact fun _ _ => rfl
    refine PA.imp (pa_cons (pe_lam hK hsc hlo TB hcode hq h.1) (pa_lams hK hsc hlo TB hcode hq h.2) (hs es Y.env)) fun σ H Q z => ?_
    obtain ⟨ω, M, env, he, hh, ht, q⟩ := z
    refine ⟨ω, M, env, he, hh, ht, fun ω1 H1 f c' le hh1 e1 e2 => ⟨ω1, M, env, he.mono le, hh1, ht, fun ω2 H2 fs le2 hh2 la => ?_⟩⟩
    exact q ω2 H2 (f :: fs) (le.trans le2) hh2 ⟨f, c', fs, rfl, le2.imm _ _ e1, le2.imm _ _ e2, la⟩
  | [], _ :: _, h => by cases h
  | _ :: _, [], h => by cases h
theorem s_lams (hK : Y.K = G.K) (hsc : Y.env.scope = c.sc) (hlo : ∀ n f c', G.lo n f c' = LamO Y.env.cells G.lq (lamGood P c n) f c') (TB : LamX.TabB Y.base Y.mg cc G.tp) (hcode : Y.env.code = .ref cc) (hq : Y.env.qual ++ "<lambda>" = G.lq) {ns : List Nat} {es : List Expr} {pos : Pos} (hl : ns.length ≤ 1000) (h : lamsB P c ns es = true) : Snd ⟨G, E⟩ (ecN P k) Y (.List es pos) (.lams ns) := by
  refine Snd.of (PE.imp (pe_lst (pa_lams hK hsc hlo TB hcode hq h)) fun σ H Q q => ?_) (fun _ => rfl) (fun _ _ _ z => nomatch z)
  obtain ⟨ω, M, env, he, hh, post⟩ := q
  rw [ev] at post
  split at post
  · rename_i ht
    refine ⟨ω, M, env, he, hh, ht, fun ω1 H1 fs le hh1 la => ⟨?_, fun p hp => ?_⟩⟩
    · rw [List.length_map, la.len, sizeLine_eq]
      omega
    · obtain ⟨hh2, le2⟩ := hh1.addI (o := .lst (fs.map V.ref)) hp
      refine post _ _ _ (le.trans le2) hh2 ?_
      rw [Rel]
      exact ⟨p, fs, rfl, upd_same, la.mono le2.imm⟩
  · exact False.elim post
theorem ok_lamB {base' : Heap} {A : Around} {outer : List PySem.Env} {s : Shared} {H : Hp} {scope : Scope} {f c' : Addr} (O : Ok ⟨G, E0⟩ P ft k' c Y) (hf : ∀ (f : Nat) t, ft[f]? = some t → FnG Y.prog Y.w Y.K Y.mg base' (L2.CX Y.prog Y.w) (6 * k + 8) t.adr (spC G P k f)) (hr : Room (6 * k + 9) (A.deeper (LamX.lamEnv Y scope s.heap.objs.size f c'))) : Ok ⟨G, E⟩ P ft k (c.lamC scope) (lamCxB Y base' A outer s H E scope f c') :=
  ⟨O.hK, O.hN, rfl, O.nd, rfl, hr, takes_of rfl rfl rfl rfl, PassesOwn.leaving, (fun _ z => nomatch z), O.hfn, O.flen, fun g t e => ⟨(O.fns g t e).1, (O.fns g t e).2.1, hf g t e⟩, O.cls, O.clf, O.cnl, O.kit, O.glo, O.free, O.xcs, O.sub, (fun _ _ z => nomatch z)⟩
theorem s_whys {st stF stW stS : Stmt} {gA fA wA sA : Addr} {c1 c2 c3 : Value} {fd : FD} {xf : Str} {N : List Str} {cf : Ck} (O : Ok ⟨G, E0⟩ P ft k' c Y) (hlo : ∀ n f c', G.lo n f c' = LamO Y.env.cells G.lq (lamGood P c n) f c') (hfn : ∀ x, Y.fn x = true) (hf : ∀ (base' : Heap) (f : Nat) t, ft[f]? = some t → FnG Y.prog Y.w Y.K Y.mg base' (L2.CX Y.prog Y.w) (6 * k + 8) t.adr (spC G P k f)) (hr : Room (6 * k + 13) Y.A)
    (GO : GotOk G P Y.mg st gA c1 c2 c3) (FO : FieldOk G P Y.mg fd xf N stF fA cf) (WO : WhyOk G Y.mg stW wA) (SO : WhysOk G Y.mg stS sA) (hq : Y.env.qual ++ "<lambda>" = G.lq) {i : Nat} {a : Str} {p p2 pos : Pos} (hg : c.gl "_law_whys" = true) (ok : okE (.var i) c (.Name a p2) = true) :
    Snd ⟨G, E0⟩ (ecN P (k + 1)) Y (.Call (.Name "_law_whys" p) [.Name a p2] [] pos) (.whys (.var i)) := by
  refine Snd.of ⟨fun pins s σ H Q I h => ?_⟩ (fun _ => rfl) (fun _ _ _ z => nomatch z)
  obtain ⟨ω, M, env, he, hh, post⟩ := h
  rw [ev, ev] at post
  cases e1 : env[i]? with
  | none => rw [e1] at post; exact False.elim post
  | some o =>
    cases o with
    | none => rw [e1] at post; exact False.elim post
    | some d =>
      rw [e1] at post
      simp only [Rs.bind] at post
      cases d with
      | lams ns =>
        simp only at post
        obtain ⟨v, ev1, r⟩ := he.val i _ e1
        rw [Rel] at r
        obtain ⟨pl, fs, rfl, hp, la⟩ := r
        have okv := ok
        rw [okE] at okv
        simp only [Bool.and_eq_true, beq_iff_eq] at okv
        obtain ⟨o1, o2, o3, o4⟩ := okv
        have hN : Y.N[i]? = some a := by rw [O.hN]; exact of_decide_eq_true o1
        refine wpAny_Call_Name_kw (ld_glob I (O.gl hg) SO.at_.glo ?_ (by decide))
        have kp : PySem.W.keepIn Y.K (.ref sA) = true := by rw [O.hK]; exact SO.at_.kp
        refine PySem.W.callWith_K (h₀ := Y.base) I.ok.mod.kin kp (thn ((pa_cons (pe_var (pos := p2) (i := i) hN (O.vis o2) o3 o4) pa_nil).run pos pins s σ H (fun vs H2 => vs = [V.ref pl] ∧ H2 = H) I ⟨.ref pl, ev1, rfl, rfl⟩) fun us s2 ⟨vs, H2, I2, r2, q2⟩ => ⟨I2.kIn, ?_⟩) (by rfl) (by rfl)
        obtain ⟨rfl, rfl⟩ := q2
        obtain ⟨u, e5, ru⟩ := r2.one
        subst e5
        obtain rfl : u = Value.ref pl := ru
        obtain ⟨base', up, hb, e0⟩ := cells_base I2 hfn
        rw [whysR_L] at post
        have hKc : ∀ (j : Nat) n f, ns[j]? = some n → fs[j]? = some f → CallsF Y.prog Y.w Y.K Y.mg base' (6 * k + 10) f (fun _ _ _ => True) (fun E H' Q' => ∃ ω M, HRel G ω M H' ∧ (EnvRel G ω env σ ∧ ∃ c', ω.imm f = some (LamO Y.env.cells G.lq (lamGood P c n) f c') ∧ ω.imm c' = some (LamX.CodeO c' G.lq)) ∧ PostE ⟨G, E⟩ ω ((ecN P (k + 1)).lev n env M) Q') := fun j n f hn hf2 => by
          cases ex : P.lam[n]? with
          | none =>
            have lz : ∀ M, (ecN P (k + 1)).lev n env M = .er := fun M => by
              show (match P.lam[n]? with
                | some x => ev (mkC P (lvl P k)) x env M
                | none => .er) = _
              rw [ex]
            refine ⟨fun _ _ _ => trivial, fun s1 H1 outer E Q _ _ h => ?_, fun A outer s1 H1 Q E _ _ _ h => ?_⟩
            · obtain ⟨ω, M, _, _, z⟩ := h
              rw [lz] at z
              exact False.elim z
            · obtain ⟨ω, M, _, _, z⟩ := h
              rw [lz] at z
              exact False.elim z
          | some x =>
            have z := lam_callsB (G := G) (f := f) (good := lamGood P c n) (k := 6 * k + 9) (C := ecN P k) (x := x) (env := env) I2 hb hq (fun params body scope gd => by
              obtain ⟨g1, g2, x', g3, g4⟩ := gd
              rw [ex] at g3
              cases g3
              have e := noPar_ok g1
              subst e
              exact ⟨LamX.lamS_by (by rw [O.hsc]; exact g2), fun cl pm cv ctv => bind0 _ cl pm cv ctv, fun c' A outer s H E hr2 => (sndE x _ _ body _ (ok_lamB O (hf base') hr2) g4).pe⟩)
            refine ⟨fun _ _ _ => trivial, fun s1 H1 outer E Q a b h => z.isf s1 H1 outer E Q a b ?_, fun A outer s1 H1 Q E a b d h => z.run A outer s1 H1 Q E a b d ?_⟩
            · obtain ⟨ω, M, h1, h2, h3⟩ := h
              rw [lev_at ex] at h3
              exact ⟨ω, M, h1, h2, h3⟩
            · obtain ⟨ω, M, h1, h2, h3⟩ := h
              rw [lev_at ex] at h3
              exact ⟨ω, M, h1, h2, h3⟩
        have wk : ∀ (j : Nat) n f, ns[j]? = some n → fs[j]? = some f → (EnvRel G ω env σ ∧ ∃ c', ω.imm f = some (LamO Y.env.cells G.lq (lamGood P c n) f c') ∧ ω.imm c' = some (LamX.CodeO c' G.lq)) := fun j n f hn hf2 => by
          obtain ⟨c', a1, a2⟩ := la.get hn hf2
          rw [hlo] at a1
          exact ⟨he, c', a1, a2⟩
        have e0' := e0
        rw [O.hK] at hKc e0'
        refine wpAny_call (codeAny_mono (whys_run (k := k) (lv := fun n M => (ecN P (k + 1)).lev n env M) (Wk := fun n f ω => EnvRel G ω env σ ∧ ∃ c', ω.imm f = some (LamO Y.env.cells G.lq (lamGood P c n) f c') ∧ ω.imm c' = some (LamX.CodeO c' G.lq)) GO FO WO SO (fun n f ω ω' le ⟨a, c', b1, b2⟩ => ⟨a.mono0 le, c', le.imm _ _ b1, le.imm _ _ b2⟩) hKc hr e0' ⟨ω, M, hh, hp, la.len, wk, Post.dead post fun d M9 z => ?_⟩) fun r s3 hq => ?_)
        · cases e9 : whysL (ecN P (k + 1)) (fun n M => (ecN P (k + 1)).lev n env M) ns [] M with
          | ok l M2 => rw [e9] at z; cases z
          | er => rw [e9] at z; cases z
          | ex _ _ => exact whysL_nex _ _ _ _ _ e9
        · cases r with
          | error e => exact False.elim (passF (Z := Y.nox) pins σ H2 s2 e s3 (I2.wish _) hq)
          | ok fl =>
            cases fl with
            | ret u => exact I2.after hq
            | next => exact False.elim hq
            | brk => exact False.elim hq
            | cont => exact False.elim hq
      | _ => exact False.elim post
end
end Ev


set_option autoImplicit false
set_option Elab.async false
set_option linter.all false
set_option maxRecDepth 100000
set_option maxHeartbeats 4000000
/-! EvLl: the law's own def, with lambdas. -/
namespace Ev
open PySem PySem.Spec PyProof.Rows L2 RZ EvCall
/-- f(e) -/
def callOne : Expr → Option (Str × Expr)
  | .Call (.Name f _) [e] [] _ => some (f, e)
  | _ => none
theorem callOne_ok {e a : Expr} {f : Str} (h : callOne e = some (f, a)) : ∃ p q, e = .Call (.Name f p) [a] [] q := by
  unfold callOne at h
  split at h
  · cases h
    exact ⟨_, _, rfl⟩
  · cases h
def isName : Expr → Option Str
  | .Name x _ => some x
  | _ => none
theorem isName_ok {e : Expr} {x : Str} (h : isName e = some x) : ∃ p, e = .Name x p := by
  cases e with
  | Name y p =>
    cases h
    exact ⟨p, rfl⟩
  | _ => cases h
/-- what is made of lambdas: bw, bs: the defs why and whys are there -/
def wyL (P : Pg) (c : Ck) (bw bs : Bool) : X → Expr → Bool
  | .got n, e => (match callOne e with
    | some (f, a) => decide (f = "_law_got") && (c.gl "_law_got" && lamB P c n a)
    | none => false)
  | .why n, e => bw && (match callOne e with
    | some (f, a) => decide (f = "_law_why") && (c.gl "_law_why" && lamB P c n a)
    | none => false)
  | .lams ns, .List es _ => decide (ns.length ≤ 1000) && lamsB P c ns es
  | .whys (.var i), e => (bw && bs) && (match callOne e with
    | some (f, a) => decide (f = "_law_whys") && (c.gl "_law_whys" && ((isName a).isSome && okE (.var i) c a))
    | none => false)
  | _, _ => false
def ckL (s : Fs) (n : Nm) (P : Pg) (bw bs : Bool) : Ck := { ckOf s n with wy := wyL P (ckOf s n) bw bs }
/-- the lambdas of a frame -/
def loOf (P : Pg) (c : Ck) (cells : List (Str × Addr)) (q : Str) : Nat → Addr → Addr → HO := fun n f c' => LamO cells q (lamGood P c n) f c'
section
variable {prog : Program} {w : World} {mg : Str → Option Value} {base : Heap} {G : G0} {P : Pg} {ft : List Ft} {ss : List Fs} {n : Nm}
theorem ok_law0 (hn : n.fn = ft.map Ft.name) (hf : ∀ (i : Nat) t, ft[i]? = some t → ∃ s fd, ss[i]? = some s ∧ P.fns[i]? = some fd ∧ Fct G mg s fd t) (hlen : ft.length = P.fns.length) (hok : okFs n ss P.fns = true) (ht : Tops G P w mg ft n) {k : Nat} {s : Fs} {ps : List Str} (sc : FnScope s.N ps (defScope s.st)) {adr : Addr} {cdv : Value} {A : Around} {outer : List PySem.Env} {s1 : Shared} {H : Hp} {E : XK} (hr : Room (6 * (k + 1) + 13) (A.deeper (envOfC s.qual (defScope s.st) s1.heap.objs.size adr cdv))) :
    Ok ⟨G, E⟩ P ft (k + 1) (ckOf s n) (cxOf (L2.CX prog w) prog w G.K mg base s.N s.qual (defScope s.st) adr cdv A outer s1 H E) :=
  ⟨rfl, rfl, rfl, sc.nd, rfl, hr.mono (by omega), takes_of rfl rfl rfl rfl, PassesOwn.leaving, fun _ _ => rfl, hn, hlen, fun g u eu => by
      obtain ⟨s', fd', _, _, F'⟩ := hf g u eu
      obtain ⟨_, FF⟩ := F'.fun_
      exact ⟨F'.glo, FF.kp, all_ok hn hf hlen hok ht (k + 1) g u eu⟩, ht.cls, ht.clf, ht.cnl, ht.kit, ht.glo, ht.free, ht.xcs, ht.sub, (fun _ _ z => nomatch z)⟩
theorem ok_wy {k : Nat} {s : Fs} {Y : L2.Cx} {cc : Addr} {E : XK} (O0 : Ok ⟨G, E⟩ P ft (k + 1) (ckOf s n) Y) (hfk : ∀ (base' : Heap) (f : Nat) t, ft[f]? = some t → FnG Y.prog Y.w Y.K Y.mg base' (L2.CX Y.prog Y.w) (6 * k + 8) t.adr (spC G P k f)) (hr : Room (6 * (k + 1) + 13) Y.A)
    {st stF stW stS : Stmt} {gA fA wA sA : Addr} {c1 c2 c3 : Value} {fd : FD} {xf : Str} {N : List Str} {cf : Ck} {bw bs : Bool} (GO : GotOk G P Y.mg st gA c1 c2 c3) (FO : FieldOk G P Y.mg fd xf N stF fA cf) (WO : bw = true → WhyOk G Y.mg stW wA) (SO : bs = true → WhysOk G Y.mg stS sA) (TB : LamX.TabB Y.base Y.mg cc G.tp) (hcode : Y.env.code = .ref cc) (hq : Y.env.qual ++ "<lambda>" = G.lq)
    (hlo' : ∀ n' f c', G.lo n' f c' = LamO Y.env.cells G.lq (lamGood P (ckOf s n) n') f c') (hfn : ∀ x, Y.fn x = true) :
    Ok ⟨G, E⟩ P ft (k + 1) (ckL s n P bw bs) Y := by
  refine ⟨O0.hK, O0.hN, O0.hsc, O0.nd, O0.calm, O0.room, O0.tk, O0.po, O0.fnv, O0.hfn, O0.flen, O0.fns, O0.cls, O0.clf, O0.cnl, O0.kit, O0.glo, O0.free, O0.xcs, O0.sub, fun x e h => ?_⟩
  have h : wyL P (ckOf s n) bw bs x e = true := h
  cases x with
  | got m =>
    have h : (match callOne e with
      | some (f, a) => decide (f = "_law_got") && ((ckOf s n).gl "_law_got" && lamB P (ckOf s n) m a)
      | none => false) = true := h
    cases q : callOne e with
    | none => rw [q] at h; cases h
    | some fa =>
      obtain ⟨f, a⟩ := fa
      rw [q] at h
      simp only [Bool.and_eq_true] at h
      obtain ⟨h1, h2, h3⟩ := h
      have e1 := of_decide_eq_true h1
      subst e1
      obtain ⟨p1, p2, rfl⟩ := callOne_ok q
      obtain ⟨params, body, scope, pos, rfl, g1, g2, x, g3, g4⟩ := lamB_ok h3
      exact s_got O0 (hfk Y.base) (hr.mono (by omega)) GO FO TB hcode hq g2 g1 h2 g3 g4
  | why m =>
    have h : (bw && (match callOne e with
      | some (f, a) => decide (f = "_law_why") && ((ckOf s n).gl "_law_why" && lamB P (ckOf s n) m a)
      | none => false)) = true := h
    rw [Bool.and_eq_true] at h
    obtain ⟨hw, h⟩ := h
    cases q : callOne e with
    | none => rw [q] at h; cases h
    | some fa =>
      obtain ⟨f, a⟩ := fa
      rw [q] at h
      simp only [Bool.and_eq_true] at h
      obtain ⟨h1, h2, h3⟩ := h
      have e1 := of_decide_eq_true h1
      subst e1
      obtain ⟨p1, p2, rfl⟩ := callOne_ok q
      obtain ⟨params, body, scope, pos, rfl, g1, g2, x, g3, g4⟩ := lamB_ok h3
      exact s_why O0 (hfk Y.base) (hr.mono (by omega)) GO FO (WO hw) TB hcode hq g2 g1 h2 g3 g4
  | lams ns =>
    cases e with
    | List es pos =>
      have h : (decide (ns.length ≤ 1000) && lamsB P (ckOf s n) ns es) = true := h
      rw [Bool.and_eq_true] at h
      exact s_lams (c := ckOf s n) O0.hK O0.hsc hlo' TB hcode hq (of_decide_eq_true h.1) h.2
    | _ => cases h
  | whys a =>
    cases a with
    | var i =>
      have h : ((bw && bs) && (match callOne e with
        | some (f, a) => decide (f = "_law_whys") && ((ckOf s n).gl "_law_whys" && ((isName a).isSome && okE (.var i) (ckOf s n) a))
        | none => false)) = true := h
      rw [Bool.and_eq_true, Bool.and_eq_true] at h
      obtain ⟨⟨hw, hs⟩, h⟩ := h
      cases q : callOne e with
      | none => rw [q] at h; cases h
      | some fa =>
        obtain ⟨f, a⟩ := fa
        rw [q] at h
        simp only [Bool.and_eq_true] at h
        obtain ⟨h1, h2, h3, h4⟩ := h
        have e1 := of_decide_eq_true h1
        subst e1
        obtain ⟨p1, p2, rfl⟩ := callOne_ok q
        cases q2 : isName a with
        | none => rw [q2] at h3; cases h3
        | some y =>
          obtain ⟨p3, rfl⟩ := isName_ok q2
          exact s_whys O0 hlo' hfn hfk (hr.mono (by omega)) GO FO (WO hw) (SO hs) hq h2 h4
    | _ => cases h
  | _ => cases h
/-- the frame of the law -/
theorem ok_law (hn : n.fn = ft.map Ft.name) (hf : ∀ (i : Nat) t, ft[i]? = some t → ∃ s fd, ss[i]? = some s ∧ P.fns[i]? = some fd ∧ Fct G mg s fd t) (hlen : ft.length = P.fns.length) (hok : okFs n ss P.fns = true) (ht : Tops G P w mg ft n) {k : Nat} {s : Fs} {ps : List Str} (sc : FnScope s.N ps (defScope s.st)) {adr cc : Addr} {cdv : Value} {A : Around} {outer : List PySem.Env} {s1 : Shared} {H : Hp} {E : XK} {Y : L2.Cx} (hY : Y = cxOf (L2.CX prog w) prog w G.K mg base s.N s.qual (defScope s.st) adr cdv A outer s1 H E) (hr : Room (6 * (k + 1) + 13) (A.deeper (envOfC s.qual (defScope s.st) s1.heap.objs.size adr cdv)))
    {st stF stW stS : Stmt} {gA fA wA sA : Addr} {c1 c2 c3 : Value} {fd : FD} {xf : Str} {N : List Str} {cf : Ck} {bw bs : Bool} (GO : GotOk G P mg st gA c1 c2 c3) (FO : FieldOk G P mg fd xf N stF fA cf) (WO : bw = true → WhyOk G mg stW wA) (SO : bs = true → WhysOk G mg stS sA) (TB : LamX.TabB base mg cc G.tp) (hcode : cdv = .ref cc) (hq : s.qual ++ ".<locals>." ++ "<lambda>" = G.lq)
    (hlo : G.lo = loOf P (ckOf s n) (envOfC s.qual (defScope s.st) s1.heap.objs.size adr cdv).cells G.lq) :
    Ok ⟨G, E⟩ P ft (k + 1) (ckL s n P bw bs) Y := by
  have O0 := ok_law0 (prog := prog) (w := w) (base := base) (outer := outer) (H := H) (E := E) hn hf hlen hok ht sc hr
  rw [← hY] at O0
  have e1 : Y.prog = prog := by rw [hY] <;> rfl
  have e2 : Y.w = w := by rw [hY] <;> rfl
  have e3 : Y.mg = mg := by rw [hY] <;> rfl
  have e4 : Y.base = base := by rw [hY] <;> rfl
  have e5 : Y.env.code = cdv := by rw [hY] <;> rfl
  have e6 : Y.env.qual = s.qual ++ ".<locals>." := by rw [hY] <;> rfl
  have e7 : Y.env.cells = (envOfC s.qual (defScope s.st) s1.heap.objs.size adr cdv).cells := by rw [hY] <;> rfl
  have e8 : Y.A = A.deeper (envOfC s.qual (defScope s.st) s1.heap.objs.size adr cdv) := by rw [hY] <;> rfl
  have e9 : ∀ x, Y.fn x = true := fun x => by rw [hY] <;> rfl
  have hK := O0.hK
  have hfk : ∀ (base' : Heap) (f : Nat) t, ft[f]? = some t → FnG Y.prog Y.w Y.K Y.mg base' (L2.CX Y.prog Y.w) (6 * k + 8) t.adr (spC G P k f) := fun base' g u eu => by
    rw [e1, e2, e3, hK]
    exact all_ok hn hf hlen hok ht k g u eu
  rw [← e3] at GO FO WO SO TB
  rw [← e4] at TB
  exact ok_wy O0 hfk (by rw [e8]; exact hr) GO FO WO SO TB (e5.trans hcode) (by rw [e6]; exact hq) (fun n' f c' => by rw [hlo, e7]; rfl) e9
end
end Ev


set_option autoImplicit false
set_option Elab.async false
set_option linter.all false
set_option maxRecDepth 100000
set_option maxHeartbeats 4000000
/-! EvLq: the end of a law that makes lambdas: what the head must tell, what the text must say. -/
namespace Ev
open PySem PySem.Spec PyProof.Rows L2 RZ EvCall PySem.EvXK
/-- the law's code object and its table -/
def codeP (K : Fq) (fa : Addr) : Option (Addr × Addr) := match K.lookup fa with
  | some ⟨_, _, .func fd, _⟩ => (match fd.code with
    | .ref cc => (match K.lookup cc with
      | some ⟨.type c, _, .fields vs, _⟩ => (match (vs[11]? : Option Value), (vs.getD 18 Value.none : Value), (vs.getD 7 Value.none : Value), (vs.getD 9 Value.none : Value), (vs.getD 10 Value.none : Value) with
        | some (Value.ref P), Value.str _ _, Value.int _ _, Value.bool _, Value.int _ _ => if c = "code" ∧ cc ≠ P ∧ (K.lookup P).isNone = true then some (cc, P) else none
        | _, _, _, _, _ => none)
      | _ => none)
    | _ => none)
  | _ => none
theorem codeP_ok {K : Fq} {fa cc P : Addr} {h : Heap} (X : K.In h) (e : codeP K fa = some (cc, P)) : PySem.W.CodeHd h cc P ∧ K.lookup P = none ∧
    ∃ (oc : Value) (od : Option Addr) (fd : FuncData) (osl : Array (Option Value)) (ec : Value) (dd : Option Addr) (vs : Array Value) (sl : Array (Option Value)), K.lookup fa = some ⟨oc, od, .func fd, osl⟩ ∧ fd.code = .ref cc ∧ K.lookup cc = some ⟨ec, dd, .fields vs, sl⟩ ∧ vs[11]? = some (.ref P) := by
  unfold codeP at e
  split at e
  · rename_i oc od fd osl e1
    split at e
    · rename_i cc' e2
      split at e
      · rename_i c dd vs sl e3
        split at e
        · rename_i P' file tf flags tg inF text tt e4 e5 e6 e7 e8
          split at e
          · rename_i hc
            cases e
            obtain ⟨h1, h2, h3⟩ := hc
            subst h1
            refine ⟨⟨_, vs, file, tf, flags, tg, inF, text, tt, X _ _ e3, rfl, rfl, e4, ?_, e5, e6, e7, e8, h2⟩, Option.isNone_iff_eq_none.mp h3, oc, od, fd, osl, _, dd, vs, sl, e1, e2, e3, e4⟩
            rw [Array.getD_eq_getD_getElem?, e4]
            rfl
          · cases e
        · cases e
      · cases e
    · cases e
  · cases e
/-- the def of a helper: its name, no keyword-only parameters -/
def headB (nm : Str) (s : Fs) (fd : FD) : Bool := decide (s.name = nm ∧ s.gname = nm ∧ s.qual = nm) && fd.kwo.isEmpty
theorem defAt_of {G : G0} {mg : Str → Option Value} {s : Fs} {fd : FD} {t : Ft} {nm : Str} (F : Fct G mg s fd t) (h : headB nm s fd = true) (hne : nm ≠ Str.empty) : DefAt G.K mg s.st nm t.adr := by
  unfold headB at h
  rw [Bool.and_eq_true, decide_eq_true_eq] at h
  obtain ⟨⟨h1, h2, h3⟩, h4⟩ := h
  obtain ⟨fd', FF⟩ := F.fun_
  obtain ⟨oc, od, dV, kV, doc, pm, an, cdv, ct, osl, rfl, lk, hcd, hD, _⟩ := FF.ex
  have hn : t.name = nm := F.name.trans h2
  rw [h1, h3] at lk
  rw [h3] at hcd
  rcases hD with ⟨_, rfl⟩ | ⟨e, _⟩
  · exact ⟨⟨oc, od, kV, doc, pm, an, cdv, ct, osl, lk, hcd⟩, by rw [← hn]; exact F.glo (by rw [hn]; exact hne), FF.kp⟩
  · exact absurd rfl e
def gotB (s : Fs) (fd : FD) : Bool := headB "_law_got" s fd && (gotTx s.st && (plainA ["_law_ask"] (defArgs s.st) && (scB ["_law_ask", "_law_e"] ["_law_ask"] (defScope s.st) &&
  decide ((defScope s.st).names.lookup ("_law_ask" : Str) = some .local ∧ (defScope s.st).names.lookup ("_law_e" : Str) = some .local ∧ (defScope s.st).names.lookup ("BeltError" : Str) = some .globalImplicit ∧ (defScope s.st).names.lookup ("Missing" : Str) = some .globalImplicit ∧ (defScope s.st).names.lookup ("NothingLeft" : Str) = some .globalImplicit ∧ (defScope s.st).names.lookup ("_law_field" : Str) = some .globalImplicit))))
def fieldB (s : Fs) (fd : FD) : Bool := headB "_law_field" s fd && (plainA ["_law_e"] (defArgs s.st) && (scB s.N ["_law_e"] (defScope s.st) && (hotSs fd.body && (decide (fd.pos.length = 1) && (fd.va == false && fd.kwa == false)))))
def whyB (s : Fs) (fd : FD) : Bool := headB "_law_why" s fd && (whyTx s.st && (plainA ["_law_ask"] (defArgs s.st) && (scB ["_law_ask", "_law_found"] ["_law_ask"] (defScope s.st) &&
  decide ((defScope s.st).names.lookup ("_law_ask" : Str) = some .local ∧ (defScope s.st).names.lookup ("_law_found" : Str) = some .local ∧ (defScope s.st).names.lookup ("_law_got" : Str) = some .globalImplicit))))
def whysB (s : Fs) (fd : FD) : Bool := headB "_law_whys" s fd && (whysTx s.st && (plainA ["_law_asks"] (defArgs s.st) && (scB ["_law_asks", "_law_ask"] ["_law_asks"] (defScope s.st) &&
  decide ((defScope s.st).names.lookup ("_law_asks" : Str) = some .local))))
/-- where the helpers stand -/
structure LTx where
  ig : Nat
  iw : Nat
  is : Nat
  bw : Bool
  bs : Bool
def atB (m : Md) (P : Pg) (i : Nat) (b : Fs → FD → Bool) : Bool := match m.ss[i]?, P.fns[i]? with
  | some s, some fd => b s fd
  | _, _ => false
theorem atB_ok {m : Md} {P : Pg} {i : Nat} {b : Fs → FD → Bool} (h : atB m P i b = true) : ∃ s fd, m.ss[i]? = some s ∧ P.fns[i]? = some fd ∧ b s fd = true := by
  unfold atB at h
  split at h
  · rename_i s fd e1 e2
    exact ⟨s, fd, e1, e2, h⟩
  · cases h
def txB (m : Md) (P : Pg) (z : LTx) : Bool := atB m P z.ig gotB && (atB m P P.ff fieldB && ((!z.bw || atB m P z.iw whyB) && (!z.bs || atB m P z.is whysB)))
/-- what the head must tell besides -/
def lamK (m : Md) (K : Fq) : Bool := gloB K "BeltError" && (gloB K "Missing" && (gloB K "NothingLeft" && ((m.xs.all fun p => decide (PySem.W.exmAny K (.ref (He.ga K p.1)) [.ref (He.ga K "BeltError"), .ref (He.ga K "Missing"), .ref (He.ga K "NothingLeft")] = some true)) && ((PySem.W.clsIn K (He.ga K Str.empty)).isNone && (codeP K (He.ga K "law")).isSome))))
def ckY (m : Md) (P : Pg) (K : Fq) : Bool := ckX m P K && lamK m K
theorem SaysX.weak {ck ck' : Fq → Bool} {fn : List Df} {ts : List He.Tab} {w : World} {K : Fq} (c : SaysX ck fn ts w K) (h : ck' K = true) : SaysX ck' fn ts w K := by
  have h1 := c.ck_
  unfold SaysX obsX at c ⊢
  rw [h1] at c
  rw [h]
  exact c
section
variable {prog : Program} {w : World} {mg : Str → Option Value} {base : Heap} {K : Fq} {h : Heap} {m : Md} {P : Pg}
theorem law_fnL (X : K.In h) (N : h.Ns mainGlobals mg) (c : SaysX (ckY m P) (fnsX m P) (tabX m P) w K) (hx : m.xs.all (fun p => match p.2 with
    | some x => xsB x
    | none => true) = true) (hla : m.xs.length = m.anc.length) (hlf : m.ss.length = P.fns.length) (hlc : m.cs.length = P.cls.length) (hlg : m.gs.length = P.glo.length) (hsub : P.sub = subOf m.anc) (hexn : P.exn = exnOf m.xs) (hcn : m.cs.Nodup)
    (hok : okFs (nmOf m) m.ss P.fns = true) {z : LTx} (htx : txB m P z = true) {k fl : Nat} {lw : Fs} {fd0 fd : FD} {x : Str} (es : m.ss[fl]? = some lw) (hlw : headB "law" lw fd0 = true) (ef : P.fns[fl]? = some fd0) (h3 : fd.ns = lw.N.length) (h4 : okSs fd.body (ckL lw (nmOf m) P z.bw z.bs) (defBody lw.st) = true) (hp : plainA [x] (defArgs lw.st) = true) (hps : scB lw.N [x] (defScope lw.st) = true)
    {fa : Addr} (hfa : mg ("law" : Str) = some (.ref fa)) (own : ∀ K : PySem.W.Frag, K.In h → LamX.OwnTab K fa h) :
    ∃ (fd' : FuncData) (cc Pt : Addr), h.get? Pt = some { cls := .none, data := .fields #[] } ∧ K.lookup Pt = none ∧ PySem.W.CodeHd h cc Pt ∧ (∀ (s : Shared) (v : Value), BindsTo s fd' ⟨[v], []⟩ [(x, v)]) ∧
      ∀ base : Heap, LamX.TabB base mg cc Pt → FnOk prog w K mg base (L2.CX prog w) (6 * (k + 1) + 14) fa fd' [x] (fun vs H Q E => vs.length = 1 ∧ ∀ lx : Lx, lx.tp = Pt → spB (GOf K m lx) P (k + 1) fd vs H Q E) := by
  have hY := c.ck_
  unfold ckY at hY
  rw [Bool.and_eq_true] at hY
  obtain ⟨hX, hL⟩ := hY
  have cX := c.weak hX
  unfold lamK at hL
  simp only [Bool.and_eq_true, List.all_eq_true, decide_eq_true_eq] at hL
  obtain ⟨b1, b2, b3, b4, b5, b6⟩ := hL
  have efa : fa = He.ga K "law" := by
    obtain ⟨ft, f1, f2, f3, f4, f5⟩ := facts_of (lx := lx0) X N cX hx hla hlf hlc hlg hsub hexn hcn
    obtain ⟨t, et⟩ : ∃ t, ft[fl]? = some t := ⟨_, List.getElem?_eq_getElem (by rw [f2]; exact (List.getElem?_eq_some_iff.mp ef).1)⟩
    obtain ⟨s, fd1, e1, e2, F⟩ := f3 fl t et
    rw [es] at e1
    cases e1
    rw [ef] at e2
    cases e2
    have DA := defAt_of F hlw (by decide)
    have q := DA.glo
    rw [hfa] at q
    have ck := hX
    unfold ckX at ck
    rw [Bool.and_eq_true, List.all_eq_true] at ck
    have q2 := ck.1 _ (List.mem_of_getElem? es)
    unfold headB at hlw
    rw [Bool.and_eq_true, decide_eq_true_eq] at hlw
    rw [hlw.1.2.1, Bool.or_eq_true, decide_eq_true_eq, Bool.and_eq_true, decide_eq_true_eq] at q2
    rcases q2 with q2 | q2
    · exact absurd q2 (by decide)
    · obtain ⟨s', g1, g2⟩ := f4 fl t et
      rw [es] at g1
      cases g1
      have q3 : fa = t.adr := by cases q; rfl
      rw [q3, g2, q2.2]
  obtain ⟨⟨cc, Pt⟩, ecp⟩ := Option.isSome_iff_exists.mp b6
  rw [← efa] at ecp
  obtain ⟨chd, nPt, oc0, od0, fdc, osl0, ec0, dd0, vs0, sl0, k1, k2, k3, k4⟩ := codeP_ok X ecp
  have hPt := own K X cc Pt _ fdc ec0 dd0 vs0 sl0 k1 rfl k2 k3 k4
  -- the def itself
  have fun0 : ∃ (oc : Value) (od : Option Addr) (dV kV doc pm : Value) (an : Option Addr) (cdv ct : Value) (osl : Array (Option Value)), K.lookup fa = some ⟨oc, od, .func (PySem.W.fnOf lw.name lw.qual (defArgs lw.st) (defBody lw.st) (defScope lw.st) dV kV doc pm an cdv ct), osl⟩ ∧ PySem.W.codeIn K cdv lw.qual = true ∧ ∀ (s1 : Shared) (v : Value), BindsTo s1 (PySem.W.fnOf lw.name lw.qual (defArgs lw.st) (defBody lw.st) (defScope lw.st) dV kV doc pm an cdv ct) ⟨[v], []⟩ [(x, v)] := by
    obtain ⟨ft, f1, f2, f3, f4, f5⟩ := facts_of (lx := lx0) X N cX hx hla hlf hlc hlg hsub hexn hcn
    obtain ⟨t, et⟩ : ∃ t, ft[fl]? = some t := ⟨_, List.getElem?_eq_getElem (by rw [f2]; exact (List.getElem?_eq_some_iff.mp ef).1)⟩
    obtain ⟨s, fd1, e1, e2, F⟩ := f3 fl t et
    rw [es] at e1
    cases e1
    rw [ef] at e2
    cases e2
    have DA := defAt_of F hlw (by decide)
    have ea : t.adr = fa := by
      have q := DA.glo
      rw [hfa] at q
      cases q
      rfl
    obtain ⟨fd', FF⟩ := F.fun_
    have b := fun s1 v => FunD.bindsA (ps := [x]) FF (fun kV doc pm an cdv ct us hl => bind_plain (ps := [x]) hp kV doc pm an cdv ct us hl) s1 [v] rfl
    obtain ⟨oc, od, dV, kV, doc, pm, an, cdv, ct, osl, rfl, lk, hcd, hD, _⟩ := FF.ex
    exact ⟨oc, od, dV, kV, doc, pm, an, cdv, ct, osl, by rw [← ea]; exact lk, hcd, fun s1 v => b s1 v⟩
  obtain ⟨oc, od, dV, kV, doc, pm, an, cdv, ct, osl, lk, hcd, hbind⟩ := fun0
  have ecd : cdv = .ref cc := by
    rw [lk] at k1
    injection k1 with k1
    injection k1 with _ _ k1 _
    injection k1 with k1
    rw [← k1] at k2
    exact k2
  refine ⟨_, cc, Pt, hPt, nPt, chd, hbind, fun base TB => ?_⟩
  have sc := scB_ok hps
  refine fn_of (k := 6 * (k + 1) + 13) lk hcd sc (fun vs H Q E h => h.1) fun A outer s1 H vs Q E hr hh => ?_
  -- the frame's own lambdas
  let lx : Lx := ⟨Pt, lw.qual ++ ".<locals>." ++ "<lambda>", loOf P (ckOf lw (nmOf m)) (envOfC lw.qual (defScope lw.st) s1.heap.objs.size fa cdv).cells (lw.qual ++ ".<locals>." ++ "<lambda>")⟩
  obtain ⟨ft, f1, f2, f3, f4, f5⟩ := facts_of (lx := lx) X N cX hx hla hlf hlc hlg hsub hexn hcn
  have atF : ∀ (i : Nat) s fd1, m.ss[i]? = some s → P.fns[i]? = some fd1 → ∃ t, Fct (GOf K m lx) mg s fd1 t := fun i s fd1 g1 g2 => by
    obtain ⟨t, et⟩ : ∃ t, ft[i]? = some t := ⟨_, List.getElem?_eq_getElem (by rw [f2]; exact (List.getElem?_eq_some_iff.mp g2).1)⟩
    obtain ⟨s', fd', e1, e2, F⟩ := f3 i t et
    rw [g1] at e1
    cases e1
    rw [g2] at e2
    cases e2
    exact ⟨t, F⟩
  unfold txB at htx
  rw [Bool.and_eq_true, Bool.and_eq_true, Bool.and_eq_true] at htx
  obtain ⟨tx1, tx2, tx3, tx4⟩ := htx
  obtain ⟨sg, fg, sg1, sg2, sg3⟩ := atB_ok tx1
  obtain ⟨tg, Fg⟩ := atF _ _ _ sg1 sg2
  unfold gotB at sg3
  simp only [Bool.and_eq_true, decide_eq_true_eq] at sg3
  obtain ⟨g1, g2, g3, g4, g5⟩ := sg3
  have GO : GotOk (GOf K m lx) P mg sg.st tg.adr (.ref (He.ga K "BeltError")) (.ref (He.ga K "Missing")) (.ref (He.ga K "NothingLeft")) := by
    refine ⟨defAt_of Fg g1 (by decide), g2, g3, scB_ok g4, g5, gloB_ok X N b1, gloB_ok X N b2, gloB_ok X N b3, fun _ i ks xi => ?_⟩
    show PySem.W.exmAny K (.ref (He.ga K ((m.xs[i]?.map (·.1)).getD Str.empty))) _ = _
    have xc : (PySem.W.clsIn K (He.ga K ((m.xs[i]?.map (·.1)).getD Str.empty))).isSome = true := xi.cl
    cases ei : m.xs[i]? with
    | none =>
      rw [ei] at xc
      have xc : (PySem.W.clsIn K (He.ga K Str.empty)).isSome = true := xc
      rw [Option.isNone_iff_eq_none.mp b5] at xc
      cases xc
    | some p => exact b4 p (List.mem_of_getElem? ei)
  obtain ⟨sf, ff, sf1, sf2, sf3⟩ := atB_ok tx2
  obtain ⟨tf, Ff⟩ := atF _ _ _ sf1 sf2
  unfold fieldB at sf3
  simp only [Bool.and_eq_true, decide_eq_true_eq, beq_iff_eq] at sf3
  obtain ⟨q1, q2, q3, q4, q5, q6, q7⟩ := sf3
  have q0 := q1
  unfold headB at q0
  rw [Bool.and_eq_true, List.isEmpty_iff] at q0
  obtain ⟨ff1, ef1, okf⟩ := okFs_at hok sf1
  rw [sf2] at ef1
  cases ef1
  unfold okF at okf
  simp only [Bool.and_eq_true, decide_eq_true_eq] at okf
  have FO : FieldOk (GOf K m lx) P mg ff "_law_e" sf.N sf.st tf.adr (ckOf sf (nmOf m)) :=
    ⟨defAt_of Ff q1 (by decide), q2, scB_ok q3, ⟨rfl, rfl⟩, okf.2.1, q4, okf.2.2, sf2, ⟨q5, q0.2, q6, q7⟩⟩
  have WO : ∃ (stW : Stmt) (wA : Addr), z.bw = true → WhyOk (GOf K m lx) mg stW wA := by
    cases hb : z.bw with
    | false => exact ⟨lw.st, 0, fun e => nomatch e⟩
    | true =>
      rw [hb] at tx3
      obtain ⟨sw, fw, sw1, sw2, sw3⟩ := atB_ok (show atB m P z.iw whyB = true by simpa using tx3)
      obtain ⟨tw, Fw⟩ := atF _ _ _ sw1 sw2
      unfold whyB at sw3
      simp only [Bool.and_eq_true, decide_eq_true_eq] at sw3
      obtain ⟨w1, w2, w3, w4, w5⟩ := sw3
      exact ⟨sw.st, tw.adr, fun _ => ⟨defAt_of Fw w1 (by decide), w2, w3, scB_ok w4, w5⟩⟩
  obtain ⟨stW, wA, WO⟩ := WO
  have SO : ∃ (stS : Stmt) (sA : Addr), z.bs = true → WhysOk (GOf K m lx) mg stS sA := by
    cases hb : z.bs with
    | false => exact ⟨lw.st, 0, fun e => nomatch e⟩
    | true =>
      rw [hb] at tx4
      obtain ⟨sw, fw, sw1, sw2, sw3⟩ := atB_ok (show atB m P z.is whysB = true by simpa using tx4)
      obtain ⟨tw, Fw⟩ := atF _ _ _ sw1 sw2
      unfold whysB at sw3
      simp only [Bool.and_eq_true, decide_eq_true_eq] at sw3
      obtain ⟨w1, w2, w3, w4, w5⟩ := sw3
      exact ⟨sw.st, tw.adr, fun _ => ⟨defAt_of Fw w1 (by decide), w2, w3, scB_ok w4, w5⟩⟩
  obtain ⟨stS, sA, SO⟩ := SO
  have O := ok_law (prog := prog) (w := w) (base := base) (G := GOf K m lx) (outer := outer) (H := H) (E := E) (A := A) (s1 := s1) (k := k) (s := lw) (ps := [x]) (adr := fa) (cdv := cdv) f1.symm f3 f2 hok f5 sc rfl hr GO FO WO SO TB ecd rfl rfl
  refine ⟨_, sndSs fd.body _ _ _ _ O sc.kind h4, ?_⟩
  obtain ⟨_, hh⟩ := hh
  obtain ⟨ω, M, xs, hh, r, hl, post⟩ := hh lx rfl
  refine ⟨ω, M, _, env_start (n := fd.ns) r h3 hl, hh, ?_⟩
  unfold bodyR at post
  cases e8 : execs (ecN P (k + 1)) fd.body (xs.map some ++ List.replicate (fd.ns - xs.length) none) M with
  | nx env' M' =>
    rw [e8] at post
    exact fun ω' σ' H' le he' hh' => post ω' H' .non le hh' (by rw [Rel])
  | rt d M' => rw [e8] at post; exact post
  | bk _ _ => rw [e8] at post; exact False.elim post
  | ct _ _ => rw [e8] at post; exact False.elim post
  | er => rw [e8] at post; exact False.elim post
  | ex _ _ => rw [e8] at post; exact post
/-- the start: the script, the empty table -/
theorem law_spL {G : G0} {k : Nat} {fd : FD} {H : Hp} {a : Addr} {ns : List Int} {E : XK} (ht : H G.tp = some (.tbl #[])) (hS : SqL G.K H a (ns.map V.int)) (hl : 1 ≤ fd.ns) (h : ∃ M, bodyR P k fd [.fro (ns.map D.int)] [.tbl] = .ok (.bl true) M) : spB G P k fd [.ref a] H (fun v _ => v = .bl true) E := by
  obtain ⟨M, h⟩ := h
  have na : SqL G.K (fun b => if b = G.tp then none else H b) a (ns.map V.int) := by
    rcases hS with (z | ⟨o, z⟩) | z
    · refine .inl (.inl ?_)
      show (if a = G.tp then none else H a) = _
      rw [if_neg (fun e => by rw [e, ht] at z; cases z)]
      exact z
    · refine .inl (.inr ⟨o, ?_⟩)
      show (if a = G.tp then none else H a) = _
      rw [if_neg (fun e => by rw [e, ht] at z; cases z)]
      exact z
    · exact .inr z
  refine ⟨⟨[G.tp], fun b => if b = G.tp then none else H b, fun _ => none⟩, [.tbl], [.fro (ns.map D.int)], ⟨fun p o z => ?_, (fun p o z => nomatch z), rfl, fun i o z ng => ?_, by simp, fun p hp => ?_, fun _ _ _ => rfl, (fun _ _ => rfl), fun i _ => LamX.TabS.nil ht, (fun _ _ z => nomatch z)⟩, Rels.one ?_, hl, ?_⟩
  · have z : (if p = G.tp then none else H p) = some o := z
    split at z
    · cases z
    · exact z
  · cases i with
    | zero =>
      have z : O.tbl = o := by simpa using z
      subst z
      exact ⟨G.tp, .tbl #[], rfl, ht, ⟨rfl, _, rfl⟩, if_pos rfl, rfl⟩
    | succ i => simp at z
  · have : p = G.tp := by simpa using hp
    rw [this, ht]
    exact fun z => nomatch z
  · rw [Rel]
    exact ⟨a, _, rfl, na, rels_ints ns⟩
  · rw [h]
    intro ω' H' v _ _ r
    rw [Rel] at r
    exact r
end
end Ev


set_option autoImplicit false
set_option linter.all false
set_option maxRecDepth 100000
set_option maxHeartbeats 4000000
namespace K06
open Ev
/-- Tracker.__init__ -/
def f0 : FD := ⟨[[115, 101, 108, 102]], [([115, 101, 101, 107], (.int 0)), ([101, 109, 112, 116, 121], (.str [110, 111, 110, 101])), ([115, 116, 114, 97, 110, 103, 101], (.str [102, 105, 114, 115, 116])), ([112, 97, 117, 115, 101], (.str [99, 108, 101, 97, 114]))], true, false, 9, [(.iff (.not (.cmp2 .le .le (.cst (.int 1)) (.blt 0 [(.var 5)]) (.glo 0))) [(.rai 0 false [(.blt 0 [(.var 5)])])] []), (.for (.nm 6) .val [(.var 5)] [(.iff (.not (.call 4 [(.var 6), (.cst (.int 1)), (.glo 1)] [] [] [])) [(.rai 1 false [(.var 6)])] [])]), (.iff (.not (.call 4 [(.var 1), (.cst (.int 0)), (.cst (.int 3))] [] [] [])) [(.rai 1 false [(.var 1)])] []), (.for (.tp [7, 8]) .val [(.lst false [(.tup [(.var 2), (.glo 2)]), (.tup [(.var 3), (.glo 3)]), (.tup [(.var 4), (.glo 4)])])] [(.iff (.not (.call 5 [(.var 7), (.var 8)] [] [] [])) [(.rai 2 false [(.var 7)])] [])]), (.atr (.var 0) [111, 119, 110, 95, 114, 111, 111, 109, 115] (.blt 4 [(.var 5)])), (.atr (.var 0) [111, 119, 110, 95, 115, 101, 101, 107] (.var 1)), (.atr (.var 0) [111, 119, 110, 95, 114, 117, 108, 101, 115] (.tup [(.var 2), (.var 3), (.var 4)]))]⟩
/-- Tracker.changed -/
def f1 : FD := ⟨[[115, 101, 108, 102]], [], false, true, 8, [(.for (.nm 2) .val [(.var 1)] [(.iff (.cmp .nin (.var 2) (.tup [(.cst (.str [114, 111, 111, 109, 115])), (.cst (.str [115, 101, 101, 107])), (.cst (.str [101, 109, 112, 116, 121])), (.cst (.str [115, 116, 114, 97, 110, 103, 101])), (.cst (.str [112, 97, 117, 115, 101]))])) [(.rai 3 false [(.var 2)])] [])]), (.asg 3 (.blt 4 [(.bm 2 (.var 1) [(.cst (.str [114, 111, 111, 109, 115])), (.fld (.var 0) [111, 119, 110, 95, 114, 111, 111, 109, 115])])])), (.una [4, 5, 6] (.fld (.var 0) [111, 119, 110, 95, 114, 117, 108, 101, 115])), (.una [4, 5] (.tup [(.bm 2 (.var 1) [(.cst (.str [101, 109, 112, 116, 121])), (.var 4)]), (.bm 2 (.var 1) [(.cst (.str [115, 116, 114, 97, 110, 103, 101])), (.var 5)])])), (.una [7, 6] (.tup [(.bm 2 (.var 1) [(.cst (.str [115, 101, 101, 107])), (.fld (.var 0) [111, 119, 110, 95, 115, 101, 101, 107])]), (.bm 2 (.var 1) [(.cst (.str [112, 97, 117, 115, 101])), (.var 6)])])), (.ret (.mk 0 true [] [(.var 3)] [[115, 101, 101, 107], [101, 109, 112, 116, 121], [115, 116, 114, 97, 110, 103, 101], [112, 97, 117, 115, 101]] [(.var 7), (.var 4), (.var 5), (.var 6)]))]⟩
/-- Tracker.content -/
def f2 : FD := ⟨[[115, 101, 108, 102]], [], false, false, 1, [(.ret (.tup [(.fld (.var 0) [111, 119, 110, 95, 114, 111, 111, 109, 115]), (.fld (.var 0) [111, 119, 110, 95, 115, 101, 101, 107]), (.fld (.var 0) [111, 119, 110, 95, 114, 117, 108, 101, 115])]))]⟩
/-- Tracker.__eq__ -/
def f3 : FD := ⟨[[115, 101, 108, 102], [111, 116, 104, 101, 114]], [], false, false, 2, [(.ret (.and (.isc (.var 1) 0) (.cmp .eq (.meth (.var 0) [99, 111, 110, 116, 101, 110, 116] 2 [] [] [] []) (.meth (.var 1) [99, 111, 110, 116, 101, 110, 116] 2 [] [] [] []))))]⟩
/-- is_number -/
def f4 : FD := ⟨[[118, 97, 108, 117, 101], [108, 111, 119], [104, 105, 103, 104]], [], false, false, 3, [(.ret (.and (.isi (.var 0) .int) (.and (.not (.isi (.var 0) .bool)) (.cmp2 .le .le (.var 1) (.var 0) (.var 2)))))]⟩
/-- is_word -/
def f5 : FD := ⟨[[118, 97, 108, 117, 101], [119, 111, 114, 100, 115]], [], false, false, 2, [(.ret (.and (.isi (.var 0) .str) (.cmp .inn (.var 0) (.var 1))))]⟩
/-- _law_bag -/
def f6 : FD := ⟨[[95, 108, 97, 119, 95, 115, 99, 114, 105, 112, 116]], [], false, false, 4, [(.asl 1 (.lc false (.nm 3) (.blt 1 [(.var 3)]) .val [(.slc (.var 0) [] [(.cst (.int 63))])] [])), (.asg 2 (.bin .add (.cst (.int 57910)) (.bin .mul (.cst (.int 71)) (.blt 0 [(.var 1)])))), (.for (.nm 3) .val [(.var 1)] [(.asg 2 (.bin .mod (.blt 1 [(.bin .add (.bin .mul (.var 2) (.cst (.int 7349))) (.var 3))]) (.cst (.int 2147483477))))]), (.ret (.lst true [(.var 1), (.cst (.int 0)), (.cst (.int 0)), (.var 2)]))]⟩
/-- _law_draw -/
def f7 : FD := ⟨[[95, 108, 97, 119, 95, 98, 97, 103, 95, 104, 101, 114, 101], [95, 108, 97, 119, 95, 109, 97, 110, 121]], [], false, false, 6, [(.iff (.cmp .lt (.item (.var 0) (.cst (.int 2))) (.cst (.int 2))) [(.put (.var 0) (.cst (.int 1)) (.bin .add (.item (.var 0) (.cst (.int 1))) (.cst (.int 1)))), (.asg 3 (.bin .add (.item (.var 0) (.cst (.int 3))) (.bin .mul (.item (.var 0) (.cst (.int 1))) (.cst (.int 8689))))), (.iff (.cmp .le (.item (.var 0) (.cst (.int 1))) (.blt 0 [(.item (.var 0) (.cst (.int 0)))])) [(.asg 3 (.item (.item (.var 0) (.cst (.int 0))) (.bin .sub (.item (.var 0) (.cst (.int 1))) (.cst (.int 1)))))] []), (.iff (.or (.cmp .gt (.item (.var 0) (.cst (.int 1))) (.blt 0 [(.item (.var 0) (.cst (.int 0)))])) (.cmp .lt (.var 3) (.bin .pow (.cst (.int 10)) (.cst (.int 18))))) [(.asg 4 (.bin .mod (.blt 1 [(.bin .add (.bin .add (.bin .mul (.var 3) (.cst (.int 42061))) (.bin .mul (.item (.var 0) (.cst (.int 1))) (.cst (.int 37021)))) (.item (.var 0) (.cst (.int 3))))]) (.cst (.int 2147483629)))), (.asg 5 (.bin .mod (.blt 1 [(.bin .add (.bin .mul (.var 4) (.var 4)) (.bin .mul (.item (.var 0) (.cst (.int 1))) (.cst (.int 50551))))]) (.cst (.int 998244353)))), (.ret (.bin .mod (.bin .fdiv (.bin .mod (.blt 1 [(.bin .add (.bin .mul (.var 5) (.cst (.int 46819))) (.var 4))]) (.cst (.int 2147483587))) (.cst (.int 23))) (.var 1)))] []), (.put (.var 0) (.cst (.int 2)) (.var 3))] []), (.asg 2 (.bin .mod (.blt 1 [(.item (.var 0) (.cst (.int 2)))]) (.var 1))), (.put (.var 0) (.cst (.int 2)) (.bin .fdiv (.blt 1 [(.item (.var 0) (.cst (.int 2)))]) (.var 1))), (.ret (.var 2))]⟩
/-- _law_of -/
def f8 : FD := ⟨[[95, 108, 97, 119, 95, 98, 97, 103, 95, 104, 101, 114, 101], [95, 108, 97, 119, 95, 115, 111, 109, 101]], [], false, false, 2, [(.ret (.item (.var 1) (.call 7 [(.var 0), (.blt 0 [(.var 1)])] [] [] [])))]⟩
/-- _law_same -/
def f9 : FD := ⟨[[95, 108, 97, 119, 95, 102, 111, 117, 110, 100], [95, 108, 97, 119, 95, 100, 117, 101]], [], false, false, 4, [(.iff (.cmp .is (.var 1) (.cst .non)) [(.ret (.cmp .is (.var 0) (.cst .non)))] []), (.iff (.or (.isi (.var 1) .bool) (.isi (.var 0) .bool)) [(.ret (.and (.isi (.var 1) .bool) (.and (.isi (.var 0) .bool) (.cmp .eq (.var 0) (.var 1)))))] []), (.iff (.isis (.var 1) [.int, .str]) [(.ret (.and (.isis (.var 0) [.int, .str]) (.and (.cmp .eq (.isi (.var 0) .int) (.isi (.var 1) .int)) (.cmp .eq (.var 0) (.var 1)))))] []), (.iff (.or (.cmp .ne (.isi (.var 1) .list) (.isi (.var 0) .list)) (.cmp .ne (.isi (.var 1) .tuple) (.isi (.var 0) .tuple))) [(.ret (.cst (.bl false)))] []), (.ret (.and (.cmp .eq (.blt 0 [(.var 0)]) (.blt 0 [(.var 1)])) (.blt 2 [(.lc false (.tp [2, 3]) (.call 9 [(.var 2), (.var 3)] [] [] []) .zip [(.var 0), (.var 1)] [])])))]⟩
/-- _law_field -/
def f10 : FD := ⟨[[95, 108, 97, 119, 95, 101]], [], false, false, 1, [(.iff (.cmp .inn (.attr (.var 0) [99, 111, 100, 101]) (.tup [(.cst (.str [87, 114, 111, 110, 103, 67, 111, 117, 110, 116])), (.cst (.str [73, 110, 118, 97, 108, 105, 100, 78, 117, 109, 98, 101, 114])), (.cst (.str [73, 110, 118, 97, 108, 105, 100, 87, 111, 114, 100])), (.cst (.str [73, 110, 118, 97, 108, 105, 100, 80, 111, 105, 110, 116])), (.cst (.str [73, 110, 118, 97, 108, 105, 100, 67, 104, 117, 116, 101])), (.cst (.str [73, 110, 118, 97, 108, 105, 100, 78, 97, 109, 101])), (.cst (.str [73, 110, 118, 97, 108, 105, 100, 76, 105, 109, 105, 116]))])) [(.ret (.tup [(.attr (.var 0) [103, 105, 118, 101, 110])]))] []), (.iff (.cmp .inn (.attr (.var 0) [99, 111, 100, 101]) (.tup [(.cst (.str [73, 110, 118, 97, 108, 105, 100, 84, 101, 120, 116])), (.cst (.str [73, 110, 118, 97, 108, 105, 100, 68, 101, 101, 100])), (.cst (.str [78, 111, 116, 78, 111, 119])), (.cst (.str [73, 110, 118, 97, 108, 105, 100, 79, 102, 102, 101, 114])), (.cst (.str [73, 110, 118, 97, 108, 105, 100, 67, 111, 109, 109, 97, 110, 100])), (.cst (.str [73, 110, 118, 97, 108, 105, 100, 80, 97, 103, 101]))])) [(.ret (.tup [(.attr (.var 0) [97, 116])]))] []), (.iff (.cmp .inn (.attr (.var 0) [99, 111, 100, 101]) (.tup [(.cst (.str [73, 110, 118, 97, 108, 105, 100, 70, 105, 101, 108, 100])), (.cst (.str [68, 117, 112, 108, 105, 99, 97, 116, 101, 78, 97, 109, 101])), (.cst (.str [85, 110, 107, 110, 111, 119, 110, 78, 97, 109, 101]))])) [(.ret (.tup [(.attr (.var 0) [110, 97, 109, 101])]))] []), (.ret (.ife (.cmp .inn (.attr (.var 0) [99, 111, 100, 101]) (.tup [(.cst (.str [84, 111, 111, 77, 97, 110, 121])), (.cst (.str [70, 117, 108, 108]))])) (.tup [(.attr (.var 0) [109, 111, 115, 116])]) (.tup [])))]⟩
/-- _law_got -/
def f11 : FD := ⟨[[95, 108, 97, 119, 95, 97, 115, 107]], [], false, false, 1, [.never]⟩
/-- _law_why -/
def f12 : FD := ⟨[[95, 108, 97, 119, 95, 97, 115, 107]], [], false, false, 2, [.never, .never]⟩
/-- _law_whys -/
def f13 : FD := ⟨[[95, 108, 97, 119, 95, 97, 115, 107, 115]], [], false, false, 2, [.never]⟩
/-- law -/
def f14 : FD := ⟨[[95, 108, 97, 119, 95, 115, 99, 114, 105, 112, 116]], [], false, false, 9, [.never, .never, .never]⟩
def flaw : FD := ⟨[[95, 108, 97, 119, 95, 115, 99, 114, 105, 112, 116]], [], false, false, 9, [(.asg 1 (.call 6 [(.var 0)] [] [] [])), (.forg (.nm 2) .rng [(.cst (.int 5))] [(.asg 3 (.call 8 [(.var 1), (.lst false [(.cst (.int 0)), (.cst (.int 5)), (.bin .sub (.cst (.int 0)) (.cst (.int 1))), (.cst .non), (.cst (.bl true)), (.cst (.str [50])), (.lst false [(.cst (.int 2))]), (.bin .pow (.cst (.int 10)) (.cst (.int 20)))])] [] [] [])), (.asg 4 (.call 8 [(.var 1), (.lst false [(.cst (.int 4)), (.bin .sub (.cst (.int 0)) (.cst (.int 1))), (.cst .non), (.cst (.bl true)), (.cst (.str [49])), (.lst false [(.cst (.int 1))])])] [] [] [])), (.asg 5 (.lst false [(.call 8 [(.var 1), (.lst false [(.cst .non), (.cst (.str [])), (.cst (.str [102, 105, 114, 115, 116])), (.cst (.str [107, 101, 101, 112])), (.cst (.int 3)), (.lst false [(.cst (.str [110, 111, 110, 101]))])])] [] [] []), (.call 8 [(.var 1), (.lst false [(.cst .non), (.cst (.str [])), (.cst (.str [98, 108, 97, 110, 107])), (.cst (.str [99, 108, 101, 97, 114])), (.cst (.str [70, 105, 114, 115, 116])), (.cst (.int 0))])] [] [] []), (.call 8 [(.var 1), (.lst false [(.cst .non), (.cst (.str [])), (.cst (.str [110, 111, 110, 101])), (.cst (.str [98, 108, 97, 110, 107])), (.cst (.str [99, 108, 101, 97, 114, 32])), (.cst (.bl true))])] [] [] [])])), (.asg 6 (.gc (.mk 0 true [(.cst (.int 2)), (.cst (.int 3))] [] [] []))), (.asg 7 (.lams [0, 1, 2, 3, 4, 5, 6, 7, 8, 9])), (.asg 8 (.lst false [(.tup [(.cst (.str [87, 114, 111, 110, 103, 67, 111, 117, 110, 116])), (.tup [(.cst (.int 0))])]), (.tup [(.cst (.str [87, 114, 111, 110, 103, 67, 111, 117, 110, 116])), (.tup [(.cst (.int 4))])]), (.tup [(.cst (.str [73, 110, 118, 97, 108, 105, 100, 78, 117, 109, 98, 101, 114])), (.tup [(.var 3)])]), (.tup [(.cst (.str [73, 110, 118, 97, 108, 105, 100, 78, 117, 109, 98, 101, 114])), (.tup [(.var 4)])]), (.tup [(.cst (.str [73, 110, 118, 97, 108, 105, 100, 87, 111, 114, 100])), (.tup [(.item (.var 5) (.cst (.int 0)))])]), (.tup [(.cst (.str [73, 110, 118, 97, 108, 105, 100, 87, 111, 114, 100])), (.tup [(.item (.var 5) (.cst (.int 1)))])]), (.tup [(.cst (.str [73, 110, 118, 97, 108, 105, 100, 87, 111, 114, 100])), (.tup [(.item (.var 5) (.cst (.int 2)))])]), (.tup [(.cst (.str [73, 110, 118, 97, 108, 105, 100, 70, 105, 101, 108, 100])), (.tup [(.cst (.str [98, 101, 108, 116, 115]))])]), (.tup [(.cst (.str [87, 114, 111, 110, 103, 67, 111, 117, 110, 116])), (.tup [(.cst (.int 0))])]), (.tup [(.cst (.str [73, 110, 118, 97, 108, 105, 100, 78, 117, 109, 98, 101, 114])), (.tup [(.var 4)])])])), (.iff (.or (.not (.call 9 [(.whys (.var 7)), (.var 8)] [] [] [])) (.one (.var 6) (.gc (.mk 0 true [(.cst (.int 2)), (.cst (.int 3))] [] [] [])) 3)) [(.ret (.cst (.bl false)))] [])]), (.ret (.cst (.bl true)))]⟩
def cds : List Cd := [⟨0, [([99, 104, 97, 110, 103, 101, 100], 1), ([99, 111, 110, 116, 101, 110, 116], 2), ([95, 95, 101, 113, 95, 95], 3)], [], [([77, 79, 83, 84], (.int 4))], [[111, 119, 110, 95, 114, 111, 111, 109, 115], [111, 119, 110, 95, 115, 101, 101, 107], [111, 119, 110, 95, 114, 117, 108, 101, 115]]⟩]
def anc : List (List Nat × List Nat) := [([0], [0]), ([1], [0]), ([2], [0]), ([3], [0])]
def exns : List (Option (Tx × Option Tx)) := [some ([87, 114, 111, 110, 103, 67, 111, 117, 110, 116], some [103, 105, 118, 101, 110]), some ([73, 110, 118, 97, 108, 105, 100, 78, 117, 109, 98, 101, 114], some [103, 105, 118, 101, 110]), some ([73, 110, 118, 97, 108, 105, 100, 87, 111, 114, 100], some [103, 105, 118, 101, 110]), some ([73, 110, 118, 97, 108, 105, 100, 70, 105, 101, 108, 100], some [110, 97, 109, 101])]
def sub (k : Nat) : Cl → Option Bool
  | .own c => (anc[k]?).bind fun p => if c < anc.length then some (p.1.contains c) else none
  | .ext c => (anc[k]?).bind fun p => if c < 3 then some (p.2.contains c) else none
  | _ => none
def lam0 : X := (.gc (.mk 0 true [] [] [] []))
def lam1 : X := (.gc (.mk 0 true [(.cst (.int 1)), (.cst (.int 2)), (.cst (.int 3)), (.cst (.int 4))] [] [[115, 101, 101, 107]] [(.var 4)]))
def lam2 : X := (.gc (.mk 0 true [(.cst (.int 4)), (.var 3), (.cst (.int 9))] [] [[115, 101, 101, 107]] [(.var 4)]))
def lam3 : X := (.gc (.mk 0 true [(.cst (.int 4))] [] [[115, 101, 101, 107], [101, 109, 112, 116, 121]] [(.var 4), (.item (.var 5) (.cst (.int 0)))]))
def lam4 : X := (.gc (.mk 0 true [(.cst (.int 4))] [] [[101, 109, 112, 116, 121], [115, 116, 114, 97, 110, 103, 101], [112, 97, 117, 115, 101]] [(.item (.var 5) (.cst (.int 0))), (.item (.var 5) (.cst (.int 1))), (.item (.var 5) (.cst (.int 2)))]))
def lam5 : X := (.gc (.mk 0 true [(.cst (.int 4))] [] [[115, 116, 114, 97, 110, 103, 101], [112, 97, 117, 115, 101]] [(.item (.var 5) (.cst (.int 1))), (.item (.var 5) (.cst (.int 2)))]))
def lam6 : X := (.gc (.mk 0 true [(.cst (.int 4))] [] [[112, 97, 117, 115, 101]] [(.item (.var 5) (.cst (.int 2)))]))
def lam7 : X := (.gc (.meth (.var 6) [99, 104, 97, 110, 103, 101, 100] 1 [] [] [[98, 101, 108, 116, 115], [115, 101, 101, 107]] [(.lst false [(.cst (.int 1))]), (.var 4)]))
def lam8 : X := (.gc (.meth (.var 6) [99, 104, 97, 110, 103, 101, 100] 1 [] [] [[114, 111, 111, 109, 115]] [(.lst false [])]))
def lam9 : X := (.gc (.meth (.var 6) [99, 104, 97, 110, 103, 101, 100] 1 [] [] [[115, 101, 101, 107], [112, 97, 117, 115, 101]] [(.var 4), (.item (.var 5) (.cst (.int 2)))]))
def pg : Pg := ⟨[f0, f1, f2, f3, f4, f5, f6, f7, f8, f9, f10, f11, f12, f13, f14], [(.int 3), (.int 4), (.tup [(.str [98, 108, 97, 110, 107]), (.str [110, 111, 110, 101])]), (.tup [(.str [102, 105, 114, 115, 116]), (.str [110, 111, 110, 101])]), (.tup [(.str [99, 108, 101, 97, 114]), (.str [107, 101, 101, 112])])], exns, sub, cds, 100, [lam0, lam1, lam2, lam3, lam4, lam5, lam6, lam7, lam8, lam9], 10, true⟩
end K06


set_option autoImplicit false
set_option linter.all false
set_option maxRecDepth 100000
set_option maxHeartbeats 4000000
/-! Sat: what holds behind an evaluation, rule by rule. -/
namespace Ev
def Rs.sat0 {α : Type} (r : Rs α) (Q : α → List O → Prop) : Prop := match r with
  | .ok a M => Q a M
  | _ => False
theorem sat_congr0 {α : Type} {r r' : Rs α} (h : r = r') (Q : α → List O → Prop) : r.sat0 Q = r'.sat0 Q := by rw [h]
theorem sat_ok0 {α : Type} {a : α} {M : List O} {Q : α → List O → Prop} : (Rs.ok a M).sat0 Q = Q a M := rfl
theorem sat_bind0 {α β : Type} {r : Rs α} {f : α → List O → Rs β} {Q : β → List O → Prop} : (r.bind f).sat0 Q = r.sat0 fun a M => (f a M).sat0 Q := by cases r <;> rfl
theorem sat_mono0 {α : Type} {r : Rs α} {Q Q' : α → List O → Prop} (h : r.sat0 Q) (q : ∀ a M, Q a M → Q' a M) : r.sat0 Q' := by
  cases r with
  | ok a M => exact q a M h
  | er => exact h
  | ex _ _ => exact h
theorem sat_eq0 {α : Type} {r : Rs α} {Q : α → List O → Prop} (h : r.sat0 Q) : ∃ a M, r = .ok a M ∧ Q a M := by
  cases r with
  | ok a M => exact ⟨a, M, rfl, h⟩
  | er => exact h.elim
  | ex _ _ => exact h.elim
theorem sat_noX0 {α : Type} {r : Rs α} {Q : α → List O → Prop} : (noX r).sat0 Q = r.sat0 Q := by cases r <;> rfl
def Out.sat0 (o : Out) (N : En → List O → Prop) (R : D → List O → Prop) : Prop := match o with
  | .nx env M => N env M
  | .rt d M => R d M
  | _ => False
theorem osat_congr0 {o o' : Out} (h : o = o') (N : En → List O → Prop) (R : D → List O → Prop) : o.sat0 N R = o'.sat0 N R := by rw [h]
theorem osat_mono0 {o : Out} {N N' : En → List O → Prop} {R R' : D → List O → Prop} (h : o.sat0 N R) (n : ∀ a M, N a M → N' a M) (r : ∀ a M, R a M → R' a M) : o.sat0 N' R' := by
  cases o with
  | nx env M => exact n _ _ h
  | rt d M => exact r _ _ h
  | _ => exact h
/-- a bool's two ways -/
def two (d : D) (a b : Prop) : Prop := match d with
  | .bl true => a
  | .bl false => b
  | _ => False
theorem two_T {a b : Prop} : two (.bl true) a b = a := rfl
theorem two_F {a b : Prop} : two (.bl false) a b = b := rfl
theorem two_d {p : Prop} [Decidable p] {a b : Prop} : two (.bl (decide p)) a b = if p then a else b := by
  by_cases h : p
  · rw [decide_eq_true h, if_pos h]; rfl
  · rw [decide_eq_false h, if_neg h]; rfl
theorem two_n {u : Bool} {a b : Prop} : two (.bl (!u)) a b = two (.bl u) b a := by cases u <;> rfl
theorem two_congr {d d' : D} (h : d = d') (a b : Prop) : two d a b = two d' a b := by rw [h]
section
variable {C : Ec} {env : En} {M : List O} {a b c t : X} {Q : D → List O → Prop} {N : En → List O → Prop} {R : D → List O → Prop}
theorem e_var0 {i : Nat} : (ev C (.var i) env M).sat0 Q = (match env[i]? with | some (some d) => Q d M | _ => False) := by
  rw [ev]
  cases env[i]? with
  | none => rfl
  | some o => cases o <;> rfl
theorem e_cst0 {d : D} : (ev C (.cst d) env M).sat0 Q = Q d M := by rw [ev]; rfl
theorem e_bin0 {o : BOp} : (ev C (.bin o a b) env M).sat0 Q = (ev C a env M).sat0 fun x M1 => (ev C b env M1).sat0 fun y M2 => (binop o x y M2).sat0 Q := by rw [ev]; simp only [sat_bind0, sat_noX0]
theorem e_cmp0 {o : COp} : (ev C (.cmp o a b) env M).sat0 Q = (ev C a env M).sat0 fun x M1 => (ev C b env M1).sat0 fun y M2 => (cmpop o x y M2).sat0 Q := by rw [ev]; simp only [sat_bind0, sat_noX0]
theorem e_and0 : (ev C (.and a b) env M).sat0 Q = (ev C a env M).sat0 fun x M1 => two x ((ev C b env M1).sat0 Q) (Q (.bl false) M1) := by
  rw [ev, sat_bind0]
  congr 1
  funext x M1
  cases x with
  | bl u => cases u <;> rfl
  | _ => rfl
theorem e_or0 : (ev C (.or a b) env M).sat0 Q = (ev C a env M).sat0 fun x M1 => two x (Q (.bl true) M1) ((ev C b env M1).sat0 Q) := by
  rw [ev, sat_bind0]
  congr 1
  funext x M1
  cases x with
  | bl u => cases u <;> rfl
  | _ => rfl
theorem e_ife0 : (ev C (.ife t a b) env M).sat0 Q = (ev C t env M).sat0 fun x M1 => two x ((ev C a env M1).sat0 Q) ((ev C b env M1).sat0 Q) := by
  rw [ev, sat_bind0]
  congr 1
  funext x M1
  cases x with
  | bl u => cases u <;> rfl
  | _ => rfl
def notD (d : D) (M : List O) : Rs D := match d with
  | .bl b => .ok (.bl (!b)) M
  | _ => .er
theorem e_not0 : (ev C (.not a) env M).sat0 Q = (ev C a env M).sat0 fun x M1 => (notD x M1).sat0 Q := by rw [ev, sat_bind0]; rfl
theorem notD_bl0 {u : Bool} : (notD (.bl u) M).sat0 Q = Q (.bl (!u)) M := rfl
def negD (d : D) (M : List O) : Rs D := match d with
  | .int i => .ok (.int (-i)) M
  | _ => .er
theorem e_neg0 : (ev C (.neg a) env M).sat0 Q = (ev C a env M).sat0 fun x M1 => (negD x M1).sat0 Q := by rw [ev, sat_bind0]; rfl
theorem negD_int0 {i : Int} : (negD (.int i) M).sat0 Q = Q (.int (-i)) M := rfl
theorem e_tup0 {es : List X} : (ev C (.tup es) env M).sat0 Q = (evs C es env M).sat0 fun ds M1 => ds.length ≤ lim ∧ Q (.tup ds) M1 := by
  rw [ev, sat_bind0]
  congr 1
  funext ds M1
  by_cases h : ds.length ≤ lim
  · simp only [h, if_true, true_and, sat_ok0]
  · simp only [h, if_false, false_and]; rfl
theorem e_lst0 {h : Bool} {es : List X} : (ev C (.lst h es) env M).sat0 Q = (evs C es env M).sat0 fun ds M1 => ds.length ≤ lim ∧ (mkL h ds M1).sat0 Q := by
  rw [ev, sat_bind0]
  congr 1
  funext ds M1
  by_cases h : ds.length ≤ lim
  · simp only [h, if_true, true_and]
  · simp only [h, if_false, false_and]; rfl
theorem mk_F0 {l : List D} : (mkL false l M).sat0 Q = Q (.lst l) M := rfl
theorem mk_T0 {l : List D} : (mkL true l M).sat0 Q = Q (.ref M.length) (M ++ [.lst l]) := rfl
def itemD (M : List O) (x y : D) : Rs D := itD M x y
theorem e_item0 {i : X} : (ev C (.item a i) env M).sat0 Q = (ev C a env M).sat0 fun x M1 => (ev C i env M1).sat0 fun y M2 => (itemD M2 x y).sat0 Q := by rw [ev]; simp only [sat_bind0, sat_noX0]; rfl
def slcD (M : List O) (x : D) (l r : List D) : Rs D := cutD x l r M
theorem e_slc0 {lo hi : List X} : (ev C (.slc a lo hi) env M).sat0 Q = (ev C a env M).sat0 fun x M1 => (evs C lo env M1).sat0 fun l M2 => (evs C hi env M2).sat0 fun r M3 => (slcD M3 x l r).sat0 Q := by rw [ev]; simp only [sat_bind0, sat_noX0]; rfl
def attrD (M : List O) (x : D) (f : Tx) : Rs D := match x with
    | .exc _ ks ds => (match field ks ds f with
      | some d => .ok d M
      | none => .er)
    | _ => .er
theorem e_attr0 {f : Tx} : (ev C (.attr a f) env M).sat0 Q = (ev C a env M).sat0 fun x M1 => (attrD M1 x f).sat0 Q := by rw [ev, sat_bind0]; rfl
def isiD (C : Ec) (M : List O) (x : D) (c : Cl) : Rs D := match isA C (seen M x) c with
    | some b => .ok (.bl b) M
    | none => .er
def isisD (C : Ec) (M : List O) (x : D) (c : List Cl) : Rs D := match isAny C (seen M x) c with
    | some b => .ok (.bl b) M
    | none => .er
theorem e_isi0 {c : Cl} : (ev C (.isi a c) env M).sat0 Q = (ev C a env M).sat0 fun x M1 => (isiD C M1 x c).sat0 Q := by rw [ev, sat_bind0]; rfl
theorem e_isis0 {c : List Cl} : (ev C (.isis a c) env M).sat0 Q = (ev C a env M).sat0 fun x M1 => (isisD C M1 x c).sat0 Q := by rw [ev, sat_bind0]; rfl
def optSat {α : Type} (o : Option α) (Q : α → Prop) : Prop := match o with
  | some a => Q a
  | none => False
theorem opt_some {α : Type} {x : α} {Q : α → Prop} : optSat (some x) Q = Q x := rfl
theorem opt_congr {α : Type} {o o' : Option α} (h : o = o') (Q : α → Prop) : optSat o Q = optSat o' Q := by rw [h]
theorem e_call0 {f : Nat} {es st vs : List X} {ks : List Tx} : (ev C (.call f es st ks vs) env M).sat0 Q = (evs C es env M).sat0 fun ds M1 => (evs C st env M1).sat0 fun ss M2 => (evs C vs env M2).sat0 fun ws M3 => optSat (starOf ss) fun more => (C.call f (ds ++ more) (ks.zip ws) M3).sat0 Q := by
  rw [ev]
  simp only [sat_bind0, sat_noX0]
  congr 1; funext ds M1; congr 1; funext ss M2; congr 1; funext ws M3
  cases starOf ss <;> rfl
theorem sat_F0 {α : Type} {r : Rs α} : (r.sat0 fun _ _ => False) = False := by cases r <;> rfl
theorem e_mk0 {c : Nat} {fz : Bool} {es st vs : List X} {ks : List Tx} : (ev C (.mk c fz es st ks vs) env M).sat0 Q = (evs C es env M).sat0 fun ds M1 => (evs C st env M1).sat0 fun ss M2 => (evs C vs env M2).sat0 fun ws M3 => optSat (starOf ss) fun more => optSat C.cls[c]? fun cd => (C.call cd.init (.ref M3.length :: (ds ++ more)) (ks.zip ws) (M3 ++ [.ins c [] []])).sat0 fun r M4 => (made fz M3.length r M4).sat0 Q := by
  rw [ev]
  cases C.cls[c]? with
  | none =>
    have e : ∀ {ss : List D}, (optSat (starOf ss) fun more => optSat (none : Option Cd) fun cd => True) = False := fun {ss} => by cases starOf ss <;> rfl
    have e2 : ∀ (ss : List D) (g : List D → Cd → Prop), (optSat (starOf ss) fun more => optSat (none : Option Cd) (g more)) = False := fun ss g => by cases starOf ss <;> rfl
    simp only [e2, sat_F0]
    rfl
  | some cd =>
    simp only [sat_bind0, sat_noX0]
    congr 1; funext ds M1; congr 1; funext ss M2; congr 1; funext ws M3
    cases starOf ss with
    | none => rfl
    | some more => simp only [opt_some, sat_bind0]
theorem e_meth0 {m : Tx} {f : Nat} {es st vs : List X} {ks : List Tx} : (ev C (.meth a m f es st ks vs) env M).sat0 Q = (ev C a env M).sat0 fun x M0 => canM C M0 x m f = true ∧ (evs C es env M0).sat0 fun ds M1 => (evs C st env M1).sat0 fun ss M2 => (evs C vs env M2).sat0 fun ws M3 => optSat (starOf ss) fun more => (C.call f (x :: (ds ++ more)) (ks.zip ws) M3).sat0 Q := by
  rw [ev, sat_bind0]
  congr 1; funext x M0
  by_cases h : canM C M0 x m f = true
  · simp only [h, if_true, true_and, sat_bind0, sat_noX0]
    congr 1; funext ds M1; congr 1; funext ss M2; congr 1; funext ws M3
    cases starOf ss <;> rfl
  · rw [if_neg h]; simp [h]; exact id
theorem e_isc0 {n : Nat} : (ev C (.isc a n) env M).sat0 Q = (ev C a env M).sat0 fun x M1 => optSat (isC C M1 x n) fun b => Q (.bl b) M1 := by
  rw [ev, sat_bind0]
  congr 1; funext x M1
  cases isC C M1 x n <;> rfl
def blD (d : D) (M : List O) : Rs D := match d with
  | .bl t => .ok (.bl t) M
  | _ => .er
def lenD (d : D) (M : List O) : Rs D := match d with
  | .int n => if decide (0 ≤ n) && decide (n < big / 4) then .ok (.int n) M else .er
  | _ => .er
def strD (d : D) (M : List O) : Rs D := match d with
  | .str n => .ok (.str n) M
  | _ => .er
theorem e_oeq0 {f : Nat} : (ev C (.oeq a b f) env M).sat0 Q = (ev C a env M).sat0 fun x M1 => (ev C b env M1).sat0 fun y M2 => canE C M2 x y f = true ∧ (C.call f [x, y] [] M2).sat0 fun r M3 => (blD r M3).sat0 Q := by
  rw [ev]
  simp only [sat_bind0, sat_noX0]
  congr 1; funext x M1; congr 1; funext y M2
  by_cases h : canE C M2 x y f = true
  · simp only [h, if_true, true_and, sat_bind0, sat_noX0]; rfl
  · rw [if_neg h]; simp [h]; exact id
theorem e_olen0 {f : Nat} : (ev C (.olen a f) env M).sat0 Q = (ev C a env M).sat0 fun x M1 => canS C M1 x [95, 95, 108, 101, 110, 95, 95] f = true ∧ (C.call f [x] [] M1).sat0 fun r M3 => (lenD r M3).sat0 Q := by
  rw [ev]
  simp only [sat_bind0, sat_noX0]
  congr 1; funext x M1
  by_cases h : canS C M1 x [95, 95, 108, 101, 110, 95, 95] f = true
  · simp only [h, if_true, true_and, sat_bind0, sat_noX0]; rfl
  · rw [if_neg h]; simp [h]; exact id
theorem e_orep0 {f : Nat} : (ev C (.orep a f) env M).sat0 Q = (ev C a env M).sat0 fun x M1 => canS C M1 x [95, 95, 114, 101, 112, 114, 95, 95] f = true ∧ (C.call f [x] [] M1).sat0 fun r M3 => (strD r M3).sat0 Q := by
  rw [ev]
  simp only [sat_bind0, sat_noX0]
  congr 1; funext x M1
  by_cases h : canS C M1 x [95, 95, 114, 101, 112, 114, 95, 95] f = true
  · simp only [h, if_true, true_and, sat_bind0, sat_noX0]; rfl
  · rw [if_neg h]; simp [h]; exact id
theorem e_fld0 {f : Tx} : (ev C (.fld a f) env M).sat0 Q = (ev C a env M).sat0 fun x M1 => optSat (getF C M1 x f) fun d => Q d M1 := by
  rw [ev, sat_bind0]
  congr 1; funext x M1
  cases getF C M1 x f <;> rfl
theorem e_prp0 {f : Tx} {g : Nat} : (ev C (.prp a f g) env M).sat0 Q = (ev C a env M).sat0 fun x M1 => canP C M1 x f g = true ∧ (C.call g [x] [] M1).sat0 Q := by
  rw [ev, sat_bind0]
  congr 1; funext x M1
  by_cases h : canP C M1 x f g = true
  · simp only [h, if_true, true_and, sat_noX0]
  · rw [if_neg h]; simp [h]; exact id
theorem e_ccst0 {c : Nat} {f : Tx} : (ev C (.ccst c f) env M).sat0 Q = optSat C.cls[c]? fun cd => optSat (look cd.cst f) fun d => Q d M := by
  rw [ev]
  cases C.cls[c]? with
  | none => rfl
  | some cd =>
    simp only [opt_some]
    cases look cd.cst f <;> rfl
def gloD (d : D) (M : List O) : Rs D := match d with
  | .dct _ _ => .er
  | d => .ok d M
theorem e_glo0 {i : Nat} : (ev C (.glo i) env M).sat0 Q = optSat C.glo[i]? fun d => (gloD d M).sat0 Q := by
  rw [ev]
  cases C.glo[i]? with
  | none => rfl
  | some d => cases d <;> rfl
theorem gloD_int0 {i : Int} : (gloD (.int i) M).sat0 Q = Q (.int i) M := rfl
theorem gloD_str0 {i : Tx} : (gloD (.str i) M).sat0 Q = Q (.str i) M := rfl
theorem gloD_tup0 {i : List D} : (gloD (.tup i) M).sat0 Q = Q (.tup i) M := rfl
theorem e_dic0 {h : Bool} {ks : List Tx} {vs : List X} : (ev C (.dic h ks vs) env M).sat0 Q = (evs C vs env M).sat0 fun ws M1 => (mkD h (dputs (ks.map D.str) ws [] []) M1).sat0 Q := by rw [ev, sat_bind0, sat_noX0]
theorem mkD_F0 {p : List D × List D} : (mkD false p M).sat0 Q = Q (.dct p.1 p.2) M := rfl
def keyD (M : List O) (x y : D) : Rs D := match dicOf M x, isKey y with
    | some (ks, ds), true => (match dget ks ds y with
      | some d => .ok d M
      | none => .er)
    | _, _ => .er
theorem e_key0 {i : X} : (ev C (.key a i) env M).sat0 Q = (ev C a env M).sat0 fun x M1 => (ev C i env M1).sat0 fun y M2 => (keyD M2 x y).sat0 Q := by rw [ev]; simp only [sat_bind0, sat_noX0]; rfl
def fstD (p q : Tx) (y : D) (M : List O) : Rs D := match y with
    | .str s => if p.length + s.length + q.length ≤ lim then .ok (.str (p ++ s ++ q)) M else .er
    | _ => .er
theorem e_fst0 {p q : Tx} : (ev C (.fst p a q) env M).sat0 Q = (ev C a env M).sat0 fun x M1 => (bltn 3 [x] M1).sat0 fun y M2 => (fstD p q y M2).sat0 Q := by rw [ev]; simp only [sat_bind0, sat_noX0]; rfl
theorem e_bm0 {m : Nat} {es : List X} : (ev C (.bm m a es) env M).sat0 Q = (ev C a env M).sat0 fun x M1 => bmOk m x M1 = true ∧ (evs C es env M1).sat0 fun ds M2 => (bmeth m x ds M2).sat0 Q := by
  rw [ev, sat_bind0]
  congr 1; funext x M1
  by_cases h : bmOk m x M1 = true
  · simp only [h, if_true, true_and, sat_bind0, sat_noX0]
  · rw [if_neg h]; simp [h]; exact id
theorem e_cmp20 {o p : COp} : (ev C (.cmp2 o p a b c) env M).sat0 Q = (ev C a env M).sat0 fun x M1 => (ev C b env M1).sat0 fun y M2 => (cmpop o x y M2).sat0 fun z M3 => two z ((ev C c env M3).sat0 fun w M4 => (cmpop p y w M4).sat0 Q) (Q (.bl false) M3) := by
  rw [ev]
  simp only [sat_bind0, sat_noX0]
  congr 1; funext x M1; congr 1; funext y M2; congr 1; funext z M3
  cases z with
  | bl u => cases u <;> simp only [sat_bind0, sat_noX0] <;> rfl
  | _ => rfl
theorem e_blt0 {f : Nat} {es : List X} : (ev C (.blt f es) env M).sat0 Q = (evs C es env M).sat0 fun ds M1 => (bltn f ds M1).sat0 Q := by rw [ev, sat_bind0]
def mkxD (C : Ec) (c : Nat) (ds : List D) (M1 : List O) : Rs D := match C.exn[c]?, ds with
    | some (some (n, some f)), [d] => .ok (.exc c [f, [99, 111, 100, 101]] [d, .str n]) M1
    | some (some (n, none)), [] => .ok (.exc c [[99, 111, 100, 101]] [.str n]) M1
    | _, _ => .er
theorem e_mkx0 {n : Nat} {k : Bool} {es : List X} : (ev C (.mkx n k es) env M).sat0 Q = (evs C es env M).sat0 fun ds M1 => (mkxD C n ds M1).sat0 Q := by rw [ev, sat_bind0]; rfl
theorem e_lc0 {h : Bool} {p : Pt} {k : Ik} {its ifs : List X} : (ev C (.lc h p a k its ifs) env M).sat0 Q = (evs C its env M).sat0 fun ds M1 => optSat (walkOf k ds) fun items => (comp (ev C a) (evT C ifs) p items [] (wipeE env (pslots p)) M1).sat0 fun l M2 => (mkL h l M2).sat0 Q := by
  rw [ev, sat_bind0]
  congr 1
  funext ds M1
  cases walkOf k ds with
  | none => rfl
  | some items => simp only [sat_bind0, opt_some]
theorem es_nil0 {Q : List D → List O → Prop} : (evs C [] env M).sat0 Q = Q [] M := by rw [evs]; rfl
theorem es_cons0 {es : List X} {Q : List D → List O → Prop} : (evs C (a :: es) env M).sat0 Q = (ev C a env M).sat0 fun d M1 => (evs C es env M1).sat0 fun ds M2 => Q (d :: ds) M2 := by rw [evs]; simp only [sat_bind0, sat_ok0]
theorem et_nil0 {Q : Bool → List O → Prop} : (evT C [] env M).sat0 Q = Q true M := by rw [evT]; rfl
theorem et_cons0 {es : List X} {Q : Bool → List O → Prop} : (evT C (a :: es) env M).sat0 Q = (ev C a env M).sat0 fun d M1 => two d ((evT C es env M1).sat0 Q) (Q false M1) := by
  rw [evT, sat_bind0]
  congr 1
  funext d M1
  cases d with
  | bl u => cases u <;> rfl
  | _ => rfl
/-! statements -/
theorem x_ex0 {e : X} : (exec C (.ex e) env M).sat0 N R = (ev C e env M).sat0 fun _ M1 => N env M1 := by rw [exec]; cases ev C e env M <;> rfl
theorem x_asg0 {i : Nat} {e : X} : (exec C (.asg i e) env M).sat0 N R = (ev C e env M).sat0 fun d M1 => i < env.length ∧ N (env.set i (some d)) M1 := by
  rw [exec]
  cases ev C e env M with
  | er => rfl
  | ex _ _ => rfl
  | ok d M1 =>
    by_cases h : i < env.length
    · simp only [h, if_true, sat_ok0, true_and]; rfl
    · simp only [h, if_false, sat_ok0, false_and]; rfl
theorem x_asl0 {i : Nat} {e : X} : (exec C (.asl i e) env M).sat0 N R = (ev C e env M).sat0 fun d M1 => i < env.length ∧ N (env.set i (some d)) M1 := by
  rw [exec]
  cases ev C e env M with
  | er => rfl
  | ex _ _ => rfl
  | ok d M1 =>
    by_cases h : i < env.length
    · simp only [h, if_true, sat_ok0, true_and]; rfl
    · simp only [h, if_false, sat_ok0, false_and]; rfl
theorem x_ret0 {e : X} : (exec C (.ret e) env M).sat0 N R = (ev C e env M).sat0 R := by rw [exec]; cases ev C e env M <;> rfl
theorem x_iff0 {p q : List S} : (exec C (.iff t p q) env M).sat0 N R = (ev C t env M).sat0 fun d M1 => two d ((execs C p env M1).sat0 N R) ((execs C q env M1).sat0 N R) := by
  rw [exec]
  cases ev C t env M with
  | er => rfl
  | ex _ _ => rfl
  | ok d M1 =>
    cases d with
    | bl u => cases u <;> rfl
    | _ => rfl
def putD (M : List O) (o i d : D) : Rs Unit := match o, i with
  | .ref a, .int k => (match M[a]? with
    | some (.lst ds) => (match ixOf ds.length k with
      | some j => .ok () (M.set a (.lst (ds.set j d)))
      | none => .er)
    | _ => .er)
  | _, _ => .er
theorem x_put0 {o i e : X} : (exec C (.put o i e) env M).sat0 N R = (ev C e env M).sat0 fun d M1 => (ev C o env M1).sat0 fun x M2 => (ev C i env M2).sat0 fun y M3 => (putD M3 x y d).sat0 fun _ M4 => N env M4 := by
  rw [exec]
  cases ev C e env M with
  | er => rfl
  | ex _ _ => rfl
  | ok d M1 =>
    simp only [sat_ok0]
    cases ev C o env M1 with
    | er => rfl
    | ex _ _ => rfl
    | ok x M2 =>
      cases x with
      | ref a =>
        simp only [sat_ok0]
        cases ev C i env M2 with
        | er => rfl
        | ex _ _ => rfl
        | ok y M3 =>
          cases y with
          | int k =>
            simp only [sat_ok0, putD]
            cases M3[a]? with
            | none => rfl
            | some ob =>
              cases ob with
              | lst ds =>
                simp only
                cases ixOf ds.length k <;> rfl
              | _ => rfl
          | _ => rfl
      | _ =>
        simp only [sat_ok0, putD]
        cases ev C i env M2 <;> rfl
theorem x_for0 {p : Pt} {k : Ik} {its : List X} {b : List S} : (exec C (.for p k its b) env M).sat0 N R = (evs C its env M).sat0 fun ds M1 => optSat (walkOf k ds) fun items => (loop (execs C b) p items env M1).sat0 N R := by
  rw [exec]
  cases evs C its env M with
  | er => rfl
  | ex _ _ => rfl
  | ok ds M1 =>
    simp only [sat_ok0]
    cases walkOf k ds <;> rfl
theorem x_whl0 {b : List S} : (exec C (.whl t b) env M).sat0 N R = (whl (ev C t) (execs C b) C.fuel env M).sat0 N R := by rw [exec]
theorem x_never0 : (exec C .never env M).sat0 N R = False := by rw [exec]; rfl
def atrD (C : Ec) (M : List O) (x : D) (f : Tx) (d : D) : Rs Unit := match x with
  | .ref a => (match M[a]? with
        | some (.ins c ks ds) => (match C.cls[c]? with
          | some cd => if hasT cd.fld f && decide (ks.length < 900) then .ok () (M.set a (.ins c (putF ks f) (putFv ks ds f d))) else .er
          | none => .er)
        | _ => .er)
  | _ => .er
theorem x_atr0 {o e : X} {f : Tx} : (exec C (.atr o f e) env M).sat0 N R = (ev C e env M).sat0 fun d M1 => (ev C o env M1).sat0 fun x M2 => (atrD C M2 x f d).sat0 fun _ M3 => N env M3 := by
  rw [exec]
  cases ev C e env M with
  | er => rfl
  | ex _ _ => rfl
  | ok d M1 =>
    simp only [sat_ok0]
    cases ev C o env M1 with
    | er => rfl
    | ex _ _ => rfl
    | ok x M2 =>
      cases x with
      | ref a =>
        simp only [sat_ok0, atrD]
        cases M2[a]? with
        | none => rfl
        | some ob =>
          cases ob with
          | ins c ks ds =>
            simp only
            cases C.cls[c]? with
            | none => rfl
            | some cd =>
              simp only
              split <;> rfl
          | _ => rfl
      | _ => rfl
theorem x_una0 {is : List Nat} {e : X} : (exec C (.una is e) env M).sat0 N R = (ev C e env M).sat0 fun d M1 => optSat (setP (.tp is) d env) fun env1 => N env1 M1 := by
  rw [exec]
  cases ev C e env M with
  | er => rfl
  | ex _ _ => rfl
  | ok d M1 =>
    simp only [sat_ok0]
    cases setP (.tp is) d env <;> rfl
def putkD (M : List O) (x y d : D) : Rs Unit := match x, isKey y with
  | .ref a, true => (match M[a]? with
    | some (.dic ks ds) => if ks.length < lim then .ok () (M.set a (.dic (dputK ks y) (dputV ks ds y d))) else .er
    | _ => .er)
  | _, _ => .er
theorem putK_sat0 {x y d : D} {f : List O → Out} : (putK x y d M f).sat0 N R = (putkD M x y d).sat0 fun _ M1 => (f M1).sat0 N R := by
  unfold putK putkD
  cases x with
  | ref a =>
    cases isKey y with
    | false => rfl
    | true =>
      simp only
      cases M[a]? with
      | none => rfl
      | some ob =>
        cases ob with
        | dic ks ds =>
          simp only
          split <;> rfl
        | _ => rfl
  | _ => rfl
theorem x_putk0 {o k e : X} : (exec C (.putk o k e) env M).sat0 N R = (ev C e env M).sat0 fun d M1 => (ev C o env M1).sat0 fun x M2 => (ev C k env M2).sat0 fun y M3 => (putkD M3 x y d).sat0 fun _ M4 => N env M4 := by
  rw [exec]
  cases ev C e env M with
  | er => rfl
  | ex _ _ => rfl
  | ok d M1 =>
    simp only [sat_ok0]
    cases ev C o env M1 with
    | er => rfl
    | ex _ _ => rfl
    | ok x M2 =>
      simp only [sat_ok0]
      cases ev C k env M2 with
      | er => rfl
      | ex _ _ => rfl
      | ok y M3 => simp only [sat_ok0, putK_sat0]; rfl
theorem x_putk20 {o k p q a b : X} : (exec C (.putk2 o k p q a b) env M).sat0 N R = (ev C a env M).sat0 fun d M1 => (ev C b env M1).sat0 fun e M2 => (ev C o env M2).sat0 fun x M3 => (ev C k env M3).sat0 fun y M4 => (putkD M4 x y d).sat0 fun _ M5 => (ev C p env M5).sat0 fun z M6 => (ev C q env M6).sat0 fun w M7 => (putkD M7 z w e).sat0 fun _ M8 => N env M8 := by
  rw [exec]
  cases ev C a env M with
  | er => rfl
  | ex _ _ => rfl
  | ok d M1 =>
    simp only [sat_ok0]
    cases ev C b env M1 with
    | er => rfl
    | ex _ _ => rfl
    | ok e M2 =>
      simp only [sat_ok0]
      cases ev C o env M2 with
      | er => rfl
      | ex _ _ => rfl
      | ok x M3 =>
        simp only [sat_ok0]
        cases ev C k env M3 with
        | er => rfl
        | ex _ _ => rfl
        | ok y M4 =>
          simp only [sat_ok0, putK_sat0]
          congr 1; funext u M5
          cases ev C p env M5 with
          | er => rfl
          | ex _ _ => rfl
          | ok z M6 =>
            simp only [sat_ok0]
            cases ev C q env M6 with
            | er => rfl
            | ex _ _ => rfl
            | ok w M7 => simp only [sat_ok0, putK_sat0]; rfl
def unsE (i j : Nat) (d : D) (env : En) : Option En := match d with
  | .lst l => (match l.getLast? with
    | some x => if i < env.length && j < env.length then some ((env.set i (some (.lst l.dropLast))).set j (some x)) else none
    | none => none)
  | _ => none
theorem x_uns0 {i j : Nat} {e : X} : (exec C (.uns i j e) env M).sat0 N R = (ev C e env M).sat0 fun d M1 => optSat (unsE i j d env) fun env1 => N env1 M1 := by
  rw [exec]
  cases ev C e env M with
  | er => rfl
  | ex _ _ => rfl
  | ok d M1 =>
    simp only [sat_ok0]
    cases d with
    | lst l =>
      unfold unsE
      simp only
      cases l.getLast? with
      | none => rfl
      | some x =>
        simp only
        split <;> rfl
    | _ => rfl
theorem xs_nil0 : (execs C [] env M).sat0 N R = N env M := by rw [execs]; rfl
theorem xs_cons0 {s : S} {r : List S} : (execs C (s :: r) env M).sat0 N R = (exec C s env M).sat0 (fun env1 M1 => (execs C r env1 M1).sat0 N R) R := by
  rw [execs]
  cases exec C s env M <;> rfl
end
abbrev cN (P : Pg) (n : Nat) : Ec := mkC P (lvl P n)
theorem call_cN (P : Pg) (n : Nat) : (cN P n).call = callN P n := rfl
theorem callN_suc (P : Pg) (n f : Nat) (ds : List D) (kws : List (Tx × D)) (M : List O) : callN P (n + 1) f ds kws M = callOf P (cN P n) f ds kws M := rfl
theorem call_sat0 {P : Pg} {n f : Nat} {ds xs : List D} {kws : List (Tx × D)} {M M1 : List O} {fd : FD} {Q : D → List O → Prop} (h : P.fns[f]? = some fd) (hb : bindD fd ds kws M = .ok xs M1)
    (q : (execs (cN P n) fd.body (xs.map some ++ List.replicate (fd.ns - xs.length) none) M1).sat0 (fun _ M1 => Q .non M1) Q) : (callN P (n + 1) f ds kws M).sat0 Q := by
  rw [callN_suc, callOf, h]
  simp only [hb, Rs.bind]
  cases e : execs (cN P n) fd.body (xs.map some ++ List.replicate (fd.ns - xs.length) none) M1 with
  | nx env M1 => rw [e] at q; exact q
  | rt d M1 => rw [e] at q; exact q
  | bk env M1 => rw [e] at q; exact q
  | ct env M1 => rw [e] at q; exact q
  | er => rw [e] at q; exact q
  | ex _ _ => rw [e] at q; exact q
/-! loops by an invariant -/
theorem loop_sat0 {run : En → List O → Out} {p : Pt} {N : En → List O → Prop} {R : D → List O → Prop} (I : List D → En → List O → Prop) : ∀ (ds : List D) (env : En) (M : List O), I ds env M →
    (∀ d r env M, I (d :: r) env M → ∃ env1, setP p d env = some env1 ∧ (run env1 M).sat0 (fun env2 M2 => I r env2 M2) R) → (∀ env M, I [] env M → N env M) → (loop run p ds env M).sat0 N R
  | [], env, M, h, _, e => e env M h
  | d :: r, env, M, h, st, e => by
    obtain ⟨env1, h1, h2⟩ := st d r env M h
    rw [loop, h1]
    dsimp only
    cases q : run env1 M with
    | nx env2 M2 => rw [q] at h2; exact loop_sat0 I r env2 M2 h2 st e
    | rt d M2 => rw [q] at h2; exact h2
    | _ => rw [q] at h2; exact h2.elim
theorem loop_nil0 {run : En → List O → Out} {p : Pt} {N : En → List O → Prop} {R : D → List O → Prop} {env : En} {M : List O} : (loop run p [] env M).sat0 N R = N env M := rfl
theorem loop_cons0 {run : En → List O → Out} {p : Pt} {N : En → List O → Prop} {R : D → List O → Prop} {env : En} {M : List O} {d : D} {r : List D} (env1 : En) (h1 : setP p d env = some env1) (h : (run env1 M).sat0 (fun env2 M2 => (loop run p r env2 M2).sat0 N R) R) : (loop run p (d :: r) env M).sat0 N R := by
  rw [loop, h1]
  dsimp only
  cases q : run env1 M with
  | nx env2 M2 => rw [q] at h; exact h
  | rt d M2 => rw [q] at h; exact h
  | _ => rw [q] at h; exact h.elim
theorem comp_nil0 {elt : En → List O → Rs D} {tests : En → List O → Rs Bool} {p : Pt} {acc : List D} {env : En} {M : List O} {Q : List D → List O → Prop} : (comp elt tests p [] acc env M).sat0 Q = Q acc M := rfl
theorem comp_cons0 {elt : En → List O → Rs D} {tests : En → List O → Rs Bool} {p : Pt} {d : D} {ds acc : List D} {env : En} {M : List O} {Q : List D → List O → Prop} : (comp elt tests p (d :: ds) acc env M).sat0 Q = optSat (setP p d env) fun env1 => (tests env1 M).sat0 fun t M1 => if t then (elt env1 M1).sat0 fun v M2 => acc.length < lim ∧ (comp elt tests p ds (acc ++ [v]) env M2).sat0 Q else (comp elt tests p ds acc env M1).sat0 Q := by
  rw [comp]
  cases setP p d env with
  | none => rfl
  | some env1 =>
    simp only [opt_some]
    cases tests env1 M with
    | er => rfl
    | ex _ _ => rfl
    | ok t M1 =>
      simp only [sat_ok0]
      cases t with
      | false => rfl
      | true =>
        simp only [if_true]
        cases elt env1 M1 with
        | er => rfl
        | ex _ _ => rfl
        | ok v M2 =>
          simp only [sat_ok0]
          by_cases h : acc.length < lim
          · simp only [h, if_true, true_and]
          · simp only [h, if_false, false_and]; rfl
/-- a comprehension that keeps an invariant -/
theorem comp_sat0 {elt : En → List O → Rs D} {tests : En → List O → Rs Bool} {p : Pt} {env : En} {Q : List D → List O → Prop} (I : List D → List D → List O → Prop) : ∀ (ds acc : List D) (M : List O), I ds acc M →
    (∀ d r acc M, I (d :: r) acc M → acc.length < lim ∧ ∃ env1, setP p d env = some env1 ∧ (tests env1 M).sat0 fun t M1 => if t then (elt env1 M1).sat0 fun v M2 => I r (acc ++ [v]) M2 else I r acc M1) → (∀ acc M, I [] acc M → Q acc M) → (comp elt tests p ds acc env M).sat0 Q
  | [], acc, M, h, _, e => e acc M h
  | d :: r, acc, M, h, st, e => by
    obtain ⟨hl, env1, h1, h2⟩ := st d r acc M h
    rw [comp_cons0, h1, opt_some]
    refine sat_mono0 h2 fun t M1 h3 => ?_
    cases t with
    | false => exact comp_sat0 I r acc M1 h3 st e
    | true => exact sat_mono0 h3 fun v M2 h4 => ⟨hl, comp_sat0 I r (acc ++ [v]) M2 h4 st e⟩
/-! values -/
section
variable {M : List O} {i j : Int} {Q : D → List O → Prop}
theorem b_add0 : (binop .add (.int i) (.int j) M).sat0 Q = Q (.int (i + j)) M := rfl
theorem b_sub0 : (binop .sub (.int i) (.int j) M).sat0 Q = Q (.int (i - j)) M := rfl
theorem b_mul0 : (binop .mul (.int i) (.int j) M).sat0 Q = (((-big < i ∧ i < big) ∨ (-big < j ∧ j < big)) ∧ Q (.int (i * j)) M) := by
  unfold binop
  simp only [Bool.or_eq_true, Bool.and_eq_true, decide_eq_true_eq]
  by_cases h : (-big < i ∧ i < big) ∨ (-big < j ∧ j < big)
  · simp only [h, if_true, true_and, sat_ok0]
  · simp only [h, if_false, false_and]; rfl
theorem b_mod0 : (binop .mod (.int i) (.int j) M).sat0 Q = (0 < j ∧ Q (.int (i % j)) M) := by
  unfold binop
  by_cases h : 0 < j
  · simp only [h, if_true, true_and, sat_ok0]
  · simp only [h, if_false, false_and]; rfl
theorem b_div0 : (binop .fdiv (.int i) (.int j) M).sat0 Q = ((0 < j ∧ j < 2 ^ 8000) ∧ Q (.int (i / j)) M) := by
  unfold binop
  simp only [Bool.and_eq_true, decide_eq_true_eq]
  by_cases h : 0 < j ∧ j < 2 ^ 8000
  · simp only [h, if_true, true_and, sat_ok0, and_self]
  · simp only [h, if_false, false_and]; rfl
theorem c_lt0 : (cmpop .lt (.int i) (.int j) M).sat0 Q = Q (.bl (decide (i < j))) M := rfl
theorem c_le0 : (cmpop .le (.int i) (.int j) M).sat0 Q = Q (.bl (decide (i ≤ j))) M := rfl
theorem c_gt0 : (cmpop .gt (.int i) (.int j) M).sat0 Q = Q (.bl (decide (j < i))) M := rfl
theorem c_ge0 : (cmpop .ge (.int i) (.int j) M).sat0 Q = Q (.bl (decide (j ≤ i))) M := rfl
theorem b_app0 {a b : List D} : (binop .add (.lst a) (.lst b) M).sat0 Q = (a.length + b.length ≤ lim ∧ Q (.lst (a ++ b)) M) := by
  unfold binop
  by_cases h : a.length + b.length ≤ lim
  · simp only [h, if_true, true_and, sat_ok0]
  · simp only [h, if_false, false_and]; rfl
theorem b_txt0 {a b : Tx} : (binop .add (.str a) (.str b) M).sat0 Q = (a.length + b.length ≤ lim ∧ Q (.str (a ++ b)) M) := by
  unfold binop
  by_cases h : a.length + b.length ≤ lim
  · simp only [h, if_true, true_and, sat_ok0]
  · simp only [h, if_false, false_and]; rfl
theorem f_int0 : (bltn 1 [.int i] M).sat0 Q = Q (.int i) M := rfl
theorem f_len_ref0 {a : Nat} {l : List D} (h : M[a]? = some (.lst l)) : (bltn 0 [.ref a] M).sat0 Q = Q (.int l.length) M := by unfold bltn bLen itemsOf seen; simp only [h]; rfl
theorem f_len_lst0 {l : List D} : (bltn 0 [.lst l] M).sat0 Q = Q (.int l.length) M := rfl
theorem f_len_tup0 {l : List D} : (bltn 0 [.tup l] M).sat0 Q = Q (.int l.length) M := rfl
/-- an item at a place -/
theorem ix_nat {n : Nat} {k : Int} (j : Nat) (h : k = (j : Int)) (h2 : j < n) : ixOf n k = some j := by
  subst h
  unfold ixOf
  rw [if_pos (by omega), if_pos (by simpa using h2)]
  simp
theorem i_lst0 {l : List D} {d : D} (j : Nat) (h : i = (j : Int)) (h2 : l[j]? = some d) (q : Q d M) : (itemD M (.lst l) (.int i)).sat0 Q := by
  unfold itemD itD itL itemsOf seen
  simp only [ix_nat j h (List.getElem?_eq_some_iff.mp h2).1, h2]
  exact q
theorem i_tup0 {l : List D} {d : D} (j : Nat) (h : i = (j : Int)) (h2 : l[j]? = some d) (q : Q d M) : (itemD M (.tup l) (.int i)).sat0 Q := by
  unfold itemD itD itL itemsOf seen
  simp only [ix_nat j h (List.getElem?_eq_some_iff.mp h2).1, h2]
  exact q
theorem i_ref0 {a : Nat} {l : List D} {d : D} (h0 : M[a]? = some (.lst l)) (j : Nat) (h : i = (j : Int)) (h2 : l[j]? = some d) : (itemD M (.ref a) (.int i)).sat0 Q = Q d M := by
  unfold itemD itD itL itemsOf seen
  simp only [h0, ix_nat j h (List.getElem?_eq_some_iff.mp h2).1, h2]
  rfl
theorem p_ref0 {a : Nat} {l : List D} {d : D} (h0 : M[a]? = some (.lst l)) (j : Nat) (h : i = (j : Int)) (h2 : j < l.length) {Q : Unit → List O → Prop} : (putD M (.ref a) (.int i) d).sat0 Q = Q () (M.set a (.lst (l.set j d))) := by
  unfold putD
  simp only [h0, ix_nat j h h2]
  rfl
end

/-! ### the same, closed to evaluation -/
def Rs.sat {α : Type} (r : Rs α) (Q : α → List O → Prop) : Prop := ∃ a M, r = .ok a M ∧ Q a M
def Out.sat (o : Out) (N : En → List O → Prop) (R : D → List O → Prop) : Prop := (∃ env M, o = .nx env M ∧ N env M) ∨ ∃ d M, o = .rt d M ∧ R d M
theorem sat_def {α : Type} {r : Rs α} {Q : α → List O → Prop} : r.sat Q = r.sat0 Q := propext ⟨fun h => by
    obtain ⟨a, M, e, h⟩ := h
    rw [e]
    exact h, fun h => by
    cases r with
    | ok a M => exact ⟨a, M, rfl, h⟩
    | er => exact h.elim
    | ex _ _ => exact h.elim⟩
theorem osat_def {o : Out} {N : En → List O → Prop} {R : D → List O → Prop} : o.sat N R = o.sat0 N R := propext ⟨fun h => by
    obtain h | h := h
    · obtain ⟨a, M, e, h⟩ := h
      rw [e]
      exact h
    · obtain ⟨a, M, e, h⟩ := h
      rw [e]
      exact h, fun h => by
    cases o with
    | nx env M => exact .inl ⟨env, M, rfl, h⟩
    | rt d M => exact .inr ⟨d, M, rfl, h⟩
    | _ => exact h.elim⟩
theorem sat_congr {α : Type} {r r' : Rs α} (h : r = r') (Q : α → List O → Prop) : r.sat Q = r'.sat Q := by
  simp only [sat_def, osat_def]
  first | exact sat_congr0 | (apply sat_congr0 <;> assumption)
theorem sat_ok {α : Type} {a : α} {M : List O} {Q : α → List O → Prop} : (Rs.ok a M).sat Q = Q a M := by
  simp only [sat_def, osat_def]
  first | exact sat_ok0 | (apply sat_ok0 <;> assumption)
theorem sat_bind {α β : Type} {r : Rs α} {f : α → List O → Rs β} {Q : β → List O → Prop} : (r.bind f).sat Q = r.sat fun a M => (f a M).sat Q := by
  simp only [sat_def, osat_def]
  first | exact sat_bind0 | (apply sat_bind0 <;> assumption)
theorem sat_mono {α : Type} {r : Rs α} {Q Q' : α → List O → Prop} (h : r.sat Q) (q : ∀ a M, Q a M → Q' a M) : r.sat Q' := by
  obtain ⟨a, M, e, h⟩ := h
  exact ⟨a, M, e, q a M h⟩
theorem sat_eq {α : Type} {r : Rs α} {Q : α → List O → Prop} (h : r.sat Q) : ∃ a M, r = .ok a M ∧ Q a M := h
theorem osat_congr {o o' : Out} (h : o = o') (N : En → List O → Prop) (R : D → List O → Prop) : o.sat N R = o'.sat N R := by
  simp only [sat_def, osat_def]
  first | exact osat_congr0 | (apply osat_congr0 <;> assumption)
theorem osat_mono {o : Out} {N N' : En → List O → Prop} {R R' : D → List O → Prop} (h : o.sat N R) (n : ∀ a M, N a M → N' a M) (r : ∀ a M, R a M → R' a M) : o.sat N' R' := by
  obtain h | h := h
  · obtain ⟨a, M, e, h⟩ := h
    exact .inl ⟨a, M, e, n _ _ h⟩
  · obtain ⟨a, M, e, h⟩ := h
    exact .inr ⟨a, M, e, r _ _ h⟩
section
variable {C : Ec} {env : En} {M : List O} {a b c t : X} {Q : D → List O → Prop} {N : En → List O → Prop} {R : D → List O → Prop}
theorem e_var {i : Nat} : (ev C (.var i) env M).sat Q = (match env[i]? with | some (some d) => Q d M | _ => False) := by
  simp only [sat_def, osat_def]
  first | exact e_var0 | (apply e_var0 <;> assumption)
theorem e_cst {d : D} : (ev C (.cst d) env M).sat Q = Q d M := by
  simp only [sat_def, osat_def]
  first | exact e_cst0 | (apply e_cst0 <;> assumption)
theorem e_bin {o : BOp} : (ev C (.bin o a b) env M).sat Q = (ev C a env M).sat fun x M1 => (ev C b env M1).sat fun y M2 => (binop o x y M2).sat Q := by
  simp only [sat_def, osat_def]
  first | exact e_bin0 | (apply e_bin0 <;> assumption)
theorem e_cmp {o : COp} : (ev C (.cmp o a b) env M).sat Q = (ev C a env M).sat fun x M1 => (ev C b env M1).sat fun y M2 => (cmpop o x y M2).sat Q := by
  simp only [sat_def, osat_def]
  first | exact e_cmp0 | (apply e_cmp0 <;> assumption)
theorem e_and : (ev C (.and a b) env M).sat Q = (ev C a env M).sat fun x M1 => two x ((ev C b env M1).sat Q) (Q (.bl false) M1) := by
  simp only [sat_def, osat_def]
  first | exact e_and0 | (apply e_and0 <;> assumption)
theorem e_or : (ev C (.or a b) env M).sat Q = (ev C a env M).sat fun x M1 => two x (Q (.bl true) M1) ((ev C b env M1).sat Q) := by
  simp only [sat_def, osat_def]
  first | exact e_or0 | (apply e_or0 <;> assumption)
theorem e_ife : (ev C (.ife t a b) env M).sat Q = (ev C t env M).sat fun x M1 => two x ((ev C a env M1).sat Q) ((ev C b env M1).sat Q) := by
  simp only [sat_def, osat_def]
  first | exact e_ife0 | (apply e_ife0 <;> assumption)
theorem e_not : (ev C (.not a) env M).sat Q = (ev C a env M).sat fun x M1 => (notD x M1).sat Q := by
  simp only [sat_def, osat_def]
  first | exact e_not0 | (apply e_not0 <;> assumption)
theorem notD_bl {u : Bool} : (notD (.bl u) M).sat Q = Q (.bl (!u)) M := by
  simp only [sat_def, osat_def]
  first | exact notD_bl0 | (apply notD_bl0 <;> assumption)
theorem e_neg : (ev C (.neg a) env M).sat Q = (ev C a env M).sat fun x M1 => (negD x M1).sat Q := by
  simp only [sat_def, osat_def]
  first | exact e_neg0 | (apply e_neg0 <;> assumption)
theorem negD_int {i : Int} : (negD (.int i) M).sat Q = Q (.int (-i)) M := by
  simp only [sat_def, osat_def]
  first | exact negD_int0 | (apply negD_int0 <;> assumption)
theorem e_tup {es : List X} : (ev C (.tup es) env M).sat Q = (evs C es env M).sat fun ds M1 => ds.length ≤ lim ∧ Q (.tup ds) M1 := by
  simp only [sat_def, osat_def]
  first | exact e_tup0 | (apply e_tup0 <;> assumption)
theorem e_lst {h : Bool} {es : List X} : (ev C (.lst h es) env M).sat Q = (evs C es env M).sat fun ds M1 => ds.length ≤ lim ∧ (mkL h ds M1).sat Q := by
  simp only [sat_def, osat_def]
  first | exact e_lst0 | (apply e_lst0 <;> assumption)
theorem mk_F {l : List D} : (mkL false l M).sat Q = Q (.lst l) M := by
  simp only [sat_def, osat_def]
  first | exact mk_F0 | (apply mk_F0 <;> assumption)
theorem mk_T {l : List D} : (mkL true l M).sat Q = Q (.ref M.length) (M ++ [.lst l]) := by
  simp only [sat_def, osat_def]
  first | exact mk_T0 | (apply mk_T0 <;> assumption)
theorem e_item {i : X} : (ev C (.item a i) env M).sat Q = (ev C a env M).sat fun x M1 => (ev C i env M1).sat fun y M2 => (itemD M2 x y).sat Q := by
  simp only [sat_def, osat_def]
  first | exact e_item0 | (apply e_item0 <;> assumption)
theorem e_slc {lo hi : List X} : (ev C (.slc a lo hi) env M).sat Q = (ev C a env M).sat fun x M1 => (evs C lo env M1).sat fun l M2 => (evs C hi env M2).sat fun r M3 => (slcD M3 x l r).sat Q := by
  simp only [sat_def, osat_def]
  first | exact e_slc0 | (apply e_slc0 <;> assumption)
theorem e_attr {f : Tx} : (ev C (.attr a f) env M).sat Q = (ev C a env M).sat fun x M1 => (attrD M1 x f).sat Q := by
  simp only [sat_def, osat_def]
  first | exact e_attr0 | (apply e_attr0 <;> assumption)
theorem e_isi {c : Cl} : (ev C (.isi a c) env M).sat Q = (ev C a env M).sat fun x M1 => (isiD C M1 x c).sat Q := by
  simp only [sat_def, osat_def]
  first | exact e_isi0 | (apply e_isi0 <;> assumption)
theorem e_isis {c : List Cl} : (ev C (.isis a c) env M).sat Q = (ev C a env M).sat fun x M1 => (isisD C M1 x c).sat Q := by
  simp only [sat_def, osat_def]
  first | exact e_isis0 | (apply e_isis0 <;> assumption)
theorem e_call {f : Nat} {es st vs : List X} {ks : List Tx} : (ev C (.call f es st ks vs) env M).sat Q = (evs C es env M).sat fun ds M1 => (evs C st env M1).sat fun ss M2 => (evs C vs env M2).sat fun ws M3 => optSat (starOf ss) fun more => (C.call f (ds ++ more) (ks.zip ws) M3).sat Q := by
  simp only [sat_def, osat_def]
  first | exact e_call0 | (apply e_call0 <;> assumption)
theorem e_mk {c : Nat} {fz : Bool} {es st vs : List X} {ks : List Tx} : (ev C (.mk c fz es st ks vs) env M).sat Q = (evs C es env M).sat fun ds M1 => (evs C st env M1).sat fun ss M2 => (evs C vs env M2).sat fun ws M3 => optSat (starOf ss) fun more => optSat C.cls[c]? fun cd => (C.call cd.init (.ref M3.length :: (ds ++ more)) (ks.zip ws) (M3 ++ [.ins c [] []])).sat fun r M4 => (made fz M3.length r M4).sat Q := by
  simp only [sat_def, osat_def]
  first | exact e_mk0 | (apply e_mk0 <;> assumption)
theorem e_meth {m : Tx} {f : Nat} {es st vs : List X} {ks : List Tx} : (ev C (.meth a m f es st ks vs) env M).sat Q = (ev C a env M).sat fun x M0 => canM C M0 x m f = true ∧ (evs C es env M0).sat fun ds M1 => (evs C st env M1).sat fun ss M2 => (evs C vs env M2).sat fun ws M3 => optSat (starOf ss) fun more => (C.call f (x :: (ds ++ more)) (ks.zip ws) M3).sat Q := by
  simp only [sat_def, osat_def]
  first | exact e_meth0 | (apply e_meth0 <;> assumption)
theorem e_isc {n : Nat} : (ev C (.isc a n) env M).sat Q = (ev C a env M).sat fun x M1 => optSat (isC C M1 x n) fun b => Q (.bl b) M1 := by
  simp only [sat_def, osat_def]
  first | exact e_isc0 | (apply e_isc0 <;> assumption)
theorem e_oeq {f : Nat} : (ev C (.oeq a b f) env M).sat Q = (ev C a env M).sat fun x M1 => (ev C b env M1).sat fun y M2 => canE C M2 x y f = true ∧ (C.call f [x, y] [] M2).sat fun r M3 => (blD r M3).sat Q := by
  simp only [sat_def, osat_def]
  first | exact e_oeq0 | (apply e_oeq0 <;> assumption)
theorem e_olen {f : Nat} : (ev C (.olen a f) env M).sat Q = (ev C a env M).sat fun x M1 => canS C M1 x [95, 95, 108, 101, 110, 95, 95] f = true ∧ (C.call f [x] [] M1).sat fun r M3 => (lenD r M3).sat Q := by
  simp only [sat_def, osat_def]
  first | exact e_olen0 | (apply e_olen0 <;> assumption)
theorem e_orep {f : Nat} : (ev C (.orep a f) env M).sat Q = (ev C a env M).sat fun x M1 => canS C M1 x [95, 95, 114, 101, 112, 114, 95, 95] f = true ∧ (C.call f [x] [] M1).sat fun r M3 => (strD r M3).sat Q := by
  simp only [sat_def, osat_def]
  first | exact e_orep0 | (apply e_orep0 <;> assumption)
theorem e_fld {f : Tx} : (ev C (.fld a f) env M).sat Q = (ev C a env M).sat fun x M1 => optSat (getF C M1 x f) fun d => Q d M1 := by
  simp only [sat_def, osat_def]
  first | exact e_fld0 | (apply e_fld0 <;> assumption)
theorem e_prp {f : Tx} {g : Nat} : (ev C (.prp a f g) env M).sat Q = (ev C a env M).sat fun x M1 => canP C M1 x f g = true ∧ (C.call g [x] [] M1).sat Q := by
  simp only [sat_def, osat_def]
  first | exact e_prp0 | (apply e_prp0 <;> assumption)
theorem e_ccst {c : Nat} {f : Tx} : (ev C (.ccst c f) env M).sat Q = optSat C.cls[c]? fun cd => optSat (look cd.cst f) fun d => Q d M := by
  simp only [sat_def, osat_def]
  first | exact e_ccst0 | (apply e_ccst0 <;> assumption)
theorem e_glo {i : Nat} : (ev C (.glo i) env M).sat Q = optSat C.glo[i]? fun d => (gloD d M).sat Q := by
  simp only [sat_def, osat_def]
  exact e_glo0
theorem gloD_int {i : Int} : (gloD (.int i) M).sat Q = Q (.int i) M := by
  simp only [sat_def, osat_def]
  exact gloD_int0
theorem gloD_str {i : Tx} : (gloD (.str i) M).sat Q = Q (.str i) M := by
  simp only [sat_def, osat_def]
  exact gloD_str0
theorem gloD_tup {i : List D} : (gloD (.tup i) M).sat Q = Q (.tup i) M := by
  simp only [sat_def, osat_def]
  exact gloD_tup0
theorem e_dic {h : Bool} {ks : List Tx} {vs : List X} : (ev C (.dic h ks vs) env M).sat Q = (evs C vs env M).sat fun ws M1 => (mkD h (dputs (ks.map D.str) ws [] []) M1).sat Q := by
  simp only [sat_def, osat_def]
  first | exact e_dic0 | (apply e_dic0 <;> assumption)
theorem mkD_F {p : List D × List D} : (mkD false p M).sat Q = Q (.dct p.1 p.2) M := by
  simp only [sat_def, osat_def]
  first | exact mkD_F0 | (apply mkD_F0 <;> assumption)
theorem e_key {i : X} : (ev C (.key a i) env M).sat Q = (ev C a env M).sat fun x M1 => (ev C i env M1).sat fun y M2 => (keyD M2 x y).sat Q := by
  simp only [sat_def, osat_def]
  first | exact e_key0 | (apply e_key0 <;> assumption)
theorem e_fst {p q : Tx} : (ev C (.fst p a q) env M).sat Q = (ev C a env M).sat fun x M1 => (bltn 3 [x] M1).sat fun y M2 => (fstD p q y M2).sat Q := by
  simp only [sat_def, osat_def]
  first | exact e_fst0 | (apply e_fst0 <;> assumption)
theorem e_bm {m : Nat} {es : List X} : (ev C (.bm m a es) env M).sat Q = (ev C a env M).sat fun x M1 => bmOk m x M1 = true ∧ (evs C es env M1).sat fun ds M2 => (bmeth m x ds M2).sat Q := by
  simp only [sat_def, osat_def]
  first | exact e_bm0 | (apply e_bm0 <;> assumption)
theorem e_cmp2 {o p : COp} : (ev C (.cmp2 o p a b c) env M).sat Q = (ev C a env M).sat fun x M1 => (ev C b env M1).sat fun y M2 => (cmpop o x y M2).sat fun z M3 => two z ((ev C c env M3).sat fun w M4 => (cmpop p y w M4).sat Q) (Q (.bl false) M3) := by
  simp only [sat_def, osat_def]
  first | exact e_cmp20 | (apply e_cmp20 <;> assumption)
theorem e_blt {f : Nat} {es : List X} : (ev C (.blt f es) env M).sat Q = (evs C es env M).sat fun ds M1 => (bltn f ds M1).sat Q := by
  simp only [sat_def, osat_def]
  first | exact e_blt0 | (apply e_blt0 <;> assumption)
theorem e_mkx {n : Nat} {k : Bool} {es : List X} : (ev C (.mkx n k es) env M).sat Q = (evs C es env M).sat fun ds M1 => (mkxD C n ds M1).sat Q := by
  simp only [sat_def, osat_def]
  first | exact e_mkx0 | (apply e_mkx0 <;> assumption)
theorem e_lc {h : Bool} {p : Pt} {k : Ik} {its ifs : List X} : (ev C (.lc h p a k its ifs) env M).sat Q = (evs C its env M).sat fun ds M1 => optSat (walkOf k ds) fun items => (comp (ev C a) (evT C ifs) p items [] (wipeE env (pslots p)) M1).sat fun l M2 => (mkL h l M2).sat Q := by
  simp only [sat_def, osat_def]
  first | exact e_lc0 | (apply e_lc0 <;> assumption)
theorem es_nil {Q : List D → List O → Prop} : (evs C [] env M).sat Q = Q [] M := by
  simp only [sat_def, osat_def]
  first | exact es_nil0 | (apply es_nil0 <;> assumption)
theorem es_cons {es : List X} {Q : List D → List O → Prop} : (evs C (a :: es) env M).sat Q = (ev C a env M).sat fun d M1 => (evs C es env M1).sat fun ds M2 => Q (d :: ds) M2 := by
  simp only [sat_def, osat_def]
  first | exact es_cons0 | (apply es_cons0 <;> assumption)
theorem et_nil {Q : Bool → List O → Prop} : (evT C [] env M).sat Q = Q true M := by
  simp only [sat_def, osat_def]
  first | exact et_nil0 | (apply et_nil0 <;> assumption)
theorem et_cons {es : List X} {Q : Bool → List O → Prop} : (evT C (a :: es) env M).sat Q = (ev C a env M).sat fun d M1 => two d ((evT C es env M1).sat Q) (Q false M1) := by
  simp only [sat_def, osat_def]
  first | exact et_cons0 | (apply et_cons0 <;> assumption)
theorem x_ex {e : X} : (exec C (.ex e) env M).sat N R = (ev C e env M).sat fun _ M1 => N env M1 := by
  simp only [sat_def, osat_def]
  first | exact x_ex0 | (apply x_ex0 <;> assumption)
theorem x_asg {i : Nat} {e : X} : (exec C (.asg i e) env M).sat N R = (ev C e env M).sat fun d M1 => i < env.length ∧ N (env.set i (some d)) M1 := by
  simp only [sat_def, osat_def]
  first | exact x_asg0 | (apply x_asg0 <;> assumption)
theorem x_asl {i : Nat} {e : X} : (exec C (.asl i e) env M).sat N R = (ev C e env M).sat fun d M1 => i < env.length ∧ N (env.set i (some d)) M1 := by
  simp only [sat_def, osat_def]
  first | exact x_asl0 | (apply x_asl0 <;> assumption)
theorem x_ret {e : X} : (exec C (.ret e) env M).sat N R = (ev C e env M).sat R := by
  simp only [sat_def, osat_def]
  first | exact x_ret0 | (apply x_ret0 <;> assumption)
theorem x_iff {p q : List S} : (exec C (.iff t p q) env M).sat N R = (ev C t env M).sat fun d M1 => two d ((execs C p env M1).sat N R) ((execs C q env M1).sat N R) := by
  simp only [sat_def, osat_def]
  first | exact x_iff0 | (apply x_iff0 <;> assumption)
theorem x_put {o i e : X} : (exec C (.put o i e) env M).sat N R = (ev C e env M).sat fun d M1 => (ev C o env M1).sat fun x M2 => (ev C i env M2).sat fun y M3 => (putD M3 x y d).sat fun _ M4 => N env M4 := by
  simp only [sat_def, osat_def]
  first | exact x_put0 | (apply x_put0 <;> assumption)
theorem x_for {p : Pt} {k : Ik} {its : List X} {b : List S} : (exec C (.for p k its b) env M).sat N R = (evs C its env M).sat fun ds M1 => optSat (walkOf k ds) fun items => (loop (execs C b) p items env M1).sat N R := by
  simp only [sat_def, osat_def]
  first | exact x_for0 | (apply x_for0 <;> assumption)
theorem x_whl {b : List S} : (exec C (.whl t b) env M).sat N R = (whl (ev C t) (execs C b) C.fuel env M).sat N R := by
  simp only [sat_def, osat_def]
  first | exact x_whl0 | (apply x_whl0 <;> assumption)
theorem x_never : (exec C .never env M).sat N R = False := by
  simp only [sat_def, osat_def]
  first | exact x_never0 | (apply x_never0 <;> assumption)
theorem x_atr {o e : X} {f : Tx} : (exec C (.atr o f e) env M).sat N R = (ev C e env M).sat fun d M1 => (ev C o env M1).sat fun x M2 => (atrD C M2 x f d).sat fun _ M3 => N env M3 := by
  simp only [sat_def, osat_def]
  first | exact x_atr0 | (apply x_atr0 <;> assumption)
theorem x_una {is : List Nat} {e : X} : (exec C (.una is e) env M).sat N R = (ev C e env M).sat fun d M1 => optSat (setP (.tp is) d env) fun env1 => N env1 M1 := by
  simp only [sat_def, osat_def]
  first | exact x_una0 | (apply x_una0 <;> assumption)
theorem putK_sat {x y d : D} {f : List O → Out} : (putK x y d M f).sat N R = (putkD M x y d).sat fun _ M1 => (f M1).sat N R := by
  simp only [sat_def, osat_def]
  first | exact putK_sat0 | (apply putK_sat0 <;> assumption)
theorem x_putk {o k e : X} : (exec C (.putk o k e) env M).sat N R = (ev C e env M).sat fun d M1 => (ev C o env M1).sat fun x M2 => (ev C k env M2).sat fun y M3 => (putkD M3 x y d).sat fun _ M4 => N env M4 := by
  simp only [sat_def, osat_def]
  first | exact x_putk0 | (apply x_putk0 <;> assumption)
theorem x_putk2 {o k p q a b : X} : (exec C (.putk2 o k p q a b) env M).sat N R = (ev C a env M).sat fun d M1 => (ev C b env M1).sat fun e M2 => (ev C o env M2).sat fun x M3 => (ev C k env M3).sat fun y M4 => (putkD M4 x y d).sat fun _ M5 => (ev C p env M5).sat fun z M6 => (ev C q env M6).sat fun w M7 => (putkD M7 z w e).sat fun _ M8 => N env M8 := by
  simp only [sat_def, osat_def]
  first | exact x_putk20 | (apply x_putk20 <;> assumption)
theorem x_uns {i j : Nat} {e : X} : (exec C (.uns i j e) env M).sat N R = (ev C e env M).sat fun d M1 => optSat (unsE i j d env) fun env1 => N env1 M1 := by
  simp only [sat_def, osat_def]
  first | exact x_uns0 | (apply x_uns0 <;> assumption)
theorem xs_nil : (execs C [] env M).sat N R = N env M := by
  simp only [sat_def, osat_def]
  first | exact xs_nil0 | (apply xs_nil0 <;> assumption)
theorem xs_cons {s : S} {r : List S} : (execs C (s :: r) env M).sat N R = (exec C s env M).sat (fun env1 M1 => (execs C r env1 M1).sat N R) R := by
  simp only [sat_def, osat_def]
  first | exact xs_cons0 | (apply xs_cons0 <;> assumption)
end
theorem call_sat {P : Pg} {n f : Nat} {ds xs : List D} {kws : List (Tx × D)} {M M1 : List O} {fd : FD} {Q : D → List O → Prop} (h : P.fns[f]? = some fd) (hb : bindD fd ds kws M = .ok xs M1)
    (q : (execs (cN P n) fd.body (xs.map some ++ List.replicate (fd.ns - xs.length) none) M1).sat (fun _ M1 => Q .non M1) Q) : (callN P (n + 1) f ds kws M).sat Q := by
  simp only [sat_def, osat_def] at *
  exact call_sat0 h hb q
theorem loop_sat {run : En → List O → Out} {p : Pt} {N : En → List O → Prop} {R : D → List O → Prop} (I : List D → En → List O → Prop) : ∀ (ds : List D) (env : En) (M : List O), I ds env M →
    (∀ d r env M, I (d :: r) env M → ∃ env1, setP p d env = some env1 ∧ (run env1 M).sat (fun env2 M2 => I r env2 M2) R) → (∀ env M, I [] env M → N env M) → (loop run p ds env M).sat N R := fun ds env M h st e => by
  simp only [sat_def, osat_def] at *
  exact loop_sat0 I ds env M h st e
theorem loop_nil {run : En → List O → Out} {p : Pt} {N : En → List O → Prop} {R : D → List O → Prop} {env : En} {M : List O} : (loop run p [] env M).sat N R = N env M := by
  simp only [sat_def, osat_def]
  first | exact loop_nil0 | (apply loop_nil0 <;> assumption)
theorem loop_cons {run : En → List O → Out} {p : Pt} {N : En → List O → Prop} {R : D → List O → Prop} {env : En} {M : List O} {d : D} {r : List D} (env1 : En) (h1 : setP p d env = some env1) (h : (run env1 M).sat (fun env2 M2 => (loop run p r env2 M2).sat N R) R) : (loop run p (d :: r) env M).sat N R := by
  simp only [sat_def, osat_def] at *
  exact loop_cons0 env1 h1 h
theorem comp_nil {elt : En → List O → Rs D} {tests : En → List O → Rs Bool} {p : Pt} {acc : List D} {env : En} {M : List O} {Q : List D → List O → Prop} : (comp elt tests p [] acc env M).sat Q = Q acc M := by
  simp only [sat_def, osat_def]
  first | exact comp_nil0 | (apply comp_nil0 <;> assumption)
theorem comp_cons {elt : En → List O → Rs D} {tests : En → List O → Rs Bool} {p : Pt} {d : D} {ds acc : List D} {env : En} {M : List O} {Q : List D → List O → Prop} : (comp elt tests p (d :: ds) acc env M).sat Q = optSat (setP p d env) fun env1 => (tests env1 M).sat fun t M1 => if t then (elt env1 M1).sat fun v M2 => acc.length < lim ∧ (comp elt tests p ds (acc ++ [v]) env M2).sat Q else (comp elt tests p ds acc env M1).sat Q := by
  simp only [sat_def, osat_def]
  first | exact comp_cons0 | (apply comp_cons0 <;> assumption)
theorem comp_sat {elt : En → List O → Rs D} {tests : En → List O → Rs Bool} {p : Pt} {env : En} {Q : List D → List O → Prop} (I : List D → List D → List O → Prop) : ∀ (ds acc : List D) (M : List O), I ds acc M →
    (∀ d r acc M, I (d :: r) acc M → acc.length < lim ∧ ∃ env1, setP p d env = some env1 ∧ (tests env1 M).sat fun t M1 => if t then (elt env1 M1).sat fun v M2 => I r (acc ++ [v]) M2 else I r acc M1) → (∀ acc M, I [] acc M → Q acc M) → (comp elt tests p ds acc env M).sat Q := fun ds acc M h st e => by
  simp only [sat_def, osat_def] at *
  exact comp_sat0 I ds acc M h st e
section
variable {M : List O} {i j : Int} {Q : D → List O → Prop}
theorem b_add : (binop .add (.int i) (.int j) M).sat Q = Q (.int (i + j)) M := by
  simp only [sat_def, osat_def]
  first | exact b_add0 | (apply b_add0 <;> assumption)
theorem b_sub : (binop .sub (.int i) (.int j) M).sat Q = Q (.int (i - j)) M := by
  simp only [sat_def, osat_def]
  first | exact b_sub0 | (apply b_sub0 <;> assumption)
theorem b_mul : (binop .mul (.int i) (.int j) M).sat Q = (((-big < i ∧ i < big) ∨ (-big < j ∧ j < big)) ∧ Q (.int (i * j)) M) := by
  simp only [sat_def, osat_def]
  first | exact b_mul0 | (apply b_mul0 <;> assumption)
theorem b_mod : (binop .mod (.int i) (.int j) M).sat Q = (0 < j ∧ Q (.int (i % j)) M) := by
  simp only [sat_def, osat_def]
  first | exact b_mod0 | (apply b_mod0 <;> assumption)
theorem b_div : (binop .fdiv (.int i) (.int j) M).sat Q = ((0 < j ∧ j < 2 ^ 8000) ∧ Q (.int (i / j)) M) := by
  simp only [sat_def, osat_def]
  first | exact b_div0 | (apply b_div0 <;> assumption)
theorem c_lt : (cmpop .lt (.int i) (.int j) M).sat Q = Q (.bl (decide (i < j))) M := by
  simp only [sat_def, osat_def]
  first | exact c_lt0 | (apply c_lt0 <;> assumption)
theorem c_le : (cmpop .le (.int i) (.int j) M).sat Q = Q (.bl (decide (i ≤ j))) M := by
  simp only [sat_def, osat_def]
  first | exact c_le0 | (apply c_le0 <;> assumption)
theorem c_gt : (cmpop .gt (.int i) (.int j) M).sat Q = Q (.bl (decide (j < i))) M := by
  simp only [sat_def, osat_def]
  first | exact c_gt0 | (apply c_gt0 <;> assumption)
theorem c_ge : (cmpop .ge (.int i) (.int j) M).sat Q = Q (.bl (decide (j ≤ i))) M := by
  simp only [sat_def, osat_def]
  first | exact c_ge0 | (apply c_ge0 <;> assumption)
theorem b_app {a b : List D} : (binop .add (.lst a) (.lst b) M).sat Q = (a.length + b.length ≤ lim ∧ Q (.lst (a ++ b)) M) := by
  simp only [sat_def, osat_def]
  first | exact b_app0 | (apply b_app0 <;> assumption)
theorem b_txt {a b : Tx} : (binop .add (.str a) (.str b) M).sat Q = (a.length + b.length ≤ lim ∧ Q (.str (a ++ b)) M) := by
  simp only [sat_def, osat_def]
  first | exact b_txt0 | (apply b_txt0 <;> assumption)
theorem f_int : (bltn 1 [.int i] M).sat Q = Q (.int i) M := by
  simp only [sat_def, osat_def]
  first | exact f_int0 | (apply f_int0 <;> assumption)
theorem f_len_ref {a : Nat} {l : List D} (h : M[a]? = some (.lst l)) : (bltn 0 [.ref a] M).sat Q = Q (.int l.length) M := by
  simp only [sat_def, osat_def]
  first | exact f_len_ref0 | (apply f_len_ref0 <;> assumption)
theorem f_len_lst {l : List D} : (bltn 0 [.lst l] M).sat Q = Q (.int l.length) M := by
  simp only [sat_def, osat_def]
  first | exact f_len_lst0 | (apply f_len_lst0 <;> assumption)
theorem f_len_tup {l : List D} : (bltn 0 [.tup l] M).sat Q = Q (.int l.length) M := by
  simp only [sat_def, osat_def]
  first | exact f_len_tup0 | (apply f_len_tup0 <;> assumption)
theorem i_lst {l : List D} {d : D} (j : Nat) (h : i = (j : Int)) (h2 : l[j]? = some d) (q : Q d M) : (itemD M (.lst l) (.int i)).sat Q := by
  simp only [sat_def, osat_def]
  first | exact i_lst0 | (apply i_lst0 <;> assumption)
theorem i_tup {l : List D} {d : D} (j : Nat) (h : i = (j : Int)) (h2 : l[j]? = some d) (q : Q d M) : (itemD M (.tup l) (.int i)).sat Q := by
  simp only [sat_def, osat_def]
  first | exact i_tup0 | (apply i_tup0 <;> assumption)
theorem i_ref {a : Nat} {l : List D} {d : D} (h0 : M[a]? = some (.lst l)) (j : Nat) (h : i = (j : Int)) (h2 : l[j]? = some d) : (itemD M (.ref a) (.int i)).sat Q = Q d M := by
  simp only [sat_def, osat_def]
  first | exact i_ref0 | (apply i_ref0 <;> assumption)
theorem p_ref {a : Nat} {l : List D} {d : D} (h0 : M[a]? = some (.lst l)) (j : Nat) (h : i = (j : Int)) (h2 : j < l.length) {Q : Unit → List O → Prop} : (putD M (.ref a) (.int i) d).sat Q = Q () (M.set a (.lst (l.set j d))) := by
  simp only [sat_def, osat_def]
  first | exact p_ref0 | (apply p_ref0 <;> assumption)
end
/-! ### displays with stars, reversals, tables, several targets, op=, finally -/
section
variable {C : Ec} {env : En} {M : List O} {a : X} {Q : D → List O → Prop} {N : En → List O → Prop} {R : D → List O → Prop}
theorem e_dsp {t : Nat} {fl : List Bool} {es : List X} : (ev C (.dsp t fl es) env M).sat Q = (evp C es fl env M).sat fun l M1 => l.length ≤ lim ∧ (mkX t l M1).sat Q := by
  simp only [sat_def]
  rw [ev, sat_bind0]
  congr 1
  funext l M1
  by_cases h : l.length ≤ lim
  · simp only [h, if_true, true_and]
  · simp only [h, if_false, false_and]; rfl
theorem mkX_0 {l : List D} : (mkX 0 l M).sat Q = Q (.tup l) M := by rw [sat_def]; rfl
theorem mkX_1 {l : List D} : (mkX 1 l M).sat Q = Q (.lst l) M := by rw [sat_def]; rfl
theorem mkX_2 {l : List D} : (mkX 2 l M).sat Q = Q (.ref M.length) (M ++ [.lst l]) := by rw [sat_def]; rfl
theorem ep_nil {fl : List Bool} {Q : List D → List O → Prop} : (evp C [] fl env M).sat Q = Q [] M := by rw [sat_def, evp]; rfl
theorem ep_cons {fl : List Bool} {e : X} {es : List X} {Q : List D → List O → Prop} : (evp C (e :: es) fl env M).sat Q = (ev C e env M).sat fun d M1 => optSat (spr M1 fl d) fun l => (evp C es fl.tail env M1).sat fun r M2 => Q (l ++ r) M2 := by
  simp only [sat_def]
  rw [evp, sat_bind0]
  congr 1
  funext d M1
  cases spr M1 fl d with
  | none => rfl
  | some l => simp only [opt_some, sat_bind0, sat_ok0]
theorem spr_F {fl : List Bool} {d : D} : spr M (false :: fl) d = some [d] := rfl
theorem spr_T {fl : List Bool} {l : List D} : spr M (true :: fl) (.tup l) = some l := rfl
theorem spr_L {fl : List Bool} {l : List D} : spr M (true :: fl) (.lst l) = some l := rfl
def revD (x : D) (M : List O) : Rs D := match x with
  | .tup l => if l.length ≤ 1000 then .ok (.tup l.reverse) M else .er
  | _ => .er
theorem e_rev : (ev C (.rev a) env M).sat Q = (ev C a env M).sat fun x M1 => (revD x M1).sat Q := by
  simp only [sat_def]
  rw [ev, sat_bind0]
  rfl
theorem revD_tup {l : List D} (h : l.length ≤ 1000) : (revD (.tup l) M).sat Q = Q (.tup l.reverse) M := by
  rw [sat_def]
  unfold revD
  simp only [h, if_true]
  rfl
def gkyD (g y : D) (M : List O) : Rs D := match g, y with
  | .dct ks ds, .str z => (match dget ks ds (.str z) with
    | some d => .ok d M
    | none => .er)
  | _, _ => .er
theorem e_gky {i : Nat} {k : X} : (ev C (.gky i k) env M).sat Q = (ev C k env M).sat fun y M1 => optSat C.glo[i]? fun g => (gkyD g y M1).sat Q := by
  simp only [sat_def]
  rw [ev, sat_bind0]
  congr 1
  funext y M1
  cases C.glo[i]? with
  | none => rfl
  | some g =>
    rw [opt_some]
    cases g <;> cases y <;> rfl
def unxD (C : Ec) (ts : List Tg) (d : D) (env : En) (M : List O) : Out := match d with
  | .tup ds => stores C ts ds env M
  | _ => .er
theorem x_unx {ts : List Tg} {e : X} : (exec C (.unx ts e) env M).sat N R = (ev C e env M).sat fun d M1 => (unxD C ts d env M1).sat N R := by
  simp only [sat_def, osat_def]
  rw [exec]
  cases ev C e env M with
  | er => rfl
  | ex _ _ => rfl
  | ok d M1 => cases d <;> rfl
theorem unxD_tup {ts : List Tg} {ds : List D} : (unxD C ts (.tup ds) env M).sat N R = (stores C ts ds env M).sat N R := rfl
theorem st_nil : (stores C [] [] env M).sat N R = N env M := by rw [osat_def]; rfl
theorem st_nm {i : Nat} {ts : List Tg} {d : D} {ds : List D} (h : i < env.length) : (stores C (.nm i :: ts) (d :: ds) env M).sat N R = (stores C ts ds (env.set i (some d)) M).sat N R := by
  rw [stores, if_pos h]
theorem st_at {o : X} {f : Tx} {ts : List Tg} {d : D} {ds : List D} : (stores C (.at o f :: ts) (d :: ds) env M).sat N R = (ev C o env M).sat fun x M1 => (atrD C M1 x f d).sat fun _ M2 => (stores C ts ds env M2).sat N R := by
  simp only [sat_def, osat_def]
  rw [stores]
  cases ev C o env M with
  | er => rfl
  | ex _ _ => rfl
  | ok x M1 =>
    simp only [Rs.sat0]
    unfold putA atrD
    cases x with
    | ref a =>
      dsimp only
      cases M1[a]? with
      | none => rfl
      | some ob =>
        cases ob with
        | ins c ks ds' =>
          dsimp only
          cases C.cls[c]? with
          | none => rfl
          | some cd =>
            dsimp only
            by_cases h : (hasT cd.fld f && decide (ks.length < 900)) = true
            · simp only [h, if_true]
            · simp only [h, if_false]; rfl
        | _ => rfl
    | _ => rfl
theorem st_sb {o i : X} {ts : List Tg} {d : D} {ds : List D} : (stores C (.sb o i :: ts) (d :: ds) env M).sat N R = (ev C o env M).sat fun x M1 => (ev C i env M1).sat fun y M2 => (putD M2 x y d).sat fun _ M3 => (stores C ts ds env M3).sat N R := by
  simp only [sat_def, osat_def]
  rw [stores]
  cases ev C o env M with
  | er => rfl
  | ex _ _ => rfl
  | ok x M1 =>
    simp only [Rs.sat0]
    cases ev C i env M1 with
    | er => rfl
    | ex _ _ => rfl
    | ok y M2 =>
      simp only [Rs.sat0]
      unfold putL putD
      cases x with
      | ref a =>
        cases y with
        | int j =>
          dsimp only
          cases M2[a]? with
          | none => rfl
          | some ob =>
            cases ob with
            | lst l =>
              dsimp only
              cases ixOf l.length j <;> rfl
            | _ => rfl
        | _ => rfl
      | _ => rfl
def augD (o : BOp) (x y : D) (M : List O) : Rs D := match x, y with
  | .int a, .int b => binop o (.int a) (.int b) M
  | _, _ => .er
theorem x_aug {i : Nat} {o : BOp} {e : X} {x : D} (h : env[i]? = some (some x)) : (exec C (.aug i o e) env M).sat N R = (ev C e env M).sat fun y M1 => (augD o x y M1).sat fun d M2 => N (env.set i (some d)) M2 := by
  simp only [sat_def, osat_def]
  rw [exec, h]
  dsimp only
  cases ev C e env M with
  | er => rfl
  | ex _ _ => rfl
  | ok y M1 =>
    simp only [Rs.sat0]
    unfold augD
    cases x with
    | int a =>
      cases y with
      | int b =>
        dsimp only
        cases binop o (.int a) (.int b) M1 <;> rfl
      | _ => rfl
    | _ => cases y <;> rfl
theorem x_fin {b f : List S} {N : En → List O → Prop} {R : D → List O → Prop} (h : (execs C b env M).sat (fun env1 M1 => (execs C f env1 M1).sat N R) (fun _ _ => False)) : (exec C (.fin b f) env M).sat N R := by
  rw [osat_def] at h ⊢
  rw [exec]
  cases e : execs C b env M with
  | nx env1 M1 =>
    rw [e] at h
    have h : (execs C f env1 M1).sat N R := h
    rw [osat_def] at h
    exact h
  | rt d M1 => rw [e] at h; exact False.elim h
  | bk _ _ => rw [e] at h; exact False.elim h
  | ct _ _ => rw [e] at h; exact False.elim h
  | er => rw [e] at h; exact False.elim h
  | ex _ _ => rw [e] at h; exact False.elim h
end
end Ev


set_option autoImplicit false
set_option linter.all false
set_option maxRecDepth 100000
set_option maxHeartbeats 4000000
namespace K06
open Ev
def bagL (cells : List Int) (i d mark : Int) : List D := [.lst (cells.map .int), .int i, .int d, .int mark]
theorem set_at {M : List O} {a : Nat} {o : O} (h : a < M.length) : (M.set a o)[a]? = some o := List.getElem?_set_self h
section
variable {M : List O} {a : Nat} {x0 x1 x2 x3 d : D}
theorem bag0 {Q : D → List O → Prop} (h : M[a]? = some (.lst [x0, x1, x2, x3])) : (itemD M (.ref a) (.int 0)).sat Q = Q x0 M := i_ref h 0 rfl rfl
theorem bag1 {Q : D → List O → Prop} (h : M[a]? = some (.lst [x0, x1, x2, x3])) : (itemD M (.ref a) (.int 1)).sat Q = Q x1 M := i_ref h 1 rfl rfl
theorem bag2 {Q : D → List O → Prop} (h : M[a]? = some (.lst [x0, x1, x2, x3])) : (itemD M (.ref a) (.int 2)).sat Q = Q x2 M := i_ref h 2 rfl rfl
theorem bag3 {Q : D → List O → Prop} (h : M[a]? = some (.lst [x0, x1, x2, x3])) : (itemD M (.ref a) (.int 3)).sat Q = Q x3 M := i_ref h 3 rfl rfl
theorem bagp1 {Q : Unit → List O → Prop} (h : M[a]? = some (.lst [x0, x1, x2, x3])) : (putD M (.ref a) (.int 1) d).sat Q = Q () (M.set a (.lst [x0, d, x2, x3])) := p_ref h 1 rfl (by simp)
theorem bagp2 {Q : Unit → List O → Prop} (h : M[a]? = some (.lst [x0, x1, x2, x3])) : (putD M (.ref a) (.int 2) d).sat Q = Q () (M.set a (.lst [x0, x1, d, x3])) := p_ref h 2 rfl (by simp)
end
theorem big_pos : (0 : Int) < big := by decide
theorem mul_ok {i j : Int} {M : List O} {Q : D → List O → Prop} (h : -big < j ∧ j < big) : (binop .mul (.int i) (.int j) M).sat Q = Q (.int (i * j)) M := by rw [b_mul]; simp [h]
theorem mod_ok {i j : Int} {M : List O} {Q : D → List O → Prop} (h : 0 < j) : (binop .mod (.int i) (.int j) M).sat Q = Q (.int (i % j)) M := by rw [b_mod]; simp [h]
theorem div_ok {i j : Int} {M : List O} {Q : D → List O → Prop} (h : 0 < j) (h2 : j < 2 ^ 8000) : (binop .fdiv (.int i) (.int j) M).sat Q = Q (.int (i / j)) M := by rw [b_div]; simp [h, h2]
theorem pow1018 {M : List O} {Q : D → List O → Prop} : (binop .pow (.int 10) (.int 18) M).sat Q = Q (.int 1000000000000000000) M := by simp only [sat_def]; rfl
theorem p23 : (23 : Int) < 2 ^ 8000 := by
  have : (2 : Int) ^ 5 ≤ 2 ^ 8000 := by exact_mod_cast Nat.pow_le_pow_right (by decide) (by decide)
  omega
theorem k1 : -big < (8689 : Int) ∧ (8689 : Int) < big := by decide
theorem k2 : -big < (42061 : Int) ∧ (42061 : Int) < big := by decide
theorem k3 : -big < (37021 : Int) ∧ (37021 : Int) < big := by decide
theorem k4 : -big < (50551 : Int) ∧ (50551 : Int) < big := by decide
theorem k5 : -big < (46819 : Int) ∧ (46819 : Int) < big := by decide
theorem k6 (x : Int) : -big < x % 2147483629 ∧ x % 2147483629 < big := by
  have h1 := Int.emod_nonneg x (show (2147483629 : Int) ≠ 0 by decide)
  have h2 := Int.emod_lt_of_pos x (show (0 : Int) < 2147483629 by decide)
  unfold big
  omega
theorem fin (x m : Int) (hm : 0 < m) : 0 ≤ x % m ∧ x % m < m := ⟨Int.emod_nonneg _ (by omega), Int.emod_lt_of_pos _ hm⟩
theorem draw_spec (n : Nat) (M : List O) (a : Nat) (cells : List Int) (i d mark m : Int) (Q : D → List O → Prop) (hM : M[a]? = some (.lst (bagL cells i d mark))) (h0 : 0 ≤ i) (hd : 0 ≤ d) (hm : 0 < m) (hm2 : m < 2 ^ 8000)
    (hQ : ∀ r i' d', 0 ≤ r → r < m → 0 ≤ i' → 0 ≤ d' → Q (.int r) (M.set a (.lst (bagL cells i' d' mark)))) : (callN pg (n + 1) 7 [.ref a, .int m] [] M).sat Q := by
  have ha : a < M.length := (List.getElem?_eq_some_iff.mp hM).1
  refine call_sat (fd := f7) (xs := [.ref a, .int m]) rfl rfl ?_
  unfold bagL at hM hQ
  have s0 : ∀ o, (M.set a o)[a]? = some o := fun o => set_at ha
  have p0 : (0 : Int) < 2147483629 := by decide
  have p1 : (0 : Int) < 998244353 := by decide
  have p2 : (0 : Int) < 2147483587 := by decide
  have p3 : (0 : Int) < 23 := by decide
  dsimp only [f7]
  by_cases c1 : d < 2
  · by_cases c2 : i + 1 ≤ (cells.length : Int)
    · obtain ⟨cell, hc⟩ : ∃ cell, cells[i.toNat]? = some cell := ⟨cells[i.toNat]'(by omega), List.getElem?_eq_getElem (by omega)⟩
      have hi : ∀ (Q : D → List O → Prop) (M : List O), Q (.int cell) M → (itemD M (.lst (cells.map D.int)) (.int (i + 1 - 1))).sat Q := fun Q M q => i_lst i.toNat (by omega) (by rw [List.getElem?_map, hc]; rfl) q
      have hi' : ∀ (Q : D → List O → Prop) (M : List O), (itemD M (.lst (cells.map D.int)) (.int (i + 1 - 1))).sat Q = Q (.int cell) M := fun Q M => by
        unfold itemD itD itL itemsOf seen
        simp only [ix_nat (n := (cells.map D.int).length) i.toNat (show i + 1 - 1 = (i.toNat : Int) by omega) (by simp; omega), List.getElem?_map, hc]
        exact sat_ok
      have c2' : ¬ (cells.length : Int) < i + 1 := by omega
      by_cases c3 : cell < 1000000000000000000
      · simp only [call_cN, e_var, e_cst, e_bin, e_cmp, e_and, e_or, e_ife, e_not, notD_bl, e_neg, negD_int, e_tup, e_lst, mk_F, e_item, e_slc, e_attr, e_isi, e_isis, e_call, e_blt, e_mkx, e_lc, e_mk, e_meth, e_isc, e_oeq, e_olen, e_orep, e_fld, e_prp, e_ccst, e_glo, gloD_int, gloD_str, gloD_tup, e_dsp, mkX_0, mkX_1, ep_nil, ep_cons, spr_F, spr_T, spr_L, e_rev, e_gky, x_unx, unxD_tup, st_nil, st_at, List.tail_cons, e_dic, mkD_F, e_key, e_fst, e_bm, e_cmp2, x_never, x_atr, x_una, x_putk, x_putk2, x_uns, opt_some, es_nil, es_cons, et_nil, et_cons, x_ex, x_asg, x_asl, x_ret, x_iff, x_put, x_for, xs_nil, xs_cons, sat_ok, two_T, two_F, two_d, two_n, b_add, b_sub, c_lt, c_le, c_gt, c_ge, f_int, f_len_lst, f_len_tup, List.map_cons, List.map_nil, List.cons_append, List.nil_append, List.replicate, List.getElem?_cons_succ, List.getElem?_cons_zero, List.set_cons_succ, List.set_cons_zero, List.length_cons, List.length_nil, List.length_set, Nat.reduceAdd, Nat.reduceSub, Nat.reduceLT, true_and, and_true, if_true, if_false, List.zip_nil_right, List.zip_nil_left, List.append_nil, starOf, bag0 hM, bag1 hM, bag2 hM, bag3 hM, bagp1 hM, bagp2 hM, bag0 (s0 _), bag1 (s0 _), bag2 (s0 _), bag3 (s0 _), bagp1 (s0 _), bagp2 (s0 _), mul_ok k1, mul_ok k2, mul_ok k3, mul_ok k4, mul_ok k5, mul_ok (k6 _), mod_ok p0, mod_ok p1, mod_ok p2, mod_ok hm, div_ok p3 p23, div_ok hm hm2, pow1018, c1, c2, c3, c2', hi', List.length_map, List.set_set]
        exact hQ _ _ _ (fin _ m hm).1 (fin _ m hm).2 (by omega) hd
      · simp only [call_cN, e_var, e_cst, e_bin, e_cmp, e_and, e_or, e_ife, e_not, notD_bl, e_neg, negD_int, e_tup, e_lst, mk_F, e_item, e_slc, e_attr, e_isi, e_isis, e_call, e_blt, e_mkx, e_lc, e_mk, e_meth, e_isc, e_oeq, e_olen, e_orep, e_fld, e_prp, e_ccst, e_glo, gloD_int, gloD_str, gloD_tup, e_dsp, mkX_0, mkX_1, ep_nil, ep_cons, spr_F, spr_T, spr_L, e_rev, e_gky, x_unx, unxD_tup, st_nil, st_at, List.tail_cons, e_dic, mkD_F, e_key, e_fst, e_bm, e_cmp2, x_never, x_atr, x_una, x_putk, x_putk2, x_uns, opt_some, es_nil, es_cons, et_nil, et_cons, x_ex, x_asg, x_asl, x_ret, x_iff, x_put, x_for, xs_nil, xs_cons, sat_ok, two_T, two_F, two_d, two_n, b_add, b_sub, c_lt, c_le, c_gt, c_ge, f_int, f_len_lst, f_len_tup, List.map_cons, List.map_nil, List.cons_append, List.nil_append, List.replicate, List.getElem?_cons_succ, List.getElem?_cons_zero, List.set_cons_succ, List.set_cons_zero, List.length_cons, List.length_nil, List.length_set, Nat.reduceAdd, Nat.reduceSub, Nat.reduceLT, true_and, and_true, if_true, if_false, List.zip_nil_right, List.zip_nil_left, List.append_nil, starOf, bag0 hM, bag1 hM, bag2 hM, bag3 hM, bagp1 hM, bagp2 hM, bag0 (s0 _), bag1 (s0 _), bag2 (s0 _), bag3 (s0 _), bagp1 (s0 _), bagp2 (s0 _), mul_ok k1, mul_ok k2, mul_ok k3, mul_ok k4, mul_ok k5, mul_ok (k6 _), mod_ok p0, mod_ok p1, mod_ok p2, mod_ok hm, div_ok p3 p23, div_ok hm hm2, pow1018, c1, c2, c3, c2', hi', List.length_map, List.set_set]
        exact hQ _ _ _ (fin _ m hm).1 (fin _ m hm).2 (by omega) (Int.ediv_nonneg (by omega) (by omega))
    · have c2' : (cells.length : Int) < i + 1 := by omega
      simp only [call_cN, e_var, e_cst, e_bin, e_cmp, e_and, e_or, e_ife, e_not, notD_bl, e_neg, negD_int, e_tup, e_lst, mk_F, e_item, e_slc, e_attr, e_isi, e_isis, e_call, e_blt, e_mkx, e_lc, e_mk, e_meth, e_isc, e_oeq, e_olen, e_orep, e_fld, e_prp, e_ccst, e_glo, gloD_int, gloD_str, gloD_tup, e_dsp, mkX_0, mkX_1, ep_nil, ep_cons, spr_F, spr_T, spr_L, e_rev, e_gky, x_unx, unxD_tup, st_nil, st_at, List.tail_cons, e_dic, mkD_F, e_key, e_fst, e_bm, e_cmp2, x_never, x_atr, x_una, x_putk, x_putk2, x_uns, opt_some, es_nil, es_cons, et_nil, et_cons, x_ex, x_asg, x_asl, x_ret, x_iff, x_put, x_for, xs_nil, xs_cons, sat_ok, two_T, two_F, two_d, two_n, b_add, b_sub, c_lt, c_le, c_gt, c_ge, f_int, f_len_lst, f_len_tup, List.map_cons, List.map_nil, List.cons_append, List.nil_append, List.replicate, List.getElem?_cons_succ, List.getElem?_cons_zero, List.set_cons_succ, List.set_cons_zero, List.length_cons, List.length_nil, List.length_set, Nat.reduceAdd, Nat.reduceSub, Nat.reduceLT, true_and, and_true, if_true, if_false, List.zip_nil_right, List.zip_nil_left, List.append_nil, starOf, bag0 hM, bag1 hM, bag2 hM, bag3 hM, bagp1 hM, bagp2 hM, bag0 (s0 _), bag1 (s0 _), bag2 (s0 _), bag3 (s0 _), bagp1 (s0 _), bagp2 (s0 _), mul_ok k1, mul_ok k2, mul_ok k3, mul_ok k4, mul_ok k5, mul_ok (k6 _), mod_ok p0, mod_ok p1, mod_ok p2, mod_ok hm, div_ok p3 p23, div_ok hm hm2, pow1018, c1, c2, c2', List.length_map, List.set_set]
      exact hQ _ _ _ (fin _ m hm).1 (fin _ m hm).2 (by omega) hd
  · simp only [call_cN, e_var, e_cst, e_bin, e_cmp, e_and, e_or, e_ife, e_not, notD_bl, e_neg, negD_int, e_tup, e_lst, mk_F, e_item, e_slc, e_attr, e_isi, e_isis, e_call, e_blt, e_mkx, e_lc, e_mk, e_meth, e_isc, e_oeq, e_olen, e_orep, e_fld, e_prp, e_ccst, e_glo, gloD_int, gloD_str, gloD_tup, e_dsp, mkX_0, mkX_1, ep_nil, ep_cons, spr_F, spr_T, spr_L, e_rev, e_gky, x_unx, unxD_tup, st_nil, st_at, List.tail_cons, e_dic, mkD_F, e_key, e_fst, e_bm, e_cmp2, x_never, x_atr, x_una, x_putk, x_putk2, x_uns, opt_some, es_nil, es_cons, et_nil, et_cons, x_ex, x_asg, x_asl, x_ret, x_iff, x_put, x_for, xs_nil, xs_cons, sat_ok, two_T, two_F, two_d, two_n, b_add, b_sub, c_lt, c_le, c_gt, c_ge, f_int, f_len_lst, f_len_tup, List.map_cons, List.map_nil, List.cons_append, List.nil_append, List.replicate, List.getElem?_cons_succ, List.getElem?_cons_zero, List.set_cons_succ, List.set_cons_zero, List.length_cons, List.length_nil, List.length_set, Nat.reduceAdd, Nat.reduceSub, Nat.reduceLT, true_and, and_true, if_true, if_false, List.zip_nil_right, List.zip_nil_left, List.append_nil, starOf, bag0 hM, bag1 hM, bag2 hM, bag3 hM, bagp1 hM, bagp2 hM, bag0 (s0 _), bag1 (s0 _), bag2 (s0 _), bag3 (s0 _), bagp1 (s0 _), bagp2 (s0 _), mod_ok hm, div_ok hm hm2, c1, List.set_set]
    exact hQ _ _ _ (fin _ m hm).1 (fin _ m hm).2 (by omega) (Int.ediv_nonneg (by omega) (by omega))
end K06


set_option autoImplicit false
set_option linter.all false
set_option maxRecDepth 100000
set_option maxHeartbeats 4000000
namespace K06
open Ev
mutual
/-- plain data, not deeper than n, not longer than the line -/
def pd : Nat → D → Prop
  | _, .non => True
  | _, .bl _ => True
  | _, .int _ => True
  | _, .str s => okTx s = true
  | n + 1, .tup ds => ds.length < lim ∧ pds n ds
  | n + 1, .lst ds => ds.length < lim ∧ pds n ds
  | _, _ => False
def pds : Nat → List D → Prop
  | _, [] => True
  | n, d :: ds => pd n d ∧ pds n ds
end
mutual
theorem pd_dat : ∀ (n : Nat) (d : D), pd n d → dat n d = true
  | n, .non, _ => by simp [dat]
  | n, .bl _, _ => by simp [dat]
  | n, .int _, _ => by simp [dat]
  | n, .str s, h => by simpa [dat, pd] using h
  | n + 1, .tup ds, h => by rw [pd] at h; rw [dat]; exact pds_dat n ds h.2
  | n + 1, .lst ds, h => by rw [pd] at h; rw [dat]; exact pds_dat n ds h.2
  | 0, .tup ds, h => by simp [pd] at h
  | 0, .lst ds, h => by simp [pd] at h
  | n, .obj _ _ _, h => by cases n <;> simp [pd] at h
  | n, .exc _ _ _, h => by cases n <;> simp [pd] at h
  | n, .ref _, h => by cases n <;> simp [pd] at h
  | n, .fro _, h => by cases n <;> simp [pd] at h
  | n, .dct _ _, h => by cases n <;> simp [pd] at h
theorem pds_dat : ∀ (n : Nat) (ds : List D), pds n ds → dats n ds = true
  | n, [], _ => by simp [dats]
  | n, d :: ds, h => by rw [pds] at h; rw [dats, pd_dat n d h.1, pds_dat n ds h.2]; rfl
end
mutual
theorem eqD_refl : ∀ (n : Nat) (d : D), pd n d → eqD d d = true
  | n, .non, _ => by simp [eqD]
  | n, .bl _, _ => by simp [eqD]
  | n, .int _, _ => by simp [eqD]
  | n, .str s, h => by
    rw [eqD]
    induction s with
    | nil => rfl
    | cons c r ih => rw [txEq, Nat.beq_refl]; exact ih (by have h' : okTx (c :: r) = true := by cases n <;> simpa [pd] using h
                                                           rw [okTx, Bool.and_eq_true] at h'; cases n <;> simpa [pd] using h'.2)
  | n + 1, .tup ds, h => by rw [pd] at h; rw [eqD]; exact eqDs_refl n ds h.2
  | n + 1, .lst ds, h => by rw [pd] at h; rw [eqD]; exact eqDs_refl n ds h.2
  | 0, .tup ds, h => by simp [pd] at h
  | 0, .lst ds, h => by simp [pd] at h
  | n, .obj _ _ _, h => by cases n <;> simp [pd] at h
  | n, .exc _ _ _, h => by cases n <;> simp [pd] at h
  | n, .ref _, h => by cases n <;> simp [pd] at h
  | n, .fro _, h => by cases n <;> simp [pd] at h
  | n, .dct _ _, h => by cases n <;> simp [pd] at h
theorem eqDs_refl : ∀ (n : Nat) (ds : List D), pds n ds → eqDs ds ds = true
  | n, [], _ => by simp [eqDs]
  | n, d :: ds, h => by rw [pds] at h; rw [eqDs, eqD_refl n d h.1, eqDs_refl n ds h.2]; rfl
end
theorem c_eq {M : List O} {x y : D} {Q : D → List O → Prop} (h1 : dat 60 (seen M x) = true) (h2 : dat 60 (seen M y) = true) : (cmpop .eq x y M).sat Q = Q (.bl (eqD (seen M x) (seen M y))) M := by
  unfold cmpop; simp only [h1, h2, Bool.and_self, if_true, sat_ok]
theorem c_ne {M : List O} {x y : D} {Q : D → List O → Prop} (h1 : dat 60 (seen M x) = true) (h2 : dat 60 (seen M y) = true) : (cmpop .ne x y M).sat Q = Q (.bl (!eqD (seen M x) (seen M y))) M := by
  unfold cmpop; simp only [h1, h2, Bool.and_self, if_true, sat_ok]
theorem c_eqb {M : List O} {x y : Bool} {Q : D → List O → Prop} : (cmpop .eq (.bl x) (.bl y) M).sat Q = Q (.bl (x == y)) M := by simp only [sat_def]; rfl
theorem c_neb {M : List O} {x y : Bool} {Q : D → List O → Prop} : (cmpop .ne (.bl x) (.bl y) M).sat Q = Q (.bl (!(x == y))) M := by simp only [sat_def]; rfl
theorem c_eqi {M : List O} {x y : Int} {Q : D → List O → Prop} : (cmpop .eq (.int x) (.int y) M).sat Q = Q (.bl (decide (x = y))) M := by simp only [sat_def]; rfl
theorem c_nei {M : List O} {x y : Int} {Q : D → List O → Prop} : (cmpop .ne (.int x) (.int y) M).sat Q = Q (.bl (!decide (x = y))) M := by simp only [sat_def]; rfl
/-- all true -/
theorem all_rep (k : Nat) : allTrue (List.replicate k (.bl true)) = some true := by
  induction k with
  | zero => rfl
  | succ k ih => rw [List.replicate_succ, allTrue, ih]; rfl
theorem f_all {l : List D} {M : List O} {Q : D → List O → Prop} {b : Bool} (h : allTrue l = some b) : (bltn 2 [.lst l] M).sat Q = Q (.bl b) M := by
  unfold bltn bAll listOf seen
  simp only [h]
  exact sat_ok
theorem w_zipL {a b : List D} : walkOf .zip [.lst a, .lst b] = some (zips a b) := rfl
theorem w_zipT {a b : List D} : walkOf .zip [.tup a, .tup b] = some (zips a b) := rfl
theorem zips_self : ∀ (l : List D), zips l l = l.map fun d => .tup [d, d]
  | [] => rfl
  | d :: l => by rw [zips, zips_self l]; rfl
def isNon : D → Bool
  | .non => true
  | _ => false
theorem c_is {M : List O} {x : D} {Q : D → List O → Prop} : (cmpop .is x .non M).sat Q = Q (.bl (isNon x)) M := by simp only [sat_def]; cases x <;> rfl
theorem c_isn {M : List O} {x : D} {Q : D → List O → Prop} : (cmpop .isn x .non M).sat Q = Q (.bl (!isNon x)) M := by simp only [sat_def]; cases x <;> rfl
theorem c_self {M : List O} {d : D} {Q : D → List O → Prop} {n : Nat} (h : pd n d) (hn : n ≤ 60) (hs : seen M d = d) (hd : dat 60 d = true) : (cmpop .eq d d M).sat Q = Q (.bl true) M := by
  rw [c_eq (by rw [hs]; exact hd) (by rw [hs]; exact hd), hs, eqD_refl n d h]
/-- the comprehension over pairs of equals -/
theorem comp_same {elt : En → List O → Rs D} {tests : En → List O → Rs Bool} {env : En} {i j : Nat} {Q : List D → List O → Prop} (hi : i < env.length) (hj : j < env.length) (ht : ∀ env1 M (Q : Bool → List O → Prop), Q true M → (tests env1 M).sat Q) :
    ∀ (ds : List D) (acc : Nat) (M : List O), acc + ds.length < lim → (∀ d ∈ ds, ∀ (Q : D → List O → Prop), Q (.bl true) M → (elt ((env.set i (some d)).set j (some d)) M).sat Q) → Q (List.replicate (acc + ds.length) (.bl true)) M →
      (comp elt tests (.tp [i, j]) (ds.map fun d => .tup [d, d]) (List.replicate acc (.bl true)) env M).sat Q
  | [], acc, M, _, _, q => by rw [List.map_nil, comp_nil]; exact q
  | d :: ds, acc, M, hl, he, q => by
    rw [List.map_cons, comp_cons]
    have e : setP (.tp [i, j]) (.tup [d, d]) env = some ((env.set i (some d)).set j (some d)) := by
      show setPs [i, j] [d, d] env = _
      simp only [setPs, hi, if_true, List.length_set, hj]
    rw [e, opt_some]
    refine ht _ _ _ ?_
    rw [if_pos rfl]
    refine he d List.mem_cons_self _ ⟨by rw [List.length_replicate]; simp at hl; omega, ?_⟩
    rw [show List.replicate acc (D.bl true) ++ [.bl true] = List.replicate (acc + 1) (.bl true) from List.replicate_succ'.symm]
    refine comp_same hi hj ht ds (acc + 1) M (by simp at hl; omega) (fun d hd => he d (List.mem_cons_of_mem _ hd)) ?_
    rw [show acc + 1 + ds.length = acc + (d :: ds).length by simp; omega]
    exact q
theorem pds_mem : ∀ {n : Nat} {ds : List D} {d : D}, pds n ds → d ∈ ds → pd n d
  | n, d' :: ds, d, h, hd => by
    rw [pds] at h
    rcases List.mem_cons.mp hd with e | e
    · subst e; exact h.1
    · exact pds_mem h.2 e
theorem same_refl : ∀ (n : Nat) (d : D) (M : List O) (Q : D → List O → Prop) (k : Nat), n ≤ 59 → pd n d → Q (.bl true) M → (callN pg (k + n + 1) 9 [d, d] [] M).sat Q
  | n, .non, M, Q, k, _, h, q => by
    refine call_sat (fd := f9) (xs := [.non, .non]) rfl rfl ?_
    dsimp only [f9]
    simp only [call_cN, e_var, e_cst, e_bin, e_cmp, e_and, e_or, e_ife, e_not, notD_bl, e_neg, negD_int, e_tup, e_lst, mk_F, e_item, e_slc, e_attr, e_isi, e_isis, e_call, e_blt, e_mkx, e_lc, e_mk, e_meth, e_isc, e_oeq, e_olen, e_orep, e_fld, e_prp, e_ccst, e_glo, gloD_int, gloD_str, gloD_tup, e_dsp, mkX_0, mkX_1, ep_nil, ep_cons, spr_F, spr_T, spr_L, e_rev, e_gky, x_unx, unxD_tup, st_nil, st_at, List.tail_cons, e_dic, mkD_F, e_key, e_fst, e_bm, e_cmp2, x_never, x_atr, x_una, x_putk, x_putk2, x_uns, opt_some, es_nil, es_cons, et_nil, et_cons, x_ex, x_asg, x_asl, x_ret, x_iff, x_put, x_for, xs_nil, xs_cons, sat_ok, two_T, two_F, two_d, two_n, b_add, b_sub, c_lt, c_le, c_gt, c_ge, f_int, f_len_lst, f_len_tup, List.map_cons, List.map_nil, List.cons_append, List.nil_append, List.replicate, List.getElem?_cons_succ, List.getElem?_cons_zero, List.set_cons_succ, List.set_cons_zero, List.length_cons, List.length_nil, List.length_set, Nat.reduceAdd, Nat.reduceSub, Nat.reduceLT, true_and, and_true, if_true, if_false, List.zip_nil_right, List.zip_nil_left, List.append_nil, starOf, c_is, isNon]
    exact q
  | n, .bl b, M, Q, k, _, h, q => by
    refine call_sat (fd := f9) (xs := [.bl b, .bl b]) rfl rfl ?_
    dsimp only [f9]
    simp only [call_cN, e_var, e_cst, e_bin, e_cmp, e_and, e_or, e_ife, e_not, notD_bl, e_neg, negD_int, e_tup, e_lst, mk_F, e_item, e_slc, e_attr, e_isi, e_isis, e_call, e_blt, e_mkx, e_lc, e_mk, e_meth, e_isc, e_oeq, e_olen, e_orep, e_fld, e_prp, e_ccst, e_glo, gloD_int, gloD_str, gloD_tup, e_dsp, mkX_0, mkX_1, ep_nil, ep_cons, spr_F, spr_T, spr_L, e_rev, e_gky, x_unx, unxD_tup, st_nil, st_at, List.tail_cons, e_dic, mkD_F, e_key, e_fst, e_bm, e_cmp2, x_never, x_atr, x_una, x_putk, x_putk2, x_uns, opt_some, es_nil, es_cons, et_nil, et_cons, x_ex, x_asg, x_asl, x_ret, x_iff, x_put, x_for, xs_nil, xs_cons, sat_ok, two_T, two_F, two_d, two_n, b_add, b_sub, c_lt, c_le, c_gt, c_ge, f_int, f_len_lst, f_len_tup, List.map_cons, List.map_nil, List.cons_append, List.nil_append, List.replicate, List.getElem?_cons_succ, List.getElem?_cons_zero, List.set_cons_succ, List.set_cons_zero, List.length_cons, List.length_nil, List.length_set, Nat.reduceAdd, Nat.reduceSub, Nat.reduceLT, true_and, and_true, if_true, if_false, List.zip_nil_right, List.zip_nil_left, List.append_nil, starOf, c_is, isNon, isiD, isA, seen, c_eqb, beq_self_eq_true]
    exact q
  | n, .int i, M, Q, k, _, h, q => by
    refine call_sat (fd := f9) (xs := [.int i, .int i]) rfl rfl ?_
    dsimp only [f9]
    simp only [call_cN, e_var, e_cst, e_bin, e_cmp, e_and, e_or, e_ife, e_not, notD_bl, e_neg, negD_int, e_tup, e_lst, mk_F, e_item, e_slc, e_attr, e_isi, e_isis, e_call, e_blt, e_mkx, e_lc, e_mk, e_meth, e_isc, e_oeq, e_olen, e_orep, e_fld, e_prp, e_ccst, e_glo, gloD_int, gloD_str, gloD_tup, e_dsp, mkX_0, mkX_1, ep_nil, ep_cons, spr_F, spr_T, spr_L, e_rev, e_gky, x_unx, unxD_tup, st_nil, st_at, List.tail_cons, e_dic, mkD_F, e_key, e_fst, e_bm, e_cmp2, x_never, x_atr, x_una, x_putk, x_putk2, x_uns, opt_some, es_nil, es_cons, et_nil, et_cons, x_ex, x_asg, x_asl, x_ret, x_iff, x_put, x_for, xs_nil, xs_cons, sat_ok, two_T, two_F, two_d, two_n, b_add, b_sub, c_lt, c_le, c_gt, c_ge, f_int, f_len_lst, f_len_tup, List.map_cons, List.map_nil, List.cons_append, List.nil_append, List.replicate, List.getElem?_cons_succ, List.getElem?_cons_zero, List.set_cons_succ, List.set_cons_zero, List.length_cons, List.length_nil, List.length_set, Nat.reduceAdd, Nat.reduceSub, Nat.reduceLT, true_and, and_true, if_true, if_false, List.zip_nil_right, List.zip_nil_left, List.append_nil, starOf, c_is, isNon, isiD, isA, seen, isisD, isAny, c_eqb, Bool.or_true, Bool.or_false, beq_self_eq_true, c_eqi, decide_true]
    exact q
  | n, .str s, M, Q, k, _, h, q => by
    refine call_sat (fd := f9) (xs := [.str s, .str s]) rfl rfl ?_
    dsimp only [f9]
    have e1 := eqD_refl n (.str s) h
    have e2 : dat 60 (.str s) = true := by cases n <;> simpa [pd, dat] using h
    simp only [call_cN, e_var, e_cst, e_bin, e_cmp, e_and, e_or, e_ife, e_not, notD_bl, e_neg, negD_int, e_tup, e_lst, mk_F, e_item, e_slc, e_attr, e_isi, e_isis, e_call, e_blt, e_mkx, e_lc, e_mk, e_meth, e_isc, e_oeq, e_olen, e_orep, e_fld, e_prp, e_ccst, e_glo, gloD_int, gloD_str, gloD_tup, e_dsp, mkX_0, mkX_1, ep_nil, ep_cons, spr_F, spr_T, spr_L, e_rev, e_gky, x_unx, unxD_tup, st_nil, st_at, List.tail_cons, e_dic, mkD_F, e_key, e_fst, e_bm, e_cmp2, x_never, x_atr, x_una, x_putk, x_putk2, x_uns, opt_some, es_nil, es_cons, et_nil, et_cons, x_ex, x_asg, x_asl, x_ret, x_iff, x_put, x_for, xs_nil, xs_cons, sat_ok, two_T, two_F, two_d, two_n, b_add, b_sub, c_lt, c_le, c_gt, c_ge, f_int, f_len_lst, f_len_tup, List.map_cons, List.map_nil, List.cons_append, List.nil_append, List.replicate, List.getElem?_cons_succ, List.getElem?_cons_zero, List.set_cons_succ, List.set_cons_zero, List.length_cons, List.length_nil, List.length_set, Nat.reduceAdd, Nat.reduceSub, Nat.reduceLT, true_and, and_true, if_true, if_false, List.zip_nil_right, List.zip_nil_left, List.append_nil, starOf, c_is, isNon, isiD, isA, seen, isisD, isAny, c_eqb, Bool.or_true, Bool.or_false, beq_self_eq_true, c_self h (by omega) rfl e2]
    exact q
  | n + 1, .tup ds, M, Q, k, hn, h, q => by
    rw [pd] at h
    refine call_sat (fd := f9) (xs := [.tup ds, .tup ds]) rfl rfl ?_
    dsimp only [f9]
    simp only [call_cN, e_var, e_cst, e_bin, e_cmp, e_and, e_or, e_ife, e_not, notD_bl, e_neg, negD_int, e_tup, e_lst, mk_F, e_item, e_slc, e_attr, e_isi, e_isis, e_call, e_blt, e_mkx, e_lc, e_mk, e_meth, e_isc, e_oeq, e_olen, e_orep, e_fld, e_prp, e_ccst, e_glo, gloD_int, gloD_str, gloD_tup, e_dsp, mkX_0, mkX_1, ep_nil, ep_cons, spr_F, spr_T, spr_L, e_rev, e_gky, x_unx, unxD_tup, st_nil, st_at, List.tail_cons, e_dic, mkD_F, e_key, e_fst, e_bm, e_cmp2, x_never, x_atr, x_una, x_putk, x_putk2, x_uns, opt_some, es_nil, es_cons, et_nil, et_cons, x_ex, x_asg, x_asl, x_ret, x_iff, x_put, x_for, xs_nil, xs_cons, sat_ok, two_T, two_F, two_d, two_n, b_add, b_sub, c_lt, c_le, c_gt, c_ge, f_int, f_len_lst, f_len_tup, List.map_cons, List.map_nil, List.cons_append, List.nil_append, List.replicate, List.getElem?_cons_succ, List.getElem?_cons_zero, List.set_cons_succ, List.set_cons_zero, List.length_cons, List.length_nil, List.length_set, Nat.reduceAdd, Nat.reduceSub, Nat.reduceLT, true_and, and_true, if_true, if_false, List.zip_nil_right, List.zip_nil_left, List.append_nil, starOf, c_is, isNon, isiD, isA, seen, isisD, isAny, c_neb, c_eqi, Bool.or_true, Bool.or_false, beq_self_eq_true, Bool.not_true, decide_true, w_zipT, zips_self]
    refine comp_same (i := 2) (j := 3) (by simp [wipeE, pslots]) (by simp [wipeE, pslots]) (fun _ _ _ q => by rw [et_nil]; exact q) ds 0 M (by omega) (fun d hd Q q => ?_) ?_
    · simp only [wipeE, pslots]
      simp only [call_cN, e_var, e_cst, e_bin, e_cmp, e_and, e_or, e_ife, e_not, notD_bl, e_neg, negD_int, e_tup, e_lst, mk_F, e_item, e_slc, e_attr, e_isi, e_isis, e_call, e_blt, e_mkx, e_lc, e_mk, e_meth, e_isc, e_oeq, e_olen, e_orep, e_fld, e_prp, e_ccst, e_glo, gloD_int, gloD_str, gloD_tup, e_dsp, mkX_0, mkX_1, ep_nil, ep_cons, spr_F, spr_T, spr_L, e_rev, e_gky, x_unx, unxD_tup, st_nil, st_at, List.tail_cons, e_dic, mkD_F, e_key, e_fst, e_bm, e_cmp2, x_never, x_atr, x_una, x_putk, x_putk2, x_uns, opt_some, es_nil, es_cons, et_nil, et_cons, x_ex, x_asg, x_asl, x_ret, x_iff, x_put, x_for, xs_nil, xs_cons, sat_ok, two_T, two_F, two_d, two_n, b_add, b_sub, c_lt, c_le, c_gt, c_ge, f_int, f_len_lst, f_len_tup, List.map_cons, List.map_nil, List.cons_append, List.nil_append, List.replicate, List.getElem?_cons_succ, List.getElem?_cons_zero, List.set_cons_succ, List.set_cons_zero, List.length_cons, List.length_nil, List.length_set, Nat.reduceAdd, Nat.reduceSub, Nat.reduceLT, true_and, and_true, if_true, if_false, List.zip_nil_right, List.zip_nil_left, List.append_nil, starOf]
      exact same_refl n d M Q k (by omega) (pds_mem h.2 hd) q
    · rw [f_all (all_rep _)]
      exact q
  | n + 1, .lst ds, M, Q, k, hn, h, q => by
    rw [pd] at h
    refine call_sat (fd := f9) (xs := [.lst ds, .lst ds]) rfl rfl ?_
    dsimp only [f9]
    simp only [call_cN, e_var, e_cst, e_bin, e_cmp, e_and, e_or, e_ife, e_not, notD_bl, e_neg, negD_int, e_tup, e_lst, mk_F, e_item, e_slc, e_attr, e_isi, e_isis, e_call, e_blt, e_mkx, e_lc, e_mk, e_meth, e_isc, e_oeq, e_olen, e_orep, e_fld, e_prp, e_ccst, e_glo, gloD_int, gloD_str, gloD_tup, e_dsp, mkX_0, mkX_1, ep_nil, ep_cons, spr_F, spr_T, spr_L, e_rev, e_gky, x_unx, unxD_tup, st_nil, st_at, List.tail_cons, e_dic, mkD_F, e_key, e_fst, e_bm, e_cmp2, x_never, x_atr, x_una, x_putk, x_putk2, x_uns, opt_some, es_nil, es_cons, et_nil, et_cons, x_ex, x_asg, x_asl, x_ret, x_iff, x_put, x_for, xs_nil, xs_cons, sat_ok, two_T, two_F, two_d, two_n, b_add, b_sub, c_lt, c_le, c_gt, c_ge, f_int, f_len_lst, f_len_tup, List.map_cons, List.map_nil, List.cons_append, List.nil_append, List.replicate, List.getElem?_cons_succ, List.getElem?_cons_zero, List.set_cons_succ, List.set_cons_zero, List.length_cons, List.length_nil, List.length_set, Nat.reduceAdd, Nat.reduceSub, Nat.reduceLT, true_and, and_true, if_true, if_false, List.zip_nil_right, List.zip_nil_left, List.append_nil, starOf, c_is, isNon, isiD, isA, seen, isisD, isAny, c_neb, c_eqi, Bool.or_true, Bool.or_false, beq_self_eq_true, Bool.not_true, decide_true, w_zipL, zips_self]
    refine comp_same (i := 2) (j := 3) (by simp [wipeE, pslots]) (by simp [wipeE, pslots]) (fun _ _ _ q => by rw [et_nil]; exact q) ds 0 M (by omega) (fun d hd Q q => ?_) ?_
    · simp only [wipeE, pslots]
      simp only [call_cN, e_var, e_cst, e_bin, e_cmp, e_and, e_or, e_ife, e_not, notD_bl, e_neg, negD_int, e_tup, e_lst, mk_F, e_item, e_slc, e_attr, e_isi, e_isis, e_call, e_blt, e_mkx, e_lc, e_mk, e_meth, e_isc, e_oeq, e_olen, e_orep, e_fld, e_prp, e_ccst, e_glo, gloD_int, gloD_str, gloD_tup, e_dsp, mkX_0, mkX_1, ep_nil, ep_cons, spr_F, spr_T, spr_L, e_rev, e_gky, x_unx, unxD_tup, st_nil, st_at, List.tail_cons, e_dic, mkD_F, e_key, e_fst, e_bm, e_cmp2, x_never, x_atr, x_una, x_putk, x_putk2, x_uns, opt_some, es_nil, es_cons, et_nil, et_cons, x_ex, x_asg, x_asl, x_ret, x_iff, x_put, x_for, xs_nil, xs_cons, sat_ok, two_T, two_F, two_d, two_n, b_add, b_sub, c_lt, c_le, c_gt, c_ge, f_int, f_len_lst, f_len_tup, List.map_cons, List.map_nil, List.cons_append, List.nil_append, List.replicate, List.getElem?_cons_succ, List.getElem?_cons_zero, List.set_cons_succ, List.set_cons_zero, List.length_cons, List.length_nil, List.length_set, Nat.reduceAdd, Nat.reduceSub, Nat.reduceLT, true_and, and_true, if_true, if_false, List.zip_nil_right, List.zip_nil_left, List.append_nil, starOf]
      exact same_refl n d M Q k (by omega) (pds_mem h.2 hd) q
    · rw [f_all (all_rep _)]
      exact q
  | 0, .tup ds, M, Q, k, _, h, q => by simp [pd] at h
  | 0, .lst ds, M, Q, k, _, h, q => by simp [pd] at h
  | n, .obj _ _ _, M, Q, k, _, h, q => by cases n <;> simp [pd] at h
  | n, .exc _ _ _, M, Q, k, _, h, q => by cases n <;> simp [pd] at h
  | n, .ref _, M, Q, k, _, h, q => by cases n <;> simp [pd] at h
  | n, .fro _, M, Q, k, _, h, q => by cases n <;> simp [pd] at h
  | n, .dct _ _, M, Q, k, _, h, q => by cases n <;> simp [pd] at h
end K06


set_option autoImplicit false
set_option linter.all false
set_option maxRecDepth 100000
set_option maxHeartbeats 4000000
namespace K06
open Ev
theorem w_val_lst {l : List D} : walkOf .val [.lst l] = some l := rfl
theorem bag_spec (n : Nat) (ns : List Int) (M : List O) (Q : D → List O → Prop) (hl : ns.length ≤ 63) (hQ : ∀ cells mark, Q (.ref M.length) (M ++ [.lst (bagL cells 0 0 mark)])) : (callN pg (n + 1) 6 [.fro (ns.map D.int)] [] M).sat Q := by
  refine call_sat (fd := f6) (xs := [.fro (ns.map D.int)]) rfl rfl ?_
  dsimp only [f6]
  simp only [call_cN, e_var, e_cst, e_bin, e_cmp, e_and, e_or, e_ife, e_not, notD_bl, e_neg, negD_int, e_tup, e_lst, mk_F, e_item, e_slc, e_attr, e_isi, e_isis, e_call, e_blt, e_mkx, e_lc, e_mk, e_meth, e_isc, e_oeq, e_olen, e_orep, e_fld, e_prp, e_ccst, e_glo, gloD_int, gloD_str, gloD_tup, e_dsp, mkX_0, mkX_1, ep_nil, ep_cons, spr_F, spr_T, spr_L, e_rev, e_gky, x_unx, unxD_tup, st_nil, st_at, List.tail_cons, e_dic, mkD_F, e_key, e_fst, e_bm, e_cmp2, x_never, x_atr, x_una, x_putk, x_putk2, x_uns, opt_some, es_nil, es_cons, et_nil, et_cons, x_ex, x_asg, x_asl, x_ret, x_iff, x_put, x_for, xs_nil, xs_cons, sat_ok, two_T, two_F, two_d, two_n, b_add, b_sub, c_lt, c_le, c_gt, c_ge, f_int, f_len_lst, f_len_tup, List.map_cons, List.map_nil, List.cons_append, List.nil_append, List.replicate, List.getElem?_cons_succ, List.getElem?_cons_zero, List.set_cons_succ, List.set_cons_zero, List.length_cons, List.length_nil, List.length_set, Nat.reduceAdd, Nat.reduceSub, Nat.reduceLT, true_and, and_true, if_true, if_false, List.zip_nil_right, List.zip_nil_left, List.append_nil, starOf]
  have e : ∀ (Q : D → List O → Prop), (slcD M (.fro (ns.map D.int)) [] [.int 63]).sat Q = Q (.lst (cut (ns.map D.int) none (some 63))) M := fun Q => by simp only [sat_def]; rfl
  rw [e, w_val_lst, opt_some]
  obtain ⟨l, hc, hcl⟩ : ∃ l : List Int, cut (ns.map D.int) none (some 63) = l.map D.int ∧ l.length ≤ 63 := by
    refine ⟨(ns.drop (sx ns.length 0 none)).take (sx ns.length ns.length (some 63) - sx ns.length 0 none), ?_, ?_⟩
    · unfold cut
      rw [List.length_map, List.map_take, List.map_drop]
    · rw [List.length_take, List.length_drop]
      omega
  rw [hc]
  refine comp_sat (fun ds acc M' => M' = M ∧ ∃ p r : List Int, acc = p.map D.int ∧ ds = r.map D.int ∧ p ++ r = l) _ _ _ ⟨rfl, [], l, rfl, rfl, rfl⟩ ?_ ?_
  · rintro d r acc M' ⟨rfl, p, q, h1, h2, h3⟩
    cases q with
    | nil => cases h2
    | cons i q =>
      rw [List.map_cons] at h2
      obtain ⟨rfl, rfl⟩ := List.cons.inj h2
      have hp : p.length < lim := by
        have := congrArg List.length h3
        rw [List.length_append, List.length_cons] at this
        unfold lim
        omega
      refine ⟨by rw [h1, List.length_map]; exact hp, _, rfl, ?_⟩
      rw [et_nil, if_pos rfl]
      simp only [wipeE, pslots]
      simp only [call_cN, e_var, e_cst, e_bin, e_cmp, e_and, e_or, e_ife, e_not, notD_bl, e_neg, negD_int, e_tup, e_lst, mk_F, e_item, e_slc, e_attr, e_isi, e_isis, e_call, e_blt, e_mkx, e_lc, e_mk, e_meth, e_isc, e_oeq, e_olen, e_orep, e_fld, e_prp, e_ccst, e_glo, gloD_int, gloD_str, gloD_tup, e_dsp, mkX_0, mkX_1, ep_nil, ep_cons, spr_F, spr_T, spr_L, e_rev, e_gky, x_unx, unxD_tup, st_nil, st_at, List.tail_cons, e_dic, mkD_F, e_key, e_fst, e_bm, e_cmp2, x_never, x_atr, x_una, x_putk, x_putk2, x_uns, opt_some, es_nil, es_cons, et_nil, et_cons, x_ex, x_asg, x_asl, x_ret, x_iff, x_put, x_for, xs_nil, xs_cons, sat_ok, two_T, two_F, two_d, two_n, b_add, b_sub, c_lt, c_le, c_gt, c_ge, f_int, f_len_lst, f_len_tup, List.map_cons, List.map_nil, List.cons_append, List.nil_append, List.replicate, List.getElem?_cons_succ, List.getElem?_cons_zero, List.set_cons_succ, List.set_cons_zero, List.length_cons, List.length_nil, List.length_set, Nat.reduceAdd, Nat.reduceSub, Nat.reduceLT, true_and, and_true, if_true, if_false, List.zip_nil_right, List.zip_nil_left, List.append_nil, starOf]
      exact ⟨p ++ [i], q, by rw [h1, List.map_append]; rfl, rfl, by rw [List.append_assoc]; exact h3⟩
  · rintro acc M' ⟨rfl, p, q, h1, h2, h3⟩
    have hq : q = [] := by cases q with
      | nil => rfl
      | cons _ _ => cases h2
    subst hq
    rw [List.append_nil] at h3
    subst h3
    subst h1
    simp only [call_cN, e_var, e_cst, e_bin, e_cmp, e_and, e_or, e_ife, e_not, notD_bl, e_neg, negD_int, e_tup, e_lst, mk_F, e_item, e_slc, e_attr, e_isi, e_isis, e_call, e_blt, e_mkx, e_lc, e_mk, e_meth, e_isc, e_oeq, e_olen, e_orep, e_fld, e_prp, e_ccst, e_glo, gloD_int, gloD_str, gloD_tup, e_dsp, mkX_0, mkX_1, ep_nil, ep_cons, spr_F, spr_T, spr_L, e_rev, e_gky, x_unx, unxD_tup, st_nil, st_at, List.tail_cons, e_dic, mkD_F, e_key, e_fst, e_bm, e_cmp2, x_never, x_atr, x_una, x_putk, x_putk2, x_uns, opt_some, es_nil, es_cons, et_nil, et_cons, x_ex, x_asg, x_asl, x_ret, x_iff, x_put, x_for, xs_nil, xs_cons, sat_ok, two_T, two_F, two_d, two_n, b_add, b_sub, c_lt, c_le, c_gt, c_ge, f_int, f_len_lst, f_len_tup, List.map_cons, List.map_nil, List.cons_append, List.nil_append, List.replicate, List.getElem?_cons_succ, List.getElem?_cons_zero, List.set_cons_succ, List.set_cons_zero, List.length_cons, List.length_nil, List.length_set, Nat.reduceAdd, Nat.reduceSub, Nat.reduceLT, true_and, and_true, if_true, if_false, List.zip_nil_right, List.zip_nil_left, List.append_nil, starOf, mul_ok (show -big < (p.map D.int).length ∧ ((p.map D.int).length : Int) < big by rw [List.length_map]; unfold big; omega), w_val_lst]
    refine loop_sat (fun ds env M1 => M1 = M' ∧ (∃ r : List Int, ds = r.map D.int) ∧ ∃ (mark : Int) (x : Option D), env = [some (.fro (ns.map D.int)), some (.lst (p.map D.int)), some (.int mark), x]) _ _ _ ⟨rfl, ⟨p, rfl⟩, _, _, rfl⟩ ?_ ?_
    · rintro d r env M1 ⟨rfl, ⟨l, h1⟩, mark, x, rfl⟩
      cases l with
      | nil => cases h1
      | cons i l =>
        obtain ⟨rfl, rfl⟩ := List.cons.inj h1
        refine ⟨_, rfl, ?_⟩
        simp only [call_cN, e_var, e_cst, e_bin, e_cmp, e_and, e_or, e_ife, e_not, notD_bl, e_neg, negD_int, e_tup, e_lst, mk_F, e_item, e_slc, e_attr, e_isi, e_isis, e_call, e_blt, e_mkx, e_lc, e_mk, e_meth, e_isc, e_oeq, e_olen, e_orep, e_fld, e_prp, e_ccst, e_glo, gloD_int, gloD_str, gloD_tup, e_dsp, mkX_0, mkX_1, ep_nil, ep_cons, spr_F, spr_T, spr_L, e_rev, e_gky, x_unx, unxD_tup, st_nil, st_at, List.tail_cons, e_dic, mkD_F, e_key, e_fst, e_bm, e_cmp2, x_never, x_atr, x_una, x_putk, x_putk2, x_uns, opt_some, es_nil, es_cons, et_nil, et_cons, x_ex, x_asg, x_asl, x_ret, x_iff, x_put, x_for, xs_nil, xs_cons, sat_ok, two_T, two_F, two_d, two_n, b_add, b_sub, c_lt, c_le, c_gt, c_ge, f_int, f_len_lst, f_len_tup, List.map_cons, List.map_nil, List.cons_append, List.nil_append, List.replicate, List.getElem?_cons_succ, List.getElem?_cons_zero, List.set_cons_succ, List.set_cons_zero, List.length_cons, List.length_nil, List.length_set, Nat.reduceAdd, Nat.reduceSub, Nat.reduceLT, true_and, and_true, if_true, if_false, List.zip_nil_right, List.zip_nil_left, List.append_nil, starOf, mul_ok (show -big < (7349 : Int) ∧ (7349 : Int) < big by decide), mod_ok (show (0 : Int) < 2147483477 by decide)]
        exact ⟨⟨l, rfl⟩, _, _, rfl⟩
    · rintro env M1 ⟨rfl, _, mark, x, rfl⟩
      simp only [call_cN, e_var, e_cst, e_bin, e_cmp, e_and, e_or, e_ife, e_not, notD_bl, e_neg, negD_int, e_tup, e_lst, mk_F, e_item, e_slc, e_attr, e_isi, e_isis, e_call, e_blt, e_mkx, e_lc, e_mk, e_meth, e_isc, e_oeq, e_olen, e_orep, e_fld, e_prp, e_ccst, e_glo, gloD_int, gloD_str, gloD_tup, e_dsp, mkX_0, mkX_1, ep_nil, ep_cons, spr_F, spr_T, spr_L, e_rev, e_gky, x_unx, unxD_tup, st_nil, st_at, List.tail_cons, e_dic, mkD_F, e_key, e_fst, e_bm, e_cmp2, x_never, x_atr, x_una, x_putk, x_putk2, x_uns, opt_some, es_nil, es_cons, et_nil, et_cons, x_ex, x_asg, x_asl, x_ret, x_iff, x_put, x_for, xs_nil, xs_cons, sat_ok, two_T, two_F, two_d, two_n, b_add, b_sub, c_lt, c_le, c_gt, c_ge, f_int, f_len_lst, f_len_tup, List.map_cons, List.map_nil, List.cons_append, List.nil_append, List.replicate, List.getElem?_cons_succ, List.getElem?_cons_zero, List.set_cons_succ, List.set_cons_zero, List.length_cons, List.length_nil, List.length_set, Nat.reduceAdd, Nat.reduceSub, Nat.reduceLT, true_and, and_true, if_true, if_false, List.zip_nil_right, List.zip_nil_left, List.append_nil, starOf, mk_T]
      exact ⟨by decide, hQ p mark⟩
theorem of_spec (n : Nat) (M : List O) (a : Nat) (cells : List Int) (i d mark : Int) (l : List D) (Q : D → List O → Prop) (hM : M[a]? = some (.lst (bagL cells i d mark))) (h0 : 0 ≤ i) (hd : 0 ≤ d) (hl : 0 < l.length) (hl2 : (l.length : Int) < 2 ^ 8000)
    (hQ : ∀ (x : D) i' d', x ∈ l → 0 ≤ i' → 0 ≤ d' → Q x (M.set a (.lst (bagL cells i' d' mark)))) : (callN pg (n + 2) 8 [.ref a, .lst l] [] M).sat Q := by
  refine call_sat (fd := f8) (xs := [.ref a, .lst l]) rfl rfl ?_
  dsimp only [f8]
  simp only [call_cN, e_var, e_cst, e_bin, e_cmp, e_and, e_or, e_ife, e_not, notD_bl, e_neg, negD_int, e_tup, e_lst, mk_F, e_item, e_slc, e_attr, e_isi, e_isis, e_call, e_blt, e_mkx, e_lc, e_mk, e_meth, e_isc, e_oeq, e_olen, e_orep, e_fld, e_prp, e_ccst, e_glo, gloD_int, gloD_str, gloD_tup, e_dsp, mkX_0, mkX_1, ep_nil, ep_cons, spr_F, spr_T, spr_L, e_rev, e_gky, x_unx, unxD_tup, st_nil, st_at, List.tail_cons, e_dic, mkD_F, e_key, e_fst, e_bm, e_cmp2, x_never, x_atr, x_una, x_putk, x_putk2, x_uns, opt_some, es_nil, es_cons, et_nil, et_cons, x_ex, x_asg, x_asl, x_ret, x_iff, x_put, x_for, xs_nil, xs_cons, sat_ok, two_T, two_F, two_d, two_n, b_add, b_sub, c_lt, c_le, c_gt, c_ge, f_int, f_len_lst, f_len_tup, List.map_cons, List.map_nil, List.cons_append, List.nil_append, List.replicate, List.getElem?_cons_succ, List.getElem?_cons_zero, List.set_cons_succ, List.set_cons_zero, List.length_cons, List.length_nil, List.length_set, Nat.reduceAdd, Nat.reduceSub, Nat.reduceLT, true_and, and_true, if_true, if_false, List.zip_nil_right, List.zip_nil_left, List.append_nil, starOf]
  refine draw_spec n M a cells i d mark l.length _ hM h0 hd (by omega) hl2 fun r i' d' h1 h2 h3 h4 => ?_
  have hr : r.toNat < l.length := by omega
  exact i_lst r.toNat (by omega) (List.getElem?_eq_getElem hr) (hQ _ i' d' (List.getElem_mem hr) h3 h4)
end K06


set_option autoImplicit false
set_option linter.all false
set_option maxRecDepth 100000
set_option maxHeartbeats 4000000
namespace K06
open Ev
def cT1 : S := (.asg 1 (.call 6 [(.var 0)] [] [] []))
def c1 : S := (.asg 3 (.call 8 [(.var 1), (.lst false [(.cst (.int 0)), (.cst (.int 5)), (.bin .sub (.cst (.int 0)) (.cst (.int 1))), (.cst .non), (.cst (.bl true)), (.cst (.str [50])), (.lst false [(.cst (.int 2))]), (.bin .pow (.cst (.int 10)) (.cst (.int 20)))])] [] [] []))
def c2 : S := (.asg 4 (.call 8 [(.var 1), (.lst false [(.cst (.int 4)), (.bin .sub (.cst (.int 0)) (.cst (.int 1))), (.cst .non), (.cst (.bl true)), (.cst (.str [49])), (.lst false [(.cst (.int 1))])])] [] [] []))
def c3 : S := (.asg 5 (.lst false [(.call 8 [(.var 1), (.lst false [(.cst .non), (.cst (.str [])), (.cst (.str [102, 105, 114, 115, 116])), (.cst (.str [107, 101, 101, 112])), (.cst (.int 3)), (.lst false [(.cst (.str [110, 111, 110, 101]))])])] [] [] []), (.call 8 [(.var 1), (.lst false [(.cst .non), (.cst (.str [])), (.cst (.str [98, 108, 97, 110, 107])), (.cst (.str [99, 108, 101, 97, 114])), (.cst (.str [70, 105, 114, 115, 116])), (.cst (.int 0))])] [] [] []), (.call 8 [(.var 1), (.lst false [(.cst .non), (.cst (.str [])), (.cst (.str [110, 111, 110, 101])), (.cst (.str [98, 108, 97, 110, 107])), (.cst (.str [99, 108, 101, 97, 114, 32])), (.cst (.bl true))])] [] [] [])]))
def c4 : S := (.asg 6 (.gc (.mk 0 true [(.cst (.int 2)), (.cst (.int 3))] [] [] [])))
def c5 : S := (.asg 7 (.lams [0, 1, 2, 3, 4, 5, 6, 7, 8, 9]))
def c6 : S := (.asg 8 (.lst false [(.tup [(.cst (.str [87, 114, 111, 110, 103, 67, 111, 117, 110, 116])), (.tup [(.cst (.int 0))])]), (.tup [(.cst (.str [87, 114, 111, 110, 103, 67, 111, 117, 110, 116])), (.tup [(.cst (.int 4))])]), (.tup [(.cst (.str [73, 110, 118, 97, 108, 105, 100, 78, 117, 109, 98, 101, 114])), (.tup [(.var 3)])]), (.tup [(.cst (.str [73, 110, 118, 97, 108, 105, 100, 78, 117, 109, 98, 101, 114])), (.tup [(.var 4)])]), (.tup [(.cst (.str [73, 110, 118, 97, 108, 105, 100, 87, 111, 114, 100])), (.tup [(.item (.var 5) (.cst (.int 0)))])]), (.tup [(.cst (.str [73, 110, 118, 97, 108, 105, 100, 87, 111, 114, 100])), (.tup [(.item (.var 5) (.cst (.int 1)))])]), (.tup [(.cst (.str [73, 110, 118, 97, 108, 105, 100, 87, 111, 114, 100])), (.tup [(.item (.var 5) (.cst (.int 2)))])]), (.tup [(.cst (.str [73, 110, 118, 97, 108, 105, 100, 70, 105, 101, 108, 100])), (.tup [(.cst (.str [98, 101, 108, 116, 115]))])]), (.tup [(.cst (.str [87, 114, 111, 110, 103, 67, 111, 117, 110, 116])), (.tup [(.cst (.int 0))])]), (.tup [(.cst (.str [73, 110, 118, 97, 108, 105, 100, 78, 117, 109, 98, 101, 114])), (.tup [(.var 4)])])]))
def c7 : S := (.iff (.or (.not (.call 9 [(.whys (.var 7)), (.var 8)] [] [] [])) (.one (.var 6) (.gc (.mk 0 true [(.cst (.int 2)), (.cst (.int 3))] [] [] [])) 3)) [(.ret (.cst (.bl false)))] [])
def cs : List S := [c1, c2, c3, c4, c5, c6, c7]
def cT3 : S := (.ret (.cst (.bl true)))
theorem ceq : flaw.body = [cT1, (.forg (.nm 2) .rng [(.cst (.int 5))] cs), cT3] := rfl
section
variable {C : Ec} {env : En} {M : List O} {Q : D → List O → Prop} {N : En → List O → Prop} {R : D → List O → Prop}
theorem x_forg {p : Pt} {k : Ik} {its : List X} {b : List S} : (exec C (.forg p k its b) env M).sat N R = (evs C its env M).sat fun ds M1 => optSat (walkOf k ds) fun items => (loop (fun env M => gcO M.length (execs C b env M)) p items env M1).sat N R := by
  simp only [osat_def, sat_def]
  rw [exec]
  cases evs C its env M with
  | er => rfl
  | ex _ _ => rfl
  | ok ds M1 =>
    show (match walkOf k ds with
      | some items => loop (fun env M => gcO M.length (execs C b env M)) p items env M1
      | none => Out.er).sat0 N R = optSat (walkOf k ds) _
    cases walkOf k ds <;> rfl
theorem gcO_sat {n : Nat} {o : Out} (h : o.sat (fun env M => belM n (M.take n) = true ∧ N (belE n env) (M.take n)) R) : (gcO n o).sat N R := by
  rw [osat_def] at h ⊢
  cases o with
  | nx env M =>
    obtain ⟨h1, h2⟩ := (h : belM n (M.take n) = true ∧ N (belE n env) (M.take n))
    unfold gcO
    dsimp only
    rw [if_pos h1]
    exact h2
  | rt d M => exact h
  | bk _ _ => exact h
  | ct _ _ => exact False.elim h
  | er => exact h
  | ex _ _ => exact h
theorem e_lams {ns : List Nat} (h : hasTb M = true) : (ev C (.lams ns) env M).sat Q = Q (.lams ns) M := by
  rw [ev, if_pos h, sat_ok]
theorem e_whys {a : X} {ns : List Nat} {M1 : List O} {l : List D} (h : ev C a env M = .ok (.lams ns) M1) (h2 : whysR C env ns [] M1 = .ok l M1) : (ev C (.whys a) env M).sat Q = Q (.lst l) M1 := by
  rw [ev, h]
  simp only [Rs.bind, h2]
  rw [sat_ok]
theorem whys_nil {acc : List D} : whysR C env [] acc M = .ok acc M := rfl
theorem whys_cons {n : Nat} {ns : List Nat} {acc : List D} {d : D} {r : Rs (List D)} (h : whyR (gotR C (C.lev n env M)) = .ok d M) (hl : acc.length < lim) (h2 : whysR C env ns (acc ++ [d]) M = r) : whysR C env (n :: ns) acc M = r := by
  rw [whysR, h]
  simp only [Rs.bind, hl, if_true]
  exact h2
theorem bels_ints {n : Nat} : ∀ l : List Int, bels n (l.map .int) = true
  | [] => rfl
  | i :: l => by rw [List.map_cons, bels, bels_ints l]; rfl
theorem bel_bag {n : Nat} {cells : List Int} {i d mark : Int} : bels n (bagL cells i d mark) = true := by
  unfold bagL
  simp only [bels, bel, bels_ints, Bool.and_self]
end
abbrev E9 (x0 x2 x3 x4 x5 x6 x7 x8 : Option D) : En := [x0, some (.ref 1), x2, x3, x4, x5, x6, x7, x8]
theorem belS_r1 : belS 2 (some (.ref 1)) = some (.ref 1) := rfl
abbrev wOf (s : String) : Tx := s.toList.map Char.toNat
def rms : List D := [.int 0, .int 5, .int (0 - 1), .non, .bl true, .str [50], .lst [.int 2], .int 100000000000000000000]
def nbs : List D := [.int 4, .int (0 - 1), .non, .bl true, .str [49], .lst [.int 1]]
def w0s : List D := [.non, .str [], .str [102, 105, 114, 115, 116], .str [107, 101, 101, 112], .int 3, .lst [.str [110, 111, 110, 101]]]
def w1s : List D := [.non, .str [], .str [98, 108, 97, 110, 107], .str [99, 108, 101, 97, 114], .str [70, 105, 114, 115, 116], .int 0]
def w2s : List D := [.non, .str [], .str [110, 111, 110, 101], .str [98, 108, 97, 110, 107], .str [99, 108, 101, 97, 114, 32], .bl true]
def T23 : D := .obj 0 [[111, 119, 110, 95, 114, 111, 111, 109, 115], [111, 119, 110, 95, 115, 101, 101, 107], [111, 119, 110, 95, 114, 117, 108, 101, 115]] [.lst [.int 2, .int 3], .int 0, .tup [.str [110, 111, 110, 101], .str [102, 105, 114, 115, 116], .str [99, 108, 101, 97, 114]]]
abbrev wWC : Tx := [87, 114, 111, 110, 103, 67, 111, 117, 110, 116]
abbrev wIN : Tx := [73, 110, 118, 97, 108, 105, 100, 78, 117, 109, 98, 101, 114]
abbrev wIW : Tx := [73, 110, 118, 97, 108, 105, 100, 87, 111, 114, 100]
abbrev wIF : Tx := [73, 110, 118, 97, 108, 105, 100, 70, 105, 101, 108, 100]
abbrev tBelts : Tx := [98, 101, 108, 116, 115]
def er1 (w : Tx) (d : D) : D := .tup [.str w, .tup [d]]
section
variable {M : List O} {x0 x2 x3 x4 x5 x7 x8 : Option D} {rm nb w0 w1 w2 : D}
def unGc : X → X
  | .gc a => a
  | x => x
theorem lev_gc {k : Nat} {x : X} {env : En} (h : pg.lam[k]? = some x) (h2 : x = .gc (unGc x)) : (cN pg 12).lev k env M = gcR (ev (cN pg 11) (unGc x) (belE 0 env) []) M := by
  have e : (cN pg 12).lev k env M = (match pg.lam[k]? with
    | some x => ev (cN pg 11) x env M
    | none => .er) := rfl
  rw [e, h]
  show ev (cN pg 11) x env M = _
  rw [h2, ev]
  rfl
abbrev V9 (x0 x2 x7 x8 : Option D) (rm nb w0 w1 w2 : D) : En := [belS 0 x0, none, belS 0 x2, some rm, some nb, some (.lst [w0, w1, w2]), some T23, belS 0 x7, belS 0 x8]
structure Ch (rm nb w0 w1 w2 : D) : Prop where
  hr : rm ∈ rms
  hn : nb ∈ nbs
  h0 : w0 ∈ w0s
  h1 : w1 ∈ w1s
  h2 : w2 ∈ w2s
theorem bel_of {l : List D} {d : D} (h : d ∈ l) (hl : bels 0 l = true) : bel 0 d = true := by
  induction l with
  | nil => cases h
  | cons x l ih =>
    rw [bels, Bool.and_eq_true] at hl
    rcases List.mem_cons.mp h with rfl | h
    · exact hl.1
    · exact ih h hl.2
theorem env9 (h : Ch rm nb w0 w1 w2) : belE 0 (E9 x0 x2 (some rm) (some nb) (some (.lst [w0, w1, w2])) (some T23) x7 x8) = V9 x0 x2 x7 x8 rm nb w0 w1 w2 := by
  have e1 := bel_of h.hr rfl
  have e2 := bel_of h.hn rfl
  have e3 := bel_of h.h0 rfl
  have e4 := bel_of h.h1 rfl
  have e5 := bel_of h.h2 rfl
  simp only [belE, belS, bel, bels, e1, e2, e3, e4, e5, Bool.and_self, if_true]
  rfl
theorem a0 (h : Ch rm nb w0 w1 w2) : whyR (gotR (cN pg 12) ((cN pg 12).lev 0 (E9 x0 x2 (some rm) (some nb) (some (.lst [w0, w1, w2])) (some T23) x7 x8) M)) = .ok (er1 wWC (.int 0)) M := by
  rw [lev_gc (x := lam0) rfl rfl, env9 h]
  kernel_rfl
theorem a1 (h : Ch rm nb w0 w1 w2) : whyR (gotR (cN pg 12) ((cN pg 12).lev 1 (E9 x0 x2 (some rm) (some nb) (some (.lst [w0, w1, w2])) (some T23) x7 x8) M)) = .ok (er1 wWC (.int 4)) M := by
  rw [lev_gc (x := lam1) rfl rfl, env9 h]
  obtain ⟨hr, hn, h0, h1, h2⟩ := h
  simp only [nbs, List.mem_cons, List.not_mem_nil, or_false] at hn
  rcases hn with rfl | rfl | rfl | rfl | rfl | rfl <;> kernel_rfl
theorem a2 (h : Ch rm nb w0 w1 w2) : whyR (gotR (cN pg 12) ((cN pg 12).lev 2 (E9 x0 x2 (some rm) (some nb) (some (.lst [w0, w1, w2])) (some T23) x7 x8) M)) = .ok (er1 wIN rm) M := by
  rw [lev_gc (x := lam2) rfl rfl, env9 h]
  obtain ⟨hr, hn, h0, h1, h2⟩ := h
  simp only [rms, List.mem_cons, List.not_mem_nil, or_false] at hr
  rcases hr with rfl | rfl | rfl | rfl | rfl | rfl | rfl | rfl <;> kernel_rfl
theorem a3 (h : Ch rm nb w0 w1 w2) : whyR (gotR (cN pg 12) ((cN pg 12).lev 3 (E9 x0 x2 (some rm) (some nb) (some (.lst [w0, w1, w2])) (some T23) x7 x8) M)) = .ok (er1 wIN nb) M := by
  rw [lev_gc (x := lam3) rfl rfl, env9 h]
  obtain ⟨hr, hn, h0, h1, h2⟩ := h
  simp only [nbs, List.mem_cons, List.not_mem_nil, or_false] at hn
  rcases hn with rfl | rfl | rfl | rfl | rfl | rfl <;> kernel_rfl
theorem a4 (h : Ch rm nb w0 w1 w2) : whyR (gotR (cN pg 12) ((cN pg 12).lev 4 (E9 x0 x2 (some rm) (some nb) (some (.lst [w0, w1, w2])) (some T23) x7 x8) M)) = .ok (er1 wIW w0) M := by
  rw [lev_gc (x := lam4) rfl rfl, env9 h]
  obtain ⟨hr, hn, h0, h1, h2⟩ := h
  simp only [w0s, List.mem_cons, List.not_mem_nil, or_false] at h0
  rcases h0 with rfl | rfl | rfl | rfl | rfl | rfl <;> kernel_rfl
theorem a5 (h : Ch rm nb w0 w1 w2) : whyR (gotR (cN pg 12) ((cN pg 12).lev 5 (E9 x0 x2 (some rm) (some nb) (some (.lst [w0, w1, w2])) (some T23) x7 x8) M)) = .ok (er1 wIW w1) M := by
  rw [lev_gc (x := lam5) rfl rfl, env9 h]
  obtain ⟨hr, hn, h0, h1, h2⟩ := h
  simp only [w1s, List.mem_cons, List.not_mem_nil, or_false] at h1
  rcases h1 with rfl | rfl | rfl | rfl | rfl | rfl <;> kernel_rfl
theorem a6 (h : Ch rm nb w0 w1 w2) : whyR (gotR (cN pg 12) ((cN pg 12).lev 6 (E9 x0 x2 (some rm) (some nb) (some (.lst [w0, w1, w2])) (some T23) x7 x8) M)) = .ok (er1 wIW w2) M := by
  rw [lev_gc (x := lam6) rfl rfl, env9 h]
  obtain ⟨hr, hn, h0, h1, h2⟩ := h
  simp only [w2s, List.mem_cons, List.not_mem_nil, or_false] at h2
  rcases h2 with rfl | rfl | rfl | rfl | rfl | rfl <;> kernel_rfl
theorem a7 (h : Ch rm nb w0 w1 w2) : whyR (gotR (cN pg 12) ((cN pg 12).lev 7 (E9 x0 x2 (some rm) (some nb) (some (.lst [w0, w1, w2])) (some T23) x7 x8) M)) = .ok (er1 wIF (.str tBelts)) M := by
  rw [lev_gc (x := lam7) rfl rfl, env9 h]
  kernel_rfl
theorem a8 (h : Ch rm nb w0 w1 w2) : whyR (gotR (cN pg 12) ((cN pg 12).lev 8 (E9 x0 x2 (some rm) (some nb) (some (.lst [w0, w1, w2])) (some T23) x7 x8) M)) = .ok (er1 wWC (.int 0)) M := by
  rw [lev_gc (x := lam8) rfl rfl, env9 h]
  kernel_rfl
theorem a9 (h : Ch rm nb w0 w1 w2) : whyR (gotR (cN pg 12) ((cN pg 12).lev 9 (E9 x0 x2 (some rm) (some nb) (some (.lst [w0, w1, w2])) (some T23) x7 x8) M)) = .ok (er1 wIN nb) M := by
  rw [lev_gc (x := lam9) rfl rfl, env9 h]
  obtain ⟨hr, hn, h0, h1, h2⟩ := h
  simp only [nbs, List.mem_cons, List.not_mem_nil, or_false] at hn
  rcases hn with rfl | rfl | rfl | rfl | rfl | rfl <;> kernel_rfl
def due (rm nb w0 w1 w2 : D) : List D := [er1 wWC (.int 0), er1 wWC (.int 4), er1 wIN rm, er1 wIN nb, er1 wIW w0, er1 wIW w1, er1 wIW w2, er1 wIF (.str tBelts), er1 wWC (.int 0), er1 wIN nb]
theorem whys_all (h : Ch rm nb w0 w1 w2) : whysR (cN pg 12) (E9 x0 x2 (some rm) (some nb) (some (.lst [w0, w1, w2])) (some T23) x7 x8) [0, 1, 2, 3, 4, 5, 6, 7, 8, 9] [] M = .ok (due rm nb w0 w1 w2) M := by
  have g : ∀ k, k < 20 → k < lim := fun k h => by unfold lim; omega
  refine whys_cons (a0 h) (g _ (by simp)) (whys_cons (a1 h) (g _ (by simp)) (whys_cons (a2 h) (g _ (by simp)) (whys_cons (a3 h) (g _ (by simp)) (whys_cons (a4 h) (g _ (by simp)) (whys_cons (a5 h) (g _ (by simp)) (whys_cons (a6 h) (g _ (by simp)) (whys_cons (a7 h) (g _ (by simp)) (whys_cons (a8 h) (g _ (by simp)) (whys_cons (a9 h) (g _ (by simp)) (?_))))))))))
  rfl
theorem pd_er {w : Tx} {d : D} (hw : okTx w = true) (hd : pd 1 d) : pd 3 (er1 w d) := by
  have g : ∀ k, k < 20 → k < lim := fun k h => by unfold lim; omega
  unfold er1
  simp only [pd, pds, hw, true_and, and_true]
  exact ⟨g _ (by simp), g _ (by simp), hd⟩
theorem pd_of {n : Nat} {l : List D} {d : D} (h : d ∈ l) (hl : pds n l) : pd n d := by
  induction l with
  | nil => cases h
  | cons x l ih =>
    rw [pds] at hl
    rcases List.mem_cons.mp h with rfl | h
    · exact hl.1
    · exact ih h hl.2
theorem pd_due (h : Ch rm nb w0 w1 w2) : pd 4 (.lst (due rm nb w0 w1 w2)) := by
  have g : ∀ k, k < 20 → k < lim := fun k h => by unfold lim; omega
  have q : ∀ {l : List D} {d : D}, d ∈ l → pds 1 l → pd 1 d := fun a b => pd_of a b
  have c0 : pds 1 rms := by simp [rms, pds, pd, okTx, lim]
  have c1 : pds 1 nbs := by simp [nbs, pds, pd, okTx, lim]
  have c2 : pds 1 w0s := by simp [w0s, pds, pd, okTx, lim]
  have c3 : pds 1 w1s := by simp [w1s, pds, pd, okTx, lim]
  have c4 : pds 1 w2s := by simp [w2s, pds, pd, okTx, lim]
  have t : pd 1 (.str tBelts) := by simp [pd, okTx]
  rw [pd]
  refine ⟨g _ (by simp [due]), ?_⟩
  unfold due
  simp only [pds]
  exact ⟨pd_er (by decide) (by simp [pd]), pd_er (by decide) (by simp [pd]), pd_er (by decide) (q h.hr c0), pd_er (by decide) (q h.hn c1), pd_er (by decide) (q h.h0 c2), pd_er (by decide) (q h.h1 c3), pd_er (by decide) (q h.h2 c4), pd_er (by decide) t, pd_er (by decide) (by simp [pd]), pd_er (by decide) (q h.hn c1), trivial⟩
theorem made_eq {env : En} : ev (cN pg 12) (.gc (.mk 0 true [(.cst (.int 2)), (.cst (.int 3))] [] [] [])) env M = .ok T23 M := by kernel_rfl
theorem one_eq {x3 x4 x5 : Option D} : ev (cN pg 12) (.one (.var 6) (.gc (.mk 0 true [(.cst (.int 2)), (.cst (.int 3))] [] [] [])) 3) (E9 x0 x2 x3 x4 x5 (some T23) x7 x8) M = .ok (.bl false) M := by kernel_rfl
end
end K06


set_option autoImplicit false
set_option linter.all false
set_option maxRecDepth 100000
set_option maxHeartbeats 4000000
namespace K06
open Ev
abbrev MB (cells : List Int) (i d mark : Int) : List O := [.tbl, .lst (bagL cells i d mark)]
section
variable {M : List O} {N : En → List O → Prop} {R : D → List O → Prop} {cells : List Int} {i d mark : Int} {x0 x2 x3 x4 x5 x6 x7 x8 : Option D} {rm nb w0 w1 w2 : D} {Q : D → List O → Prop}
theorem m1000 {m : Int} (h : m ≤ 1000) : m < 2 ^ 8000 := by
  have h2 : (1000 : Int) < 2 ^ 8000 := by
    have : (2 : Int) ^ 8000 = 2 ^ 10 * 2 ^ 7990 := by rw [← Int.pow_add]
    rw [this]
    have h3 : (0 : Int) < 2 ^ 7990 := Int.pow_pos (by decide)
    omega
  omega
theorem ofB {a : Nat} (hM : M[a]? = some (.lst (bagL cells i d mark))) (h0 : 0 ≤ i) (hd : 0 ≤ d) (l : List D) (hl : 0 < l.length) (hl2 : (l.length : Int) ≤ 1000) {n : Nat} (hQ : ∀ (x : D) i' d', x ∈ l → 0 ≤ i' → 0 ≤ d' → Q x (M.set a (.lst (bagL cells i' d' mark)))) : (callN pg (n + 2) 8 [.ref a, .lst l] [] M).sat Q := of_spec n M a cells i d mark l Q hM h0 hd hl (m1000 hl2) hQ
theorem pow20 : (binop .pow (.int 10) (.int 20) M).sat Q = Q (.int 100000000000000000000) M := by rw [sat_def]; rfl
theorem l0 {a b c : D} : (itemD M (.lst [a, b, c]) (.int 0)).sat Q = Q a M := by rw [sat_def]; rfl
theorem l1 {a b c : D} : (itemD M (.lst [a, b, c]) (.int 1)).sat Q = Q b M := by rw [sat_def]; rfl
theorem l2 {a b c : D} : (itemD M (.lst [a, b, c]) (.int 2)).sat Q = Q c M := by rw [sat_def]; rfl
theorem s1 (hi : 0 ≤ i) (hd : 0 ≤ d) (hN : ∀ rm i' d', rm ∈ rms → 0 ≤ i' → 0 ≤ d' → N (E9 x0 x2 (some rm) x4 x5 x6 x7 x8) (MB cells i' d' mark)) : (exec (cN pg 12) c1 (E9 x0 x2 x3 x4 x5 x6 x7 x8) (MB cells i d mark)).sat N R := by
  unfold c1 E9
  simp only [call_cN, e_var, e_cst, e_bin, e_cmp, e_and, e_or, e_ife, e_not, notD_bl, e_neg, negD_int, e_tup, e_lst, mk_F, e_item, e_slc, e_attr, e_isi, e_isis, e_call, e_blt, e_mkx, e_lc, e_mk, e_meth, e_isc, e_oeq, e_olen, e_orep, e_fld, e_prp, e_ccst, e_glo, gloD_int, gloD_str, gloD_tup, e_dsp, mkX_0, mkX_1, ep_nil, ep_cons, spr_F, spr_T, spr_L, e_rev, e_gky, x_unx, unxD_tup, st_nil, st_at, List.tail_cons, e_dic, mkD_F, e_key, e_fst, e_bm, e_cmp2, x_never, x_atr, x_una, x_putk, x_putk2, x_uns, opt_some, es_nil, es_cons, et_nil, et_cons, x_ex, x_asg, x_asl, x_ret, x_iff, x_put, x_for, xs_nil, xs_cons, sat_ok, two_T, two_F, two_d, two_n, b_add, b_sub, c_lt, c_le, c_gt, c_ge, f_int, f_len_lst, f_len_tup, List.map_cons, List.map_nil, List.cons_append, List.nil_append, List.replicate, List.getElem?_cons_succ, List.getElem?_cons_zero, List.set_cons_succ, List.set_cons_zero, List.length_cons, List.length_nil, List.length_set, Nat.reduceAdd, Nat.reduceSub, Nat.reduceLT, true_and, and_true, if_true, if_false, List.zip_nil_right, List.zip_nil_left, List.append_nil, starOf, pow20]
  exact ⟨by decide, by decide, ofB (a := 1) rfl hi hd _ (by simp) (by simp) (n := 10) fun x i' d' hx h1 h2 => hN x i' d' hx h1 h2⟩
theorem s2 (hi : 0 ≤ i) (hd : 0 ≤ d) (hN : ∀ nb i' d', nb ∈ nbs → 0 ≤ i' → 0 ≤ d' → N (E9 x0 x2 x3 (some nb) x5 x6 x7 x8) (MB cells i' d' mark)) : (exec (cN pg 12) c2 (E9 x0 x2 x3 x4 x5 x6 x7 x8) (MB cells i d mark)).sat N R := by
  unfold c2 E9
  simp only [call_cN, e_var, e_cst, e_bin, e_cmp, e_and, e_or, e_ife, e_not, notD_bl, e_neg, negD_int, e_tup, e_lst, mk_F, e_item, e_slc, e_attr, e_isi, e_isis, e_call, e_blt, e_mkx, e_lc, e_mk, e_meth, e_isc, e_oeq, e_olen, e_orep, e_fld, e_prp, e_ccst, e_glo, gloD_int, gloD_str, gloD_tup, e_dsp, mkX_0, mkX_1, ep_nil, ep_cons, spr_F, spr_T, spr_L, e_rev, e_gky, x_unx, unxD_tup, st_nil, st_at, List.tail_cons, e_dic, mkD_F, e_key, e_fst, e_bm, e_cmp2, x_never, x_atr, x_una, x_putk, x_putk2, x_uns, opt_some, es_nil, es_cons, et_nil, et_cons, x_ex, x_asg, x_asl, x_ret, x_iff, x_put, x_for, xs_nil, xs_cons, sat_ok, two_T, two_F, two_d, two_n, b_add, b_sub, c_lt, c_le, c_gt, c_ge, f_int, f_len_lst, f_len_tup, List.map_cons, List.map_nil, List.cons_append, List.nil_append, List.replicate, List.getElem?_cons_succ, List.getElem?_cons_zero, List.set_cons_succ, List.set_cons_zero, List.length_cons, List.length_nil, List.length_set, Nat.reduceAdd, Nat.reduceSub, Nat.reduceLT, true_and, and_true, if_true, if_false, List.zip_nil_right, List.zip_nil_left, List.append_nil, starOf]
  exact ⟨by decide, by decide, ofB (a := 1) rfl hi hd _ (by simp) (by simp) (n := 10) fun x i' d' hx h1 h2 => hN x i' d' hx h1 h2⟩
theorem s3 (hi : 0 ≤ i) (hd : 0 ≤ d) (hN : ∀ w0 w1 w2 i' d', w0 ∈ w0s → w1 ∈ w1s → w2 ∈ w2s → 0 ≤ i' → 0 ≤ d' → N (E9 x0 x2 x3 x4 (some (.lst [w0, w1, w2])) x6 x7 x8) (MB cells i' d' mark)) : (exec (cN pg 12) c3 (E9 x0 x2 x3 x4 x5 x6 x7 x8) (MB cells i d mark)).sat N R := by
  unfold c3 E9
  simp only [call_cN, e_var, e_cst, e_bin, e_cmp, e_and, e_or, e_ife, e_not, notD_bl, e_neg, negD_int, e_tup, e_lst, mk_F, e_item, e_slc, e_attr, e_isi, e_isis, e_call, e_blt, e_mkx, e_lc, e_mk, e_meth, e_isc, e_oeq, e_olen, e_orep, e_fld, e_prp, e_ccst, e_glo, gloD_int, gloD_str, gloD_tup, e_dsp, mkX_0, mkX_1, ep_nil, ep_cons, spr_F, spr_T, spr_L, e_rev, e_gky, x_unx, unxD_tup, st_nil, st_at, List.tail_cons, e_dic, mkD_F, e_key, e_fst, e_bm, e_cmp2, x_never, x_atr, x_una, x_putk, x_putk2, x_uns, opt_some, es_nil, es_cons, et_nil, et_cons, x_ex, x_asg, x_asl, x_ret, x_iff, x_put, x_for, xs_nil, xs_cons, sat_ok, two_T, two_F, two_d, two_n, b_add, b_sub, c_lt, c_le, c_gt, c_ge, f_int, f_len_lst, f_len_tup, List.map_cons, List.map_nil, List.cons_append, List.nil_append, List.replicate, List.getElem?_cons_succ, List.getElem?_cons_zero, List.set_cons_succ, List.set_cons_zero, List.length_cons, List.length_nil, List.length_set, Nat.reduceAdd, Nat.reduceSub, Nat.reduceLT, true_and, and_true, if_true, if_false, List.zip_nil_right, List.zip_nil_left, List.append_nil, starOf]
  refine ⟨by decide, by decide, ofB (a := 1) rfl hi hd _ (by simp) (by simp) (n := 10) fun x i1 d1 hx h1 h2 => ?_⟩
  refine ⟨by decide, ofB (a := 1) rfl h1 h2 _ (by simp) (by simp) (n := 10) fun y i2 d2 hy h3 h4 => ?_⟩
  refine ⟨by decide, ofB (a := 1) rfl h3 h4 _ (by simp) (by simp) (n := 10) fun z i3 d3 hz h5 h6 => ?_⟩
  exact ⟨by simp [lim], hN x y z i3 d3 hx hy hz h5 h6⟩
theorem s4 (hN : N (E9 x0 x2 x3 x4 x5 (some T23) x7 x8) M) : (exec (cN pg 12) c4 (E9 x0 x2 x3 x4 x5 x6 x7 x8) M).sat N R := by
  unfold c4 E9
  rw [x_asg, made_eq, sat_ok]
  exact ⟨by simp, hN⟩
theorem s5 (hM : hasTb M = true) (hN : N (E9 x0 x2 x3 x4 x5 x6 (some (.lams [0, 1, 2, 3, 4, 5, 6, 7, 8, 9])) x8) M) : (exec (cN pg 12) c5 (E9 x0 x2 x3 x4 x5 x6 x7 x8) M).sat N R := by
  unfold c5 E9
  rw [x_asg, e_lams hM]
  exact ⟨by simp, hN⟩
theorem s6 (hN : N (E9 x0 x2 (some rm) (some nb) (some (.lst [w0, w1, w2])) x6 x7 (some (.lst (due rm nb w0 w1 w2)))) M) : (exec (cN pg 12) c6 (E9 x0 x2 (some rm) (some nb) (some (.lst [w0, w1, w2])) x6 x7 x8) M).sat N R := by
  unfold c6 E9
  simp only [call_cN, e_var, e_cst, e_bin, e_cmp, e_and, e_or, e_ife, e_not, notD_bl, e_neg, negD_int, e_tup, e_lst, mk_F, e_item, e_slc, e_attr, e_isi, e_isis, e_call, e_blt, e_mkx, e_lc, e_mk, e_meth, e_isc, e_oeq, e_olen, e_orep, e_fld, e_prp, e_ccst, e_glo, gloD_int, gloD_str, gloD_tup, e_dsp, mkX_0, mkX_1, ep_nil, ep_cons, spr_F, spr_T, spr_L, e_rev, e_gky, x_unx, unxD_tup, st_nil, st_at, List.tail_cons, e_dic, mkD_F, e_key, e_fst, e_bm, e_cmp2, x_never, x_atr, x_una, x_putk, x_putk2, x_uns, opt_some, es_nil, es_cons, et_nil, et_cons, x_ex, x_asg, x_asl, x_ret, x_iff, x_put, x_for, xs_nil, xs_cons, sat_ok, two_T, two_F, two_d, two_n, b_add, b_sub, c_lt, c_le, c_gt, c_ge, f_int, f_len_lst, f_len_tup, List.map_cons, List.map_nil, List.cons_append, List.nil_append, List.replicate, List.getElem?_cons_succ, List.getElem?_cons_zero, List.set_cons_succ, List.set_cons_zero, List.length_cons, List.length_nil, List.length_set, Nat.reduceAdd, Nat.reduceSub, Nat.reduceLT, true_and, and_true, if_true, if_false, List.zip_nil_right, List.zip_nil_left, List.append_nil, starOf, l0, l1, l2]
  repeat (first | exact hN | refine ⟨by simp [lim], ?_⟩)
theorem s7 (h : Ch rm nb w0 w1 w2) (hN : N (E9 x0 x2 (some rm) (some nb) (some (.lst [w0, w1, w2])) (some T23) (some (.lams [0, 1, 2, 3, 4, 5, 6, 7, 8, 9])) (some (.lst (due rm nb w0 w1 w2)))) M) :
    (exec (cN pg 12) c7 (E9 x0 x2 (some rm) (some nb) (some (.lst [w0, w1, w2])) (some T23) (some (.lams [0, 1, 2, 3, 4, 5, 6, 7, 8, 9])) (some (.lst (due rm nb w0 w1 w2)))) M).sat N R := by
  unfold c7
  rw [x_iff, e_or, e_not, e_call, es_cons, e_whys (ns := [0, 1, 2, 3, 4, 5, 6, 7, 8, 9]) rfl (whys_all h)]
  unfold E9
  simp only [call_cN, e_var, e_cst, e_bin, e_cmp, e_and, e_or, e_ife, e_not, notD_bl, e_neg, negD_int, e_tup, e_lst, mk_F, e_item, e_slc, e_attr, e_isi, e_isis, e_call, e_blt, e_mkx, e_lc, e_mk, e_meth, e_isc, e_oeq, e_olen, e_orep, e_fld, e_prp, e_ccst, e_glo, gloD_int, gloD_str, gloD_tup, e_dsp, mkX_0, mkX_1, ep_nil, ep_cons, spr_F, spr_T, spr_L, e_rev, e_gky, x_unx, unxD_tup, st_nil, st_at, List.tail_cons, e_dic, mkD_F, e_key, e_fst, e_bm, e_cmp2, x_never, x_atr, x_una, x_putk, x_putk2, x_uns, opt_some, es_nil, es_cons, et_nil, et_cons, x_ex, x_asg, x_asl, x_ret, x_iff, x_put, x_for, xs_nil, xs_cons, sat_ok, two_T, two_F, two_d, two_n, b_add, b_sub, c_lt, c_le, c_gt, c_ge, f_int, f_len_lst, f_len_tup, List.map_cons, List.map_nil, List.cons_append, List.nil_append, List.replicate, List.getElem?_cons_succ, List.getElem?_cons_zero, List.set_cons_succ, List.set_cons_zero, List.length_cons, List.length_nil, List.length_set, Nat.reduceAdd, Nat.reduceSub, Nat.reduceLT, true_and, and_true, if_true, if_false, List.zip_nil_right, List.zip_nil_left, List.append_nil, starOf]
  have sm : ∀ Q' : D → List O → Prop, Q' (.bl true) M → (callN pg 12 9 [.lst (due rm nb w0 w1 w2), .lst (due rm nb w0 w1 w2)] [] M).sat Q' := fun Q' q => same_refl 4 _ M Q' 7 (by decide) (pd_due h) q
  refine sm _ ?_
  rw [notD_bl, Bool.not_true, two_F]
  have := one_eq (M := M) (x0 := x0) (x2 := x2) (x3 := some rm) (x4 := some nb) (x5 := some (.lst [w0, w1, w2])) (x7 := some (.lams [0, 1, 2, 3, 4, 5, 6, 7, 8, 9])) (x8 := some (.lst (due rm nb w0 w1 w2)))
  unfold E9 at this
  rw [this, sat_ok, two_F]
  exact hN
theorem turn (hi : 0 ≤ i) (hd : 0 ≤ d) (hN : ∀ x2 x3 x4 x5 x6 x7 x8 i' d', 0 ≤ i' → 0 ≤ d' → N (E9 x0 x2 x3 x4 x5 x6 x7 x8) (MB cells i' d' mark)) : (execs (cN pg 12) cs (E9 x0 x2 x3 x4 x5 x6 x7 x8) (MB cells i d mark)).sat N R := by
  unfold cs
  rw [xs_cons]
  refine s1 hi hd fun rm i1 d1 hr h1 h2 => ?_
  rw [xs_cons]
  refine s2 h1 h2 fun nb i2 d2 hn h3 h4 => ?_
  rw [xs_cons]
  refine s3 h3 h4 fun w0 w1 w2 i3 d3 a0 a1 a2 h5 h6 => ?_
  rw [xs_cons]
  refine s4 ?_
  rw [xs_cons]
  refine s5 rfl ?_
  rw [xs_cons]
  refine s6 ?_
  rw [xs_cons]
  refine s7 ⟨hr, hn, a0, a1, a2⟩ ?_
  rw [xs_nil]
  exact hN _ _ _ _ _ _ _ _ _ h5 h6
theorem body_ok (ns : List Int) (h : ns.length ≤ 63) : (execs (cN pg 12) flaw.body ([D.fro (ns.map D.int)].map some ++ List.replicate (flaw.ns - [D.fro (ns.map D.int)].length) none) [.tbl]).sat (fun _ _ => False) (fun d _ => d = .bl true) := by
    rw [ceq]
    have e0 : ([D.fro (ns.map D.int)].map some ++ List.replicate (flaw.ns - [D.fro (ns.map D.int)].length) none : En) = [some (.fro (ns.map D.int)), none, none, none, none, none, none, none, none] := rfl
    rw [e0]
    unfold cT1 cT3
    simp only [call_cN, e_var, e_cst, e_bin, e_cmp, e_and, e_or, e_ife, e_not, notD_bl, e_neg, negD_int, e_tup, e_lst, mk_F, e_item, e_slc, e_attr, e_isi, e_isis, e_call, e_blt, e_mkx, e_lc, e_mk, e_meth, e_isc, e_oeq, e_olen, e_orep, e_fld, e_prp, e_ccst, e_glo, gloD_int, gloD_str, gloD_tup, e_dsp, mkX_0, mkX_1, ep_nil, ep_cons, spr_F, spr_T, spr_L, e_rev, e_gky, x_unx, unxD_tup, st_nil, st_at, List.tail_cons, e_dic, mkD_F, e_key, e_fst, e_bm, e_cmp2, x_never, x_atr, x_una, x_putk, x_putk2, x_uns, opt_some, es_nil, es_cons, et_nil, et_cons, x_ex, x_asg, x_asl, x_ret, x_iff, x_put, x_for, xs_nil, xs_cons, sat_ok, two_T, two_F, two_d, two_n, b_add, b_sub, c_lt, c_le, c_gt, c_ge, f_int, f_len_lst, f_len_tup, List.map_cons, List.map_nil, List.cons_append, List.nil_append, List.replicate, List.getElem?_cons_succ, List.getElem?_cons_zero, List.set_cons_succ, List.set_cons_zero, List.length_cons, List.length_nil, List.length_set, Nat.reduceAdd, Nat.reduceSub, Nat.reduceLT, true_and, and_true, if_true, if_false, List.zip_nil_right, List.zip_nil_left, List.append_nil, starOf]
    refine bag_spec 11 ns _ _ h fun cells mark => ?_
    rw [x_forg]
    simp only [call_cN, e_var, e_cst, e_bin, e_cmp, e_and, e_or, e_ife, e_not, notD_bl, e_neg, negD_int, e_tup, e_lst, mk_F, e_item, e_slc, e_attr, e_isi, e_isis, e_call, e_blt, e_mkx, e_lc, e_mk, e_meth, e_isc, e_oeq, e_olen, e_orep, e_fld, e_prp, e_ccst, e_glo, gloD_int, gloD_str, gloD_tup, e_dsp, mkX_0, mkX_1, ep_nil, ep_cons, spr_F, spr_T, spr_L, e_rev, e_gky, x_unx, unxD_tup, st_nil, st_at, List.tail_cons, e_dic, mkD_F, e_key, e_fst, e_bm, e_cmp2, x_never, x_atr, x_una, x_putk, x_putk2, x_uns, opt_some, es_nil, es_cons, et_nil, et_cons, x_ex, x_asg, x_asl, x_ret, x_iff, x_put, x_for, xs_nil, xs_cons, sat_ok, two_T, two_F, two_d, two_n, b_add, b_sub, c_lt, c_le, c_gt, c_ge, f_int, f_len_lst, f_len_tup, List.map_cons, List.map_nil, List.cons_append, List.nil_append, List.replicate, List.getElem?_cons_succ, List.getElem?_cons_zero, List.set_cons_succ, List.set_cons_zero, List.length_cons, List.length_nil, List.length_set, Nat.reduceAdd, Nat.reduceSub, Nat.reduceLT, true_and, and_true, if_true, if_false, List.zip_nil_right, List.zip_nil_left, List.append_nil, starOf]
    rw [show walkOf .rng [.int 5] = some (upto 0 5) from rfl, opt_some]
    refine loop_sat (fun ds env M => ∃ x0 x2 x3 x4 x5 x6 x7 x8 i d, env = E9 x0 x2 x3 x4 x5 x6 x7 x8 ∧ M = MB cells i d mark ∧ 0 ≤ i ∧ 0 ≤ d) _ _ _ ⟨_, _, _, _, _, _, _, _, _, _, rfl, rfl, Int.le_refl _, Int.le_refl _⟩ ?_ ?_
    · rintro v r env M ⟨x0, x2, x3, x4, x5, x6, x7, x8, i, d, rfl, rfl, hi, hd⟩
      refine ⟨E9 x0 (some v) x3 x4 x5 x6 x7 x8, rfl, ?_⟩
      show (gcO 2 (execs (cN pg 12) cs (E9 x0 (some v) x3 x4 x5 x6 x7 x8) (MB cells i d mark))).sat _ _
      refine gcO_sat ?_
      refine turn hi hd fun x2 x3 x4 x5 x6 x7 x8 i' d' hi' hd' => ⟨?_, ?_⟩
      · show (true && (bels 2 (bagL cells i' d' mark) && true)) = true
        rw [bel_bag]
        rfl
      · exact ⟨_, _, _, _, _, _, _, _, _, _, rfl, rfl, hi', hd'⟩
    · rintro env M ⟨x0, x2, x3, x4, x5, x6, x7, x8, i, d, rfl, rfl, hi, hd⟩
      simp only [call_cN, e_var, e_cst, e_bin, e_cmp, e_and, e_or, e_ife, e_not, notD_bl, e_neg, negD_int, e_tup, e_lst, mk_F, e_item, e_slc, e_attr, e_isi, e_isis, e_call, e_blt, e_mkx, e_lc, e_mk, e_meth, e_isc, e_oeq, e_olen, e_orep, e_fld, e_prp, e_ccst, e_glo, gloD_int, gloD_str, gloD_tup, e_dsp, mkX_0, mkX_1, ep_nil, ep_cons, spr_F, spr_T, spr_L, e_rev, e_gky, x_unx, unxD_tup, st_nil, st_at, List.tail_cons, e_dic, mkD_F, e_key, e_fst, e_bm, e_cmp2, x_never, x_atr, x_una, x_putk, x_putk2, x_uns, opt_some, es_nil, es_cons, et_nil, et_cons, x_ex, x_asg, x_asl, x_ret, x_iff, x_put, x_for, xs_nil, xs_cons, sat_ok, two_T, two_F, two_d, two_n, b_add, b_sub, c_lt, c_le, c_gt, c_ge, f_int, f_len_lst, f_len_tup, List.map_cons, List.map_nil, List.cons_append, List.nil_append, List.replicate, List.getElem?_cons_succ, List.getElem?_cons_zero, List.set_cons_succ, List.set_cons_zero, List.length_cons, List.length_nil, List.length_set, Nat.reduceAdd, Nat.reduceSub, Nat.reduceLT, true_and, and_true, if_true, if_false, List.zip_nil_right, List.zip_nil_left, List.append_nil, starOf]
end
end K06


set_option autoImplicit false
set_option linter.all false
set_option maxRecDepth 100000
set_option maxHeartbeats 4000000
namespace K06
open Ev
theorem law_ok (ns : List Int) (h : ns.length ≤ 63) : ∃ M, bodyR pg 12 flaw [.fro (ns.map D.int)] [.tbl] = .ok (.bl true) M := by
  rcases body_ok ns h with ⟨_, _, _, h⟩ | ⟨d, M, h1, h2⟩
  · exact h.elim
  · refine ⟨M, ?_⟩
    unfold bodyR
    have e : execs (ecN pg 12) flaw.body ([D.fro (ns.map D.int)].map some ++ List.replicate (flaw.ns - [D.fro (ns.map D.int)].length) none) [.tbl] = .rt d M := h1
    simp only [e, h2]
end K06
namespace K06
open PySem PySem.Spec PyProof.Rows L2 Ev
abbrev R : PySem.W.OpenRow := PySem.W.OpenLaw.row PySem.Challenge.rw_ownchute_k06_trackers_refused
abbrev qv : Program := PySem.W.view R.prog [27]
def names0 : List PySem.Str := ["BeltError", "Missing", "WrongCount", "InvalidNumber", "InvalidWord", "InvalidField", "NothingLeft", "is_number", "is_word", "MOST_QUEUES", "MOST_ROOM", "EMPTY_WORDS", "STRANGE_WORDS", "PAUSE_WORDS", "Tracker", "_law_bag", "_law_draw", "_law_of", "_law_same", "_law_field", "_law_got", "_law_why", "_law_whys"]
def names : List PySem.Str := names0
def top (i : Nat) : Stmt := PySem.Challenge.pw_ownchute_k06_trackers_refused.main.body.getD i (.Pass ⟨0, 0, 0, 0⟩)
def clsFn (i j : Nat) : Stmt := match top i with
  | .ClassDef (body := b) .. => b.getD j (.Pass ⟨0, 0, 0, 0⟩)
  | _ => .Pass ⟨0, 0, 0, 0⟩
def lw : Fs := ⟨"law", "law", "law", top 27, ["_law_script", "_law_bag_here", "_law_turn", "_law_room", "_law_number", "_law_words", "_law_made", "_law_asks", "_law_due"], atG "law"⟩
def ss : List Fs := [⟨"__init__", "", "Tracker.__init__", clsFn 17 1, ["self", "seek", "empty", "strange", "pause", "rooms", "room", "word", "known"], atM "Tracker" "__init__"⟩,
  ⟨"changed", "", "Tracker.changed", clsFn 17 7, ["self", "fields", "name", "rooms", "empty", "strange", "pause", "seek"], atM "Tracker" "changed"⟩,
  ⟨"content", "", "Tracker.content", clsFn 17 8, ["self"], atM "Tracker" "content"⟩,
  ⟨"__eq__", "", "Tracker.__eq__", clsFn 17 9, ["self", "other"], atM "Tracker" "__eq__"⟩,
  ⟨"is_number", "is_number", "is_number", top 9, ["value", "low", "high"], atG "is_number"⟩,
  ⟨"is_word", "is_word", "is_word", top 10, ["value", "words"], atG "is_word"⟩,
  ⟨"_law_bag", "_law_bag", "_law_bag", top 19, ["_law_script", "_law_cells", "_law_mark", "_law_cell"], atG "_law_bag"⟩,
  ⟨"_law_draw", "_law_draw", "_law_draw", top 20, ["_law_bag_here", "_law_many", "_law_digit", "_law_cell", "_law_first", "_law_second"], atG "_law_draw"⟩,
  ⟨"_law_of", "_law_of", "_law_of", top 21, ["_law_bag_here", "_law_some"], atG "_law_of"⟩,
  ⟨"_law_same", "_law_same", "_law_same", top 22, ["_law_found", "_law_due", "_law_one", "_law_two"], atG "_law_same"⟩,
  ⟨"_law_field", "_law_field", "_law_field", top 23, ["_law_e"], atG "_law_field"⟩,
  ⟨"_law_got", "_law_got", "_law_got", top 24, ["_law_ask"], atG "_law_got"⟩,
  ⟨"_law_why", "_law_why", "_law_why", top 25, ["_law_ask", "_law_found"], atG "_law_why"⟩,
  ⟨"_law_whys", "_law_whys", "_law_whys", top 26, ["_law_asks", "_law_ask"], atG "_law_whys"⟩,
  lw]
def xs : List (Str × Option Xs) := [("WrongCount", some ⟨"WrongCount", 0, clsFn 3 0, "WrongCount.__init__", [87, 114, 111, 110, 103, 67, 111, 117, 110, 116], some [103, 105, 118, 101, 110]⟩),
  ("InvalidNumber", some ⟨"InvalidNumber", 0, clsFn 4 0, "InvalidNumber.__init__", [73, 110, 118, 97, 108, 105, 100, 78, 117, 109, 98, 101, 114], some [103, 105, 118, 101, 110]⟩),
  ("InvalidWord", some ⟨"InvalidWord", 0, clsFn 5 0, "InvalidWord.__init__", [73, 110, 118, 97, 108, 105, 100, 87, 111, 114, 100], some [103, 105, 118, 101, 110]⟩),
  ("InvalidField", some ⟨"InvalidField", 0, clsFn 6 0, "InvalidField.__init__", [73, 110, 118, 97, 108, 105, 100, 70, 105, 101, 108, 100], some [110, 97, 109, 101]⟩)]
def md : Md := ⟨ss, xs, anc, ["Tracker"], ["MOST_QUEUES", "MOST_ROOM", "EMPTY_WORDS", "STRANGE_WORDS", "PAUSE_WORDS"]⟩
def lz : LTx := ⟨11, 12, 13, true, true⟩
theorem ok_text : (okFs (nmOf md) ss pg.fns && ((xs.all (fun p => match p.2 with
    | some x => xsB x
    | none => true)) && (decide (md.xs.length = md.anc.length) && (decide (md.ss.length = pg.fns.length) && (decide (md.cs.length = pg.cls.length) && (decide (md.gs.length = pg.glo.length) && (decide (md.cs.Nodup) && (txB md pg lz && (headB "law" lw f14 && (decide (flaw.ns = lw.N.length) && (okSs flaw.body (ckL lw (nmOf md) pg lz.bw lz.bs) (defBody lw.st) && (plainA ["_law_script"] (defArgs lw.st) && scB lw.N ["_law_script"] (defScope lw.st))))))))))))) = true := by decide +kernel
def as0 : List Addr := [2, 3, 6, 4, 24, 37, 57, 76, 95, 114, 133, 143, 150, 151, 152, 153, 245, 254, 261, 268, 273, 280, 287, 294, 299, 306, 0, 23, 36, 56, 75, 94, 113, 132, 142, 149, 244, 253, 260, 267, 272, 279, 286, 293, 298, 305, 22, 25, 35, 38, 54, 55, 73, 74, 92, 93, 111, 112, 130, 131]
def as1 : List Addr := [134, 137, 138, 139, 140, 141, 144, 145, 146, 147, 148, 168, 175, 183, 191, 199, 207, 214, 221, 228, 235, 242, 243, 246, 247, 250, 251, 252, 255, 256, 257, 258, 259, 262, 263, 264, 265, 266, 269, 270, 271, 274, 275, 276, 277, 278, 281, 282, 283, 284, 285, 288, 289, 290, 291, 292, 295, 296, 297, 300]
def as2 : List Addr := [302, 303, 304, 53, 72, 91, 110, 129, 167, 161, 174, 182, 190, 198, 206, 213, 220, 227, 234, 241, 48, 49, 50, 51, 52, 67, 68, 69, 70, 71, 86, 87, 88, 89, 90, 105, 106, 107, 108, 109, 124, 125, 126, 127, 128, 162, 163, 164, 165, 166, 169, 170, 171, 172, 173, 181, 189, 197, 205, 208]
def as3 : List Addr := [209, 210, 211, 212, 215, 216, 217, 218, 219, 222, 223, 224, 225, 226, 229, 230, 231, 232, 233, 236, 237, 238, 239, 240]
def asL : List Addr := as0 ++ as1 ++ as2 ++ as3
def fn : List Df := fnsX md pg
abbrev hk : PySem.W.Hook := hookA asL (ckY md pg) fn (tabX md pg)
def ob (s : PySem.W.SharedT) : AlX := obsXA asL (ckY md pg) fn (tabX md pg) (HandSHeadRun.getT s)
theorem ob_eq (s : PySem.W.SharedT) : ob s = hk.obs s.abs := obsXA_eq (HandSHeadRun.getT_eq s)
theorem run_f (w : World) : HandSHeadRun.RunEq R qv hk ob 60000 names (w.withFollow "special-get-raises" false) := by
  intro os
  kernel_rfl
theorem run_t (w : World) : HandSHeadRun.RunEq R qv hk ob 60000 names (w.withFollow "special-get-raises" true) := by
  intro os
  kernel_rfl
theorem run (w : World) : HandSHeadRun.RunEq R qv hk ob 60000 names w := PySem.W.byRow2 "special-get-raises" (P := fun w => HandSHeadRun.RunEq R qv hk ob 60000 names w) run_f run_t w
theorem facts {P : Program} {w : World} {K : PySem.W.Frag} {h : Heap} {mg : Str → Option Value} {f : Addr} (X : K.In h) (G : h.Ns mainGlobals mg) (hfa : mg ("law" : Str) = some (.ref f)) (own : ∀ K : PySem.W.Frag, K.In h → LamX.OwnTab K f h) (c : SaysX (ckY md pg) fn (tabX md pg) w K) :
    ∃ (fd' : FuncData) (cc Pt : Addr), h.get? Pt = some { cls := .none, data := .fields #[] } ∧ K.lookup Pt = none ∧ PySem.W.CodeHd h cc Pt ∧ (∀ (s : Shared) (v : Value), BindsTo s fd' ⟨[v], []⟩ [("_law_script", v)]) ∧
      ∀ base : Heap, LamX.TabB base mg cc Pt → FnOk P w K mg base (L2.CX P w) (6 * (11 + 1) + 14) f fd' ["_law_script"] (fun vs H Q E => vs.length = 1 ∧ ∀ lx : Lx, lx.tp = Pt → spB (GOf K md lx) pg (11 + 1) flaw vs H Q E) := by
  obtain ⟨h1, h2⟩ := He.ba ok_text
  obtain ⟨h2, h3⟩ := He.ba h2
  obtain ⟨h3, h4⟩ := He.ba h3
  obtain ⟨h4, h5⟩ := He.ba h4
  obtain ⟨h5, h6⟩ := He.ba h5
  obtain ⟨h6, h7⟩ := He.ba h6
  obtain ⟨h7, h8⟩ := He.ba h7
  obtain ⟨h8, h9⟩ := He.ba h8
  obtain ⟨h9, h10⟩ := He.ba h9
  obtain ⟨h10, h11⟩ := He.ba h10
  obtain ⟨h11, h12⟩ := He.ba h11
  obtain ⟨h12, h13⟩ := He.ba h12
  exact law_fnL (prog := P) (w := w) (m := md) (P := pg) X G c h2 (of_decide_eq_true h3) (of_decide_eq_true h4) (of_decide_eq_true h5) (of_decide_eq_true h6) (by funext k c; cases c <;> rfl) rfl (of_decide_eq_true h7) h1 (z := lz) h8 (k := 11) (fl := 14) (lw := lw) (fd0 := f14) (fd := flaw) (x := "_law_script") rfl h9 rfl (of_decide_eq_true h10) h11 h12 h13 hfa own
end K06
open PySem PySem.W PySem.Calls PyProof.Rows
set_option maxRecDepth 100000 in
set_option maxHeartbeats 0 in
theorem PySem.Challenge.cw_ownchute_k06_trackers_refused_holds : PySem.Challenge.rw_ownchute_k06_trackers_refused.Holds := by
  w_on; o_law
  refine HandSHeadRun.head_any (r := OpenLaw.row PySem.Challenge.rw_ownchute_k06_trackers_refused) (q := K06.qv) (H := K06.hk) (ob := K06.ob) (M := 60000) (loose := K06.names) (d := HandSHeadRun.topDef (OpenLaw.row PySem.Challenge.rw_ownchute_k06_trackers_refused).prog 27) (kwd := []) K06.ob_eq
    (by kernel_rfl) (fun s => by kernel_rfl) K06.run (by kernel_rfl) (by kernel_rfl) (by kernel_rfl) (by rfl) (by first | assumption | decide +kernel) (by decide +kernel) ⟨rfl, rfl, rfl, rfl, rfl, by decide +kernel⟩ ?hw ?hc
  case hw => w_witness2
  case hc =>
    refine Ev.walk_ownE (l := PySem.Challenge.rw_ownchute_k06_trackers_refused) (n := 63) (k := 6 * (11 + 1) + 14) (x := "_law_script") (CX := fun w => L2.CX (PySem.Challenge.rw_ownchute_k06_trackers_refused).prog w) rfl (by decide) (by kernel_rfl) ⟨rfl, by decide, by decide⟩ (by kernel_rfl) ?F (fun _ _ _ _ _ ⟨_, _, _, _, _, _, _, _, _, _, _, _, z⟩ => z)
    intro w mg fa h Y G hmg0 own
    obtain ⟨K, KX, c⟩ := Y
    have hmg : mg ("law" : PySem.Str) = some (.ref fa) := by
      have e : (HandSHeadRun.topDef (OpenLaw.row PySem.Challenge.rw_ownchute_k06_trackers_refused).prog 27).name = ("law" : PySem.Str) := by kernel_rfl
      rw [← e]
      exact hmg0
    obtain ⟨fd, cc, Pt, q1, q2, q3, hb, hF⟩ := K06.facts (P := (PySem.Challenge.rw_ownchute_k06_trackers_refused).prog) (w := w) KX G hmg own c
    refine ⟨K, KX, fd, [(cc, Pt)], _, fun p hp => ?_, fun p hp => ?_, fun p hp => ?_, hb, fun H a ns hl _ hT hS => ⟨rfl, fun lx hlx => Ev.law_spL (P := K06.pg) (G := Ev.GOf K K06.md lx) (by show H lx.tp = _; rw [hlx]; exact hT (cc, Pt) (List.mem_singleton.mpr rfl)) hS (by decide) (K06.law_ok ns hl)⟩, fun base _ _ TB => hF base (TB (cc, Pt) (List.mem_singleton.mpr rfl))⟩
    · rw [List.mem_singleton.mp hp]; exact q1
    · rw [List.mem_singleton.mp hp]; exact q2
    · rw [List.mem_singleton.mp hp]; exact q3

