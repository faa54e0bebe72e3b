import PyProof.Rows.All
import Wide.All
import OpenK.AllK
import Wide.FinOn
import HandS.ForMost
import HandS.Wide
import HandS.IsInst
import HandS.Walk
import HandS.Zip
import HandS.ExcInit
import HandS.Defaults
import HandS.EndBits
import HandS.HeadEnd
import HandS.WordsExc
import KE.KExcInit
import HandS.ExcField
import KE.KExcIs
import HandS.Head0
import HandS.Head1
import HandS.Head2
import HandS.HeadHook1
import HandS.HeadHook2
import KE.KStateDown
import PySem.Challenge.RW_ownchute_k01_errors_by_themselves
set_option Elab.async false
set_option autoImplicit false
set_option linter.all false
/-! EvA: a small evaluator of a part of Python over plain data: values, expressions, statements. -/
namespace Ev
/-- a text: its code points -/
abbrev Tx := List Nat
/-- a value: immutable data as trees; ref: an object of the mutable heap -/
inductive D where
  | non | bl (b : Bool) | int (i : Int) | str (s : Tx)
  | tup (ds : List D) | lst (ds : List D)
  | obj (c : Nat) (ks : List Tx) (ds : List D)
  | exc (c : Nat) (ks : List Tx) (ds : List D)
  | ref (a : Nat)
  | fro (ds : List D)
/-- a mutable object -/
inductive O where
  | lst (ds : List D) | dic (ks ds : List D) | ins (c : Nat) (ks : List Tx) (ds : List D) | gone
inductive Rs (α : Type) where
  | ok (a : α) (M : List O) | er
def Rs.bind {α β : Type} : Rs α → (α → List O → Rs β) → Rs β
  | .ok a M, f => f a M
  | .er, _ => .er
inductive BOp where | add | sub | mul | fdiv | mod | pow
inductive COp where | eq | ne | lt | le | gt | ge | is | isn | inn | nin
inductive Cl where | int | bool | str | list | tuple | own (c : Nat) | ext (n : Nat)
/-- targets of loops: a name's slot, or several -/
inductive Pt where | nm (i : Nat) | tp (is : List Nat)
/-- what is walked: a value, a range, enumerate, zip -/
inductive Ik where | val | rng | enm | zip
inductive X where
  | var (i : Nat) | cst (d : D) | glo (i : Nat)
  | bin (o : BOp) (a b : X) | neg (a : X)
  | cmp (o : COp) (a b : X) | cmp2 (o p : COp) (a b c : X)
  | and (a b : X) | or (a b : X) | not (a : X) | ife (t a b : X)
  | tup (es : List X) | lst (h : Bool) (es : List X)
  | item (a i : X) | slc (a : X) (lo hi : List X)
  | attr (a : X) (f : Tx)
  | isi (a : X) (c : Cl) | isis (a : X) (cs : List Cl)
  | call (f : Nat) (es : List X)
  | mkx (c : Nat) (kw : Bool) (es : List X)
  | blt (b : Nat) (es : List X)
  | lc (h : Bool) (p : Pt) (e : X) (k : Ik) (its ifs : List X)
inductive S where
  | ex (e : X) | asg (i : Nat) (e : X) | put (o i e : X) | ret (e : X)
  | iff (t : X) (a b : List S) | for (p : Pt) (k : Ik) (its : List X) (b : List S) | whl (t : X) (b : List S)
  | asl (i : Nat) (e : X)
  | never
inductive Out where
  | nx (env : List (Option D)) (M : List O) | rt (d : D) (M : List O)
  | bk (env : List (Option D)) (M : List O) | ct (env : List (Option D)) (M : List O) | er
abbrev En := List (Option D)
/-- the largest length of lists and texts that is reckoned with -/
def lim : Nat := 1000000

/-! ### data -/
def txEq : Tx → Tx → Bool
  | [], [] => true
  | a :: x, b :: y => Nat.beq a b && txEq x y
  | _, _ => false
/-- a text that can be laid -/
def okTx : Tx → Bool
  | [] => true
  | c :: r => Nat.blt c 1000 && okTx r
mutual
/-- plain data, not deeper than n -/
def dat : Nat → D → Bool
  | _, .non => true
  | _, .bl _ => true
  | _, .int _ => true
  | _, .str s => okTx s
  | n + 1, .tup ds => dats n ds
  | n + 1, .lst ds => dats n ds
  | _, _ => false
def dats : Nat → List D → Bool
  | _, [] => true
  | n, d :: ds => dat n d && dats n ds
end
mutual
/-- == of data -/
def eqD : D → D → Bool
  | .non, .non => true
  | .bl a, .bl b => a == b
  | .bl a, .int j => decide ((if a then (1 : Int) else 0) = j)
  | .int i, .bl b => decide (i = (if b then (1 : Int) else 0))
  | .int i, .int j => decide (i = j)
  | .str s, .str t => txEq s t
  | .tup a, .tup b => eqDs a b
  | .lst a, .lst b => eqDs a b
  | _, _ => false
def eqDs : List D → List D → Bool
  | [], [] => true
  | a :: x, b :: y => eqD a b && eqDs x y
  | _, _ => false
end
/-- a mutable list seen as a list -/
def seen (M : List O) : D → D
  | .ref a => match M[a]? with
    | some (.lst ds) => .lst ds
    | _ => .ref a
  | d => d
/-- what can be walked: a list, a tuple -/
def itemsOf (M : List O) (d : D) : Option (List D) := match seen M d with
  | .lst ds => some ds
  | .tup ds => some ds
  | _ => none
/-- a list alone -/
def listOf (M : List O) (d : D) : Option (List D) := match seen M d with
  | .lst ds => some ds
  | _ => none
/-- the items of an immutable list or tuple -/
def fixed : D → Option (List D)
  | .lst ds => some ds
  | .tup ds => some ds
  | _ => none
/-- what can be cut: a list, the script -/
def sliceOf (M : List O) (d : D) : Option (List D) := match seen M d with
  | .lst ds => some ds
  | .fro ds => some ds
  | _ => none
def truth (M : List O) : D → Option Bool
  | .non => some false
  | .bl b => some b
  | _ => none
def flat : D → Bool
  | .non => true | .bl _ => true | .int _ => true | .str _ => true | _ => false
/-- x in xs, for flat things -/
def inD (x : D) : List D → Bool
  | [] => false
  | y :: ys => eqD y x || inD x ys
/-- the place of an index -/
def ixOf (n : Nat) (i : Int) : Option Nat := if 0 ≤ i then (if i.toNat < n then some i.toNat else none) else (if 0 ≤ (n : Int) + i then some ((n : Int) + i).toNat else none)
def big : Int := 18446744073709551616
def binop (o : BOp) (x y : D) (M : List O) : Rs D := match o, x, y with
  | .add, .int i, .int j => .ok (.int (i + j)) M
  | .sub, .int i, .int j => .ok (.int (i - j)) M
  | .mul, .int i, .int j => if (decide (-big < i) && decide (i < big)) || (decide (-big < j) && decide (j < big)) then .ok (.int (i * j)) M else .er
  | .fdiv, .int i, .int j => if decide (0 < j) && decide (j < 2 ^ 8000) then .ok (.int (i / j)) M else .er
  | .mod, .int i, .int j => if 0 < j then .ok (.int (i % j)) M else .er
  | .pow, .int i, .int j => if decide (0 ≤ j) && decide (j ≤ 1000) && decide (0 ≤ i) && decide (i < 1000) then .ok (.int (i ^ j.toNat)) M else .er
  | .add, .str s, .str t => if s.length + t.length ≤ lim then .ok (.str (s ++ t)) M else .er
  | .add, .lst a, .lst b => if a.length + b.length ≤ lim then .ok (.lst (a ++ b)) M else .er
  | _, _, _ => .er
def cmpop (o : COp) (x y : D) (M : List O) : Rs D := match o with
  | .eq => if dat 60 (seen M x) && dat 60 (seen M y) then .ok (.bl (eqD (seen M x) (seen M y))) M else .er
  | .ne => if dat 60 (seen M x) && dat 60 (seen M y) then .ok (.bl (!eqD (seen M x) (seen M y))) M else .er
  | .lt => match x, y with
    | .int i, .int j => .ok (.bl (decide (i < j))) M
    | _, _ => .er
  | .le => match x, y with
    | .int i, .int j => .ok (.bl (decide (i ≤ j))) M
    | _, _ => .er
  | .gt => match x, y with
    | .int i, .int j => .ok (.bl (decide (j < i))) M
    | _, _ => .er
  | .ge => match x, y with
    | .int i, .int j => .ok (.bl (decide (j ≤ i))) M
    | _, _ => .er
  | .is => match y with
    | .non => .ok (.bl (match x with | .non => true | _ => false)) M
    | _ => .er
  | .isn => match y with
    | .non => .ok (.bl (match x with | .non => false | _ => true)) M
    | _ => .er
  | .inn => match itemsOf M y with
    | some ds => if flat x && ds.all flat then .ok (.bl (inD x ds)) M else .er
    | none => .er
  | .nin => match itemsOf M y with
    | some ds => if flat x && ds.all flat then .ok (.bl (!inD x ds)) M else .er
    | none => .er
/-- a slice's bound as a place -/
def sx (n d : Nat) : Option Int → Nat
  | none => d
  | some v => if v < 0 then (v + (n : Int)).toNat else min v.toNat n
/-- the part lo:hi of a list -/
def cut (ds : List D) (lo hi : Option Int) : List D := (ds.drop (sx ds.length 0 lo)).take (sx ds.length ds.length hi - sx ds.length 0 lo)
structure Ec where
  call : Nat → List D → List O → Rs D
  glo : List D
  /-- an exception class: its name, its field's name if it has one -/
  exn : List (Option (Tx × Option Tx))
  /-- whether the exception class c is below another: its own classes, the built-in ones -/
  sub : Nat → Cl → Option Bool
  fuel : Nat
def isA (C : Ec) (d : D) (c : Cl) : Option Bool := match c with
  | .own n => match d with
    | .exc k _ _ => C.sub k (.own n)
    | _ => none
  | .ext n => match d with
    | .exc k _ _ => C.sub k (.ext n)
    | _ => none
  | .int => match d with
    | .non => some false
    | .bl _ => some true
    | .int _ => some true
    | .str _ => some false
    | .tup _ => some false
    | .lst _ => some false
    | _ => none
  | .bool => match d with
    | .non => some false
    | .bl _ => some true
    | .int _ => some false
    | .str _ => some false
    | .tup _ => some false
    | .lst _ => some false
    | _ => none
  | .str => match d with
    | .non => some false
    | .bl _ => some false
    | .int _ => some false
    | .str _ => some true
    | .tup _ => some false
    | .lst _ => some false
    | _ => none
  | .list => match d with
    | .non => some false
    | .bl _ => some false
    | .int _ => some false
    | .str _ => some false
    | .tup _ => some false
    | .lst _ => some true
    | _ => none
  | .tuple => match d with
    | .non => some false
    | .bl _ => some false
    | .int _ => some false
    | .str _ => some false
    | .tup _ => some true
    | .lst _ => some false
    | _ => none
def isAny (C : Ec) (d : D) : List Cl → Option Bool
  | [] => some false
  | c :: cs => match isA C d c, isAny C d cs with
    | some p, some q => some (p || q)
    | _, _ => none
def allTrue : List D → Option Bool
  | [] => some true
  | .bl b :: r => (allTrue r).map (b && ·)
  | _ => none
/-- a field by its name -/
def field : List Tx → List D → Tx → Option D
  | k :: ks, d :: ds, f => if txEq k f then some d else field ks ds f
  | _, _, _ => none
def bltn (b : Nat) (ds : List D) (M : List O) : Rs D := match b, ds with
  | 0, [d] => match itemsOf M d with        -- len
    | some l => .ok (.int l.length) M
    | none => .er
  | 1, [.int i] => .ok (.int i) M           -- int
  | 2, [d] => match listOf M d with         -- all
    | some l => (match allTrue l with
      | some b => .ok (.bl b) M
      | none => .er)
    | none => .er
  | _, _ => .er
def setPs : List Nat → List D → En → Option En
  | [], [], env => some env
  | i :: is, d :: ds, env => if i < env.length then setPs is ds (env.set i (some d)) else none
  | _, _, _ => none
def setP (p : Pt) (d : D) (env : En) : Option En := match p with
  | .nm i => if i < env.length then some (env.set i (some d)) else none
  | .tp is => match d with
    | .tup ds => setPs is ds env
    | _ => none
/-- the slots of a comprehension's own names forgotten -/
def wipeE (env : En) : List Nat → En
  | [] => env
  | i :: is => (wipeE env is).set i none
/-- a loop over items -/
def loop (run : En → List O → Out) (p : Pt) : List D → En → List O → Out
  | [], env, M => .nx env M
  | d :: ds, env, M => match setP p d env with
    | none => .er
    | some env1 => match run env1 M with
      | .nx env2 M2 => loop run p ds env2 M2
      | .ct env2 M2 => loop run p ds env2 M2
      | .bk env2 M2 => .nx env2 M2
      | .rt d M2 => .rt d M2
      | .er => .er
def whl (test : En → List O → Rs D) (run : En → List O → Out) : Nat → En → List O → Out
  | 0, _, _ => .er
  | n + 1, env, M => match test env M with
    | .ok (.bl true) M1 => (match run env M1 with
      | .nx env2 M2 => whl test run n env2 M2
      | .ct env2 M2 => whl test run n env2 M2
      | .bk env2 M2 => .nx env2 M2
      | .rt d M2 => .rt d M2
      | .er => .er)
    | .ok (.bl false) M1 => .nx env M1
    | _ => .er
/-- a comprehension's turns: what is made so far at the left -/
def comp (elt : En → List O → Rs D) (tests : En → List O → Rs Bool) (p : Pt) : List D → List D → En → List O → Rs (List D)
  | [], acc, _, M => .ok acc M
  | d :: ds, acc, env, M => match setP p d env with
    | none => .er
    | some env1 => match tests env1 M with
      | .ok true M1 => (match elt env1 M1 with
        | .ok v M2 => if acc.length < lim then comp elt tests p ds (acc ++ [v]) env M2 else .er
        | .er => .er)
      | .ok false M1 => comp elt tests p ds acc env M1
      | .er => .er
def pairs : Int → List D → List D
  | _, [] => []
  | i, d :: ds => .tup [.int i, d] :: pairs (i + 1) ds
def zips : List D → List D → List D
  | a :: x, b :: y => .tup [a, b] :: zips x y
  | _, _ => []
def upto (lo : Int) : Nat → List D
  | 0 => []
  | n + 1 => .int lo :: upto (lo + 1) n
def alloc (o : O) (M : List O) : Rs D := .ok (.ref M.length) (M ++ [o])
/-- a new list: mutable or not -/
def mkL (h : Bool) (l : List D) (M : List O) : Rs D := match h with
  | true => alloc (.lst l) M
  | false => .ok (.lst l) M
def pslots : Pt → List Nat
  | .nm i => [i]
  | .tp is => is
/-- what a walk gives -/
def walkOf (k : Ik) (ds : List D) : Option (List D) := match k, ds with
  | .val, [d] => fixed d
  | .rng, [.int n] => if n < 100000000 ∧ -100000000 < n then some (upto 0 n.toNat) else none
  | .rng, [.int a, .int b] => if a < 100000000 ∧ b < 100000000 ∧ -100000000 < a ∧ -100000000 < b then some (upto a (b - a).toNat) else none
  | .enm, [.lst l] => some (pairs 0 l)
  | .zip, [.lst a, .lst b] => some (zips a b)
  | .zip, [.tup a, .tup b] => some (zips a b)
  | _, _ => none
/-- a slice's bound: left out, or an int -/
def bnd : List D → Option (Option Int)
  | [] => some none
  | [.int i] => some (some i)
  | _ => none
mutual
def ev (C : Ec) : X → En → List O → Rs D
  | .var i, env, M => match env[i]? with
    | some (some d) => .ok d M
    | _ => .er
  | .cst d, _, M => .ok d M
  | .glo i, _, M => match C.glo[i]? with
    | some d => .ok d M
    | none => .er
  | .bin o a b, env, M => (ev C a env M).bind fun x M1 => (ev C b env M1).bind fun y M2 => binop o x y M2
  | .neg a, env, M => (ev C a env M).bind fun x M1 => match x with
    | .int i => .ok (.int (-i)) M1
    | _ => .er
  | .cmp o a b, env, M => (ev C a env M).bind fun x M1 => (ev C b env M1).bind fun y M2 => cmpop o x y M2
  | .cmp2 o p a b c, env, M => (ev C a env M).bind fun x M1 => (ev C b env M1).bind fun y M2 => (cmpop o x y M2).bind fun z M3 => match z with
    | .bl true => (ev C c env M3).bind fun w M4 => cmpop p y w M4
    | .bl false => .ok (.bl false) M3
    | _ => .er
  | .and a b, env, M => (ev C a env M).bind fun x M1 => match x with
    | .bl true => ev C b env M1
    | .bl false => .ok (.bl false) M1
    | _ => .er
  | .or a b, env, M => (ev C a env M).bind fun x M1 => match x with
    | .bl true => .ok (.bl true) M1
    | .bl false => ev C b env M1
    | _ => .er
  | .not a, env, M => (ev C a env M).bind fun x M1 => match x with
    | .bl b => .ok (.bl (!b)) M1
    | _ => .er
  | .ife t a b, env, M => (ev C t env M).bind fun x M1 => match x with
    | .bl true => ev C a env M1
    | .bl false => ev C b env M1
    | _ => .er
  | .tup es, env, M => (evs C es env M).bind fun ds M1 => if ds.length ≤ lim then .ok (.tup ds) M1 else .er
  | .lst h es, env, M => (evs C es env M).bind fun ds M1 => if ds.length ≤ lim then mkL h ds M1 else .er
  | .item a i, env, M => (ev C a env M).bind fun x M1 => (ev C i env M1).bind fun y M2 => match itemsOf M2 x, y with
    | some ds, .int k => (match ixOf ds.length k with
      | some j => (match ds[j]? with
        | some d => .ok d M2
        | none => .er)
      | none => .er)
    | _, _ => .er
  | .slc a lo hi, env, M => (ev C a env M).bind fun x M1 => (evs C lo env M1).bind fun l M2 => (evs C hi env M2).bind fun r M3 => match sliceOf M3 x, bnd l, bnd r with
    | some ds, some l, some r => .ok (.lst (cut ds l r)) M3
    | _, _, _ => .er
  | .attr a f, env, M => (ev C a env M).bind fun x M1 => match x with
    | .exc _ ks ds => (match field ks ds f with
      | some d => .ok d M1
      | none => .er)
    | _ => .er
  | .isi a c, env, M => (ev C a env M).bind fun x M1 => match isA C (seen M1 x) c with
    | some b => .ok (.bl b) M1
    | none => .er
  | .isis a cs, env, M => (ev C a env M).bind fun x M1 => match isAny C (seen M1 x) cs with
    | some b => .ok (.bl b) M1
    | none => .er
  | .call f es, env, M => (evs C es env M).bind fun ds M1 => C.call f ds M1
  | .mkx c _ es, env, M => (evs C es env M).bind fun ds M1 => match C.exn[c]?, ds with
    | some (some (n, some f)), [d] => .ok (.exc c [f, [99, 111, 100, 101]] [d, .str n]) M1
    | some (some (n, none)), [] => .ok (.exc c [[99, 111, 100, 101]] [.str n]) M1
    | _, _ => .er
  | .blt b es, env, M => (evs C es env M).bind fun ds M1 => bltn b ds M1
  | .lc h p e k its ifs, env, M => (evs C its env M).bind fun ds M1 => match walkOf k ds with
    | some items => (comp (ev C e) (evT C ifs) p items [] (wipeE env (pslots p)) M1).bind fun l M2 => mkL h l M2
    | none => .er
termination_by structural x => x
def evs (C : Ec) : List X → En → List O → Rs (List D)
  | [], _, M => .ok [] M
  | e :: es, env, M => (ev C e env M).bind fun d M1 => (evs C es env M1).bind fun ds M2 => .ok (d :: ds) M2
termination_by structural x => x
def evT (C : Ec) : List X → En → List O → Rs Bool
  | [], _, M => .ok true M
  | e :: es, env, M => (ev C e env M).bind fun d M1 => match d with
    | .bl true => evT C es env M1
    | .bl false => .ok false M1
    | _ => .er
termination_by structural x => x
end

mutual
def exec (C : Ec) : S → En → List O → Out
  | .ex e, env, M => match ev C e env M with
    | .ok _ M1 => .nx env M1
    | .er => .er
  | .asg i e, env, M => match ev C e env M with
    | .ok d M1 => if i < env.length then .nx (env.set i (some d)) M1 else .er
    | .er => .er
  | .asl i e, env, M => match ev C e env M with
    | .ok d M1 => if i < env.length then .nx (env.set i (some d)) M1 else .er
    | .er => .er
  | .put o i e, env, M => match ev C e env M with
    | .ok d M1 => (match ev C o env M1 with
      | .ok (.ref a) M2 => (match ev C i env M2 with
        | .ok (.int k) M3 => (match M3[a]? with
          | some (.lst ds) => (match ixOf ds.length k with
            | some j => .nx env (M3.set a (.lst (ds.set j d)))
            | none => .er)
          | _ => .er)
        | _ => .er)
      | _ => .er)
    | .er => .er
  | .ret e, env, M => match ev C e env M with
    | .ok d M1 => .rt d M1
    | .er => .er
  | .iff t a b, env, M => match ev C t env M with
    | .ok (.bl true) M1 => execs C a env M1
    | .ok (.bl false) M1 => execs C b env M1
    | _ => .er
  | .for p k its b, env, M => match evs C its env M with
    | .ok ds M1 => (match walkOf k ds with
      | some items => loop (execs C b) p items env M1
      | none => .er)
    | .er => .er
  | .whl t b, env, M => whl (ev C t) (execs C b) C.fuel env M
  | .never, _, _ => .er
def execs (C : Ec) : List S → En → List O → Out
  | [], env, M => .nx env M
  | s :: r, env, M => match exec C s env M with
    | .nx env1 M1 => execs C r env1 M1
    | o => o
end
structure FD where
  np : Nat
  ns : Nat
  body : List S
structure Pg where
  fns : List FD
  glo : List D
  exn : List (Option (Tx × Option Tx))
  sub : Nat → Cl → Option Bool
  fuel : Nat
def callN (P : Pg) : Nat → Nat → List D → List O → Rs D
  | 0, _, _, _ => .er
  | n + 1, f, ds, M => match P.fns[f]? with
    | none => .er
    | some fd => if ds.length = fd.np then (match execs ⟨callN P n, P.glo, P.exn, P.sub, P.fuel⟩ fd.body (ds.map some ++ List.replicate (fd.ns - fd.np) none) M with
      | .nx _ M1 => .ok .non M1
      | .rt d M1 => .ok d M1
      | _ => .er) else .er
end Ev


set_option autoImplicit false
set_option Elab.async false
set_option linter.all false
set_option maxRecDepth 100000
set_option maxHeartbeats 4000000
/-! EvB: what a value of the evaluator stands for; worlds. -/
namespace Ev
open PySem PySem.Spec PyProof.Rows L2

/-- the ground: the written part, the exception classes' addresses -/
structure Gs where
  K : PySem.W.Frag
  CA : Nat → Addr
/-- a world: where mutable objects lie, what is immutable, what is locked -/
structure Wd where
  ρ : List Addr
  imm : Hp
  lck : Hp
def sS (s : Tx) : Str := ⟨s.toArray⟩
def zipF : List Tx → List V → List (Str × V)
  | k :: ks, v :: vs => (sS k, v) :: zipF ks vs
  | _, _ => []
/-- what the written part says of a class whose exceptions stand as values -/
structure XIs (K : PySem.W.Frag) (C : Addr) (ks : List Tx) : Prop where
  cl : (PySem.W.clsIn K C).isSome = true
  ga : PySem.W.findIn K (.ref C) "__getattribute__" = some (some (.builtin "BaseException.__getattribute__"))
  gg : PySem.W.findIn K (.ref C) "__getattr__" = some none
  be : PySem.W.subIn K (.ref C) (.type "BaseException") = some true
  hd : PySem.W.hasDictIn K C = true
  ca : PySem.W.findIn K (.ref C) "__class__" = some (some (.builtin "object.__class__"))
  cg : PySem.W.specialIn K (.builtin "object.__class__") "__get__" = some (some (.builtin "getset_descriptor.__get__"))
  ct : PySem.W.takesIn K (.builtin "object.__class__") = some true
  ob : PySem.W.mroIn K C (.type "object") = some true
  no : ∀ k ∈ ks, PySem.W.findIn K (.ref C) (sS k) = some none
mutual
def Rel (G : Gs) (ω : Wd) : D → V → Prop
  | .non, v => v = .non
  | .bl b, v => v = .bl b
  | .int i, v => v = .int i
  | .str s, v => v = .str (sS s)
  | .tup ds, v => ∃ p vs, v = .ref p ∧ SqT G.K ω.imm p vs ∧ Rels G ω ds vs
  | .lst ds, v => ∃ p vs, v = .ref p ∧ ω.imm p = some (.lst vs) ∧ Rels G ω ds vs
  | .obj _ _ _, _ => False
  | .exc c ks ds, v => ∃ p dx fs vs, v = .ref p ∧ ω.imm p = some (exo p (G.CA c) (some dx)) ∧ ω.imm dx = some (exd dx fs) ∧ (∀ f, fs.lookup f = (zipF ks vs).lookup f) ∧ ks.length = ds.length ∧ XIs G.K (G.CA c) ks ∧ Rels G ω ds vs
  | .ref a, v => ∃ p, ω.ρ[a]? = some p ∧ v = .ref p
  | .fro ds, v => ∃ p vs, v = .ref p ∧ SqL G.K ω.imm p vs ∧ Rels G ω ds vs
def Rels (G : Gs) (ω : Wd) : List D → List V → Prop
  | [], vs => vs = []
  | d :: ds, vs => ∃ v r, vs = v :: r ∧ Rel G ω d v ∧ Rels G ω ds r
end
/-- a later world, whatever is locked -/
structure Le0 (ω ω' : Wd) : Prop where
  ρ : ∃ t, ω'.ρ = ω.ρ ++ t
  imm : ∀ p o, ω.imm p = some o → ω'.imm p = some o
theorem Le0.refl (ω : Wd) : Le0 ω ω := ⟨⟨[], by simp⟩, fun _ _ h => h⟩
theorem Le0.trans {a b c : Wd} (h : Le0 a b) (k : Le0 b c) : Le0 a c := by
  obtain ⟨t, e⟩ := h.ρ
  obtain ⟨u, f⟩ := k.ρ
  exact ⟨⟨t ++ u, by rw [f, e, List.append_assoc]⟩, fun p o q => k.imm p o (h.imm p o q)⟩
theorem Le0.at {a b : Wd} (h : Le0 a b) {i : Nat} {p : Addr} (e : a.ρ[i]? = some p) : b.ρ[i]? = some p := by
  obtain ⟨t, q⟩ := h.ρ
  rw [q, List.getElem?_append_left (List.getElem?_eq_some_iff.mp e).1]
  exact e
structure Le (ω ω' : Wd) : Prop where
  ρ : ∃ t, ω'.ρ = ω.ρ ++ t
  imm : ∀ p o, ω.imm p = some o → ω'.imm p = some o
  lck : ω'.lck = ω.lck
theorem Le.le0 {a b : Wd} (h : Le a b) : Le0 a b := ⟨h.ρ, h.imm⟩
theorem Le.refl (ω : Wd) : Le ω ω := ⟨⟨[], by simp⟩, fun _ _ h => h, rfl⟩
theorem Le.trans {a b c : Wd} (h : Le a b) (k : Le b c) : Le a c := by
  obtain ⟨t, e⟩ := h.ρ
  obtain ⟨u, f⟩ := k.ρ
  exact ⟨⟨t ++ u, by rw [f, e, List.append_assoc]⟩, fun p o q => k.imm p o (h.imm p o q), k.lck.trans h.lck⟩
theorem Le.at {a b : Wd} (h : Le a b) {i : Nat} {p : Addr} (e : a.ρ[i]? = some p) : b.ρ[i]? = some p := h.le0.at e
theorem sqT_mono {K : PySem.W.Frag} {H H' : Hp} {a : Addr} {xs : List V} (h : SqT K H a xs) (e : ∀ p o, H p = some o → H' p = some o) : SqT K H' a xs := by
  rcases h with (h | ⟨o, h⟩) | h
  · exact .inl (.inl (e _ _ h))
  · exact .inl (.inr ⟨o, e _ _ h⟩)
  · exact .inr h
theorem sqL_mono {K : PySem.W.Frag} {H H' : Hp} {a : Addr} {xs : List V} (h : SqL K H a xs) (e : ∀ p o, H p = some o → H' p = some o) : SqL K H' a xs := by
  rcases h with (h | ⟨o, h⟩) | h
  · exact .inl (.inl (e _ _ h))
  · exact .inl (.inr ⟨o, e _ _ h⟩)
  · exact .inr h
mutual
theorem Rel.mono0 {G : Gs} {ω ω' : Wd} (h : Le0 ω ω') : ∀ (d : D) (v : V), Rel G ω d v → Rel G ω' d v
  | .non, v, r => by simpa [Rel] using r
  | .bl b, v, r => by simpa [Rel] using r
  | .int i, v, r => by simpa [Rel] using r
  | .str s, v, r => by simpa [Rel] using r
  | .tup ds, v, r => by
    rw [Rel] at r ⊢
    obtain ⟨p, vs, e, s, q⟩ := r
    exact ⟨p, vs, e, sqT_mono s h.imm, Rels.mono0 h ds vs q⟩
  | .lst ds, v, r => by
    rw [Rel] at r ⊢
    obtain ⟨p, vs, e, s, q⟩ := r
    exact ⟨p, vs, e, h.imm _ _ s, Rels.mono0 h ds vs q⟩
  | .fro ds, v, r => by
    rw [Rel] at r ⊢
    obtain ⟨p, vs, e, s, q⟩ := r
    exact ⟨p, vs, e, sqL_mono s h.imm, Rels.mono0 h ds vs q⟩
  | .obj _ _ _, v, r => by
    rw [Rel] at r
    exact r.elim
  | .exc c ks ds, v, r => by
    rw [Rel] at r ⊢
    obtain ⟨p, dx, fs, vs, e, h1, h2, h3, h4, h5, q⟩ := r
    exact ⟨p, dx, fs, vs, e, h.imm _ _ h1, h.imm _ _ h2, h3, h4, h5, Rels.mono0 h ds vs q⟩
  | .ref a, v, r => by
    rw [Rel] at r ⊢
    obtain ⟨p, e, q⟩ := r
    exact ⟨p, h.at e, q⟩
theorem Rels.mono0 {G : Gs} {ω ω' : Wd} (h : Le0 ω ω') : ∀ (ds : List D) (vs : List V), Rels G ω ds vs → Rels G ω' ds vs
  | [], vs, r => by simpa [Rels] using r
  | d :: ds, vs, r => by
    rw [Rels] at r ⊢
    obtain ⟨v, t, e, a, b⟩ := r
    exact ⟨v, t, e, Rel.mono0 h d v a, Rels.mono0 h ds t b⟩
end
theorem Rel.mono {G : Gs} {ω ω' : Wd} (h : Le ω ω') (d : D) (v : V) (r : Rel G ω d v) : Rel G ω' d v := Rel.mono0 h.le0 d v r
theorem Rels.mono {G : Gs} {ω ω' : Wd} (h : Le ω ω') (ds : List D) (vs : List V) (r : Rels G ω ds vs) : Rels G ω' ds vs := Rels.mono0 h.le0 ds vs r
theorem Rels.length {G : Gs} {ω : Wd} : ∀ {ds : List D} {vs : List V}, Rels G ω ds vs → vs.length = ds.length
  | [], vs, r => by rw [Rels] at r; subst r; rfl
  | d :: ds, vs, r => by
    rw [Rels] at r
    obtain ⟨v, t, e, a, b⟩ := r
    subst e
    simp [Rels.length b]
theorem Rels.get {G : Gs} {ω : Wd} : ∀ {ds : List D} {vs : List V} {i : Nat} {d : D}, Rels G ω ds vs → ds[i]? = some d → ∃ v, vs[i]? = some v ∧ Rel G ω d v
  | [], vs, i, d, r, e => by simp at e
  | x :: ds, vs, i, d, r, e => by
    rw [Rels] at r
    obtain ⟨v, t, ev, a, b⟩ := r
    subst ev
    cases i with
    | zero =>
      simp at e
      subst e
      exact ⟨v, rfl, a⟩
    | succ i =>
      have e' : ds[i]? = some d := by simpa using e
      obtain ⟨w, h1, h2⟩ := Rels.get b e'
      exact ⟨w, by simpa using h1, h2⟩
theorem Rels.getV {G : Gs} {ω : Wd} : ∀ {ds : List D} {vs : List V} {i : Nat} {v : V}, Rels G ω ds vs → vs[i]? = some v → ∃ d, ds[i]? = some d ∧ Rel G ω d v
  | [], vs, i, v, r, e => by rw [Rels] at r; subst r; simp at e
  | x :: ds, vs, i, v, r, e => by
    rw [Rels] at r
    obtain ⟨w, t, ev, a, b⟩ := r
    subst ev
    cases i with
    | zero =>
      simp at e
      subst e
      exact ⟨x, rfl, a⟩
    | succ i =>
      have e' : t[i]? = some v := by simpa using e
      obtain ⟨y, h1, h2⟩ := Rels.getV b e'
      exact ⟨y, by simpa using h1, h2⟩
theorem Rels.append {G : Gs} {ω : Wd} : ∀ {ds es : List D} {vs ws : List V}, Rels G ω ds vs → Rels G ω es ws → Rels G ω (ds ++ es) (vs ++ ws)
  | [], es, vs, ws, r, q => by rw [Rels] at r; subst r; simpa using q
  | x :: ds, es, vs, ws, r, q => by
    rw [Rels] at r
    obtain ⟨w, t, ev, a, b⟩ := r
    subst ev
    show Rels G ω (x :: (ds ++ es)) (w :: (t ++ ws))
    rw [Rels]
    exact ⟨w, t ++ ws, rfl, a, Rels.append b q⟩
theorem Rels.one {G : Gs} {ω : Wd} {d : D} {v : V} (h : Rel G ω d v) : Rels G ω [d] [v] := by
  rw [Rels]
  exact ⟨v, [], rfl, h, by rw [Rels]⟩
theorem Rels.cons {G : Gs} {ω : Wd} {d : D} {v : V} {ds : List D} {vs : List V} (h : Rel G ω d v) (t : Rels G ω ds vs) : Rels G ω (d :: ds) (v :: vs) := by
  rw [Rels]
  exact ⟨v, vs, rfl, h, t⟩
theorem Rels.nil {G : Gs} {ω : Wd} : Rels G ω [] [] := by rw [Rels]
theorem Rels.set {G : Gs} {ω : Wd} {d : D} {v : V} (h : Rel G ω d v) : ∀ {ds : List D} {vs : List V} (j : Nat), Rels G ω ds vs → Rels G ω (ds.set j d) (vs.set j v)
  | [], vs, j, r => by rw [Rels] at r; subst r; simpa using (Rels.nil (G := G) (ω := ω))
  | x :: ds, vs, j, r => by
    rw [Rels] at r
    obtain ⟨w, t, ev, a, b⟩ := r
    subst ev
    cases j with
    | zero => exact Rels.cons h b
    | succ j => exact Rels.cons a (Rels.set h j b)
theorem Rels.drop {G : Gs} {ω : Wd} : ∀ {ds : List D} {vs : List V} (j : Nat), Rels G ω ds vs → Rels G ω (ds.drop j) (vs.drop j)
  | [], vs, j, r => by rw [Rels] at r; subst r; simpa using (Rels.nil (G := G) (ω := ω))
  | x :: ds, vs, j, r => by
    rw [Rels] at r
    obtain ⟨w, t, ev, a, b⟩ := r
    subst ev
    cases j with
    | zero => exact Rels.cons a b
    | succ j => simpa using Rels.drop j b
theorem Rels.take {G : Gs} {ω : Wd} : ∀ {ds : List D} {vs : List V} (j : Nat), Rels G ω ds vs → Rels G ω (ds.take j) (vs.take j)
  | [], vs, j, r => by rw [Rels] at r; subst r; simpa using (Rels.nil (G := G) (ω := ω))
  | x :: ds, vs, j, r => by
    rw [Rels] at r
    obtain ⟨w, t, ev, a, b⟩ := r
    subst ev
    cases j with
    | zero => simpa using (Rels.nil (G := G) (ω := ω))
    | succ j => simpa using Rels.cons a (Rels.take j b)

/-- what a mutable object stands for -/
def ORel (G : Gs) (ω : Wd) : O → HO → Prop
  | .lst ds, ho => ∃ vs, ho = .lst vs ∧ Rels G ω ds vs
  | _, _ => False
structure HRel (G : Gs) (ω : Wd) (M : List O) (H : Hp) : Prop where
  imm : ∀ p o, ω.imm p = some o → H p = some o
  lck : ∀ p o, ω.lck p = some o → H p = some o
  len : ω.ρ.length = M.length
  obj : ∀ (a : Nat) o, M[a]? = some o → o ≠ .gone → ∃ p ho, ω.ρ[a]? = some p ∧ H p = some ho ∧ ORel G ω o ho ∧ ω.imm p = none ∧ ω.lck p = none
  nd : ω.ρ.Nodup
  there : ∀ p ∈ ω.ρ, H p ≠ none
  dj : ∀ p o, ω.imm p = some o → ω.lck p = none
  nl : ∀ p ∈ ω.ρ, ω.lck p = none
theorem ORel.mono0 {G : Gs} {ω ω' : Wd} (h : Le0 ω ω') {o : O} {ho : HO} (r : ORel G ω o ho) : ORel G ω' o ho := by
  cases o with
  | lst ds =>
    obtain ⟨vs, e, q⟩ := r
    exact ⟨vs, e, Rels.mono0 h ds vs q⟩
  | _ => exact r.elim
theorem ORel.mono {G : Gs} {ω ω' : Wd} (h : Le ω ω') {o : O} {ho : HO} (r : ORel G ω o ho) : ORel G ω' o ho := by
  cases o with
  | lst ds =>
    obtain ⟨vs, e, q⟩ := r
    exact ⟨vs, e, Rels.mono h ds vs q⟩
  | _ => exact r.elim
def Wd.push (ω : Wd) (p : Addr) : Wd := { ω with ρ := ω.ρ ++ [p] }
def Wd.add (ω : Wd) (p : Addr) (o : HO) : Wd := { ω with imm := upd ω.imm p o }
section
variable {G : Gs} {ω : Wd} {M : List O} {H : Hp} {p : Addr}
theorem HRel.immN (h : HRel G ω M H) (n : H p = none) : ω.imm p = none := by
  cases e : ω.imm p with
  | none => rfl
  | some o => rw [h.imm p o e] at n; cases n
theorem HRel.lckN (h : HRel G ω M H) (n : H p = none) : ω.lck p = none := by
  cases e : ω.lck p with
  | none => rfl
  | some o => rw [h.lck p o e] at n; cases n
theorem Le.push (ω : Wd) (p : Addr) : Le ω (ω.push p) := ⟨⟨[p], rfl⟩, fun _ _ h => h, rfl⟩
theorem Le.add {ω : Wd} {p : Addr} {o : HO} (n : ω.imm p = none) : Le ω (ω.add p o) := ⟨⟨[], by simp [Wd.add]⟩, fun q u h => by
  show upd ω.imm p o q = some u
  rw [upd_ne (ne_of_none h n)]
  exact h, rfl⟩
/-- a new immutable object -/
theorem HRel.addI {o : HO} (h : HRel G ω M H) (n : H p = none) : HRel G (ω.add p o) M (upd H p o) ∧ Le ω (ω.add p o) := by
  have le : Le ω (ω.add p o) := Le.add (h.immN n)
  refine ⟨⟨fun q u e => ?_, fun q u e => ?_, h.len, fun a u e ng => ?_, h.nd, fun q hq => ?_, fun q u e => ?_, h.nl⟩, le⟩
  · have e' : upd ω.imm p o q = some u := e
    by_cases c : q = p
    · subst c
      rw [upd_same] at e' ⊢
      exact e'
    · rw [upd_ne c] at e' ⊢
      exact h.imm q u e'
  · have c : q ≠ p := ne_of_none (h.lck q u e) n
    rw [upd_ne c]
    exact h.lck q u e
  · obtain ⟨q, ho, e1, e2, e3, e4, e5⟩ := h.obj a u e ng
    have c : q ≠ p := ne_of_none e2 n
    refine ⟨q, ho, e1, by rw [upd_ne c]; exact e2, e3.mono le, ?_, e5⟩
    show upd ω.imm p o q = none
    rw [upd_ne c]
    exact e4
  · by_cases c : q = p
    · subst c
      rw [upd_same]
      exact fun z => nomatch z
    · rw [upd_ne c]
      exact h.there q hq
  · have e' : upd ω.imm p o q = some u := e
    by_cases c : q = p
    · subst c
      exact h.lckN n
    · rw [upd_ne c] at e'
      exact h.dj q u e'
/-- a new mutable object -/
theorem HRel.pushM {o : O} {ho : HO} (h : HRel G ω M H) (n : H p = none) (r : ORel G ω o ho) : HRel G (ω.push p) (M ++ [o]) (upd H p ho) ∧ Le ω (ω.push p) := by
  have le := Le.push ω p
  have np : p ∉ ω.ρ := fun z => h.there p z n
  refine ⟨⟨fun q u e => ?_, fun q u e => ?_, ?_, fun a u e ng => ?_, ?_, fun q hq => ?_, h.dj, fun q hq => (List.mem_append.mp (show q ∈ ω.ρ ++ [p] from hq)).elim (h.nl q) (fun z => by simp at z; subst z; exact h.lckN n)⟩, le⟩
  · rw [upd_ne (ne_of_none (h.imm q u e) n)]
    exact h.imm q u e
  · rw [upd_ne (ne_of_none (h.lck q u e) n)]
    exact h.lck q u e
  · show (ω.ρ ++ [p]).length = _
    rw [List.length_append, List.length_append, h.len]
    rfl
  · by_cases c : a < M.length
    · rw [List.getElem?_append_left c] at e
      obtain ⟨q, hq, e1, e2, e3, e4, e5⟩ := h.obj a u e ng
      refine ⟨q, hq, le.at e1, by rw [upd_ne (ne_of_none e2 n)]; exact e2, e3.mono le, e4, e5⟩
    · rw [List.getElem?_append_right (by omega)] at e
      have ea : a = M.length := by
        cases z : a - M.length with
        | zero => omega
        | succ k => rw [z] at e; simp at e
      subst ea
      simp at e
      subst e
      refine ⟨p, ho, ?_, upd_same, r.mono le, h.immN n, h.lckN n⟩
      show (ω.ρ ++ [p])[M.length]? = some p
      rw [← h.len]
      simp
  · show (ω.ρ ++ [p]).Nodup
    rw [List.nodup_append]
    refine ⟨h.nd, by simp, fun a ha b hb => ?_⟩
    simp at hb
    subst hb
    exact fun z => np (z ▸ ha)
  · rcases List.mem_append.mp (show q ∈ ω.ρ ++ [p] from hq) with z | z
    · have c : q ≠ p := fun y => np (by rw [← y]; exact z)
      rw [upd_ne c]
      exact h.there q z
    · simp at z
      subst z
      rw [upd_same]
      exact fun z => nomatch z
/-- a mutable object is changed -/
theorem HRel.setM {a : Nat} {o o' : O} {ho' : HO} (h : HRel G ω M H) (e : M[a]? = some o) (ng : o ≠ .gone) (ep : ω.ρ[a]? = some p) (r : ORel G ω o' ho') : HRel G ω (M.set a o') (upd H p ho') := by
  obtain ⟨p', ho, e1, e2, e3, e4, e5⟩ := h.obj a o e ng
  rw [ep] at e1
  cases e1
  have hN : ∀ b : Nat, ω.ρ[b]? = some p → b = a := fun b hb => by
    obtain ⟨l1, q1⟩ := List.getElem?_eq_some_iff.mp hb
    obtain ⟨l2, q2⟩ := List.getElem?_eq_some_iff.mp ep
    exact (List.getElem_inj h.nd).mp (q1.trans q2.symm)
  refine ⟨fun q u f => ?_, fun q u f => ?_, by rw [List.length_set]; exact h.len, fun b u f ng' => ?_, h.nd, fun q hq => ?_, h.dj, h.nl⟩
  · have c : q ≠ p := fun z => by rw [z, e4] at f; cases f
    rw [upd_ne c]
    exact h.imm q u f
  · have c : q ≠ p := fun z => by rw [z, e5] at f; cases f
    rw [upd_ne c]
    exact h.lck q u f
  · by_cases c : b = a
    · subst c
      rw [List.getElem?_set_self (List.getElem?_eq_some_iff.mp e).1] at f
      cases f
      exact ⟨p, ho', ep, upd_same, r, e4, e5⟩
    · rw [List.getElem?_set_ne (fun z => c z.symm)] at f
      obtain ⟨q, hq, f1, f2, f3, f4, f5⟩ := h.obj b u f ng'
      refine ⟨q, hq, f1, ?_, f3, f4, f5⟩
      have c2 : q ≠ p := fun z => c (hN b (by rw [← z]; exact f1))
      rw [upd_ne c2]
      exact f2
  · by_cases c : q = p
    · subst c
      rw [upd_same]
      exact fun z => nomatch z
    · rw [upd_ne c]
      exact h.there q hq
end

/-! ### locks -/
def Wd.lock (ω : Wd) (p : Addr) (o : HO) : Wd := { ω with lck := upd ω.lck p o }
theorem Le0.lock (ω : Wd) (p : Addr) (o : HO) : Le0 ω (ω.lock p o) := ⟨⟨[], by simp [Wd.lock]⟩, fun _ _ h => h⟩
section
variable {G : Gs} {ω : Wd} {M : List O} {H : Hp} {p : Addr} {o o' : HO}
/-- a new object, locked -/
theorem HRel.lockNew (h : HRel G ω M H) (n : H p = none) : HRel G (ω.lock p o) M (upd H p o) := by
  refine ⟨fun q u e => ?_, fun q u e => ?_, h.len, fun a u e ng => ?_, h.nd, fun q hq => ?_, fun q u e => ?_, fun q hq => ?_⟩
  · rw [upd_ne (ne_of_none (h.imm q u e) n)]
    exact h.imm q u e
  · have e' : upd ω.lck p o q = some u := e
    by_cases c : q = p
    · subst c
      rw [upd_same] at e' ⊢
      exact e'
    · rw [upd_ne c] at e' ⊢
      exact h.lck q u e'
  · obtain ⟨q, ho, e1, e2, e3, e4, e5⟩ := h.obj a u e ng
    have c : q ≠ p := ne_of_none e2 n
    refine ⟨q, ho, e1, by rw [upd_ne c]; exact e2, e3.mono0 (Le0.lock ω p o), e4, ?_⟩
    show upd ω.lck p o q = none
    rw [upd_ne c]
    exact e5
  · by_cases c : q = p
    · subst c
      rw [upd_same]
      exact fun z => nomatch z
    · rw [upd_ne c]
      exact h.there q hq
  · have c : q ≠ p := ne_of_none (h.imm q u e) n
    show upd ω.lck p o q = none
    rw [upd_ne c]
    exact h.dj q u e
  · show upd ω.lck p o q = none
    have c : q ≠ p := fun z => h.there q hq (by rw [z]; exact n)
    rw [upd_ne c]
    exact h.nl q hq
/-- a locked object is changed by its owner -/
theorem HRel.relock (h : HRel G ω M H) (l : ω.lck p = some o) : HRel G (ω.lock p o') M (upd H p o') := by
  refine ⟨fun q u e => ?_, fun q u e => ?_, h.len, fun a u e ng => ?_, h.nd, fun q hq => ?_, fun q u e => ?_, fun q hq => ?_⟩
  · have c : q ≠ p := fun z => by
      have := h.dj q u e
      rw [z, l] at this
      cases this
    rw [upd_ne c]
    exact h.imm q u e
  · have e' : upd ω.lck p o' q = some u := e
    by_cases c : q = p
    · subst c
      rw [upd_same] at e' ⊢
      exact e'
    · rw [upd_ne c] at e' ⊢
      exact h.lck q u e'
  · obtain ⟨q, ho, e1, e2, e3, e4, e5⟩ := h.obj a u e ng
    have c : q ≠ p := fun z => by rw [z, l] at e5; cases e5
    refine ⟨q, ho, e1, by rw [upd_ne c]; exact e2, e3.mono0 (Le0.lock ω p o'), e4, ?_⟩
    show upd ω.lck p o' q = none
    rw [upd_ne c]
    exact e5
  · by_cases c : q = p
    · subst c
      rw [upd_same]
      exact fun z => nomatch z
    · rw [upd_ne c]
      exact h.there q hq
  · show upd ω.lck p o' q = none
    have c : q ≠ p := fun z => by
      have := h.dj q u e
      rw [z, l] at this
      cases this
    rw [upd_ne c]
    exact h.dj q u e
  · show upd ω.lck p o' q = none
    have c : q ≠ p := fun z => by
      have := h.nl q hq
      rw [z, l] at this
      cases this
    rw [upd_ne c]
    exact h.nl q hq
/-- the lock goes, the object stands for ever -/
theorem HRel.unlockI {l0 : Hp} (h : HRel G ω M H) (l : ω.lck = upd l0 p o) (l1 : l0 p = none) : HRel G { ω with imm := upd ω.imm p o, lck := l0 } M H ∧ Le0 ω { ω with imm := upd ω.imm p o, lck := l0 } := by
  have lp : ω.lck p = some o := by rw [l, upd_same]
  have nr : p ∉ ω.ρ := fun z => by
    have := h.nl p z
    rw [lp] at this
    cases this
  have ip : ω.imm p = none := by
    cases e : ω.imm p with
    | none => rfl
    | some u =>
      have := h.dj p u e
      rw [lp] at this
      cases this
  have le : Le0 ω { ω with imm := upd ω.imm p o, lck := l0 } := ⟨⟨[], by simp⟩, fun q u e => by
    show upd ω.imm p o q = some u
    rw [upd_ne (ne_of_none e ip)]
    exact e⟩
  refine ⟨⟨fun q u e => ?_, fun q u e => ?_, h.len, fun a u e ng => ?_, h.nd, h.there, fun q u e => ?_, fun q hq => ?_⟩, le⟩
  · have e' : upd ω.imm p o q = some u := e
    by_cases c : q = p
    · subst c
      rw [upd_same] at e'
      cases e'
      exact h.lck q _ lp
    · rw [upd_ne c] at e'
      exact h.imm q u e'
  · have e' : l0 q = some u := e
    have c : q ≠ p := ne_of_none e' l1
    exact h.lck q u (by rw [l, upd_ne c]; exact e')
  · obtain ⟨q, ho, e1, e2, e3, e4, e5⟩ := h.obj a u e ng
    have c : q ≠ p := fun z => nr (by rw [← z]; exact List.mem_of_getElem? e1)
    refine ⟨q, ho, e1, e2, e3.mono0 le, ?_, ?_⟩
    · show upd ω.imm p o q = none
      rw [upd_ne c]
      exact e4
    · show l0 q = none
      rw [l, upd_ne c] at e5
      exact e5
  · show l0 q = none
    have e' : upd ω.imm p o q = some u := e
    by_cases c : q = p
    · subst c
      exact l1
    · rw [upd_ne c] at e'
      have := h.dj q u e'
      rw [l, upd_ne c] at this
      exact this
  · show l0 q = none
    have c : q ≠ p := fun z => nr (by rw [← z]; exact hq)
    have := h.nl q hq
    rw [l, upd_ne c] at this
    exact this
/-- the lock goes, the object becomes a mutable one -/
theorem HRel.unlockM {l0 : Hp} {ob : O} (h : HRel G ω M H) (l : ω.lck = upd l0 p o) (l1 : l0 p = none) (r : ORel G ω ob o) : HRel G { ω with ρ := ω.ρ ++ [p], lck := l0 } (M ++ [ob]) H ∧ Le0 ω { ω with ρ := ω.ρ ++ [p], lck := l0 } := by
  have lp : ω.lck p = some o := by rw [l, upd_same]
  have nr : p ∉ ω.ρ := fun z => by
    have := h.nl p z
    rw [lp] at this
    cases this
  have ip : ω.imm p = none := by
    cases e : ω.imm p with
    | none => rfl
    | some u =>
      have := h.dj p u e
      rw [lp] at this
      cases this
  have le : Le0 ω { ω with ρ := ω.ρ ++ [p], lck := l0 } := ⟨⟨[p], rfl⟩, fun q u e => e⟩
  refine ⟨⟨h.imm, fun q u e => ?_, ?_, fun a u e ng => ?_, ?_, fun q hq => ?_, fun q u e => ?_, fun q hq => ?_⟩, le⟩
  · have e' : l0 q = some u := e
    have c : q ≠ p := ne_of_none e' l1
    exact h.lck q u (by rw [l, upd_ne c]; exact e')
  · show (ω.ρ ++ [p]).length = _
    rw [List.length_append, List.length_append, h.len]
    rfl
  · by_cases c : a < M.length
    · rw [List.getElem?_append_left c] at e
      obtain ⟨q, ho, e1, e2, e3, e4, e5⟩ := h.obj a u e ng
      have cq : q ≠ p := fun z => nr (by rw [← z]; exact List.mem_of_getElem? e1)
      refine ⟨q, ho, le.at e1, e2, e3.mono0 le, e4, ?_⟩
      show l0 q = none
      rw [l, upd_ne cq] at e5
      exact e5
    · rw [List.getElem?_append_right (by omega)] at e
      have ea : a = M.length := by
        cases z : a - M.length with
        | zero => omega
        | succ k => rw [z] at e; simp at e
      subst ea
      simp at e
      subst e
      refine ⟨p, o, ?_, h.lck p o lp, r.mono0 le, ip, l1⟩
      show (ω.ρ ++ [p])[M.length]? = some p
      rw [← h.len]
      simp
  · show (ω.ρ ++ [p]).Nodup
    rw [List.nodup_append]
    refine ⟨h.nd, by simp, fun a ha b hb => ?_⟩
    simp at hb
    subst hb
    intro z
    exact nr (by rw [← z]; exact ha)
  · rcases List.mem_append.mp (show q ∈ ω.ρ ++ [p] from hq) with z | z
    · exact h.there q z
    · simp at z
      subst z
      rw [h.lck q o lp]
      exact fun z => nomatch z
  · show l0 q = none
    have c : q ≠ p := fun z => by rw [z, ip] at e; cases e
    have := h.dj q u e
    rw [l, upd_ne c] at this
    exact this
  · show l0 q = none
    rcases List.mem_append.mp (show q ∈ ω.ρ ++ [p] from hq) with z | z
    · have c : q ≠ p := fun y => nr (by rw [← y]; exact z)
      have := h.nl q z
      rw [l, upd_ne c] at this
      exact this
    · simp at z
      subst z
      exact l1
end

/-! ### what is wanted behind an evaluation -/
def Post {α β : Type} (G : Gs) (RelA : Wd → α → β → Prop) (ω : Wd) (r : Rs α) (Q : β → Hp → Prop) : Prop := match r with
  | .ok d M' => ∀ ω' H' v, Le ω ω' → HRel G ω' M' H' → RelA ω' d v → Q v H'
  | .er => False
abbrev PostE (G : Gs) := Post G (Rel G)
abbrev PostL (G : Gs) := Post G (Rels G)
theorem Post.mono {α β : Type} {G : Gs} {RelA : Wd → α → β → Prop} {ω ω1 : Wd} {r : Rs α} {Q : β → Hp → Prop} (h : Post G RelA ω r Q) (le : Le ω ω1) : Post G RelA ω1 r Q := by
  cases r with
  | ok d M => exact fun ω' H' v l => h ω' H' v (le.trans l)
  | er => exact h
theorem Post.bind {α β γ δ : Type} {G : Gs} {RA : Wd → α → β → Prop} {RB : Wd → γ → δ → Prop} {ω : Wd} {r : Rs α} {f : α → List O → Rs γ} {Q : δ → Hp → Prop} {Q' : β → Hp → Prop} (h : Post G RB ω (r.bind f) Q)
    (k : ∀ d M1 ω1 H1 v, Le ω ω1 → HRel G ω1 M1 H1 → RA ω1 d v → Post G RB ω1 (f d M1) Q → Q' v H1) : Post G RA ω r Q' := by
  cases r with
  | ok d M => exact fun ω1 H1 v le hh rv => k d M ω1 H1 v le hh rv (Post.mono h le)
  | er => exact h
theorem Post.here {α β : Type} {G : Gs} {RelA : Wd → α → β → Prop} {ω : Wd} {d : α} {M : List O} {v : β} {H : Hp} {Q : β → Hp → Prop} (h : Post G RelA ω (.ok d M) Q) (hh : HRel G ω M H) (r : RelA ω d v) : Q v H := h ω H v (Le.refl ω) hh r
structure EnvRel (G : Gs) (ω : Wd) (env : En) (σ : L2.St) : Prop where
  len : env.length = σ.length
  val : ∀ (i : Nat) d, env[i]? = some (some d) → ∃ v, σ[i]? = some (some v) ∧ Rel G ω d v
theorem EnvRel.mono0 {G : Gs} {ω ω' : Wd} {env : En} {σ : L2.St} (h : EnvRel G ω env σ) (le : Le0 ω ω') : EnvRel G ω' env σ :=
  ⟨h.len, fun i d e => let ⟨v, a, b⟩ := h.val i d e; ⟨v, a, Rel.mono0 le d v b⟩⟩
theorem EnvRel.mono {G : Gs} {ω ω' : Wd} {env : En} {σ : L2.St} (h : EnvRel G ω env σ) (le : Le ω ω') : EnvRel G ω' env σ :=
  ⟨h.len, fun i d e => let ⟨v, a, b⟩ := h.val i d e; ⟨v, a, Rel.mono le d v b⟩⟩
theorem EnvRel.set {G : Gs} {ω : Wd} {env : En} {σ : L2.St} {i : Nat} {d : D} {v : V} (h : EnvRel G ω env σ) (r : Rel G ω d v) (hi : i < env.length) : EnvRel G ω (env.set i (some d)) (σ.set i (some v)) := by
  refine ⟨by rw [List.length_set, List.length_set]; exact h.len, fun j e q => ?_⟩
  by_cases c : i = j
  · subst c
    rw [List.getElem?_set_self hi] at q
    cases q
    exact ⟨v, by rw [List.getElem?_set_self (by rw [← h.len]; exact hi)], r⟩
  · rw [List.getElem?_set_ne c] at q ⊢
    exact h.val j e q
end Ev


set_option autoImplicit false
set_option Elab.async false
set_option linter.all false
set_option maxRecDepth 100000
set_option maxHeartbeats 4000000
/-! EvC: operators and built-in calls, by values. -/
namespace Ev
open PySem PySem.Spec PyProof.Rows L2
theorem lim_le : lim ≤ sizeLine := by
  rw [sizeLine_eq]
  decide
section
variable {G : Gs} {ω : Wd} {M : List O} {H : Hp}
/-- a mutable or immutable list -/
theorem listOf_ok {d : D} {v : V} {ds : List D} (h : HRel G ω M H) (r : Rel G ω d v) (e : listOf M d = some ds) : ∃ p vs, v = .ref p ∧ H p = some (.lst vs) ∧ Rels G ω ds vs := by
  unfold listOf seen at e
  cases d with
  | lst es =>
    simp at e
    subst e
    rw [Rel] at r
    obtain ⟨p, vs, e1, e2, q⟩ := r
    exact ⟨p, vs, e1, h.imm _ _ e2, q⟩
  | ref a =>
    rw [Rel] at r
    obtain ⟨p, e1, e2⟩ := r
    cases c : M[a]? with
    | none => simp [c] at e
    | some o =>
      cases o with
      | lst es =>
        simp [c] at e
        subst e
        obtain ⟨p', ho, f1, f2, ⟨vs, f3, f4⟩, _⟩ := h.obj a _ c (fun z => nomatch z)
        rw [e1] at f1
        cases f1
        exact ⟨p, vs, e2, by rw [f2, f3], f4⟩
      | _ => simp [c] at e
  | _ => simp at e
theorem itemsOf_ok {d : D} {v : V} {ds : List D} (h : HRel G ω M H) (r : Rel G ω d v) (e : itemsOf M d = some ds) : ∃ p vs, v = .ref p ∧ (H p = some (.lst vs) ∨ SqT G.K H p vs) ∧ Rels G ω ds vs := by
  cases c : listOf M d with
  | some es =>
    have : es = ds := by
      unfold listOf at c
      unfold itemsOf at e
      split at c
      · rename_i z
        rw [z] at e
        simp at c e
        rw [← c, ← e]
      · cases c
    subst this
    obtain ⟨p, vs, e1, e2, e3⟩ := listOf_ok h r c
    exact ⟨p, vs, e1, .inl e2, e3⟩
  | none =>
    unfold listOf at c
    unfold itemsOf at e
    split at e
    · rename_i z
      rw [z] at c
      cases c
    · rename_i l z
      simp at e
      subst e
      cases d with
      | tup es =>
        unfold seen at z
        cases z
        rw [Rel] at r
        obtain ⟨p, vs, e1, e2, q⟩ := r
        exact ⟨p, vs, e1, .inr (sqT_mono e2 h.imm), q⟩
      | ref a =>
        unfold seen at z
        dsimp only at z
        split at z <;> cases z
      | _ => unfold seen at z; cases z
    · cases e
theorem sliceOf_ok {d : D} {v : V} {ds : List D} (h : HRel G ω M H) (r : Rel G ω d v) (e : sliceOf M d = some ds) : ∃ p vs, v = .ref p ∧ SqL G.K H p vs ∧ Rels G ω ds vs := by
  cases c : listOf M d with
  | some es =>
    have : es = ds := by
      unfold listOf at c
      unfold sliceOf at e
      split at c
      · rename_i z
        rw [z] at e
        simp at c e
        rw [← c, ← e]
      · cases c
    subst this
    obtain ⟨p, vs, e1, e2, e3⟩ := listOf_ok h r c
    exact ⟨p, vs, e1, SqL.of e2, e3⟩
  | none =>
    unfold listOf at c
    unfold sliceOf at e
    split at e
    · rename_i z
      rw [z] at c
      cases c
    · rename_i l z
      simp at e
      subst e
      cases d with
      | fro es =>
        unfold seen at z
        cases z
        rw [Rel] at r
        obtain ⟨p, vs, e1, e2, q⟩ := r
        exact ⟨p, vs, e1, sqL_mono e2 h.imm, q⟩
      | ref a =>
        unfold seen at z
        dsimp only at z
        split at z <;> cases z
      | _ => unfold seen at z; cases z
    · cases e
end

/-! ### data -/
theorem txEq_iff : ∀ {a b : Tx}, txEq a b = true ↔ a = b
  | [], [] => by simp [txEq]
  | [], _ :: _ => by simp [txEq]
  | _ :: _, [] => by simp [txEq]
  | x :: a, y :: b => by
    simp only [txEq, Bool.and_eq_true, List.cons.injEq]
    rw [txEq_iff (a := a) (b := b)]
    exact ⟨fun ⟨h1, h2⟩ => ⟨Nat.eq_of_beq_eq_true h1, h2⟩, fun ⟨h1, h2⟩ => ⟨by subst h1; exact Nat.beq_refl x, h2⟩⟩
theorem sS_inj {a b : Tx} : sS a = sS b ↔ a = b := by
  unfold sS
  constructor
  · intro h
    have := congrArg (fun z : Str => z.cps.toList) h
    simpa using this
  · intro h
    rw [h]
theorem txEq_str (a b : Tx) : (sS a == sS b) = txEq a b := by
  by_cases h : a = b
  · subst h
    rw [txEq_iff.mpr rfl]
    exact beq_self_eq_true _
  · have h1 : txEq a b = false := by
      cases c : txEq a b with
      | false => rfl
      | true => exact absurd (txEq_iff.mp c) h
    rw [h1]
    exact beq_eq_false_iff_ne.mpr fun z => h (sS_inj.mp z)
mutual
def toP : D → PyData
  | .non => .none
  | .bl b => .bool b
  | .int i => .int i
  | .str s => .str (sS s)
  | .tup ds => .tuple (toPs ds)
  | .lst ds => .list (toPs ds)
  | _ => .none
def toPs : List D → List PyData
  | [] => []
  | d :: ds => toP d :: toPs ds
end
mutual
theorem dp_of {G : Gs} {ω : Wd} {H : Hp} (hi : ∀ p o, ω.imm p = some o → H p = some o) : ∀ (n : Nat) (d : D) (v : V), dat n d = true → Rel G ω d v → Dp G.K H v (toP d)
  | n, .non, v, _, r => by
    rw [Rel] at r
    subst r
    rw [toP]
    exact .non
  | n, .bl b, v, _, r => by
    rw [Rel] at r
    subst r
    rw [toP]
    exact .bl b
  | n, .int i, v, _, r => by
    rw [Rel] at r
    subst r
    rw [toP]
    exact .int i
  | n, .str s, v, _, r => by
    rw [Rel] at r
    subst r
    rw [toP]
    exact .str _
  | n + 1, .tup ds, v, h, r => by
    rw [Rel] at r
    rw [dat] at h
    obtain ⟨p, vs, e, s, q⟩ := r
    subst e
    rw [toP]
    exact .tup (sqT_mono s hi) (dps_of hi n ds vs h q)
  | n + 1, .lst ds, v, h, r => by
    rw [Rel] at r
    rw [dat] at h
    obtain ⟨p, vs, e, s, q⟩ := r
    subst e
    rw [toP]
    exact .lst (SqL.of (hi _ _ s)) (dps_of hi n ds vs h q)
  | 0, .tup ds, v, h, _ => by simp [dat] at h
  | 0, .lst ds, v, h, _ => by simp [dat] at h
  | n, .obj _ _ _, v, h, _ => by cases n <;> simp [dat] at h
  | n, .exc _ _ _, v, h, _ => by cases n <;> simp [dat] at h
  | n, .ref _, v, h, _ => by cases n <;> simp [dat] at h
  | n, .fro _, v, h, _ => by cases n <;> simp [dat] at h
theorem dps_of {G : Gs} {ω : Wd} {H : Hp} (hi : ∀ p o, ω.imm p = some o → H p = some o) : ∀ (n : Nat) (ds : List D) (vs : List V), dats n ds = true → Rels G ω ds vs → DpAll G.K H vs (toPs ds)
  | n, [], vs, _, r => by
    rw [Rels] at r
    subst r
    rw [toPs]
    exact .nil
  | n, d :: ds, vs, h, r => by
    rw [Rels] at r
    rw [dats, Bool.and_eq_true] at h
    obtain ⟨v, t, e, a, b⟩ := r
    subst e
    rw [toPs]
    exact .cons (dp_of hi n d v h.1 a) (dps_of hi n ds t h.2 b)
end
theorem okTx_all : ∀ {s : Tx}, okTx s = true → PyData.strOk (sS s) = true
  | s, h => by
    have : ∀ s : Tx, okTx s = true → ∀ c ∈ s, c < 1114112 := fun s => by
      induction s with
      | nil => intro _ c hc; cases hc
      | cons x r ih =>
        intro h c hc
        rw [okTx, Bool.and_eq_true] at h
        rcases List.mem_cons.mp hc with e | e
        · subst e
          have := Nat.le_of_ble_eq_true h.1
          omega
        · exact ih h.2 c e
    unfold PyData.strOk sS
    simp only [List.all_toArray, List.all_eq_true, decide_eq_true_eq]
    exact fun c hc => this s h c hc
mutual
theorem can_of : ∀ (n : Nat) (d : D), dat n d = true → (toP d).canLay0 = true ∧ (toP d).depth ≤ n
  | n, .non, _ => by rw [toP]; exact ⟨rfl, by simp [PyData.depth]⟩
  | n, .bl b, _ => by rw [toP]; exact ⟨rfl, by simp [PyData.depth]⟩
  | n, .int i, _ => by rw [toP]; exact ⟨rfl, by simp [PyData.depth]⟩
  | n, .str s, h => by
    have h' : okTx s = true := by cases n <;> simpa [dat] using h
    rw [toP]
    exact ⟨by simpa [PyData.canLay0] using okTx_all h', by simp [PyData.depth]⟩
  | n + 1, .tup ds, h => by
    rw [dat] at h
    have q := cans_of n ds h
    rw [toP]
    exact ⟨by simpa [PyData.canLay0] using q.1, by simp only [PyData.depth]; omega⟩
  | n + 1, .lst ds, h => by
    rw [dat] at h
    have q := cans_of n ds h
    rw [toP]
    exact ⟨by simpa [PyData.canLay0] using q.1, by simp only [PyData.depth]; omega⟩
  | 0, .tup ds, h => by simp [dat] at h
  | 0, .lst ds, h => by simp [dat] at h
  | n, .obj _ _ _, h => by cases n <;> simp [dat] at h
  | n, .exc _ _ _, h => by cases n <;> simp [dat] at h
  | n, .ref _, h => by cases n <;> simp [dat] at h
  | n, .fro _, h => by cases n <;> simp [dat] at h
theorem cans_of : ∀ (n : Nat) (ds : List D), dats n ds = true → PyData.canLayAll0 (toPs ds) = true ∧ PyData.depthAll (toPs ds) ≤ n
  | n, [], _ => by rw [toPs]; exact ⟨rfl, by simp [PyData.depthAll]⟩
  | n, d :: ds, h => by
    rw [dats, Bool.and_eq_true] at h
    have a := can_of n d h.1
    have b := cans_of n ds h.2
    rw [toPs]
    refine ⟨by simp [PyData.canLayAll0, a.1, b.1], ?_⟩
    simp only [PyData.depthAll]
    omega
end
theorem shaped_of {d : D} (h : dat 60 d = true) : SeqAt.shaped (toP d) = true := by
  have q := can_of 60 d h
  unfold SeqAt.shaped
  rw [q.1]
  simp only [Bool.true_and, decide_eq_true_eq]
  omega
theorem dec_beq (i j : Int) : (i == j) = decide (i = j) := rfl
mutual
theorem eqv_of : ∀ (n m : Nat) (d e : D), dat n d = true → dat m e = true → PyData.eqv (toP d) (toP e) = eqD d e
  | n, m, .non, e, _, he => by cases e <;> (first | (cases m <;> simp [dat] at he; done) | simp [toP, PyData.eqv, eqD])
  | n, m, .bl b, e, _, he => by cases e <;> (first | (cases m <;> simp [dat] at he; done) | simp [toP, PyData.eqv, eqD, dec_beq])
  | n, m, .int i, e, _, he => by cases e <;> (first | (cases m <;> simp [dat] at he; done) | simp [toP, PyData.eqv, eqD, dec_beq])
  | n, m, .str s, e, _, he => by cases e <;> (first | (cases m <;> simp [dat] at he; done) | simp [toP, PyData.eqv, eqD, txEq_str])
  | n + 1, m, .tup ds, e, hd, he => by
    cases e with
    | tup es =>
      cases m with
      | zero => simp [dat] at he
      | succ m =>
        rw [dat] at hd he
        simp only [toP, PyData.eqv, eqD]
        exact eqvs_of n m ds es hd he
    | _ => first | (cases m <;> simp [dat] at he; done) | simp [toP, PyData.eqv, eqD]
  | n + 1, m, .lst ds, e, hd, he => by
    cases e with
    | lst es =>
      cases m with
      | zero => simp [dat] at he
      | succ m =>
        rw [dat] at hd he
        simp only [toP, PyData.eqv, eqD]
        exact eqvs_of n m ds es hd he
    | _ => first | (cases m <;> simp [dat] at he; done) | simp [toP, PyData.eqv, eqD]
  | 0, m, .tup ds, e, h, _ => by simp [dat] at h
  | 0, m, .lst ds, e, h, _ => by simp [dat] at h
  | n, m, .obj _ _ _, e, h, _ => by cases n <;> simp [dat] at h
  | n, m, .exc _ _ _, e, h, _ => by cases n <;> simp [dat] at h
  | n, m, .ref _, e, h, _ => by cases n <;> simp [dat] at h
  | n, m, .fro _, e, h, _ => by cases n <;> simp [dat] at h
theorem eqvs_of : ∀ (n m : Nat) (ds es : List D), dats n ds = true → dats m es = true → PyData.eqvAll (toPs ds) (toPs es) = eqDs ds es
  | n, m, [], [], _, _ => by simp [toPs, PyData.eqvAll, eqDs]
  | n, m, [], _ :: _, _, _ => by simp [toPs, PyData.eqvAll, eqDs]
  | n, m, _ :: _, [], _, _ => by simp [toPs, PyData.eqvAll, eqDs]
  | n, m, d :: ds, e :: es, hd, he => by
    rw [dats, Bool.and_eq_true] at hd he
    simp only [toPs, PyData.eqvAll, eqDs]
    rw [eqv_of n m d e hd.1 he.1, eqvs_of n m ds es hd.2 he.2]
end
end Ev


set_option autoImplicit false
set_option Elab.async false
set_option linter.all false
set_option maxRecDepth 100000
set_option maxHeartbeats 4000000
/-! EvD: operators and built-in calls as rules. -/
namespace Ev
open PySem PySem.Spec PyProof.Rows L2
def bo : BOp → Operator
  | .add => .Add | .sub => .Sub | .mul => .Mult | .fdiv => .FloorDiv | .mod => .Mod | .pow => .Pow
def co : COp → CmpOp
  | .eq => .Eq | .ne => .NotEq | .lt => .Lt | .le => .LtE | .gt => .Gt | .ge => .GtE | .is => .Is | .isn => .IsNot | .inn => .In | .nin => .NotIn
def rB (G : Gs) (o : BOp) : R2 := fun x y H Q => ∃ ω M d e, HRel G ω M H ∧ Rel G ω d x ∧ Rel G ω e y ∧ PostE G ω (binop o d e M) Q
def rC (G : Gs) (o : COp) : R2 := fun x y H Q => ∃ ω M d e, HRel G ω M H ∧ Rel G ω d x ∧ Rel G ω e y ∧ PostE G ω (cmpop o d e M) Q
section
variable {G : Gs} {ω : Wd} {M : List O} {H : Hp} {Q : VK}
theorem post_int {i : Int} (h : PostE G ω (.ok (.int i) M) Q) (hh : HRel G ω M H) : Q (.int i) H := Post.here h hh (by rw [Rel])
theorem post_bl {b : Bool} (h : PostE G ω (.ok (.bl b) M) Q) (hh : HRel G ω M H) : Q (.bl b) H := Post.here h hh (by rw [Rel])
theorem post_str {s : Tx} (h : PostE G ω (.ok (.str s) M) Q) (hh : HRel G ω M H) : Q (.str (sS s)) H := Post.here h hh (by rw [Rel])
/-- a new immutable list -/
theorem post_lst {ds : List D} {vs : List V} {p : Addr} (h : PostE G ω (.ok (.lst ds) M) Q) (hh : HRel G ω M H) (n : H p = none) (r : Rels G ω ds vs) : Q (.ref p) (upd H p (.lst vs)) := by
  obtain ⟨h2, le⟩ := hh.addI (o := .lst vs) n
  refine h _ _ _ le h2 ?_
  rw [Rel]
  exact ⟨p, vs, rfl, upd_same, Rels.mono le _ _ r⟩
theorem post_tup {ds : List D} {vs : List V} {p : Addr} (h : PostE G ω (.ok (.tup ds) M) Q) (hh : HRel G ω M H) (n : H p = none) (r : Rels G ω ds vs) : Q (.ref p) (upd H p (.tup vs)) := by
  obtain ⟨h2, le⟩ := hh.addI (o := .tup vs) n
  refine h _ _ _ le h2 ?_
  rw [Rel]
  exact ⟨p, vs, rfl, .inl (.inl upd_same), Rels.mono le _ _ r⟩
/-- a new mutable list -/
theorem post_new {ds : List D} {vs : List V} {p : Addr} (h : PostE G ω (alloc (.lst ds) M) Q) (hh : HRel G ω M H) (n : H p = none) (r : Rels G ω ds vs) : Q (.ref p) (upd H p (.lst vs)) := by
  obtain ⟨h2, le⟩ := hh.pushM (o := .lst ds) (ho := .lst vs) n ⟨vs, rfl, r⟩
  refine h _ _ _ le h2 ?_
  rw [Rel]
  refine ⟨p, ?_, rfl⟩
  show (ω.ρ ++ [p])[M.length]? = some p
  rw [← hh.len]
  simp
end
theorem sS_len (s : Tx) : (sS s).length = s.length := by
  unfold sS
  simp [Str.length]
theorem sS_app (s t : Tx) : sS s ++ sS t = sS (s ++ t) := by
  unfold sS
  show Str.append _ _ = _
  unfold Str.append
  simp
theorem log_of {j : Int} (h0 : 0 < j) (h : j < 2 ^ 8000) : j.natAbs.log2 < 9000 := by
  have h1 : j.natAbs < 2 ^ 8000 := by
    have e : ((j.natAbs : Nat) : Int) = j := Int.natAbs_of_nonneg (by omega)
    have h2 : ((j.natAbs : Nat) : Int) < ((2 ^ 8000 : Nat) : Int) := by
      rw [e]
      exact_mod_cast h
    exact_mod_cast h2
  have := PySem.Flt.log2_lt_of (by decide : 0 < 8000) h1
  omega
section
variable {G : Gs} {Y : L2.Cx}
theorem opB (o : BOp) : OpR Y (binaryOp (bo o)) (rB G o) := by
  intro pins s σ H x y v u Q I rx ry h
  obtain ⟨ω, M, d, e, hh, rd, re, post⟩ := h
  unfold binop at post
  split at post
  · rw [Rel] at rd re
    subst rd re
    exact op_add pins s σ H _ _ v u Q I rx ry ⟨_, _, rfl, rfl, post_int post hh⟩
  · rw [Rel] at rd re
    subst rd re
    exact op_sub pins s σ H _ _ v u Q I rx ry ⟨_, _, rfl, rfl, post_int post hh⟩
  · rename_i i j
    rw [Rel] at rd re
    subst rd re
    split at post
    · rename_i c
      have c' : CMul i j := by
        unfold big at c
        simp only [Bool.or_eq_true, Bool.and_eq_true, decide_eq_true_eq] at c
        unfold CMul
        have e : (2 : Int) ^ 64 = 18446744073709551616 := by decide
        rw [e]
        exact c
      exact op_mul pins s σ H _ _ v u Q I rx ry ⟨_, _, rfl, rfl, c', post_int post hh⟩
    · exact False.elim post
  · rename_i i j
    rw [Rel] at rd re
    subst rd re
    split at post
    · rename_i c
      simp only [Bool.and_eq_true, decide_eq_true_eq] at c
      exact op_fdivW pins s σ H _ _ v u Q I rx ry ⟨_, _, rfl, rfl, ⟨c.1, log_of c.1 c.2⟩, post_int post hh⟩
    · exact False.elim post
  · rename_i i j
    rw [Rel] at rd re
    subst rd re
    split at post
    · rename_i c
      exact op_mod pins s σ H _ _ v u Q I rx ry ⟨_, _, rfl, rfl, c, post_int post hh⟩
    · exact False.elim post
  · rename_i i j
    rw [Rel] at rd re
    subst rd re
    split at post
    · rename_i c
      simp only [Bool.and_eq_true, decide_eq_true_eq] at c
      obtain ⟨⟨⟨c1, c2⟩, c3⟩, c4⟩ := c
      refine op_pow pins s σ H _ _ v u Q I rx ry ⟨_, _, rfl, rfl, ⟨c1, by omega, ?_⟩, post_int post hh⟩
      have : i.natAbs < 1000 := by omega
      exact Nat.lt_of_lt_of_le this (by decide)
    · exact False.elim post
  · rename_i a b
    rw [Rel] at rd re
    subst rd re
    split at post
    · rename_i c
      refine op_add_str pins s σ H _ _ v u Q I rx ry ⟨_, _, rfl, rfl, ?_, ?_⟩
      · rw [sS_len, sS_len]
        exact Nat.le_trans c lim_le
      · rw [sS_app]
        exact post_str post hh
    · exact False.elim post
  · rename_i a b
    rw [Rel] at rd re
    obtain ⟨p, vs, rfl, ip, rp⟩ := rd
    obtain ⟨q, ws, rfl, iq, rq⟩ := re
    split at post
    · rename_i c
      refine op_cat pins s σ H _ _ v u Q I rx ry ⟨_, _, _, _, rfl, rfl, hh.imm _ _ ip, hh.imm _ _ iq, ?_, fun r hr => post_lst post hh hr (rp.append rq)⟩
      rw [rp.length, rq.length]
      exact Nat.le_trans c lim_le
    · exact False.elim post
  · exact False.elim post
theorem seen_ok {ω : Wd} {M : List O} {H : Hp} {d : D} {v : V} (h : HRel G ω M H) (r : Rel G ω d v) (hd : dat 60 (seen M d) = true) : Dp G.K H v (toP (seen M d)) := by
  cases d with
  | ref a =>
    have e : ∃ ds, listOf M (.ref a) = some ds ∧ seen M (.ref a) = .lst ds := by
      unfold listOf
      cases c : M[a]? with
      | none =>
        have : seen M (.ref a) = .ref a := by unfold seen; dsimp only; rw [c]
        rw [this] at hd
        simp [dat] at hd
      | some o =>
        cases o with
        | lst ds =>
          have : seen M (.ref a) = .lst ds := by unfold seen; dsimp only; rw [c]
          exact ⟨ds, by rw [this], this⟩
        | _ =>
          have : seen M (.ref a) = .ref a := by unfold seen; dsimp only; rw [c]
          rw [this] at hd
          simp [dat] at hd
    obtain ⟨ds, e1, e2⟩ := e
    rw [e2] at hd ⊢
    obtain ⟨p, vs, f1, f2, f3⟩ := listOf_ok h r e1
    subst f1
    rw [toP]
    rw [dat] at hd
    exact .lst (SqL.of f2) (dps_of h.imm _ ds vs hd f3)
  | _ => exact dp_of h.imm 60 _ v hd r
theorem flat_ok {ω : Wd} {d : D} {v : V} (h : flat d = true) (r : Rel G ω d v) : flatV v = true := by
  cases d with
  | non => rw [Rel] at r; subst r; rfl
  | bl b => rw [Rel] at r; subst r; rfl
  | int b => rw [Rel] at r; subst r; rfl
  | str b => rw [Rel] at r; subst r; rfl
  | _ => cases h
theorem eq_ok {ω : Wd} {d e : D} {v w : V} (hd : flat d = true) (he : flat e = true) (r : Rel G ω d v) (q : Rel G ω e w) : eqV v w = eqD d e := by
  cases d with
  | non =>
    rw [Rel] at r
    subst r
    cases e <;> first | (rw [Rel] at q; subst q; simp [eqV, eqD]; done) | cases he
  | bl b =>
    rw [Rel] at r
    subst r
    cases e <;> first | (rw [Rel] at q; subst q; simp [eqV, eqD, dec_beq]; done) | cases he
  | int b =>
    rw [Rel] at r
    subst r
    cases e <;> first | (rw [Rel] at q; subst q; simp [eqV, eqD, dec_beq]; done) | cases he
  | str b =>
    rw [Rel] at r
    subst r
    cases e <;> first | (rw [Rel] at q; subst q; simp [eqV, eqD, txEq_str]; done) | cases he
  | _ => cases hd
theorem in_ok {ω : Wd} {d : D} {v : V} (hd : flat d = true) (r : Rel G ω d v) : ∀ {ds : List D} {vs : List V}, ds.all flat = true → Rels G ω ds vs → vs.all flatV = true ∧ inV v vs = inD d ds
  | [], vs, _, q => by
    rw [Rels] at q
    subst q
    exact ⟨rfl, rfl⟩
  | x :: ds, vs, h, q => by
    rw [Rels] at q
    obtain ⟨w, t, e, a, b⟩ := q
    subst e
    simp only [List.all_cons, Bool.and_eq_true] at h
    obtain ⟨h1, h2⟩ := in_ok hd r h.2 b
    refine ⟨by simp [flat_ok h.1 a, h1], ?_⟩
    have e2 : inV v t = inD d ds := h2
    unfold inV at e2 ⊢
    rw [List.any_cons, inD, e2, eq_ok h.1 hd a r]
theorem opC (hK : Y.K = G.K) (hu : Y.A.units + 64 < cLine) (o : COp) : OpR Y (compareOp (co o)) (rC G o) := by
  intro pins s σ H x y v u Q I rx ry h
  obtain ⟨ω, M, d, e, hh, rd, re, post⟩ := h
  unfold cmpop at post
  cases o with
  | eq =>
    dsimp only at post
    split at post
    · rename_i c
      rw [Bool.and_eq_true] at c
      refine op_eqD hu pins s σ H _ _ v u Q I rx ry ⟨_, _, by rw [hK]; exact seen_ok hh rd c.1, by rw [hK]; exact seen_ok hh re c.2, shaped_of c.1, shaped_of c.2, ?_⟩
      rw [eqv_of 60 60 _ _ c.1 c.2]
      exact post_bl post hh
    · exact False.elim post
  | ne =>
    dsimp only at post
    split at post
    · rename_i c
      rw [Bool.and_eq_true] at c
      refine op_neD hu pins s σ H _ _ v u Q I rx ry ⟨_, _, by rw [hK]; exact seen_ok hh rd c.1, by rw [hK]; exact seen_ok hh re c.2, shaped_of c.1, shaped_of c.2, ?_⟩
      rw [eqv_of 60 60 _ _ c.1 c.2]
      exact post_bl post hh
    · exact False.elim post
  | lt =>
    dsimp only at post
    split at post
    · rw [Rel] at rd re
      subst rd re
      exact op_lt pins s σ H _ _ v u Q I rx ry ⟨_, _, rfl, rfl, post_bl post hh⟩
    · exact False.elim post
  | le =>
    dsimp only at post
    split at post
    · rw [Rel] at rd re
      subst rd re
      exact op_le pins s σ H _ _ v u Q I rx ry ⟨_, _, rfl, rfl, post_bl post hh⟩
    · exact False.elim post
  | gt =>
    dsimp only at post
    split at post
    · rw [Rel] at rd re
      subst rd re
      exact op_gt pins s σ H _ _ v u Q I rx ry ⟨_, _, rfl, rfl, post_bl post hh⟩
    · exact False.elim post
  | ge =>
    dsimp only at post
    split at post
    · rw [Rel] at rd re
      subst rd re
      exact op_ge pins s σ H _ _ v u Q I rx ry ⟨_, _, rfl, rfl, post_bl post hh⟩
    · exact False.elim post
  | is =>
    dsimp only at post
    split at post
    · rw [Rel] at re
      subst re
      refine op_isN pins s σ H _ _ v u Q I rx ry ⟨rfl, ?_⟩
      have q := post_bl post hh
      cases d with
      | non => rw [Rel] at rd; subst rd; exact q
      | bl b => rw [Rel] at rd; subst rd; exact q
      | int b => rw [Rel] at rd; subst rd; exact q
      | str b => rw [Rel] at rd; subst rd; exact q
      | tup ds => rw [Rel] at rd; obtain ⟨p, vs, e, _⟩ := rd; subst e; exact q
      | lst ds => rw [Rel] at rd; obtain ⟨p, vs, e, _⟩ := rd; subst e; exact q
      | obj _ _ _ => rw [Rel] at rd; exact rd.elim
      | exc _ _ _ => rw [Rel] at rd; obtain ⟨p, _, _, _, e, _⟩ := rd; subst e; exact q
      | ref a => rw [Rel] at rd; obtain ⟨p, _, e⟩ := rd; subst e; exact q
      | fro ds => rw [Rel] at rd; obtain ⟨p, vs, e, _⟩ := rd; subst e; exact q
    · exact False.elim post
  | isn =>
    dsimp only at post
    split at post
    · rw [Rel] at re
      subst re
      refine op_notN pins s σ H _ _ v u Q I rx ry ⟨rfl, ?_⟩
      have q := post_bl post hh
      cases d with
      | non => rw [Rel] at rd; subst rd; exact q
      | bl b => rw [Rel] at rd; subst rd; exact q
      | int b => rw [Rel] at rd; subst rd; exact q
      | str b => rw [Rel] at rd; subst rd; exact q
      | tup ds => rw [Rel] at rd; obtain ⟨p, vs, e, _⟩ := rd; subst e; exact q
      | lst ds => rw [Rel] at rd; obtain ⟨p, vs, e, _⟩ := rd; subst e; exact q
      | obj _ _ _ => rw [Rel] at rd; exact rd.elim
      | exc _ _ _ => rw [Rel] at rd; obtain ⟨p, _, _, _, e, _⟩ := rd; subst e; exact q
      | ref a => rw [Rel] at rd; obtain ⟨p, _, e⟩ := rd; subst e; exact q
      | fro ds => rw [Rel] at rd; obtain ⟨p, vs, e, _⟩ := rd; subst e; exact q
    · exact False.elim post
  | inn =>
    dsimp only at post
    split at post
    · rename_i ds c
      split at post
      · rename_i f
        rw [Bool.and_eq_true] at f
        obtain ⟨p, vs, e1, e2, e3⟩ := itemsOf_ok hh re c
        subst e1
        obtain ⟨h1, h2⟩ := in_ok f.1 rd f.2 e3
        refine op_in_seq pins s σ H _ _ v u Q I rx ry ⟨p, vs, rfl, e2.imp (fun z => SqL.of z) (fun z => by rw [hK]; exact z), flat_ok f.1 rd, h1, ?_⟩
        rw [if_neg Bool.false_ne_true, h2]
        exact post_bl post hh
      · exact False.elim post
    · exact False.elim post
  | nin =>
    dsimp only at post
    split at post
    · rename_i ds c
      split at post
      · rename_i f
        rw [Bool.and_eq_true] at f
        obtain ⟨p, vs, e1, e2, e3⟩ := itemsOf_ok hh re c
        subst e1
        obtain ⟨h1, h2⟩ := in_ok f.1 rd f.2 e3
        refine op_notIn_seq pins s σ H _ _ v u Q I rx ry ⟨p, vs, rfl, e2.imp (fun z => SqL.of z) (fun z => by rw [hK]; exact z), flat_ok f.1 rd, h1, ?_⟩
        rw [if_pos rfl, h2]
        exact post_bl post hh
      · exact False.elim post
    · exact False.elim post
end
end Ev


set_option autoImplicit false
set_option Elab.async false
set_option linter.all false
set_option maxRecDepth 100000
set_option maxHeartbeats 4000000
/-! EvO: own exception classes are called, by position or by name, over any of the bases; the exception stays as a value. -/
namespace PySem
namespace EvXK
open Builtin Builtin.ObjectAttr
section
variable {M : Model} {A : Around} {E : Value → Shared → Prop} {h : Heap} {g : Array GenState} {d : Drawn} {t : Nat} {os : OsState}
variable {nm q : Str} {C N : Addr} {bs bm bmB : List Value} {hdct : Bool} {sn : List Str} {sub : List Value} {ab : Bool} {col : Option Bool} {dd : Option Addr} {k0 k1 k2 k3 k5 : Option Value} {B newId initId : String}
theorem chk (FB : ExcBaseFacts B newId initId bmB) (hT : ∀ X : String, bm.contains (.type X) = bmB.contains (.type X)) {rest : List Value} {kw : List (Str × Value)} {Q : Unit → Shared → Prop}
    (hC : h.get? C = some (excClassObj nm q C N bs bm hdct sn sub ab col dd k0 k1 k2 k3 k5 newId)) (hq : Q () ⟨h, g, d, t, os⟩) : wpAny M A (checkBuiltinCall newId ⟨.ref C :: rest, kw⟩) Q E ⟨h, g, d, t, os⟩ := by
  have hB : (Value.ref C :: bm).contains (.type B) = true := by rw [List.contains_cons, hT, FB.hasB, Bool.or_true]
  have hs := FB.noStar
  simp only [checkBuiltinCall, FB.newKind, FB.newSplit, FB.newRow]
  repeat (first
    | refine wpAny_loadPart_at hC ?_
    | (refine wpAny_isSubtype_exc hC ?_; rw [hB])
    | refine wpAny_staticBase_exc hC ?_
    | refine wpAny_madeBy_exc hC ?_
    | simp only [bne_self_eq_false, Bool.false_eq_true, if_false]
    | wp_step)
  exact hq
end
section
variable {prog : Program} {w : World} {A : Around} {E : Value → Shared → Prop} {R : Result → Shared → Prop} {h : Heap} {g : Array GenState} {d : Drawn} {t : Nat} {os : OsState}
variable {nm q : Str} {C N : Addr} {bs bm bmB : List Value} {hdct : Bool} {sn : List Str} {sub : List Value} {ab : Bool} {col : Option Bool} {dd : Option Addr} {k0 k1 k2 k3 k5 : Option Value} {B newId initId : String}
theorem new (FB : ExcBaseFacts B newId initId bmB) (hT : ∀ X : String, bm.contains (.type X) = bmB.contains (.type X)) {rest : List Value} {kw : List (Str × Value)}
    (hC : h.get? C = some (excClassObj nm q C N bs bm hdct sn sub ab col dd k0 k1 k2 k3 k5 newId))
    (hq : R (.ok (.ret (.ref (h.objs.size + 1)))) ⟨(h.push (W.kdv_tup rest)).push (HandSPX.excO C h.objs.size), g, d, t, os⟩) (hrest : rest.length ≤ sizeLine) :
    codeAny (model prog w) A (.builtin newId ⟨.ref C :: rest, kw⟩) R ⟨h, g, d, t, os⟩ := by
  have he := FB.ends
  have c1 : (Value.ref C :: bm).contains (.type B) = true := by rw [List.contains_cons, hT, FB.hasB, Bool.or_true]
  have c2 : (Value.ref C :: bm).contains (.type "AttributeError") = false := by rw [List.contains_cons, hT, FB.noAttr]; rfl
  have c3 : (Value.ref C :: bm).contains (.type "NameError") = false := by rw [List.contains_cons, hT, FB.noName]; rfl
  refine codeAny_builtinAt FB.entry ?_
  unfold Builtin.«BaseException.__new__»
  refine wpAt_bind ?_
  show wpAt _ _ _ (stack >>= _) _ _ _
  refine wpAt_bind (wpAt_stack fun p below => wpAt_of_wpAny ?_)
  wp_walk
  refine wpAt_of_wpAny ?_
  rw [FB.owner]
  repeat (first
    | with_reducible refine wpAny_madeHere_exc FB.canon hC ?_
    | with_reducible refine wpAny_loadPart_at hC ?_
    | (with_reducible refine wpAny_isSubtype_exc hC ?_; first | rw [c1] | rw [c2] | rw [c3])
    | wp_step)
  show R _ _
  rw [Heap.size_push]
  exact hq
theorem tcall (FB : ExcBaseFacts B newId initId bmB) (hT : ∀ X : String, bm.contains (.type X) = bmB.contains (.type X)) {rest : List Value} {kw : List (Str × Value)} {fI : Addr} {Q : Fin → Shared → Prop}
    (hC : h.get? C = some (excClassObj nm q C N bs bm hdct sn sub ab col dd k0 k1 k2 k3 k5 newId))
    (hi : W.Looks (model prog w) h (typeLookup (.ref C) "__init__") (some (.ref fI))) (hb : ∀ self, W.Looks (model prog w) h (bindSpecial (.ref fI) self) (.ref fI, [self])) (hrest : rest.length ≤ sizeLine)
    (hq : codeAny (model prog w) A (.call (.ref fI) ⟨.ref (h.objs.size + 1) :: rest, kw⟩)
      (fun r s' => match r with | .ok (.ret v) => v = .none ∧ Q (.done (.ret (.ref (h.objs.size + 1)))) s' | .ok _ => False | .error e => E e s')
      ⟨(h.push (W.kdv_tup rest)).push (HandSPX.excO C h.objs.size), g, d, t, os⟩) :
    wpAny (model prog w) A (Builtin.«type.__call__» ⟨.ref C :: rest, kw⟩) Q E ⟨h, g, d, t, os⟩ := by
  repeat (first
    | with_reducible refine wpAny_loadPart_at hC ?_
    | with_reducible refine wpAny_madeBy_exc hC ?_
    | wp_step)
  refine codeAny_call_builtin_code (Code.quiet_builtin _ FB.quiet) (chk FB hT hC ?_)
  refine new FB hT hC ?_ hrest
  show wpAny _ _ _ _ _ _
  have k : ∀ b o, h.get? b = some o → ((h.push (W.kdv_tup rest)).push (HandSPX.excO C h.objs.size)).get? b = some o := fun b o e => Heap.get?_push_of_some _ (Heap.get?_push_of_some _ e)
  have hC1 := k _ _ hC
  have hg : ((h.push (W.kdv_tup rest)).push (HandSPX.excO C h.objs.size)).get? (h.objs.size + 1) = some (HandSPX.excO C h.objs.size) := by heap_get
  have hcC : (Value.ref C :: bm).contains (.ref C) = true := by simp
  have i1 := hi.keeps k
  have b1 := (hb (.ref (h.objs.size + 1))).keeps k
  unfold isInstance
  repeat (first
    | with_reducible refine wpAny_loadPart_at hg ?_
    | (with_reducible refine wpAny_isSubtype_exc hC1 ?_; rw [hcC])
    | wp_step)
  show wpAny _ _ (typeLookup (.ref C) _) _ _ _
  refine i1.at ?_
  refine wpAny_holding (wpAny_bind (b1.at ?_))
  refine wpAny_bind (wpAny_call (codeAny_mono hq fun r s' z => ?_))
  rcases r with e | (v | _ | _ | _) <;> first | exact z | exact z.elim | skip
  obtain ⟨rfl, z⟩ := z
  first
    | exact wpAny_pure (wpAny_pure z)
    | (wp_walk; exact z)
theorem ctc {M : Model} {rest : List Value} {kw : List (Str × Value)} {Q : Unit → Shared → Prop} (hC : h.get? C = some (excClassObj nm q C N bs bm hdct sn sub ab col dd k0 k1 k2 k3 k5 newId))
    (hq : Q () ⟨h, g, d, t, os⟩) : wpAny M A (checkBuiltinCall "type.__call__" ⟨.ref C :: rest, kw⟩) Q E ⟨h, g, d, t, os⟩ := by
  have f3 := tc_sub
  have hT : (⟨h, g, d, t, os⟩ : Shared).TypeIs (.ref C) "type" := ⟨_, hC, rfl⟩
  simp only [checkBuiltinCall, tc_kind, tc_split]
  repeat (any_goals (first | assumption | with_reducible refine wpAny_loadPart_at hC ?_ | with_reducible refine wpAny_onRaise ?_ | with_reducible refine wpAny_map ?_ | wp_step))
theorem call (FB : ExcBaseFacts B newId initId bmB) (hT : ∀ X : String, bm.contains (.type X) = bmB.contains (.type X)) {rest : List Value} {kw : List (Str × Value)} {fI : Addr}
    (hC : h.get? C = some (excClassObj nm q C N bs bm hdct sn sub ab col dd k0 k1 k2 k3 k5 newId))
    (hi : W.Looks (model prog w) h (typeLookup (.ref C) "__init__") (some (.ref fI))) (hb : ∀ self, W.Looks (model prog w) h (bindSpecial (.ref fI) self) (.ref fI, [self])) (hrest : rest.length ≤ sizeLine)
    (hq : codeAny (model prog w) (A.under (.builtin "type.__call__" ⟨.ref C :: rest, kw⟩)) (.call (.ref fI) ⟨.ref (h.objs.size + 1) :: rest, kw⟩) (W.InitBack (h.objs.size + 1) R)
      ⟨(h.push (W.kdv_tup rest)).push (HandSPX.excO C h.objs.size), g, d, t, os⟩) :
    codeAny (model prog w) A (.call (.ref C) ⟨rest, kw⟩) R ⟨h, g, d, t, os⟩ := by
  have f1 := tc_lookup
  have f2 := tc_bind (.ref C)
  have hTy : (⟨h, g, d, t, os⟩ : Shared).TypeIs (.ref C) "type" := ⟨_, hC, rfl⟩
  refine codeAny_of_tree ?_
  show wpAny _ _ (callAny (.ref C) _) _ _ _
  repeat (any_goals (first | assumption | with_reducible refine wpAny_loadPart_at hC ?_ | wp_step))
  refine ⟨rfl, ?_⟩
  refine codeAny_call_builtin_at (Code.quiet_builtin _ (by decide +kernel)) entry_typeCall (ctc hC (tcall FB hT hC hi hb hrest ?_))
  refine codeAny_mono hq fun r s' z => ?_
  rcases r with e | (v | _ | _ | _) <;> exact z
end
end EvXK
end PySem


set_option autoImplicit false
set_option Elab.async false
set_option linter.all false
set_option maxRecDepth 100000
set_option maxHeartbeats 4000000
/-! EvP: fields of exceptions over any of the bases. -/
namespace PySem
namespace EvXK
open PySem.W PySem.Calls PyProof.Rows PySem.HandSPX
/-- own classes, then the base's mro -/
def OwnM (tl l : List Value) : Prop := ∃ rs : List Addr, l = rs.map Value.ref ++ tl
def ownM (tl : List Value) : List Value → Bool
  | .ref a :: r => ownM tl r
  | l => l == tl
theorem ownM_ok {tl : List Value} : ∀ {l : List Value}, ownM tl l = true → OwnM tl l
  | [], e => ⟨[], beq_iff_eq.mp e⟩
  | .ref c :: r, e => by
    obtain ⟨rs, h⟩ := ownM_ok (show ownM tl r = true from e)
    exact ⟨c :: rs, by rw [h]; rfl⟩
  | .none :: _, e => ⟨[], beq_iff_eq.mp e⟩
  | .ellipsis :: _, e => ⟨[], beq_iff_eq.mp e⟩
  | .notImplemented :: _, e => ⟨[], beq_iff_eq.mp e⟩
  | .bool _ :: _, e => ⟨[], beq_iff_eq.mp e⟩
  | .int _ _ :: _, e => ⟨[], beq_iff_eq.mp e⟩
  | .float _ _ :: _, e => ⟨[], beq_iff_eq.mp e⟩
  | .str _ _ :: _, e => ⟨[], beq_iff_eq.mp e⟩
  | .bytes _ _ :: _, e => ⟨[], beq_iff_eq.mp e⟩
  | .type _ :: _, e => ⟨[], beq_iff_eq.mp e⟩
  | .builtin _ :: _, e => ⟨[], beq_iff_eq.mp e⟩
/-- what a built-in base must give -/
structure XB (newId : String) (tl : List Value) : Prop where
  base : ∃ B initId, ExcBaseFacts B newId initId tl
  pass : ∀ self : Value, refuseLoop self "__setattr__" tl = pure ()
  obj : tl.contains (.type "object") = true
theorem OwnM.pass {tl l : List Value} (h : OwnM tl l) (q : ∀ self : Value, refuseLoop self "__setattr__" tl = pure ()) (self : Value) : refuseLoop self "__setattr__" l = pure () := by
  obtain ⟨rs, rfl⟩ := h
  induction rs with
  | nil => exact q self
  | cons a r ih =>
    show refuseLoop self "__setattr__" (.ref a :: (r.map Value.ref ++ tl)) = pure ()
    rw [refuseLoop_ref]
    exact ih
theorem OwnM.has {tl l : List Value} (h : OwnM tl l) (X : String) : l.contains (.type X) = tl.contains (.type X) := by
  obtain ⟨rs, rfl⟩ := h
  induction rs with
  | nil => rfl
  | cons a r ih =>
    show (Value.ref a :: (r.map Value.ref ++ tl)).contains (.type X) = _
    rw [List.contains_cons, ih]
    rfl
theorem OwnM.ne {tl l : List Value} (h : OwnM tl l) (q : tl.contains (.type "object") = true) : l.isEmpty = false := by
  cases l with
  | nil =>
    have := h.has "object"
    rw [q] at this
    cases this
  | cons _ _ => rfl
theorem xb_VE : XB "ValueError.__new__" [.type "ValueError", .type "Exception", .type "BaseException", .type "object"] := ⟨⟨_, _, F.excBase_ValueError⟩, F.store_ValueError.passes, by decide +kernel⟩
theorem xb_LE : XB "LookupError.__new__" [.type "LookupError", .type "Exception", .type "BaseException", .type "object"] := ⟨⟨_, _, F.excBase_LookupError⟩, F.store_LookupError.passes, by decide +kernel⟩
theorem xb_IE : XB "IndexError.__new__" [.type "IndexError", .type "LookupError", .type "Exception", .type "BaseException", .type "object"] := ⟨⟨_, _, F.excBase_IndexError⟩, F.store_IndexError.passes, by decide +kernel⟩
section
open Builtin Builtin.ObjectAttr
variable {prog : Program} {w : World} {A : Around} {E : Value → Shared → Prop} {R : Result → Shared → Prop} {hp : Heap} {g : Array GenState} {d : Drawn} {t : Nat} {os : OsState}
/-- a further field -/
theorem more {K : W.Frag} {tl : List Value} {newId : String} {name : Str} {tk : Tok} {v : Value} {x C dx : Addr} {fv : Array Value} {cd : ClassData} {m0 : Str → Option Value} {nl : List Str} (B : XB newId tl)
    (X : K.In hp) (hx : hp.get? x = some { cls := .ref C, dict := some dx, data := .fields fv }) (hns : hp.Ns1 dx m0) (hw : Within m0 nl) (hz : nl.length ≤ 1000) (hcd : W.clsIn K C = some cd) (hm : OwnM tl cd.mro) (hh : cd.hasDict = true)
    (ha : W.findIn K (.ref C) name = some none)
    (hq : ∀ h' tk', (∀ b o, b ≠ dx → hp.get? b = some o → h'.get? b = some o) → h'.Ns1 dx (fun y => if y = name then some v else m0 y) → R (.ok (.ret .none)) ⟨h', g, d, tk', os⟩) :
    codeAny (model prog w) A (.call (.builtin "object.__setattr__") ⟨[.ref x, .str name tk, v], []⟩) R ⟨hp, g, d, t, os⟩ := by
  obtain ⟨oD, e1, e2, hoD, hdD, _⟩ := hns.count hw
  have I : W.InstAt hp x { cls := .ref C, dict := some dx, data := .fields fv } C (some oD) := ⟨hx, rfl, rfl, hoD⟩
  have SF := F.store_object
  have ne := hm.ne B.obj
  have hob : cd.mro.contains (.type "object") = true := (hm.has "object").trans B.obj
  have sub : W.Looks (model prog w) hp (isInstance (.ref x) (.type "object")) true := I.type.andThen (W.looks_mroIn X (by unfold W.mroIn; rw [hcd, Option.bind_some, if_neg (by rw [ne]; decide), hob]))
  refine codeAny_call_builtin SF.slot.plain SF.entry (@W.check_slot (model prog w) _ _ ⟨hp, g, d, t, os⟩ "object.__setattr__" "object" "__setattr__" (.ref x) [.str name tk, v] [] _ SF.kind SF.split sub (SF.args (.ref x) (.str name tk) v) ?_)
  have l1 : W.Looks (model prog w) hp (mroOf (.ref C)) cd.mro := (W.looks_clsIn X hcd).andThen .now
  have l3 : W.Looks (model prog w) hp (storeTaker? none) none := .now
  have l4 : W.Looks (model prog w) hp (classData C) cd := W.looks_clsIn X hcd
  rw [W.osa_eq, refuse_eq]
  refine wpAny_bind (wpAny_bind (I.type.at (wpAny_bind (l1.at ?_))))
  rw [hm.pass B.pass]
  refine wpAny_pure (wpAny_bind (I.type.at (wpAny_bind ((W.looks_findIn X ha).at (wpAny_bind (l3.at ?_))))))
  show wpAny _ _ (storeInOwnDict (.ref x) (.ref C) (.str name tk) name v false) _ _ _
  obtain ⟨nm, bs, mro, ns, qn, hd, sn, sb, ab, col, del⟩ := cd
  dsimp only at hh
  subst hh
  unfold storeInOwnDict ownDictForStores
  repeat (first
    | with_reducible refine OEX.store_in_old hns hw hz ?_
    | with_reducible refine wpAny_loadPart_at hx ?_
    | with_reducible refine l4.at ?_
    | wp_step)
  intro h' tk' hn' hs
  exact hq h' tk' (fun b o hb ho => (hs.2 b hb).trans ho) hn'
/-- the first field -/
theorem first {K : W.Frag} {tl : List Value} {newId : String} {name : Str} {tk : Tok} {v : Value} {x C : Addr} {fv : Array Value} {cd : ClassData} (B : XB newId tl)
    (X : K.In hp) (hx : hp.get? x = some { cls := .ref C, data := .fields fv }) (hcd : W.clsIn K C = some cd) (hm : OwnM tl cd.mro) (hh : cd.hasDict = true) (ha : W.findIn K (.ref C) name = some none)
    (hq : ∀ h' tk' dx, (∀ b o, b ≠ x → hp.get? b = some o → h'.get? b = some o) → hp.objs.size ≤ dx → dx ≠ x → h'.get? x = some { cls := .ref C, dict := some dx, data := .fields fv } →
      h'.Ns1 dx (fun y => if y = name then some v else none) → R (.ok (.ret .none)) ⟨h', g, d, tk', os⟩) :
    codeAny (model prog w) A (.call (.builtin "object.__setattr__") ⟨[.ref x, .str name tk, v], []⟩) R ⟨hp, g, d, t, os⟩ := by
  have I : W.InstAt hp x { cls := .ref C, data := .fields fv } C none := ⟨hx, rfl, rfl, trivial⟩
  have SF := F.store_object
  have ne := hm.ne B.obj
  have hob : cd.mro.contains (.type "object") = true := (hm.has "object").trans B.obj
  have hxs : x ≠ hp.objs.size := Nat.ne_of_lt (Heap.lt_size hx)
  have sub : W.Looks (model prog w) hp (isInstance (.ref x) (.type "object")) true := I.type.andThen (W.looks_mroIn X (by unfold W.mroIn; rw [hcd, Option.bind_some, if_neg (by rw [ne]; decide), hob]))
  refine codeAny_call_builtin SF.slot.plain SF.entry (@W.check_slot (model prog w) _ _ ⟨hp, g, d, t, os⟩ "object.__setattr__" "object" "__setattr__" (.ref x) [.str name tk, v] [] _ SF.kind SF.split sub (SF.args (.ref x) (.str name tk) v) ?_)
  have l1 : W.Looks (model prog w) hp (mroOf (.ref C)) cd.mro := (W.looks_clsIn X hcd).andThen .now
  have l3 : W.Looks (model prog w) hp (storeTaker? none) none := .now
  have l4 : W.Looks (model prog w) hp (classData C) cd := W.looks_clsIn X hcd
  rw [W.osa_eq, refuse_eq]
  refine wpAny_bind (wpAny_bind (I.type.at (wpAny_bind (l1.at ?_))))
  rw [hm.pass B.pass]
  refine wpAny_pure (wpAny_bind (I.type.at (wpAny_bind ((W.looks_findIn X ha).at (wpAny_bind (l3.at ?_))))))
  show wpAny _ _ (storeInOwnDict (.ref x) (.ref C) (.str name tk) name v false) _ _ _
  obtain ⟨nm, bs, mro, ns, qn, hd, sn, sb, ab, col, del⟩ := cd
  dsimp only at hh
  subst hh
  unfold storeInOwnDict ownDictForStores
  repeat (first
    | with_reducible refine store_in_new ?_ ?_
    | with_reducible refine wpAny_loadPart_at hx ?_
    | with_reducible refine l4.at ?_
    | wp_step)
  · exact ⟨_, #[], _, (Heap.get?_update_ne _ _ _ _ hxs.symm).trans (Heap.get?_push_at rfl rfl), rfl, fun e he => absurd he (by simp), fun _ => rfl⟩
  · intro h' tk' hn' hs
    have hx1 : (hp.push { cls := .type "dict", data := .dict #[] }).get? x = some { cls := .ref C, data := .fields fv } := Heap.get?_push_of_some _ hx
    refine hq h' tk' hp.objs.size (fun b o hb ho => ?_) (Nat.le_refl _) hxs.symm ?_ hn'
    · exact (hs.2 b (Nat.ne_of_lt (Heap.lt_size ho))).trans ((Heap.get?_update_ne _ _ _ _ hb).trans (Heap.get?_push_of_some _ ho))
    · exact (hs.2 x hxs).trans (Heap.get?_update_self _ hx1 rfl)
end
end EvXK
end PySem
namespace Ev
open PySem PySem.Spec PyProof.Rows L2 PySem.EvXK
/-- what the written part says of an own exception class -/
structure XC (K : PySem.W.Frag) (C : Addr) (newId : String) (tl : List Value) : Prop where
  cls : ∃ nm q N bs bm sn sub ab col dd k0 k1 k2 k3 k5, K.lookup C = some (excClassObj nm q C N bs bm true sn sub ab col dd k0 k1 k2 k3 k5 newId) ∧ OwnM tl bm
  sa : PySem.W.findIn K (.ref C) "__setattr__" = some (some (.builtin "object.__setattr__"))
  kC : PySem.W.keepIn K (.ref C) = true
section
variable {X : L2.Cx} {pins : List (Addr × Obj)} {σ : L2.St} {H : Hp} {s : Shared} {a C dx : Addr} {f : Str} {y : V} {u : Value} {fs : List (Str × V)} {Q : Unit → Shared → Prop} {E : Value → Shared → Prop} {A : Around} {newId : String} {tl : List Value}
theorem fst_new (B : XB newId tl) (T : XC X.K C newId tl) (I : Inv X pins σ H s) (e : H a = some (exo a C none)) (hno : PySem.W.findIn X.K (.ref C) f = some none) (ry : RelV y u)
    (h : ∀ dx s', H dx = none → dx ≠ a → Inv X pins σ (upd (upd H dx (exd dx [(f, y)])) a (exo a C (some dx))) s' → Q () s') : wpAny (model X.prog X.w) A (setAttr (.ref a) f u) Q E s := by
  obtain ⟨nm, q, N, bs, bm, sn, sub, ab, col, dd, k0, k1, k2, k3, k5, hC, hbm⟩ := T.cls
  have hcl : PySem.W.clsIn X.K C = some { name := nm, bases := bs, mro := .ref C :: bm, ns := N, qualname := q, hasDict := true, slotNames := sn, subclasses := sub, abstract := ab, collection := col, hasDel := false } := by unfold PySem.W.clsIn; rw [hC] <;> rfl
  obtain ⟨t1, ho⟩ := exo_at I.hok e
  obtain ⟨hp, g, d, t, os⟩ := s
  have hm : OwnM tl (.ref C :: bm) := by
    obtain ⟨rs, rfl⟩ := hbm
    exact ⟨C :: rs, rfl⟩
  refine PySem.W.set_plain I.kIn (ox := { cls := .ref C, dict := none, data := .fields #[.ref t1, .none, .none, .none, .bool false, .none] }) (od := none) ⟨ho, rfl, rfl, trivial⟩ T.sa ?_
  refine EvXK.first B I.kIn ho hcl hm rfl hno (fun h' tk' dx k dn dne hx hn => ?_)
  have hnd : H dx = none := I.hok.fresh dn
  have nd : ∀ {b : Addr} {o : Obj}, hp.get? b = some o → b ≠ dx := fun {b o} q => Nat.ne_of_lt (Nat.lt_of_lt_of_le (Heap.lt_size q) dn)
  have na : ∀ {b : Addr}, H b = none → b ≠ a := fun {b} n z => by
    rw [z, e] at n
    cases n
  have U : Un X.fs [] H (upd (upd H dx (exd dx [(f, y)])) a (exo a C (some dx))) hp h' := {
    keep := fun b o q n _ _ => k b o (na n) q
    slot := fun b o q n _ _ => ⟨o.slots, k b o (na n) q⟩
    free := fun b o q n _ => by rw [upd_ne (na n), upd_ne (nd q)]; exact n
    there := fun b o q _ => by
      by_cases hb : b = a
      · exact ⟨_, by rw [hb]; exact hx⟩
      · exact ⟨o, k b o hb q⟩
    tups := fun b xs q => by rw [upd_ne (at_ne e q exo_tup), upd_ne (ne_of_none q hnd)]; exact q
    frzs := fun b o v q => by rw [upd_ne (at_ne e q exo_frz), upd_ne (ne_of_none q hnd)]; exact q
    tbls := fun b ps q => ⟨#[], by rw [upd_ne (at_ne e q exo_tbl), upd_ne (ne_of_none q hnd), q]; simp⟩ }
  refine h dx _ hnd dne (I.un (t' := tk') U fun b o q => ?_)
  by_cases hb : b = a
  · subst hb
    rw [upd_same] at q
    cases q
    exact exo_ok hx
  · rw [upd_ne hb] at q
    by_cases hd : b = dx
    · subst hd
      rw [upd_same] at q
      cases q
      exact exd_ok hn (relO_put (fs := []) ry fun g => True.intro)
    · rw [upd_ne hd] at q
      refine (I.hok b o q).stay (fun c v hc z => k c v ?_ z) (fun c hc => ?_) (fun c xs hc => ?_)
      · rcases hc with hc | hc
        · rw [hc]
          exact hb
        · exact at_ne e hc exo_own
      · rw [upd_ne (at_ne e hc exo_own), upd_ne (ne_of_none hc hnd)]
        exact hc
      · rw [upd_ne (at_ne e hc exo_tup), upd_ne (ne_of_none hc hnd)]
        exact hc
theorem fst_old (B : XB newId tl) (T : XC X.K C newId tl) (I : Inv X pins σ H s) (e : H a = some (exo a C (some dx))) (ed : H dx = some (exd dx fs)) (hl : fs.length ≤ 900) (hno : PySem.W.findIn X.K (.ref C) f = some none) (ry : RelV y u)
    (h : ∀ s', Inv X pins σ (upd H dx (exd dx ((f, y) :: fs))) s' → Q () s') : wpAny (model X.prog X.w) A (setAttr (.ref a) f u) Q E s := by
  obtain ⟨nm, q, N, bs, bm, sn, sub, ab, col, dd, k0, k1, k2, k3, k5, hC, hbm⟩ := T.cls
  have hcl : PySem.W.clsIn X.K C = some { name := nm, bases := bs, mro := .ref C :: bm, ns := N, qualname := q, hasDict := true, slotNames := sn, subclasses := sub, abstract := ab, collection := col, hasDel := false } := by unfold PySem.W.clsIn; rw [hC] <;> rfl
  obtain ⟨t1, ho⟩ := exo_at I.hok e
  obtain ⟨mA, hns, rel⟩ := exd_at I.hok ed
  have hw := within_of rel
  obtain ⟨hp, g, d, t, os⟩ := s
  obtain ⟨oD, _, _, hoD, _, _⟩ := hns.count hw
  have hm : OwnM tl (.ref C :: bm) := by
    obtain ⟨rs, rfl⟩ := hbm
    exact ⟨C :: rs, rfl⟩
  refine PySem.W.set_plain I.kIn (ox := { cls := .ref C, dict := some dx, data := .fields #[.ref t1, .none, .none, .none, .bool false, .none] }) (od := some oD) ⟨ho, rfl, rfl, hoD⟩ T.sa ?_
  refine EvXK.more B I.kIn ho hns hw (by rw [List.length_map]; omega) hcl hm rfl hno (fun h' tk' k hn => ?_)
  have hd : ∃ o, h'.get? dx = some o := by
    obtain ⟨o, _, _, e', _⟩ := hn
    exact ⟨o, e'⟩
  exact h _ (I.write (t' := tk') (x := dx) (e := dx) (o := exd dx ((f, y) :: fs)) (by rw [ed]; exact True.intro) (.inl rfl) k hd (exd_ok hn (relO_put ry rel)))
end
end Ev


set_option autoImplicit false
set_option Elab.async false
set_option linter.all false
set_option maxRecDepth 100000
set_option maxHeartbeats 4000000
/-! EvQ: exceptions as values: made, read, asked for their class. -/
namespace Ev
open PySem PySem.Spec PyProof.Rows L2 PySem.EvXK
/-! ### self.f = e in the __init__ of an exception class -/
def tFst (K : PySem.W.Frag) (f : Str) (to te : TE) : TS := fun D σ H => te σ H fun y H1 => to σ H1 fun x H2 => ∃ (a C : Addr) (n : String) (tl : List Value), x = .ref a ∧ XB n tl ∧ XC K C n tl ∧ PySem.W.findIn K (.ref C) f = some none ∧
  ((H2 a = some (exo a C none) ∧ ∀ dx, H2 dx = none → dx ≠ a → D.nx σ (upd (upd H2 dx (exd dx [(f, y)])) a (exo a C (some dx)))) ∨
    ∃ (dx : Addr) (fs : List (Str × V)), H2 a = some (exo a C (some dx)) ∧ H2 dx = some (exd dx fs) ∧ fs.length ≤ 900 ∧ D.nx σ (upd H2 dx (exd dx ((f, y) :: fs))))
theorem ps_fst {X : L2.Cx} {o e : Expr} {to te : TE} {f : Str} {p' pos : Pos} (ho : PE X o to) (he : PE X e te) (hs : swapsWith e (some (.Attribute o f p')) pos.line X.env = pure false := by rfl) : PS X (.Assign [.Attribute o f p'] e pos) (tFst X.K f to te) := by
  refine ⟨fun pins s σ H D I h => ?_⟩
  refine plainObj_wpAny_Assign_Attribute (thn (he.run pins s σ H _ I h) fun v s1 ⟨y, H1, I1, r1, q1⟩ => thn (ho.run pins s1 σ H1 _ I1 q1) fun u s2 ⟨x, H2, I2, r2, a, C, n, tl, ex, B, T, hno, q⟩ => ?_) hs
  subst ex
  obtain rfl : u = Value.ref a := r2
  rcases q with ⟨ea, q⟩ | ⟨dx, fs, ea, ed, hl, q⟩
  · exact fst_new B T I2 ea hno r1 fun dx s' z ne J => ⟨σ, _, J, q dx z ne⟩
  · exact fst_old B T I2 ea ed hl hno r1 fun s' J => ⟨σ, _, J, q⟩
/-! ### the __init__'s promise -/
def spX (C : Addr) (code : V) (f : Option Str) : Sp := fun vs H Q _ => ∃ a ws, vs = .ref a :: ws ∧ H a = some (exo a C none) ∧ match f with
  | some f => ∃ v, ws = [v] ∧ ∀ dx, H dx = none → dx ≠ a → Q .non (upd (upd (upd H dx (exd dx [("code", code)])) a (exo a C (some dx))) dx (exd dx [(f, v), ("code", code)]))
  | none => ws = [] ∧ ∀ dx, H dx = none → dx ≠ a → Q .non (upd (upd H dx (exd dx [("code", code)])) a (exo a C (some dx)))
/-- the body of such an __init__ -/
def okI (code : Str) (f : Option Str) : List Stmt → Bool
  | [.Assign [.Attribute (.Name s _) k _] (.Constant (.str z) _ _) _] => (match f with
    | none => decide (s = "self") && (decide (k = "code") && decide (z = code))
    | some _ => false)
  | [.Assign [.Attribute (.Name s _) k _] (.Constant (.str z) _ _) _, .Assign [.Attribute (.Name s2 _) k2 _] (.Name x _) _] => (match f with
    | none => false
    | some f => decide (s = "self") && (decide (k = "code") && (decide (z = code) && (decide (s2 = "self") && (decide (k2 = f) && decide (x = f))))))
  | _ => false
def psI : Option Str → List Str
  | none => ["self"]
  | some f => ["self", f]
/-- the parameters of such an __init__ -/
def okA (f : Option Str) : Arguments → Bool
  | ⟨[], as, none, [], [], none, []⟩ => decide (as.map (·.arg) = psI f)
  | _ => false
structure XCl (K : PySem.W.Frag) (C : Addr) (code : Str) (f : Option Str) where
  n : String
  tl : List Value
  B : XB n tl
  T : XC K C n tl
  fI : Addr
  fd : FuncData
  st : Stmt
  q : Str
  ini : PySem.W.findIn K (.ref C) "__init__" = some (some (.ref fI))
  tI : PySem.W.typeIn K (.ref fI) = some (.type "function")
  noc : PySem.W.findIn K (.ref C) "code" = some none
  nof : ∀ g, f = some g → PySem.W.findIn K (.ref C) g = some none
  fn : FunD K "__init__" q (defArgs st) (defBody st) (defScope st) [] [] fI fd
  sc : FnScope (psI f) (psI f) (defScope st)
  loc : ∀ x ∈ psI f, Vis (defScope st) x
  bd : okI code f (defBody st) = true
  as : okA f (defArgs st) = true
  nd : ∀ g, f = some g → (g == ("__debug__" : Str)) = false ∧ (g == ("__classdict__" : Str)) = false ∧ g ≠ "self"
theorem init_ok {prog : Program} {w : World} {K : PySem.W.Frag} {mg : Str → Option Value} {base : Heap} {C : Addr} {code : Str} {f : Option Str} (x : XCl K C code f) : FnOk prog w K mg base CX0 1 x.fI x.fd (psI f) (spX C (.str code) f) := by
  refine x.fn.ok (k := 0) x.sc (fun vs H Q E h => ?_) fun cdv A outer s H vs Q E hr h => ?_
  · obtain ⟨a, ws, rfl, _, h⟩ := h
    cases f with
    | none =>
      obtain ⟨rfl, _⟩ := h
      rfl
    | some f =>
      obtain ⟨v, rfl, _⟩ := h
      rfl
  · have hb := x.bd
    have hl := x.loc
    unfold okI at hb
    split at hb
    · rename_i s1 p1 k1 p2 z1 p3 p4 p5 eb
      cases f with
      | some f => cases hb
      | none =>
        simp only [Bool.and_eq_true, decide_eq_true_eq] at hb
        obtain ⟨rfl, rfl, rfl⟩ := hb
        rw [eb]
        refine ⟨_, PSs.nox (pss_one (ps_fst (pe_var (i := 0) (x := "self") rfl (hl "self" (by simp [psI])) (by decide) (by decide)) pe_str)), ?_⟩
        obtain ⟨a, ws, rfl, ea, rfl, q⟩ := h
        exact ⟨.ref a, rfl, a, C, x.n, x.tl, rfl, x.B, x.T, x.noc, .inl ⟨ea, q⟩⟩
    · rename_i s1 p1 k1 p2 z1 p3 p4 p5 s2 p6 k2 p7 y1 p8 p9 eb
      cases f with
      | none => cases hb
      | some f =>
        simp only [Bool.and_eq_true, decide_eq_true_eq] at hb
        obtain ⟨rfl, rfl, rfl, rfl, rfl, rfl⟩ := hb
        obtain ⟨d1, d2, d3⟩ := x.nd y1 rfl
        rw [eb]
        refine ⟨_, PSs.nox (pss_cons (ps_fst (pe_var (i := 0) (x := "self") rfl (hl "self" (by simp [psI])) (by decide) (by decide)) pe_str) (pss_one (ps_fst (pe_var (i := 0) (x := "self") rfl (hl "self" (by simp [psI])) (by decide) (by decide)) (pe_var (i := 1) rfl (hl y1 (by simp [psI])) d1 d2)))), ?_⟩
        obtain ⟨a, ws, rfl, ea, v, rfl, q⟩ := h
        refine ⟨.ref a, rfl, a, C, x.n, x.tl, rfl, x.B, x.T, x.noc, .inl ⟨ea, fun dx hd ne => ?_⟩⟩
        refine ⟨v, rfl, .ref a, rfl, a, C, x.n, x.tl, rfl, x.B, x.T, x.nof _ rfl, .inr ⟨dx, [("code", .str z1)], upd_same, ?_, by simp, q dx hd ne⟩⟩
        rw [upd_ne ne, upd_same]
    · cases hb
end Ev


set_option autoImplicit false
set_option Elab.async false
set_option linter.all false
set_option maxRecDepth 100000
set_option maxHeartbeats 4000000
/-! EvR: the call of an own exception class; the exception's fields; isinstance. -/
namespace Ev
open PySem PySem.Spec PyProof.Rows L2 PySem.EvXK
/-- the fields behind the __init__ -/
def xfs (code : Str) : Option Str → List V → List (Str × V)
  | some f, [v] => [(f, v), ("code", .str code)]
  | _, _ => [("code", .str code)]
def argX (f : Option Str) (vs : List V) : Prop := match f with
  | some _ => ∃ v, vs = [v]
  | none => vs = []
theorem okA_some {g : Str} {as : Arguments} (h : okA (some g) as = true) : ∃ a1 a2, as = ⟨[], [a1, a2], none, [], [], none, []⟩ ∧ a1.arg = "self" ∧ a2.arg = g := by
  unfold okA at h
  split at h
  · rename_i l
    have h := of_decide_eq_true h
    cases l with
    | nil => cases h
    | cons a1 l =>
      cases l with
      | nil => simp [psI] at h
      | cons a2 l =>
        cases l with
        | nil =>
          simp [psI] at h
          exact ⟨a1, a2, rfl, h.1, h.2⟩
        | cons _ _ => simp [psI] at h
  · cases h
theorem okA_none {as : Arguments} (h : okA none as = true) : ∃ a1, as = ⟨[], [a1], none, [], [], none, []⟩ ∧ a1.arg = "self" := by
  unfold okA at h
  split at h
  · rename_i l
    have h := of_decide_eq_true h
    cases l with
    | nil => cases h
    | cons a1 l =>
      cases l with
      | nil =>
        simp [psI] at h
        exact ⟨a1, rfl, h⟩
      | cons _ _ => simp [psI] at h
  · cases h
section
variable {K : PySem.W.Frag} {C : Addr} {code : Str} {f : Option Str}
theorem XCl.dn (x : XCl K C code f) : ∃ kV doc pm an cdv ct, x.fd = PySem.W.fnOf "__init__" x.q (defArgs x.st) (defBody x.st) (defScope x.st) .none kV doc pm an cdv ct := by
  obtain ⟨oc, od, dV, kV, doc, pm, an, cdv, ct, osl, e, lk, hcd, hD, hK⟩ := x.fn.ex
  rcases hD with ⟨_, h⟩ | ⟨e2, _⟩
  · subst h
    exact ⟨kV, doc, pm, an, cdv, ct, e⟩
  · exact absurd rfl e2
theorem XCl.b0 (x : XCl K C code none) (s : Shared) (a : Value) : BindsTo s x.fd ⟨[a], []⟩ [("self", a)] := by
  obtain ⟨kV, doc, pm, an, cdv, ct, e⟩ := x.dn
  obtain ⟨a1, h1, h2⟩ := okA_none x.as
  rw [h1] at e
  obtain ⟨n1, y1, p1⟩ := a1
  dsimp only at h2
  subst h2
  rw [e]
  exact .of_eq rfl
theorem XCl.b1 {g : Str} (x : XCl K C code (some g)) (s : Shared) (a v : Value) : BindsTo s x.fd ⟨[a, v], []⟩ [("self", a), (g, v)] := by
  obtain ⟨kV, doc, pm, an, cdv, ct, e⟩ := x.dn
  obtain ⟨a1, a2, h1, h2, h3⟩ := okA_some x.as
  have hn := (x.nd g rfl).2.2
  rw [h1] at e
  obtain ⟨n1, y1, p1⟩ := a1
  obtain ⟨n2, y2, p2⟩ := a2
  dsimp only at h2 h3
  subst h2
  subst h3
  rw [e]
  refine .of_eq ?_
  have z : (n2 == ("self" : Str)) = false := by simpa using hn
  simp [bindArgs, PySem.W.fnOf, z, List.lookup, seqItems?]
  rfl
theorem XCl.bk {g : Str} (x : XCl K C code (some g)) (s : Shared) (a v : Value) : BindsTo s x.fd ⟨[a], [(g, v)]⟩ [("self", a), (g, v)] := by
  obtain ⟨kV, doc, pm, an, cdv, ct, e⟩ := x.dn
  obtain ⟨a1, a2, h1, h2, h3⟩ := okA_some x.as
  have hn := (x.nd g rfl).2.2
  rw [h1] at e
  obtain ⟨n1, y1, p1⟩ := a1
  obtain ⟨n2, y2, p2⟩ := a2
  dsimp only at h2 h3
  subst h2
  subst h3
  rw [e]
  refine .of_eq ?_
  have z : (n2 == ("self" : Str)) = false := by simpa using hn
  simp [bindArgs, PySem.W.fnOf, z, List.lookup, seqItems?]
  rfl
end
section
variable {X : L2.Cx} {pins : List (Addr × Obj)} {σ : L2.St} {H : Hp} {s : Shared} {C : Addr} {code : Str} {f : Option Str} {Q : VK} {us full : List Value} {kw : List (Str × Value)} {vs : List V}
theorem upd3 {H : Hp} {a dx : Addr} {A B D E : HO} (ne : dx ≠ a) : upd (upd (upd (upd H a A) dx B) a D) dx E = upd (upd H dx E) a D := by
  funext b
  by_cases h1 : b = dx
  · subst h1
    rw [upd_same, upd_ne ne, upd_same]
  · rw [upd_ne h1]
    by_cases h2 : b = a
    · subst h2
      rw [upd_same, upd_same]
    · rw [upd_ne h2, upd_ne h1, upd_ne h2, upd_ne h2, upd_ne h1]
theorem upd2 {H : Hp} {a dx : Addr} {A B D : HO} (ne : dx ≠ a) : upd (upd (upd H a A) dx B) a D = upd (upd H dx B) a D := by
  funext b
  by_cases h2 : b = a
  · subst h2
    rw [upd_same, upd_same]
  · rw [upd_ne h2, upd_ne h2]
    by_cases h1 : b = dx
    · subst h1
      rw [upd_same, upd_same]
    · rw [upd_ne h1, upd_ne h1, upd_ne h2]
/-- C(..) -/
theorem run_mkx (x : XCl X.K C code f) (hr : Room 2 X.A) (I : Inv X pins σ H s) (hz : us.length ≤ 1000) (hb : ∀ s a, BindsTo s x.fd ⟨a :: us, kw⟩ ((psI f).zip (a :: full))) (r : Vals vs full) (hv : argX f vs)
    (q : ∀ a dx, H a = none → H dx = none → dx ≠ a → Q (.ref a) (upd (upd H dx (exd dx (xfs code f vs))) a (exo a C (some dx)))) : wpAny (model X.prog X.w) X.A (PySem.call (.ref C) us kw) (EP X pins σ Q) X.xe s := by
  obtain ⟨nm, qn, N, bs, bm, sn, sub, ab, col, dd, k0, k1, k2, k3, k5, hC, hbm⟩ := x.T.cls
  obtain ⟨Bn, initId, FB⟩ := x.B.base
  obtain ⟨hp, g, dr, tk, os⟩ := s
  have hsz : hp.objs.size ≤ hp.objs.size + 1 := Nat.le_succ _
  have hn : H (hp.objs.size + 1) = none := I.hok.fresh hsz
  have kk : ∀ b o, hp.get? b = some o → ((hp.push (PySem.W.kdv_tup us)).push (PySem.HandSPX.excO C hp.objs.size)).get? b = some o := fun b o e => Heap.get?_push_of_some _ (Heap.get?_push_of_some _ e)
  have hget : ((hp.push (PySem.W.kdv_tup us)).push (PySem.HandSPX.excO C hp.objs.size)).get? (hp.objs.size + 1) = some (PySem.HandSPX.excO C hp.objs.size) := by heap_get
  have I2 : Inv X pins σ (upd H (hp.objs.size + 1) (exo (hp.objs.size + 1) C none)) ⟨(hp.push (PySem.W.kdv_tup us)).push (PySem.HandSPX.excO C hp.objs.size), g, dr, tk, os⟩ :=
    I.laid (t' := tk) (a := hp.objs.size + 1) (o := exo (hp.objs.size + 1) C none) (h' := (hp.push (PySem.W.kdv_tup us)).push (PySem.HandSPX.excO C hp.objs.size)) kk hsz (exo_ok hget)
  have r2 : Vals (V.ref (hp.objs.size + 1) :: vs) (Value.ref (hp.objs.size + 1) :: full) := .cons rfl r
  have hus : us.length ≤ sizeLine := by
    rw [sizeLine_eq]
    omega
  have hq : spX C (.str code) f (V.ref (hp.objs.size + 1) :: vs) (upd H (hp.objs.size + 1) (exo (hp.objs.size + 1) C none)) (fun v H2 => v = .non ∧ Q (.ref (hp.objs.size + 1)) H2) (fun _ _ _ => False) := by
    refine ⟨_, _, rfl, upd_same, ?_⟩
    cases f with
    | none =>
      have hv : vs = [] := hv
      subst hv
      refine ⟨rfl, fun dx hd ne => ⟨rfl, ?_⟩⟩
      rw [upd_ne ne] at hd
      rw [upd2 ne]
      exact q _ dx hn hd ne
    | some f =>
      obtain ⟨v, rfl⟩ := hv
      refine ⟨v, rfl, fun dx hd ne => ⟨rfl, ?_⟩⟩
      rw [upd_ne ne] at hd
      rw [upd3 ne]
      exact q _ dx hn hd ne
  refine wpAny_call (EvXK.call FB (fun Y => hbm.has Y) (I.kIn _ _ hC) (PySem.W.looks_findIn I.kIn x.ini) (fun self => PySem.W.bind_fn I.kIn self x.tI) hus
    (codeAny_mono ((init_ok x).run _ X.stack _ _ ⟨Value.ref (hp.objs.size + 1) :: us, kw⟩ (Value.ref (hp.objs.size + 1) :: full) _ _ (fun _ _ _ => False) (hr.make C us kw) (I2.env0.make C us kw) (hb _ _) r2 hq) fun r s' hq' => ?_))
  cases r with
  | error er => exact False.elim hq'
  | ok fl =>
    cases fl with
    | ret u =>
      obtain ⟨v, H', I3, rv, ev, q3⟩ := I2.after hq'
      subst ev
      exact ⟨rv, ⟨V.ref (hp.objs.size + 1), H', I3, rfl, q3⟩⟩
    | next => exact False.elim hq'
    | brk => exact False.elim hq'
    | cont => exact False.elim hq'
end
/-! ### e.f, isinstance(e, C) -/
def tXa (K : PySem.W.Frag) (f : Str) (te : TE) : TE := fun σ H Q => te σ H fun x H1 => ∃ (p C dx : Addr) (fs : List (Str × V)) (v : V) (ks : List Tx), x = .ref p ∧ H1 p = some (exo p C (some dx)) ∧ H1 dx = some (exd dx fs) ∧ fs.lookup f = some v ∧ XIs K C ks ∧ PySem.W.findIn K (.ref C) f = some none ∧ Q v H1
theorem pe_xa {X : L2.Cx} {e : Expr} {te : TE} {pos : Pos} {n : Str} (he : PE X e te) (hb : attributeBase e n X.env (eval e X.env) = eval e X.env) : PE X (.Attribute e n pos) (tXa X.K n te) := by
  refine ⟨fun pins s σ H Q I h => ?_⟩
  refine attr_of hb (thn (he.run pins s σ H _ I h) fun u s1 hh => ?_)
  obtain ⟨x, H1, I1, rx, p, C, dx, fs, v, ks, ex, e1, e2, l, T, hno, q⟩ := hh
  subst ex
  obtain rfl : u = Value.ref p := rx
  obtain ⟨t1, ho⟩ := exo_at I1.hok e1
  obtain ⟨mA, hns, rel⟩ := exd_at I1.hok e2
  obtain ⟨od, hod, hl⟩ := lookIn_ns hns
  obtain ⟨u, hu, ru⟩ := RelO.some_of (v := v) (o := mA n) (by rw [← l]; exact rel n)
  have J : PySem.W.InstAt s1.heap p { cls := .ref C, dict := some dx, data := .fields #[.ref t1, .none, .none, .none, .bool false, .none] } C (some od) := ⟨ho, rfl, rfl, hod⟩
  exact HandSPX.exc_get I1.kIn J T.ga T.gg T.be (PySem.W.findObj_own T.hd hno rfl (by rw [hl, hu])) (handed_of ru) ⟨v, H1, I1.tok _, ru, q⟩
def rIsX (K : PySem.W.Frag) : List V → Hp → VK → Prop := fun xs H Q => ∃ (p C dx : Addr) (fs : List (Str × V)) (ks : List Tx) (c : V) (cv : Value) (b : Bool), xs = [.ref p, c] ∧ H p = some (exo p C (some dx)) ∧ H dx = some (exd dx fs) ∧ XIs K C ks ∧ (∀ u, RelV c u → u = cv) ∧ PySem.W.kitOne K (.ref C) cv = some b ∧ Q (.bl b) H
theorem call_isX {X : L2.Cx} : CallR X (.builtin "isinstance") (rIsX X.K) := by
  intro pins s σ H xs us Q I r h
  obtain ⟨p, C, dx, fs, ks, c, cv, b, rfl, e1, e2, T, hcv, e, q⟩ := h
  cases r with
  | cons rx rr =>
    cases rr with
    | cons rt rr =>
      cases rr
      cases rx
      have ec := hcv _ rt
      subst ec
      obtain ⟨t1, ho⟩ := exo_at I.hok e1
      obtain ⟨mA, hns, rel⟩ := exd_at I.hok e2
      obtain ⟨od, hod, hl⟩ := lookIn_ns hns
      have J : PySem.W.InstAt s.heap p { cls := .ref C, dict := some dx, data := .fields #[.ref t1, .none, .none, .none, .bool false, .none] } C (some od) := ⟨ho, rfl, rfl, hod⟩
      exact PySem.W.kia_one (PySem.W.kitx_exc T.cl T.ga T.gg T.be T.ca T.cg T.ct T.ob) I.kIn J e (fun z => nomatch z) fun tk => ⟨.bl b, H, I.kept (t' := tk) fun _ _ z => z, rfl, q⟩
end Ev


set_option autoImplicit false
set_option Elab.async false
set_option linter.all false
set_option maxRecDepth 100000
set_option maxHeartbeats 4000000
/-! EvE: readings of the evaluator; the checker; small rules. -/
namespace Ev
open PySem PySem.Spec PyProof.Rows L2
/-! ### readings -/
section
variable (G : Gs) (C : Ec)
def tE (x : X) : TE := fun σ H Q => ∃ ω M env, EnvRel G ω env σ ∧ HRel G ω M H ∧ PostE G ω (ev C x env M) Q
def tEs (xs : List X) : TA := fun σ H Q => ∃ ω M env, EnvRel G ω env σ ∧ HRel G ω M H ∧ PostL G ω (evs C xs env M) Q
def tT (x : X) : TT := fun σ H Q => ∃ ω M env, EnvRel G ω env σ ∧ HRel G ω M H ∧ Post G (fun _ d b => d = D.bl b) ω (ev C x env M) Q
def tTs (xs : List X) : TT := fun σ H Q => ∃ ω M env, EnvRel G ω env σ ∧ HRel G ω M H ∧ Post G (fun _ (d : Bool) b => d = b) ω (evT C xs env M) Q
/-- the items of a walk -/
def IsWalk (ω : Wd) (items : List D) (J : It) : Prop := ∃ Gd Yd, Walk J items.length Gd Yd ∧ (∀ ω1 M1 H1, Le0 ω ω1 → HRel G ω1 M1 H1 → Gd H1) ∧
  ∀ i x H1 H2 ω1 M1, Le0 ω ω1 → HRel G ω1 M1 H1 → Yd i H1 x H2 → ∃ d ω2, items[i]? = some d ∧ Le ω1 ω2 ∧ HRel G ω2 M1 H2 ∧ Rel G ω2 d x
/-- what is walked, evaluated -/
def evW (k : Ik) (xs : List X) (env : En) (M : List O) : Rs (List D) := (evs C xs env M).bind fun ds M1 => match walkOf k ds with
  | some items => .ok items M1
  | none => .er
def tI (k : Ik) (xs : List X) : TI := fun σ H R => ∃ ω M env, EnvRel G ω env σ ∧ HRel G ω M H ∧ Post G (IsWalk G) ω (evW C k xs env M) R
end
theorem PE.imp {Y : L2.Cx} {e : Expr} {t t' : TE} (h : PE Y e t) (k : ∀ σ H Q, t' σ H Q → t σ H Q) : PE Y e t' := ⟨fun pins s σ H Q I q => h.run pins s σ H Q I (k σ H Q q)⟩
theorem PA.imp {Y : L2.Cx} {e : List Expr} {t t' : TA} (h : PA Y e t) (k : ∀ σ H Q, t' σ H Q → t σ H Q) : PA Y e t' := ⟨fun pos pins s σ H Q I q => h.run pos pins s σ H Q I (k σ H Q q)⟩
theorem PT.imp {Y : L2.Cx} {e : Expr} {t t' : TT} (h : PT Y e t) (k : ∀ σ H Q, t' σ H Q → t σ H Q) : PT Y e t' := ⟨fun pins s σ H Q I q => h.run pins s σ H Q I (k σ H Q q)⟩
theorem PW.imp {Y : L2.Cx} {e : Expr} {t t' : TT} (h : PW Y e t) (k : ∀ σ H Q, t' σ H Q → t σ H Q) : PW Y e t' := ⟨fun w pins s σ H Q I q => h.run w pins s σ H Q I (k σ H Q q)⟩
theorem PTs.imp {Y : L2.Cx} {e : List Expr} {t t' : TT} (h : PTs Y e t) (k : ∀ σ H Q, t' σ H Q → t σ H Q) : PTs Y e t' := ⟨fun pins s σ H Q I q => h.run pins s σ H Q I (k σ H Q q)⟩
theorem PI.imp {Y : L2.Cx} {tg e : Expr} {t t' : TI} (h : PI Y tg e t) (k : ∀ σ H Q, t' σ H Q → t σ H Q) : PI Y tg e t' := ⟨fun pins s σ H Q I q => h.run pins s σ H Q I (k σ H Q q)⟩
theorem PG.imp {Y : L2.Cx} {tg : Expr} {t t' : TG} (h : PG Y tg t) (k : ∀ v σ H Q, t' v σ H Q → t v σ H Q) : PG Y tg t' := ⟨fun pins s σ H v u Q I r q => h.run pins s σ H v u Q I r (k v σ H Q q)⟩
theorem PS.imp {Y : L2.Cx} {e : Stmt} {t t' : TS} (h : PS Y e t) (k : ∀ D σ H, t' D σ H → t D σ H) : PS Y e t' := ⟨fun pins s σ H D I q => h.run pins s σ H D I (k D σ H q)⟩
theorem PSs.imp {Y : L2.Cx} {e : List Stmt} {t t' : TS} (h : PSs Y e t) (k : ∀ D σ H, t' D σ H → t D σ H) : PSs Y e t' := ⟨fun pins s σ H D I q => h.run pins s σ H D I (k D σ H q)⟩

/-! ### the checker -/
structure Ck where
  N : List Str
  sc : Scope
  /-- names whose cells are the frame's (or block's) own -/
  fnv : Str → Bool
  /-- the defs by number -/
  fn : List Str
  /-- the exception classes by number: the name, the field -/
  xn : List (Str × Option Str)
def Ck.gl (c : Ck) (x : Str) : Bool := decide (c.sc.names.lookup x = some .globalImplicit)
def Ck.vis (c : Ck) (x : Str) : Bool := match c.sc.names.lookup x with
  | some .local => true
  | some .cell => true
  | some .free => true
  | _ => false
def Ck.tgt (c : Ck) (i : Nat) (x : Str) : Bool := decide (c.N[i]? = some x) && (match c.sc.names.lookup x with
  | some .local => true
  | some .cell => c.fnv x
  | _ => false)
def clName : Cl → Option String
  | .int => some "int" | .bool => some "bool" | .str => some "str" | .list => some "list" | .tuple => some "tuple" | _ => none
def okCl (c : Ck) (k : Cl) : Expr → Bool
  | .Name x _ => (match clName k with
    | some n => decide (x = Str.ofString n) && c.gl x
    | none => false)
  | _ => false
def extName : Nat → Option String
  | 0 => some "ValueError" | 1 => some "LookupError" | 2 => some "IndexError" | _ => none
/-- a class of exceptions -/
def okX (c : Ck) (k : Cl) : Expr → Bool
  | .Name x _ => (match k with
    | .own n => (match c.xn[n]? with
      | some (y, _) => decide (x = y) && (c.gl x && (x == ("__debug__" : Str)) == false)
      | none => false)
    | .ext n => (match extName n with
      | some y => decide (x = Str.ofString y) && c.gl x
      | none => false)
    | _ => false)
  | _ => false
def notSup : Expr → Bool
  | .Call _ _ _ _ => false
  | _ => true
def okCls (c : Ck) : List Cl → List Expr → Bool
  | [], [] => true
  | k :: ks, e :: es => okCl c k e && okCls c ks es
  | _, _ => false
def bltName : Nat → Option String
  | 0 => some "len" | 1 => some "int" | 2 => some "all" | _ => none
def okPs (c : Ck) : List Nat → List Expr → Bool
  | [], [] => true
  | i :: is, .Name x _ :: es => c.tgt i x && okPs c is es
  | _, _ => false
def okP (c : Ck) : Pt → Expr → Bool
  | .nm i, .Name x _ => c.tgt i x
  | .tp is, .Tuple es _ _ => okPs c is es
  | _, _ => false
/-- the own names of a block -/
def ownOf (c : Ck) (is : List Nat) : List (Str × Nat) := is.filterMap fun i => (c.N[i]?).map fun x => (x, i)
def Ck.blk (c : Ck) (scope : Scope) : Ck := { c with sc := relS scope c.sc, fnv := fun x => scope.names.lookup x == some .cell }
/-- the arguments of what is walked -/
def itArgs (c : Ck) (k : Ik) (tg e : Expr) : Option (List Expr) := match k with
  | .val => some [e]
  | .rng => (match e with
    | .Call (.Name f _) as [] _ => if decide (f = "range") && (c.gl "range" && decide (as.length = 1 ∨ as.length = 2)) then some as else none
    | _ => none)
  | .enm => (match tg, e with
    | .Tuple _ _ _, .Call (.Name f _) as [] _ => if decide (f = "enumerate") && (c.gl "enumerate" && decide (as.length = 1)) then some as else none
    | _, _ => none)
  | .zip => (match tg, e with
    | .Tuple _ _ _, .Call (.Name f _) as [] _ => if decide (f = "zip") && (c.gl "zip" && decide (as.length = 2)) then some as else none
    | _, _ => none)
def okK : D → Const → Bool
  | .int i, .int j => decide (i = j)
  | .bl b, .bool b' => b == b'
  | .non, .none => true
  | .str s, .str z => decide (z.cps.toList = s)
  | _, _ => false
mutual
def okE : X → Ck → Expr → Bool
  | .var i, c, .Name x _ => decide (c.N[i]? = some x) && (c.vis x && ((x == ("__debug__" : Str)) == false && (x == ("__classdict__" : Str)) == false))
  | .cst d, _, .Constant k _ _ => okK d k
  | .bin o a b, c, .BinOp ea op eb _ => decide (op = bo o) && (okE a c ea && okE b c eb)
  | .neg a, c, .UnaryOp .USub ea _ => okE a c ea
  | .cmp o a b, c, .Compare ea [op] [eb] _ => decide (op = co o) && (okE a c ea && okE b c eb)
  | .cmp2 o p a b d, c, .Compare ea [op, pp] [eb, ed] _ => decide (op = co o) && (decide (pp = co p) && (okE a c ea && (okE b c eb && okE d c ed)))
  | .and a b, c, .BoolOp .And [ea, eb] _ => okE a c ea && okE b c eb
  | .and a b, c, .BoolOp .And (ea :: eb :: ed :: rest) pos => okE a c ea && okE b c (.BoolOp .And (eb :: ed :: rest) pos)
  | .or a b, c, .BoolOp .Or [ea, eb] _ => okE a c ea && okE b c eb
  | .or a b, c, .BoolOp .Or (ea :: eb :: ed :: rest) pos => okE a c ea && okE b c (.BoolOp .Or (eb :: ed :: rest) pos)
  | .not a, c, .UnaryOp .Not ea _ => okE a c ea
  | .ife t a b, c, .IfExp et ea eb _ => okE t c et && (okE a c ea && okE b c eb)
  | .tup es, c, .Tuple as _ _ => okEs es c as
  | .lst _ es, c, .List as _ => okEs es c as
  | .item a i, c, .Subscript ea ei _ => okE a c ea && okE i c ei
  | .slc a lo hi, c, .Subscript ea (.Slice l h none _) _ => okE a c ea && (okEs lo c l.toList && okEs hi c h.toList)
  | .isi a k, c, .Call (.Name f _) [ea, ek] [] _ => decide (f = "isinstance") && (c.gl "isinstance" && (okE a c ea && (okCl c k ek || okX c k ek)))
  | .isis a (q :: ks), c, .Call (.Name f _) [ea, .Tuple eks _ _] [] _ => decide (f = "isinstance") && (c.gl "isinstance" && (okE a c ea && (okCls c (q :: ks) eks && decide ((q :: ks).length ≤ 1000))))
  | .call f es, c, .Call (.Name x _) as [] _ => decide (c.fn[f]? = some x) && (c.gl x && ((x == ("__debug__" : Str)) == false && okEs es c as))
  | .attr a f, c, .Attribute ea n _ => decide (n = sS f) && (notSup ea && okE a c ea)
  | .mkx i kw es, c, .Call (.Name x _) as [] _ => kw == false && ((match c.xn[i]? with
    | some (y, _) => decide (x = y)
    | none => false) && (c.gl x && ((x == ("__debug__" : Str)) == false && okEs es c as)))
  | .mkx i kw es, c, .Call (.Name x _) [] [⟨some f, ea, _⟩] _ => kw == true && (decide (c.xn[i]? = some (x, some f)) && (c.gl x && ((x == ("__debug__" : Str)) == false && okEs es c [ea])))
  | .blt b es, c, .Call (.Name x _) as [] _ => decide (bltName b = some "len" ∧ x = "len" ∨ bltName b = some "int" ∧ x = "int" ∨ bltName b = some "all" ∧ x = "all") && (c.gl x && okEs es c as)
  | .lc _ p e k its ifs, c, .ListComp ee [⟨tg, eit, eifs, 0⟩] scope _ => (match itArgs c k tg eit with
    | some as => okEs its c as
    | none => false) && (blkC c.N c.sc scope (ownOf c (pslots p)) && (okP (c.blk scope) p tg && (okE e (c.blk scope) ee && okEs ifs (c.blk scope) eifs && decide (ifs.length ≤ 1) && decide ((ownOf c (pslots p)).map (·.2) = pslots p))))
  | _, _, _ => false
termination_by structural x => x
def okEs : List X → Ck → List Expr → Bool
  | [], _, [] => true
  | x :: xs, c, e :: es => okE x c e && okEs xs c es
  | _, _, _ => false
termination_by structural x => x
end
end Ev


set_option autoImplicit false
set_option Elab.async false
set_option linter.all false
set_option maxRecDepth 100000
set_option maxHeartbeats 4000000
/-! EvF: what the checker lets through is walked rightly: expressions. -/
namespace Ev
open PySem PySem.Spec PyProof.Rows L2
theorem okE_star : ∀ (x : X) (c : Ck) (v : Expr) (p : Pos), okE x c (.Starred v p) = false := by intro x c v p; cases x with | isis a ks => cases ks <;> rfl | _ => rfl
theorem okE_set : ∀ (x : X) (c : Ck) (v : List Expr) (k : Nat) (p : Pos), okE x c (.Set v k p) = false := by intro x c v k p; cases x with | isis a ks => cases ks <;> rfl | _ => rfl
theorem okE_slice : ∀ (x : X) (c : Ck) (a b d : Option Expr) (p : Pos), okE x c (.Slice a b d p) = false := by intro x c a b d p; cases x with | isis a ks => cases ks <;> rfl | _ => rfl
theorem ok_star {x : X} {c : Ck} {e : Expr} (h : okE x c e = true) (es : List Expr) (env : PySem.Env) : starEach (e :: es) env = (false, eval e env) :: starEach es env := by
  cases e with
  | Starred v p => rw [okE_star] at h; cases h
  | _ => rfl
theorem ok_stars : ∀ {xs : List X} {c : Ck} {es : List Expr}, okEs xs c es = true → ∀ (pos : Pos) (env : PySem.Env), (backTo pos (starEach es env)).any (·.1) = false
  | [], c, [], _, pos, env => rfl
  | [], c, _ :: _, h, _, _ => by cases h
  | _ :: _, c, [], h, _, _ => by cases h
  | x :: xs, c, e :: es, h, pos, env => by
    rw [okEs, Bool.and_eq_true] at h
    rw [ok_star h.1]
    have := ok_stars h.2 pos env
    unfold backTo at this ⊢
    rw [List.map_cons, List.any_cons, this]
    rfl
theorem ok_fold {x : X} {c : Ck} {e : Expr} (h : okE x c e = true) (env : PySem.Env) (v : Value) : foldedSetIterable e env v = pure v := by
  cases e with
  | Set v k p => rw [okE_set] at h; cases h
  | _ => rfl
theorem ok_mark {x : X} {c : Ck} {e : Expr} (h : okE x c e = true) (op : CmpOp) : behindInMarks op e = false := by
  cases e with
  | Set v k p => rw [okE_set] at h; cases h
  | _ => rfl
theorem ok_ix {x : X} {c : Ck} {e : Expr} (h : okE x c e = true) : PlainIx e := fun o i => by
  cases e with
  | Slice a b d p => rw [okE_slice] at h; cases h
  | _ => rfl
/-- a def's facts -/
structure Ft where
  name : Str
  adr : Addr
  fd : FuncData
  ps : List Str
def frees : List Str := ["len", "int", "all", "isinstance", "range", "enumerate", "zip", "bool", "str", "list", "tuple", "ValueError", "LookupError", "IndexError"]
def ecN (P : Pg) (k : Nat) : Ec := ⟨callN P k, P.glo, P.exn, P.sub, P.fuel⟩
def spC (G : Gs) (P : Pg) (k f : Nat) : Sp := fun vs H Q _ => ∃ ω M ds, HRel G ω M H ∧ Rels G ω ds vs ∧ PostE G ω (callN P k f ds M) Q
/-- the fields' names of an exception -/
def xks : Option Tx → List Tx
  | some f => [f, [99, 111, 100, 101]]
  | none => [[99, 111, 100, 101]]
def clV (G : Gs) : Cl → Option Value
  | .own n => some (.ref (G.CA n))
  | .ext n => (extName n).map Value.type
  | _ => none
structure Ok (G : Gs) (P : Pg) (ft : List Ft) (k : Nat) (c : Ck) (Y : L2.Cx) : Prop where
  hK : Y.K = G.K
  hN : Y.N = c.N
  hsc : Y.env.scope = c.sc
  nd : c.N.Nodup
  calm : Y.calm = true
  room : Room (k + 8) Y.A
  xe : Y.xe = fun _ _ => False
  fnv : ∀ x, c.fnv x = true → Y.fn x = true
  hfn : c.fn = ft.map Ft.name
  fns : ∀ (f : Nat) t, ft[f]? = some t → Y.mg t.name = some (.ref t.adr) ∧ PySem.W.keepIn Y.K (.ref t.adr) = true ∧ Binds Y.K t.fd t.ps [] ∧ FnOk Y.prog Y.w Y.K Y.mg Y.base CX0 (k + 8) t.adr t.fd t.ps (spC G P k f)
  free : ∀ x ∈ frees, Y.mg x = none
  xcs : ∀ (i : Nat) x f, c.xn[i]? = some (x, f) → Y.mg x = some (.ref (G.CA i)) ∧ PySem.W.keepIn Y.K (.ref (G.CA i)) = true ∧ ∀ code f', P.exn[i]? = some (some (code, f')) → f = f'.map sS ∧ Nonempty (XCl Y.K (G.CA i) (sS code) (f'.map sS)) ∧ XIs Y.K (G.CA i) (xks f')
  sub : ∀ (i : Nat) q b, P.sub i q = some b → ∃ cv, clV G q = some cv ∧ PySem.W.kitOne Y.K (.ref (G.CA i)) cv = some b
section
variable {G : Gs} {P : Pg} {ft : List Ft} {k : Nat} {c : Ck} {Y : L2.Cx}
theorem Ok.gl (O : Ok G P ft k c Y) {x : Str} (h : c.gl x = true) : Gl Y x := by
  unfold Ck.gl at h
  have h' := of_decide_eq_true h
  rw [← O.hsc] at h'
  exact h'
theorem Ok.vis (O : Ok G P ft k c Y) {x : Str} (h : c.vis x = true) : Vis Y.env.scope x := by
  unfold Ck.vis at h
  rw [← O.hsc] at h
  unfold Vis
  split at h
  · exact .inl (by assumption)
  · exact .inr (.inl (by assumption))
  · exact .inr (.inr (by assumption))
  · cases h
theorem Ok.tgt (O : Ok G P ft k c Y) {i : Nat} {x : Str} {pos : Pos} (h : c.tgt i x = true) : PG Y (.Name x pos) (gName i) := by
  unfold Ck.tgt at h
  rw [Bool.and_eq_true] at h
  have hi := of_decide_eq_true h.1
  have h2 := h.2
  rw [← O.hsc] at h2
  rw [← O.hN] at hi
  have nd : Y.N.Nodup := by rw [O.hN]; exact O.nd
  split at h2
  · rename_i e
    exact pg_name nd hi (.inl e) (.inr e)
  · rename_i e
    exact pg_name nd hi (.inr e) (.inl (O.fnv x h2))
  · cases h2
theorem Ok.blk (O : Ok G P ft k c Y) {s : Shared} {H : Hp} {scope : Scope} {C : Addr} {cl : List (Str × Addr)} {fp : List Addr} : Ok G P ft k (c.blk scope) (Y.blk s H scope (compEnvC scope cl C Y.env) fp) := by
  refine ⟨O.hK, O.hN, ?_, O.nd, O.calm, O.room, rfl, fun x h => h, O.hfn, O.fns, O.free, O.xcs, O.sub⟩
  show relS scope Y.env.scope = relS scope c.sc
  rw [O.hsc]
end
/-- a test's evaluation -/
def evB (C : Ec) (x : X) (env : En) (M : List O) : Rs Bool := (ev C x env M).bind fun d M1 => match d with
  | .bl b => .ok b M1
  | _ => .er
abbrev PostB (G : Gs) := Post G (fun (_ : Wd) (d b : Bool) => d = b)
def tB' (G : Gs) (C : Ec) (x : X) : TT := fun σ H Q => ∃ ω M env, EnvRel G ω env σ ∧ HRel G ω M H ∧ PostB G ω (evB C x env M) Q
theorem ev_test {C : Ec} {x : X} {env : En} {M : List O} {α : Type} {a b : List O → Rs α} : ((ev C x env M).bind fun d M1 => match d with
    | .bl true => a M1
    | .bl false => b M1
    | _ => .er) = (evB C x env M).bind fun t M1 => if t = true then a M1 else b M1 := by
  unfold evB
  cases ev C x env M with
  | er => rfl
  | ok d M1 =>
    cases d with
    | bl t => cases t <;> rfl
    | _ => rfl
theorem PostB.bind {γ δ : Type} {G : Gs} {RB : Wd → γ → δ → Prop} {ω : Wd} {r : Rs Bool} {f : Bool → List O → Rs γ} {Q : δ → Hp → Prop} {Q' : Bool → Hp → Prop} (h : Post G RB ω (r.bind f) Q)
    (k : ∀ t M1 ω1 H1, Le ω ω1 → HRel G ω1 M1 H1 → Post G RB ω1 (f t M1) Q → Q' t H1) : PostB G ω r Q' :=
  Post.bind h fun d M1 ω1 H1 v le hh e p => by
    subst e
    exact k d M1 ω1 H1 le hh p
structure Snd (G : Gs) (C : Ec) (Y : L2.Cx) (e : Expr) (x : X) : Prop where
  pe : PE Y e (tE G C x)
  pt : PT Y e (tB' G C x)
  pw : ∀ op vs pos, e = .BoolOp op vs pos → PW Y e (tB' G C x)
theorem Snd.of {G : Gs} {C : Ec} {Y : L2.Cx} {e : Expr} {x : X} (h : PE Y e (tE G C x)) (hp : ∀ whole, isTrue e Y.env whole = (do let v ← whole; standAt e.pos; holding [v] (truthy v))) (nb : ∀ op vs pos, e ≠ .BoolOp op vs pos) : Snd G C Y e x := by
  refine ⟨h, PT.imp (pt_val h hp) fun σ H Q q => ?_, fun op vs pos z => absurd z (nb op vs pos)⟩
  obtain ⟨ω, M, env, he, hh, post⟩ := q
  refine ⟨ω, M, env, he, hh, ?_⟩
  unfold evB at post
  refine Post.bind post fun d M1 ω1 H1 v le hh1 r p => ?_
  cases d with
  | bl b =>
    rw [Rel] at r
    exact ⟨b, r, Post.here (v := b) p hh1 rfl⟩
  | _ => exact False.elim p
/-- behind an evaluation -/
theorem tE_bind {G : Gs} {C : Ec} {x : X} {σ : L2.St} {H : Hp} {γ δ : Type} {RB : Wd → γ → δ → Prop} {f : D → List O → Rs γ} {Q : δ → Hp → Prop} {Q' : VK} {ω : Wd} {M : List O} {env : En} (he : EnvRel G ω env σ) (hh : HRel G ω M H)
    (post : Post G RB ω ((ev C x env M).bind f) Q) (k : ∀ d M1 ω1 H1 v, EnvRel G ω1 env σ → HRel G ω1 M1 H1 → Rel G ω1 d v → Post G RB ω1 (f d M1) Q → Le ω ω1 → Q' v H1) : tE G C x σ H Q' :=
  ⟨ω, M, env, he, hh, Post.bind post fun d M1 ω1 H1 v le hh1 r p => k d M1 ω1 H1 v (he.mono le) hh1 r p le⟩
theorem tEs_bind {G : Gs} {C : Ec} {xs : List X} {σ : L2.St} {H : Hp} {γ δ : Type} {RB : Wd → γ → δ → Prop} {f : List D → List O → Rs γ} {Q : δ → Hp → Prop} {Q' : List V → Hp → Prop} {ω : Wd} {M : List O} {env : En} (he : EnvRel G ω env σ) (hh : HRel G ω M H)
    (post : Post G RB ω ((evs C xs env M).bind f) Q) (k : ∀ d M1 ω1 H1 v, EnvRel G ω1 env σ → HRel G ω1 M1 H1 → Rels G ω1 d v → Post G RB ω1 (f d M1) Q → Le ω ω1 → Q' v H1) : tEs G C xs σ H Q' :=
  ⟨ω, M, env, he, hh, Post.bind post fun d M1 ω1 H1 v le hh1 r p => k d M1 ω1 H1 v (he.mono le) hh1 r p le⟩
theorem tB_bind {G : Gs} {C : Ec} {x : X} {σ : L2.St} {H : Hp} {γ δ : Type} {RB : Wd → γ → δ → Prop} {f : Bool → List O → Rs γ} {Q : δ → Hp → Prop} {Q' : Bool → Hp → Prop} {ω : Wd} {M : List O} {env : En} (he : EnvRel G ω env σ) (hh : HRel G ω M H)
    (post : Post G RB ω ((evB C x env M).bind f) Q) (k : ∀ d M1 ω1 H1, EnvRel G ω1 env σ → HRel G ω1 M1 H1 → Post G RB ω1 (f d M1) Q → Le ω ω1 → Q' d H1) : tB' G C x σ H Q' :=
  ⟨ω, M, env, he, hh, PostB.bind post fun d M1 ω1 H1 le hh1 p => k d M1 ω1 H1 (he.mono le) hh1 p le⟩
theorem tE_pair {G : Gs} {C : Ec} {a b : X} {σ : L2.St} {H : Hp} {γ δ : Type} {RB : Wd → γ → δ → Prop} {f : D → D → List O → Rs γ} {Q : δ → Hp → Prop} {Q' : V → V → Hp → Prop} {ω : Wd} {M : List O} {env : En} (he : EnvRel G ω env σ) (hh : HRel G ω M H)
    (post : Post G RB ω ((ev C a env M).bind fun x M1 => (ev C b env M1).bind fun y M2 => f x y M2) Q)
    (k : ∀ x y M2 ω2 H2 v w, EnvRel G ω2 env σ → HRel G ω2 M2 H2 → Rel G ω2 x v → Rel G ω2 y w → Post G RB ω2 (f x y M2) Q → Le ω ω2 → Q' v w H2) : tE G C a σ H fun v H1 => tE G C b σ H1 fun w H2 => Q' v w H2 :=
  tE_bind he hh post fun d M1 ω1 H1 v he1 hh1 r p le => tE_bind he1 hh1 p fun d2 M2 ω2 H2 w he2 hh2 r2 p2 le2 => k d d2 M2 ω2 H2 v w he2 hh2 (Rel.mono le2 _ _ r) r2 p2 (le.trans le2)
end Ev


set_option autoImplicit false
set_option Elab.async false
set_option linter.all false
set_option maxRecDepth 100000
set_option maxHeartbeats 4000000
/-! EvG: one rule a construct. -/
namespace Ev
open PySem PySem.Spec PyProof.Rows L2
section
variable {G : Gs} {P : Pg} {ft : List Ft} {k : Nat} {c : Ck} {Y : L2.Cx}
/-! ### names, constants -/
theorem s_var (O : Ok G P ft k c Y) {i : Nat} {x : Str} {pos : Pos} (h : okE (.var i) c (.Name x pos) = true) : Snd G (ecN P k) Y (.Name x pos) (.var i) := by
  rw [okE] at h
  simp only [Bool.and_eq_true, decide_eq_true_eq, beq_iff_eq] at h
  obtain ⟨h1, h2, h3, h4⟩ := h
  refine Snd.of (PE.imp (pe_var (i := i) (by rw [O.hN]; exact h1) (O.vis h2) h3 h4) fun σ H Q q => ?_) (fun _ => rfl) (fun _ _ _ z => nomatch z)
  obtain ⟨ω, M, env, he, hh, post⟩ := q
  rw [ev] at post
  split at post
  · rename_i d e
    obtain ⟨v, e1, r⟩ := he.val i d e
    exact ⟨v, e1, Post.here post hh r⟩
  · exact False.elim post
theorem s_cst {d : D} {kk : Const} {n : Nat} {pos : Pos} (h : okE (.cst d) c (.Constant kk n pos) = true) : Snd G (ecN P k) Y (.Constant kk n pos) (.cst d) := by
  rw [okE] at h
  unfold okK at h
  split at h
  · have e := of_decide_eq_true h
    subst e
    refine Snd.of (PE.imp pe_int fun σ H Q q => ?_) (fun _ => rfl) (fun _ _ _ z => nomatch z)
    obtain ⟨ω, M, env, he, hh, post⟩ := q
    rw [ev] at post
    exact post_int post hh
  · have e := eq_of_beq h
    subst e
    refine Snd.of (PE.imp pe_bl fun σ H Q q => ?_) (fun _ => rfl) (fun _ _ _ z => nomatch z)
    obtain ⟨ω, M, env, he, hh, post⟩ := q
    rw [ev] at post
    exact post_bl post hh
  · refine Snd.of (PE.imp pe_non fun σ H Q q => ?_) (fun _ => rfl) (fun _ _ _ z => nomatch z)
    obtain ⟨ω, M, env, he, hh, post⟩ := q
    rw [ev] at post
    exact Post.here post hh (by rw [Rel])
  · rename_i s z
    have e := of_decide_eq_true h
    have e2 : z = sS s := by
      unfold sS
      rw [← e]
    subst e2
    refine Snd.of (PE.imp pe_str fun σ H Q q => ?_) (fun _ => rfl) (fun _ _ _ z => nomatch z)
    obtain ⟨ω, M, env, he, hh, post⟩ := q
    rw [ev] at post
    exact post_str post hh
  · cases h
/-! ### operators -/
theorem s_bin {o : BOp} {a b : X} {ea eb : Expr} {op : Operator} {pos : Pos} (ho : op = bo o) (A : Snd G (ecN P k) Y ea a) (B : Snd G (ecN P k) Y eb b) : Snd G (ecN P k) Y (.BinOp ea op eb pos) (.bin o a b) := by
  subst ho
  refine Snd.of (PE.imp (pe_op (opB (G := G) o) A.pe B.pe) fun σ H Q q => ?_) (fun _ => rfl) (fun _ _ _ z => nomatch z)
  obtain ⟨ω, M, env, he, hh, post⟩ := q
  rw [ev] at post
  exact tE_pair he hh post fun x y M2 ω2 H2 v w he2 hh2 r1 r2 p le => ⟨ω2, M2, x, y, hh2, r1, r2, p⟩
theorem s_neg {a : X} {ea : Expr} {pos : Pos} (A : Snd G (ecN P k) Y ea a) : Snd G (ecN P k) Y (.UnaryOp .USub ea pos) (.neg a) := by
  refine Snd.of (PE.imp (pe_un un_neg A.pe) fun σ H Q q => ?_) (fun _ => rfl) (fun _ _ _ z => nomatch z)
  obtain ⟨ω, M, env, he, hh, post⟩ := q
  rw [ev] at post
  refine tE_bind he hh post fun d M1 ω1 H1 v he1 hh1 r p le => ?_
  cases d with
  | int i =>
    rw [Rel] at r
    exact ⟨i, r, post_int p hh1⟩
  | _ => exact False.elim p
theorem s_cmp (O : Ok G P ft k c Y) {o : COp} {a b : X} {ea eb : Expr} {op : CmpOp} {pos : Pos} (ho : op = co o) (A : Snd G (ecN P k) Y ea a) (B : Snd G (ecN P k) Y eb b) (hm : behindInMarks op eb = false) : Snd G (ecN P k) Y (.Compare ea [op] [eb] pos) (.cmp o a b) := by
  subst ho
  have OC := opC (G := G) (Y := Y) O.hK O.room.units o
  have key : ∀ σ H Q, tE G (ecN P k) (.cmp o a b) σ H Q → tOp (rC G o) (tE G (ecN P k) a) (tE G (ecN P k) b) σ H Q := fun σ H Q q => by
    obtain ⟨ω, M, env, he, hh, post⟩ := q
    rw [ev] at post
    exact tE_pair he hh post fun x y M2 ω2 H2 v w he2 hh2 r1 r2 p le => ⟨ω2, M2, x, y, hh2, r1, r2, p⟩
  refine ⟨PE.imp (pe_cmpR OC A.pe B.pe hm) key, PT.imp (pt_cmpR OC A.pe B.pe hm) fun σ H Q q => ?_, fun _ _ _ z => nomatch z⟩
  obtain ⟨ω, M, env, he, hh, post⟩ := q
  refine key σ H _ ⟨ω, M, env, he, hh, ?_⟩
  unfold evB at post
  refine Post.bind post fun d M1 ω1 H1 v le hh1 r p => ?_
  cases d with
  | bl b =>
    rw [Rel] at r
    exact ⟨b, r, Post.here (v := b) p hh1 rfl⟩
  | _ => exact False.elim p
theorem last_marks {op op' : CmpOp} {b d : Expr} (h : behindInMarks op' d = false) : lastMarks [op, op'] [b, d] = false := h
theorem s_cmp2 (O : Ok G P ft k c Y) {o p : COp} {a b d : X} {ea eb ed : Expr} {op pp : CmpOp} {pos : Pos} (ho : op = co o) (hp : pp = co p) (A : Snd G (ecN P k) Y ea a) (B : Snd G (ecN P k) Y eb b) (E : Snd G (ecN P k) Y ed d) (hm : behindInMarks pp ed = false) :
    Snd G (ecN P k) Y (.Compare ea [op, pp] [eb, ed] pos) (.cmp2 o p a b d) := by
  subst ho hp
  have OC := opC (G := G) (Y := Y) O.hK O.room.units o
  have OP := opC (G := G) (Y := Y) O.hK O.room.units p
  have key : ∀ σ H Q, tE G (ecN P k) (.cmp2 o p a b d) σ H Q → tChain (rC G o) (rC G p) (tE G (ecN P k) a) (tE G (ecN P k) b) (tE G (ecN P k) d) σ H Q := fun σ H Q q => by
    obtain ⟨ω, M, env, he, hh, post⟩ := q
    rw [ev] at post
    refine tE_pair he hh post fun x y M2 ω2 H2 v w he2 hh2 r1 r2 q le => ⟨ω2, M2, x, y, hh2, r1, r2, ?_⟩
    refine Post.bind q fun z M3 ω3 H3 u le3 hh3 rz q3 => ?_
    cases z with
    | bl t =>
      rw [Rel] at rz
      refine ⟨t, rz, ?_⟩
      cases t with
      | true =>
        rw [if_pos rfl]
        exact tE_bind (he2.mono le3) hh3 q3 fun z4 M4 ω4 H4 u4 he4 hh4 r4 q4 le4 => ⟨ω4, M4, y, z4, hh4, Rel.mono (le3.trans le4) _ _ r2, r4, q4⟩
      | false =>
        rw [if_neg Bool.false_ne_true]
        exact post_bl q3 hh3
    | _ => exact False.elim q3
  refine ⟨PE.imp (pe_chain OC OP A.pe B.pe E.pe (last_marks hm)) key, PT.imp (pt_chain OC OP A.pe B.pe E.pe (last_marks hm)) fun σ H Q q => ?_, fun _ _ _ z => nomatch z⟩
  obtain ⟨ω, M, env, he, hh, post⟩ := q
  refine key σ H _ ⟨ω, M, env, he, hh, ?_⟩
  unfold evB at post
  refine Post.bind post fun d M1 ω1 H1 v le hh1 r p => ?_
  cases d with
  | bl b =>
    rw [Rel] at r
    exact ⟨b, r, Post.here (v := b) p hh1 rfl⟩
  | _ => exact False.elim p
/-! ### and, or, not, if -/
theorem evB_and {C : Ec} {a b : X} {env : En} {M : List O} : evB C (.and a b) env M = (evB C a env M).bind fun t M1 => if t = true then evB C b env M1 else .ok false M1 := by
  unfold evB
  rw [ev]
  cases ev C a env M with
  | er => rfl
  | ok d M1 =>
    cases d with
    | bl t => cases t <;> rfl
    | _ => rfl
theorem evB_or {C : Ec} {a b : X} {env : En} {M : List O} : evB C (.or a b) env M = (evB C a env M).bind fun t M1 => if t = true then .ok true M1 else evB C b env M1 := by
  unfold evB
  rw [ev]
  cases ev C a env M with
  | er => rfl
  | ok d M1 =>
    cases d with
    | bl t => cases t <;> rfl
    | _ => rfl
theorem evB_not {C : Ec} {a : X} {env : En} {M : List O} : evB C (.not a) env M = (evB C a env M).bind fun t M1 => .ok (!t) M1 := by
  unfold evB
  rw [ev]
  cases ev C a env M with
  | er => rfl
  | ok d M1 => cases d <;> rfl
theorem PostB.done {ω : Wd} {t : Bool} {M : List O} {H : Hp} {Q : Bool → Hp → Prop} (h : PostB G ω (.ok t M) Q) (hh : HRel G ω M H) : Q t H := Post.here (v := t) h hh rfl
theorem pw_one_and {e : Expr} {pos : Pos} {t : TT} (h : PT Y e t) : PW Y (.BoolOp .And [e] pos) t := pw_and1 h
/-- the reading of a conjunction -/
theorem and_key {a b : X} (σ : L2.St) (H : Hp) (Q : Bool → Hp → Prop) (q : tB' G (ecN P k) (.and a b) σ H Q) : tAnd (tB' G (ecN P k) a) (tB' G (ecN P k) b) σ H Q := by
  obtain ⟨ω, M, env, he, hh, post⟩ := q
  rw [evB_and] at post
  refine tB_bind he hh post fun t M1 ω1 H1 he1 hh1 p le => ?_
  cases t with
  | true => rw [if_pos rfl] at p ⊢; exact ⟨ω1, M1, env, he1, hh1, p⟩
  | false => rw [if_neg Bool.false_ne_true] at p ⊢; exact PostB.done p hh1
theorem or_key {a b : X} (σ : L2.St) (H : Hp) (Q : Bool → Hp → Prop) (q : tB' G (ecN P k) (.or a b) σ H Q) : tOr (tB' G (ecN P k) a) (tB' G (ecN P k) b) σ H Q := by
  obtain ⟨ω, M, env, he, hh, post⟩ := q
  rw [evB_or] at post
  refine tB_bind he hh post fun t M1 ω1 H1 he1 hh1 p le => ?_
  cases t with
  | true => rw [if_pos rfl] at p ⊢; exact PostB.done p hh1
  | false => rw [if_neg Bool.false_ne_true] at p ⊢; exact ⟨ω1, M1, env, he1, hh1, p⟩
theorem and_keyV {a b : X} (σ : L2.St) (H : Hp) (Q : VK) (q : tE G (ecN P k) (.and a b) σ H Q) : tAndV (tE G (ecN P k) a) (tE G (ecN P k) b) σ H Q := by
  obtain ⟨ω, M, env, he, hh, post⟩ := q
  rw [ev] at post
  refine tE_bind he hh post fun d M1 ω1 H1 v he1 hh1 r p le => ?_
  cases d with
  | bl t =>
    rw [Rel] at r
    refine ⟨t, r, ?_⟩
    cases t with
    | true => rw [if_pos rfl]; exact ⟨ω1, M1, env, he1, hh1, p⟩
    | false => rw [if_neg Bool.false_ne_true]; exact post_bl p hh1
  | _ => exact False.elim p
theorem or_keyV {a b : X} (σ : L2.St) (H : Hp) (Q : VK) (q : tE G (ecN P k) (.or a b) σ H Q) : tOrV (tE G (ecN P k) a) (tE G (ecN P k) b) σ H Q := by
  obtain ⟨ω, M, env, he, hh, post⟩ := q
  rw [ev] at post
  refine tE_bind he hh post fun d M1 ω1 H1 v he1 hh1 r p le => ?_
  cases d with
  | bl t =>
    rw [Rel] at r
    refine ⟨t, r, ?_⟩
    cases t with
    | true => rw [if_pos rfl]; exact post_bl p hh1
    | false => rw [if_neg Bool.false_ne_true]; exact ⟨ω1, M1, env, he1, hh1, p⟩
  | _ => exact False.elim p
theorem s_and2 {a b : X} {ea eb : Expr} {pos : Pos} (A : Snd G (ecN P k) Y ea a) (B : Snd G (ecN P k) Y eb b) : Snd G (ecN P k) Y (.BoolOp .And [ea, eb] pos) (.and a b) := by
  have w : PW Y (.BoolOp .And [ea, eb] pos) (tB' G (ecN P k) (.and a b)) := PW.imp (pw_and A.pt (pw_and1 B.pt)) and_key
  exact ⟨PE.imp (pe_and A.pe (pe_one B.pe)) and_keyV, w.pt, fun _ _ _ _ => w⟩
theorem s_and3 {a b : X} {ea eb ed : Expr} {rest : List Expr} {pos : Pos} (A : Snd G (ecN P k) Y ea a) (B : Snd G (ecN P k) Y (.BoolOp .And (eb :: ed :: rest) pos) b) : Snd G (ecN P k) Y (.BoolOp .And (ea :: eb :: ed :: rest) pos) (.and a b) := by
  have w : PW Y (.BoolOp .And (ea :: eb :: ed :: rest) pos) (tB' G (ecN P k) (.and a b)) := PW.imp (pw_and A.pt (B.pw _ _ _ rfl)) and_key
  exact ⟨PE.imp (pe_and A.pe B.pe) and_keyV, w.pt, fun _ _ _ _ => w⟩
theorem s_or2 {a b : X} {ea eb : Expr} {pos : Pos} (A : Snd G (ecN P k) Y ea a) (B : Snd G (ecN P k) Y eb b) : Snd G (ecN P k) Y (.BoolOp .Or [ea, eb] pos) (.or a b) := by
  have w : PW Y (.BoolOp .Or [ea, eb] pos) (tB' G (ecN P k) (.or a b)) := PW.imp (pw_or A.pt (pw_or1 B.pt)) or_key
  exact ⟨PE.imp (pe_or A.pe (pe_one B.pe)) or_keyV, w.pt, fun _ _ _ _ => w⟩
theorem s_or3 {a b : X} {ea eb ed : Expr} {rest : List Expr} {pos : Pos} (A : Snd G (ecN P k) Y ea a) (B : Snd G (ecN P k) Y (.BoolOp .Or (eb :: ed :: rest) pos) b) : Snd G (ecN P k) Y (.BoolOp .Or (ea :: eb :: ed :: rest) pos) (.or a b) := by
  have w : PW Y (.BoolOp .Or (ea :: eb :: ed :: rest) pos) (tB' G (ecN P k) (.or a b)) := PW.imp (pw_or A.pt (B.pw _ _ _ rfl)) or_key
  exact ⟨PE.imp (pe_or A.pe B.pe) or_keyV, w.pt, fun _ _ _ _ => w⟩
theorem s_not {a : X} {ea : Expr} {pos : Pos} (A : Snd G (ecN P k) Y ea a) : Snd G (ecN P k) Y (.UnaryOp .Not ea pos) (.not a) := by
  refine ⟨PE.imp (pe_not A.pe) fun σ H Q q => ?_, PT.imp (pt_not A.pt) fun σ H Q q => ?_, fun _ _ _ z => nomatch z⟩
  · obtain ⟨ω, M, env, he, hh, post⟩ := q
    rw [ev] at post
    refine tE_bind he hh post fun d M1 ω1 H1 v he1 hh1 r p le => ?_
    cases d with
    | bl t =>
      rw [Rel] at r
      exact ⟨t, r, post_bl p hh1⟩
    | _ => exact False.elim p
  · obtain ⟨ω, M, env, he, hh, post⟩ := q
    rw [evB_not] at post
    exact tB_bind he hh post fun t M1 ω1 H1 he1 hh1 p le => PostB.done p hh1
theorem pt_ifExp {t1 t2 t3 : TT} {et ea eb : Expr} {pos : Pos} (h1 : PT Y et t1) (h2 : PT Y ea t2) (h3 : PT Y eb t3) : PT Y (.IfExp et ea eb pos) (fun σ H Q => t1 σ H fun b H1 => if b = true then t2 σ H1 Q else t3 σ H1 Q) := by
  refine ⟨fun pins s σ H Q I h => ?_⟩
  show wpAny _ _ (do if ← isTrue et Y.env (eval et Y.env) then isTrue ea Y.env (eval ea Y.env) else isTrue eb Y.env (eval eb Y.env)) _ _ _
  refine wpAny_bind (thn (h1.run pins s σ H _ I h) fun b s1 ⟨H1, I1, q1⟩ => ?_)
  cases b with
  | true => exact h2.run pins s1 σ H1 Q I1 q1
  | false => exact h3.run pins s1 σ H1 Q I1 q1
theorem evB_ife {C : Ec} {t a b : X} {env : En} {M : List O} : evB C (.ife t a b) env M = (evB C t env M).bind fun u M1 => if u = true then evB C a env M1 else evB C b env M1 := by
  unfold evB
  rw [ev]
  cases ev C t env M with
  | er => rfl
  | ok d M1 =>
    cases d with
    | bl t => cases t <;> rfl
    | _ => rfl
theorem ev_ife {C : Ec} {t a b : X} {env : En} {M : List O} : ev C (.ife t a b) env M = (evB C t env M).bind fun u M1 => if u = true then ev C a env M1 else ev C b env M1 := by
  unfold evB
  rw [ev]
  cases ev C t env M with
  | er => rfl
  | ok d M1 =>
    cases d with
    | bl t => cases t <;> rfl
    | _ => rfl
theorem s_ife {t a b : X} {et ea eb : Expr} {pos : Pos} (T : Snd G (ecN P k) Y et t) (A : Snd G (ecN P k) Y ea a) (B : Snd G (ecN P k) Y eb b) : Snd G (ecN P k) Y (.IfExp et ea eb pos) (.ife t a b) := by
  refine ⟨PE.imp (pe_ifExp T.pt A.pe B.pe) fun σ H Q q => ?_, PT.imp (pt_ifExp T.pt A.pt B.pt) fun σ H Q q => ?_, fun _ _ _ z => nomatch z⟩
  · obtain ⟨ω, M, env, he, hh, post⟩ := q
    rw [ev_ife] at post
    refine tB_bind he hh post fun u M1 ω1 H1 he1 hh1 p le => ?_
    cases u with
    | true => rw [if_pos rfl] at p ⊢; exact ⟨ω1, M1, env, he1, hh1, p⟩
    | false => rw [if_neg Bool.false_ne_true] at p ⊢; exact ⟨ω1, M1, env, he1, hh1, p⟩
  · obtain ⟨ω, M, env, he, hh, post⟩ := q
    rw [evB_ife] at post
    refine tB_bind he hh post fun u M1 ω1 H1 he1 hh1 p le => ?_
    cases u with
    | true => rw [if_pos rfl] at p ⊢; exact ⟨ω1, M1, env, he1, hh1, p⟩
    | false => rw [if_neg Bool.false_ne_true] at p ⊢; exact ⟨ω1, M1, env, he1, hh1, p⟩
end
end Ev


set_option autoImplicit false
set_option Elab.async false
set_option linter.all false
set_option maxRecDepth 100000
set_option maxHeartbeats 4000000
/-! EvH: displays, subscripts, calls. -/
namespace Ev
open PySem PySem.Spec PyProof.Rows L2
section
variable {G : Gs} {P : Pg} {ft : List Ft} {k : Nat} {c : Ck} {Y : L2.Cx}
/-! ### arguments, displays -/
theorem a_nil : PA Y [] (tEs G (ecN P k) []) := PA.imp pa_nil fun σ H Q q => by
  obtain ⟨ω, M, env, he, hh, post⟩ := q
  rw [evs] at post
  exact Post.here post hh Rels.nil
theorem a_cons {x : X} {xs : List X} {e : Expr} {es : List Expr} (hs : starEach (e :: es) Y.env = (false, eval e Y.env) :: starEach es Y.env) (A : PE Y e (tE G (ecN P k) x)) (B : PA Y es (tEs G (ecN P k) xs)) : PA Y (e :: es) (tEs G (ecN P k) (x :: xs)) := PA.imp (pa_cons A B hs) fun σ H Q q => by
  obtain ⟨ω, M, env, he, hh, post⟩ := q
  rw [evs] at post
  exact tE_bind he hh post fun d M1 ω1 H1 v he1 hh1 r p le => tEs_bind he1 hh1 p fun ds M2 ω2 H2 vs he2 hh2 r2 p2 le2 => Post.here p2 hh2 (Rels.cons (Rel.mono le2 _ _ r) r2)
theorem s_tup {es : List X} {as : List Expr} {n : Nat} {pos : Pos} (A : PA Y as (tEs G (ecN P k) es)) : Snd G (ecN P k) Y (.Tuple as n pos) (.tup es) := by
  refine Snd.of (PE.imp (pe_tup A) fun σ H Q q => ?_) (fun _ => rfl) (fun _ _ _ z => nomatch z)
  obtain ⟨ω, M, env, he, hh, post⟩ := q
  rw [ev] at post
  refine tEs_bind he hh post fun ds M1 ω1 H1 vs he1 hh1 r p le => ?_
  split at p
  · rename_i hl
    exact ⟨by rw [r.length]; exact Nat.le_trans hl lim_le, fun q hq => post_tup p hh1 hq r⟩
  · exact False.elim p
theorem s_lst {h : Bool} {es : List X} {as : List Expr} {pos : Pos} (A : PA Y as (tEs G (ecN P k) es)) : Snd G (ecN P k) Y (.List as pos) (.lst h es) := by
  refine Snd.of (PE.imp (pe_lst A) fun σ H Q q => ?_) (fun _ => rfl) (fun _ _ _ z => nomatch z)
  obtain ⟨ω, M, env, he, hh, post⟩ := q
  rw [ev] at post
  refine tEs_bind he hh post fun ds M1 ω1 H1 vs he1 hh1 r p le => ?_
  split at p
  · rename_i hl
    refine ⟨by rw [r.length]; exact Nat.le_trans hl lim_le, fun q hq => ?_⟩
    cases h with
    | true => exact post_new p hh1 hq r
    | false => exact post_lst p hh1 hq r
  · exact False.elim p
/-! ### subscripts -/
theorem ixOf_eq (n : Nat) (i : Int) : ixOf n i = ixN n i := by
  unfold ixOf ixN
  by_cases h : 0 ≤ i
  · rw [if_pos h, if_pos h]
    by_cases h2 : i.toNat < n
    · rw [if_pos h2, if_pos (by omega)]
    · rw [if_neg h2, if_neg (by omega)]
  · rw [if_neg h, if_neg h]
    by_cases h2 : 0 ≤ (n : Int) + i
    · rw [if_pos h2, if_pos (by omega), Int.add_comm]
    · rw [if_neg h2, if_neg (by omega)]
theorem s_item (O : Ok G P ft k c Y) {a i : X} {ea ei : Expr} {pos : Pos} (A : Snd G (ecN P k) Y ea a) (B : Snd G (ecN P k) Y ei i) (hp : PlainIx ei) : Snd G (ecN P k) Y (.Subscript ea ei pos) (.item a i) := by
  refine Snd.of (PE.imp (pe_ix (ix_list.or ix_tup) A.pe B.pe hp) fun σ H Q q => ?_) (fun _ => rfl) (fun _ _ _ z => nomatch z)
  obtain ⟨ω, M, env, he, hh, post⟩ := q
  rw [ev] at post
  refine tE_pair he hh post fun x y M2 ω2 H2 v w he2 hh2 r1 r2 p le => ?_
  split at p
  · rename_i ds kk e
    rw [Rel] at r2
    subst r2
    split at p
    · rename_i j ej
      split at p
      · rename_i d ed
        obtain ⟨q, vs, e1, e2, e3⟩ := itemsOf_ok hh2 r1 e
        subst e1
        obtain ⟨u, f1, f2⟩ := e3.get ed
        have at_ : atI vs kk = some u := by
          unfold atI
          rw [← ixOf_eq, e3.length, ej]
          exact f1
        rcases e2 with e2 | e2
        · exact .inl ⟨q, vs, kk, u, rfl, rfl, SqL.of e2, at_, Post.here p hh2 f2⟩
        · exact .inr ⟨q, vs, kk, u, rfl, rfl, by rw [O.hK]; exact e2, at_, Post.here p hh2 f2⟩
      · exact False.elim p
    · exact False.elim p
  · exact False.elim p
theorem cut_ok {ω : Wd} {ds : List D} {vs : List V} (r : Rels G ω ds vs) (l h : Option Int) : Rels G ω (cut ds l h) (cutV vs l h) := by
  have e : ∀ (n d : Nat) o, sx n d o = HT.sIx n d o := fun n d o => by cases o <;> rfl
  unfold cut cutV
  rw [r.length, e, e]
  exact Rels.take _ (Rels.drop _ r)
/-- a slice's bound -/
def tO (G : Gs) (C : Ec) (xs : List X) : TO := fun σ H Q => ∃ ω M env, EnvRel G ω env σ ∧ HRel G ω M H ∧ Post G (fun (_ : Wd) (a b : Option Int) => a = b) ω ((evs C xs env M).bind fun ds M1 => match bnd ds with
  | some o => .ok o M1
  | none => .er) Q
theorem po_of {lo : List X} {l : Option Expr} (A : PA Y l.toList (tEs G (ecN P k) lo)) (B : ∀ x e, lo = [x] → l = some e → PE Y e (tE G (ecN P k) x)) (hl : lo.length = l.toList.length) : PO Y l (tO G (ecN P k) lo) := by
  cases l with
  | none =>
    have : lo = [] := List.length_eq_zero_iff.mp hl
    subst this
    refine ⟨fun pins s σ H Q I h => po_none.run pins s σ H Q I ?_⟩
    obtain ⟨ω, M, env, he, hh, post⟩ := h
    rw [evs] at post
    exact Post.here (v := none) post hh rfl
  | some e =>
    obtain ⟨x, rfl⟩ : ∃ x, lo = [x] := by
      cases lo with
      | nil => cases hl
      | cons x r =>
        cases r with
        | nil => exact ⟨x, rfl⟩
        | cons y r => simp at hl
    refine ⟨fun pins s σ H Q I h => (po_some (B x e rfl rfl)).run pins s σ H Q I ?_⟩
    obtain ⟨ω, M, env, he, hh, post⟩ := h
    have e2 : ((evs (ecN P k) [x] env M).bind fun ds M1 => match bnd ds with
      | some o => Rs.ok o M1
      | none => .er) = (ev (ecN P k) x env M).bind fun d M1 => match d with
        | .int i => .ok (some i) M1
        | _ => .er := by
      rw [evs]
      cases ev (ecN P k) x env M with
      | er => rfl
      | ok d M1 =>
        simp only [Rs.bind, evs]
        cases d <;> rfl
    rw [e2] at post
    refine tE_bind he hh post fun d M1 ω1 H1 v he1 hh1 r p le => ?_
    cases d with
    | int i =>
      rw [Rel] at r
      exact ⟨i, r, Post.here (v := some i) p hh1 rfl⟩
    | _ => exact False.elim p
theorem post_dead {α β γ : Type} {RA : Wd → β → γ → Prop} {ω : Wd} {r : Rs α} {Q : γ → Hp → Prop} (h : Post G RA ω (r.bind fun _ _ => (.er : Rs β)) Q) : False := by
  cases r <;> exact h
theorem s_slc (O : Ok G P ft k c Y) {a : X} {lo hi : List X} {ea : Expr} {l h : Option Expr} {pos p2 : Pos} (A : Snd G (ecN P k) Y ea a) (B : PO Y l (tO G (ecN P k) lo)) (E : PO Y h (tO G (ecN P k) hi)) :
    Snd G (ecN P k) Y (.Subscript ea (.Slice l h none p2) pos) (.slc a lo hi) := by
  refine Snd.of (PE.imp (pe_slice sl_list A.pe B E) fun σ H Q q => ?_) (fun _ => rfl) (fun _ _ _ z => nomatch z)
  obtain ⟨ω, M, env, he, hh, post⟩ := q
  rw [ev] at post
  refine tE_bind he hh post fun d M1 ω1 H1 v he1 hh1 r p le => ?_
  refine ⟨ω1, M1, env, he1, hh1, ?_⟩
  cases e1 : evs (ecN P k) lo env M1 with
  | er => rw [e1] at p; exact p
  | ok ls M2 =>
    rw [e1] at p
    have p : PostE G ω1 ((evs (ecN P k) hi env M2).bind fun r M3 => match sliceOf M3 d, bnd ls, bnd r with
      | some ds, some l, some r => .ok (.lst (cut ds l r)) M3
      | _, _, _ => .er) Q := p
    show Post G _ ω1 (match bnd ls with
      | some o => .ok o M2
      | none => .er) _
    cases e2 : bnd ls with
    | none =>
      rw [e2] at p
      cases e3 : evs (ecN P k) hi env M2 with
      | er => rw [e3] at p; exact p
      | ok rs M3 =>
        rw [e3] at p
        have p : PostE G ω1 (match sliceOf M3 d, (none : Option (Option Int)), bnd rs with
          | some ds, some l, some r => .ok (.lst (cut ds l r)) M3
          | _, _, _ => .er) Q := p
        cases e9 : sliceOf M3 d <;> (rw [e9] at p; exact False.elim p)
    | some lo' =>
      rw [e2] at p
      intro ω2 H2 v2 le2 hh2 ev2
      subst ev2
      refine ⟨ω2, M2, env, he1.mono le2, hh2, ?_⟩
      cases e3 : evs (ecN P k) hi env M2 with
      | er => rw [e3] at p; exact p
      | ok rs M3 =>
        rw [e3] at p
        have p : PostE G ω1 (match sliceOf M3 d, some lo', bnd rs with
          | some ds, some l, some r => .ok (.lst (cut ds l r)) M3
          | _, _, _ => .er) Q := p
        show Post G _ ω2 (match bnd rs with
          | some o => .ok o M3
          | none => .er) _
        cases e4 : bnd rs with
        | none => rw [e4] at p; cases e5 : sliceOf M3 d <;> (rw [e5] at p; exact p)
        | some hi' =>
          rw [e4] at p
          intro ω3 H3 v3 le3 hh3 ev3
          subst ev3
          cases e5 : sliceOf M3 d with
          | none => rw [e5] at p; exact False.elim p
          | some ds =>
            rw [e5] at p
            have p : PostE G ω3 (.ok (.lst (cut ds lo' hi')) M3) Q := Post.mono p (le2.trans le3)
            obtain ⟨q, vs, f1, f2, f3⟩ := sliceOf_ok hh3 (Rel.mono (le2.trans le3) _ _ r) e5
            exact ⟨q, vs, f1, by rw [O.hK]; exact f2, fun z hz => post_lst p hh3 hz (cut_ok f3 _ _)⟩
/-! ### calls -/
theorem s_call (O : Ok G P ft k c Y) {f : Nat} {es : List X} {as : List Expr} {x : Str} {p pos : Pos} (hf : c.fn[f]? = some x) (hg : c.gl x = true) (hd : (x == ("__debug__" : Str)) = false) (A : PA Y as (tEs G (ecN P k) es))
    (hs : ∀ e r, as = e :: r → starEach (e :: r) Y.env = (false, eval e Y.env) :: starEach r Y.env ∧ (backTo pos (starEach r Y.env)).any (·.1) = false) (hl : es.length = as.length) : Snd G (ecN P k) Y (.Call (.Name x p) as [] pos) (.call f es) := by
  rw [O.hfn, List.getElem?_map] at hf
  cases e : ft[f]? with
  | none => rw [e] at hf; cases hf
  | some t =>
    rw [e] at hf
    have ex : t.name = x := Option.some.inj hf
    subst ex
    obtain ⟨g1, g2, g3, g4⟩ := O.fns f t e
    have key : ∀ σ H Q, tE G (ecN P k) (.call f es) σ H Q → tCall (spC G P k f) [] E0 (tEs G (ecN P k) es) σ H Q := fun σ H Q q => by
      obtain ⟨ω, M, env, he, hh, post⟩ := q
      rw [ev] at post
      refine tEs_bind he hh post fun ds M1 ω1 H1 vs he1 hh1 r p le => ?_
      rw [List.append_nil]
      exact ⟨ω1, M1, ds, hh1, r, p⟩
    cases as with
    | nil =>
      have : es = [] := List.length_eq_zero_iff.mp hl
      subst this
      refine Snd.of (PE.imp (pe_call0 g4 O.room (O.gl hg) g1 g2 g3 .nil pass0 hd) fun σ H Q q => ?_) (fun _ => rfl) (fun _ _ _ z => nomatch z)
      obtain ⟨ω, M, env, he, hh, post⟩ := q
      rw [ev, evs] at post
      exact ⟨ω, M, [], hh, Rels.nil, post⟩
    | cons a r =>
      obtain ⟨h1, h2⟩ := hs a r rfl
      exact Snd.of (PE.imp (pe_call g4 O.room (O.gl hg) g1 g2 g3 .nil pass0 A hd h1 h2) key) (fun _ => rfl) (fun _ _ _ z => nomatch z)
/-- a built-in by values -/
def rBl (G : Gs) (b : Nat) : List V → Hp → VK → Prop := fun vs H Q => ∃ ω M ds, HRel G ω M H ∧ Rels G ω ds vs ∧ PostE G ω (bltn b ds M) Q
theorem rels1 {ω : Wd} {d : D} {vs : List V} (r : Rels G ω [d] vs) : ∃ v, vs = [v] ∧ Rel G ω d v := by
  rw [Rels] at r
  obtain ⟨v, t, e, a, b⟩ := r
  rw [Rels] at b
  subst b
  exact ⟨v, e, a⟩
theorem allTrue_ok {ω : Wd} : ∀ {ds : List D} {vs : List V} {b : Bool}, allTrue ds = some b → Rels G ω ds vs → ∃ bs : List Bool, vs = bs.map V.bl ∧ b = bs.all id
  | [], vs, b, h, r => by
    rw [Rels] at r
    subst r
    rw [allTrue] at h
    cases h
    exact ⟨[], rfl, rfl⟩
  | d :: ds, vs, b, h, r => by
    cases d with
    | bl t =>
      rw [allTrue] at h
      rw [Rels] at r
      obtain ⟨v, w, e, a, q⟩ := r
      subst e
      rw [Rel] at a
      subst a
      cases e2 : allTrue ds with
      | none => rw [e2] at h; cases h
      | some b2 =>
        rw [e2] at h
        obtain ⟨bs, h1, h2⟩ := allTrue_ok e2 q
        refine ⟨t :: bs, by rw [h1]; rfl, ?_⟩
        have h3 : (t && b2) = b := Option.some.inj h
        rw [← h3, h2]
        rfl
    | _ => cases h
theorem blt_len (O : Ok G P ft k c Y) : CallR Y (.builtin "len") (rBl G 0) := by
  intro pins s σ H vs us Q I r h
  obtain ⟨ω, M, ds, hh, rd, post⟩ := h
  unfold bltn at post
  split at post
  · rename_i d _
    split at post
    · rename_i l e
      obtain ⟨v, e1, r1⟩ := rels1 rd
      subst e1
      obtain ⟨q, ws, f1, f2, f3⟩ := itemsOf_ok hh r1 e
      subst f1
      refine call_len_seq pins s σ H _ us Q I r ⟨q, ws, rfl, f2.imp (fun z => SqL.of z) (fun z => by rw [O.hK]; exact z), ?_⟩
      rw [f3.length]
      exact post_int post hh
    · exact False.elim post
  · rename_i h; cases h
  · rename_i h; cases h
  · exact False.elim post
theorem blt_int : CallR Y (.type "int") (rBl G 1) := by
  intro pins s σ H vs us Q I r h
  obtain ⟨ω, M, ds, hh, rd, post⟩ := h
  unfold bltn at post
  split at post
  · rename_i h; cases h
  · obtain ⟨v, e1, r1⟩ := rels1 rd
    subst e1
    rw [Rel] at r1
    subst r1
    exact call_int1 pins s σ H _ us Q I r (.inl ⟨_, rfl, post_int post hh⟩)
  · rename_i h; cases h
  · exact False.elim post
theorem blt_all (O : Ok G P ft k c Y) : CallR Y (.builtin "all") (rBl G 2) := by
  intro pins s σ H vs us Q I r h
  obtain ⟨ω, M, ds, hh, rd, post⟩ := h
  unfold bltn at post
  split at post
  · rename_i h; cases h
  · rename_i h; cases h
  · rename_i d _
    split at post
    · rename_i l e
      split at post
      · rename_i b eb
        obtain ⟨v, e1, r1⟩ := rels1 rd
        subst e1
        obtain ⟨q, ws, f1, f2, f3⟩ := listOf_ok hh r1 e
        obtain ⟨bs, g1, g2⟩ := allTrue_ok eb f3
        subst f1 g1 g2
        exact cr_all O.calm pins s σ H _ us Q I r ⟨q, bs, rfl, SqL.of f2, post_bl post hh⟩
      · exact False.elim post
    · exact False.elim post
  · exact False.elim post
theorem s_blt (O : Ok G P ft k c Y) {b : Nat} {es : List X} {as : List Expr} {x : Str} {p pos : Pos} (hx : bltName b = some "len" ∧ x = "len" ∨ bltName b = some "int" ∧ x = "int" ∨ bltName b = some "all" ∧ x = "all") (hg : c.gl x = true) (A : PA Y as (tEs G (ecN P k) es))
    (hs : ∀ e r, as = e :: r → starEach (e :: r) Y.env = (false, eval e Y.env) :: starEach r Y.env ∧ (backTo pos (starEach r Y.env)).any (·.1) = false) (hl : es.length = as.length) : Snd G (ecN P k) Y (.Call (.Name x p) as [] pos) (.blt b es) := by
  have key : ∀ σ H Q, tE G (ecN P k) (.blt b es) σ H Q → tCB (rBl G b) (tEs G (ecN P k) es) σ H Q := fun σ H Q q => by
    obtain ⟨ω, M, env, he, hh, post⟩ := q
    rw [ev] at post
    exact tEs_bind he hh post fun ds M1 ω1 H1 vs he1 hh1 r p le => ⟨ω1, M1, ds, hh1, r, p⟩
  have hb : ∀ n : Nat, bltName n = some "len" → n = 0 := fun n h => by
    unfold bltName at h
    split at h
    · rfl
    · exact absurd (Option.some.inj h) (by decide)
    · exact absurd (Option.some.inj h) (by decide)
    · cases h
  have hb1 : ∀ n : Nat, bltName n = some "int" → n = 1 := fun n h => by
    unfold bltName at h
    split at h
    · exact absurd (Option.some.inj h) (by decide)
    · rfl
    · exact absurd (Option.some.inj h) (by decide)
    · cases h
  have hb2 : ∀ n : Nat, bltName n = some "all" → n = 2 := fun n h => by
    unfold bltName at h
    split at h
    · exact absurd (Option.some.inj h) (by decide)
    · exact absurd (Option.some.inj h) (by decide)
    · rfl
    · cases h
  cases as with
  | nil =>
    have : es = [] := List.length_eq_zero_iff.mp hl
    subst this
    refine ⟨⟨fun pins s σ H Q I h => ?_⟩, ⟨fun pins s σ H Q I h => ?_⟩, fun _ _ _ z => nomatch z⟩
    · obtain ⟨ω, M, env, he, hh, post⟩ := h
      rw [ev, evs] at post
      have : bltn b [] M = .er := by unfold bltn; split <;> first | rfl | (rename_i z; cases z)
      have post : PostE G ω (bltn b [] M) Q := post
      rw [this] at post
      exact False.elim post
    · obtain ⟨ω, M, env, he, hh, post⟩ := h
      unfold evB at post
      rw [ev, evs] at post
      have : bltn b [] M = .er := by unfold bltn; split <;> first | rfl | (rename_i z; cases z)
      have post : PostB G ω ((bltn b [] M).bind _) Q := post
      rw [this] at post
      exact False.elim post
  | cons a r =>
    obtain ⟨h1, h2⟩ := hs a r rfl
    rcases hx with ⟨e1, e2⟩ | ⟨e1, e2⟩ | ⟨e1, e2⟩
    · have := hb b e1
      subst this e2
      exact Snd.of (PE.imp (pe_callB (blt_len O) (O.gl hg) (O.free _ (by decide +kernel)) PySem.boot_len A (he := h1) (hpl := h2)) key) (fun _ => rfl) (fun _ _ _ z => nomatch z)
    · have := hb1 b e1
      subst this e2
      exact Snd.of (PE.imp (pe_callTy blt_int (O.gl hg) (O.free _ (by decide +kernel)) PyProof.Rows.boot_int A (he := h1) (hpl := h2)) key) (fun _ => rfl) (fun _ _ _ z => nomatch z)
    · have := hb2 b e1
      subst this e2
      exact Snd.of (PE.imp (pe_callB (blt_all O) (O.gl hg) (O.free _ (by decide +kernel)) PyProof.Rows.boot_all A (he := h1) (hpl := h2)) key) (fun _ => rfl) (fun _ _ _ z => nomatch z)
end
end Ev


set_option autoImplicit false
set_option Elab.async false
set_option linter.all false
set_option maxRecDepth 100000
set_option maxHeartbeats 4000000
/-! EvI: isinstance. -/
namespace Ev
open PySem PySem.Spec PyProof.Rows L2
def tyName : D → Option String
  | .non => some "NoneType" | .bl _ => some "bool" | .int _ => some "int" | .str _ => some "str" | .tup _ => some "tuple" | .lst _ => some "list" | _ => none
section
variable {G : Gs} {P : Pg} {ft : List Ft} {k : Nat} {c : Ck} {Y : L2.Cx}
theorem ty_ok {ω : Wd} {M : List O} {H : Hp} {d : D} {v : V} {t : String} (h : HRel G ω M H) (r : Rel G ω d v) (e : tyName (seen M d) = some t) : TyX G.K H v (.type t) := by
  cases d with
  | non => rw [Rel] at r; subst r; cases e; exact .base .non
  | bl b => rw [Rel] at r; subst r; cases e; exact .base (.bl b)
  | int i => rw [Rel] at r; subst r; cases e; exact .base (.int i)
  | str s => rw [Rel] at r; subst r; cases e; exact .base (.str _)
  | tup ds =>
    rw [Rel] at r
    obtain ⟨p, vs, e1, e2, q⟩ := r
    subst e1
    cases e
    rcases sqT_mono e2 h.imm with (z | ⟨o, z⟩) | ⟨o, its, n, z1, z2, _⟩
    · exact .base (.tup z)
    · exact .fTuple z
    · exact .kTuple z1 z2
  | lst ds =>
    rw [Rel] at r
    obtain ⟨p, vs, e1, e2, q⟩ := r
    subst e1
    cases e
    exact .base (.lst (h.imm _ _ e2))
  | obj _ _ _ => cases e
  | exc _ _ _ => cases e
  | fro _ => cases e
  | ref a =>
    have e3 : ∃ ds, M[a]? = some (.lst ds) ∧ t = "list" := by
      unfold seen at e
      dsimp only at e
      split at e
      · rename_i ds z
        cases e
        exact ⟨ds, z, rfl⟩
      · cases e
    obtain ⟨ds, e4, e5⟩ := e3
    subst e5
    have e6 : listOf M (.ref a) = some ds := by
      unfold listOf seen
      dsimp only
      rw [e4]
    obtain ⟨p, vs, f1, f2, _⟩ := listOf_ok h r e6
    subst f1
    exact .base (.lst f2)
theorem isA_kit {C : Ec} {d : D} {q : Cl} {b : Bool} {n : String} (hn : clName q = some n) (h : isA C d q = some b) : ∃ t, tyName d = some t ∧ kitB t n = some b := by
  cases q with
  | own _ => cases hn
  | ext _ => cases hn
  | int =>
    cases hn
    cases d with
    | _ => first | (cases h; exact ⟨_, rfl, by decide +kernel⟩) | cases h
  | bool =>
    cases hn
    cases d with
    | _ => first | (cases h; exact ⟨_, rfl, by decide +kernel⟩) | cases h
  | str =>
    cases hn
    cases d with
    | _ => first | (cases h; exact ⟨_, rfl, by decide +kernel⟩) | cases h
  | list =>
    cases hn
    cases d with
    | _ => first | (cases h; exact ⟨_, rfl, by decide +kernel⟩) | cases h
  | tuple =>
    cases hn
    cases d with
    | _ => first | (cases h; exact ⟨_, rfl, by decide +kernel⟩) | cases h
theorem boot_cl {q : Cl} {n : String} (h : clName q = some n) : bootBuiltins (Str.ofString n) = some (.type n) ∧ (Str.ofString n) ∈ frees ∧ (Str.ofString n) ≠ "__name__" ∧ ((Str.ofString n) == ("__debug__" : Str)) = false := by
  cases q with
  | own _ => cases h
  | ext _ => cases h
  | int => cases h; exact ⟨by decide +kernel, by decide +kernel, by decide +kernel, by decide +kernel⟩
  | bool => cases h; exact ⟨by decide +kernel, by decide +kernel, by decide +kernel, by decide +kernel⟩
  | str => cases h; exact ⟨by decide +kernel, by decide +kernel, by decide +kernel, by decide +kernel⟩
  | list => cases h; exact ⟨by decide +kernel, by decide +kernel, by decide +kernel, by decide +kernel⟩
  | tuple => cases h; exact ⟨by decide +kernel, by decide +kernel, by decide +kernel, by decide +kernel⟩
theorem cl_pe (O : Ok G P ft k c Y) {q : Cl} {e : Expr} (h : okCl c q e = true) : ∃ n, clName q = some n ∧ PE Y e (tC (.ty n)) ∧ ∀ es env, starEach (e :: es) env = (false, eval e env) :: starEach es env := by
  unfold okCl at h
  split at h
  · split at h
    · rename_i x p n hn
      rw [Bool.and_eq_true] at h
      have e := of_decide_eq_true h.1
      subst e
      obtain ⟨b1, b2, b3, b4⟩ := boot_cl hn
      exact ⟨n, hn, pe_bltn (O.gl h.2) (O.free _ b2) b1 rfl b3 b4, fun _ _ => rfl⟩
    · cases h
  · cases h
theorem s_isi (O : Ok G P ft k c Y) {a : X} {q : Cl} {ea ek : Expr} {p pos : Pos} (hg : c.gl "isinstance" = true) (A : Snd G (ecN P k) Y ea a) (hs : ∀ es env, starEach (ea :: es) env = (false, eval ea env) :: starEach es env) (hk : okCl c q ek = true) : Snd G (ecN P k) Y (.Call (.Name "isinstance" p) [ea, ek] [] pos) (.isi a q) := by
  obtain ⟨n, hn, pk, sk⟩ := cl_pe O hk
  refine Snd.of (PE.imp (pe_callB call_isi (O.gl hg) (O.free _ (by decide +kernel)) PyProof.Rows.boot_isinstance (pa_cons A.pe (pa_cons pk pa_nil (sk _ _)) (hs _ _)) (he := hs _ _) (hpl := by rw [sk]; rfl)) fun σ H Q q' => ?_) (fun _ => rfl) (fun _ _ _ z => nomatch z)
  obtain ⟨ω, M, env, he, hh, post⟩ := q'
  rw [ev] at post
  refine tE_bind he hh post fun d M1 ω1 H1 v he1 hh1 r p le => ?_
  split at p
  · rename_i b e
    obtain ⟨t, e1, e2⟩ := isA_kit hn e
    exact ⟨v, .ty n, .type t, .type n, b, rfl, .ty n, by rw [O.hK]; exact ty_ok hh1 r e1, kit_ty e2, post_bl p hh1⟩
  · exact False.elim p
/-- the classes of a written tuple -/
theorem cls_pa (O : Ok G P ft k c Y) : ∀ {qs : List Cl} {es : List Expr}, okCls c qs es = true → ∃ ns : List String, qs.map clName = ns.map some ∧ PA Y es (fun σ H Q => Q (ns.map V.ty) H)
  | [], [], _ => ⟨[], rfl, pa_nil⟩
  | [], _ :: _, h => by cases h
  | _ :: _, [], h => by cases h
  | q :: qs, e :: es, h => by
    rw [okCls, Bool.and_eq_true] at h
    obtain ⟨n, hn, pk, sk⟩ := cl_pe O h.1
    obtain ⟨ns, h1, h2⟩ := cls_pa O h.2
    refine ⟨n :: ns, by rw [List.map_cons, hn, h1]; rfl, PA.imp (pa_cons pk h2 (sk _ _)) fun σ H Q z => z⟩
theorem isAny_kit {C : Ec} {K : PySem.W.Frag} {d : D} {t : String} (ht : tyName d = some t) : ∀ {qs : List Cl} {ns : List String} {b : Bool}, qs.map clName = ns.map some → isAny C d qs = some b → PySem.W.kitAny K (.type t) (ns.map Value.type) = some b
  | [], [], b, _, h => by
    rw [isAny] at h
    cases h
    exact kitAny_nil
  | [], _ :: _, b, h, _ => by cases h
  | _ :: _, [], b, h, _ => by cases h
  | q :: qs, n :: ns, b, h, hb => by
    rw [List.map_cons, List.map_cons] at h
    injection h with h1 h2
    rw [isAny] at hb
    split at hb
    · rename_i p r e1 e2
      obtain ⟨t', f1, f2⟩ := isA_kit h1 e1
      rw [ht] at f1
      cases f1
      have ih := isAny_kit (K := K) ht h2 e2
      have hb' : (p || r) = b := Option.some.inj hb
      refine kitAny_cons (kit_ty f2) (fun z => ?_) (fun z => ?_)
      · subst z
        rw [Bool.false_or] at hb'
        rw [← hb']
        exact ih
      · subst z
        rw [Bool.true_or] at hb'
        exact hb'.symm
    · cases hb
theorem any_ty {C : Ec} {d : D} {q : Cl} {qs : List Cl} {b : Bool} {n : String} (hn : clName q = some n) (h : isAny C d (q :: qs) = some b) : ∃ t, tyName d = some t := by
  rw [isAny] at h
  split at h
  · rename_i e1 _
    obtain ⟨t, e, _⟩ := isA_kit hn e1
    exact ⟨t, e⟩
  · cases h
theorem cls_paired : ∀ ns : List String, Paired ClsV (ns.map V.ty) (ns.map Value.type)
  | [] => .nil
  | n :: ns => .cons (.ty n) (cls_paired ns)
theorem s_isis (O : Ok G P ft k c Y) {a : X} {q : Cl} {qs : List Cl} {ea : Expr} {eks : List Expr} {m : Nat} {p p2 pos : Pos} (hg : c.gl "isinstance" = true) (A : Snd G (ecN P k) Y ea a) (hs : ∀ es env, starEach (ea :: es) env = (false, eval ea env) :: starEach es env) (hk : okCls c (q :: qs) eks = true) (hln : decide ((q :: qs).length ≤ 1000) = true) :
    Snd G (ecN P k) Y (.Call (.Name "isinstance" p) [ea, .Tuple eks m p2] [] pos) (.isis a (q :: qs)) := by
  obtain ⟨ns, hn, pk⟩ := cls_pa O hk
  refine Snd.of (PE.imp (pe_callB call_isiT (O.gl hg) (O.free _ (by decide +kernel)) PyProof.Rows.boot_isinstance (pa_cons A.pe (pa_cons (pe_tup pk) pa_nil) (hs _ _)) (he := hs _ _)) fun σ H Q q' => ?_) (fun _ => rfl) (fun _ _ _ z => nomatch z)
  obtain ⟨ω, M, env, he, hh, post⟩ := q'
  rw [ev] at post
  refine tE_bind he hh post fun d M1 ω1 H1 v he1 hh1 r p le => ?_
  split at p
  · rename_i b e
    have hq : ∃ n, clName q = some n := by
      cases ns with
      | nil => cases hn
      | cons n ns => rw [List.map_cons, List.map_cons] at hn; injection hn with h1 _; exact ⟨n, h1⟩
    obtain ⟨n, hq⟩ := hq
    obtain ⟨t, e1⟩ := any_ty hq e
    have hlen : ns.length = (q :: qs).length := by
      have := congrArg List.length hn
      simpa using this.symm
    refine ⟨?_, fun tp hp => ?_⟩
    · rw [List.length_map, hlen]
      exact Nat.le_trans (of_decide_eq_true hln) (by rw [sizeLine_eq]; decide)
    · have h2 := (hh1.addI (o := .tup (ns.map V.ty)) hp)
      refine ⟨v, tp, ns.map V.ty, .type t, ns.map Value.type, b, rfl, upd_same, cls_paired ns, ?_, isAny_kit e1 hn e, ?_⟩
      · rw [O.hK]
        exact ty_ok h2.1 (Rel.mono h2.2 _ _ r) e1
      · exact post_bl (Post.mono p h2.2) h2.1
  · exact False.elim p
end
end Ev


set_option autoImplicit false
set_option Elab.async false
set_option linter.all false
set_option maxRecDepth 100000
set_option maxHeartbeats 4000000
/-! EvS: exceptions as values, against the evaluator. -/
namespace Ev
open PySem PySem.Spec PyProof.Rows L2 PySem.EvXK
theorem codeT : sS [99, 111, 100, 101] = ("code" : Str) := by decide +kernel
theorem zipF_look : ∀ {ks : List Tx} {vs : List V} {ds : List D} {G : Gs} {ω : Wd} {f : Tx} {d : D}, Rels G ω ds vs → ks.length = ds.length → field ks ds f = some d → f ∈ ks ∧ ∃ v, (zipF ks vs).lookup (sS f) = some v ∧ Rel G ω d v
  | [], vs, ds, G, ω, f, d, r, hl, h => by cases ds <;> cases h
  | k :: ks, vs, [], G, ω, f, d, r, hl, h => by cases h
  | k :: ks, vs, e :: ds, G, ω, f, d, r, hl, h => by
    rw [Rels] at r
    obtain ⟨v, t, ev, a, b⟩ := r
    subst ev
    rw [field] at h
    have tx : ∀ {a b : Tx}, txEq a b = true ↔ a = b := by
      intro a
      induction a with
      | nil => intro b; cases b <;> simp [txEq]
      | cons x a ih => intro b; cases b with
        | nil => simp [txEq]
        | cons y b => simp [txEq, ih]
    by_cases e1 : txEq k f = true
    · rw [if_pos e1] at h
      have := tx.mp e1
      subst this
      cases h
      exact ⟨List.mem_cons_self, v, by simp [zipF, List.lookup], a⟩
    · rw [if_neg e1] at h
      obtain ⟨m, w, h1, h2⟩ := zipF_look (ks := ks) b (by simpa using hl) h
      have ne : (sS f == sS k) = false := by
        cases q : (sS f == sS k) with
        | false => rfl
        | true =>
          have q := eq_of_beq q
          unfold sS at q
          injection q with q
          have q : f = k := by simpa using congrArg Array.toList q
          exact absurd (tx.mpr q.symm) e1
      exact ⟨List.mem_cons_of_mem _ m, w, by rw [zipF, List.lookup, ne]; exact h1, h2⟩
theorem notSup_ok {e : Expr} {n : Str} {env : PySem.Env} (h : notSup e = true) : attributeBase e n env (eval e env) = eval e env := by
  cases e with
  | Call _ _ _ _ => cases h
  | _ => rfl
section
variable {G : Gs} {P : Pg} {ft : List Ft} {k : Nat} {c : Ck} {Y : L2.Cx}
theorem s_attr (O : Ok G P ft k c Y) {a : X} {f : Tx} {ea : Expr} {pos : Pos} (A : Snd G (ecN P k) Y ea a) (hn : notSup ea = true) : Snd G (ecN P k) Y (.Attribute ea (sS f) pos) (.attr a f) := by
  refine Snd.of (PE.imp (pe_xa A.pe (notSup_ok hn)) fun σ H Q q => ?_) (fun _ => rfl) (fun _ _ _ z => nomatch z)
  obtain ⟨ω, M, env, he, hh, post⟩ := q
  rw [ev] at post
  refine tE_bind he hh post fun d M1 ω1 H1 v he1 hh1 r p le => ?_
  cases d with
  | exc i ks ds =>
    dsimp only at p
    split at p
    · rename_i d e
      rw [Rel] at r
      obtain ⟨q, dx, fs, vs, ev, e1, e2, e3, e4, e5, e6⟩ := r
      obtain ⟨m, w, f1, f2⟩ := zipF_look e6 e4 e
      refine ⟨q, G.CA i, dx, fs, w, ks, ev, hh1.imm _ _ e1, hh1.imm _ _ e2, (e3 _).trans f1, by rw [O.hK]; exact e5, by rw [O.hK]; exact e5.no f m, Post.here p hh1 f2⟩
    · exact False.elim p
  | _ => exact False.elim p
/-- a new exception -/
theorem post_exc {ω : Wd} {M : List O} {H : Hp} {i : Nat} {ks : List Tx} {ds : List D} {vs : List V} {fs : List (Str × V)} {Q : VK} {a dx : Addr} (p : PostE G ω (.ok (.exc i ks ds) M) Q) (hh : HRel G ω M H) (ha : H a = none) (hd : H dx = none) (ne : dx ≠ a)
    (e3 : ∀ f, fs.lookup f = (zipF ks vs).lookup f) (e4 : ks.length = ds.length) (e5 : XIs G.K (G.CA i) ks) (r : Rels G ω ds vs) : Q (.ref a) (upd (upd H dx (exd dx fs)) a (exo a (G.CA i) (some dx))) := by
  obtain ⟨h1, le1⟩ := hh.addI (o := exd dx fs) hd
  have ha2 : upd H dx (exd dx fs) a = none := by
    rw [upd_ne (Ne.symm ne)]
    exact ha
  obtain ⟨h2, le2⟩ := h1.addI (o := exo a (G.CA i) (some dx)) ha2
  refine p _ _ _ (le1.trans le2) h2 ?_
  rw [Rel]
  refine ⟨a, dx, fs, vs, rfl, upd_same, ?_, e3, e4, e5, Rels.mono (le1.trans le2) _ _ r⟩
  show upd (upd ω.imm dx (exd dx fs)) a _ dx = _
  rw [upd_ne ne, upd_same]
/-- the class is called with these values, by position or by the field's name -/
theorem run_x (O : Ok G P ft k c Y) {i : Nat} {x : Str} {f : Option Str} (hx : c.xn[i]? = some (x, f)) {pins : List (Addr × Obj)} {s : Shared} {σ : L2.St} {H : Hp} {us ws : List Value} {kw : List (Str × Value)} {vs : List V} {Q : VK} (I : Inv Y pins σ H s) (r : Vals vs ws)
    (hk : us = ws ∧ kw = [] ∨ ∃ g, f = some g ∧ us = [] ∧ kw = [g].zip ws) (h : ∃ ω M ds, HRel G ω M H ∧ Rels G ω ds vs ∧ PostE G ω (match P.exn[i]?, ds with
      | some (some (n, some f)), [d] => .ok (.exc i [f, [99, 111, 100, 101]] [d, .str n]) M
      | some (some (n, none)), [] => .ok (.exc i [[99, 111, 100, 101]] [.str n]) M
      | _, _ => .er) Q) : wpAny (model Y.prog Y.w) Y.A (PySem.call (.ref (G.CA i)) us kw) (EP Y pins σ Q) Y.xe s := by
  obtain ⟨g1, g0, g2⟩ := O.xcs i x f hx
  obtain ⟨ω, M, ds, hh, rs, post⟩ := h
  split at post
  · rename_i n f' d en
    obtain ⟨k1, ⟨X⟩, k3⟩ := g2 n (some f') en
    obtain ⟨v, rfl, rd⟩ := rels1 rs
    obtain ⟨u, rfl, ru⟩ : ∃ u, ws = [u] ∧ RelV v u := by
      cases r with
      | cons a b => cases b; exact ⟨_, rfl, a⟩
    have p2 : PostE G ω (.ok (.exc i (xks (some f')) [d, .str n]) M) Q := post
    have fin : ∀ a dx, H a = none → H dx = none → dx ≠ a → Q (.ref a) (upd (upd H dx (exd dx (xfs (sS n) (some (sS f')) [v]))) a (exo a (G.CA i) (some dx))) := fun a dx ha hd ne => by
      refine post_exc (vs := [v, .str (sS n)]) p2 hh ha hd ne (fun g => ?_) rfl (by rw [← O.hK]; exact k3) (Rels.cons rd (Rels.one (by rw [Rel])))
      show List.lookup g [(sS f', v), ("code", _)] = List.lookup g [(sS f', v), (sS [99, 111, 100, 101], _)]
      rw [codeT]
    rcases hk with ⟨rfl, rfl⟩ | ⟨g, e1, rfl, rfl⟩
    · exact run_mkx (full := [u]) (vs := [v]) X (O.room.mono (by omega)) I (by simp) (fun s a => X.b1 s a u) (.cons ru .nil) ⟨v, rfl⟩ fin
    · rw [k1] at e1
      have e1 : sS f' = g := Option.some.inj e1
      subst e1
      exact run_mkx (full := [u]) (vs := [v]) X (O.room.mono (by omega)) I (by simp) (fun s a => X.bk s a u) (.cons ru .nil) ⟨v, rfl⟩ fin
  · rename_i n en
    obtain ⟨k1, ⟨X⟩, k3⟩ := g2 n none en
    have : vs = [] := by rw [Rels] at rs; exact rs
    subst this
    have : ws = [] := by cases r; rfl
    subst this
    have p2 : PostE G ω (.ok (.exc i (xks none) [.str n]) M) Q := post
    have fin : ∀ a dx, H a = none → H dx = none → dx ≠ a → Q (.ref a) (upd (upd H dx (exd dx (xfs (sS n) none []))) a (exo a (G.CA i) (some dx))) := fun a dx ha hd ne => by
      refine post_exc (vs := [.str (sS n)]) p2 hh ha hd ne (fun g => ?_) rfl (by rw [← O.hK]; exact k3) (Rels.one (by rw [Rel]))
      show List.lookup g [("code", _)] = List.lookup g [(sS [99, 111, 100, 101], _)]
      rw [codeT]
    rcases hk with ⟨rfl, rfl⟩ | ⟨g, e1, rfl, rfl⟩
    · exact run_mkx (full := []) (vs := []) X (O.room.mono (by omega)) I (by simp) (fun s a => X.b0 s a) .nil rfl fin
    · rw [k1] at e1
      cases e1
  · exact False.elim post
theorem s_mkx (O : Ok G P ft k c Y) {i : Nat} {es : List X} {as : List Expr} {x : Str} {f : Option Str} {kw : Bool} {p pos : Pos} (hx : c.xn[i]? = some (x, f)) (hg : c.gl x = true) (hd : (x == ("__debug__" : Str)) = false) (A : PA Y as (tEs G (ecN P k) es)) (hl : es.length = as.length)
    (hs : ∀ e r, as = e :: r → starEach (e :: r) Y.env = (false, eval e Y.env) :: starEach r Y.env ∧ (backTo pos (starEach r Y.env)).any (·.1) = false) : Snd G (ecN P k) Y (.Call (.Name x p) as [] pos) (.mkx i kw es) := by
  obtain ⟨g1, g0, g2⟩ := O.xcs i x f hx
  refine Snd.of ⟨fun pins s σ H Q I h => ?_⟩ (fun _ => rfl) (fun _ _ _ z => nomatch z)
  refine wpAny_Call_Name_kw (ld_glob I (O.gl hg) g1 ?_ hd)
  obtain ⟨ω, M, env, he, hh, post⟩ := h
  rw [ev] at post
  have post : PostE G ω ((evs (ecN P k) es env M).bind fun ds M1 => match P.exn[i]?, ds with
      | some (some (n, some f)), [d] => .ok (.exc i [f, [99, 111, 100, 101]] [d, .str n]) M1
      | some (some (n, none)), [] => .ok (.exc i [[99, 111, 100, 101]] [.str n]) M1
      | _, _ => .er) Q := post
  cases as with
  | nil =>
    have : es = [] := List.length_eq_zero_iff.mp hl
    subst this
    rw [evs] at post
    exact PySem.W.callWith_K0 I.kIn g0 (run_x O hx (vs := []) (ws := []) I .nil (.inl ⟨rfl, rfl⟩) ⟨ω, M, [], hh, Rels.nil, post⟩)
  | cons a r =>
    obtain ⟨h1, h2⟩ := hs a r rfl
    refine PySem.W.callWith_K (h₀ := Y.base) I.ok.mod.kin g0 (thn (A.run pos pins s σ H _ I ?_) fun us s1 ⟨vs, H1, I1, r1, q1⟩ => ⟨I1.kIn, run_x O hx I1 r1 (.inl ⟨rfl, rfl⟩) q1⟩) h1 h2
    exact tEs_bind he hh post fun ds M1 ω1 H1 vs he1 hh1 r p le => ⟨ω1, M1, ds, hh1, r, p⟩
theorem s_mkk (O : Ok G P ft k c Y) {i : Nat} {a : X} {ea : Expr} {x f : Str} {kw : Bool} {p kp pos : Pos} (hx : c.xn[i]? = some (x, some f)) (hg : c.gl x = true) (hd : (x == ("__debug__" : Str)) = false) (A : Snd G (ecN P k) Y ea a) : Snd G (ecN P k) Y (.Call (.Name x p) [] [⟨some f, ea, kp⟩] pos) (.mkx i kw [a]) := by
  obtain ⟨g1, g0, g2⟩ := O.xcs i x (some f) hx
  refine Snd.of ⟨fun pins s σ H Q I h => ?_⟩ (fun _ => rfl) (fun _ _ _ z => nomatch z)
  refine wpAny_Call_Name_kw (ld_glob I (O.gl hg) g1 ?_ hd)
  obtain ⟨ω, M, env, he, hh, post⟩ := h
  rw [ev, evs] at post
  have post : PostE G ω ((ev (ecN P k) a env M).bind fun d M1 => match P.exn[i]?, [d] with
      | some (some (n, some f)), [d] => .ok (.exc i [f, [99, 111, 100, 101]] [d, .str n]) M1
      | some (some (n, none)), [] => .ok (.exc i [[99, 111, 100, 101]] [.str n]) M1
      | _, _ => .er) Q := by
    cases e : ev (ecN P k) a env M with
    | er => rw [e] at post; exact False.elim post
    | ok d M1 => rw [e] at post; exact post
  have q0 : tCons (tE G (ecN P k) a) tNil σ H (fun vs H1 => ∃ ω M ds, HRel G ω M H1 ∧ Rels G ω ds vs ∧ PostE G ω (match P.exn[i]?, ds with
      | some (some (n, some f)), [d] => .ok (.exc i [f, [99, 111, 100, 101]] [d, .str n]) M
      | some (some (n, none)), [] => .ok (.exc i [[99, 111, 100, 101]] [.str n]) M
      | _, _ => .er) Q) := tE_bind he hh post fun d M1 ω1 H1 v he1 hh1 r p le => ⟨ω1, M1, [d], hh1, Rels.one r, p⟩
  refine PySem.W.callWith_KW0 (h₀ := Y.base) I.ok.mod.kin g0 (by rfl) (thn ((pk_cons (nm := some f) (kpos := kp) A.pe pk_nil).run pos pins s σ H _ I q0) fun ws s2 ⟨zs, H2, I2, rz, q2⟩ => ⟨I2.kIn, ?_⟩) (by rfl)
  exact run_x (us := []) O hx I2 rz (.inr ⟨f, rfl, rfl, rfl⟩) q2
theorem boot_x {n : Nat} {y : String} (h : extName n = some y) : bootBuiltins (Str.ofString y) = some (.type y) ∧ (Str.ofString y) ∈ frees ∧ (Str.ofString y) ≠ "__name__" ∧ ((Str.ofString y) == ("__debug__" : Str)) = false := by
  match n, h with
  | 0, h => cases h; exact ⟨by decide +kernel, by decide +kernel, by decide +kernel, by decide +kernel⟩
  | 1, h => cases h; exact ⟨by decide +kernel, by decide +kernel, by decide +kernel, by decide +kernel⟩
  | 2, h => cases h; exact ⟨by decide +kernel, by decide +kernel, by decide +kernel, by decide +kernel⟩
  | _ + 3, h => cases h
theorem x_pe (O : Ok G P ft k c Y) {q : Cl} {e : Expr} (h : okX c q e = true) : ∃ v cv, clV G q = some cv ∧ (∀ u, RelV v u → u = cv) ∧ PE Y e (tC v) ∧ (∀ es env, starEach (e :: es) env = (false, eval e env) :: starEach es env) ∧ ((∃ n, q = .own n) ∨ ∃ n, q = .ext n) := by
  unfold okX at h
  split at h
  · rename_i x px
    split at h
    · rename_i n
      split at h
      · rename_i y f hy
        simp only [Bool.and_eq_true, decide_eq_true_eq, beq_iff_eq] at h
        obtain ⟨rfl, h2, h3⟩ := h
        obtain ⟨g1, _⟩ := O.xcs n x f hy
        exact ⟨.ref (G.CA n), .ref (G.CA n), rfl, fun u r => r, pe_glob (O.gl h2) g1 rfl h3, fun _ _ => rfl, .inl ⟨n, rfl⟩⟩
      · cases h
    · rename_i n
      split at h
      · rename_i y hy
        rw [Bool.and_eq_true] at h
        have e := of_decide_eq_true h.1
        subst e
        obtain ⟨b1, b2, b3, b4⟩ := boot_x hy
        refine ⟨.ty y, .type y, ?_, fun u r => r, pe_bltn (O.gl h.2) (O.free _ b2) b1 rfl b3 b4, fun _ _ => rfl, .inr ⟨n, rfl⟩⟩
        show (extName n).map Value.type = _
        rw [hy]
        rfl
      · cases h
    · cases h
  · cases h
theorem s_isx (O : Ok G P ft k c Y) {a : X} {q : Cl} {ea ek : Expr} {p pos : Pos} (hg : c.gl "isinstance" = true) (A : Snd G (ecN P k) Y ea a) (hs : ∀ es env, starEach (ea :: es) env = (false, eval ea env) :: starEach es env) (hk : okX c q ek = true) : Snd G (ecN P k) Y (.Call (.Name "isinstance" p) [ea, ek] [] pos) (.isi a q) := by
  obtain ⟨w, cv, h1, h2, pk, sk, hq⟩ := x_pe O hk
  refine Snd.of (PE.imp (pe_callB call_isX (O.gl hg) (O.free _ (by decide +kernel)) PyProof.Rows.boot_isinstance (pa_cons A.pe (pa_cons pk pa_nil (sk _ _)) (hs _ _)) (he := hs _ _) (hpl := by rw [sk]; rfl)) fun σ H Q q' => ?_) (fun _ => rfl) (fun _ _ _ z => nomatch z)
  obtain ⟨ω, M, env, he, hh, post⟩ := q'
  rw [ev] at post
  refine tE_bind he hh post fun d M1 ω1 H1 v he1 hh1 r p le => ?_
  split at p
  · rename_i b e
    have key : ∃ i ks ds, seen M1 d = .exc i ks ds ∧ P.sub i q = some b := by
      rcases hq with ⟨n, rfl⟩ | ⟨n, rfl⟩
      · unfold isA at e
        dsimp only at e
        split at e
        · rename_i z
          exact ⟨_, _, _, z, e⟩
        · cases e
      · unfold isA at e
        dsimp only at e
        split at e
        · rename_i z
          exact ⟨_, _, _, z, e⟩
        · cases e
    obtain ⟨i, ks, ds, z, sb⟩ := key
    have z2 : d = .exc i ks ds := by
      cases d with
      | ref a =>
        unfold seen at z
        dsimp only at z
        split at z <;> cases z
      | _ => exact z
    subst z2
    rw [Rel] at r
    obtain ⟨q1, dx, fs, vs, ev, e1, e2, e3, e4, e5, e6⟩ := r
    obtain ⟨cv', c1, c2⟩ := O.sub i q b sb
    rw [h1] at c1
    cases c1
    subst ev
    exact ⟨q1, G.CA i, dx, fs, ks, w, cv, b, rfl, hh1.imm _ _ e1, hh1.imm _ _ e2, by rw [O.hK]; exact e5, h2, c2, post_bl p hh1⟩
  · exact False.elim p
end
end Ev


set_option autoImplicit false
set_option Elab.async false
set_option linter.all false
set_option maxRecDepth 100000
set_option maxHeartbeats 4000000
/-! EvJ: targets, walks. -/
namespace Ev
open PySem PySem.Spec PyProof.Rows L2 RZ
/-! ### slots forgotten -/
theorem wipe_len (σ : L2.St) : ∀ is : List Nat, (wipe σ is).length = σ.length := wipe_length σ
theorem wipe_get (σ : L2.St) (j : Nat) : ∀ is : List Nat, (wipe σ is)[j]? = if j ∈ is ∧ j < σ.length then some none else σ[j]?
  | [] => by simp [wipe]
  | i :: is => by
    rw [wipe]
    by_cases h : i = j
    · subst h
      by_cases hl : i < σ.length
      · rw [List.getElem?_set_self (by rw [wipe_len]; exact hl), if_pos ⟨List.mem_cons_self, hl⟩]
      · rw [List.getElem?_eq_none (by rw [List.length_set, wipe_len]; omega), if_neg (fun z => hl z.2), List.getElem?_eq_none (by omega)]
    · rw [List.getElem?_set_ne h, wipe_get σ j is]
      by_cases h2 : j ∈ is ∧ j < σ.length
      · rw [if_pos h2, if_pos ⟨List.mem_cons_of_mem _ h2.1, h2.2⟩]
      · rw [if_neg h2, if_neg]
        rintro ⟨h3, h4⟩
        rcases List.mem_cons.mp h3 with z | z
        · exact h z.symm
        · exact h2 ⟨z, h4⟩
theorem wipe_set {σ : L2.St} {i : Nat} {x : Option V} {is : List Nat} (h : i ∈ is) : wipe (σ.set i x) is = wipe σ is := by
  apply List.ext_getElem?
  intro j
  rw [wipe_get, wipe_get, List.length_set]
  by_cases c : j ∈ is ∧ j < σ.length
  · rw [if_pos c, if_pos c]
  · rw [if_neg c, if_neg c]
    by_cases e : i = j
    · subst e
      have : ¬ i < σ.length := fun z => c ⟨h, z⟩
      rw [List.getElem?_eq_none (by rw [List.length_set]; omega), List.getElem?_eq_none (by omega)]
    · rw [List.getElem?_set_ne e]
theorem wipe_wipe (σ : L2.St) (is : List Nat) : wipe (wipe σ is) is = wipe σ is := by
  apply List.ext_getElem?
  intro j
  rw [wipe_get, wipe_len, wipe_get]
  by_cases c : j ∈ is ∧ j < σ.length
  · rw [if_pos c, if_pos c]
  · rw [if_neg c, if_neg c]
theorem EnvRel.wipe {G : Gs} {ω : Wd} {env : En} {σ : L2.St} (h : EnvRel G ω env σ) : ∀ is : List Nat, EnvRel G ω (wipeE env is) (L2.wipe σ is)
  | [] => h
  | i :: is => by
    have ih := EnvRel.wipe h is
    refine ⟨by rw [wipeE, L2.wipe, List.length_set, List.length_set]; exact ih.len, fun j d e => ?_⟩
    rw [wipeE] at e
    rw [L2.wipe]
    by_cases c : i = j
    · subst c
      by_cases hl : i < (wipeE env is).length
      · rw [List.getElem?_set_self hl] at e; cases e
      · rw [List.getElem?_eq_none (by rw [List.length_set]; omega)] at e; cases e
    · rw [List.getElem?_set_ne c] at e ⊢
      exact ih.val j d e
section
variable {G : Gs} {P : Pg} {ft : List Ft} {k : Nat} {c : Ck} {Y : L2.Cx}
/-! ### targets -/
def tP (G : Gs) (p : Pt) : TG := fun v σ H Q => ∃ ω M d env env', EnvRel G ω env σ ∧ HRel G ω M H ∧ Rel G ω d v ∧ setP p d env = some env' ∧ ∀ σ', EnvRel G ω env' σ' → wipe σ' (pslots p) = wipe σ (pslots p) → Q σ' H
def tPs (G : Gs) (is all : List Nat) : TGs := fun vs σ H Q => ∃ ω M ds env env', EnvRel G ω env σ ∧ HRel G ω M H ∧ Rels G ω ds vs ∧ setPs is ds env = some env' ∧ ∀ σ', EnvRel G ω env' σ' → wipe σ' all = wipe σ all → Q σ' H
theorem PGs.imp {es : List Expr} {t t' : TGs} (h : PGs Y es t) (q : ∀ v σ H Q, t' v σ H Q → t v σ H Q) : PGs Y es t' := ⟨fun pins s σ H v u Q I r z => h.run pins s σ H v u Q I r (q v σ H Q z)⟩
theorem okPs_each {c : Ck} : ∀ {is : List Nat} {es : List Expr}, okPs c is es = true → ∀ env : PySem.Env, (assignEach es env).length = is.length ∧ (assignEach es env).findIdx? (·.1) = none
  | [], [], _, env => ⟨rfl, rfl⟩
  | [], _ :: _, h, _ => by cases h
  | _ :: _, [], h, _ => by cases h
  | i :: is, e :: es, h, env => by
    cases e with
    | Name x p =>
      rw [okPs, Bool.and_eq_true] at h
      obtain ⟨h1, h2⟩ := okPs_each h.2 env
      refine ⟨by show (assignEach es env).length + 1 = _; rw [h1]; rfl, ?_⟩
      show ((false, assign (.Name x p) env) :: assignEach es env).findIdx? (·.1) = none
      rw [List.findIdx?_cons, if_neg Bool.false_ne_true, h2]
      rfl
    | _ => cases h
theorem pgs_ok (O : Ok G P ft k c Y) (all : List Nat) : ∀ {is : List Nat} {es : List Expr}, okPs c is es = true → (∀ i ∈ is, i ∈ all) → PGs Y es (tPs G is all)
  | [], [], _, _ => PGs.imp pgs_nil fun vs σ H Q q => by
    obtain ⟨ω, M, ds, env, env', he, hh, r, hs, q⟩ := q
    cases ds with
    | nil =>
      rw [Rels] at r
      rw [setPs] at hs
      cases hs
      exact ⟨r, q σ he rfl⟩
    | cons d ds => cases hs
  | [], _ :: _, h, _ => by cases h
  | _ :: _, [], h, _ => by cases h
  | i :: is, e :: es, h, ha => by
    cases e with
    | Name x p =>
      rw [okPs, Bool.and_eq_true] at h
      refine PGs.imp (pgs_cons (O.tgt h.1) (pgs_ok O all h.2 fun j hj => ha j (List.mem_cons_of_mem _ hj)) rfl) fun vs σ H Q q => ?_
      obtain ⟨ω, M, ds, env, env', he, hh, r, hs, q⟩ := q
      cases ds with
      | nil => cases hs
      | cons d ds =>
        rw [Rels] at r
        obtain ⟨v, t, e1, r1, r2⟩ := r
        rw [setPs] at hs
        split at hs
        · rename_i hl
          refine ⟨v, t, e1, ?_⟩
          show tPs G is all t (σ.set i (some v)) H Q
          exact ⟨ω, M, ds, env.set i (some d), env', he.set r1 hl, hh, r2, hs, fun σ' h1 h2 => q σ' h1 (h2.trans (wipe_set (ha i List.mem_cons_self)))⟩
        · cases hs
    | _ => cases h
theorem pg_ok (O : Ok G P ft k c Y) {p : Pt} {tg : Expr} (h : okP c p tg = true) : PG Y tg (tP G p) := by
  cases p with
  | nm i =>
    cases tg with
    | Name x pos =>
      refine PG.imp (O.tgt h) fun v σ H Q q => ?_
      obtain ⟨ω, M, d, env, env', he, hh, r, hs, q⟩ := q
      unfold setP at hs
      dsimp only at hs
      split at hs
      · rename_i hl
        cases hs
        exact q _ (he.set r hl) (wipe_set (List.mem_cons_self))
      · cases hs
    | _ => cases h
  | tp is =>
    cases tg with
    | Tuple es n pos =>
      have h : okPs c is es = true := h
      obtain ⟨h1, h2⟩ := okPs_each h Y.env
      refine PG.imp (pg_tup O.calm (pgs_ok O is h fun _ z => z) h1 h2) fun v σ H Q q => ?_
      obtain ⟨ω, M, d, env, env', he, hh, r, hs, q⟩ := q
      unfold setP at hs
      dsimp only at hs
      split at hs
      · rename_i ds
        rw [Rel] at r
        obtain ⟨a, vs, e1, e2, e3⟩ := r
        have hl : ds.length = is.length := by
          have : ∀ (is : List Nat) (ds : List D) (env env' : En), setPs is ds env = some env' → ds.length = is.length := fun is => by
            induction is with
            | nil => intro ds env env' h; cases ds with
              | nil => rfl
              | cons _ _ => cases h
            | cons i is ih => intro ds env env' h; cases ds with
              | nil => cases h
              | cons d ds =>
                rw [setPs] at h
                split at h
                · rw [List.length_cons, List.length_cons, ih ds _ _ h]
                · cases h
          exact this is ds env env' hs
        exact ⟨a, vs, e1, by rw [O.hK]; exact sqT_mono e2 hh.imm, by rw [e3.length]; exact hl, ω, M, ds, env, env', he, hh, e3, hs, q⟩
      · cases hs
    | _ => cases h
/-! ### walks -/
theorem walk_lst {ω : Wd} {ds : List D} {p : Addr} {vs : List V} (h : ω.imm p = some (.lst vs)) (r : Rels G ω ds vs) : IsWalk G ω ds (Itl G.K p) := by
  refine ⟨_, _, by rw [← r.length]; exact walk_list (xs := vs), fun ω1 M1 H1 le hh => SqL.of (hh.imm _ _ (le.imm _ _ h)), fun i x H1 H2 ω1 M1 le hh y => ?_⟩
  obtain ⟨e, y⟩ := y
  subst e
  obtain ⟨d, e1, e2⟩ := r.getV y
  exact ⟨d, ω1, e1, Le.refl _, hh, Rel.mono0 le _ _ e2⟩
theorem walk_tpl {ω : Wd} {ds : List D} {p : Addr} {vs : List V} (h : SqT G.K ω.imm p vs) (r : Rels G ω ds vs) : IsWalk G ω ds (Itt G.K p) := by
  refine ⟨_, _, by rw [← r.length]; exact walk_tup (xs := vs), fun ω1 M1 H1 le hh => sqT_mono h fun p o z => hh.imm p o (le.imm p o z), fun i x H1 H2 ω1 M1 le hh y => ?_⟩
  obtain ⟨e, y⟩ := y
  subst e
  obtain ⟨d, e1, e2⟩ := r.getV y
  exact ⟨d, ω1, e1, Le.refl _, hh, Rel.mono0 le _ _ e2⟩
theorem upto_get : ∀ (n : Nat) (lo : Int) (i : Nat), i < n → (upto lo n)[i]? = some (.int (lo + i))
  | 0, lo, i, h => by omega
  | n + 1, lo, 0, h => by simp [upto]
  | n + 1, lo, i + 1, h => by
    rw [upto, List.getElem?_cons_succ, upto_get n (lo + 1) i (by omega)]
    congr 2
    omega
theorem upto_len : ∀ (n : Nat) (lo : Int), (upto lo n).length = n
  | 0, lo => rfl
  | n + 1, lo => by rw [upto, List.length_cons, upto_len]
theorem walk_rng {ω : Wd} {lo : Int} {n : Nat} : IsWalk G ω (upto lo n) (Itr lo n) := by
  refine ⟨fun _ => True, fun i H x H' => i < n ∧ YFn (fun i => .int (lo + i)) i H x H', ⟨fun i H hi g => walk_range.goes i H (by rw [upto_len] at hi; exact hi) g, fun H g => by rw [upto_len]; exact walk_range.stops H g, fun i H x H' hi g y => ⟨by rw [upto_len] at hi; exact hi, walk_range.yields i H x H' (by rw [upto_len] at hi; exact hi) g y⟩⟩, fun _ _ _ _ _ => trivial, fun i x H1 H2 ω1 M1 le hh y => ?_⟩
  obtain ⟨hi, e1, e2⟩ := y
  subst e1 e2
  exact ⟨_, ω1, upto_get n lo i hi, Le.refl _, hh, by rw [Rel]⟩
theorem pairs_get : ∀ (ds : List D) (lo : Int) (i : Nat), (pairs lo ds)[i]? = (ds[i]?).map fun d => .tup [.int (lo + i), d]
  | [], lo, i => by simp [pairs]
  | d :: ds, lo, 0 => by simp [pairs]
  | d :: ds, lo, i + 1 => by
    rw [pairs, List.getElem?_cons_succ, pairs_get ds (lo + 1) i, List.getElem?_cons_succ]
    cases ds[i]? with
    | none => rfl
    | some d =>
      show some (D.tup [.int (lo + 1 + (i : Nat)), d]) = some (D.tup [.int (lo + ((i + 1 : Nat) : Int)), d])
      rw [show lo + 1 + (i : Int) = lo + ((i + 1 : Nat) : Int) by omega]
theorem pairs_len : ∀ (ds : List D) (lo : Int), (pairs lo ds).length = ds.length
  | [], lo => rfl
  | d :: ds, lo => by rw [pairs, List.length_cons, List.length_cons, pairs_len]
theorem pair_new {ω1 : Wd} {M1 : List O} {H1 H2 : Hp} {T : Addr} {x y : V} {a b : D} (hh : HRel G ω1 M1 H1) (n : H1 T = none) (e : H2 = upd H1 T (.tup [x, y])) (r1 : Rel G ω1 a x) (r2 : Rel G ω1 b y) : ∃ ω2, Le ω1 ω2 ∧ HRel G ω2 M1 H2 ∧ Rel G ω2 (.tup [a, b]) (.ref T) := by
  subst e
  obtain ⟨h, le⟩ := hh.addI (o := .tup [x, y]) n
  refine ⟨_, le, h, ?_⟩
  rw [Rel]
  exact ⟨T, [x, y], rfl, .inl (.inl upd_same), Rels.cons (Rel.mono le _ _ r1) (Rels.one (Rel.mono le _ _ r2))⟩
theorem walk_enm {ω : Wd} {ds : List D} {p : Addr} {vs : List V} (h : ω.imm p = some (.lst vs)) (r : Rels G ω ds vs) : IsWalk G ω (pairs 0 ds) (Ite G.K p) := by
  refine ⟨_, _, by rw [pairs_len, ← r.length]; exact walk_enum (xs := vs), fun ω1 M1 H1 le hh => SqL.of (hh.imm _ _ (le.imm _ _ h)), fun i x H1 H2 ω1 M1 le hh y => ?_⟩
  obtain ⟨T, a, b, e1, e2, e3, e4, e5⟩ := y
  subst e1
  have e4 : a = .int (i : Nat) := (Option.some.inj e4).symm
  subst e4
  obtain ⟨d, f1, f2⟩ := r.getV e5
  obtain ⟨ω2, g1, g2, g3⟩ := pair_new (a := .int (i : Nat)) hh e2 e3 (by rw [Rel]) (Rel.mono0 le _ _ f2)
  refine ⟨_, ω2, ?_, g1, g2, g3⟩
  rw [pairs_get, f1]
  show some (D.tup [.int (0 + (i : Int)), d]) = _
  rw [Int.zero_add]
theorem zips_get : ∀ (a b : List D) (i : Nat) (x y : D), a[i]? = some x → b[i]? = some y → (zips a b)[i]? = some (.tup [x, y])
  | [], _, i, x, y, h, _ => by simp at h
  | _ :: _, [], i, x, y, _, h => by simp at h
  | u :: a, v :: b, 0, x, y, h1, h2 => by
    simp at h1 h2
    subst h1 h2
    simp [zips]
  | u :: a, v :: b, i + 1, x, y, h1, h2 => by
    rw [zips, List.getElem?_cons_succ]
    exact zips_get a b i x y (by simpa using h1) (by simpa using h2)
theorem zips_len : ∀ (a b : List D), (zips a b).length = min a.length b.length
  | [], _ => by simp [zips]
  | _ :: _, [] => by simp [zips]
  | u :: a, v :: b => by
    rw [zips, List.length_cons, zips_len, List.length_cons, List.length_cons]
    omega
theorem walk_zpL {ω : Wd} {ds es : List D} {p q : Addr} {vs ws : List V} (h : ω.imm p = some (.lst vs)) (h2 : ω.imm q = some (.lst ws)) (r : Rels G ω ds vs) (r2 : Rels G ω es ws) : IsWalk G ω (zips ds es) (Itz G.K p q) := by
  refine ⟨_, _, walk_zip (xs := vs) (ys := ws) (by rw [zips_len, r.length, r2.length]), fun ω1 M1 H1 le hh => ⟨SqL.of (hh.imm _ _ (le.imm _ _ h)), SqL.of (hh.imm _ _ (le.imm _ _ h2))⟩, fun i x H1 H2 ω1 M1 le hh y => ?_⟩
  obtain ⟨T, a, b, e1, e2, e3, e4, e5⟩ := y
  subst e1
  obtain ⟨d, f1, f2⟩ := r.getV e4
  obtain ⟨d', f1', f2'⟩ := r2.getV e5
  obtain ⟨ω2, g1, g2, g3⟩ := pair_new hh e2 e3 (Rel.mono0 le _ _ f2) (Rel.mono0 le _ _ f2')
  exact ⟨_, ω2, zips_get ds es i d d' f1 f1', g1, g2, g3⟩
theorem walk_zpT {ω : Wd} {ds es : List D} {p q : Addr} {vs ws : List V} (h : SqT G.K ω.imm p vs) (h2 : SqT G.K ω.imm q ws) (r : Rels G ω ds vs) (r2 : Rels G ω es ws) : IsWalk G ω (zips ds es) (ItzT G.K p q) := by
  refine ⟨fun H => SqT G.K H p vs ∧ SqT G.K H q ws, YPair (fun i => vs[i]?) (fun i => ws[i]?), ⟨fun i H hi g => ?_, fun H g => ?_, fun i H v H' hi g y => ?_⟩, fun ω1 M1 H1 le hh => ⟨sqT_mono h fun p o z => hh.imm p o (le.imm p o z), sqT_mono h2 fun p o z => hh.imm p o (le.imm p o z)⟩, fun i x H1 H2 ω1 M1 le hh y => ?_⟩
  · rw [zips_len, ← r.length, ← r2.length] at hi
    exact ⟨vs, ws, vs[i]'(by omega), ws[i]'(by omega), g.1, g.2, by simp, by simp⟩
  · rw [zips_len, ← r.length, ← r2.length]
    exact ⟨vs, ws, g.1, g.2, by omega⟩
  · obtain ⟨T, a, b, e1, e2, e3, e4, e5⟩ := y
    exact ⟨T, a, b, e1, e2, e3, e4 vs g.1, e5 ws g.2⟩
  · obtain ⟨T, a, b, e1, e2, e3, e4, e5⟩ := y
    subst e1
    obtain ⟨d, f1, f2⟩ := r.getV e4
    obtain ⟨d', f1', f2'⟩ := r2.getV e5
    obtain ⟨ω2, g1, g2, g3⟩ := pair_new hh e2 e3 (Rel.mono0 le _ _ f2) (Rel.mono0 le _ _ f2')
    exact ⟨_, ω2, zips_get ds es i d d' f1 f1', g1, g2, g3⟩
end
end Ev


set_option autoImplicit false
set_option Elab.async false
set_option linter.all false
set_option maxRecDepth 100000
set_option maxHeartbeats 4000000
/-! EvK: what is walked, comprehensions, the theorem for expressions. -/
namespace Ev
open PySem PySem.Spec PyProof.Rows L2 RZ
section
variable {G : Gs} {P : Pg} {ft : List Ft} {k : Nat} {c : Ck} {Y : L2.Cx}
theorem okEs_len : ∀ {xs : List X} {c : Ck} {es : List Expr}, okEs xs c es = true → xs.length = es.length
  | [], c, [], _ => rfl
  | [], c, _ :: _, h => by cases h
  | _ :: _, c, [], h => by cases h
  | x :: xs, c, e :: es, h => by
    rw [okEs, Bool.and_eq_true] at h
    rw [List.length_cons, List.length_cons, okEs_len h.2]
theorem evs_len {C : Ec} : ∀ {xs : List X} {env : En} {M M1 : List O} {ds : List D}, evs C xs env M = .ok ds M1 → ds.length = xs.length
  | [], env, M, M1, ds, h => by
    rw [evs] at h
    cases h
    rfl
  | x :: xs, env, M, M1, ds, h => by
    rw [evs] at h
    cases e : ev C x env M with
    | er => rw [e] at h; cases h
    | ok d M2 =>
      rw [e] at h
      have h : ((evs C xs env M2).bind fun ds M2 => Rs.ok (d :: ds) M2) = .ok ds M1 := h
      cases e2 : evs C xs env M2 with
      | er => rw [e2] at h; cases h
      | ok es M3 =>
        rw [e2] at h
        have h : Rs.ok (d :: es) M3 = .ok ds M1 := h
        cases h
        rw [List.length_cons, List.length_cons, evs_len e2]
theorem len1 {α : Type} {l : List α} (h : l.length = 1) : ∃ a, l = [a] := by
  match l, h with
  | [a], _ => exact ⟨a, rfl⟩
theorem len2 {α : Type} {l : List α} (h : l.length = 2) : ∃ a b, l = [a, b] := by
  match l, h with
  | [a, b], _ => exact ⟨a, b, rfl⟩
theorem rels2 {ω : Wd} {d e : D} {vs : List V} (r : Rels G ω [d, e] vs) : ∃ v w, vs = [v, w] ∧ Rel G ω d v ∧ Rel G ω e w := by
  rw [Rels] at r
  obtain ⟨v, t, e1, a, b⟩ := r
  obtain ⟨w, e2, f⟩ := rels1 b
  subst e2
  exact ⟨v, w, e1, a, f⟩
/-- what the walk of evaluated arguments asks -/
theorem tI_bind {kk : Ik} {xs : List X} {σ : L2.St} {H : Hp} {R : It → Hp → Prop} {Q' : List V → Hp → Prop} (q : tI G (ecN P k) kk xs σ H R)
    (h : ∀ ds M1 ω1 H1 vs items, HRel G ω1 M1 H1 → Rels G ω1 ds vs → ds.length = xs.length → walkOf kk ds = some items → (∀ J, IsWalk G ω1 items J → R J H1) → Q' vs H1) : tEs G (ecN P k) xs σ H Q' := by
  obtain ⟨ω, M, env, he, hh, post⟩ := q
  unfold evW at post
  refine ⟨ω, M, env, he, hh, ?_⟩
  cases e0 : evs (ecN P k) xs env M with
  | er => rw [e0] at post; exact post
  | ok ds M1 =>
    rw [e0] at post
    have post : Post G (IsWalk G) ω (match walkOf kk ds with
      | some items => .ok items M1
      | none => .er) R := post
    intro ω1 H1 vs le hh1 r
    cases e : walkOf kk ds with
    | none => rw [e] at post; exact False.elim post
    | some items =>
      rw [e] at post
      exact h ds M1 ω1 H1 vs items hh1 r (evs_len e0) e fun J w => post ω1 H1 J le hh1 w
theorem pi_ok (O : Ok G P ft k c Y) {kk : Ik} {its : List X} {tg e : Expr} {as : List Expr} (h : itArgs c kk tg e = some as) (hok : okEs its c as = true) (A : PA Y as (tEs G (ecN P k) its)) (B : ∀ x, kk = .val → its = [x] → PE Y e (tE G (ecN P k) x)) :
    PI Y tg e (tI G (ecN P k) kk its) := by
  have hlen := okEs_len hok
  cases kk with
  | val =>
    cases h
    obtain ⟨x, rfl⟩ := len1 hlen
    have hx := B x rfl rfl
    refine ⟨fun pins s σ H R I q => ?_⟩
    obtain ⟨ω, M, env, he, hh, post⟩ := q
    unfold evW at post
    rw [evs] at post
    cases e1 : ev (ecN P k) x env M with
    | er => rw [e1] at post; exact False.elim post
    | ok d M1 =>
      rw [e1] at post
      simp only [Rs.bind, evs] at post
      cases d with
      | lst ds =>
        have post : Post G (IsWalk G) ω (.ok ds M1) R := post
        refine (pi_list hx).run pins s σ H R I ⟨ω, M, env, he, hh, ?_⟩
        rw [e1]
        intro ω1 H1 v le hh1 r
        rw [Rel] at r
        obtain ⟨p, vs, f1, f2, f3⟩ := r
        refine ⟨p, f1, ⟨vs, SqL.of (hh1.imm _ _ f2)⟩, ?_⟩
        rw [O.hK]
        exact post ω1 H1 _ le hh1 (walk_lst f2 f3)
      | tup ds =>
        have post : Post G (IsWalk G) ω (.ok ds M1) R := post
        refine (pi_tup hx).run pins s σ H R I ⟨ω, M, env, he, hh, ?_⟩
        rw [e1]
        intro ω1 H1 v le hh1 r
        rw [Rel] at r
        obtain ⟨p, vs, f1, f2, f3⟩ := r
        refine ⟨p, f1, ⟨vs, by rw [O.hK]; exact sqT_mono f2 hh1.imm⟩, ?_⟩
        rw [O.hK]
        exact post ω1 H1 _ le hh1 (walk_tpl f2 f3)
      | _ => exact False.elim post
  | rng =>
    unfold itArgs at h
    dsimp only at h
    split at h
    · rename_i f p0 as' pos
      split at h
      · rename_i hb
        cases h
        rw [Bool.and_eq_true, Bool.and_eq_true] at hb
        have ef := of_decide_eq_true hb.1
        subst ef
        rcases of_decide_eq_true hb.2.2 with l1 | l2
        · obtain ⟨a, rfl⟩ := len1 l1
          obtain ⟨x, rfl⟩ := len1 (hlen.trans l1)
          rw [okEs, Bool.and_eq_true] at hok
          refine PI.imp (pi_range1 (O.gl hb.2.1) (O.free _ (by decide +kernel)) A (ok_star hok.1 [] Y.env)) fun σ H R q => ?_
          refine tI_bind q fun ds M1 ω1 H1 vs items hh1 r hl e w => ?_
          obtain ⟨d, rfl⟩ := len1 hl
          obtain ⟨v, f1, f2⟩ := rels1 r
          subst f1
          cases d with
          | int n =>
            rw [Rel] at f2
            subst f2
            unfold walkOf at e
            dsimp only at e
            split at e
            · rename_i hb
              cases e
              exact ⟨n, rfl, by omega, by omega, w _ walk_rng⟩
            · cases e
          | _ => cases e
        · obtain ⟨a, b, rfl⟩ := len2 l2
          obtain ⟨x, y, rfl⟩ := len2 (hlen.trans l2)
          rw [okEs, okEs, Bool.and_eq_true, Bool.and_eq_true] at hok
          refine PI.imp (pi_range2 (O.gl hb.2.1) (O.free _ (by decide +kernel)) A (by rw [ok_star hok.1, ok_star hok.2.1]; rfl) (ok_star hok.2.1 [] Y.env)) fun σ H R q => ?_
          refine tI_bind q fun ds M1 ω1 H1 vs items hh1 r hl e w => ?_
          obtain ⟨d, d2, rfl⟩ := len2 hl
          obtain ⟨v, u, f1, f2, f3⟩ := rels2 r
          subst f1
          cases d with
          | int n =>
            cases d2 with
            | int m =>
              rw [Rel] at f2 f3
              subst f2 f3
              unfold walkOf at e
              dsimp only at e
              split at e
              · rename_i hb
                cases e
                exact ⟨n, m, rfl, by omega, w _ walk_rng⟩
              · cases e
            | _ => cases e
          | _ => cases e
      · cases h
    · cases h
  | enm =>
    unfold itArgs at h
    dsimp only at h
    split at h
    · rename_i es n tp f p0 as' pos
      split at h
      · rename_i hb
        cases h
        rw [Bool.and_eq_true, Bool.and_eq_true] at hb
        have ef := of_decide_eq_true hb.1
        subst ef
        have l1 := of_decide_eq_true hb.2.2
        obtain ⟨a, rfl⟩ := len1 l1
        obtain ⟨x, rfl⟩ := len1 (hlen.trans l1)
        rw [okEs, Bool.and_eq_true] at hok
        refine PI.imp (pi_enum (O.gl hb.2.1) (O.free _ (by decide +kernel)) A (ok_star hok.1 [] Y.env)) fun σ H R q => ?_
        refine tI_bind q fun ds M1 ω1 H1 vs items hh1 r hl e w => ?_
        obtain ⟨d, rfl⟩ := len1 hl
        obtain ⟨v, f1, f2⟩ := rels1 r
        subst f1
        cases d with
        | lst l =>
          rw [Rel] at f2
          obtain ⟨p, ws, g1, g2, g3⟩ := f2
          subst g1
          cases e
          refine ⟨p, ws, rfl, SqL.of (hh1.imm _ _ g2), ?_⟩
          rw [O.hK]
          exact w _ (walk_enm g2 g3)
        | _ => cases e
      · cases h
    · cases h
  | zip =>
    unfold itArgs at h
    dsimp only at h
    split at h
    · rename_i es n tp f p0 as' pos
      split at h
      · rename_i hb
        cases h
        rw [Bool.and_eq_true, Bool.and_eq_true] at hb
        have ef := of_decide_eq_true hb.1
        subst ef
        have l2 := of_decide_eq_true hb.2.2
        obtain ⟨a, b, rfl⟩ := len2 l2
        obtain ⟨x, y, rfl⟩ := len2 (hlen.trans l2)
        have hok2 := hok
        rw [okEs, Bool.and_eq_true] at hok
        refine PI.imp (pi_zipA (O.gl hb.2.1) (O.free _ (by decide +kernel)) A (ok_star hok.1 _ Y.env) (ok_stars hok.2 pos Y.env)) fun σ H R q => ?_
        refine tI_bind q fun ds M1 ω1 H1 vs items hh1 r hl e w => ?_
        obtain ⟨d, d2, rfl⟩ := len2 hl
        obtain ⟨v, u, f1, f2, f3⟩ := rels2 r
        subst f1
        cases d with
        | lst l =>
          cases d2 with
          | lst l2 =>
            rw [Rel] at f2 f3
            obtain ⟨p, ws, g1, g2, g3⟩ := f2
            obtain ⟨p', ws', g1', g2', g3'⟩ := f3
            subst g1 g1'
            cases e
            refine ⟨p, p', ws, ws', rfl, .inl ⟨SqL.of (hh1.imm _ _ g2), SqL.of (hh1.imm _ _ g2'), ?_⟩⟩
            rw [O.hK]
            exact w _ (walk_zpL g2 g2' g3 g3')
          | _ => cases e
        | tup l =>
          cases d2 with
          | tup l2 =>
            rw [Rel] at f2 f3
            obtain ⟨p, ws, g1, g2, g3⟩ := f2
            obtain ⟨p', ws', g1', g2', g3'⟩ := f3
            subst g1 g1'
            cases e
            refine ⟨p, p', ws, ws', rfl, .inr ?_⟩
            rw [O.hK]
            exact ⟨sqT_mono g2 hh1.imm, sqT_mono g2' hh1.imm, w _ (walk_zpT g2 g2' g3 g3')⟩
          | _ => cases e
        | _ => cases e
      · cases h
    · cases h
/-! ### comprehensions -/
/-- what is wanted of a comprehension's list, the lock still on -/
def PostD (G : Gs) (l0 : Hp) (p : Addr) (ω : Wd) (r : Rs (List D)) (Q : Hp → Prop) : Prop := match r with
  | .ok l M => ∀ ω' H' ws, Le0 ω ω' → ω'.lck = upd l0 p (.lst ws) → HRel G ω' M H' → Rels G ω' l ws → Q H'
  | .er => False
theorem PostD.mono {l0 : Hp} {p : Addr} {ω ω1 : Wd} {r : Rs (List D)} {Q : Hp → Prop} (h : PostD G l0 p ω r Q) (le : Le0 ω ω1) : PostD G l0 p ω1 r Q := by
  cases r with
  | ok l M => exact fun ω' H' ws a => h ω' H' ws (le.trans a)
  | er => exact h
theorem tTs_of {ifs : List X} {es : List Expr} (h : ifs.length ≤ 1) (hl : ifs.length = es.length) (B : ∀ x e, ifs = [x] → es = [e] → PT Y e (tB' G (ecN P k) x)) : PTs Y es (tTs G (ecN P k) ifs) := by
  cases ifs with
  | nil =>
    have : es = [] := List.length_eq_zero_iff.mp hl.symm
    subst this
    refine PTs.imp pts_nil fun σ H Q q => ?_
    obtain ⟨ω, M, env, he, hh, post⟩ := q
    rw [evT] at post
    exact PostB.done post hh
  | cons x r =>
    have : r = [] := by
      cases r with
      | nil => rfl
      | cons y r => simp at h
    subst this
    obtain ⟨e, rfl⟩ := len1 hl.symm
    refine PTs.imp (pts_one (B x e rfl rfl)) fun σ H Q q => ?_
    obtain ⟨ω, M, env, he, hh, post⟩ := q
    have e1 : evT (ecN P k) [x] env M = evB (ecN P k) x env M := by
      unfold evB
      rw [evT]
      cases ev (ecN P k) x env M with
      | er => rfl
      | ok d M1 =>
        cases d with
        | bl t => cases t <;> simp [Rs.bind, evT]
        | _ => rfl
    rw [e1] at post
    exact ⟨ω, M, env, he, hh, post⟩
theorem ev_lc {C : Ec} {h : Bool} {p : Pt} {e : X} {kk : Ik} {its ifs : List X} {env : En} {M : List O} : ev C (.lc h p e kk its ifs) env M = (evW C kk its env M).bind fun items M1 => (comp (ev C e) (evT C ifs) p items [] (wipeE env (pslots p)) M1).bind fun l M2 => mkL h l M2 := by
  rw [ev]
  unfold evW
  cases evs C its env M with
  | er => rfl
  | ok ds M1 =>
    simp only [Rs.bind]
    cases walkOf kk ds <;> rfl
theorem s_lc (O : Ok G P ft k c Y) {h : Bool} {p : Pt} {e : X} {kk : Ik} {its ifs : List X} {tg eit ee : Expr} {eifs : List Expr} {scope : Scope} {pos : Pos}
    (hi : PI Y tg eit (tI G (ecN P k) kk its)) (hb : blkC c.N c.sc scope (ownOf c (pslots p)) = true) (ho : (ownOf c (pslots p)).map (·.2) = pslots p)
    (hg : ∀ (s : Shared) (H : Hp) (C : Addr) (cl : List (Str × Addr)) (fp : List Addr), PG (Y.blk s H scope (compEnvC scope cl C Y.env) fp) tg (tP G p))
    (ht : ∀ (s : Shared) (H : Hp) (C : Addr) (cl : List (Str × Addr)) (fp : List Addr), PTs (Y.blk s H scope (compEnvC scope cl C Y.env) fp) eifs (tTs G (ecN P k) ifs))
    (he : ∀ (s : Shared) (H : Hp) (C : Addr) (cl : List (Str × Addr)) (fp : List Addr), PE (Y.blk s H scope (compEnvC scope cl C Y.env) fp) ee (tE G (ecN P k) e))
    (hs : ∀ x, foldedSetIterable eit Y.env x = pure x) : PE Y (.ListComp ee [⟨tg, eit, eifs, 0⟩] scope pos) (tE G (ecN P k) (.lc h p e kk its ifs)) ∧
      (∀ σ H Q, tE G (ecN P k) (.lc h p e kk its ifs) σ H Q → tLc (tI G (ecN P k) kk its) (tP G p) (tTs G (ecN P k) ifs) (tE G (ecN P k) e) ((ownOf c (pslots p)).map (·.2)) σ H Q) := by
  have ok : BlkOk Y.N Y.env.scope scope (ownOf c (pslots p)) := by
    rw [O.hN, O.hsc]
    exact blkOk_by hb
  have nd : Y.N.Nodup := by rw [O.hN]; exact O.nd
  have key : ∀ σ H Q, tE G (ecN P k) (.lc h p e kk its ifs) σ H Q → tLc (tI G (ecN P k) kk its) (tP G p) (tTs G (ecN P k) ifs) (tE G (ecN P k) e) ((ownOf c (pslots p)).map (·.2)) σ H Q := fun σ H Q q => by
    rw [ho]
    obtain ⟨ω, M, env, he, hh, post⟩ := q
    rw [ev_lc] at post
    refine ⟨ω, M, env, he, hh, Post.bind post fun items M1 ω1 H1 J le hh1 w p1 => ?_⟩
    intro D0 hD
    obtain ⟨Gd, Yd, wk, hG, hY⟩ := w
    have l1 : ω1.lck D0 = none := hh1.lckN hD
    -- the wish with the lock
    have pd : PostD G ω1.lck D0 (ω1.lock D0 (.lst [])) (comp (ev (ecN P k) e) (evT (ecN P k) ifs) p items [] (wipeE env (pslots p)) M1) (fun H' => Q (.ref D0) H') := by
      cases e2 : comp (ev (ecN P k) e) (evT (ecN P k) ifs) p items [] (wipeE env (pslots p)) M1 with
      | er => rw [e2] at p1; exact p1
      | ok l M2 =>
        rw [e2] at p1
        intro ω' H' ws le' hl hh' r
        have le1 : Le0 ω1 ω' := (Le0.lock ω1 D0 (.lst [])).trans le'
        cases h with
        | true =>
          obtain ⟨h2, le2⟩ := hh'.unlockM (ob := .lst l) hl l1 ⟨ws, rfl, r⟩
          have p1 : PostE G ω1 (alloc (.lst l) M2) Q := p1
          refine p1 _ _ _ ⟨(le1.trans le2).ρ, (le1.trans le2).imm, rfl⟩ h2 ?_
          rw [Rel]
          refine ⟨D0, ?_, rfl⟩
          show (ω'.ρ ++ [D0])[M2.length]? = some D0
          rw [← hh'.len]
          simp
        | false =>
          obtain ⟨h2, le2⟩ := hh'.unlockI hl l1
          have p1 : PostE G ω1 (.ok (.lst l) M2) Q := p1
          refine p1 _ _ _ ⟨(le1.trans le2).ρ, (le1.trans le2).imm, rfl⟩ h2 ?_
          rw [Rel]
          exact ⟨D0, ws, rfl, upd_same, Rels.mono0 le2 _ _ r⟩
    refine lc_it wk (fun i H => ∃ ω' M' acc ws, Le0 ω1 ω' ∧ ω'.lck = upd ω1.lck D0 (.lst ws) ∧ HRel G ω' M' H ∧ Rels G ω' acc ws ∧ PostD G ω1.lck D0 ω' (comp (ev (ecN P k) e) (evT (ecN P k) ifs) p (items.drop i) acc (wipeE env (pslots p)) M') (fun H' => Q (.ref D0) H')) ?_ ?_ ?_ ?_
    · exact ⟨ω1.lock D0 (.lst []), M1, [], [], Le0.lock _ _ _, rfl, hh1.lockNew hD, Rels.nil, pd⟩
    · rintro i H' _ ⟨ω', M', acc, ws, le', _, hh', _, _⟩
      exact hG ω' M' H' le' hh'
    · rintro i x H' H2 hi ⟨ω', M', acc, ws, le', hl', hh', ra, pd'⟩ y
      obtain ⟨d, ω2, hd, le2, hh2, rx⟩ := hY i x H' H2 ω' M' le' hh' y
      have le02 : Le0 ω1 ω2 := le'.trans le2.le0
      have hl2 : ω2.lck = upd ω1.lck D0 (.lst ws) := by rw [le2.lck, hl']
      have dr : items.drop i = d :: items.drop (i + 1) := by
        obtain ⟨hlt, e9⟩ := List.getElem?_eq_some_iff.mp hd
        rw [List.drop_eq_getElem_cons hlt, e9]
      rw [dr, comp] at pd'
      cases es : setP p d (wipeE env (pslots p)) with
      | none => rw [es] at pd'; exact False.elim pd'
      | some env1 =>
        rw [es] at pd'
        dsimp only at pd'
        have he2 : EnvRel G ω2 (wipeE env (pslots p)) (wipe σ (pslots p)) := ((he.mono le).mono0 le02).wipe _
        refine ⟨ω2, M', d, wipeE env (pslots p), env1, he2, hh2, rx, es, fun σ2 he3 hw => ⟨by rw [hw, wipe_wipe], ?_⟩⟩
        have pd2 := PostD.mono pd' le2.le0
        refine ⟨ω2, M', env1, he3, hh2, ?_⟩
        cases et : evT (ecN P k) ifs env1 M' with
        | er => rw [et] at pd2; exact False.elim pd2
        | ok t M3 =>
          rw [et] at pd2
          intro ω3 H3 t' le3 hh3 et'
          subst et'
          have hl3 : ω3.lck = upd ω1.lck D0 (.lst ws) := by rw [le3.lck, hl2]
          have pd3 := PostD.mono pd2 le3.le0
          cases t with
          | false =>
            rw [if_neg Bool.false_ne_true]
            exact ⟨ω3, M3, acc, ws, le02.trans le3.le0, hl3, hh3, Rels.mono0 (le2.le0.trans le3.le0) _ _ ra, pd3⟩
          | true =>
            rw [if_pos rfl]
            refine ⟨ω3, M3, env1, he3.mono le3, hh3, ?_⟩
            dsimp only at pd3
            cases ee' : ev (ecN P k) e env1 M3 with
            | er => rw [ee'] at pd3; exact pd3
            | ok v M4 =>
              rw [ee'] at pd3
              dsimp only at pd3
              intro ω4 H4 y4 le4 hh4 ry
              by_cases hac : acc.length < lim
              · rw [if_pos hac] at pd3
                have hl4 : ω4.lck = upd ω1.lck D0 (.lst ws) := by rw [le4.lck, hl3]
                have l4 : ω4.lck D0 = some (.lst ws) := by rw [hl4, upd_same]
                have ra4 := Rels.mono0 ((le2.le0.trans le3.le0).trans le4.le0) _ _ ra
                refine ⟨ws, hh4.lck _ _ l4, by rw [ra4.length]; exact Nat.lt_of_lt_of_le hac lim_le, ?_⟩
                refine ⟨ω4.lock D0 (.lst (ws ++ [y4])), M4, acc ++ [v], ws ++ [y4], ((le02.trans le3.le0).trans le4.le0).trans (Le0.lock _ _ _), ?_, hh4.relock l4, ?_, PostD.mono pd3 (le4.le0.trans (Le0.lock _ _ _))⟩
                · show upd ω4.lck D0 _ = _
                  rw [hl4, upd_upd]
                · exact Rels.mono0 (Le0.lock _ _ _) _ _ (ra4.append (Rels.one ry))
              · rw [if_neg hac] at pd3
                exact False.elim pd3
    · rintro H' ⟨ω', M', acc, ws, le', hl', hh', ra, pd'⟩
      rw [List.drop_length, comp] at pd'
      exact pd' ω' H' ws (Le0.refl _) hl' hh' ra
  exact ⟨PE.imp (pe_lc O.calm nd hi ok hg ht he hs) key, key⟩
end
end Ev


set_option autoImplicit false
set_option Elab.async false
set_option linter.all false
set_option maxRecDepth 100000
set_option maxHeartbeats 4000000
/-! EvL: the theorem for expressions. -/
namespace Ev
open PySem PySem.Spec PyProof.Rows L2 RZ
section
variable {G : Gs} {P : Pg} {ft : List Ft} {k : Nat}
theorem no_of {x : X} {c : Ck} {e : Expr} (h : okE x c e = true) (hf : okE x c e = false) {p : Prop} : p := by rw [h] at hf; cases hf
theorem arg_side {es : List X} {c : Ck} {as : List Expr} {Y : L2.Cx} {pos : Pos} (h : okEs es c as = true) : ∀ e r, as = e :: r → starEach (e :: r) Y.env = (false, eval e Y.env) :: starEach r Y.env ∧ (backTo pos (starEach r Y.env)).any (·.1) = false := fun e r z => by
  subst z
  cases es with
  | nil => cases h
  | cons x xs =>
    rw [okEs, Bool.and_eq_true] at h
    exact ⟨ok_star h.1 r Y.env, ok_stars h.2 pos Y.env⟩
mutual
theorem sndE : ∀ (x : X) (c : Ck) (e : Expr) (Y : L2.Cx), Ok G P ft k c Y → okE x c e = true → Snd G (ecN P k) Y e x
  | .var i, c, e, Y, O, h => by
    cases e with
    | Name x p => exact s_var O h
    | _ => cases h
  | .cst d, c, e, Y, O, h => by
    cases e with
    | Constant kk n p => exact s_cst (c := c) h
    | _ => cases h
  | .glo i, c, e, Y, O, h => by cases e <;> cases h
  | .bin o a b, c, e, Y, O, h => by
    cases e with
    | BinOp ea op eb p =>
      rw [okE, Bool.and_eq_true, Bool.and_eq_true] at h
      exact s_bin (of_decide_eq_true h.1) (sndE a c ea Y O h.2.1) (sndE b c eb Y O h.2.2)
    | _ => cases h
  | .neg a, c, e, Y, O, h => by
    cases e with
    | UnaryOp op ea p =>
      cases op with
      | USub => exact s_neg (sndE a c ea Y O h)
      | _ => cases h
    | _ => cases h
  | .cmp o a b, c, e, Y, O, h => by
    cases e with
    | Compare ea ops es p =>
      match ops, es, h with
      | [op], [eb], h =>
        rw [okE, Bool.and_eq_true, Bool.and_eq_true] at h
        exact s_cmp O (of_decide_eq_true h.1) (sndE a c ea Y O h.2.1) (sndE b c eb Y O h.2.2) (ok_mark h.2.2 op)
      | [], _, h => cases h
      | [_], [], h => cases h
      | [_], _ :: _ :: _, h => cases h
      | _ :: _ :: _, _, h => cases h
    | _ => cases h
  | .cmp2 o q a b d, c, e, Y, O, h => by
    cases e with
    | Compare ea ops es p =>
      match ops, es, h with
      | [op, pp], [eb, ed], h =>
        rw [okE] at h
        simp only [Bool.and_eq_true] at h
        obtain ⟨h1, h2, h3, h4, h5⟩ := h
        exact s_cmp2 O (of_decide_eq_true h1) (of_decide_eq_true h2) (sndE a c ea Y O h3) (sndE b c eb Y O h4) (sndE d c ed Y O h5) (ok_mark h5 pp)
      | [], _, h => cases h
      | [_], _, h => cases h
      | [_, _], [], h => cases h
      | [_, _], [_], h => cases h
      | [_, _], _ :: _ :: _ :: _, h => cases h
      | _ :: _ :: _ :: _, _, h => cases h
    | _ => cases h
  | .and a b, c, e, Y, O, h => by
    cases e with
    | BoolOp op es p =>
      match op, es, h with
      | .And, [ea, eb], h =>
        rw [okE, Bool.and_eq_true] at h
        exact s_and2 (sndE a c ea Y O h.1) (sndE b c eb Y O h.2)
      | .And, ea :: eb :: ed :: rest, h =>
        rw [okE, Bool.and_eq_true] at h
        exact s_and3 (sndE a c ea Y O h.1) (sndE b c _ Y O h.2)
      | .And, [], h => cases h
      | .And, [_], h => cases h
      | .Or, _, h => cases h
    | _ => cases h
  | .or a b, c, e, Y, O, h => by
    cases e with
    | BoolOp op es p =>
      match op, es, h with
      | .Or, [ea, eb], h =>
        rw [okE, Bool.and_eq_true] at h
        exact s_or2 (sndE a c ea Y O h.1) (sndE b c eb Y O h.2)
      | .Or, ea :: eb :: ed :: rest, h =>
        rw [okE, Bool.and_eq_true] at h
        exact s_or3 (sndE a c ea Y O h.1) (sndE b c _ Y O h.2)
      | .Or, [], h => cases h
      | .Or, [_], h => cases h
      | .And, _, h => cases h
    | _ => cases h
  | .not a, c, e, Y, O, h => by
    cases e with
    | UnaryOp op ea p =>
      cases op with
      | Not => exact s_not (sndE a c ea Y O h)
      | _ => cases h
    | _ => cases h
  | .ife t a b, c, e, Y, O, h => by
    cases e with
    | IfExp et ea eb p =>
      rw [okE, Bool.and_eq_true, Bool.and_eq_true] at h
      exact s_ife (sndE t c et Y O h.1) (sndE a c ea Y O h.2.1) (sndE b c eb Y O h.2.2)
    | _ => cases h
  | .tup es, c, e, Y, O, h => by
    cases e with
    | Tuple as n p => exact s_tup (sndEs es c as Y O h)
    | _ => cases h
  | .lst hp es, c, e, Y, O, h => by
    cases e with
    | List as p => exact s_lst (sndEs es c as Y O h)
    | _ => cases h
  | .item a i, c, e, Y, O, h => by
    cases e with
    | Subscript ea ei p =>
      rw [okE, Bool.and_eq_true] at h
      exact s_item O (sndE a c ea Y O h.1) (sndE i c ei Y O h.2) (ok_ix h.2)
    | _ => cases h
  | .slc a lo hi, c, e, Y, O, h => by
    cases e with
    | Subscript ea ei p =>
      cases ei with
      | Slice l u st p2 =>
        cases st with
        | none =>
          rw [okE, Bool.and_eq_true, Bool.and_eq_true] at h
          refine s_slc O (sndE a c ea Y O h.1) (po_of (sndEs lo c _ Y O h.2.1) (fun x e z1 z2 => ?_) (okEs_len h.2.1)) (po_of (sndEs hi c _ Y O h.2.2) (fun x e z1 z2 => ?_) (okEs_len h.2.2))
          · subst z1 z2
            have h2 := h.2.1
            rw [show (some e).toList = [e] from rfl, okEs, Bool.and_eq_true] at h2
            exact (sndE x c e Y O h2.1).pe
          · subst z1 z2
            have h2 := h.2.2
            rw [show (some e).toList = [e] from rfl, okEs, Bool.and_eq_true] at h2
            exact (sndE x c e Y O h2.1).pe
        | some _ => cases h
      | _ => cases h
    | _ => cases h
  | .attr a f, c, e, Y, O, h => by
    cases e with
    | Attribute ea n p =>
      rw [okE] at h
      simp only [Bool.and_eq_true] at h
      obtain ⟨h1, h2, h3⟩ := h
      have ef := of_decide_eq_true h1
      subst ef
      exact s_attr O (sndE a c ea Y O h3) h2
    | _ => cases h
  | .isi a q, c, e, Y, O, h => by
    cases e with
    | Call f as ks p =>
      cases f with
      | Name f p0 =>
        match as, ks, h with
        | [ea, ek], [], h =>
          rw [okE] at h
          simp only [Bool.and_eq_true] at h
          obtain ⟨h1, h2, h3, h4⟩ := h
          have ef := of_decide_eq_true h1
          subst ef
          rw [Bool.or_eq_true] at h4
          rcases h4 with h4 | h4
          · exact s_isi O h2 (sndE a c ea Y O h3) (fun es env => ok_star h3 es env) h4
          · exact s_isx O h2 (sndE a c ea Y O h3) (fun es env => ok_star h3 es env) h4
        | [], _, h => cases h
        | [_], _, h => cases h
        | [_, _], _ :: _, h => cases h
        | _ :: _ :: _ :: _, _, h => cases h
      | _ => cases h
    | _ => cases h
  | .isis a qs, c, e, Y, O, h => by
    cases qs with
    | nil => cases e <;> cases h
    | cons q qs =>
      cases e with
      | Call f as ks p =>
        cases f with
        | Name f p0 =>
          match as, ks, h with
          | [ea, e2], [], h =>
            cases e2 with
            | Tuple eks n p2 =>
              rw [okE] at h
              simp only [Bool.and_eq_true] at h
              obtain ⟨h1, h2, h3, h4, h5⟩ := h
              have ef := of_decide_eq_true h1
              subst ef
              exact s_isis O h2 (sndE a c ea Y O h3) (fun es env => ok_star h3 es env) h4 h5
            | _ => cases h
          | [], _, h => cases h
          | [_], _, h => cases h
          | [_, e2], _ :: _, h => cases e2 <;> cases h
          | _ :: e2 :: _ :: _, _, h => cases e2 <;> cases h
        | _ => cases h
      | _ => cases h
  | .call f es, c, e, Y, O, h => by
    cases e with
    | Call g as ks p =>
      cases g with
      | Name x p0 =>
        cases ks with
        | nil =>
          rw [okE] at h
          simp only [Bool.and_eq_true, beq_iff_eq] at h
          obtain ⟨h1, h2, h3, h4⟩ := h
          exact s_call O (of_decide_eq_true h1) h2 h3 (sndEs es c as Y O h4) (arg_side h4) (okEs_len h4)
        | cons _ _ => cases h
      | _ => cases h
    | _ => cases h
  | .mkx n kw es, c, e, Y, O, h => by
    cases e with
    | Call g as ks p =>
      cases g with
      | Name x p0 =>
        cases ks with
        | nil =>
          rw [okE] at h
          simp only [Bool.and_eq_true, beq_iff_eq] at h
          obtain ⟨h0, h1, h2, h3, h4⟩ := h
          split at h1
          · rename_i y f hy
            have ex := of_decide_eq_true h1
            subst ex
            exact s_mkx O hy h2 h3 (sndEs es c as Y O h4) (okEs_len h4) (arg_side h4)
          · cases h1
        | cons kx kr =>
          obtain ⟨nm, ea, kp⟩ := kx
          cases as with
          | cons _ _ => cases nm <;> cases kr <;> cases h
          | nil =>
            cases nm with
            | none => cases kr <;> cases h
            | some f =>
              cases kr with
              | cons _ _ => cases h
              | nil =>
                rw [okE] at h
                simp only [Bool.and_eq_true, beq_iff_eq] at h
                obtain ⟨h0, h1, h2, h3, h4⟩ := h
                cases es with
                | nil => cases h4
                | cons a r =>
                  rw [okEs, Bool.and_eq_true] at h4
                  cases r with
                  | nil => exact s_mkk O (of_decide_eq_true h1) h2 h3 (sndE a c ea Y O h4.1)
                  | cons _ _ => cases h4.2
      | _ => cases h
    | _ => cases h
  | .blt b es, c, e, Y, O, h => by
    cases e with
    | Call g as ks p =>
      cases g with
      | Name x p0 =>
        cases ks with
        | nil =>
          rw [okE] at h
          simp only [Bool.and_eq_true] at h
          obtain ⟨h1, h2, h3⟩ := h
          exact s_blt O (of_decide_eq_true h1) h2 (sndEs es c as Y O h3) (arg_side h3) (okEs_len h3)
        | cons _ _ => cases h
      | _ => cases h
    | _ => cases h
  | .lc hp p x kk its ifs, c, e, Y, O, h => by
    cases e with
    | ListComp ee gs scope pos =>
      match gs, h with
      | [⟨tg, eit, eifs, 0⟩], h =>
        rw [okE] at h
        simp only [Bool.and_eq_true] at h
        obtain ⟨h1, h2, h3, ⟨⟨h4, h5⟩, h6⟩, h7⟩ := h
        cases ha : itArgs c kk tg eit with
        | none => rw [ha] at h1; cases h1
        | some as =>
          rw [ha] at h1
          have h1 : okEs its c as = true := h1
          have B : ∀ y, kk = .val → its = [y] → okE y c eit = true := fun y z1 z2 => by
            subst z1 z2
            cases ha
            rw [okEs, Bool.and_eq_true] at h1
            exact h1.1
          have hf : ∀ v, foldedSetIterable eit Y.env v = pure v := fun v => by
            cases kk with
            | val =>
              obtain ⟨y, rfl⟩ := len1 (show its.length = 1 by rw [okEs_len h1]; cases ha; rfl)
              exact ok_fold (B y rfl rfl) Y.env v
            | _ =>
              cases eit with
              | Set _ _ _ => cases tg <;> cases ha
              | _ => rfl
          have pi := pi_ok O ha h1 (sndEs its c as Y O h1) fun y z1 z2 => by
            have q := B y z1 z2
            subst z2
            exact (sndE y c eit Y O q).pe
          exact Snd.of (s_lc O pi h2 (of_decide_eq_true h7) (fun s H C cl fp => pg_ok O.blk h3) (fun s H C cl fp => tTs_of (of_decide_eq_true h6) (okEs_len h5) fun y e z1 z2 => by
            subst z1 z2
            rw [okEs, Bool.and_eq_true] at h5
            exact (sndE y _ e _ O.blk h5.1).pt) (fun s H C cl fp => (sndE x _ ee _ O.blk h4).pe) hf).1 (fun _ => rfl) (fun _ _ _ z => nomatch z)
      | [], h => cases h
      | [⟨_, _, _, .ofNat (_ + 1)⟩], h => cases h
      | [⟨_, _, _, .negSucc _⟩], h => cases h
      | ⟨_, _, _, i⟩ :: _ :: _, h =>
        cases i with
        | ofNat n => cases n <;> cases h
        | negSucc _ => cases h
    | _ => cases h
theorem sndEs : ∀ (xs : List X) (c : Ck) (es : List Expr) (Y : L2.Cx), Ok G P ft k c Y → okEs xs c es = true → PA Y es (tEs G (ecN P k) xs)
  | [], c, es, Y, O, h => by
    cases es with
    | nil => exact a_nil
    | cons _ _ => cases h
  | x :: xs, c, es, Y, O, h => by
    cases es with
    | nil => cases h
    | cons e es =>
      rw [okEs, Bool.and_eq_true] at h
      exact a_cons (ok_star h.1 es Y.env) (sndE x c e Y O h.1).pe (sndEs xs c es Y O h.2)
end
end
end Ev


set_option autoImplicit false
set_option Elab.async false
set_option linter.all false
set_option maxRecDepth 100000
set_option maxHeartbeats 4000000
/-! EvM: statements. -/
namespace Ev
open PySem PySem.Spec PyProof.Rows L2 RZ
def notComp : Expr → Bool
  | .ListComp _ _ _ _ => false
  | .SetComp _ _ _ _ => false
  | .DictComp _ _ _ _ _ => false
  | _ => true
mutual
def okS : S → Ck → Stmt → Bool
  | .ex e, c, .Expr v _ => okE e c v && notComp v
  | .asg i e, c, .Assign [.Name x _] v _ => c.tgt i x && (okE e c v && notComp v)
  | .asl i e, c, .Assign [.Name x px] (.ListComp ee gs scope pos) _ => (decide (c.N[i]? = some x) && decide (c.sc.names.lookup x = some .local)) && (okE e c (.ListComp ee gs scope pos) && ((px.line == pos.line) && ((scope.names.any fun (n, k) => n == x && (k == .local || k == .cell)) == false)))
  | .put o i e, c, .Assign [.Subscript eo ei _] v _ => okE e c v && (okE o c eo && (okE i c ei && notComp v))
  | .ret e, c, .Return (some v) _ => okE e c v
  | .ret (.cst .non), _, .Return none _ => true
  | .iff t a b, c, .If et ea eb _ => okE t c et && (okSs a c ea && okSs b c eb)
  | .for p k its b, c, .For tg it body [] _ => (match itArgs c k tg it with
    | some as => okEs its c as
    | none => false) && (okP c p tg && okSs b c body)
  | .whl t b, c, .While et body [] _ => okE t c et && okSs b c body
  | .never, _, _ => true
  | _, _, _ => false
termination_by structural x => x
def okSs : List S → Ck → List Stmt → Bool
  | [], _, [] => true
  | s :: r, c, st :: rest => okS s c st && okSs r c rest
  | _, _, _ => false
termination_by structural x => x
end
def PostS (G : Gs) (ω : Wd) (r : Out) (D : Ends) : Prop := match r with
  | .nx env M => ∀ ω' σ' H', Le ω ω' → EnvRel G ω' env σ' → HRel G ω' M H' → D.nx σ' H'
  | .rt d M => ∀ ω' H' v, Le ω ω' → HRel G ω' M H' → Rel G ω' d v → D.rt v H'
  | .bk env M => ∀ ω' σ' H', Le ω ω' → EnvRel G ω' env σ' → HRel G ω' M H' → D.bk σ' H'
  | .ct env M => ∀ ω' σ' H', Le ω ω' → EnvRel G ω' env σ' → HRel G ω' M H' → D.ct σ' H'
  | .er => False
def tS (G : Gs) (C : Ec) (s : S) : TS := fun D σ H => ∃ ω M env, EnvRel G ω env σ ∧ HRel G ω M H ∧ PostS G ω (exec C s env M) D
def tSs (G : Gs) (C : Ec) (s : List S) : TS := fun D σ H => ∃ ω M env, EnvRel G ω env σ ∧ HRel G ω M H ∧ PostS G ω (execs C s env M) D
theorem PostS.mono {G : Gs} {ω ω1 : Wd} {r : Out} {D : Ends} (h : PostS G ω r D) (le : Le ω ω1) : PostS G ω1 r D := by
  cases r with
  | nx env M => exact fun ω' σ' H' l => h ω' σ' H' (le.trans l)
  | rt d M => exact fun ω' H' v l => h ω' H' v (le.trans l)
  | bk env M => exact fun ω' σ' H' l => h ω' σ' H' (le.trans l)
  | ct env M => exact fun ω' σ' H' l => h ω' σ' H' (le.trans l)
  | er => exact h
section
variable {G : Gs} {P : Pg} {ft : List Ft} {k : Nat} {c : Ck} {Y : L2.Cx}
/-- an evaluation ahead of the rest of a statement -/
theorem eE_of {C : Ec} {x : X} {σ : L2.St} {H : Hp} {ω : Wd} {M : List O} {env : En} {Q : VK} (he : EnvRel G ω env σ) (hh : HRel G ω M H) (h0 : ev C x env M = .er → False)
    (h1 : ∀ d M1, ev C x env M = .ok d M1 → ∀ ω1 H1 v, Le ω ω1 → EnvRel G ω1 env σ → HRel G ω1 M1 H1 → Rel G ω1 d v → Q v H1) : tE G C x σ H Q := by
  refine ⟨ω, M, env, he, hh, ?_⟩
  cases e : ev C x env M with
  | er => exact (h0 e).elim
  | ok d M1 => exact fun ω1 H1 v le hh1 r => h1 d M1 e ω1 H1 v le (he.mono le) hh1 r
theorem eB_of {C : Ec} {x : X} {σ : L2.St} {H : Hp} {ω : Wd} {M : List O} {env : En} {Q : Bool → Hp → Prop} (he : EnvRel G ω env σ) (hh : HRel G ω M H) (h0 : (∀ b M1, ev C x env M ≠ .ok (.bl b) M1) → False)
    (h1 : ∀ b M1, ev C x env M = .ok (.bl b) M1 → ∀ ω1 H1, Le ω ω1 → EnvRel G ω1 env σ → HRel G ω1 M1 H1 → Q b H1) : tB' G C x σ H Q := by
  refine ⟨ω, M, env, he, hh, ?_⟩
  unfold evB
  cases e : ev C x env M with
  | er => exact (h0 fun b M1 z => by rw [e] at z; cases z).elim
  | ok d M1 =>
    cases d with
    | bl b =>
      intro ω1 H1 b' le hh1 r
      subst r
      exact h1 b M1 e ω1 H1 le (he.mono le) hh1
    | _ => exact (h0 fun b M1 z => by rw [e] at z; cases z).elim
theorem notComp_sw {v : Expr} (h : notComp v = true) (t : Option Expr) (l : Nat) (env : PySem.Env) : swapsWith v t l env = pure false := by
  cases v <;> first | rfl | cases h
theorem notComp_sole {v : Expr} (h : notComp v = true) (t : Expr) (l : Nat) (env : PySem.Env) : swapsWithSole [t] v l env = pure false := notComp_sw h (some t) l env
theorem ss_ex {v : Expr} {e : X} {pos : Pos} (A : Snd G (ecN P k) Y v e) (h : notComp v = true) : PS Y (.Expr v pos) (tS G (ecN P k) (.ex e)) := by
  refine PS.imp (ps_expr A.pe (notComp_sw h _ _ _)) fun D σ H q => ?_
  obtain ⟨ω, M, env, he, hh, post⟩ := q
  rw [exec] at post
  refine eE_of he hh (fun z => by rw [z] at post; exact post) fun d M1 z ω1 H1 w le he1 hh1 r => ?_
  rw [z] at post
  exact post ω1 σ H1 le he1 hh1
theorem ss_asg (O : Ok G P ft k c Y) {x : Str} {v : Expr} {e : X} {i : Nat} {pos px : Pos} (A : Snd G (ecN P k) Y v e) (ht : c.tgt i x = true) (h : notComp v = true) : PS Y (.Assign [.Name x px] v pos) (tS G (ecN P k) (.asg i e)) := by
  refine PS.imp (ps_asg A.pe (O.tgt ht) (notComp_sole h _ _ _) rfl) fun D σ H q => ?_
  obtain ⟨ω, M, env, he, hh, post⟩ := q
  rw [exec] at post
  refine eE_of he hh (fun z => by rw [z] at post; exact post) fun d M1 z ω1 H1 w le he1 hh1 r => ?_
  rw [z] at post
  dsimp only at post
  split at post
  · rename_i hl
    exact post ω1 _ H1 le (he1.set r hl) hh1
  · exact False.elim post
theorem ss_put (O : Ok G P ft k c Y) {v eo ei : Expr} {e o i : X} {pos px : Pos} (A : Snd G (ecN P k) Y v e) (B : Snd G (ecN P k) Y eo o) (E : Snd G (ecN P k) Y ei i) (h : notComp v = true) (hns : ∀ a b d p, ei ≠ .Slice a b d p) : PS Y (.Assign [.Subscript eo ei px] v pos) (tS G (ecN P k) (.put o i e)) := by
  refine PS.imp (ps_asg A.pe (pg_sub B.pe E.pe set_list (by cases ei <;> first | (intro _; rfl) | exact absurd rfl (hns _ _ _ _))) (notComp_sole h _ _ _) rfl) fun D σ H q => ?_
  obtain ⟨ω, M, env, he, hh, post⟩ := q
  rw [exec] at post
  refine eE_of he hh (fun z => by rw [z] at post; exact post) fun d M1 z ω1 H1 w le he1 hh1 r => ?_
  rw [z] at post
  dsimp only at post
  have post := PostS.mono post le
  refine eE_of he1 hh1 (fun z => by rw [z] at post; exact post) fun d2 M2 z ω2 H2 w2 le2 he2 hh2 r2 => ?_
  rw [z] at post
  cases d2 with
  | ref a =>
    dsimp only at post
    have post := PostS.mono post le2
    refine eE_of he2 hh2 (fun z => by rw [z] at post; exact post) fun d3 M3 z ω3 H3 w3 le3 he3 hh3 r3 => ?_
    rw [z] at post
    cases d3 with
    | int kk =>
      dsimp only at post
      have post := PostS.mono post le3
      rw [Rel] at r3
      subst r3
      have r2 := Rel.mono le3 _ _ r2
      rw [Rel] at r2
      obtain ⟨p, ep, e2⟩ := r2
      subst e2
      cases em : M3[a]? with
      | none => rw [em] at post; exact False.elim post
      | some ob =>
        rw [em] at post
        cases ob with
        | lst ds =>
          dsimp only at post
          cases ej : ixOf ds.length kk with
          | none => rw [ej] at post; exact False.elim post
          | some j =>
            rw [ej] at post
            obtain ⟨p', ho, f1, f2, ⟨vs, f3, f4⟩, _⟩ := hh3.obj a _ em (fun z => nomatch z)
            rw [ep] at f1
            cases f1
            subst f3
            refine ⟨p, vs, kk, j, rfl, rfl, f2, by rw [← ixOf_eq, f4.length]; exact ej, ?_⟩
            exact post ω3 σ _ (Le.refl _) he3 (hh3.setM em (fun z => nomatch z) ep ⟨_, rfl, Rels.set (Rel.mono (le2.trans le3) _ _ r) j f4⟩)
        | _ => exact False.elim post
    | _ => exact False.elim post
  | _ => exact False.elim post
theorem ss_ret {v : Expr} {e : X} {pos : Pos} (A : Snd G (ecN P k) Y v e) : PS Y (.Return (some v) pos) (tS G (ecN P k) (.ret e)) := by
  refine PS.imp (ps_ret A.pe) fun D σ H q => ?_
  obtain ⟨ω, M, env, he, hh, post⟩ := q
  rw [exec] at post
  refine eE_of he hh (fun z => by rw [z] at post; exact post) fun d M1 z ω1 H1 w le he1 hh1 r => ?_
  rw [z] at post
  exact post ω1 H1 w le hh1 r
theorem ss_retN {pos : Pos} : PS Y (.Return none pos) (tS G (ecN P k) (.ret (.cst .non))) := by
  refine PS.imp ps_retN fun D σ H q => ?_
  obtain ⟨ω, M, env, he, hh, post⟩ := q
  rw [exec, ev] at post
  exact post ω H .non (Le.refl _) hh (by rw [Rel])
theorem ss_iff {et : Expr} {ea eb : List Stmt} {t : X} {a b : List S} {pos : Pos} (T : Snd G (ecN P k) Y et t) (A : PSs Y ea (tSs G (ecN P k) a)) (B : PSs Y eb (tSs G (ecN P k) b)) : PS Y (.If et ea eb pos) (tS G (ecN P k) (.iff t a b)) := by
  refine PS.imp (ps_if T.pt A B) fun D σ H q => ?_
  obtain ⟨ω, M, env, he, hh, post⟩ := q
  rw [exec] at post
  refine eB_of he hh (fun z => ?_) fun u M1 z ω1 H1 le he1 hh1 => ?_
  · split at post
    · rename_i e; exact z _ _ e
    · rename_i e; exact z _ _ e
    · exact post
  · rw [z] at post
    cases u with
    | true =>
      dsimp only at post
      rw [if_pos rfl]
      exact ⟨ω1, M1, env, he1, hh1, PostS.mono post le⟩
    | false =>
      dsimp only at post
      rw [if_neg Bool.false_ne_true]
      exact ⟨ω1, M1, env, he1, hh1, PostS.mono post le⟩
theorem sss_nil : PSs Y [] (tSs G (ecN P k) []) := PSs.imp pss_nil fun D σ H q => by
  obtain ⟨ω, M, env, he, hh, post⟩ := q
  rw [execs] at post
  exact post ω σ H (Le.refl _) he hh
theorem sss_cons {st : Stmt} {rest : List Stmt} {s : S} {r : List S} (A : PS Y st (tS G (ecN P k) s)) (B : PSs Y rest (tSs G (ecN P k) r)) : PSs Y (st :: rest) (tSs G (ecN P k) (s :: r)) := PSs.imp (pss_cons A B) fun D σ H q => by
  obtain ⟨ω, M, env, he, hh, post⟩ := q
  rw [execs] at post
  refine ⟨ω, M, env, he, hh, ?_⟩
  cases e : exec (ecN P k) s env M with
  | nx env1 M1 =>
    rw [e] at post
    exact fun ω' σ' H' le he' hh' => ⟨ω', M1, env1, he', hh', PostS.mono post le⟩
  | rt d M1 => rw [e] at post; exact post
  | bk env1 M1 => rw [e] at post; exact post
  | ct env1 M1 => rw [e] at post; exact post
  | er => rw [e] at post; exact post
theorem ss_for (O : Ok G P ft k c Y) {tg it : Expr} {body : List Stmt} {p : Pt} {kk : Ik} {its : List X} {b : List S} {pos : Pos} (hi : PI Y tg it (tI G (ecN P k) kk its)) (hg : PG Y tg (tP G p)) (B : PSs Y body (tSs G (ecN P k) b)) (hs : ∀ x, foldedSetIterable it Y.env x = pure x) :
    PS Y (.For tg it body [] pos) (tS G (ecN P k) (.for p kk its b)) := by
  have po : PassesOwn (model Y.prog Y.w) Y.A Y.env Y.xe := by rw [O.xe]; exact PassesOwn.never
  refine PS.imp (ps_for po O.calm hi hg B hs) fun D σ H q => ?_
  obtain ⟨ω, M, env, he, hh, post⟩ := q
  rw [exec] at post
  refine ⟨ω, M, env, he, hh, ?_⟩
  unfold evW
  cases e1 : evs (ecN P k) its env M with
  | er => rw [e1] at post; exact post
  | ok ds M1 =>
    rw [e1] at post
    dsimp only at post
    simp only [Rs.bind]
    cases e2 : walkOf kk ds with
    | none => rw [e2] at post; exact post
    | some items =>
      rw [e2] at post
      dsimp only at post
      intro ω1 H1 J le hh1 w
      obtain ⟨Gd, Yd, wk, hG, hY⟩ := w
      refine for_it wk (fun i σ' H' => ∃ ω' M' env', Le ω1 ω' ∧ EnvRel G ω' env' σ' ∧ HRel G ω' M' H' ∧ PostS G ω' (loop (execs (ecN P k) b) p (items.drop i) env' M') D) ⟨ω1, M1, env, Le.refl _, he.mono le, hh1, PostS.mono post le⟩ ?_ ?_ ?_
      · rintro i σ' H' _ ⟨ω', M', env', le', he', hh', _⟩
        exact hG ω' M' H' le'.le0 hh'
      · rintro i x σ' H' H2 hi ⟨ω', M', env', le', he', hh', pd⟩ y
        obtain ⟨d, ω2, hd, le2, hh2, rx⟩ := hY i x H' H2 ω' M' le'.le0 hh' y
        have dr : items.drop i = d :: items.drop (i + 1) := by
          obtain ⟨hlt, e9⟩ := List.getElem?_eq_some_iff.mp hd
          rw [List.drop_eq_getElem_cons hlt, e9]
        rw [dr, loop] at pd
        cases es : setP p d env' with
        | none => rw [es] at pd; exact False.elim pd
        | some env1 =>
          rw [es] at pd
          dsimp only at pd
          refine ⟨ω2, M', d, env', env1, he'.mono le2, hh2, rx, es, fun σ2 he3 _ => ?_⟩
          have pd := PostS.mono pd le2
          refine ⟨ω2, M', env1, he3, hh2, ?_⟩
          have le12 := le'.trans le2
          cases e3 : execs (ecN P k) b env1 M' with
          | nx env3 M3 =>
            rw [e3] at pd
            exact fun ω3 σ3 H3 le3 he3 hh3 => ⟨ω3, M3, env3, le12.trans le3, he3, hh3, PostS.mono pd le3⟩
          | ct env3 M3 =>
            rw [e3] at pd
            exact fun ω3 σ3 H3 le3 he3 hh3 => ⟨ω3, M3, env3, le12.trans le3, he3, hh3, PostS.mono pd le3⟩
          | bk env3 M3 => rw [e3] at pd; exact pd
          | rt d3 M3 => rw [e3] at pd; exact pd
          | er => rw [e3] at pd; exact pd
      · rintro σ' H' ⟨ω', M', env', le', he', hh', pd⟩
        rw [List.drop_length, loop] at pd
        exact pd ω' σ' H' (Le.refl _) he' hh'
theorem ss_whl (O : Ok G P ft k c Y) {et : Expr} {body : List Stmt} {t : X} {b : List S} {pos : Pos} (T : Snd G (ecN P k) Y et t) (B : PSs Y body (tSs G (ecN P k) b)) : PS Y (.While et body [] pos) (tS G (ecN P k) (.whl t b)) := by
  have po : PassesOwn (model Y.prog Y.w) Y.A Y.env Y.xe := by rw [O.xe]; exact PassesOwn.never
  refine PS.imp (ps_while po T.pt B) fun D σ H q => ?_
  obtain ⟨ω, M, env, he, hh, post⟩ := q
  rw [exec] at post
  refine ⟨fun m σ' H' => ∃ ω' M' env', EnvRel G ω' env' σ' ∧ HRel G ω' M' H' ∧ PostS G ω' (whl (ev (ecN P k) t) (execs (ecN P k) b) m env' M') D, ⟨_, ω, M, env, he, hh, post⟩, ?_⟩
  rintro m σ' H' ⟨ω', M', env', he', hh', pd⟩
  cases m with
  | zero => exact False.elim pd
  | succ m =>
    rw [whl] at pd
    refine eB_of he' hh' (fun z => ?_) fun u M1 z ω1 H1 le he1 hh1 => ?_
    · split at pd
      · rename_i e; exact z _ _ e
      · rename_i e; exact z _ _ e
      · exact pd
    · rw [z] at pd
      cases u with
      | false =>
        dsimp only at pd
        rw [if_neg Bool.false_ne_true]
        exact pd ω1 σ' H1 le he1 hh1
      | true =>
        dsimp only at pd
        rw [if_pos rfl]
        have pd := PostS.mono pd le
        refine ⟨fun σ2 H2 => ∃ ω' M' env', EnvRel G ω' env' σ2 ∧ HRel G ω' M' H2 ∧ PostS G ω' (whl (ev (ecN P k) t) (execs (ecN P k) b) m env' M') D, fun σ2 H2 n => ⟨m, Nat.lt_succ_self m, n⟩, ω1, M1, env', he1, hh1, ?_⟩
        cases e3 : execs (ecN P k) b env' M1 with
        | nx env3 M3 =>
          rw [e3] at pd
          exact fun ω3 σ3 H3 le3 he3 hh3 => ⟨ω3, M3, env3, he3, hh3, PostS.mono pd le3⟩
        | ct env3 M3 =>
          rw [e3] at pd
          exact fun ω3 σ3 H3 le3 he3 hh3 => ⟨ω3, M3, env3, he3, hh3, PostS.mono pd le3⟩
        | bk env3 M3 => rw [e3] at pd; exact pd
        | rt d3 M3 => rw [e3] at pd; exact pd
        | er => rw [e3] at pd; exact pd
theorem ss_asl (O : Ok G P ft k c Y) {x : Str} {ee : Expr} {gs : List Comprehension} {scope : Scope} {e : X} {i : Nat} {pos px lp : Pos} (A : PS Y (.Assign [.Name x px] (.ListComp ee gs scope lp) pos) (tAsg (tE G (ecN P k) e) (gName i))) : PS Y (.Assign [.Name x px] (.ListComp ee gs scope lp) pos) (tS G (ecN P k) (.asl i e)) := by
  refine PS.imp A fun D σ H q => ?_
  obtain ⟨ω, M, env, he, hh, post⟩ := q
  rw [exec] at post
  refine eE_of he hh (fun z => by rw [z] at post; exact post) fun d M1 z ω1 H1 w le he1 hh1 r => ?_
  rw [z] at post
  dsimp only at post
  split at post
  · rename_i hl
    exact post ω1 _ H1 le (he1.set r hl) hh1
  · exact False.elim post
/-- a comprehension's parts, for an assignment -/
theorem lc_parts (O : Ok G P ft k c Y) {hp : Bool} {p : Pt} {x : X} {kk : Ik} {its ifs : List X} {ee : Expr} {gs : List Comprehension} {scope : Scope} {pos : Pos} (h : okE (.lc hp p x kk its ifs) c (.ListComp ee gs scope pos) = true) :
    ∃ tg eit eifs, gs = [⟨tg, eit, eifs, 0⟩] ∧ PI Y tg eit (tI G (ecN P k) kk its) ∧ blkC c.N c.sc scope (ownOf c (pslots p)) = true ∧ (ownOf c (pslots p)).map (·.2) = pslots p ∧
      (∀ (s : Shared) (H : Hp) (C : Addr) (cl : List (Str × Addr)) (fp : List Addr), PG (Y.blk s H scope (compEnvC scope cl C Y.env) fp) tg (tP G p)) ∧
      (∀ (s : Shared) (H : Hp) (C : Addr) (cl : List (Str × Addr)) (fp : List Addr), PTs (Y.blk s H scope (compEnvC scope cl C Y.env) fp) eifs (tTs G (ecN P k) ifs)) ∧
      (∀ (s : Shared) (H : Hp) (C : Addr) (cl : List (Str × Addr)) (fp : List Addr), PE (Y.blk s H scope (compEnvC scope cl C Y.env) fp) ee (tE G (ecN P k) x)) ∧ (∀ v, foldedSetIterable eit Y.env v = pure v) := by
  match gs, h with
  | [⟨tg, eit, eifs, 0⟩], h =>
    rw [okE] at h
    simp only [Bool.and_eq_true] at h
    obtain ⟨h1, h2, h3, ⟨⟨h4, h5⟩, h6⟩, h7⟩ := h
    cases ha : itArgs c kk tg eit with
    | none => rw [ha] at h1; cases h1
    | some as =>
      rw [ha] at h1
      have h1 : okEs its c as = true := h1
      have B : ∀ y, kk = .val → its = [y] → okE y c eit = true := fun y z1 z2 => by
        subst z1 z2
        cases ha
        rw [okEs, Bool.and_eq_true] at h1
        exact h1.1
      have hf : ∀ v, foldedSetIterable eit Y.env v = pure v := fun v => by
        cases kk with
        | val =>
          obtain ⟨y, rfl⟩ := len1 (show its.length = 1 by rw [okEs_len h1]; cases ha; rfl)
          exact ok_fold (B y rfl rfl) Y.env v
        | _ =>
          cases eit with
          | Set _ _ _ => cases tg <;> cases ha
          | _ => rfl
      have pi := pi_ok O ha h1 (sndEs its c as Y O h1) fun y z1 z2 => by
        have q := B y z1 z2
        exact (sndE y c eit Y O q).pe
      exact ⟨tg, eit, eifs, rfl, pi, h2, of_decide_eq_true h7, fun s H C cl fp => pg_ok O.blk h3, fun s H C cl fp => tTs_of (of_decide_eq_true h6) (okEs_len h5) fun y e z1 z2 => by
        subst z1 z2
        rw [okEs, Bool.and_eq_true] at h5
        exact (sndE y _ e _ O.blk h5.1).pt, fun s H C cl fp => (sndE x _ ee _ O.blk h4).pe, hf⟩
  | [], h => cases h
  | [⟨_, _, _, .ofNat (_ + 1)⟩], h => cases h
  | [⟨_, _, _, .negSucc _⟩], h => cases h
  | ⟨_, _, _, i⟩ :: _ :: _, h =>
    cases i with
    | ofNat n => cases n <;> cases h
    | negSucc _ => cases h
theorem ps_lcset (O : Ok G P ft k c Y) {x : Str} {ee : Expr} {gs : List Comprehension} {scope : Scope} {e : X} {i : Nat} {pos px lp : Pos} (hi : c.N[i]? = some x) (hx : c.sc.names.lookup x = some .local) (h : okE e c (.ListComp ee gs scope lp) = true) (hl : (px.line == lp.line) = true)
    (ha : (scope.names.any fun (n, k) => n == x && (k == .local || k == .cell)) = false) (hk : Y.env.scope.kind = .function) : PS Y (.Assign [.Name x px] (.ListComp ee gs scope lp) pos) (tAsg (tE G (ecN P k) e) (gName i)) := by
  have nd : Y.N.Nodup := by rw [O.hN]; exact O.nd
  cases e with
  | lc hp p y kk its ifs =>
    obtain ⟨tg, eit, eifs, rfl, pi, h2, h3, hg, ht, he, hf⟩ := lc_parts O h
    have ok : BlkOk Y.N Y.env.scope scope (ownOf c (pslots p)) := by
      rw [O.hN, O.hsc]
      exact blkOk_by h2
    have key := (s_lc (h := hp) (pos := lp) O pi h2 h3 hg ht he hf).2
    have hyl : Y.env.scope.names.lookup x = some .local := by rw [O.hsc]; exact hx
    exact PS.imp (ps_setLc (i := i) O.calm nd (by rw [O.hN]; exact hi) hyl (sw_true hk hyl hl ha) pi ok hg ht he hf) fun D σ H q => key σ H _ q
  | isis a ks => cases ks <;> cases h
  | _ => cases h
mutual
theorem sndS : ∀ (s : S) (c : Ck) (st : Stmt) (Y : L2.Cx), Ok G P ft k c Y → Y.env.scope.kind = .function → okS s c st = true → PS Y st (tS G (ecN P k) s)
  | .ex e, c, st, Y, O, hk, h => by
    cases st with
    | Expr v p =>
      rw [okS, Bool.and_eq_true] at h
      exact ss_ex (sndE e c v Y O h.1) h.2
    | _ => cases h
  | .asg i e, c, st, Y, O, hk, h => by
    cases st with
    | Assign ts v p =>
      match ts, h with
      | [t], h =>
        cases t with
        | Name x px =>
          rw [okS, Bool.and_eq_true, Bool.and_eq_true] at h
          exact ss_asg O (sndE e c v Y O h.2.1) h.1 h.2.2
        | _ => cases h
      | [], h => cases h
      | t :: _ :: _, h => cases t <;> cases h
    | _ => cases h
  | .asl i e, c, st, Y, O, hk, h => by
    cases st with
    | Assign ts v p =>
      match ts, h with
      | [t], h =>
        cases t with
        | Name x px =>
          cases v with
          | ListComp ee gs scope pos =>
            rw [okS] at h
            simp only [Bool.and_eq_true, beq_iff_eq] at h
            obtain ⟨⟨h1, h2⟩, h3, h4, h5⟩ := h
            exact ss_asl O (ps_lcset O (of_decide_eq_true h1) (of_decide_eq_true h2) h3 (by rw [h4]; exact beq_self_eq_true _) h5 hk)
          | _ => cases h
        | _ => cases h
      | [], h => cases h
      | t :: _ :: _, h => cases t <;> cases h
    | _ => cases h
  | .put o i e, c, st, Y, O, hk, h => by
    cases st with
    | Assign ts v p =>
      match ts, h with
      | [t], h =>
        cases t with
        | Subscript eo ei px =>
          rw [okS] at h
          simp only [Bool.and_eq_true] at h
          obtain ⟨h1, h2, h3, h4⟩ := h
          exact ss_put O (sndE e c v Y O h1) (sndE o c eo Y O h2) (sndE i c ei Y O h3) h4 fun a b d p z => by
            subst z
            rw [okE_slice] at h3
            cases h3
        | _ => cases h
      | [], h => cases h
      | t :: _ :: _, h => cases t <;> cases h
    | _ => cases h
  | .ret e, c, st, Y, O, hk, h => by
    cases st with
    | Return v p =>
      cases v with
      | some v =>
        have h : okE e c v = true := by
          cases e with
          | cst d => cases d <;> exact h
          | _ => exact h
        exact ss_ret (sndE e c v Y O h)
      | none =>
        cases e with
        | cst d =>
          cases d with
          | non => exact ss_retN
          | _ => cases h
        | _ => cases h
    | _ => cases e with
      | cst d => cases d <;> cases h
      | _ => cases h
  | .iff t a b, c, st, Y, O, hk, h => by
    cases st with
    | If et ea eb p =>
      rw [okS, Bool.and_eq_true, Bool.and_eq_true] at h
      exact ss_iff (sndE t c et Y O h.1) (sndSs a c ea Y O hk h.2.1) (sndSs b c eb Y O hk h.2.2)
    | _ => cases h
  | .for p kk its b, c, st, Y, O, hk, h => by
    cases st with
    | For tg it body els pos =>
      cases els with
      | nil =>
        rw [okS] at h
        simp only [Bool.and_eq_true] at h
        obtain ⟨h1, h2, h3⟩ := h
        cases ha : itArgs c kk tg it with
        | none => rw [ha] at h1; cases h1
        | some as =>
          rw [ha] at h1
          have h1 : okEs its c as = true := h1
          have B : ∀ y, kk = .val → its = [y] → okE y c it = true := fun y z1 z2 => by
            subst z1 z2
            cases ha
            rw [okEs, Bool.and_eq_true] at h1
            exact h1.1
          have hf : ∀ v, foldedSetIterable it Y.env v = pure v := fun v => by
            cases kk with
            | val =>
              obtain ⟨y, rfl⟩ := len1 (show its.length = 1 by rw [okEs_len h1]; cases ha; rfl)
              exact ok_fold (B y rfl rfl) Y.env v
            | _ =>
              cases it with
              | Set _ _ _ => cases tg <;> cases ha
              | _ => rfl
          have pi := pi_ok O ha h1 (sndEs its c as Y O h1) fun y z1 z2 => (sndE y c it Y O (B y z1 z2)).pe
          exact ss_for O pi (pg_ok O h2) (sndSs b c body Y O hk h3) hf
      | cons _ _ => cases h
    | _ => cases h
  | .whl t b, c, st, Y, O, hk, h => by
    cases st with
    | While et body els p =>
      cases els with
      | nil =>
        rw [okS, Bool.and_eq_true] at h
        exact ss_whl O (sndE t c et Y O h.1) (sndSs b c body Y O hk h.2)
      | cons _ _ => cases h
    | _ => cases h
  | .never, c, st, Y, O, hk, h => PS.imp ps_never fun D σ H q => by
    obtain ⟨ω, M, env, he, hh, post⟩ := q
    rw [exec] at post
    exact post
theorem sndSs : ∀ (ss : List S) (c : Ck) (sts : List Stmt) (Y : L2.Cx), Ok G P ft k c Y → Y.env.scope.kind = .function → okSs ss c sts = true → PSs Y sts (tSs G (ecN P k) ss)
  | [], c, sts, Y, O, hk, h => by
    cases sts with
    | nil => exact sss_nil
    | cons _ _ => cases h
  | s :: ss, c, sts, Y, O, hk, h => by
    cases sts with
    | nil => cases h
    | cons st sts =>
      rw [okSs, Bool.and_eq_true] at h
      exact sss_cons (sndS s c st Y O hk h.1) (sndSs ss c sts Y O hk h.2)
end
end
end Ev


set_option autoImplicit false
set_option Elab.async false
set_option linter.all false
set_option maxRecDepth 100000
set_option maxHeartbeats 4000000
/-! EvN: defs, the law's end. -/
namespace Ev
open PySem PySem.Spec PyProof.Rows L2 RZ
/-- a def of the text -/
structure Fs where
  name : Str
  qual : Str
  st : Stmt
  N : List Str
  ps : List Str
def scB (N ps : List Str) (sc : Scope) : Bool := decide (sc.kind = .function) && (sc.isCoroutine == false && (sc.isGenerator == false && (decide N.Nodup && (decide (N.take ps.length = ps) &&
  ((ps.all fun x => match sc.names.lookup x with
    | some .local => true
    | some .cell => true
    | _ => false) && sc.names.all fun y => decide (y.2 ≠ .free))))))
theorem scB_ok {N ps : List Str} {sc : Scope} (h : scB N ps sc = true) : FnScope N ps sc := by
  unfold scB at h
  simp only [Bool.and_eq_true, decide_eq_true_eq, beq_iff_eq, List.all_eq_true] at h
  obtain ⟨h1, h2, h3, h4, h5, h6, h7⟩ := h
  refine ⟨h1, h2, h3, h4, h5, fun x hx => ?_, fun y hy => h7 y hy⟩
  have q := h6 x hx
  split at q
  · exact .inl (by assumption)
  · exact .inr (by assumption)
  · cases q
def ckOf (s : Fs) (fn : List Str) (xn : List (Str × Option Str)) : Ck := ⟨s.N, defScope s.st, fun _ => true, fn, xn⟩
def okF (fn : List Str) (xn : List (Str × Option Str)) (s : Fs) (fd : FD) : Bool := scB s.N s.ps (defScope s.st) && (decide (fd.np = s.ps.length) && (decide (fd.ns = s.N.length) && okSs fd.body (ckOf s fn xn) (defBody s.st)))
def okFs (fn : List Str) (xn : List (Str × Option Str)) : List Fs → List FD → Bool
  | [], [] => true
  | s :: ss, f :: fs => okF fn xn s f && okFs fn xn ss fs
  | _, _ => false
theorem okFs_at {fn : List Str} {xn : List (Str × Option Str)} : ∀ {ss : List Fs} {fs : List FD} {i : Nat} {s : Fs}, okFs fn xn ss fs = true → ss[i]? = some s → ∃ f, fs[i]? = some f ∧ okF fn xn s f = true
  | [], [], i, s, _, e => by simp at e
  | [], _ :: _, _, _, h, _ => by cases h
  | _ :: _, [], _, _, h, _ => by cases h
  | s :: ss, f :: fs, i, s', h, e => by
    rw [okFs, Bool.and_eq_true] at h
    cases i with
    | zero =>
      simp at e
      subst e
      exact ⟨f, rfl, h.1⟩
    | succ i =>
      obtain ⟨g, h1, h2⟩ := okFs_at h.2 (show ss[i]? = some s' by simpa using e)
      exact ⟨g, by simpa using h1, h2⟩
/-- what the top has left of a def -/
structure Fct (K : PySem.W.Frag) (mg : Str → Option Value) (s : Fs) (t : Ft) : Prop where
  fun_ : FunD K s.name s.qual (defArgs s.st) (defBody s.st) (defScope s.st) [] [] t.adr t.fd
  name : t.name = s.name
  ps : t.ps = s.ps
  glo : mg s.name = some (.ref t.adr)
  bd : Binds K t.fd s.ps []
/-- what the top has left of the exception classes -/
structure XFacts (G : Gs) (P : Pg) (mg : Str → Option Value) (xn : List (Str × Option Str)) : Prop where
  xcs : ∀ (i : Nat) x f, xn[i]? = some (x, f) → mg x = some (.ref (G.CA i)) ∧ PySem.W.keepIn G.K (.ref (G.CA i)) = true ∧ ∀ code f', P.exn[i]? = some (some (code, f')) → f = f'.map sS ∧ Nonempty (XCl G.K (G.CA i) (sS code) (f'.map sS)) ∧ XIs G.K (G.CA i) (xks f')
  sub : ∀ (i : Nat) q b, P.sub i q = some b → ∃ cv, clV G q = some cv ∧ PySem.W.kitOne G.K (.ref (G.CA i)) cv = some b
section
variable {prog : Program} {w : World} {mg : Str → Option Value} {base : Heap} {G : Gs} {P : Pg} {ft : List Ft} {ss : List Fs}
theorem env_start {ω : Wd} {N : List Str} {ds : List D} {vs : List V} {n : Nat} (r : Rels G ω ds vs) (hn : n = N.length) (hl : ds.length ≤ n) : EnvRel G ω (ds.map some ++ List.replicate (n - ds.length) none) (L2.start N vs) := by
  subst hn
  unfold L2.start
  refine ⟨by simp [r.length], fun i d e => ?_⟩
  by_cases hi : i < ds.length
  · rw [List.getElem?_append_left (by simpa using hi), List.getElem?_map] at e
    cases q : ds[i]? with
    | none => rw [q] at e; cases e
    | some d' =>
      rw [q] at e
      have : d' = d := by simpa using e
      subst this
      obtain ⟨v, e1, e2⟩ := r.get q
      refine ⟨v, ?_, e2⟩
      rw [List.getElem?_append_left (by rw [List.length_map, r.length]; exact hi), List.getElem?_map, e1]
      rfl
  · rw [List.getElem?_append_right (by simpa using hi), List.getElem?_replicate] at e
    split at e <;> cases e
theorem all_ok {xn : List (Str × Option Str)} (hfr : ∀ x ∈ frees, mg x = none) (hf : ∀ (i : Nat) t, ft[i]? = some t → ∃ s, ss[i]? = some s ∧ Fct G.K mg s t) (hok : okFs (ft.map Ft.name) xn ss P.fns = true) (hxc : XFacts G P mg xn) :
    ∀ (k f : Nat) t, ft[f]? = some t → FnOk prog w G.K mg base CX0 (k + 8) t.adr t.fd t.ps (spC G P k f)
  | 0, f, t, e => by
    refine ⟨fun vs H Q E h => ?_, fun A outer s H args us vs Q E hr he hb hv h => ?_⟩
    · obtain ⟨ω, M, ds, _, _, post⟩ := h
      exact False.elim post
    · obtain ⟨ω, M, ds, _, _, post⟩ := h
      exact False.elim post
  | k + 1, f, t, e => by
    obtain ⟨s, es, F⟩ := hf f t e
    obtain ⟨fd, ef, okf⟩ := okFs_at hok es
    unfold okF at okf
    simp only [Bool.and_eq_true] at okf
    obtain ⟨h1, h2, h3, h4⟩ := okf
    have h2 := of_decide_eq_true h2
    have h3 := of_decide_eq_true h3
    have sc := scB_ok h1
    have hlen : ∀ vs H Q E, spC G P (k + 1) f vs H Q E → vs.length = t.ps.length := fun vs H Q E h => by
      obtain ⟨ω, M, ds, _, r, post⟩ := h
      rw [callN, ef] at post
      dsimp only at post
      split at post
      · rename_i hd
        rw [r.length, hd, h2, F.ps]
      · exact False.elim post
    rw [F.ps] at hlen ⊢
    refine F.fun_.ok (k := k + 8) sc hlen fun cdv A outer s1 H vs Q E hr h => ?_
    have O : Ok G P ft k (ckOf s (ft.map Ft.name) xn) (cxOf CX0 prog w G.K mg base s.N s.qual (defScope s.st) t.adr cdv A outer s1 H E).nox :=
      ⟨rfl, rfl, rfl, sc.nd, rfl, hr, rfl, fun _ _ => rfl, rfl, fun g u eu => by
        obtain ⟨s', _, F'⟩ := hf g u eu
        refine ⟨by rw [F'.name]; exact F'.glo, F'.fun_.kp, by rw [F'.ps]; exact F'.bd, all_ok hfr hf hok hxc k g u eu⟩, hfr, hxc.xcs, hxc.sub⟩
    refine ⟨_, PSs.nox (sndSs fd.body _ _ _ O sc.kind h4), ?_⟩
    obtain ⟨ω, M, ds, hh, r, post⟩ := h
    rw [callN, ef] at post
    dsimp only at post
    split at post
    · rename_i hd
      refine ⟨ω, M, _, env_start (n := fd.ns) r h3 ?_, hh, ?_⟩
      · rw [hd, h2, h3]
        have := congrArg List.length sc.pre
        rw [List.length_take] at this
        omega
      · rw [hd]
        have e9 : (⟨callN P k, P.glo, P.exn, P.sub, P.fuel⟩ : Ec) = ecN P k := rfl
        rw [e9] at post
        cases e8 : execs (ecN P k) fd.body (ds.map some ++ List.replicate (fd.ns - fd.np) none) M with
        | nx env' M' =>
          rw [e8] at post
          exact fun ω' σ' H' le he' hh' => post ω' H' .non le hh' (by rw [Rel])
        | rt d M' => rw [e8] at post; exact post
        | bk _ _ => rw [e8] at post; exact False.elim post
        | ct _ _ => rw [e8] at post; exact False.elim post
        | er => rw [e8] at post; exact False.elim post
    · exact False.elim post
/-- the script -/
theorem rels_ints {ω : Wd} : ∀ ns : List Int, Rels G ω (ns.map D.int) (ns.map V.int)
  | [] => Rels.nil
  | n :: ns => Rels.cons (by rw [Rel]) (rels_ints ns)
theorem law_sp {k f : Nat} {H : Hp} {a : Addr} {ns : List Int} {E : XK} (hS : SqL G.K H a (ns.map V.int)) (h : ∃ M, callN P k f [.fro (ns.map D.int)] [] = .ok (.bl true) M) : spC G P k f [.ref a] H (fun v _ => v = .bl true) E := by
  obtain ⟨M, h⟩ := h
  refine ⟨⟨[], H, fun _ => none⟩, [], [.fro (ns.map D.int)], ⟨fun _ _ z => z, (fun p o z => nomatch z), rfl, (fun a o z => by simp at z), List.nodup_nil, (fun p z => nomatch z), fun _ _ _ => rfl, fun _ z => nomatch z⟩, Rels.one ?_, ?_⟩
  · rw [Rel]
    exact ⟨a, _, rfl, hS, rels_ints ns⟩
  · rw [h]
    intro ω' H' v _ _ r
    rw [Rel] at r
    exact r
end
end Ev


set_option autoImplicit false
set_option Elab.async false
set_option linter.all false
set_option maxRecDepth 100000
set_option maxHeartbeats 4000000
/-! EvT: what the head must tell, as Bools. -/
namespace Ev
open PySem PySem.Spec PyProof.Rows L2 PySem.EvXK
abbrev Fq := PySem.W.Frag
def ownRow (C : Addr) (n : String) (tl : List Value) : Obj → Bool
  | ⟨.type c, _, .cls cd, sl⟩ => decide (c = "type") && (match cd.mro, sl.toList with
    | .ref C' :: bm, [_, _, _, _, some (.builtin m), _] => decide (C' = C) && (decide (m = n) && (cd.hasDel == false && (cd.hasDict == true && ownM tl bm)))
    | _, _ => false)
  | _ => false
def xcB (K : Fq) (C : Addr) (n : String) (tl : List Value) : Bool := (match K.lookup C with
  | some o => ownRow C n tl o
  | none => false) && (decide (PySem.W.findIn K (.ref C) "__setattr__" = some (some (.builtin "object.__setattr__"))) && PySem.W.keepIn K (.ref C))
theorem xcB_ok {K : Fq} {C : Addr} {n : String} {tl : List Value} (h : xcB K C n tl = true) : XC K C n tl := by
  unfold xcB at h
  simp only [Bool.and_eq_true, decide_eq_true_eq] at h
  obtain ⟨h1, h2, h3⟩ := h
  refine ⟨?_, h2, h3⟩
  cases e : K.lookup C with
  | none => rw [e] at h1; cases h1
  | some o =>
    rw [e] at h1
    obtain ⟨oc, od, dt, osl⟩ := o
    cases oc with
    | type c =>
      cases dt with
      | cls cd =>
        have h1 : (decide (c = "type") && (match cd.mro, osl.toList with
          | .ref C' :: bm, [_, _, _, _, some (.builtin m), _] => decide (C' = C) && (decide (m = n) && (cd.hasDel == false && (cd.hasDict == true && ownM tl bm)))
          | _, _ => false)) = true := h1
        rw [Bool.and_eq_true] at h1
        obtain ⟨a1, a2⟩ := h1
        have a1 : c = "type" := of_decide_eq_true a1
        subst a1
        split at a2
        · rename_i C' bm k0 k1 k2 k3 m k5 e1 e2
          simp only [Bool.and_eq_true, decide_eq_true_eq, beq_iff_eq] at a2
          obtain ⟨b1, b2, b3, b4, b5⟩ := a2
          subst b1 b2
          obtain ⟨nm, bs, mro, ns, qn, hd, sn, sb, ab, col, del⟩ := cd
          dsimp only at e1 b3 b4
          subst e1 b3 b4
          obtain ⟨sl⟩ := osl
          have e2 : sl = [k0, k1, k2, k3, some (.builtin m), k5] := e2
          subst e2
          exact ⟨nm, qn, ns, bs, bm, sn, sb, ab, col, od, k0, k1, k2, k3, k5, rfl, ownM_ok b5⟩
        · cases a2
      | _ => cases h1
    | _ => cases h1
def tlOf : Nat → String × List Value
  | 0 => ("ValueError.__new__", [.type "ValueError", .type "Exception", .type "BaseException", .type "object"])
  | 1 => ("LookupError.__new__", [.type "LookupError", .type "Exception", .type "BaseException", .type "object"])
  | _ => ("IndexError.__new__", [.type "IndexError", .type "LookupError", .type "Exception", .type "BaseException", .type "object"])
theorem tlOf_ok : ∀ b : Nat, XB (tlOf b).1 (tlOf b).2
  | 0 => xb_VE
  | 1 => xb_LE
  | _ + 2 => xb_IE
def xisB (K : Fq) (C : Addr) (ks : List Tx) : Bool := (PySem.W.clsIn K C).isSome && (decide (PySem.W.findIn K (.ref C) "__getattribute__" = some (some (.builtin "BaseException.__getattribute__"))) && (decide (PySem.W.findIn K (.ref C) "__getattr__" = some none) &&
  (decide (PySem.W.subIn K (.ref C) (.type "BaseException") = some true) && (PySem.W.hasDictIn K C && (decide (PySem.W.findIn K (.ref C) "__class__" = some (some (.builtin "object.__class__"))) &&
  (decide (PySem.W.specialIn K (.builtin "object.__class__") "__get__" = some (some (.builtin "getset_descriptor.__get__"))) && (decide (PySem.W.takesIn K (.builtin "object.__class__") = some true) && (decide (PySem.W.mroIn K C (.type "object") = some true) &&
  ks.all fun k => decide (PySem.W.findIn K (.ref C) (sS k) = some none)))))))))
theorem xisB_ok {K : Fq} {C : Addr} {ks : List Tx} (h : xisB K C ks = true) : XIs K C ks := by
  unfold xisB at h
  simp only [Bool.and_eq_true, decide_eq_true_eq, List.all_eq_true] at h
  obtain ⟨h1, h2, h3, h4, h5, h6, h7, h8, h9, h10⟩ := h
  exact ⟨h1, h2, h3, h4, h5, h6, h7, h8, h9, h10⟩
/-- an exception class of the text: its name, its built-in base, its __init__, its code and field -/
structure Xs where
  name : Str
  base : Nat
  st : Stmt
  qual : Str
  code : Tx
  fld : Option Tx
def visB (sc : Scope) (x : Str) : Bool := match sc.names.lookup x with
  | some .local => true
  | some .cell => true
  | some .free => true
  | _ => false
theorem visB_ok {sc : Scope} {x : Str} (h : visB sc x = true) : Vis sc x := by
  unfold visB at h
  unfold Vis
  split at h
  · exact .inl (by assumption)
  · exact .inr (.inl (by assumption))
  · exact .inr (.inr (by assumption))
  · cases h
/-- what the text itself must say of it -/
def xsB (x : Xs) : Bool := scB (psI (x.fld.map sS)) (psI (x.fld.map sS)) (defScope x.st) && ((psI (x.fld.map sS)).all (visB (defScope x.st)) && (okI (sS x.code) (x.fld.map sS) (defBody x.st) && (okA (x.fld.map sS) (defArgs x.st) &&
  (match x.fld with
    | none => true
    | some g => (sS g == ("__debug__" : Str)) == false && ((sS g == ("__classdict__" : Str)) == false && !decide (sS g = ("self" : Str)))))))
def xhB (K : Fq) (x : Xs) : Bool := xcB K (He.ga K x.name) (tlOf x.base).1 (tlOf x.base).2 && (decide (PySem.W.findIn K (.ref (He.ga K x.name)) "__init__" = some (some (.ref (He.ma K (He.ga K x.name) "__init__")))) &&
  (decide (PySem.W.typeIn K (.ref (He.ma K (He.ga K x.name) "__init__")) = some (.type "function")) && (decide (PySem.W.findIn K (.ref (He.ga K x.name)) "code" = some none) && ((match x.fld with
    | none => true
    | some g => decide (PySem.W.findIn K (.ref (He.ga K x.name)) (sS g) = some none)) && xisB K (He.ga K x.name) (xks x.fld)))))
def xDef (x : Xs) : He.DefD := ⟨(x.name, some "__init__"), "__init__", x.qual, defArgs x.st, defBody x.st, defScope x.st, [], []⟩
theorem xcl_of {K : Fq} {x : Xs} (h1 : xsB x = true) (h2 : xhB K x = true) {fd : FuncData} (F : FunD K "__init__" x.qual (defArgs x.st) (defBody x.st) (defScope x.st) [] [] (He.fAd K (xDef x).at_) fd) :
    Nonempty (XCl K (He.ga K x.name) (sS x.code) (x.fld.map sS)) ∧ XIs K (He.ga K x.name) (xks x.fld) := by
  unfold xsB at h1
  unfold xhB at h2
  simp only [Bool.and_eq_true, List.all_eq_true] at h1 h2
  obtain ⟨a1, a2, a3, a4, a5⟩ := h1
  obtain ⟨b1, b2, b3, b4, b5, b6⟩ := h2
  refine ⟨⟨?_⟩, xisB_ok b6⟩
  exact {
    n := (tlOf x.base).1, tl := (tlOf x.base).2, B := tlOf_ok x.base, T := xcB_ok b1
    fI := He.ma K (He.ga K x.name) "__init__", fd := fd, st := x.st, q := x.qual
    ini := of_decide_eq_true b2, tI := of_decide_eq_true b3, noc := of_decide_eq_true b4
    nof := fun g e => by
      cases hx : x.fld with
      | none => rw [hx] at e; cases e
      | some g' =>
        rw [hx] at e b5
        cases e
        exact of_decide_eq_true b5
    fn := F, sc := scB_ok a1, loc := fun y hy => visB_ok (a2 y hy), bd := a3, as := a4
    nd := fun g e => by
      cases hx : x.fld with
      | none => rw [hx] at e; cases e
      | some g' =>
        rw [hx] at e a5
        cases e
        simp only [Bool.and_eq_true, beq_iff_eq, Bool.not_eq_true', decide_eq_false_iff_not] at a5
        exact ⟨a5.1, a5.2.1, a5.2.2⟩ }
/-! ### the hook -/
def obsX (ck : Fq → Bool) (fn : List He.DefD) (K : Fq) : He.AlD := (ck K && fn.all fun d => d.ok K, fn.map fun d => He.fnW K d.at_)
def SaysX (ck : Fq → Bool) (fn : List He.DefD) (K : Fq) : Prop := obsX ck fn K = He.valD fn
def obsXG (n : Nat) (ck : Fq → Bool) (fn : List He.DefD) (g : Addr → Option Obj) : He.AlD := obsX ck fn (He.frG g (He.asD g n))
def hookX (n : Nat) (ck : Fq → Bool) (fn : List He.DefD) : PySem.W.Hook where
  α := He.AlD
  obs := fun s => obsXG n ck fn s.heap.get?
  val := fun _ => He.valD fn
  says := fun _ h => ∃ K : Fq, K.In h ∧ SaysX ck fn K
  of := fun _ _ e => ⟨_, He.frG_in, e⟩
  keeps := fun _ _ _ ⟨K, hK, c⟩ k => ⟨K, PySem.W.Frag.In.keeps hK k, c⟩
theorem obsXG_eq {n : Nat} {ck : Fq → Bool} {fn : List He.DefD} {g : Addr → Option Obj} {s : Shared} (h : ∀ a, g a = s.heap.get? a) : obsXG n ck fn g = (hookX n ck fn).obs s := by
  have e : g = s.heap.get? := funext h
  rw [e] <;> rfl
section
variable {ck : Fq → Bool} {fn : List He.DefD} {K : Fq}
theorem SaysX.ck_ (c : SaysX ck fn K) : ck K = true := (He.ba (show (ck K && fn.all fun d => d.ok K) = true from congrArg (fun z : He.AlD => z.1) c)).1
theorem SaysX.def_ (c : SaysX ck fn K) (i : Nat) {d : He.DefD} (h : fn[i]? = some d) : ∃ fd, FunD K d.name d.qual d.params d.body d.scope (d.dvs K) (d.kws K) (He.fAd K d.at_) fd := by
  have c2 := (He.ba (show (ck K && fn.all fun d => d.ok K) = true from congrArg (fun z : He.AlD => z.1) c)).2
  have e : fn.map (fun d => He.fnW K d.at_) = fn.map He.DefD.val := congrArg (fun z : He.AlD => z.2) c
  have e2 : (fn.map fun d => He.fnW K d.at_)[i]? = (fn.map He.DefD.val)[i]? := by rw [e]
  rw [List.getElem?_map, List.getElem?_map, h] at e2
  exact He.DefD.funD (Option.some.inj e2) (List.all_eq_true.mp c2 d (List.mem_of_getElem? h))
end
/-! ### all facts of a text with defs and exception classes -/
def fDef (s : Fs) : He.DefD := ⟨(s.name, none), s.name, s.qual, defArgs s.st, defBody s.st, defScope s.st, [], []⟩
def gloB (K : Fq) (x : Str) : Bool := decide (PySem.W.nsIn K mainGlobals x = some (some (.ref (He.ga K x))))
def freeB (K : Fq) (x : Str) : Bool := decide (PySem.W.nsIn K mainGlobals x = some none)
/-- the classes of exceptions: those with an __init__ are given whole -/
def xNames (xs : List (Str × Option Xs)) : List (Str × Option Str) := xs.map fun p => (p.1, match p.2 with
  | some x => x.fld.map sS
  | none => none)
def subB (K : Fq) (xs : List (Str × Option Xs)) (anc : List (List Nat × List Nat)) : Bool := (xs.zip anc).all fun p =>
  (List.range xs.length).all (fun j => match xs[j]? with
    | some q => decide (PySem.W.kitOne K (.ref (He.ga K p.1.1)) (.ref (He.ga K q.1)) = some (p.2.1.contains j))
    | none => true) && [0, 1, 2].all fun j => match extName j with
    | some t => decide (PySem.W.kitOne K (.ref (He.ga K p.1.1)) (.type t) = some (p.2.2.contains j))
    | none => true
def ckX (ss : List Fs) (xs : List (Str × Option Xs)) (anc : List (List Nat × List Nat)) (K : Fq) : Bool := (ss.all fun s => gloB K s.name) && ((frees.all (freeB K)) && ((xs.all fun p => gloB K p.1 && (PySem.W.keepIn K (.ref (He.ga K p.1)) && (match p.2 with
  | some x => decide (x.name = p.1) && xhB K x
  | none => true))) && subB K xs anc))
def xfns (xs : List (Str × Option Xs)) : List He.DefD := xs.filterMap fun p => p.2.map xDef
end Ev
namespace Ev
open PySem PySem.Spec PyProof.Rows L2 PySem.EvXK
/-- plain parameters -/
def plainA (ps : List Str) : Arguments → Bool
  | ⟨[], as, none, [], [], none, []⟩ => decide (as.map (·.arg) = ps) && decide ps.Nodup
  | _ => false
theorem zip_look : ∀ {ns : List Str} {us : List Value}, ns.Nodup → us.length = ns.length → ∀ n ∈ ns, ((ns.zip us).lookup n).isNone = false
  | [], _, _, _, n, h => nomatch h
  | x :: ns, [], _, hl, n, h => by cases hl
  | x :: ns, u :: us, nd, hl, n, h => by
    rw [List.zip_cons_cons, List.lookup_cons]
    by_cases e : n = x
    · subst e
      simp
    · have q : (n == x) = false := beq_eq_false_iff_ne.mpr e
      rw [q]
      rcases List.mem_cons.mp h with z | z
      · exact absurd z e
      · exact zip_look (List.nodup_cons.mp nd).2 (by simpa using hl) n z
theorem fm_congr {α β : Type} {f g : α → Option β} : ∀ {l : List α}, (∀ n ∈ l, f n = g n) → l.filterMap f = l.filterMap g
  | [], _ => rfl
  | a :: l, h => by
    rw [List.filterMap_cons, List.filterMap_cons, h a List.mem_cons_self, fm_congr fun n hn => h n (List.mem_cons_of_mem _ hn)]
theorem zip_bind : ∀ {ns : List Str} {us : List Value}, ns.Nodup → us.length = ns.length → (ns.filterMap fun n => ((ns.zip us).lookup n).map fun v => (n, v)) = ns.zip us
  | [], _, _, _ => by simp
  | x :: ns, [], _, hl => by cases hl
  | x :: ns, u :: us, nd, hl => by
    obtain ⟨n1, n2⟩ := List.nodup_cons.mp nd
    have ih := zip_bind n2 (show us.length = ns.length by simpa using hl)
    rw [List.zip_cons_cons, List.filterMap_cons, List.lookup_cons]
    simp only [beq_self_eq_true, Option.map_some]
    congr 1
    refine (fm_congr fun n hn => ?_).trans ih
    have q : (n == x) = false := beq_eq_false_iff_ne.mpr fun z => n1 (z ▸ hn)
    rw [List.lookup_cons, q]
theorem bind_plain {x q : Str} {as : Arguments} {body : List Stmt} {sc : Scope} {ps : List Str} (h : plainA ps as = true) (kV doc pm : Value) (an : Option Addr) (cdv ct : Value) (us : List Value) (hl : us.length = ps.length) :
    bindArgs (PySem.W.fnOf x q as body sc .none kV doc pm an cdv ct) ⟨us, []⟩ = pure (ps.zip us) := by
  unfold plainA at h
  split at h
  · rename_i ag
    rw [Bool.and_eq_true] at h
    obtain ⟨h1, h2⟩ := h
    have h1 := of_decide_eq_true h1
    have h2 := of_decide_eq_true h2
    have e1 : (ps.filter fun n => ((ps.zip us).lookup n).isNone) = [] := by
      rw [List.filter_eq_nil_iff]
      intro n hn
      rw [zip_look h2 hl n hn]
      decide
    have e2 := zip_bind h2 hl
    simp [bindArgs, PySem.W.fnOf, seqItems?, h1, hl, e1, e2]
    try rfl
  · cases h
/-! ### the end -/
def subOf (anc : List (List Nat × List Nat)) (k : Nat) : Cl → Option Bool
  | .own c => (anc[k]?).bind fun p => if c < anc.length then some (p.1.contains c) else none
  | .ext c => (anc[k]?).bind fun p => if c < 3 then some (p.2.contains c) else none
  | _ => none
def exnOf (xs : List (Str × Option Xs)) : List (Option (Tx × Option Tx)) := xs.map fun p => p.2.map fun x => (x.code, x.fld)
def pgOf (fns : List FD) (xs : List (Str × Option Xs)) (anc : List (List Nat × List Nat)) (fuel : Nat) : Pg := ⟨fns, [], exnOf xs, subOf anc, fuel⟩
def GOf (K : Fq) (xs : List (Str × Option Xs)) : Gs := ⟨K, fun i => He.ga K ((xs[i]?.map (·.1)).getD Str.empty)⟩
section
variable {prog : Program} {w : World} {mg : Str → Option Value} {base : Heap} {K : Fq} {h : Heap} {ss : List Fs} {xs : List (Str × Option Xs)} {anc : List (List Nat × List Nat)} {fns : List FD} {fuel : Nat}
theorem gloB_ok (X : K.In h) (G : h.Ns mainGlobals mg) {x : Str} (c : gloB K x = true) : mg x = some (.ref (He.ga K x)) := PySem.W.mg_of X G (of_decide_eq_true c)
theorem freeB_ok (X : K.In h) (G : h.Ns mainGlobals mg) {x : Str} (c : freeB K x = true) : mg x = none := PySem.W.mg_none_of X G (of_decide_eq_true c)
/-- all facts -/
theorem facts_of (X : K.In h) (G : h.Ns mainGlobals mg) (c : SaysX (ckX ss xs anc) (ss.map fDef ++ xfns xs) K) (hq : ss.all (fun s => plainA s.ps (defArgs s.st)) = true) (hx : xs.all (fun p => match p.2 with
    | some x => xsB x
    | none => true) = true) (hla : xs.length = anc.length) :
    ∃ ft : List Ft, ft.map Ft.name = ss.map Fs.name ∧ (∀ x ∈ frees, mg x = none) ∧ (∀ (i : Nat) t, ft[i]? = some t → ∃ s, ss[i]? = some s ∧ Fct K mg s t) ∧ XFacts (GOf K xs) (pgOf fns xs anc fuel) mg (xNames xs) := by
  have ck := c.ck_
  unfold ckX at ck
  simp only [Bool.and_eq_true, List.all_eq_true] at ck
  obtain ⟨c1, c2, c3, c4⟩ := ck
  have hf : ∀ (l : List Fs) (k : Nat), (∀ i s, l[i]? = some s → ss[k + i]? = some s) → ∃ ft : List Ft, ft.map Ft.name = l.map Fs.name ∧ ∀ (i : Nat) t, ft[i]? = some t → ∃ s, l[i]? = some s ∧ Fct K mg s t := by
    intro l
    induction l with
    | nil => exact fun k _ => ⟨[], rfl, fun i t e => by simp at e⟩
    | cons s l ih =>
      intro k hk
      obtain ⟨ft, h1, h2⟩ := ih (k + 1) fun i s e => by
        have := hk (i + 1) s (by simpa using e)
        rw [← this]
        congr 1
        omega
      have es : ss[k]? = some s := hk 0 s rfl
      have hm : s ∈ ss := List.mem_of_getElem? es
      have ed : (ss.map fDef ++ xfns xs)[k]? = some (fDef s) := by
        rw [List.getElem?_append_left (by rw [List.length_map]; exact (List.getElem?_eq_some_iff.mp es).1), List.getElem?_map, es]
        rfl
      obtain ⟨fd, F⟩ := c.def_ k ed
      have F : FunD K s.name s.qual (defArgs s.st) (defBody s.st) (defScope s.st) [] [] (He.ga K s.name) fd := F
      refine ⟨⟨s.name, He.ga K s.name, fd, s.ps⟩ :: ft, by rw [List.map_cons, List.map_cons, h1], fun i t e => ?_⟩
      cases i with
      | zero =>
        simp at e
        subst e
        exact ⟨s, rfl, F, rfl, rfl, gloB_ok X G (c1 s hm), F.bindsN fun kV doc pm an cdv ct us hl => bind_plain (List.all_eq_true.mp hq s hm) kV doc pm an cdv ct us hl⟩
      | succ i => exact h2 i t (by simpa using e)
  obtain ⟨ft, h1, h2⟩ := hf ss 0 fun i s e => by rw [Nat.zero_add]; exact e
  refine ⟨ft, h1, fun x hx => freeB_ok X G (c2 x hx), h2, fun i x f e => ?_, fun i q b e => ?_⟩
  · unfold xNames at e
    rw [List.getElem?_map] at e
    cases ep : xs[i]? with
    | none => rw [ep] at e; cases e
    | some p =>
      rw [ep] at e
      have e := Option.some.inj e
      obtain ⟨ex, ef⟩ := Prod.mk.inj e
      have hm : p ∈ xs := List.mem_of_getElem? ep
      have ga : (GOf K xs).CA i = He.ga K x := by
        show He.ga K ((xs[i]?.map (·.1)).getD Str.empty) = _
        rw [ep]
        exact congrArg (He.ga K) ex
      obtain ⟨d1, d2, d3⟩ := c3 p hm
      rw [ex] at d1 d2
      refine ⟨by rw [ga]; exact gloB_ok X G d1, by rw [ga]; exact d2, fun code f' e2 => ?_⟩
      have e2 : (exnOf xs)[i]? = some (some (code, f')) := e2
      unfold exnOf at e2
      rw [List.getElem?_map, ep] at e2
      have e2 : p.2.map (fun x => (x.code, x.fld)) = some (code, f') := Option.some.inj e2
      cases e3 : p.2 with
      | none => rw [e3] at e2; cases e2
      | some y =>
        rw [e3] at e2 d3 ef
        obtain ⟨e4, e5⟩ := Prod.mk.inj (Option.some.inj e2)
        have d3 : (decide (y.name = p.1) && xhB K y) = true := d3
        rw [Bool.and_eq_true] at d3
        have yn := of_decide_eq_true d3.1
        have xb : xsB y = true := by
          have := List.all_eq_true.mp hx p hm
          rw [e3] at this
          exact this
        have mem : xDef y ∈ ss.map fDef ++ xfns xs := List.mem_append_right _ (List.mem_filterMap.mpr ⟨p, hm, by rw [e3]; rfl⟩)
        obtain ⟨j, ej⟩ := List.getElem?_of_mem mem
        obtain ⟨fd, F⟩ := c.def_ j ej
        have z := xcl_of xb d3.2 F
        rw [e4, e5, yn, ex] at z
        rw [ga]
        refine ⟨?_, z⟩
        rw [← e5]
        exact ef.symm
  · unfold subB at c4
    simp only [List.all_eq_true, Bool.and_eq_true] at c4
    have e : subOf anc i q = some b := e
    cases q with
    | own j =>
      unfold subOf at e
      cases ea : anc[i]? with
      | none => rw [ea] at e; cases e
      | some p =>
        rw [ea] at e
        have e : (if j < anc.length then some (p.1.contains j) else none) = some b := e
        split at e
        · rename_i hj
          have il : i < anc.length := (List.getElem?_eq_some_iff.mp ea).1
          obtain ⟨xi, ei⟩ : ∃ xi, xs[i]? = some xi := ⟨xs[i]'(by omega), List.getElem?_eq_getElem (by omega)⟩
          obtain ⟨xj, ej⟩ : ∃ xj, xs[j]? = some xj := ⟨xs[j]'(by omega), List.getElem?_eq_getElem (by omega)⟩
          have hz : (xi, p) ∈ xs.zip anc := List.mem_of_getElem? (i := i) (by rw [List.getElem?_zip_eq_some]; exact ⟨ei, ea⟩)
          have q1 := (c4 (xi, p) hz).1 j (List.mem_range.mpr (by omega))
          rw [ej] at q1
          refine ⟨_, rfl, ?_⟩
          show PySem.W.kitOne K (.ref (He.ga K ((xs[i]?.map (·.1)).getD Str.empty))) (.ref (He.ga K ((xs[j]?.map (·.1)).getD Str.empty))) = some b
          rw [ei, ej]
          exact (of_decide_eq_true q1).trans e
        · cases e
    | ext j =>
      unfold subOf at e
      cases ea : anc[i]? with
      | none => rw [ea] at e; cases e
      | some p =>
        rw [ea] at e
        have e : (if j < 3 then some (p.2.contains j) else none) = some b := e
        split at e
        · rename_i hj
          have il : i < anc.length := (List.getElem?_eq_some_iff.mp ea).1
          obtain ⟨xi, ei⟩ : ∃ xi, xs[i]? = some xi := ⟨xs[i]'(by omega), List.getElem?_eq_getElem (by omega)⟩
          have hz : (xi, p) ∈ xs.zip anc := List.mem_of_getElem? (i := i) (by rw [List.getElem?_zip_eq_some]; exact ⟨ei, ea⟩)
          have q1 := (c4 (xi, p) hz).2 j (by have : j = 0 ∨ j = 1 ∨ j = 2 := by omega
                                             rcases this with rfl | rfl | rfl <;> simp)
          obtain ⟨t, et⟩ : ∃ t, extName j = some t := by
            have : j = 0 ∨ j = 1 ∨ j = 2 := by omega
            rcases this with rfl | rfl | rfl <;> exact ⟨_, rfl⟩
          rw [et] at q1
          refine ⟨.type t, by show (extName j).map Value.type = _; rw [et]; rfl, ?_⟩
          show PySem.W.kitOne K (.ref (He.ga K ((xs[i]?.map (·.1)).getD Str.empty))) (.type t) = some b
          rw [ei]
          exact (of_decide_eq_true q1).trans e
        · cases e
    | _ => cases e
end
end Ev


set_option autoImplicit false
set_option linter.all false
set_option maxRecDepth 100000
set_option maxHeartbeats 4000000
/-! Sat: what holds behind an evaluation, rule by rule. -/
namespace Ev
def Rs.sat {α : Type} (r : Rs α) (Q : α → List O → Prop) : Prop := match r with
  | .ok a M => Q a M
  | .er => False
theorem sat_congr {α : Type} {r r' : Rs α} (h : r = r') (Q : α → List O → Prop) : r.sat Q = r'.sat Q := by rw [h]
theorem sat_ok {α : Type} {a : α} {M : List O} {Q : α → List O → Prop} : (Rs.ok a M).sat Q = Q a M := rfl
theorem sat_bind {α β : Type} {r : Rs α} {f : α → List O → Rs β} {Q : β → List O → Prop} : (r.bind f).sat Q = r.sat fun a M => (f a M).sat Q := by cases r <;> rfl
theorem sat_mono {α : Type} {r : Rs α} {Q Q' : α → List O → Prop} (h : r.sat Q) (q : ∀ a M, Q a M → Q' a M) : r.sat Q' := by
  cases r with
  | ok a M => exact q a M h
  | er => exact h
theorem sat_eq {α : Type} {r : Rs α} {Q : α → List O → Prop} (h : r.sat Q) : ∃ a M, r = .ok a M ∧ Q a M := by
  cases r with
  | ok a M => exact ⟨a, M, rfl, h⟩
  | er => exact h.elim
def Out.sat (o : Out) (N : En → List O → Prop) (R : D → List O → Prop) : Prop := match o with
  | .nx env M => N env M
  | .rt d M => R d M
  | _ => False
theorem osat_congr {o o' : Out} (h : o = o') (N : En → List O → Prop) (R : D → List O → Prop) : o.sat N R = o'.sat N R := by rw [h]
theorem osat_mono {o : Out} {N N' : En → List O → Prop} {R R' : D → List O → Prop} (h : o.sat N R) (n : ∀ a M, N a M → N' a M) (r : ∀ a M, R a M → R' a M) : o.sat N' R' := by
  cases o with
  | nx env M => exact n _ _ h
  | rt d M => exact r _ _ h
  | _ => exact h
/-- a bool's two ways -/
def two (d : D) (a b : Prop) : Prop := match d with
  | .bl true => a
  | .bl false => b
  | _ => False
theorem two_T {a b : Prop} : two (.bl true) a b = a := rfl
theorem two_F {a b : Prop} : two (.bl false) a b = b := rfl
theorem two_d {p : Prop} [Decidable p] {a b : Prop} : two (.bl (decide p)) a b = if p then a else b := by
  by_cases h : p
  · rw [decide_eq_true h, if_pos h]; rfl
  · rw [decide_eq_false h, if_neg h]; rfl
theorem two_n {u : Bool} {a b : Prop} : two (.bl (!u)) a b = two (.bl u) b a := by cases u <;> rfl
theorem two_congr {d d' : D} (h : d = d') (a b : Prop) : two d a b = two d' a b := by rw [h]
section
variable {C : Ec} {env : En} {M : List O} {a b c t : X} {Q : D → List O → Prop} {N : En → List O → Prop} {R : D → List O → Prop}
theorem e_var {i : Nat} : (ev C (.var i) env M).sat Q = (match env[i]? with | some (some d) => Q d M | _ => False) := by
  rw [ev]
  cases env[i]? with
  | none => rfl
  | some o => cases o <;> rfl
theorem e_cst {d : D} : (ev C (.cst d) env M).sat Q = Q d M := by rw [ev]; rfl
theorem e_bin {o : BOp} : (ev C (.bin o a b) env M).sat Q = (ev C a env M).sat fun x M1 => (ev C b env M1).sat fun y M2 => (binop o x y M2).sat Q := by rw [ev]; simp only [sat_bind]
theorem e_cmp {o : COp} : (ev C (.cmp o a b) env M).sat Q = (ev C a env M).sat fun x M1 => (ev C b env M1).sat fun y M2 => (cmpop o x y M2).sat Q := by rw [ev]; simp only [sat_bind]
theorem e_and : (ev C (.and a b) env M).sat Q = (ev C a env M).sat fun x M1 => two x ((ev C b env M1).sat Q) (Q (.bl false) M1) := by
  rw [ev, sat_bind]
  congr 1
  funext x M1
  cases x with
  | bl u => cases u <;> rfl
  | _ => rfl
theorem e_or : (ev C (.or a b) env M).sat Q = (ev C a env M).sat fun x M1 => two x (Q (.bl true) M1) ((ev C b env M1).sat Q) := by
  rw [ev, sat_bind]
  congr 1
  funext x M1
  cases x with
  | bl u => cases u <;> rfl
  | _ => rfl
theorem e_ife : (ev C (.ife t a b) env M).sat Q = (ev C t env M).sat fun x M1 => two x ((ev C a env M1).sat Q) ((ev C b env M1).sat Q) := by
  rw [ev, sat_bind]
  congr 1
  funext x M1
  cases x with
  | bl u => cases u <;> rfl
  | _ => rfl
def notD (d : D) (M : List O) : Rs D := match d with
  | .bl b => .ok (.bl (!b)) M
  | _ => .er
theorem e_not : (ev C (.not a) env M).sat Q = (ev C a env M).sat fun x M1 => (notD x M1).sat Q := by rw [ev, sat_bind]; rfl
theorem notD_bl {u : Bool} : (notD (.bl u) M).sat Q = Q (.bl (!u)) M := rfl
def negD (d : D) (M : List O) : Rs D := match d with
  | .int i => .ok (.int (-i)) M
  | _ => .er
theorem e_neg : (ev C (.neg a) env M).sat Q = (ev C a env M).sat fun x M1 => (negD x M1).sat Q := by rw [ev, sat_bind]; rfl
theorem negD_int {i : Int} : (negD (.int i) M).sat Q = Q (.int (-i)) M := rfl
theorem e_tup {es : List X} : (ev C (.tup es) env M).sat Q = (evs C es env M).sat fun ds M1 => ds.length ≤ lim ∧ Q (.tup ds) M1 := by
  rw [ev, sat_bind]
  congr 1
  funext ds M1
  by_cases h : ds.length ≤ lim
  · simp only [h, if_true, true_and, sat_ok]
  · simp only [h, if_false, false_and]; rfl
theorem e_lst {h : Bool} {es : List X} : (ev C (.lst h es) env M).sat Q = (evs C es env M).sat fun ds M1 => ds.length ≤ lim ∧ (mkL h ds M1).sat Q := by
  rw [ev, sat_bind]
  congr 1
  funext ds M1
  by_cases h : ds.length ≤ lim
  · simp only [h, if_true, true_and]
  · simp only [h, if_false, false_and]; rfl
theorem mk_F {l : List D} : (mkL false l M).sat Q = Q (.lst l) M := rfl
theorem mk_T {l : List D} : (mkL true l M).sat Q = Q (.ref M.length) (M ++ [.lst l]) := rfl
def itemD (M : List O) (x y : D) : Rs D := match itemsOf M x, y with
    | some ds, .int k => (match ixOf ds.length k with
      | some j => (match ds[j]? with
        | some d => .ok d M
        | none => .er)
      | none => .er)
    | _, _ => .er
theorem e_item {i : X} : (ev C (.item a i) env M).sat Q = (ev C a env M).sat fun x M1 => (ev C i env M1).sat fun y M2 => (itemD M2 x y).sat Q := by rw [ev]; simp only [sat_bind]; rfl
def slcD (M : List O) (x : D) (l r : List D) : Rs D := match sliceOf M x, bnd l, bnd r with
    | some ds, some l, some r => .ok (.lst (cut ds l r)) M
    | _, _, _ => .er
theorem e_slc {lo hi : List X} : (ev C (.slc a lo hi) env M).sat Q = (ev C a env M).sat fun x M1 => (evs C lo env M1).sat fun l M2 => (evs C hi env M2).sat fun r M3 => (slcD M3 x l r).sat Q := by rw [ev]; simp only [sat_bind]; rfl
def attrD (M : List O) (x : D) (f : Tx) : Rs D := match x with
    | .exc _ ks ds => (match field ks ds f with
      | some d => .ok d M
      | none => .er)
    | _ => .er
theorem e_attr {f : Tx} : (ev C (.attr a f) env M).sat Q = (ev C a env M).sat fun x M1 => (attrD M1 x f).sat Q := by rw [ev, sat_bind]; rfl
def isiD (C : Ec) (M : List O) (x : D) (c : Cl) : Rs D := match isA C (seen M x) c with
    | some b => .ok (.bl b) M
    | none => .er
def isisD (C : Ec) (M : List O) (x : D) (c : List Cl) : Rs D := match isAny C (seen M x) c with
    | some b => .ok (.bl b) M
    | none => .er
theorem e_isi {c : Cl} : (ev C (.isi a c) env M).sat Q = (ev C a env M).sat fun x M1 => (isiD C M1 x c).sat Q := by rw [ev, sat_bind]; rfl
theorem e_isis {c : List Cl} : (ev C (.isis a c) env M).sat Q = (ev C a env M).sat fun x M1 => (isisD C M1 x c).sat Q := by rw [ev, sat_bind]; rfl
theorem e_call {f : Nat} {es : List X} : (ev C (.call f es) env M).sat Q = (evs C es env M).sat fun ds M1 => (C.call f ds M1).sat Q := by rw [ev, sat_bind]
theorem e_blt {f : Nat} {es : List X} : (ev C (.blt f es) env M).sat Q = (evs C es env M).sat fun ds M1 => (bltn f ds M1).sat Q := by rw [ev, sat_bind]
def mkxD (C : Ec) (c : Nat) (ds : List D) (M1 : List O) : Rs D := match C.exn[c]?, ds with
    | some (some (n, some f)), [d] => .ok (.exc c [f, [99, 111, 100, 101]] [d, .str n]) M1
    | some (some (n, none)), [] => .ok (.exc c [[99, 111, 100, 101]] [.str n]) M1
    | _, _ => .er
theorem e_mkx {n : Nat} {k : Bool} {es : List X} : (ev C (.mkx n k es) env M).sat Q = (evs C es env M).sat fun ds M1 => (mkxD C n ds M1).sat Q := by rw [ev, sat_bind]; rfl
def optSat {α : Type} (o : Option α) (Q : α → Prop) : Prop := match o with
  | some a => Q a
  | none => False
theorem opt_some {α : Type} {x : α} {Q : α → Prop} : optSat (some x) Q = Q x := rfl
theorem opt_congr {α : Type} {o o' : Option α} (h : o = o') (Q : α → Prop) : optSat o Q = optSat o' Q := by rw [h]
theorem e_lc {h : Bool} {p : Pt} {k : Ik} {its ifs : List X} : (ev C (.lc h p a k its ifs) env M).sat Q = (evs C its env M).sat fun ds M1 => optSat (walkOf k ds) fun items => (comp (ev C a) (evT C ifs) p items [] (wipeE env (pslots p)) M1).sat fun l M2 => (mkL h l M2).sat Q := by
  rw [ev, sat_bind]
  congr 1
  funext ds M1
  cases walkOf k ds with
  | none => rfl
  | some items => simp only [sat_bind, opt_some]
theorem es_nil {Q : List D → List O → Prop} : (evs C [] env M).sat Q = Q [] M := by rw [evs]; rfl
theorem es_cons {es : List X} {Q : List D → List O → Prop} : (evs C (a :: es) env M).sat Q = (ev C a env M).sat fun d M1 => (evs C es env M1).sat fun ds M2 => Q (d :: ds) M2 := by rw [evs]; simp only [sat_bind, sat_ok]
theorem et_nil {Q : Bool → List O → Prop} : (evT C [] env M).sat Q = Q true M := by rw [evT]; rfl
theorem et_cons {es : List X} {Q : Bool → List O → Prop} : (evT C (a :: es) env M).sat Q = (ev C a env M).sat fun d M1 => two d ((evT C es env M1).sat Q) (Q false M1) := by
  rw [evT, sat_bind]
  congr 1
  funext d M1
  cases d with
  | bl u => cases u <;> rfl
  | _ => rfl
/-! statements -/
theorem x_ex {e : X} : (exec C (.ex e) env M).sat N R = (ev C e env M).sat fun _ M1 => N env M1 := by rw [exec]; cases ev C e env M <;> rfl
theorem x_asg {i : Nat} {e : X} : (exec C (.asg i e) env M).sat N R = (ev C e env M).sat fun d M1 => i < env.length ∧ N (env.set i (some d)) M1 := by
  rw [exec]
  cases ev C e env M with
  | er => rfl
  | ok d M1 =>
    by_cases h : i < env.length
    · simp only [h, if_true, sat_ok, true_and]; rfl
    · simp only [h, if_false, sat_ok, false_and]; rfl
theorem x_asl {i : Nat} {e : X} : (exec C (.asl i e) env M).sat N R = (ev C e env M).sat fun d M1 => i < env.length ∧ N (env.set i (some d)) M1 := by
  rw [exec]
  cases ev C e env M with
  | er => rfl
  | ok d M1 =>
    by_cases h : i < env.length
    · simp only [h, if_true, sat_ok, true_and]; rfl
    · simp only [h, if_false, sat_ok, false_and]; rfl
theorem x_ret {e : X} : (exec C (.ret e) env M).sat N R = (ev C e env M).sat R := by rw [exec]; cases ev C e env M <;> rfl
theorem x_iff {p q : List S} : (exec C (.iff t p q) env M).sat N R = (ev C t env M).sat fun d M1 => two d ((execs C p env M1).sat N R) ((execs C q env M1).sat N R) := by
  rw [exec]
  cases ev C t env M with
  | er => rfl
  | ok d M1 =>
    cases d with
    | bl u => cases u <;> rfl
    | _ => rfl
def putD (M : List O) (o i d : D) : Rs Unit := match o, i with
  | .ref a, .int k => (match M[a]? with
    | some (.lst ds) => (match ixOf ds.length k with
      | some j => .ok () (M.set a (.lst (ds.set j d)))
      | none => .er)
    | _ => .er)
  | _, _ => .er
theorem x_put {o i e : X} : (exec C (.put o i e) env M).sat N R = (ev C e env M).sat fun d M1 => (ev C o env M1).sat fun x M2 => (ev C i env M2).sat fun y M3 => (putD M3 x y d).sat fun _ M4 => N env M4 := by
  rw [exec]
  cases ev C e env M with
  | er => rfl
  | ok d M1 =>
    simp only [sat_ok]
    cases ev C o env M1 with
    | er => rfl
    | ok x M2 =>
      cases x with
      | ref a =>
        simp only [sat_ok]
        cases ev C i env M2 with
        | er => rfl
        | ok y M3 =>
          cases y with
          | int k =>
            simp only [sat_ok, putD]
            cases M3[a]? with
            | none => rfl
            | some ob =>
              cases ob with
              | lst ds =>
                simp only
                cases ixOf ds.length k <;> rfl
              | _ => rfl
          | _ => rfl
      | _ =>
        simp only [sat_ok, putD]
        cases ev C i env M2 <;> rfl
theorem x_for {p : Pt} {k : Ik} {its : List X} {b : List S} : (exec C (.for p k its b) env M).sat N R = (evs C its env M).sat fun ds M1 => optSat (walkOf k ds) fun items => (loop (execs C b) p items env M1).sat N R := by
  rw [exec]
  cases evs C its env M with
  | er => rfl
  | ok ds M1 =>
    simp only [sat_ok]
    cases walkOf k ds <;> rfl
theorem x_whl {b : List S} : (exec C (.whl t b) env M).sat N R = (whl (ev C t) (execs C b) C.fuel env M).sat N R := by rw [exec]
theorem xs_nil : (execs C [] env M).sat N R = N env M := by rw [execs]; rfl
theorem xs_cons {s : S} {r : List S} : (execs C (s :: r) env M).sat N R = (exec C s env M).sat (fun env1 M1 => (execs C r env1 M1).sat N R) R := by
  rw [execs]
  cases exec C s env M <;> rfl
end
theorem call_sat {P : Pg} {n f : Nat} {ds : List D} {M : List O} {fd : FD} {Q : D → List O → Prop} (h : P.fns[f]? = some fd) (hl : ds.length = fd.np)
    (q : (execs ⟨callN P n, P.glo, P.exn, P.sub, P.fuel⟩ fd.body (ds.map some ++ List.replicate (fd.ns - fd.np) none) M).sat (fun _ M1 => Q .non M1) Q) : (callN P (n + 1) f ds M).sat Q := by
  rw [callN, h]
  simp only [hl, if_true]
  cases e : execs ⟨callN P n, P.glo, P.exn, P.sub, P.fuel⟩ fd.body (ds.map some ++ List.replicate (fd.ns - fd.np) none) M with
  | nx env M1 => rw [e] at q; exact q
  | rt d M1 => rw [e] at q; exact q
  | bk env M1 => rw [e] at q; exact q
  | ct env M1 => rw [e] at q; exact q
  | er => rw [e] at q; exact q
/-! loops by an invariant -/
theorem loop_sat {run : En → List O → Out} {p : Pt} {N : En → List O → Prop} {R : D → List O → Prop} (I : List D → En → List O → Prop) : ∀ (ds : List D) (env : En) (M : List O), I ds env M →
    (∀ d r env M, I (d :: r) env M → ∃ env1, setP p d env = some env1 ∧ (run env1 M).sat (fun env2 M2 => I r env2 M2) R) → (∀ env M, I [] env M → N env M) → (loop run p ds env M).sat N R
  | [], env, M, h, _, e => e env M h
  | d :: r, env, M, h, st, e => by
    obtain ⟨env1, h1, h2⟩ := st d r env M h
    rw [loop, h1]
    dsimp only
    cases q : run env1 M with
    | nx env2 M2 => rw [q] at h2; exact loop_sat I r env2 M2 h2 st e
    | rt d M2 => rw [q] at h2; exact h2
    | _ => rw [q] at h2; exact h2.elim
theorem loop_nil {run : En → List O → Out} {p : Pt} {N : En → List O → Prop} {R : D → List O → Prop} {env : En} {M : List O} : (loop run p [] env M).sat N R = N env M := rfl
theorem loop_cons {run : En → List O → Out} {p : Pt} {N : En → List O → Prop} {R : D → List O → Prop} {env : En} {M : List O} {d : D} {r : List D} (env1 : En) (h1 : setP p d env = some env1) (h : (run env1 M).sat (fun env2 M2 => (loop run p r env2 M2).sat N R) R) : (loop run p (d :: r) env M).sat N R := by
  rw [loop, h1]
  dsimp only
  cases q : run env1 M with
  | nx env2 M2 => rw [q] at h; exact h
  | rt d M2 => rw [q] at h; exact h
  | _ => rw [q] at h; exact h.elim
theorem comp_nil {elt : En → List O → Rs D} {tests : En → List O → Rs Bool} {p : Pt} {acc : List D} {env : En} {M : List O} {Q : List D → List O → Prop} : (comp elt tests p [] acc env M).sat Q = Q acc M := rfl
theorem comp_cons {elt : En → List O → Rs D} {tests : En → List O → Rs Bool} {p : Pt} {d : D} {ds acc : List D} {env : En} {M : List O} {Q : List D → List O → Prop} : (comp elt tests p (d :: ds) acc env M).sat Q = optSat (setP p d env) fun env1 => (tests env1 M).sat fun t M1 => if t then (elt env1 M1).sat fun v M2 => acc.length < lim ∧ (comp elt tests p ds (acc ++ [v]) env M2).sat Q else (comp elt tests p ds acc env M1).sat Q := by
  rw [comp]
  cases setP p d env with
  | none => rfl
  | some env1 =>
    simp only [opt_some]
    cases tests env1 M with
    | er => rfl
    | ok t M1 =>
      simp only [sat_ok]
      cases t with
      | false => rfl
      | true =>
        simp only [if_true]
        cases elt env1 M1 with
        | er => rfl
        | ok v M2 =>
          simp only [sat_ok]
          by_cases h : acc.length < lim
          · simp only [h, if_true, true_and]
          · simp only [h, if_false, false_and]; rfl
/-- a comprehension that keeps an invariant -/
theorem comp_sat {elt : En → List O → Rs D} {tests : En → List O → Rs Bool} {p : Pt} {env : En} {Q : List D → List O → Prop} (I : List D → List D → List O → Prop) : ∀ (ds acc : List D) (M : List O), I ds acc M →
    (∀ d r acc M, I (d :: r) acc M → acc.length < lim ∧ ∃ env1, setP p d env = some env1 ∧ (tests env1 M).sat fun t M1 => if t then (elt env1 M1).sat fun v M2 => I r (acc ++ [v]) M2 else I r acc M1) → (∀ acc M, I [] acc M → Q acc M) → (comp elt tests p ds acc env M).sat Q
  | [], acc, M, h, _, e => e acc M h
  | d :: r, acc, M, h, st, e => by
    obtain ⟨hl, env1, h1, h2⟩ := st d r acc M h
    rw [comp_cons, h1, opt_some]
    refine sat_mono h2 fun t M1 h3 => ?_
    cases t with
    | false => exact comp_sat I r acc M1 h3 st e
    | true => exact sat_mono h3 fun v M2 h4 => ⟨hl, comp_sat I r (acc ++ [v]) M2 h4 st e⟩
/-! values -/
section
variable {M : List O} {i j : Int} {Q : D → List O → Prop}
theorem b_add : (binop .add (.int i) (.int j) M).sat Q = Q (.int (i + j)) M := rfl
theorem b_sub : (binop .sub (.int i) (.int j) M).sat Q = Q (.int (i - j)) M := rfl
theorem b_mul : (binop .mul (.int i) (.int j) M).sat Q = (((-big < i ∧ i < big) ∨ (-big < j ∧ j < big)) ∧ Q (.int (i * j)) M) := by
  unfold binop
  simp only [Bool.or_eq_true, Bool.and_eq_true, decide_eq_true_eq]
  by_cases h : (-big < i ∧ i < big) ∨ (-big < j ∧ j < big)
  · simp only [h, if_true, true_and, sat_ok]
  · simp only [h, if_false, false_and]; rfl
theorem b_mod : (binop .mod (.int i) (.int j) M).sat Q = (0 < j ∧ Q (.int (i % j)) M) := by
  unfold binop
  by_cases h : 0 < j
  · simp only [h, if_true, true_and, sat_ok]
  · simp only [h, if_false, false_and]; rfl
theorem b_div : (binop .fdiv (.int i) (.int j) M).sat Q = ((0 < j ∧ j < 2 ^ 8000) ∧ Q (.int (i / j)) M) := by
  unfold binop
  simp only [Bool.and_eq_true, decide_eq_true_eq]
  by_cases h : 0 < j ∧ j < 2 ^ 8000
  · simp only [h, if_true, true_and, sat_ok, and_self]
  · simp only [h, if_false, false_and]; rfl
theorem c_lt : (cmpop .lt (.int i) (.int j) M).sat Q = Q (.bl (decide (i < j))) M := rfl
theorem c_le : (cmpop .le (.int i) (.int j) M).sat Q = Q (.bl (decide (i ≤ j))) M := rfl
theorem c_gt : (cmpop .gt (.int i) (.int j) M).sat Q = Q (.bl (decide (j < i))) M := rfl
theorem c_ge : (cmpop .ge (.int i) (.int j) M).sat Q = Q (.bl (decide (j ≤ i))) M := rfl
theorem b_app {a b : List D} : (binop .add (.lst a) (.lst b) M).sat Q = (a.length + b.length ≤ lim ∧ Q (.lst (a ++ b)) M) := by
  unfold binop
  by_cases h : a.length + b.length ≤ lim
  · simp only [h, if_true, true_and, sat_ok]
  · simp only [h, if_false, false_and]; rfl
theorem b_txt {a b : Tx} : (binop .add (.str a) (.str b) M).sat Q = (a.length + b.length ≤ lim ∧ Q (.str (a ++ b)) M) := by
  unfold binop
  by_cases h : a.length + b.length ≤ lim
  · simp only [h, if_true, true_and, sat_ok]
  · simp only [h, if_false, false_and]; rfl
theorem f_int : (bltn 1 [.int i] M).sat Q = Q (.int i) M := rfl
theorem f_len_ref {a : Nat} {l : List D} (h : M[a]? = some (.lst l)) : (bltn 0 [.ref a] M).sat Q = Q (.int l.length) M := by unfold bltn itemsOf seen; simp only [h]; rfl
theorem f_len_lst {l : List D} : (bltn 0 [.lst l] M).sat Q = Q (.int l.length) M := rfl
theorem f_len_tup {l : List D} : (bltn 0 [.tup l] M).sat Q = Q (.int l.length) M := rfl
/-- an item at a place -/
theorem ix_nat {n : Nat} {k : Int} (j : Nat) (h : k = (j : Int)) (h2 : j < n) : ixOf n k = some j := by
  subst h
  unfold ixOf
  rw [if_pos (by omega), if_pos (by simpa using h2)]
  simp
theorem i_lst {l : List D} {d : D} (j : Nat) (h : i = (j : Int)) (h2 : l[j]? = some d) (q : Q d M) : (itemD M (.lst l) (.int i)).sat Q := by
  unfold itemD itemsOf seen
  simp only [ix_nat j h (List.getElem?_eq_some_iff.mp h2).1, h2]
  exact q
theorem i_tup {l : List D} {d : D} (j : Nat) (h : i = (j : Int)) (h2 : l[j]? = some d) (q : Q d M) : (itemD M (.tup l) (.int i)).sat Q := by
  unfold itemD itemsOf seen
  simp only [ix_nat j h (List.getElem?_eq_some_iff.mp h2).1, h2]
  exact q
theorem i_ref {a : Nat} {l : List D} {d : D} (h0 : M[a]? = some (.lst l)) (j : Nat) (h : i = (j : Int)) (h2 : l[j]? = some d) : (itemD M (.ref a) (.int i)).sat Q = Q d M := by
  unfold itemD itemsOf seen
  simp only [h0, ix_nat j h (List.getElem?_eq_some_iff.mp h2).1, h2]
  rfl
theorem p_ref {a : Nat} {l : List D} {d : D} (h0 : M[a]? = some (.lst l)) (j : Nat) (h : i = (j : Int)) (h2 : j < l.length) {Q : Unit → List O → Prop} : (putD M (.ref a) (.int i) d).sat Q = Q () (M.set a (.lst (l.set j d))) := by
  unfold putD
  simp only [h0, ix_nat j h h2]
  rfl
end
end Ev


set_option autoImplicit false
set_option linter.all false
namespace K01
open Ev
/-- _law_bag -/
def f0 : FD := ⟨1, 4, [(.asl 1 (.lc false (.nm 3) (.blt 1 [(.var 3)]) .val [(.slc (.var 0) [] [(.cst (.int 63))])] [])), (.asg 2 (.bin .add (.cst (.int 57910)) (.bin .mul (.cst (.int 71)) (.blt 0 [(.var 1)])))), (.for (.nm 3) .val [(.var 1)] [(.asg 2 (.bin .mod (.blt 1 [(.bin .add (.bin .mul (.var 2) (.cst (.int 7349))) (.var 3))]) (.cst (.int 2147483477))))]), (.ret (.lst true [(.var 1), (.cst (.int 0)), (.cst (.int 0)), (.var 2)]))]⟩
/-- _law_draw -/
def f1 : FD := ⟨2, 6, [(.iff (.cmp .lt (.item (.var 0) (.cst (.int 2))) (.cst (.int 2))) [(.put (.var 0) (.cst (.int 1)) (.bin .add (.item (.var 0) (.cst (.int 1))) (.cst (.int 1)))), (.asg 3 (.bin .add (.item (.var 0) (.cst (.int 3))) (.bin .mul (.item (.var 0) (.cst (.int 1))) (.cst (.int 8689))))), (.iff (.cmp .le (.item (.var 0) (.cst (.int 1))) (.blt 0 [(.item (.var 0) (.cst (.int 0)))])) [(.asg 3 (.item (.item (.var 0) (.cst (.int 0))) (.bin .sub (.item (.var 0) (.cst (.int 1))) (.cst (.int 1)))))] []), (.iff (.or (.cmp .gt (.item (.var 0) (.cst (.int 1))) (.blt 0 [(.item (.var 0) (.cst (.int 0)))])) (.cmp .lt (.var 3) (.bin .pow (.cst (.int 10)) (.cst (.int 18))))) [(.asg 4 (.bin .mod (.blt 1 [(.bin .add (.bin .add (.bin .mul (.var 3) (.cst (.int 42061))) (.bin .mul (.item (.var 0) (.cst (.int 1))) (.cst (.int 37021)))) (.item (.var 0) (.cst (.int 3))))]) (.cst (.int 2147483629)))), (.asg 5 (.bin .mod (.blt 1 [(.bin .add (.bin .mul (.var 4) (.var 4)) (.bin .mul (.item (.var 0) (.cst (.int 1))) (.cst (.int 50551))))]) (.cst (.int 998244353)))), (.ret (.bin .mod (.bin .fdiv (.bin .mod (.blt 1 [(.bin .add (.bin .mul (.var 5) (.cst (.int 46819))) (.var 4))]) (.cst (.int 2147483587))) (.cst (.int 23))) (.var 1)))] []), (.put (.var 0) (.cst (.int 2)) (.var 3))] []), (.asg 2 (.bin .mod (.blt 1 [(.item (.var 0) (.cst (.int 2)))]) (.var 1))), (.put (.var 0) (.cst (.int 2)) (.bin .fdiv (.blt 1 [(.item (.var 0) (.cst (.int 2)))]) (.var 1))), (.ret (.var 2))]⟩
/-- _law_of -/
def f2 : FD := ⟨2, 2, [(.ret (.item (.var 1) (.call 1 [(.var 0), (.blt 0 [(.var 1)])])))]⟩
/-- _law_same -/
def f3 : FD := ⟨2, 4, [(.iff (.cmp .is (.var 1) (.cst .non)) [(.ret (.cmp .is (.var 0) (.cst .non)))] []), (.iff (.or (.isi (.var 1) .bool) (.isi (.var 0) .bool)) [(.ret (.and (.isi (.var 1) .bool) (.and (.isi (.var 0) .bool) (.cmp .eq (.var 0) (.var 1)))))] []), (.iff (.isis (.var 1) [.int, .str]) [(.ret (.and (.isis (.var 0) [.int, .str]) (.and (.cmp .eq (.isi (.var 0) .int) (.isi (.var 1) .int)) (.cmp .eq (.var 0) (.var 1)))))] []), (.iff (.or (.cmp .ne (.isi (.var 1) .list) (.isi (.var 0) .list)) (.cmp .ne (.isi (.var 1) .tuple) (.isi (.var 0) .tuple))) [(.ret (.cst (.bl false)))] []), (.ret (.and (.cmp .eq (.blt 0 [(.var 0)]) (.blt 0 [(.var 1)])) (.blt 2 [(.lc false (.tp [2, 3]) (.call 3 [(.var 2), (.var 3)]) .zip [(.var 0), (.var 1)] [])])))]⟩
/-- _law_field -/
def f4 : FD := ⟨1, 1, [(.iff (.cmp .inn (.attr (.var 0) [99, 111, 100, 101]) (.tup [(.cst (.str [87, 114, 111, 110, 103, 67, 111, 117, 110, 116])), (.cst (.str [73, 110, 118, 97, 108, 105, 100, 78, 117, 109, 98, 101, 114])), (.cst (.str [73, 110, 118, 97, 108, 105, 100, 87, 111, 114, 100])), (.cst (.str [73, 110, 118, 97, 108, 105, 100, 80, 111, 105, 110, 116])), (.cst (.str [73, 110, 118, 97, 108, 105, 100, 67, 104, 117, 116, 101])), (.cst (.str [73, 110, 118, 97, 108, 105, 100, 78, 97, 109, 101])), (.cst (.str [73, 110, 118, 97, 108, 105, 100, 76, 105, 109, 105, 116]))])) [(.ret (.tup [(.attr (.var 0) [103, 105, 118, 101, 110])]))] []), (.iff (.cmp .inn (.attr (.var 0) [99, 111, 100, 101]) (.tup [(.cst (.str [73, 110, 118, 97, 108, 105, 100, 84, 101, 120, 116])), (.cst (.str [73, 110, 118, 97, 108, 105, 100, 68, 101, 101, 100])), (.cst (.str [78, 111, 116, 78, 111, 119])), (.cst (.str [73, 110, 118, 97, 108, 105, 100, 79, 102, 102, 101, 114])), (.cst (.str [73, 110, 118, 97, 108, 105, 100, 67, 111, 109, 109, 97, 110, 100])), (.cst (.str [73, 110, 118, 97, 108, 105, 100, 80, 97, 103, 101]))])) [(.ret (.tup [(.attr (.var 0) [97, 116])]))] []), (.iff (.cmp .inn (.attr (.var 0) [99, 111, 100, 101]) (.tup [(.cst (.str [73, 110, 118, 97, 108, 105, 100, 70, 105, 101, 108, 100])), (.cst (.str [68, 117, 112, 108, 105, 99, 97, 116, 101, 78, 97, 109, 101])), (.cst (.str [85, 110, 107, 110, 111, 119, 110, 78, 97, 109, 101]))])) [(.ret (.tup [(.attr (.var 0) [110, 97, 109, 101])]))] []), (.ret (.ife (.cmp .inn (.attr (.var 0) [99, 111, 100, 101]) (.tup [(.cst (.str [84, 111, 111, 77, 97, 110, 121])), (.cst (.str [70, 117, 108, 108]))])) (.tup [(.attr (.var 0) [109, 111, 115, 116])]) (.tup [])))]⟩
/-- _law_first_errors -/
def f5 : FD := ⟨1, 1, [(.ret (.lst false [(.mkx 2 false [(.var 0)]), (.mkx 3 true [(.var 0)]), (.mkx 4 false [(.var 0)]), (.mkx 5 true [(.var 0)]), (.mkx 6 true [(.var 0)]), (.mkx 7 true [(.var 0)]), (.mkx 8 false [(.var 0)]), (.mkx 9 true [(.var 0)]), (.mkx 10 false [(.var 0)]), (.mkx 11 true [(.var 0)])]))]⟩
/-- _law_late_errors -/
def f6 : FD := ⟨1, 1, [(.ret (.lst false [(.mkx 12 false []), (.mkx 13 true [(.var 0)]), (.mkx 14 true [(.var 0)]), (.mkx 15 true [(.var 0)]), (.mkx 16 false [(.var 0)]), (.mkx 17 true [(.var 0)]), (.mkx 18 false [(.var 0)]), (.mkx 19 true [(.var 0)]), (.mkx 20 true [(.var 0)]), (.mkx 21 false [])]))]⟩
/-- law -/
def f7 : FD := ⟨1, 10, [(.asg 1 (.call 0 [(.var 0)])), (.asg 2 (.lst false [(.cst (.str [87, 114, 111, 110, 103, 67, 111, 117, 110, 116])), (.cst (.str [73, 110, 118, 97, 108, 105, 100, 78, 117, 109, 98, 101, 114])), (.cst (.str [73, 110, 118, 97, 108, 105, 100, 87, 111, 114, 100])), (.cst (.str [73, 110, 118, 97, 108, 105, 100, 80, 111, 105, 110, 116])), (.cst (.str [73, 110, 118, 97, 108, 105, 100, 70, 105, 101, 108, 100])), (.cst (.str [73, 110, 118, 97, 108, 105, 100, 84, 101, 120, 116])), (.cst (.str [73, 110, 118, 97, 108, 105, 100, 68, 101, 101, 100])), (.cst (.str [78, 111, 116, 78, 111, 119])), (.cst (.str [73, 110, 118, 97, 108, 105, 100, 67, 104, 117, 116, 101])), (.cst (.str [73, 110, 118, 97, 108, 105, 100, 79, 102, 102, 101, 114])), (.cst (.str [85, 110, 108, 105, 107, 101])), (.cst (.str [84, 111, 111, 77, 97, 110, 121])), (.cst (.str [73, 110, 118, 97, 108, 105, 100, 78, 97, 109, 101])), (.cst (.str [68, 117, 112, 108, 105, 99, 97, 116, 101, 78, 97, 109, 101])), (.cst (.str [70, 117, 108, 108])), (.cst (.str [73, 110, 118, 97, 108, 105, 100, 76, 105, 109, 105, 116])), (.cst (.str [73, 110, 118, 97, 108, 105, 100, 67, 111, 109, 109, 97, 110, 100])), (.cst (.str [73, 110, 118, 97, 108, 105, 100, 80, 97, 103, 101])), (.cst (.str [85, 110, 107, 110, 111, 119, 110, 78, 97, 109, 101])), (.cst (.str [78, 111, 116, 104, 105, 110, 103, 76, 101, 102, 116]))])), (.for (.nm 3) .rng [(.cst (.int 3))] [(.asg 4 (.call 2 [(.var 1), (.lst false [(.cst .non), (.cst (.int 0)), (.cst (.str [120])), (.tup [(.cst (.int 1))]), (.call 1 [(.var 1), (.bin .pow (.cst (.int 10)) (.cst (.int 20)))])])])), (.for (.tp [5, 6]) .enm [(.bin .add (.call 5 [(.var 4)]) (.call 6 [(.var 4)]))] [(.asg 7 (.ife (.cmp .inn (.var 5) (.tup [(.cst (.int 10)), (.cst (.int 19))])) (.tup []) (.tup [(.var 4)]))), (.iff (.not (.call 3 [(.lst false [(.attr (.var 6) [99, 111, 100, 101]), (.call 4 [(.var 6)])]), (.lst false [(.item (.var 2) (.var 5)), (.var 7)])])) [(.ret (.cst (.bl false)))] []), (.asg 8 (.lst false [(.isi (.var 6) (.own 0)), (.isi (.var 6) (.ext 0)), (.isi (.var 6) (.own 1)), (.isi (.var 6) (.ext 1)), (.isi (.var 6) (.ext 2))])), (.iff (.cmp .ne (.var 8) (.lst false [(.cmp .lt (.var 5) (.cst (.int 18))), (.cmp .lt (.var 5) (.cst (.int 18))), (.cmp .eq (.var 5) (.cst (.int 18))), (.cmp .gt (.var 5) (.cst (.int 17))), (.cmp .eq (.var 5) (.cst (.int 19)))])) [(.ret (.cst (.bl false)))] []), (.asg 9 (.lst false [(.isi (.var 6) (.own 3)), (.isi (.var 6) (.own 4)), (.isi (.var 6) (.own 16)), (.isi (.var 6) (.own 13)), (.isi (.var 6) (.own 7)), (.isi (.var 6) (.own 19)), (.isi (.var 6) (.own 20))])), (.iff (.cmp .ne (.var 9) (.lst false [(.cmp .eq (.var 5) (.cst (.int 1))), (.cmp .eq (.var 5) (.cst (.int 2))), (.cmp .eq (.var 5) (.cst (.int 14))), (.cmp .eq (.var 5) (.cst (.int 11))), (.cmp .eq (.var 5) (.cst (.int 5))), (.cmp .eq (.var 5) (.cst (.int 17))), (.cmp .eq (.var 5) (.cst (.int 18)))])) [(.ret (.cst (.bl false)))] [])])]), (.ret (.cst (.bl true)))]⟩
def exns : List (Option (Tx × Option Tx)) := [none, none, some ([87, 114, 111, 110, 103, 67, 111, 117, 110, 116], some [103, 105, 118, 101, 110]), some ([73, 110, 118, 97, 108, 105, 100, 78, 117, 109, 98, 101, 114], some [103, 105, 118, 101, 110]), some ([73, 110, 118, 97, 108, 105, 100, 87, 111, 114, 100], some [103, 105, 118, 101, 110]), some ([73, 110, 118, 97, 108, 105, 100, 80, 111, 105, 110, 116], some [103, 105, 118, 101, 110]), some ([73, 110, 118, 97, 108, 105, 100, 70, 105, 101, 108, 100], some [110, 97, 109, 101]), some ([73, 110, 118, 97, 108, 105, 100, 84, 101, 120, 116], some [97, 116]), some ([73, 110, 118, 97, 108, 105, 100, 68, 101, 101, 100], some [97, 116]), some ([78, 111, 116, 78, 111, 119], some [97, 116]), some ([73, 110, 118, 97, 108, 105, 100, 67, 104, 117, 116, 101], some [103, 105, 118, 101, 110]), some ([73, 110, 118, 97, 108, 105, 100, 79, 102, 102, 101, 114], some [97, 116]), some ([85, 110, 108, 105, 107, 101], none), some ([84, 111, 111, 77, 97, 110, 121], some [109, 111, 115, 116]), some ([73, 110, 118, 97, 108, 105, 100, 78, 97, 109, 101], some [103, 105, 118, 101, 110]), some ([68, 117, 112, 108, 105, 99, 97, 116, 101, 78, 97, 109, 101], some [110, 97, 109, 101]), some ([70, 117, 108, 108], some [109, 111, 115, 116]), some ([73, 110, 118, 97, 108, 105, 100, 76, 105, 109, 105, 116], some [103, 105, 118, 101, 110]), some ([73, 110, 118, 97, 108, 105, 100, 67, 111, 109, 109, 97, 110, 100], some [97, 116]), some ([73, 110, 118, 97, 108, 105, 100, 80, 97, 103, 101], some [97, 116]), some ([85, 110, 107, 110, 111, 119, 110, 78, 97, 109, 101], some [110, 97, 109, 101]), some ([78, 111, 116, 104, 105, 110, 103, 76, 101, 102, 116], none)]
def anc : List (List Nat × List Nat) := [([0], [0]), ([1], [1]), ([2, 0], [0]), ([3, 0], [0]), ([4, 0], [0]), ([5, 0], [0]), ([6, 0], [0]), ([7, 0], [0]), ([8, 0], [0]), ([9, 0], [0]), ([10, 0], [0]), ([11, 0], [0]), ([12, 0], [0]), ([13, 0], [0]), ([14, 0], [0]), ([15, 0], [0]), ([16, 0], [0]), ([17, 0], [0]), ([18, 0], [0]), ([19, 0], [0]), ([20, 1], [1]), ([21], [1, 2])]
def sub (k : Nat) : Cl → Option Bool
  | .own c => (anc[k]?).bind fun p => if c < anc.length then some (p.1.contains c) else none
  | .ext c => (anc[k]?).bind fun p => if c < 3 then some (p.2.contains c) else none
  | _ => none
def pg : Pg := ⟨[f0, f1, f2, f3, f4, f5, f6, f7], [], exns, sub, 100⟩

end K01


set_option autoImplicit false
set_option linter.all false
set_option maxRecDepth 100000
set_option maxHeartbeats 4000000
namespace K01
open Ev
def bagL (cells : List Int) (i d mark : Int) : List D := [.lst (cells.map .int), .int i, .int d, .int mark]
theorem set_at {M : List O} {a : Nat} {o : O} (h : a < M.length) : (M.set a o)[a]? = some o := List.getElem?_set_self h
section
variable {M : List O} {a : Nat} {x0 x1 x2 x3 d : D}
theorem bag0 {Q : D → List O → Prop} (h : M[a]? = some (.lst [x0, x1, x2, x3])) : (itemD M (.ref a) (.int 0)).sat Q = Q x0 M := i_ref h 0 rfl rfl
theorem bag1 {Q : D → List O → Prop} (h : M[a]? = some (.lst [x0, x1, x2, x3])) : (itemD M (.ref a) (.int 1)).sat Q = Q x1 M := i_ref h 1 rfl rfl
theorem bag2 {Q : D → List O → Prop} (h : M[a]? = some (.lst [x0, x1, x2, x3])) : (itemD M (.ref a) (.int 2)).sat Q = Q x2 M := i_ref h 2 rfl rfl
theorem bag3 {Q : D → List O → Prop} (h : M[a]? = some (.lst [x0, x1, x2, x3])) : (itemD M (.ref a) (.int 3)).sat Q = Q x3 M := i_ref h 3 rfl rfl
theorem bagp1 {Q : Unit → List O → Prop} (h : M[a]? = some (.lst [x0, x1, x2, x3])) : (putD M (.ref a) (.int 1) d).sat Q = Q () (M.set a (.lst [x0, d, x2, x3])) := p_ref h 1 rfl (by simp)
theorem bagp2 {Q : Unit → List O → Prop} (h : M[a]? = some (.lst [x0, x1, x2, x3])) : (putD M (.ref a) (.int 2) d).sat Q = Q () (M.set a (.lst [x0, x1, d, x3])) := p_ref h 2 rfl (by simp)
end
theorem big_pos : (0 : Int) < big := by decide
theorem mul_ok {i j : Int} {M : List O} {Q : D → List O → Prop} (h : -big < j ∧ j < big) : (binop .mul (.int i) (.int j) M).sat Q = Q (.int (i * j)) M := by rw [b_mul]; simp [h]
theorem mod_ok {i j : Int} {M : List O} {Q : D → List O → Prop} (h : 0 < j) : (binop .mod (.int i) (.int j) M).sat Q = Q (.int (i % j)) M := by rw [b_mod]; simp [h]
theorem div_ok {i j : Int} {M : List O} {Q : D → List O → Prop} (h : 0 < j) (h2 : j < 2 ^ 8000) : (binop .fdiv (.int i) (.int j) M).sat Q = Q (.int (i / j)) M := by rw [b_div]; simp [h, h2]
theorem pow1018 {M : List O} {Q : D → List O → Prop} : (binop .pow (.int 10) (.int 18) M).sat Q = Q (.int 1000000000000000000) M := rfl
theorem p23 : (23 : Int) < 2 ^ 8000 := by
  have : (2 : Int) ^ 5 ≤ 2 ^ 8000 := by exact_mod_cast Nat.pow_le_pow_right (by decide) (by decide)
  omega
theorem k1 : -big < (8689 : Int) ∧ (8689 : Int) < big := by decide
theorem k2 : -big < (42061 : Int) ∧ (42061 : Int) < big := by decide
theorem k3 : -big < (37021 : Int) ∧ (37021 : Int) < big := by decide
theorem k4 : -big < (50551 : Int) ∧ (50551 : Int) < big := by decide
theorem k5 : -big < (46819 : Int) ∧ (46819 : Int) < big := by decide
theorem k6 (x : Int) : -big < x % 2147483629 ∧ x % 2147483629 < big := by
  have h1 := Int.emod_nonneg x (show (2147483629 : Int) ≠ 0 by decide)
  have h2 := Int.emod_lt_of_pos x (show (0 : Int) < 2147483629 by decide)
  unfold big
  omega
theorem fin (x m : Int) (hm : 0 < m) : 0 ≤ x % m ∧ x % m < m := ⟨Int.emod_nonneg _ (by omega), Int.emod_lt_of_pos _ hm⟩
theorem draw_spec (n : Nat) (M : List O) (a : Nat) (cells : List Int) (i d mark m : Int) (Q : D → List O → Prop) (hM : M[a]? = some (.lst (bagL cells i d mark))) (h0 : 0 ≤ i) (hd : 0 ≤ d) (hm : 0 < m) (hm2 : m < 2 ^ 8000)
    (hQ : ∀ r i' d', 0 ≤ r → r < m → 0 ≤ i' → 0 ≤ d' → Q (.int r) (M.set a (.lst (bagL cells i' d' mark)))) : (callN pg (n + 1) 1 [.ref a, .int m] M).sat Q := by
  have ha : a < M.length := (List.getElem?_eq_some_iff.mp hM).1
  refine call_sat (fd := f1) rfl rfl ?_
  unfold bagL at hM hQ
  have s0 : ∀ o, (M.set a o)[a]? = some o := fun o => set_at ha
  have p0 : (0 : Int) < 2147483629 := by decide
  have p1 : (0 : Int) < 998244353 := by decide
  have p2 : (0 : Int) < 2147483587 := by decide
  have p3 : (0 : Int) < 23 := by decide
  dsimp only [f1]
  by_cases c1 : d < 2
  · by_cases c2 : i + 1 ≤ (cells.length : Int)
    · obtain ⟨cell, hc⟩ : ∃ cell, cells[i.toNat]? = some cell := ⟨cells[i.toNat]'(by omega), List.getElem?_eq_getElem (by omega)⟩
      have hi : ∀ (Q : D → List O → Prop) (M : List O), Q (.int cell) M → (itemD M (.lst (cells.map D.int)) (.int (i + 1 - 1))).sat Q := fun Q M q => i_lst i.toNat (by omega) (by rw [List.getElem?_map, hc]; rfl) q
      have hi' : ∀ (Q : D → List O → Prop) (M : List O), (itemD M (.lst (cells.map D.int)) (.int (i + 1 - 1))).sat Q = Q (.int cell) M := fun Q M => by
        unfold itemD itemsOf seen
        simp only [ix_nat (n := (cells.map D.int).length) i.toNat (show i + 1 - 1 = (i.toNat : Int) by omega) (by simp; omega), List.getElem?_map, hc]
        rfl
      have c2' : ¬ (cells.length : Int) < i + 1 := by omega
      by_cases c3 : cell < 1000000000000000000
      · simp only [e_var, e_cst, e_bin, e_cmp, e_and, e_or, e_ife, e_not, notD_bl, e_neg, negD_int, e_tup, e_lst, mk_F, e_item, e_slc, e_attr, e_isi, e_isis, e_call, e_blt, e_mkx, e_lc, opt_some, es_nil, es_cons, et_nil, et_cons, x_ex, x_asg, x_asl, x_ret, x_iff, x_put, x_for, xs_nil, xs_cons, sat_ok, two_T, two_F, two_d, two_n, b_add, b_sub, c_lt, c_le, c_gt, c_ge, f_int, f_len_lst, f_len_tup, List.map_cons, List.map_nil, List.cons_append, List.nil_append, List.replicate, List.getElem?_cons_succ, List.getElem?_cons_zero, List.set_cons_succ, List.set_cons_zero, List.length_cons, List.length_nil, List.length_set, Nat.reduceAdd, Nat.reduceSub, Nat.reduceLT, true_and, and_true, if_true, if_false, bag0 hM, bag1 hM, bag2 hM, bag3 hM, bagp1 hM, bagp2 hM, bag0 (s0 _), bag1 (s0 _), bag2 (s0 _), bag3 (s0 _), bagp1 (s0 _), bagp2 (s0 _), mul_ok k1, mul_ok k2, mul_ok k3, mul_ok k4, mul_ok k5, mul_ok (k6 _), mod_ok p0, mod_ok p1, mod_ok p2, mod_ok hm, div_ok p3 p23, div_ok hm hm2, pow1018, c1, c2, c3, c2', hi', List.length_map, List.set_set]
        exact hQ _ _ _ (fin _ m hm).1 (fin _ m hm).2 (by omega) hd
      · simp only [e_var, e_cst, e_bin, e_cmp, e_and, e_or, e_ife, e_not, notD_bl, e_neg, negD_int, e_tup, e_lst, mk_F, e_item, e_slc, e_attr, e_isi, e_isis, e_call, e_blt, e_mkx, e_lc, opt_some, es_nil, es_cons, et_nil, et_cons, x_ex, x_asg, x_asl, x_ret, x_iff, x_put, x_for, xs_nil, xs_cons, sat_ok, two_T, two_F, two_d, two_n, b_add, b_sub, c_lt, c_le, c_gt, c_ge, f_int, f_len_lst, f_len_tup, List.map_cons, List.map_nil, List.cons_append, List.nil_append, List.replicate, List.getElem?_cons_succ, List.getElem?_cons_zero, List.set_cons_succ, List.set_cons_zero, List.length_cons, List.length_nil, List.length_set, Nat.reduceAdd, Nat.reduceSub, Nat.reduceLT, true_and, and_true, if_true, if_false, bag0 hM, bag1 hM, bag2 hM, bag3 hM, bagp1 hM, bagp2 hM, bag0 (s0 _), bag1 (s0 _), bag2 (s0 _), bag3 (s0 _), bagp1 (s0 _), bagp2 (s0 _), mul_ok k1, mul_ok k2, mul_ok k3, mul_ok k4, mul_ok k5, mul_ok (k6 _), mod_ok p0, mod_ok p1, mod_ok p2, mod_ok hm, div_ok p3 p23, div_ok hm hm2, pow1018, c1, c2, c3, c2', hi', List.length_map, List.set_set]
        exact hQ _ _ _ (fin _ m hm).1 (fin _ m hm).2 (by omega) (Int.ediv_nonneg (by omega) (by omega))
    · have c2' : (cells.length : Int) < i + 1 := by omega
      simp only [e_var, e_cst, e_bin, e_cmp, e_and, e_or, e_ife, e_not, notD_bl, e_neg, negD_int, e_tup, e_lst, mk_F, e_item, e_slc, e_attr, e_isi, e_isis, e_call, e_blt, e_mkx, e_lc, opt_some, es_nil, es_cons, et_nil, et_cons, x_ex, x_asg, x_asl, x_ret, x_iff, x_put, x_for, xs_nil, xs_cons, sat_ok, two_T, two_F, two_d, two_n, b_add, b_sub, c_lt, c_le, c_gt, c_ge, f_int, f_len_lst, f_len_tup, List.map_cons, List.map_nil, List.cons_append, List.nil_append, List.replicate, List.getElem?_cons_succ, List.getElem?_cons_zero, List.set_cons_succ, List.set_cons_zero, List.length_cons, List.length_nil, List.length_set, Nat.reduceAdd, Nat.reduceSub, Nat.reduceLT, true_and, and_true, if_true, if_false, bag0 hM, bag1 hM, bag2 hM, bag3 hM, bagp1 hM, bagp2 hM, bag0 (s0 _), bag1 (s0 _), bag2 (s0 _), bag3 (s0 _), bagp1 (s0 _), bagp2 (s0 _), mul_ok k1, mul_ok k2, mul_ok k3, mul_ok k4, mul_ok k5, mul_ok (k6 _), mod_ok p0, mod_ok p1, mod_ok p2, mod_ok hm, div_ok p3 p23, div_ok hm hm2, pow1018, c1, c2, c2', List.length_map, List.set_set]
      exact hQ _ _ _ (fin _ m hm).1 (fin _ m hm).2 (by omega) hd
  · simp only [e_var, e_cst, e_bin, e_cmp, e_and, e_or, e_ife, e_not, notD_bl, e_neg, negD_int, e_tup, e_lst, mk_F, e_item, e_slc, e_attr, e_isi, e_isis, e_call, e_blt, e_mkx, e_lc, opt_some, es_nil, es_cons, et_nil, et_cons, x_ex, x_asg, x_asl, x_ret, x_iff, x_put, x_for, xs_nil, xs_cons, sat_ok, two_T, two_F, two_d, two_n, b_add, b_sub, c_lt, c_le, c_gt, c_ge, f_int, f_len_lst, f_len_tup, List.map_cons, List.map_nil, List.cons_append, List.nil_append, List.replicate, List.getElem?_cons_succ, List.getElem?_cons_zero, List.set_cons_succ, List.set_cons_zero, List.length_cons, List.length_nil, List.length_set, Nat.reduceAdd, Nat.reduceSub, Nat.reduceLT, true_and, and_true, if_true, if_false, bag0 hM, bag1 hM, bag2 hM, bag3 hM, bagp1 hM, bagp2 hM, bag0 (s0 _), bag1 (s0 _), bag2 (s0 _), bag3 (s0 _), bagp1 (s0 _), bagp2 (s0 _), mod_ok hm, div_ok hm hm2, c1, List.set_set]
    exact hQ _ _ _ (fin _ m hm).1 (fin _ m hm).2 (by omega) (Int.ediv_nonneg (by omega) (by omega))
end K01


set_option autoImplicit false
set_option linter.all false
set_option maxRecDepth 100000
set_option maxHeartbeats 4000000
namespace K01
open Ev
mutual
/-- plain data, not deeper than n, not longer than the line -/
def pd : Nat → D → Prop
  | _, .non => True
  | _, .bl _ => True
  | _, .int _ => True
  | _, .str s => okTx s = true
  | n + 1, .tup ds => ds.length < lim ∧ pds n ds
  | n + 1, .lst ds => ds.length < lim ∧ pds n ds
  | _, _ => False
def pds : Nat → List D → Prop
  | _, [] => True
  | n, d :: ds => pd n d ∧ pds n ds
end
mutual
theorem pd_dat : ∀ (n : Nat) (d : D), pd n d → dat n d = true
  | n, .non, _ => by simp [dat]
  | n, .bl _, _ => by simp [dat]
  | n, .int _, _ => by simp [dat]
  | n, .str s, h => by simpa [dat, pd] using h
  | n + 1, .tup ds, h => by rw [pd] at h; rw [dat]; exact pds_dat n ds h.2
  | n + 1, .lst ds, h => by rw [pd] at h; rw [dat]; exact pds_dat n ds h.2
  | 0, .tup ds, h => by simp [pd] at h
  | 0, .lst ds, h => by simp [pd] at h
  | n, .obj _ _ _, h => by cases n <;> simp [pd] at h
  | n, .exc _ _ _, h => by cases n <;> simp [pd] at h
  | n, .ref _, h => by cases n <;> simp [pd] at h
  | n, .fro _, h => by cases n <;> simp [pd] at h
theorem pds_dat : ∀ (n : Nat) (ds : List D), pds n ds → dats n ds = true
  | n, [], _ => by simp [dats]
  | n, d :: ds, h => by rw [pds] at h; rw [dats, pd_dat n d h.1, pds_dat n ds h.2]; rfl
end
mutual
theorem eqD_refl : ∀ (n : Nat) (d : D), pd n d → eqD d d = true
  | n, .non, _ => by simp [eqD]
  | n, .bl _, _ => by simp [eqD]
  | n, .int _, _ => by simp [eqD]
  | n, .str s, h => by
    rw [eqD]
    induction s with
    | nil => rfl
    | cons c r ih => rw [txEq, Nat.beq_refl]; exact ih (by have h' : okTx (c :: r) = true := by cases n <;> simpa [pd] using h
                                                           rw [okTx, Bool.and_eq_true] at h'; cases n <;> simpa [pd] using h'.2)
  | n + 1, .tup ds, h => by rw [pd] at h; rw [eqD]; exact eqDs_refl n ds h.2
  | n + 1, .lst ds, h => by rw [pd] at h; rw [eqD]; exact eqDs_refl n ds h.2
  | 0, .tup ds, h => by simp [pd] at h
  | 0, .lst ds, h => by simp [pd] at h
  | n, .obj _ _ _, h => by cases n <;> simp [pd] at h
  | n, .exc _ _ _, h => by cases n <;> simp [pd] at h
  | n, .ref _, h => by cases n <;> simp [pd] at h
  | n, .fro _, h => by cases n <;> simp [pd] at h
theorem eqDs_refl : ∀ (n : Nat) (ds : List D), pds n ds → eqDs ds ds = true
  | n, [], _ => by simp [eqDs]
  | n, d :: ds, h => by rw [pds] at h; rw [eqDs, eqD_refl n d h.1, eqDs_refl n ds h.2]; rfl
end
theorem c_eq {M : List O} {x y : D} {Q : D → List O → Prop} (h1 : dat 60 (seen M x) = true) (h2 : dat 60 (seen M y) = true) : (cmpop .eq x y M).sat Q = Q (.bl (eqD (seen M x) (seen M y))) M := by
  unfold cmpop; simp only [h1, h2, Bool.and_self, if_true, sat_ok]
theorem c_ne {M : List O} {x y : D} {Q : D → List O → Prop} (h1 : dat 60 (seen M x) = true) (h2 : dat 60 (seen M y) = true) : (cmpop .ne x y M).sat Q = Q (.bl (!eqD (seen M x) (seen M y))) M := by
  unfold cmpop; simp only [h1, h2, Bool.and_self, if_true, sat_ok]
theorem c_eqb {M : List O} {x y : Bool} {Q : D → List O → Prop} : (cmpop .eq (.bl x) (.bl y) M).sat Q = Q (.bl (x == y)) M := rfl
theorem c_neb {M : List O} {x y : Bool} {Q : D → List O → Prop} : (cmpop .ne (.bl x) (.bl y) M).sat Q = Q (.bl (!(x == y))) M := rfl
theorem c_eqi {M : List O} {x y : Int} {Q : D → List O → Prop} : (cmpop .eq (.int x) (.int y) M).sat Q = Q (.bl (decide (x = y))) M := rfl
theorem c_nei {M : List O} {x y : Int} {Q : D → List O → Prop} : (cmpop .ne (.int x) (.int y) M).sat Q = Q (.bl (!decide (x = y))) M := rfl
/-- all true -/
theorem all_rep (k : Nat) : allTrue (List.replicate k (.bl true)) = some true := by
  induction k with
  | zero => rfl
  | succ k ih => rw [List.replicate_succ, allTrue, ih]; rfl
theorem f_all {l : List D} {M : List O} {Q : D → List O → Prop} {b : Bool} (h : allTrue l = some b) : (bltn 2 [.lst l] M).sat Q = Q (.bl b) M := by
  unfold bltn listOf seen
  simp only [h]
  rfl
theorem w_zipL {a b : List D} : walkOf .zip [.lst a, .lst b] = some (zips a b) := rfl
theorem w_zipT {a b : List D} : walkOf .zip [.tup a, .tup b] = some (zips a b) := rfl
theorem zips_self : ∀ (l : List D), zips l l = l.map fun d => .tup [d, d]
  | [] => rfl
  | d :: l => by rw [zips, zips_self l]; rfl
def isNon : D → Bool
  | .non => true
  | _ => false
theorem c_is {M : List O} {x : D} {Q : D → List O → Prop} : (cmpop .is x .non M).sat Q = Q (.bl (isNon x)) M := by cases x <;> rfl
theorem c_isn {M : List O} {x : D} {Q : D → List O → Prop} : (cmpop .isn x .non M).sat Q = Q (.bl (!isNon x)) M := by cases x <;> rfl
theorem c_self {M : List O} {d : D} {Q : D → List O → Prop} {n : Nat} (h : pd n d) (hn : n ≤ 60) (hs : seen M d = d) (hd : dat 60 d = true) : (cmpop .eq d d M).sat Q = Q (.bl true) M := by
  rw [c_eq (by rw [hs]; exact hd) (by rw [hs]; exact hd), hs, eqD_refl n d h]
/-- the comprehension over pairs of equals -/
theorem comp_same {elt : En → List O → Rs D} {tests : En → List O → Rs Bool} {env : En} {i j : Nat} {Q : List D → List O → Prop} (hi : i < env.length) (hj : j < env.length) (ht : ∀ env1 M (Q : Bool → List O → Prop), Q true M → (tests env1 M).sat Q) :
    ∀ (ds : List D) (acc : Nat) (M : List O), acc + ds.length < lim → (∀ d ∈ ds, ∀ (Q : D → List O → Prop), Q (.bl true) M → (elt ((env.set i (some d)).set j (some d)) M).sat Q) → Q (List.replicate (acc + ds.length) (.bl true)) M →
      (comp elt tests (.tp [i, j]) (ds.map fun d => .tup [d, d]) (List.replicate acc (.bl true)) env M).sat Q
  | [], acc, M, _, _, q => q
  | d :: ds, acc, M, hl, he, q => by
    rw [List.map_cons, comp_cons]
    have e : setP (.tp [i, j]) (.tup [d, d]) env = some ((env.set i (some d)).set j (some d)) := by
      show setPs [i, j] [d, d] env = _
      simp only [setPs, hi, if_true, List.length_set, hj]
    rw [e, opt_some]
    refine ht _ _ _ ?_
    rw [if_pos rfl]
    refine he d List.mem_cons_self _ ⟨by rw [List.length_replicate]; simp at hl; omega, ?_⟩
    rw [show List.replicate acc (D.bl true) ++ [.bl true] = List.replicate (acc + 1) (.bl true) from List.replicate_succ'.symm]
    refine comp_same hi hj ht ds (acc + 1) M (by simp at hl; omega) (fun d hd => he d (List.mem_cons_of_mem _ hd)) ?_
    rw [show acc + 1 + ds.length = acc + (d :: ds).length by simp; omega]
    exact q
theorem pds_mem : ∀ {n : Nat} {ds : List D} {d : D}, pds n ds → d ∈ ds → pd n d
  | n, d' :: ds, d, h, hd => by
    rw [pds] at h
    rcases List.mem_cons.mp hd with e | e
    · subst e; exact h.1
    · exact pds_mem h.2 e
theorem same_refl : ∀ (n : Nat) (d : D) (M : List O) (Q : D → List O → Prop) (k : Nat), n ≤ 59 → pd n d → Q (.bl true) M → (callN pg (k + n + 1) 3 [d, d] M).sat Q
  | n, .non, M, Q, k, _, h, q => by
    refine call_sat (fd := f3) rfl rfl ?_
    dsimp only [f3]
    simp only [e_var, e_cst, e_bin, e_cmp, e_and, e_or, e_ife, e_not, notD_bl, e_neg, negD_int, e_tup, e_lst, mk_F, e_item, e_slc, e_attr, e_isi, e_isis, e_call, e_blt, e_mkx, e_lc, opt_some, es_nil, es_cons, et_nil, et_cons, x_ex, x_asg, x_asl, x_ret, x_iff, x_put, x_for, xs_nil, xs_cons, sat_ok, two_T, two_F, two_d, two_n, b_add, b_sub, c_lt, c_le, c_gt, c_ge, f_int, f_len_lst, f_len_tup, List.map_cons, List.map_nil, List.cons_append, List.nil_append, List.replicate, List.getElem?_cons_succ, List.getElem?_cons_zero, List.set_cons_succ, List.set_cons_zero, List.length_cons, List.length_nil, List.length_set, Nat.reduceAdd, Nat.reduceSub, Nat.reduceLT, true_and, and_true, if_true, if_false]
    exact q
  | n, .bl b, M, Q, k, _, h, q => by
    refine call_sat (fd := f3) rfl rfl ?_
    dsimp only [f3]
    simp only [e_var, e_cst, e_bin, e_cmp, e_and, e_or, e_ife, e_not, notD_bl, e_neg, negD_int, e_tup, e_lst, mk_F, e_item, e_slc, e_attr, e_isi, e_isis, e_call, e_blt, e_mkx, e_lc, opt_some, es_nil, es_cons, et_nil, et_cons, x_ex, x_asg, x_asl, x_ret, x_iff, x_put, x_for, xs_nil, xs_cons, sat_ok, two_T, two_F, two_d, two_n, b_add, b_sub, c_lt, c_le, c_gt, c_ge, f_int, f_len_lst, f_len_tup, List.map_cons, List.map_nil, List.cons_append, List.nil_append, List.replicate, List.getElem?_cons_succ, List.getElem?_cons_zero, List.set_cons_succ, List.set_cons_zero, List.length_cons, List.length_nil, List.length_set, Nat.reduceAdd, Nat.reduceSub, Nat.reduceLT, true_and, and_true, if_true, if_false, c_is, isNon, isiD, isA, seen, c_eqb, beq_self_eq_true]
    exact q
  | n, .int i, M, Q, k, _, h, q => by
    refine call_sat (fd := f3) rfl rfl ?_
    dsimp only [f3]
    simp only [e_var, e_cst, e_bin, e_cmp, e_and, e_or, e_ife, e_not, notD_bl, e_neg, negD_int, e_tup, e_lst, mk_F, e_item, e_slc, e_attr, e_isi, e_isis, e_call, e_blt, e_mkx, e_lc, opt_some, es_nil, es_cons, et_nil, et_cons, x_ex, x_asg, x_asl, x_ret, x_iff, x_put, x_for, xs_nil, xs_cons, sat_ok, two_T, two_F, two_d, two_n, b_add, b_sub, c_lt, c_le, c_gt, c_ge, f_int, f_len_lst, f_len_tup, List.map_cons, List.map_nil, List.cons_append, List.nil_append, List.replicate, List.getElem?_cons_succ, List.getElem?_cons_zero, List.set_cons_succ, List.set_cons_zero, List.length_cons, List.length_nil, List.length_set, Nat.reduceAdd, Nat.reduceSub, Nat.reduceLT, true_and, and_true, if_true, if_false, c_is, isNon, isiD, isA, seen, isisD, isAny, c_eqb, Bool.or_true, Bool.or_false, beq_self_eq_true, c_eqi, decide_true]
    exact q
  | n, .str s, M, Q, k, _, h, q => by
    refine call_sat (fd := f3) rfl rfl ?_
    dsimp only [f3]
    have e1 := eqD_refl n (.str s) h
    have e2 : dat 60 (.str s) = true := by cases n <;> simpa [pd, dat] using h
    simp only [e_var, e_cst, e_bin, e_cmp, e_and, e_or, e_ife, e_not, notD_bl, e_neg, negD_int, e_tup, e_lst, mk_F, e_item, e_slc, e_attr, e_isi, e_isis, e_call, e_blt, e_mkx, e_lc, opt_some, es_nil, es_cons, et_nil, et_cons, x_ex, x_asg, x_asl, x_ret, x_iff, x_put, x_for, xs_nil, xs_cons, sat_ok, two_T, two_F, two_d, two_n, b_add, b_sub, c_lt, c_le, c_gt, c_ge, f_int, f_len_lst, f_len_tup, List.map_cons, List.map_nil, List.cons_append, List.nil_append, List.replicate, List.getElem?_cons_succ, List.getElem?_cons_zero, List.set_cons_succ, List.set_cons_zero, List.length_cons, List.length_nil, List.length_set, Nat.reduceAdd, Nat.reduceSub, Nat.reduceLT, true_and, and_true, if_true, if_false, c_is, isNon, isiD, isA, seen, isisD, isAny, c_eqb, Bool.or_true, Bool.or_false, beq_self_eq_true, c_self h (by omega) rfl e2]
    exact q
  | n + 1, .tup ds, M, Q, k, hn, h, q => by
    rw [pd] at h
    refine call_sat (fd := f3) rfl rfl ?_
    dsimp only [f3]
    simp only [e_var, e_cst, e_bin, e_cmp, e_and, e_or, e_ife, e_not, notD_bl, e_neg, negD_int, e_tup, e_lst, mk_F, e_item, e_slc, e_attr, e_isi, e_isis, e_call, e_blt, e_mkx, e_lc, opt_some, es_nil, es_cons, et_nil, et_cons, x_ex, x_asg, x_asl, x_ret, x_iff, x_put, x_for, xs_nil, xs_cons, sat_ok, two_T, two_F, two_d, two_n, b_add, b_sub, c_lt, c_le, c_gt, c_ge, f_int, f_len_lst, f_len_tup, List.map_cons, List.map_nil, List.cons_append, List.nil_append, List.replicate, List.getElem?_cons_succ, List.getElem?_cons_zero, List.set_cons_succ, List.set_cons_zero, List.length_cons, List.length_nil, List.length_set, Nat.reduceAdd, Nat.reduceSub, Nat.reduceLT, true_and, and_true, if_true, if_false, c_is, isNon, isiD, isA, seen, isisD, isAny, c_neb, c_eqi, Bool.or_true, Bool.or_false, beq_self_eq_true, Bool.not_true, decide_true, w_zipT, zips_self]
    refine comp_same (i := 2) (j := 3) (by simp [wipeE, pslots]) (by simp [wipeE, pslots]) (fun _ _ _ q => by rw [et_nil]; exact q) ds 0 M (by omega) (fun d hd Q q => ?_) ?_
    · simp only [wipeE, pslots]
      simp only [e_var, e_cst, e_bin, e_cmp, e_and, e_or, e_ife, e_not, notD_bl, e_neg, negD_int, e_tup, e_lst, mk_F, e_item, e_slc, e_attr, e_isi, e_isis, e_call, e_blt, e_mkx, e_lc, opt_some, es_nil, es_cons, et_nil, et_cons, x_ex, x_asg, x_asl, x_ret, x_iff, x_put, x_for, xs_nil, xs_cons, sat_ok, two_T, two_F, two_d, two_n, b_add, b_sub, c_lt, c_le, c_gt, c_ge, f_int, f_len_lst, f_len_tup, List.map_cons, List.map_nil, List.cons_append, List.nil_append, List.replicate, List.getElem?_cons_succ, List.getElem?_cons_zero, List.set_cons_succ, List.set_cons_zero, List.length_cons, List.length_nil, List.length_set, Nat.reduceAdd, Nat.reduceSub, Nat.reduceLT, true_and, and_true, if_true, if_false]
      exact same_refl n d M Q k (by omega) (pds_mem h.2 hd) q
    · rw [f_all (all_rep _)]
      exact q
  | n + 1, .lst ds, M, Q, k, hn, h, q => by
    rw [pd] at h
    refine call_sat (fd := f3) rfl rfl ?_
    dsimp only [f3]
    simp only [e_var, e_cst, e_bin, e_cmp, e_and, e_or, e_ife, e_not, notD_bl, e_neg, negD_int, e_tup, e_lst, mk_F, e_item, e_slc, e_attr, e_isi, e_isis, e_call, e_blt, e_mkx, e_lc, opt_some, es_nil, es_cons, et_nil, et_cons, x_ex, x_asg, x_asl, x_ret, x_iff, x_put, x_for, xs_nil, xs_cons, sat_ok, two_T, two_F, two_d, two_n, b_add, b_sub, c_lt, c_le, c_gt, c_ge, f_int, f_len_lst, f_len_tup, List.map_cons, List.map_nil, List.cons_append, List.nil_append, List.replicate, List.getElem?_cons_succ, List.getElem?_cons_zero, List.set_cons_succ, List.set_cons_zero, List.length_cons, List.length_nil, List.length_set, Nat.reduceAdd, Nat.reduceSub, Nat.reduceLT, true_and, and_true, if_true, if_false, c_is, isNon, isiD, isA, seen, isisD, isAny, c_neb, c_eqi, Bool.or_true, Bool.or_false, beq_self_eq_true, Bool.not_true, decide_true, w_zipL, zips_self]
    refine comp_same (i := 2) (j := 3) (by simp [wipeE, pslots]) (by simp [wipeE, pslots]) (fun _ _ _ q => by rw [et_nil]; exact q) ds 0 M (by omega) (fun d hd Q q => ?_) ?_
    · simp only [wipeE, pslots]
      simp only [e_var, e_cst, e_bin, e_cmp, e_and, e_or, e_ife, e_not, notD_bl, e_neg, negD_int, e_tup, e_lst, mk_F, e_item, e_slc, e_attr, e_isi, e_isis, e_call, e_blt, e_mkx, e_lc, opt_some, es_nil, es_cons, et_nil, et_cons, x_ex, x_asg, x_asl, x_ret, x_iff, x_put, x_for, xs_nil, xs_cons, sat_ok, two_T, two_F, two_d, two_n, b_add, b_sub, c_lt, c_le, c_gt, c_ge, f_int, f_len_lst, f_len_tup, List.map_cons, List.map_nil, List.cons_append, List.nil_append, List.replicate, List.getElem?_cons_succ, List.getElem?_cons_zero, List.set_cons_succ, List.set_cons_zero, List.length_cons, List.length_nil, List.length_set, Nat.reduceAdd, Nat.reduceSub, Nat.reduceLT, true_and, and_true, if_true, if_false]
      exact same_refl n d M Q k (by omega) (pds_mem h.2 hd) q
    · rw [f_all (all_rep _)]
      exact q
  | 0, .tup ds, M, Q, k, _, h, q => by simp [pd] at h
  | 0, .lst ds, M, Q, k, _, h, q => by simp [pd] at h
  | n, .obj _ _ _, M, Q, k, _, h, q => by cases n <;> simp [pd] at h
  | n, .exc _ _ _, M, Q, k, _, h, q => by cases n <;> simp [pd] at h
  | n, .ref _, M, Q, k, _, h, q => by cases n <;> simp [pd] at h
  | n, .fro _, M, Q, k, _, h, q => by cases n <;> simp [pd] at h
end K01


set_option autoImplicit false
set_option linter.all false
set_option maxRecDepth 100000
set_option maxHeartbeats 4000000
namespace K01
open Ev
theorem w_val_lst {l : List D} : walkOf .val [.lst l] = some l := rfl
theorem bag_spec (n : Nat) (ns : List Int) (M : List O) (Q : D → List O → Prop) (hl : ns.length ≤ 63) (hQ : ∀ cells mark, Q (.ref M.length) (M ++ [.lst (bagL cells 0 0 mark)])) : (callN pg (n + 1) 0 [.fro (ns.map D.int)] M).sat Q := by
  refine call_sat (fd := f0) rfl rfl ?_
  dsimp only [f0]
  simp only [e_var, e_cst, e_bin, e_cmp, e_and, e_or, e_ife, e_not, notD_bl, e_neg, negD_int, e_tup, e_lst, mk_F, e_item, e_slc, e_attr, e_isi, e_isis, e_call, e_blt, e_mkx, e_lc, opt_some, es_nil, es_cons, et_nil, et_cons, x_ex, x_asg, x_asl, x_ret, x_iff, x_put, x_for, xs_nil, xs_cons, sat_ok, two_T, two_F, two_d, two_n, b_add, b_sub, c_lt, c_le, c_gt, c_ge, f_int, f_len_lst, f_len_tup, List.map_cons, List.map_nil, List.cons_append, List.nil_append, List.replicate, List.getElem?_cons_succ, List.getElem?_cons_zero, List.set_cons_succ, List.set_cons_zero, List.length_cons, List.length_nil, List.length_set, Nat.reduceAdd, Nat.reduceSub, Nat.reduceLT, true_and, and_true, if_true, if_false]
  have e : ∀ (Q : D → List O → Prop), (slcD M (.fro (ns.map D.int)) [] [.int 63]).sat Q = Q (.lst (cut (ns.map D.int) none (some 63))) M := fun Q => rfl
  rw [e, w_val_lst, opt_some]
  obtain ⟨l, hc, hcl⟩ : ∃ l : List Int, cut (ns.map D.int) none (some 63) = l.map D.int ∧ l.length ≤ 63 := by
    refine ⟨(ns.drop (sx ns.length 0 none)).take (sx ns.length ns.length (some 63) - sx ns.length 0 none), ?_, ?_⟩
    · unfold cut
      rw [List.length_map, List.map_take, List.map_drop]
    · rw [List.length_take, List.length_drop]
      omega
  rw [hc]
  refine comp_sat (fun ds acc M' => M' = M ∧ ∃ p r : List Int, acc = p.map D.int ∧ ds = r.map D.int ∧ p ++ r = l) _ _ _ ⟨rfl, [], l, rfl, rfl, rfl⟩ ?_ ?_
  · rintro d r acc M' ⟨rfl, p, q, h1, h2, h3⟩
    cases q with
    | nil => cases h2
    | cons i q =>
      rw [List.map_cons] at h2
      obtain ⟨rfl, rfl⟩ := List.cons.inj h2
      have hp : p.length < lim := by
        have := congrArg List.length h3
        rw [List.length_append, List.length_cons] at this
        unfold lim
        omega
      refine ⟨by rw [h1, List.length_map]; exact hp, _, rfl, ?_⟩
      rw [et_nil, if_pos rfl]
      simp only [wipeE, pslots]
      simp only [e_var, e_cst, e_bin, e_cmp, e_and, e_or, e_ife, e_not, notD_bl, e_neg, negD_int, e_tup, e_lst, mk_F, e_item, e_slc, e_attr, e_isi, e_isis, e_call, e_blt, e_mkx, e_lc, opt_some, es_nil, es_cons, et_nil, et_cons, x_ex, x_asg, x_asl, x_ret, x_iff, x_put, x_for, xs_nil, xs_cons, sat_ok, two_T, two_F, two_d, two_n, b_add, b_sub, c_lt, c_le, c_gt, c_ge, f_int, f_len_lst, f_len_tup, List.map_cons, List.map_nil, List.cons_append, List.nil_append, List.replicate, List.getElem?_cons_succ, List.getElem?_cons_zero, List.set_cons_succ, List.set_cons_zero, List.length_cons, List.length_nil, List.length_set, Nat.reduceAdd, Nat.reduceSub, Nat.reduceLT, true_and, and_true, if_true, if_false]
      exact ⟨p ++ [i], q, by rw [h1, List.map_append]; rfl, rfl, by rw [List.append_assoc]; exact h3⟩
  · rintro acc M' ⟨rfl, p, q, h1, h2, h3⟩
    have hq : q = [] := by cases q with
      | nil => rfl
      | cons _ _ => cases h2
    subst hq
    rw [List.append_nil] at h3
    subst h3
    subst h1
    simp only [e_var, e_cst, e_bin, e_cmp, e_and, e_or, e_ife, e_not, notD_bl, e_neg, negD_int, e_tup, e_lst, mk_F, e_item, e_slc, e_attr, e_isi, e_isis, e_call, e_blt, e_mkx, e_lc, opt_some, es_nil, es_cons, et_nil, et_cons, x_ex, x_asg, x_asl, x_ret, x_iff, x_put, x_for, xs_nil, xs_cons, sat_ok, two_T, two_F, two_d, two_n, b_add, b_sub, c_lt, c_le, c_gt, c_ge, f_int, f_len_lst, f_len_tup, List.map_cons, List.map_nil, List.cons_append, List.nil_append, List.replicate, List.getElem?_cons_succ, List.getElem?_cons_zero, List.set_cons_succ, List.set_cons_zero, List.length_cons, List.length_nil, List.length_set, Nat.reduceAdd, Nat.reduceSub, Nat.reduceLT, true_and, and_true, if_true, if_false, mul_ok (show -big < (p.map D.int).length ∧ ((p.map D.int).length : Int) < big by rw [List.length_map]; unfold big; omega), w_val_lst]
    refine loop_sat (fun ds env M1 => M1 = M' ∧ (∃ r : List Int, ds = r.map D.int) ∧ ∃ (mark : Int) (x : Option D), env = [some (.fro (ns.map D.int)), some (.lst (p.map D.int)), some (.int mark), x]) _ _ _ ⟨rfl, ⟨p, rfl⟩, _, _, rfl⟩ ?_ ?_
    · rintro d r env M1 ⟨rfl, ⟨l, h1⟩, mark, x, rfl⟩
      cases l with
      | nil => cases h1
      | cons i l =>
        obtain ⟨rfl, rfl⟩ := List.cons.inj h1
        refine ⟨_, rfl, ?_⟩
        simp only [e_var, e_cst, e_bin, e_cmp, e_and, e_or, e_ife, e_not, notD_bl, e_neg, negD_int, e_tup, e_lst, mk_F, e_item, e_slc, e_attr, e_isi, e_isis, e_call, e_blt, e_mkx, e_lc, opt_some, es_nil, es_cons, et_nil, et_cons, x_ex, x_asg, x_asl, x_ret, x_iff, x_put, x_for, xs_nil, xs_cons, sat_ok, two_T, two_F, two_d, two_n, b_add, b_sub, c_lt, c_le, c_gt, c_ge, f_int, f_len_lst, f_len_tup, List.map_cons, List.map_nil, List.cons_append, List.nil_append, List.replicate, List.getElem?_cons_succ, List.getElem?_cons_zero, List.set_cons_succ, List.set_cons_zero, List.length_cons, List.length_nil, List.length_set, Nat.reduceAdd, Nat.reduceSub, Nat.reduceLT, true_and, and_true, if_true, if_false, mul_ok (show -big < (7349 : Int) ∧ (7349 : Int) < big by decide), mod_ok (show (0 : Int) < 2147483477 by decide)]
        exact ⟨⟨l, rfl⟩, _, _, rfl⟩
    · rintro env M1 ⟨rfl, _, mark, x, rfl⟩
      simp only [e_var, e_cst, e_bin, e_cmp, e_and, e_or, e_ife, e_not, notD_bl, e_neg, negD_int, e_tup, e_lst, mk_F, e_item, e_slc, e_attr, e_isi, e_isis, e_call, e_blt, e_mkx, e_lc, opt_some, es_nil, es_cons, et_nil, et_cons, x_ex, x_asg, x_asl, x_ret, x_iff, x_put, x_for, xs_nil, xs_cons, sat_ok, two_T, two_F, two_d, two_n, b_add, b_sub, c_lt, c_le, c_gt, c_ge, f_int, f_len_lst, f_len_tup, List.map_cons, List.map_nil, List.cons_append, List.nil_append, List.replicate, List.getElem?_cons_succ, List.getElem?_cons_zero, List.set_cons_succ, List.set_cons_zero, List.length_cons, List.length_nil, List.length_set, Nat.reduceAdd, Nat.reduceSub, Nat.reduceLT, true_and, and_true, if_true, if_false, mk_T]
      exact ⟨by decide, hQ p mark⟩
def x0 (far : D) : D := .exc 2 [[103, 105, 118, 101, 110], [99, 111, 100, 101]] [far, .str [87, 114, 111, 110, 103, 67, 111, 117, 110, 116]]
theorem fl0 (n : Nat) (far : D) (M : List O) : callN pg (n + 1) 4 [x0 far] M = .ok (.tup [far]) M := rfl
def x1 (far : D) : D := .exc 3 [[103, 105, 118, 101, 110], [99, 111, 100, 101]] [far, .str [73, 110, 118, 97, 108, 105, 100, 78, 117, 109, 98, 101, 114]]
theorem fl1 (n : Nat) (far : D) (M : List O) : callN pg (n + 1) 4 [x1 far] M = .ok (.tup [far]) M := rfl
def x2 (far : D) : D := .exc 4 [[103, 105, 118, 101, 110], [99, 111, 100, 101]] [far, .str [73, 110, 118, 97, 108, 105, 100, 87, 111, 114, 100]]
theorem fl2 (n : Nat) (far : D) (M : List O) : callN pg (n + 1) 4 [x2 far] M = .ok (.tup [far]) M := rfl
def x3 (far : D) : D := .exc 5 [[103, 105, 118, 101, 110], [99, 111, 100, 101]] [far, .str [73, 110, 118, 97, 108, 105, 100, 80, 111, 105, 110, 116]]
theorem fl3 (n : Nat) (far : D) (M : List O) : callN pg (n + 1) 4 [x3 far] M = .ok (.tup [far]) M := rfl
def x4 (far : D) : D := .exc 6 [[110, 97, 109, 101], [99, 111, 100, 101]] [far, .str [73, 110, 118, 97, 108, 105, 100, 70, 105, 101, 108, 100]]
theorem fl4 (n : Nat) (far : D) (M : List O) : callN pg (n + 1) 4 [x4 far] M = .ok (.tup [far]) M := rfl
def x5 (far : D) : D := .exc 7 [[97, 116], [99, 111, 100, 101]] [far, .str [73, 110, 118, 97, 108, 105, 100, 84, 101, 120, 116]]
theorem fl5 (n : Nat) (far : D) (M : List O) : callN pg (n + 1) 4 [x5 far] M = .ok (.tup [far]) M := rfl
def x6 (far : D) : D := .exc 8 [[97, 116], [99, 111, 100, 101]] [far, .str [73, 110, 118, 97, 108, 105, 100, 68, 101, 101, 100]]
theorem fl6 (n : Nat) (far : D) (M : List O) : callN pg (n + 1) 4 [x6 far] M = .ok (.tup [far]) M := rfl
def x7 (far : D) : D := .exc 9 [[97, 116], [99, 111, 100, 101]] [far, .str [78, 111, 116, 78, 111, 119]]
theorem fl7 (n : Nat) (far : D) (M : List O) : callN pg (n + 1) 4 [x7 far] M = .ok (.tup [far]) M := rfl
def x8 (far : D) : D := .exc 10 [[103, 105, 118, 101, 110], [99, 111, 100, 101]] [far, .str [73, 110, 118, 97, 108, 105, 100, 67, 104, 117, 116, 101]]
theorem fl8 (n : Nat) (far : D) (M : List O) : callN pg (n + 1) 4 [x8 far] M = .ok (.tup [far]) M := rfl
def x9 (far : D) : D := .exc 11 [[97, 116], [99, 111, 100, 101]] [far, .str [73, 110, 118, 97, 108, 105, 100, 79, 102, 102, 101, 114]]
theorem fl9 (n : Nat) (far : D) (M : List O) : callN pg (n + 1) 4 [x9 far] M = .ok (.tup [far]) M := rfl
def x10 (far : D) : D := .exc 12 [[99, 111, 100, 101]] [.str [85, 110, 108, 105, 107, 101]]
theorem fl10 (n : Nat) (far : D) (M : List O) : callN pg (n + 1) 4 [x10 far] M = .ok (.tup []) M := rfl
def x11 (far : D) : D := .exc 13 [[109, 111, 115, 116], [99, 111, 100, 101]] [far, .str [84, 111, 111, 77, 97, 110, 121]]
theorem fl11 (n : Nat) (far : D) (M : List O) : callN pg (n + 1) 4 [x11 far] M = .ok (.tup [far]) M := rfl
def x12 (far : D) : D := .exc 14 [[103, 105, 118, 101, 110], [99, 111, 100, 101]] [far, .str [73, 110, 118, 97, 108, 105, 100, 78, 97, 109, 101]]
theorem fl12 (n : Nat) (far : D) (M : List O) : callN pg (n + 1) 4 [x12 far] M = .ok (.tup [far]) M := rfl
def x13 (far : D) : D := .exc 15 [[110, 97, 109, 101], [99, 111, 100, 101]] [far, .str [68, 117, 112, 108, 105, 99, 97, 116, 101, 78, 97, 109, 101]]
theorem fl13 (n : Nat) (far : D) (M : List O) : callN pg (n + 1) 4 [x13 far] M = .ok (.tup [far]) M := rfl
def x14 (far : D) : D := .exc 16 [[109, 111, 115, 116], [99, 111, 100, 101]] [far, .str [70, 117, 108, 108]]
theorem fl14 (n : Nat) (far : D) (M : List O) : callN pg (n + 1) 4 [x14 far] M = .ok (.tup [far]) M := rfl
def x15 (far : D) : D := .exc 17 [[103, 105, 118, 101, 110], [99, 111, 100, 101]] [far, .str [73, 110, 118, 97, 108, 105, 100, 76, 105, 109, 105, 116]]
theorem fl15 (n : Nat) (far : D) (M : List O) : callN pg (n + 1) 4 [x15 far] M = .ok (.tup [far]) M := rfl
def x16 (far : D) : D := .exc 18 [[97, 116], [99, 111, 100, 101]] [far, .str [73, 110, 118, 97, 108, 105, 100, 67, 111, 109, 109, 97, 110, 100]]
theorem fl16 (n : Nat) (far : D) (M : List O) : callN pg (n + 1) 4 [x16 far] M = .ok (.tup [far]) M := rfl
def x17 (far : D) : D := .exc 19 [[97, 116], [99, 111, 100, 101]] [far, .str [73, 110, 118, 97, 108, 105, 100, 80, 97, 103, 101]]
theorem fl17 (n : Nat) (far : D) (M : List O) : callN pg (n + 1) 4 [x17 far] M = .ok (.tup [far]) M := rfl
def x18 (far : D) : D := .exc 20 [[110, 97, 109, 101], [99, 111, 100, 101]] [far, .str [85, 110, 107, 110, 111, 119, 110, 78, 97, 109, 101]]
theorem fl18 (n : Nat) (far : D) (M : List O) : callN pg (n + 1) 4 [x18 far] M = .ok (.tup [far]) M := rfl
def x19 (far : D) : D := .exc 21 [[99, 111, 100, 101]] [.str [78, 111, 116, 104, 105, 110, 103, 76, 101, 102, 116]]
theorem fl19 (n : Nat) (far : D) (M : List O) : callN pg (n + 1) 4 [x19 far] M = .ok (.tup []) M := rfl
theorem first_ok (n : Nat) (far : D) (M : List O) : callN pg (n + 1) 5 [far] M = .ok (.lst [x0 far, x1 far, x2 far, x3 far, x4 far, x5 far, x6 far, x7 far, x8 far, x9 far]) M := rfl
theorem late_ok (n : Nat) (far : D) (M : List O) : callN pg (n + 1) 6 [far] M = .ok (.lst [x10 far, x11 far, x12 far, x13 far, x14 far, x15 far, x16 far, x17 far, x18 far, x19 far]) M := rfl
def titles : List D := [.str [87, 114, 111, 110, 103, 67, 111, 117, 110, 116], .str [73, 110, 118, 97, 108, 105, 100, 78, 117, 109, 98, 101, 114], .str [73, 110, 118, 97, 108, 105, 100, 87, 111, 114, 100], .str [73, 110, 118, 97, 108, 105, 100, 80, 111, 105, 110, 116], .str [73, 110, 118, 97, 108, 105, 100, 70, 105, 101, 108, 100], .str [73, 110, 118, 97, 108, 105, 100, 84, 101, 120, 116], .str [73, 110, 118, 97, 108, 105, 100, 68, 101, 101, 100], .str [78, 111, 116, 78, 111, 119], .str [73, 110, 118, 97, 108, 105, 100, 67, 104, 117, 116, 101], .str [73, 110, 118, 97, 108, 105, 100, 79, 102, 102, 101, 114], .str [85, 110, 108, 105, 107, 101], .str [84, 111, 111, 77, 97, 110, 121], .str [73, 110, 118, 97, 108, 105, 100, 78, 97, 109, 101], .str [68, 117, 112, 108, 105, 99, 97, 116, 101, 78, 97, 109, 101], .str [70, 117, 108, 108], .str [73, 110, 118, 97, 108, 105, 100, 76, 105, 109, 105, 116], .str [73, 110, 118, 97, 108, 105, 100, 67, 111, 109, 109, 97, 110, 100], .str [73, 110, 118, 97, 108, 105, 100, 80, 97, 103, 101], .str [85, 110, 107, 110, 111, 119, 110, 78, 97, 109, 101], .str [78, 111, 116, 104, 105, 110, 103, 76, 101, 102, 116]]

theorem of_spec (n : Nat) (M : List O) (a : Nat) (cells : List Int) (i d mark : Int) (l : List D) (Q : D → List O → Prop) (hM : M[a]? = some (.lst (bagL cells i d mark))) (h0 : 0 ≤ i) (hd : 0 ≤ d) (hl : 0 < l.length) (hl2 : (l.length : Int) < 2 ^ 8000)
    (hQ : ∀ (x : D) i' d', x ∈ l → 0 ≤ i' → 0 ≤ d' → Q x (M.set a (.lst (bagL cells i' d' mark)))) : (callN pg (n + 2) 2 [.ref a, .lst l] M).sat Q := by
  refine call_sat (fd := f2) rfl rfl ?_
  dsimp only [f2]
  simp only [e_var, e_cst, e_bin, e_cmp, e_and, e_or, e_ife, e_not, notD_bl, e_neg, negD_int, e_tup, e_lst, mk_F, e_item, e_slc, e_attr, e_isi, e_isis, e_call, e_blt, e_mkx, e_lc, opt_some, es_nil, es_cons, et_nil, et_cons, x_ex, x_asg, x_asl, x_ret, x_iff, x_put, x_for, xs_nil, xs_cons, sat_ok, two_T, two_F, two_d, two_n, b_add, b_sub, c_lt, c_le, c_gt, c_ge, f_int, f_len_lst, f_len_tup, List.map_cons, List.map_nil, List.cons_append, List.nil_append, List.replicate, List.getElem?_cons_succ, List.getElem?_cons_zero, List.set_cons_succ, List.set_cons_zero, List.length_cons, List.length_nil, List.length_set, Nat.reduceAdd, Nat.reduceSub, Nat.reduceLT, true_and, and_true, if_true, if_false]
  refine draw_spec n M a cells i d mark l.length _ hM h0 hd (by omega) hl2 fun r i' d' h1 h2 h3 h4 => ?_
  have hr : r.toNat < l.length := by omega
  exact i_lst r.toNat (by omega) (List.getElem?_eq_getElem hr) (hQ _ i' d' (List.getElem_mem hr) h3 h4)
end K01


set_option autoImplicit false
set_option linter.all false
set_option maxRecDepth 100000
set_option maxHeartbeats 4000000
namespace K01
open Ev
abbrev C (n : Nat) : Ec := ⟨callN pg n, pg.glo, pg.exn, pg.sub, pg.fuel⟩
theorem pds2 {n : Nat} {a b : D} (h1 : pd n a) (h2 : pd n b) : pd (n + 1) (.lst [a, b]) := by
  rw [pd]
  exact ⟨(by decide : 2 < lim), by rw [pds, pds, pds]; exact ⟨h1, h2, trivial⟩⟩
theorem pdt1 {n : Nat} {a : D} (h1 : pd n a) : pd (n + 1) (.tup [a]) := by
  rw [pd]
  exact ⟨(by decide : 1 < lim), by rw [pds, pds]; exact ⟨h1, trivial⟩⟩
theorem pdt0 {n : Nat} : pd (n + 1) (.tup []) := by
  rw [pd]
  exact ⟨by decide, by rw [pds]; trivial⟩
theorem pdx {n : Nat} {s : Tx} (h : okTx s = true) : pd n (.str s) := by cases n <;> simpa [pd] using h
def items (far : D) : List D := pairs 0 [x0 far, x1 far, x2 far, x3 far, x4 far, x5 far, x6 far, x7 far, x8 far, x9 far, x10 far, x11 far, x12 far, x13 far, x14 far, x15 far, x16 far, x17 far, x18 far, x19 far]
def bodyS : List S := match f7.body with
  | [_, _, .for _ _ _ [_, .for _ _ _ b], _] => b
  | _ => []
section
variable {c : Ec} {env env1 : En} {M M1 : List O} {s : S} {r : List S} {N : En → List O → Prop} {R : D → List O → Prop}
theorem xs_nx (h1 : exec c s env M = .nx env1 M1) (h2 : (execs c r env1 M1).sat N R) : (execs c (s :: r) env M).sat N R := by rw [xs_cons, h1]; exact h2
theorem xs_end {l : List S} (h1 : execs c l env M = .nx env1 M1) (h2 : N env1 M1) : (execs c l env M).sat N R := by rw [h1]; exact h2
theorem xs_same {es : List X} {f : Nat} {ds : List D} {p q : List S} (h0 : s = .iff (.not (.call f es)) p q) (h1 : evs c es env M = .ok ds M1) (hq : q = []) (h2 : (c.call f ds M1).sat fun d M2 => (d = .bl true ∧ M2 = M1)) (h3 : (execs c r env M1).sat N R) : (execs c (s :: r) env M).sat N R := by
  subst h0 hq
  obtain ⟨d, M2, e, rfl, rfl⟩ := sat_eq h2
  rw [xs_cons, x_iff, e_not, e_call, h1]
  simp only [sat_ok, e, notD_bl, Bool.not_true, two_F, xs_nil]
  exact h3
end
theorem inner (M : List O) (s far : D) (hfar : ∀ n, pd (n + 1) far) (y3 y5 y6 y7 y8 y9 : Option D) (N : En → List O → Prop) (R : D → List O → Prop) (hN : ∀ x5 x6 x7 x8 x9, N [some s, some (.ref 0), some (.lst titles), y3, some far, x5, x6, x7, x8, x9] M) :
    (loop (execs (C 20) bodyS) (.tp [5, 6]) (items far) [some s, some (.ref 0), some (.lst titles), y3, some far, y5, y6, y7, y8, y9] M).sat N R := by
  have same : ∀ (t d : D), pd 6 t → pd 6 d → (callN pg 20 3 [.lst [t, d], .lst [t, d]] M).sat fun x M2 => (x = .bl true ∧ M2 = M) := fun t d h1 h2 => same_refl 7 _ M _ 12 (by decide) (pds2 h1 h2) ⟨rfl, rfl⟩
  refine loop_cons _ rfl ?_
  refine xs_nx (env1 := [some s, some (.ref 0), some (.lst titles), y3, some far, some (.int 0), some (x0 far), some (.tup [far]), y8, y9]) (M1 := M) rfl ?_
  refine xs_same rfl rfl rfl (show (callN pg 20 3 [.lst [.str [87, 114, 111, 110, 103, 67, 111, 117, 110, 116], .tup [far]], .lst [.str [87, 114, 111, 110, 103, 67, 111, 117, 110, 116], .tup [far]]] M).sat _ from same _ _ ?a0 ?b0) ?_
  case a0 => exact pdx rfl
  case b0 => exact pdt1 (hfar _)
  refine xs_end (env1 := [some s, some (.ref 0), some (.lst titles), y3, some far, some (.int 0), some (x0 far), some (.tup [far]), some (.lst [.bl true, .bl true, .bl false, .bl false, .bl false]), some (.lst [.bl false, .bl false, .bl false, .bl false, .bl false, .bl false, .bl false])]) (M1 := M) rfl ?_
  refine loop_cons _ rfl ?_
  refine xs_nx (env1 := [some s, some (.ref 0), some (.lst titles), y3, some far, some (.int 1), some (x1 far), some (.tup [far]), some (.lst [.bl true, .bl true, .bl false, .bl false, .bl false]), some (.lst [.bl false, .bl false, .bl false, .bl false, .bl false, .bl false, .bl false])]) (M1 := M) rfl ?_
  refine xs_same rfl rfl rfl (show (callN pg 20 3 [.lst [.str [73, 110, 118, 97, 108, 105, 100, 78, 117, 109, 98, 101, 114], .tup [far]], .lst [.str [73, 110, 118, 97, 108, 105, 100, 78, 117, 109, 98, 101, 114], .tup [far]]] M).sat _ from same _ _ ?a1 ?b1) ?_
  case a1 => exact pdx rfl
  case b1 => exact pdt1 (hfar _)
  refine xs_end (env1 := [some s, some (.ref 0), some (.lst titles), y3, some far, some (.int 1), some (x1 far), some (.tup [far]), some (.lst [.bl true, .bl true, .bl false, .bl false, .bl false]), some (.lst [.bl true, .bl false, .bl false, .bl false, .bl false, .bl false, .bl false])]) (M1 := M) rfl ?_
  refine loop_cons _ rfl ?_
  refine xs_nx (env1 := [some s, some (.ref 0), some (.lst titles), y3, some far, some (.int 2), some (x2 far), some (.tup [far]), some (.lst [.bl true, .bl true, .bl false, .bl false, .bl false]), some (.lst [.bl true, .bl false, .bl false, .bl false, .bl false, .bl false, .bl false])]) (M1 := M) rfl ?_
  refine xs_same rfl rfl rfl (show (callN pg 20 3 [.lst [.str [73, 110, 118, 97, 108, 105, 100, 87, 111, 114, 100], .tup [far]], .lst [.str [73, 110, 118, 97, 108, 105, 100, 87, 111, 114, 100], .tup [far]]] M).sat _ from same _ _ ?a2 ?b2) ?_
  case a2 => exact pdx rfl
  case b2 => exact pdt1 (hfar _)
  refine xs_end (env1 := [some s, some (.ref 0), some (.lst titles), y3, some far, some (.int 2), some (x2 far), some (.tup [far]), some (.lst [.bl true, .bl true, .bl false, .bl false, .bl false]), some (.lst [.bl false, .bl true, .bl false, .bl false, .bl false, .bl false, .bl false])]) (M1 := M) rfl ?_
  refine loop_cons _ rfl ?_
  refine xs_nx (env1 := [some s, some (.ref 0), some (.lst titles), y3, some far, some (.int 3), some (x3 far), some (.tup [far]), some (.lst [.bl true, .bl true, .bl false, .bl false, .bl false]), some (.lst [.bl false, .bl true, .bl false, .bl false, .bl false, .bl false, .bl false])]) (M1 := M) rfl ?_
  refine xs_same rfl rfl rfl (show (callN pg 20 3 [.lst [.str [73, 110, 118, 97, 108, 105, 100, 80, 111, 105, 110, 116], .tup [far]], .lst [.str [73, 110, 118, 97, 108, 105, 100, 80, 111, 105, 110, 116], .tup [far]]] M).sat _ from same _ _ ?a3 ?b3) ?_
  case a3 => exact pdx rfl
  case b3 => exact pdt1 (hfar _)
  refine xs_end (env1 := [some s, some (.ref 0), some (.lst titles), y3, some far, some (.int 3), some (x3 far), some (.tup [far]), some (.lst [.bl true, .bl true, .bl false, .bl false, .bl false]), some (.lst [.bl false, .bl false, .bl false, .bl false, .bl false, .bl false, .bl false])]) (M1 := M) rfl ?_
  refine loop_cons _ rfl ?_
  refine xs_nx (env1 := [some s, some (.ref 0), some (.lst titles), y3, some far, some (.int 4), some (x4 far), some (.tup [far]), some (.lst [.bl true, .bl true, .bl false, .bl false, .bl false]), some (.lst [.bl false, .bl false, .bl false, .bl false, .bl false, .bl false, .bl false])]) (M1 := M) rfl ?_
  refine xs_same rfl rfl rfl (show (callN pg 20 3 [.lst [.str [73, 110, 118, 97, 108, 105, 100, 70, 105, 101, 108, 100], .tup [far]], .lst [.str [73, 110, 118, 97, 108, 105, 100, 70, 105, 101, 108, 100], .tup [far]]] M).sat _ from same _ _ ?a4 ?b4) ?_
  case a4 => exact pdx rfl
  case b4 => exact pdt1 (hfar _)
  refine xs_end (env1 := [some s, some (.ref 0), some (.lst titles), y3, some far, some (.int 4), some (x4 far), some (.tup [far]), some (.lst [.bl true, .bl true, .bl false, .bl false, .bl false]), some (.lst [.bl false, .bl false, .bl false, .bl false, .bl false, .bl false, .bl false])]) (M1 := M) rfl ?_
  refine loop_cons _ rfl ?_
  refine xs_nx (env1 := [some s, some (.ref 0), some (.lst titles), y3, some far, some (.int 5), some (x5 far), some (.tup [far]), some (.lst [.bl true, .bl true, .bl false, .bl false, .bl false]), some (.lst [.bl false, .bl false, .bl false, .bl false, .bl false, .bl false, .bl false])]) (M1 := M) rfl ?_
  refine xs_same rfl rfl rfl (show (callN pg 20 3 [.lst [.str [73, 110, 118, 97, 108, 105, 100, 84, 101, 120, 116], .tup [far]], .lst [.str [73, 110, 118, 97, 108, 105, 100, 84, 101, 120, 116], .tup [far]]] M).sat _ from same _ _ ?a5 ?b5) ?_
  case a5 => exact pdx rfl
  case b5 => exact pdt1 (hfar _)
  refine xs_end (env1 := [some s, some (.ref 0), some (.lst titles), y3, some far, some (.int 5), some (x5 far), some (.tup [far]), some (.lst [.bl true, .bl true, .bl false, .bl false, .bl false]), some (.lst [.bl false, .bl false, .bl false, .bl false, .bl true, .bl false, .bl false])]) (M1 := M) rfl ?_
  refine loop_cons _ rfl ?_
  refine xs_nx (env1 := [some s, some (.ref 0), some (.lst titles), y3, some far, some (.int 6), some (x6 far), some (.tup [far]), some (.lst [.bl true, .bl true, .bl false, .bl false, .bl false]), some (.lst [.bl false, .bl false, .bl false, .bl false, .bl true, .bl false, .bl false])]) (M1 := M) rfl ?_
  refine xs_same rfl rfl rfl (show (callN pg 20 3 [.lst [.str [73, 110, 118, 97, 108, 105, 100, 68, 101, 101, 100], .tup [far]], .lst [.str [73, 110, 118, 97, 108, 105, 100, 68, 101, 101, 100], .tup [far]]] M).sat _ from same _ _ ?a6 ?b6) ?_
  case a6 => exact pdx rfl
  case b6 => exact pdt1 (hfar _)
  refine xs_end (env1 := [some s, some (.ref 0), some (.lst titles), y3, some far, some (.int 6), some (x6 far), some (.tup [far]), some (.lst [.bl true, .bl true, .bl false, .bl false, .bl false]), some (.lst [.bl false, .bl false, .bl false, .bl false, .bl false, .bl false, .bl false])]) (M1 := M) rfl ?_
  refine loop_cons _ rfl ?_
  refine xs_nx (env1 := [some s, some (.ref 0), some (.lst titles), y3, some far, some (.int 7), some (x7 far), some (.tup [far]), some (.lst [.bl true, .bl true, .bl false, .bl false, .bl false]), some (.lst [.bl false, .bl false, .bl false, .bl false, .bl false, .bl false, .bl false])]) (M1 := M) rfl ?_
  refine xs_same rfl rfl rfl (show (callN pg 20 3 [.lst [.str [78, 111, 116, 78, 111, 119], .tup [far]], .lst [.str [78, 111, 116, 78, 111, 119], .tup [far]]] M).sat _ from same _ _ ?a7 ?b7) ?_
  case a7 => exact pdx rfl
  case b7 => exact pdt1 (hfar _)
  refine xs_end (env1 := [some s, some (.ref 0), some (.lst titles), y3, some far, some (.int 7), some (x7 far), some (.tup [far]), some (.lst [.bl true, .bl true, .bl false, .bl false, .bl false]), some (.lst [.bl false, .bl false, .bl false, .bl false, .bl false, .bl false, .bl false])]) (M1 := M) rfl ?_
  refine loop_cons _ rfl ?_
  refine xs_nx (env1 := [some s, some (.ref 0), some (.lst titles), y3, some far, some (.int 8), some (x8 far), some (.tup [far]), some (.lst [.bl true, .bl true, .bl false, .bl false, .bl false]), some (.lst [.bl false, .bl false, .bl false, .bl false, .bl false, .bl false, .bl false])]) (M1 := M) rfl ?_
  refine xs_same rfl rfl rfl (show (callN pg 20 3 [.lst [.str [73, 110, 118, 97, 108, 105, 100, 67, 104, 117, 116, 101], .tup [far]], .lst [.str [73, 110, 118, 97, 108, 105, 100, 67, 104, 117, 116, 101], .tup [far]]] M).sat _ from same _ _ ?a8 ?b8) ?_
  case a8 => exact pdx rfl
  case b8 => exact pdt1 (hfar _)
  refine xs_end (env1 := [some s, some (.ref 0), some (.lst titles), y3, some far, some (.int 8), some (x8 far), some (.tup [far]), some (.lst [.bl true, .bl true, .bl false, .bl false, .bl false]), some (.lst [.bl false, .bl false, .bl false, .bl false, .bl false, .bl false, .bl false])]) (M1 := M) rfl ?_
  refine loop_cons _ rfl ?_
  refine xs_nx (env1 := [some s, some (.ref 0), some (.lst titles), y3, some far, some (.int 9), some (x9 far), some (.tup [far]), some (.lst [.bl true, .bl true, .bl false, .bl false, .bl false]), some (.lst [.bl false, .bl false, .bl false, .bl false, .bl false, .bl false, .bl false])]) (M1 := M) rfl ?_
  refine xs_same rfl rfl rfl (show (callN pg 20 3 [.lst [.str [73, 110, 118, 97, 108, 105, 100, 79, 102, 102, 101, 114], .tup [far]], .lst [.str [73, 110, 118, 97, 108, 105, 100, 79, 102, 102, 101, 114], .tup [far]]] M).sat _ from same _ _ ?a9 ?b9) ?_
  case a9 => exact pdx rfl
  case b9 => exact pdt1 (hfar _)
  refine xs_end (env1 := [some s, some (.ref 0), some (.lst titles), y3, some far, some (.int 9), some (x9 far), some (.tup [far]), some (.lst [.bl true, .bl true, .bl false, .bl false, .bl false]), some (.lst [.bl false, .bl false, .bl false, .bl false, .bl false, .bl false, .bl false])]) (M1 := M) rfl ?_
  refine loop_cons _ rfl ?_
  refine xs_nx (env1 := [some s, some (.ref 0), some (.lst titles), y3, some far, some (.int 10), some (x10 far), some (.tup []), some (.lst [.bl true, .bl true, .bl false, .bl false, .bl false]), some (.lst [.bl false, .bl false, .bl false, .bl false, .bl false, .bl false, .bl false])]) (M1 := M) rfl ?_
  refine xs_same rfl rfl rfl (show (callN pg 20 3 [.lst [.str [85, 110, 108, 105, 107, 101], .tup []], .lst [.str [85, 110, 108, 105, 107, 101], .tup []]] M).sat _ from same _ _ ?a10 ?b10) ?_
  case a10 => exact pdx rfl
  case b10 => exact pdt0
  refine xs_end (env1 := [some s, some (.ref 0), some (.lst titles), y3, some far, some (.int 10), some (x10 far), some (.tup []), some (.lst [.bl true, .bl true, .bl false, .bl false, .bl false]), some (.lst [.bl false, .bl false, .bl false, .bl false, .bl false, .bl false, .bl false])]) (M1 := M) rfl ?_
  refine loop_cons _ rfl ?_
  refine xs_nx (env1 := [some s, some (.ref 0), some (.lst titles), y3, some far, some (.int 11), some (x11 far), some (.tup [far]), some (.lst [.bl true, .bl true, .bl false, .bl false, .bl false]), some (.lst [.bl false, .bl false, .bl false, .bl false, .bl false, .bl false, .bl false])]) (M1 := M) rfl ?_
  refine xs_same rfl rfl rfl (show (callN pg 20 3 [.lst [.str [84, 111, 111, 77, 97, 110, 121], .tup [far]], .lst [.str [84, 111, 111, 77, 97, 110, 121], .tup [far]]] M).sat _ from same _ _ ?a11 ?b11) ?_
  case a11 => exact pdx rfl
  case b11 => exact pdt1 (hfar _)
  refine xs_end (env1 := [some s, some (.ref 0), some (.lst titles), y3, some far, some (.int 11), some (x11 far), some (.tup [far]), some (.lst [.bl true, .bl true, .bl false, .bl false, .bl false]), some (.lst [.bl false, .bl false, .bl false, .bl true, .bl false, .bl false, .bl false])]) (M1 := M) rfl ?_
  refine loop_cons _ rfl ?_
  refine xs_nx (env1 := [some s, some (.ref 0), some (.lst titles), y3, some far, some (.int 12), some (x12 far), some (.tup [far]), some (.lst [.bl true, .bl true, .bl false, .bl false, .bl false]), some (.lst [.bl false, .bl false, .bl false, .bl true, .bl false, .bl false, .bl false])]) (M1 := M) rfl ?_
  refine xs_same rfl rfl rfl (show (callN pg 20 3 [.lst [.str [73, 110, 118, 97, 108, 105, 100, 78, 97, 109, 101], .tup [far]], .lst [.str [73, 110, 118, 97, 108, 105, 100, 78, 97, 109, 101], .tup [far]]] M).sat _ from same _ _ ?a12 ?b12) ?_
  case a12 => exact pdx rfl
  case b12 => exact pdt1 (hfar _)
  refine xs_end (env1 := [some s, some (.ref 0), some (.lst titles), y3, some far, some (.int 12), some (x12 far), some (.tup [far]), some (.lst [.bl true, .bl true, .bl false, .bl false, .bl false]), some (.lst [.bl false, .bl false, .bl false, .bl false, .bl false, .bl false, .bl false])]) (M1 := M) rfl ?_
  refine loop_cons _ rfl ?_
  refine xs_nx (env1 := [some s, some (.ref 0), some (.lst titles), y3, some far, some (.int 13), some (x13 far), some (.tup [far]), some (.lst [.bl true, .bl true, .bl false, .bl false, .bl false]), some (.lst [.bl false, .bl false, .bl false, .bl false, .bl false, .bl false, .bl false])]) (M1 := M) rfl ?_
  refine xs_same rfl rfl rfl (show (callN pg 20 3 [.lst [.str [68, 117, 112, 108, 105, 99, 97, 116, 101, 78, 97, 109, 101], .tup [far]], .lst [.str [68, 117, 112, 108, 105, 99, 97, 116, 101, 78, 97, 109, 101], .tup [far]]] M).sat _ from same _ _ ?a13 ?b13) ?_
  case a13 => exact pdx rfl
  case b13 => exact pdt1 (hfar _)
  refine xs_end (env1 := [some s, some (.ref 0), some (.lst titles), y3, some far, some (.int 13), some (x13 far), some (.tup [far]), some (.lst [.bl true, .bl true, .bl false, .bl false, .bl false]), some (.lst [.bl false, .bl false, .bl false, .bl false, .bl false, .bl false, .bl false])]) (M1 := M) rfl ?_
  refine loop_cons _ rfl ?_
  refine xs_nx (env1 := [some s, some (.ref 0), some (.lst titles), y3, some far, some (.int 14), some (x14 far), some (.tup [far]), some (.lst [.bl true, .bl true, .bl false, .bl false, .bl false]), some (.lst [.bl false, .bl false, .bl false, .bl false, .bl false, .bl false, .bl false])]) (M1 := M) rfl ?_
  refine xs_same rfl rfl rfl (show (callN pg 20 3 [.lst [.str [70, 117, 108, 108], .tup [far]], .lst [.str [70, 117, 108, 108], .tup [far]]] M).sat _ from same _ _ ?a14 ?b14) ?_
  case a14 => exact pdx rfl
  case b14 => exact pdt1 (hfar _)
  refine xs_end (env1 := [some s, some (.ref 0), some (.lst titles), y3, some far, some (.int 14), some (x14 far), some (.tup [far]), some (.lst [.bl true, .bl true, .bl false, .bl false, .bl false]), some (.lst [.bl false, .bl false, .bl true, .bl false, .bl false, .bl false, .bl false])]) (M1 := M) rfl ?_
  refine loop_cons _ rfl ?_
  refine xs_nx (env1 := [some s, some (.ref 0), some (.lst titles), y3, some far, some (.int 15), some (x15 far), some (.tup [far]), some (.lst [.bl true, .bl true, .bl false, .bl false, .bl false]), some (.lst [.bl false, .bl false, .bl true, .bl false, .bl false, .bl false, .bl false])]) (M1 := M) rfl ?_
  refine xs_same rfl rfl rfl (show (callN pg 20 3 [.lst [.str [73, 110, 118, 97, 108, 105, 100, 76, 105, 109, 105, 116], .tup [far]], .lst [.str [73, 110, 118, 97, 108, 105, 100, 76, 105, 109, 105, 116], .tup [far]]] M).sat _ from same _ _ ?a15 ?b15) ?_
  case a15 => exact pdx rfl
  case b15 => exact pdt1 (hfar _)
  refine xs_end (env1 := [some s, some (.ref 0), some (.lst titles), y3, some far, some (.int 15), some (x15 far), some (.tup [far]), some (.lst [.bl true, .bl true, .bl false, .bl false, .bl false]), some (.lst [.bl false, .bl false, .bl false, .bl false, .bl false, .bl false, .bl false])]) (M1 := M) rfl ?_
  refine loop_cons _ rfl ?_
  refine xs_nx (env1 := [some s, some (.ref 0), some (.lst titles), y3, some far, some (.int 16), some (x16 far), some (.tup [far]), some (.lst [.bl true, .bl true, .bl false, .bl false, .bl false]), some (.lst [.bl false, .bl false, .bl false, .bl false, .bl false, .bl false, .bl false])]) (M1 := M) rfl ?_
  refine xs_same rfl rfl rfl (show (callN pg 20 3 [.lst [.str [73, 110, 118, 97, 108, 105, 100, 67, 111, 109, 109, 97, 110, 100], .tup [far]], .lst [.str [73, 110, 118, 97, 108, 105, 100, 67, 111, 109, 109, 97, 110, 100], .tup [far]]] M).sat _ from same _ _ ?a16 ?b16) ?_
  case a16 => exact pdx rfl
  case b16 => exact pdt1 (hfar _)
  refine xs_end (env1 := [some s, some (.ref 0), some (.lst titles), y3, some far, some (.int 16), some (x16 far), some (.tup [far]), some (.lst [.bl true, .bl true, .bl false, .bl false, .bl false]), some (.lst [.bl false, .bl false, .bl false, .bl false, .bl false, .bl false, .bl false])]) (M1 := M) rfl ?_
  refine loop_cons _ rfl ?_
  refine xs_nx (env1 := [some s, some (.ref 0), some (.lst titles), y3, some far, some (.int 17), some (x17 far), some (.tup [far]), some (.lst [.bl true, .bl true, .bl false, .bl false, .bl false]), some (.lst [.bl false, .bl false, .bl false, .bl false, .bl false, .bl false, .bl false])]) (M1 := M) rfl ?_
  refine xs_same rfl rfl rfl (show (callN pg 20 3 [.lst [.str [73, 110, 118, 97, 108, 105, 100, 80, 97, 103, 101], .tup [far]], .lst [.str [73, 110, 118, 97, 108, 105, 100, 80, 97, 103, 101], .tup [far]]] M).sat _ from same _ _ ?a17 ?b17) ?_
  case a17 => exact pdx rfl
  case b17 => exact pdt1 (hfar _)
  refine xs_end (env1 := [some s, some (.ref 0), some (.lst titles), y3, some far, some (.int 17), some (x17 far), some (.tup [far]), some (.lst [.bl true, .bl true, .bl false, .bl false, .bl false]), some (.lst [.bl false, .bl false, .bl false, .bl false, .bl false, .bl true, .bl false])]) (M1 := M) rfl ?_
  refine loop_cons _ rfl ?_
  refine xs_nx (env1 := [some s, some (.ref 0), some (.lst titles), y3, some far, some (.int 18), some (x18 far), some (.tup [far]), some (.lst [.bl true, .bl true, .bl false, .bl false, .bl false]), some (.lst [.bl false, .bl false, .bl false, .bl false, .bl false, .bl true, .bl false])]) (M1 := M) rfl ?_
  refine xs_same rfl rfl rfl (show (callN pg 20 3 [.lst [.str [85, 110, 107, 110, 111, 119, 110, 78, 97, 109, 101], .tup [far]], .lst [.str [85, 110, 107, 110, 111, 119, 110, 78, 97, 109, 101], .tup [far]]] M).sat _ from same _ _ ?a18 ?b18) ?_
  case a18 => exact pdx rfl
  case b18 => exact pdt1 (hfar _)
  refine xs_end (env1 := [some s, some (.ref 0), some (.lst titles), y3, some far, some (.int 18), some (x18 far), some (.tup [far]), some (.lst [.bl false, .bl false, .bl true, .bl true, .bl false]), some (.lst [.bl false, .bl false, .bl false, .bl false, .bl false, .bl false, .bl true])]) (M1 := M) rfl ?_
  refine loop_cons _ rfl ?_
  refine xs_nx (env1 := [some s, some (.ref 0), some (.lst titles), y3, some far, some (.int 19), some (x19 far), some (.tup []), some (.lst [.bl false, .bl false, .bl true, .bl true, .bl false]), some (.lst [.bl false, .bl false, .bl false, .bl false, .bl false, .bl false, .bl true])]) (M1 := M) rfl ?_
  refine xs_same rfl rfl rfl (show (callN pg 20 3 [.lst [.str [78, 111, 116, 104, 105, 110, 103, 76, 101, 102, 116], .tup []], .lst [.str [78, 111, 116, 104, 105, 110, 103, 76, 101, 102, 116], .tup []]] M).sat _ from same _ _ ?a19 ?b19) ?_
  case a19 => exact pdx rfl
  case b19 => exact pdt0
  refine xs_end (env1 := [some s, some (.ref 0), some (.lst titles), y3, some far, some (.int 19), some (x19 far), some (.tup []), some (.lst [.bl false, .bl false, .bl false, .bl true, .bl true]), some (.lst [.bl false, .bl false, .bl false, .bl false, .bl false, .bl false, .bl false])]) (M1 := M) rfl ?_
  exact hN _ _ _ _ _
end K01


set_option autoImplicit false
set_option linter.all false
set_option maxRecDepth 100000
set_option maxHeartbeats 4000000
namespace K01
open Ev
theorem big20 : (100000000000000000000 : Int) < 2 ^ 8000 := by
  have : (2 : Int) ^ 100 ≤ 2 ^ 8000 := by exact_mod_cast Nat.pow_le_pow_right (by decide) (by decide)
  omega
theorem big5 {a b c d e : D} : (([a, b, c, d, e] : List D).length : Int) < 2 ^ 8000 := by
  have : (2 : Int) ^ 100 ≤ 2 ^ 8000 := by exact_mod_cast Nat.pow_le_pow_right (by decide) (by decide)
  show (5 : Int) < _
  omega
theorem walk_rng3 : walkOf .rng [.int 3] = some [.int 0, .int 1, .int 2] := rfl
theorem law_ok (ns : List Int) (hl : ns.length ≤ 63) : ∃ M, callN pg 21 7 [.fro (ns.map D.int)] [] = .ok (.bl true) M := by
  have key : (callN pg 21 7 [.fro (ns.map D.int)] []).sat fun d _ => d = .bl true := by
    refine call_sat (fd := f7) rfl rfl ?_
    dsimp only [f7]
    rw [xs_cons, x_asg]
    simp only [e_var, e_cst, e_bin, e_cmp, e_and, e_or, e_ife, e_not, notD_bl, e_neg, negD_int, e_tup, e_lst, mk_F, e_item, e_slc, e_attr, e_isi, e_isis, e_call, e_blt, e_mkx, e_lc, opt_some, es_nil, es_cons, et_nil, et_cons, x_ex, x_asg, x_asl, x_ret, x_iff, x_put, x_for, xs_nil, xs_cons, sat_ok, two_T, two_F, two_d, two_n, b_add, b_sub, c_lt, c_le, c_gt, c_ge, f_int, f_len_lst, f_len_tup, List.map_cons, List.map_nil, List.cons_append, List.nil_append, List.replicate, List.getElem?_cons_succ, List.getElem?_cons_zero, List.set_cons_succ, List.set_cons_zero, List.length_cons, List.length_nil, List.length_set, Nat.reduceAdd, Nat.reduceSub, Nat.reduceLT, true_and, and_true, if_true, if_false]
    refine bag_spec 19 ns [] _ hl fun cells mark => ?_
    simp only [e_var, e_cst, e_bin, e_cmp, e_and, e_or, e_ife, e_not, notD_bl, e_neg, negD_int, e_tup, e_lst, mk_F, e_item, e_slc, e_attr, e_isi, e_isis, e_call, e_blt, e_mkx, e_lc, opt_some, es_nil, es_cons, et_nil, et_cons, x_ex, x_asg, x_asl, x_ret, x_iff, x_put, x_for, xs_nil, xs_cons, sat_ok, two_T, two_F, two_d, two_n, b_add, b_sub, c_lt, c_le, c_gt, c_ge, f_int, f_len_lst, f_len_tup, List.map_cons, List.map_nil, List.cons_append, List.nil_append, List.replicate, List.getElem?_cons_succ, List.getElem?_cons_zero, List.set_cons_succ, List.set_cons_zero, List.length_cons, List.length_nil, List.length_set, Nat.reduceAdd, Nat.reduceSub, Nat.reduceLT, true_and, and_true, if_true, if_false, walk_rng3]
    refine ⟨by decide, ?_⟩
    refine loop_sat (fun ds env M => (∃ i d, M[0]? = some (.lst (bagL cells i d mark)) ∧ 0 ≤ i ∧ 0 ≤ d) ∧ ∃ x3 x4 x5 x6 x7 x8 x9, env = [some (.fro (ns.map D.int)), some (.ref 0), some (.lst titles), x3, x4, x5, x6, x7, x8, x9]) _ _ _ ⟨⟨0, 0, rfl, by decide, by decide⟩, none, none, none, none, none, none, none, rfl⟩ ?_ ?_
    · rintro t r env M ⟨⟨i, d, hM, h0, hd⟩, x3, x4, x5, x6, x7, x8, x9, rfl⟩
      refine ⟨_, rfl, ?_⟩
      have hp : ∀ (Q : D → List O → Prop), (binop .pow (.int 10) (.int 20) M).sat Q = Q (.int 100000000000000000000) M := fun Q => rfl
      have ha : 0 < M.length := (List.getElem?_eq_some_iff.mp hM).1
      simp only [e_var, e_cst, e_bin, e_cmp, e_and, e_or, e_ife, e_not, notD_bl, e_neg, negD_int, e_tup, e_lst, mk_F, e_item, e_slc, e_attr, e_isi, e_isis, e_call, e_blt, e_mkx, e_lc, opt_some, es_nil, es_cons, et_nil, et_cons, x_ex, x_asg, x_asl, x_ret, x_iff, x_put, x_for, xs_nil, xs_cons, sat_ok, two_T, two_F, two_d, two_n, b_add, b_sub, c_lt, c_le, c_gt, c_ge, f_int, f_len_lst, f_len_tup, List.map_cons, List.map_nil, List.cons_append, List.nil_append, List.replicate, List.getElem?_cons_succ, List.getElem?_cons_zero, List.set_cons_succ, List.set_cons_zero, List.length_cons, List.length_nil, List.length_set, Nat.reduceAdd, Nat.reduceSub, Nat.reduceLT, true_and, and_true, if_true, if_false, hp]
      refine ⟨by decide, ?_⟩
      refine draw_spec 19 M 0 cells i d mark _ _ hM h0 hd (by decide) big20 fun v i1 d1 h1 h2 h3 h4 => ?_
      refine ⟨by decide, ?_⟩
      refine of_spec 18 _ 0 cells i1 d1 mark _ _ (set_at ha) h3 h4 (by simp) big5 fun far i2 d2 hfar h5 h6 => ?_
      have hf : ∀ n, pd (n + 1) far := fun n => by
        simp only [List.mem_cons, List.not_mem_nil, or_false] at hfar
        rcases hfar with rfl | rfl | rfl | rfl | rfl
        · simp [pd]
        · simp [pd]
        · exact pdx rfl
        · exact pdt1 (by cases n <;> simp [pd])
        · simp [pd]
      simp only [e_var, e_cst, e_bin, e_cmp, e_and, e_or, e_ife, e_not, notD_bl, e_neg, negD_int, e_tup, e_lst, mk_F, e_item, e_slc, e_attr, e_isi, e_isis, e_call, e_blt, e_mkx, e_lc, opt_some, es_nil, es_cons, et_nil, et_cons, x_ex, x_asg, x_asl, x_ret, x_iff, x_put, x_for, xs_nil, xs_cons, sat_ok, two_T, two_F, two_d, two_n, b_add, b_sub, c_lt, c_le, c_gt, c_ge, f_int, f_len_lst, f_len_tup, List.map_cons, List.map_nil, List.cons_append, List.nil_append, List.replicate, List.getElem?_cons_succ, List.getElem?_cons_zero, List.set_cons_succ, List.set_cons_zero, List.length_cons, List.length_nil, List.length_set, Nat.reduceAdd, Nat.reduceSub, Nat.reduceLT, true_and, and_true, if_true, if_false, first_ok, late_ok]
      rw [b_app]
      refine ⟨(by decide : 10 + 10 ≤ lim), ?_⟩
      refine inner _ _ far hf _ _ _ _ _ _ _ _ fun y5 y6 y7 y8 y9 => ⟨⟨i2, d2, ?_, h5, h6⟩, _, _, _, _, _, _, _, rfl⟩
      rw [List.set_set]
      exact set_at ha
    · rintro env M ⟨_, x3, x4, x5, x6, x7, x8, x9, rfl⟩
      simp only [e_var, e_cst, e_bin, e_cmp, e_and, e_or, e_ife, e_not, notD_bl, e_neg, negD_int, e_tup, e_lst, mk_F, e_item, e_slc, e_attr, e_isi, e_isis, e_call, e_blt, e_mkx, e_lc, opt_some, es_nil, es_cons, et_nil, et_cons, x_ex, x_asg, x_asl, x_ret, x_iff, x_put, x_for, xs_nil, xs_cons, sat_ok, two_T, two_F, two_d, two_n, b_add, b_sub, c_lt, c_le, c_gt, c_ge, f_int, f_len_lst, f_len_tup, List.map_cons, List.map_nil, List.cons_append, List.nil_append, List.replicate, List.getElem?_cons_succ, List.getElem?_cons_zero, List.set_cons_succ, List.set_cons_zero, List.length_cons, List.length_nil, List.length_set, Nat.reduceAdd, Nat.reduceSub, Nat.reduceLT, true_and, and_true, if_true, if_false]
  obtain ⟨d, M, e, rfl⟩ := sat_eq key
  exact ⟨M, e⟩
end K01


set_option Elab.async false
set_option linter.all false
set_option maxRecDepth 100000
set_option maxHeartbeats 0
namespace K01
open PySem PySem.Spec PyProof.Rows L2 Ev
abbrev R : PySem.W.OpenRow := PySem.W.OpenLaw.row PySem.Challenge.rw_ownchute_k01_errors_by_themselves
abbrev qv : Program := PySem.W.view R.prog [31]
def names0 : List PySem.Str := ["BeltError", "Missing", "WrongCount", "InvalidNumber", "InvalidWord", "InvalidPoint", "InvalidField", "InvalidText", "InvalidDeed", "NotNow", "InvalidChute", "InvalidOffer", "Unlike", "TooMany", "InvalidName", "DuplicateName", "Full", "InvalidLimit", "InvalidCommand", "InvalidPage", "UnknownName", "NothingLeft", "_law_bag", "_law_draw", "_law_of", "_law_same", "_law_field", "_law_first_errors", "_law_late_errors"]
def names : List PySem.Str := names0
def top (i : Nat) : Stmt := PySem.Challenge.pw_ownchute_k01_errors_by_themselves.main.body.getD i (.Pass ⟨0, 0, 0, 0⟩)
def clsFn (i j : Nat) : Stmt := match top i with
  | .ClassDef (body := b) .. => b.getD j (.Pass ⟨0, 0, 0, 0⟩)
  | _ => .Pass ⟨0, 0, 0, 0⟩
def ss : List Fs := [⟨"_law_bag", "_law_bag", top 24, ["_law_script", "_law_cells", "_law_mark", "_law_cell"], ["_law_script"]⟩,
  ⟨"_law_draw", "_law_draw", top 25, ["_law_bag_here", "_law_many", "_law_digit", "_law_cell", "_law_first", "_law_second"], ["_law_bag_here", "_law_many"]⟩,
  ⟨"_law_of", "_law_of", top 26, ["_law_bag_here", "_law_some"], ["_law_bag_here", "_law_some"]⟩,
  ⟨"_law_same", "_law_same", top 27, ["_law_found", "_law_due", "_law_one", "_law_two"], ["_law_found", "_law_due"]⟩,
  ⟨"_law_field", "_law_field", top 28, ["_law_e"], ["_law_e"]⟩,
  ⟨"_law_first_errors", "_law_first_errors", top 29, ["_law_far"], ["_law_far"]⟩,
  ⟨"_law_late_errors", "_law_late_errors", top 30, ["_law_far"], ["_law_far"]⟩,
  ⟨"law", "law", top 31, ["_law_script", "_law_bag_here", "_law_titles", "_law_turn", "_law_far", "_law_at_z", "_law_e", "_law_due", "_law_kinds", "_law_same_here"], ["_law_script"]⟩]
def xs : List (Str × Option Xs) := [("BeltError", none),
  ("Missing", none),
  ("WrongCount", some ⟨"WrongCount", 0, clsFn 3 0, "WrongCount.__init__", [87, 114, 111, 110, 103, 67, 111, 117, 110, 116], some [103, 105, 118, 101, 110]⟩),
  ("InvalidNumber", some ⟨"InvalidNumber", 0, clsFn 4 0, "InvalidNumber.__init__", [73, 110, 118, 97, 108, 105, 100, 78, 117, 109, 98, 101, 114], some [103, 105, 118, 101, 110]⟩),
  ("InvalidWord", some ⟨"InvalidWord", 0, clsFn 5 0, "InvalidWord.__init__", [73, 110, 118, 97, 108, 105, 100, 87, 111, 114, 100], some [103, 105, 118, 101, 110]⟩),
  ("InvalidPoint", some ⟨"InvalidPoint", 0, clsFn 6 0, "InvalidPoint.__init__", [73, 110, 118, 97, 108, 105, 100, 80, 111, 105, 110, 116], some [103, 105, 118, 101, 110]⟩),
  ("InvalidField", some ⟨"InvalidField", 0, clsFn 7 0, "InvalidField.__init__", [73, 110, 118, 97, 108, 105, 100, 70, 105, 101, 108, 100], some [110, 97, 109, 101]⟩),
  ("InvalidText", some ⟨"InvalidText", 0, clsFn 8 0, "InvalidText.__init__", [73, 110, 118, 97, 108, 105, 100, 84, 101, 120, 116], some [97, 116]⟩),
  ("InvalidDeed", some ⟨"InvalidDeed", 0, clsFn 9 0, "InvalidDeed.__init__", [73, 110, 118, 97, 108, 105, 100, 68, 101, 101, 100], some [97, 116]⟩),
  ("NotNow", some ⟨"NotNow", 0, clsFn 10 0, "NotNow.__init__", [78, 111, 116, 78, 111, 119], some [97, 116]⟩),
  ("InvalidChute", some ⟨"InvalidChute", 0, clsFn 11 0, "InvalidChute.__init__", [73, 110, 118, 97, 108, 105, 100, 67, 104, 117, 116, 101], some [103, 105, 118, 101, 110]⟩),
  ("InvalidOffer", some ⟨"InvalidOffer", 0, clsFn 12 0, "InvalidOffer.__init__", [73, 110, 118, 97, 108, 105, 100, 79, 102, 102, 101, 114], some [97, 116]⟩),
  ("Unlike", some ⟨"Unlike", 0, clsFn 13 0, "Unlike.__init__", [85, 110, 108, 105, 107, 101], none⟩),
  ("TooMany", some ⟨"TooMany", 0, clsFn 14 0, "TooMany.__init__", [84, 111, 111, 77, 97, 110, 121], some [109, 111, 115, 116]⟩),
  ("InvalidName", some ⟨"InvalidName", 0, clsFn 15 0, "InvalidName.__init__", [73, 110, 118, 97, 108, 105, 100, 78, 97, 109, 101], some [103, 105, 118, 101, 110]⟩),
  ("DuplicateName", some ⟨"DuplicateName", 0, clsFn 16 0, "DuplicateName.__init__", [68, 117, 112, 108, 105, 99, 97, 116, 101, 78, 97, 109, 101], some [110, 97, 109, 101]⟩),
  ("Full", some ⟨"Full", 0, clsFn 17 0, "Full.__init__", [70, 117, 108, 108], some [109, 111, 115, 116]⟩),
  ("InvalidLimit", some ⟨"InvalidLimit", 0, clsFn 18 0, "InvalidLimit.__init__", [73, 110, 118, 97, 108, 105, 100, 76, 105, 109, 105, 116], some [103, 105, 118, 101, 110]⟩),
  ("InvalidCommand", some ⟨"InvalidCommand", 0, clsFn 19 0, "InvalidCommand.__init__", [73, 110, 118, 97, 108, 105, 100, 67, 111, 109, 109, 97, 110, 100], some [97, 116]⟩),
  ("InvalidPage", some ⟨"InvalidPage", 0, clsFn 20 0, "InvalidPage.__init__", [73, 110, 118, 97, 108, 105, 100, 80, 97, 103, 101], some [97, 116]⟩),
  ("UnknownName", some ⟨"UnknownName", 1, clsFn 21 0, "UnknownName.__init__", [85, 110, 107, 110, 111, 119, 110, 78, 97, 109, 101], some [110, 97, 109, 101]⟩),
  ("NothingLeft", some ⟨"NothingLeft", 2, clsFn 22 0, "NothingLeft.__init__", [78, 111, 116, 104, 105, 110, 103, 76, 101, 102, 116], none⟩)]

def fn : List He.DefD := ss.map fDef ++ xfns xs
abbrev hk : PySem.W.Hook := hookX 5 (ckX ss xs anc) fn
def ob (s : PySem.W.SharedT) : He.AlD := obsXG 5 (ckX ss xs anc) fn (HandSHeadRun.getT s)
theorem ob_eq (s : PySem.W.SharedT) : ob s = hk.obs s.abs := obsXG_eq (HandSHeadRun.getT_eq s)
theorem run (w : World) : HandSHeadRun.RunEq R qv hk ob 60000 names w := by
  intro os
  kernel_rfl
theorem ok_text : (okFs (ss.map Fs.name) (xNames xs) ss pg.fns && (ss.all (fun s => plainA s.ps (defArgs s.st)) && (xs.all (fun p => match p.2 with
    | some x => xsB x
    | none => true) && decide (xs.length = anc.length)))) = true := by decide +kernel
theorem facts {P : Program} {w : World} {K : PySem.W.Frag} {h : Heap} {mg : Str → Option Value} {f : Addr} (X : K.In h) (G : h.Ns mainGlobals mg) (hfa : mg ("law" : Str) = some (.ref f)) (c : SaysX (ckX ss xs anc) fn K) :
    ∃ fd : FuncData, (∀ (s : Shared) (v : Value), BindsTo s fd ⟨[v], []⟩ [("_law_script", v)]) ∧ ∀ base : Heap, FnOk P w K mg base CX0 (21 + 8) f fd ["_law_script"] (spC (GOf K xs) pg 21 7) := by
  obtain ⟨h1, h2⟩ := He.ba ok_text
  obtain ⟨h2, h3⟩ := He.ba h2
  obtain ⟨h3, h4⟩ := He.ba h3
  obtain ⟨ft, e1, e2, e3, e4⟩ := facts_of (fns := pg.fns) (fuel := pg.fuel) X G c h2 h3 (of_decide_eq_true h4)
  have el : ∃ t, ft[7]? = some t := by
    have : ft.length = ss.length := by rw [← List.length_map (f := Ft.name), e1, List.length_map]
    exact ⟨ft[7]'(by rw [this]; decide), List.getElem?_eq_getElem _⟩
  obtain ⟨t, et⟩ := el
  obtain ⟨s, es, F⟩ := e3 7 t et
  have es : some (⟨"law", "law", top 31, ["_law_script", "_law_bag_here", "_law_titles", "_law_turn", "_law_far", "_law_at_z", "_law_e", "_law_due", "_law_kinds", "_law_same_here"], ["_law_script"]⟩ : Fs) = some s := es
  cases es
  have ea : t.adr = f := by
    have q := F.glo
    rw [hfa] at q
    cases q
    rfl
  have ok := fun base : Heap => all_ok (prog := P) (w := w) (base := base) (G := GOf K xs) (P := pg) (ft := ft) (ss := ss) (xn := xNames xs) e2 e3 (by rw [e1]; exact h1) e4 21 7 t et
  rw [ea, F.ps] at ok
  have b := FunD.bindsA (ps := ["_law_script"]) F.fun_ fun kV doc pm an cdv ct us hl => bind_plain (ps := ["_law_script"]) (List.all_eq_true.mp h2 _ (List.mem_of_getElem? (i := 7) rfl)) kV doc pm an cdv ct us hl
  exact ⟨t.fd, fun s v => b s [v] rfl, ok⟩
end K01
open PySem PySem.W PySem.Calls PyProof.Rows
set_option maxRecDepth 100000 in
set_option maxHeartbeats 0 in
theorem PySem.Challenge.cw_ownchute_k01_errors_by_themselves_holds : PySem.Challenge.rw_ownchute_k01_errors_by_themselves.Holds := by
  w_on; o_law
  refine HandSHeadRun.head_any (r := OpenLaw.row PySem.Challenge.rw_ownchute_k01_errors_by_themselves) (q := K01.qv) (H := K01.hk) (ob := K01.ob) (M := 60000) (loose := K01.names) (d := HandSHeadRun.topDef (OpenLaw.row PySem.Challenge.rw_ownchute_k01_errors_by_themselves).prog 31) (kwd := []) K01.ob_eq
    (by kernel_rfl) (fun s => by kernel_rfl) K01.run (by kernel_rfl) (by kernel_rfl) (by kernel_rfl) (by rfl) (by first | assumption | decide +kernel) (by decide +kernel) ⟨rfl, rfl, rfl, rfl, rfl, by decide +kernel⟩ ?hw ?hc
  case hw => w_witness2
  case hc =>
    refine L2.walk_ofE (l := PySem.Challenge.rw_ownchute_k01_errors_by_themselves) (n := 63) (k := 21 + 8) (x := "_law_script") (CX := L2.CX0) rfl (by decide) (by kernel_rfl) ⟨rfl, by decide, by decide⟩ ?F (fun _ _ _ _ z => z)
    intro w mg fa h Y G hmg0
    obtain ⟨K, KX, c⟩ := Y
    have hmg : mg ("law" : PySem.Str) = some (.ref fa) := by
      have e : (HandSHeadRun.topDef (OpenLaw.row PySem.Challenge.rw_ownchute_k01_errors_by_themselves).prog 31).name = ("law" : PySem.Str) := by kernel_rfl
      rw [← e]
      exact hmg0
    obtain ⟨fd, hb, hF⟩ := K01.facts (P := (PySem.Challenge.rw_ownchute_k01_errors_by_themselves).prog) (w := w) KX G hmg c
    exact ⟨K, fd, _, KX, hb, fun H a ns hl _ hS => Ev.law_sp (G := Ev.GOf K K01.xs) hS (K01.law_ok ns hl), fun base _ _ => hF base⟩

