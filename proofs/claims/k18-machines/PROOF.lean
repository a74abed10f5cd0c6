import PyProof.Rows.All
import Wide.All
import OpenK.AllK
import Wide.FinOn
import HandS.Base
import HandS.Call
import HandS.List
import HandS.Comp
import HandS.Dict
import HandS.Iter
import HandS.Text
import HandS.Walk
import HandS.Flow
import HandS.Style
import HandS.Star
import HandS.Zip
import HandS.IsInst
import HandS.Defaults
import HandS.Words
import HandS.WordsList
import HandS.Exc
import HandS.ExcOwn
import HandS.CallSlots
import HandS.TupAny
import HandS.TupLe
import HandS.Deep
import HandS.RaiseMore
import HandS.MethStar
import HandS.Ends
import HandS.More
import HandS.WordsExc
import HandS.Head0
import HandS.Head1
import HandS.Head2
import HandS.HeadEnd
import HandS.HeadHook1
import HandS.HeadHook2
import PySem.Challenge.RW_partskept_k18_machines_or_not
set_option Elab.async false
set_option linter.all false
set_option maxRecDepth 100000
set_option maxHeartbeats 0
/-! Part 1: the small language and what it does -/
namespace Pk
open PySem

/-- plain data -/
inductive P where
  | non | bl (b : Bool) | int (i : Int) | str (x : Str)
  | tup (ps : List P) | lst (ps : List P) | scr (ns : List Int)
  | dct (kvs : List (P × P)) | ins (c : Nat) (fs : List (Nat × P))
  deriving Inhabited
inductive D where
  | val (p : P) | cell (n : Nat)
  deriving Inhabited
inductive Cell where
  | lst (ps : List P) | dct (kvs : List (P × P)) | ins (c : Nat) (fs : List (Nat × D)) | fz (p : P)
  deriving Inhabited
abbrev Store := List Cell
abbrev Env := List (Option D)
inductive Exn where
  | own (c : Nat) (fs : List (Nat × P)) | blt (n : String)
inductive R (α : Type) where
  | ok (a : α) (S : Store) | exc (x : Exn) (S : Store) | stk
def R.bind {α β : Type} (r : R α) (f : α → Store → R β) : R β := match r with
  | .ok a S => f a S
  | .exc x S => .exc x S
  | .stk => .stk
def R.map {α β : Type} (f : α → β) (r : R α) : R β := r.bind fun a S => .ok (f a) S
/-- what a statement does -/
inductive F where
  | nx (ρ : Env) (S : Store) | rt (d : D) (S : Store) | bk (ρ : Env) (S : Store) | ct (ρ : Env) (S : Store) | exc (x : Exn) (ρ : Env) (S : Store) | stk

/-! ### the language -/
inductive Blt where
  | abs | all | any | int | len | list | tuple | str | sum | max | min | sorted | sset | lset
  deriving DecidableEq
inductive Mt where
  | append | extend | join
  deriving DecidableEq
inductive Ty where
  | int | bool | str | tuple | list | dict | own (c : Nat)
  deriving DecidableEq
inductive Tg where
  | nm (i : Nat) | tp (ts : List Tg)
mutual
inductive IE where
  | non | bl (b : Bool) | int (i : Int) | str (x : Str)
  | var (i : Nat) | glob (g : Nat)
  | bin (op : Operator) (a b : IE) | neg (a : IE) | not (a : IE)
  | cmp (op : CmpOp) (a b : IE) | chain (o1 o2 : CmpOp) (a b c : IE)
  | and (es : List IE) | or (es : List IE) | ite (c a b : IE)
  | lst (es : List IE) | tup (es : List IE) | star (e : IE)
  | lc (elt : IE) (tg : Tg) (it : IT) (cond : Option IE) (wp : List Nat)
  | lc2 (elt : IE) (tg : Tg) (it : IT) (cond : Option IE) (tg1 : Tg) (it1 : IT) (cond1 : Option IE) (wp wp1 : List Nat)
  | idx (a b : IE) | sl (a : IE) (lo hi : Option IE)
  | call (keep : Bool) (f : Nat) (args : List IE)
  | callK (keep : Bool) (f : Nat) (args kws : List IE) (ks : List Str) (perm : List Nat)
  | blt (b : Blt) (args : List IE)
  | meth (m : Mt) (o : IE) (args : List IE)
  | isi (e : IE) (ts : List Ty) (many : Bool)
  | thaw (e : IE)
  | nev
inductive IT where
  | seq (e : IE) | rng (es : List IE) | enum (e : IE) | zip (a b : IE)
end
inductive IS where
  | asg (i : Nat) (e : IE)
  | par (is : List Nat) (es : List IE) | unp (tg : Tg) (e : IE)
  | setI (o i e : IE)
  | ifS (c : IE) (t e : List IS)
  | forS (tg : Tg) (it : IT) (body : List IS)
  | whileS (n : Nat) (c : IE) (body : List IS)
  | ret (e : IE) | retN | exprS (e : IE) | pass | brk | cont
  | nev

/-! ### data -/
/-- the model's line of sizes -/
abbrev lim : Nat := 16777216
def b2i (b : Bool) : Int := if b then 1 else 0
mutual
def P.py : P → Option PyData
  | .non => some .none
  | .bl b => some (.bool b)
  | .int i => some (.int i)
  | .str x => some (.str x)
  | .tup ps => (P.pys ps).map .tuple
  | .lst ps => (P.pys ps).map .list
  | _ => none
def P.pys : List P → Option (List PyData)
  | [] => some []
  | p :: ps => match P.py p, P.pys ps with
    | some d, some ds => some (d :: ds)
    | _, _ => none
end
def peek (S : Store) : D → Option P
  | .val p => some p
  | .cell n => match S[n]? with
    | some (.lst ps) => some (.lst ps)
    | some (.dct kvs) => some (.dct kvs)
    | some (.fz p) => some p
    | _ => none
def frz (d : D) (S : Store) : R P := match d with
  | .val p => .ok p S
  | .cell n => match S[n]? with
    | some (.lst ps) => .ok (.lst ps) (S.set n (.fz (.lst ps)))
    | some (.dct kvs) => .ok (.dct kvs) (S.set n (.fz (.dct kvs)))
    | some (.fz p) => .ok p S
    | _ => .stk
def giv (o : Option P) (S : Store) : R D := match o with
  | some p => .ok (.val p) S
  | none => .stk
def truthy : P → Option Bool
  | .non => some false
  | .bl b => some b
  | .int i => some (decide (i ≠ 0))
  | .str x => if x.length ≤ lim then some (x.length != 0) else none
  | .tup ps => some (!ps.isEmpty)
  | .lst ps => some (!ps.isEmpty)
  | _ => none
def small (i : Int) : Bool := decide (-(2 ^ 64) < i) && decide (i < 2 ^ 64)
def binP (op : Operator) (p q : P) : Option P := match op, p, q with
  | .Add, .int i, .int j => some (.int (i + j))
  | .Add, .str x, .str y => if x.length + y.length ≤ lim then some (.str (x ++ y)) else none
  | .Add, .lst ps, .lst qs => if ps.length + qs.length ≤ lim then some (.lst (ps ++ qs)) else none
  | .Add, .tup ps, .tup qs => if ps.length + qs.length ≤ lim then some (.tup (ps ++ qs)) else none
  | .Sub, .int i, .int j => some (.int (i - j))
  | .Mult, .int i, .int j => if small i || small j then some (.int (i * j)) else none
  | .Mult, .lst ps, .int k => if decide (-(2 ^ 63) ≤ k) && decide (k < 2 ^ 63) && decide (ps.length * k.toNat ≤ lim) then some (.lst (List.replicate k.toNat ps).flatten) else none
  | .FloorDiv, .int i, .int j => if decide (0 < j) && decide (j < 1073741824) then some (.int (i / j)) else none
  | .Mod, .int i, .int j => if 0 < j then some (.int (i % j)) else none
  | .Pow, .int i, .int j => if decide (0 ≤ j) && decide (j ≤ 1000000) && decide (i.natAbs < 2 ^ 64) then some (.int (i ^ j.toNat)) else none
  | _, _, _ => none
def shapedP (p : P) : Option PyData := match p.py with
  | some d => if SeqAt.shaped d then some d else none
  | none => none
def eqP (p q : P) : Option Bool := match shapedP p, shapedP q with
  | some d, some e => some (PyData.eqv d e)
  | _, _ => none
def strLt (x y : Str) : Bool := decide (x.cps.toList < y.cps.toList)
def inP (p q : P) : Option Bool := match q with
  | .str z => match p with
    | .str x => if x.length == 1 then some (decide (x.cps.getD 0 0 ∈ z.cps.toList)) else none
    | _ => none
  | .lst ps => match shapedP p, shapedP (.lst ps) with
    | some d, some (.list ds) => some (ds.any fun z => PyData.eqv z d)
    | _, _ => none
  | .tup ps => match shapedP p, shapedP (.tup ps) with
    | some d, some (.tuple ds) => some (ds.any fun z => PyData.eqv z d)
    | _, _ => none
  | _ => none
def isNon : P → Bool
  | .non => true
  | _ => false
def isP (p q : P) : Option Bool := match p, q with
  | p, .non => some (isNon p)
  | .bl a, .bl b => some (decide (a = b))
  | _, _ => none
/-- the order of numbers, texts, and tuples of such, to a depth -/
def pStrs : List P → Option (List Str)
  | [] => some []
  | .str x :: r => (pStrs r).map (x :: ·)
  | _ => none
def ordFs (le : Bool) (c : P → P → Option Bool) : List P → List P → Option Bool
  | [], [] => some le
  | [], _ :: _ => some true
  | _ :: _, [] => some false
  | p :: ps, q :: qs => match eqP p q, c p q, ordFs le c ps qs with
    | some e, some l, some r => some (if e then r else l)
    | _, _, _ => none
def ordF (le : Bool) : Nat → P → P → Option Bool
  | 0, _, _ => none
  | n + 1, p, q => match p, q with
    | .int i, .int j => some (if le then decide (i ≤ j) else decide (i < j))
    | .str x, .str y => some (if le then !strLt y x else strLt x y)
    | .tup ps, .tup qs => ordFs le (ordF le n) ps qs
    | _, _ => none
def gtP (eq : Bool) (p q : P) : Option Bool := match p, q with
  | .int i, .int j => some (if eq then decide (j ≤ i) else decide (j < i))
  | .str x, .str y => some (if eq then !strLt x y else strLt y x)
  | _, _ => none
def cmpP (op : CmpOp) (p q : P) : Option Bool := match op with
  | .Eq => eqP p q
  | .NotEq => (eqP p q).map (!·)
  | .Lt => ordF false 60 p q
  | .LtE => ordF true 60 p q
  | .Gt => gtP false p q
  | .GtE => gtP true p q
  | .Is => isP p q
  | .IsNot => (isP p q).map (!·)
  | .In => inP p q
  | .NotIn => (inP p q).map (!·)
def ixP (p q : P) : Option P := match p, q with
  | .lst ps, .int i => L2.atI ps i
  | .tup ps, .int i => L2.atI ps i
  | .scr ns, .int i => (L2.atI ns i).map .int
  | .str z, .int i => if z.length ≤ lim then (L2.atI z.cps.toList i).map fun c => .str ⟨#[c]⟩ else none
  | _, _ => none
def cutL {α : Type} (xs : List α) (lo hi : Option Int) : List α := (xs.drop (HT.sIx xs.length 0 lo)).take (HT.sIx xs.length xs.length hi - HT.sIx xs.length 0 lo)
def slP (p : P) (lo hi : Option Int) : Option P := match p with
  | .lst ps => some (.lst (cutL ps lo hi))
  | .tup ps => some (.tup (cutL ps lo hi))
  | .scr ns => some (.lst ((cutL ns lo hi).map .int))
  | .str z => if z.length ≤ lim then some (.str (L2.cutS z lo hi)) else none
  | _ => none
def tyB : P → Ty → Option Bool
  | .non, t => some false
  | .bl _, t => some (t == .bool || t == .int)
  | .int _, t => some (t == .int)
  | .str _, t => some (t == .str)
  | .tup _, t => some (t == .tuple)
  | .lst _, t => some (t == .list)
  | _, _ => none
def tyAny (p : P) : List Ty → Option Bool
  | [] => some false
  | t :: ts => match tyB p t, tyAny p ts with
    | some a, some b => some (a || b)
    | _, _ => none
def allB : List P → Option Bool
  | [] => some true
  | .bl b :: r => (allB r).map (b && ·)
  | _ => none
def anyB : List P → Option Bool
  | [] => some false
  | .bl b :: r => (anyB r).map (b || ·)
  | _ => none
def itemsP : P → Option (List P)
  | .lst ps => some ps
  | .tup ps => some ps
  | .scr ns => some (ns.map .int)
  | .str z => if z.length ≤ lim then some (z.cps.toList.map fun c => .str ⟨#[c]⟩) else none
  | _ => none
def seqP : P → Option (List P)
  | .lst ps => some ps
  | .tup ps => some ps
  | _ => none
def bltP (b : Blt) (xs : List P) : Option P := match b, xs with
  | .abs, [.int i] => some (.int (if i < 0 then -i else i))
  | .all, [.lst ps] => (allB ps).map .bl
  | .any, [.lst ps] => (anyB ps).map .bl
  | .int, [.int i] => some (.int i)
  | .int, [.bl k] => some (.int (if k then 1 else 0))
  | .len, [.lst ps] => some (.int ps.length)
  | .len, [.tup ps] => some (.int ps.length)
  | .len, [.scr ns] => some (.int ns.length)
  | .len, [.str z] => if z.length ≤ lim then some (.int z.length) else none
  | .list, [p] => (seqP p).map .lst
  | .tuple, [p] => (seqP p).map .tup
  | .str, [.str x] => some (.str x)
  | _, _ => none
def joinOk (a : Str) (ys : List Str) : Bool := decide ((ys.map (·.length)).sum + ys.length * a.length ≤ lim)
def methP (m : Mt) (o : P) (xs : List P) : Option P := match m, o, xs with
  | .join, .str a, [p] => match (seqP p).bind pStrs with
    | some ys => if joinOk a ys then some (.str (Txt.join a ys)) else none
    | none => none
  | _, _, _ => none
/-- methods that change their list -/
def mutP (m : Mt) (ps : List P) (xs : List P) : Option (List P) := match m, xs with
  | .append, [p] => if ps.length < lim then some (ps ++ [p]) else none
  | .extend, [.lst qs] => if ps.length + qs.length ≤ lim then some (ps ++ qs) else none
  | _, _ => none
def isMut : Mt → Bool
  | .append | .extend => true
  | _ => false
def methOk (m : Mt) (x : D) (S : Store) : Bool := if isMut m then match x with
    | .cell n => match S[n]? with
      | some (.lst _) => true
      | _ => false
    | _ => false
  else match x with
    | .val (.str _) => true
    | _ => false
mutual
def tgSet : Tg → P → Env → Option Env
  | .nm i, p, ρ => if i < ρ.length then some (ρ.set i (some (.val p))) else none
  | .tp ts, p, ρ => match p with
    | .tup ps => tgSets ts ps ρ
    | _ => none
def tgSets : List Tg → List P → Env → Option Env
  | [], [], ρ => some ρ
  | t :: ts, p :: ps, ρ => match tgSet t p ρ with
    | some ρ' => tgSets ts ps ρ'
    | none => none
  | _, _, _ => none
end
def wipeE (ρ : Env) : List Nat → Env
  | [] => ρ
  | v :: vs => (wipeE ρ vs).set v none
def rngP (xs : List P) : Option (List P) := match xs with
  | [.int j] => if decide (-(2 ^ 62) ≤ j) && decide (j ≤ lim) then some ((List.range j.toNat).map fun (n : Nat) => P.int (n : Int)) else none
  | [.int i, .int j] => if decide (-(2 ^ 62) ≤ i) && decide (i < 2 ^ 62) && decide (-(2 ^ 62) ≤ j) && decide (j < 2 ^ 62) && decide ((j - i).toNat ≤ lim) then some ((List.range (j - i).toNat).map fun (n : Nat) => P.int (i + (n : Int))) else none
  | _ => none
def enumP (n : Nat) : List P → List P
  | [] => []
  | p :: ps => .tup [.int n, p] :: enumP (n + 1) ps
def zipP : List P → List P → List P
  | p :: ps, q :: qs => .tup [p, q] :: zipP ps qs
  | _, _ => []
def zipK (p q : P) : Option (List P) := match p, q with
  | .lst ps, .lst qs => some (zipP ps qs)
  | .tup ps, .tup qs => some (zipP ps qs)
  | _, _ => none
/-- no exception leaves a comprehension -/
def R.noX {α : Type} (r : R α) : R α := match r with
  | .exc _ _ => .stk
  | r => r
/-- what a comprehension gathers -/
def lcLoop (f : P → Store → R (Option P)) : List P → Store → R (List P)
  | [], S => .ok [] S
  | p :: ps, S => (f p S).noX.bind fun o S1 => (lcLoop f ps S1).bind fun r S2 => .ok (match o with | some q => q :: r | none => r) S2
def lcLoop2 (f : P → Store → R (List P)) : List P → Store → R (List P)
  | [], S => .ok [] S
  | p :: ps, S => (f p S).noX.bind fun o S1 => (lcLoop2 f ps S1).bind fun r S2 => .ok (o ++ r) S2
def peeks (S : Store) : List D → Option (List P)
  | [] => some []
  | d :: ds => match peek S d, peeks S ds with
    | some p, some ps => some (p :: ps)
    | _, _ => none
mutual
/-- a list that it comes to is new -/
def fresh : IE → Bool
  | .lst _ => true
  | .lc .. => true
  | .lc2 .. => true
  | .sl .. => true
  | .blt .. => true
  | .bin .. => true
  | .or es => freshL es
  | _ => false
def freshL : List IE → Bool
  | [] => true
  | e :: es => fresh e && freshL es
end
abbrev CallF := Nat → List D → Store → R D
def pick {α : Type} (xs : List α) : List Nat → Option (List α)
  | [] => some []
  | i :: is => match xs[i]?, pick xs is with
    | some x, some r => some (x :: r)
    | _, _ => none
/-- a call's end: what it hands back is frozen, or kept as a cell -/
def endCall (keep : Bool) (n : Nat) (d : D) (S : Store) : R D := match keep, d with
  | true, d => .ok d S
  | false, .val p => .ok (.val p) S
  | false, .cell m => if m < n then .ok (.cell m) S else match S[m]? with
    | some (.lst ps) => .ok (.val (.lst ps)) (S.take n)
    | some (.dct kvs) => .ok (.val (.dct kvs)) (S.take n)
    | some (.fz p) => .ok (.val p) (S.take n)
    | _ => .stk
def newCell (d : D) (S : Store) : R D := match d with
  | .val (.lst ps) => .ok (.cell S.length) (S ++ [.lst ps])
  | .val (.dct kvs) => .ok (.cell S.length) (S ++ [.dct kvs])
  | _ => .stk
section
variable (gv : Nat → Option P) (c : CallF)
mutual
def evE : IE → Env → Store → R D
  | .non, _, S => .ok (.val .non) S
  | .bl b, _, S => .ok (.val (.bl b)) S
  | .int i, _, S => .ok (.val (.int i)) S
  | .str x, _, S => .ok (.val (.str x)) S
  | .var i, ρ, S => match ρ[i]? with
    | some (some d) => .ok d S
    | _ => .stk
  | .glob g, _, S => giv (gv g) S
  | .bin op a b, ρ, S => (evE a ρ S).bind fun x S1 => (evE b ρ S1).bind fun y S2 => match peek S2 x, peek S2 y with
    | some p, some q => giv (binP op p q) S2
    | _, _ => .stk
  | .neg a, ρ, S => (evE a ρ S).bind fun x S1 => match peek S1 x with
    | some (.int i) => .ok (.val (.int (-i))) S1
    | _ => .stk
  | .not a, ρ, S => (evE a ρ S).bind fun x S1 => match (peek S1 x).bind truthy with
    | some b => .ok (.val (.bl (!b))) S1
    | none => .stk
  | .cmp op a b, ρ, S => (evE a ρ S).bind fun x S1 => (evE b ρ S1).bind fun y S2 => match peek S2 x, peek S2 y with
    | some p, some q => giv ((cmpP op p q).map .bl) S2
    | _, _ => .stk
  | .chain o1 o2 a b e, ρ, S => (evE a ρ S).bind fun x S1 => (evE b ρ S1).bind fun y S2 => match peek S2 x, peek S2 y with
    | some p, some q => match cmpP o1 p q with
      | some true => (evE e ρ S2).bind fun z S3 => match peek S3 y, peek S3 z with
        | some q, some r => giv ((cmpP o2 q r).map .bl) S3
        | _, _ => .stk
      | some false => .ok (.val (.bl false)) S2
      | none => .stk
    | _, _ => .stk
  | .and es, ρ, S => evAnd es ρ S
  | .or es, ρ, S => evOr es ρ S
  | .ite t a b, ρ, S => (evE t ρ S).bind fun x S1 => match (peek S1 x).bind truthy with
    | some true => evE a ρ S1
    | some false => evE b ρ S1
    | none => .stk
  | .lst es, ρ, S => (evPs es ρ S).bind fun ps S1 => if ps.length ≤ lim then .ok (.val (.lst ps)) S1 else .stk
  | .tup es, ρ, S => (evPs es ρ S).bind fun ps S1 => if ps.length ≤ lim then .ok (.val (.tup ps)) S1 else .stk
  | .star _, _, _ => .stk
  | .lc elt tg it cond wp, ρ, S => (evI it ρ S).bind fun items S1 =>
      (lcLoop (fun p S => match tgSet tg p (wipeE ρ wp) with
        | none => .stk
        | some ρ1 => (evC cond ρ1 S).bind fun b S1 => if b then (evE elt ρ1 S1).bind fun d S2 => (frz d S2).bind fun q S3 => .ok (some q) S3 else .ok none S1) items S1).bind fun ps S2 => .ok (.val (.lst ps)) S2
  | .lc2 elt tg it cond tg1 it1 cond1 wp wp1, ρ, S => (evI it ρ S).bind fun items S1 =>
      (lcLoop2 (fun p S => match tgSet tg p (wipeE ρ wp) with
        | none => .stk
        | some ρ1 => (evC cond ρ1 S).bind fun b S1 => if b then (evI it1 ρ1 S1).bind fun items1 S2 =>
            lcLoop (fun p S => match tgSet tg1 p (wipeE ρ1 wp1) with
              | none => .stk
              | some ρ2 => (evC cond1 ρ2 S).bind fun b S1 => if b then (evE elt ρ2 S1).bind fun d S2 => (frz d S2).bind fun q S3 => .ok (some q) S3 else .ok none S1) items1 S2
          else .ok [] S1) items S1).bind fun ps S2 => if ps.length ≤ lim then .ok (.val (.lst ps)) S2 else .stk
  | .idx a b, ρ, S => (evE a ρ S).bind fun x S1 => (evE b ρ S1).bind fun y S2 => match peek S2 x, peek S2 y with
    | some p, some q => giv (ixP p q) S2
    | _, _ => .stk
  | .sl a lo hi, ρ, S => (evE a ρ S).bind fun x S1 => (evO lo ρ S1).bind fun l S2 => (evO hi ρ S2).bind fun h S3 => match peek S3 x with
    | some p => giv (slP p l h) S3
    | none => .stk
  | .call keep f args, ρ, S => (evDs args ρ S).bind fun ds S1 => (c f ds S1).bind fun d S2 => endCall keep S1.length d S2
  | .callK keep f args kws _ perm, ρ, S => (evDs args ρ S).bind fun ds S1 => (evDs kws ρ S1).bind fun es S2 => match pick (ds ++ es) perm with
    | some xs => (c f xs S2).bind fun d S3 => endCall keep S2.length d S3
    | none => .stk
  | .blt b args, ρ, S => (evDs args ρ S).bind fun ds S1 => match peeks S1 ds with
    | some ps => giv (bltP b ps) S1
    | none => .stk
  | .meth m o args, ρ, S => (evE o ρ S).bind fun x S1 => if methOk m x S1 then (evDs args ρ S1).bind fun ds S2 =>
      if isMut m then match x, ds with
        | .cell n, [d] => (if m = .append then frz d S2 else match peek S2 d with | some p => .ok p S2 | none => .stk).bind fun p S3 => match S3[n]? with
          | some (.lst ps) => match mutP m ps [p] with
            | some qs => .ok (.val .non) (S3.set n (.lst qs))
            | none => .stk
          | _ => .stk
        | _, _ => .stk
      else match peek S2 x, peeks S2 ds with
        | some p, some ps => giv (methP m p ps) S2
        | _, _ => .stk
      else .stk
  | .isi e ts _, ρ, S => (evE e ρ S).bind fun x S1 => match (peek S1 x).bind fun p => tyAny p ts with
    | some b => .ok (.val (.bl b)) S1
    | none => .stk
  | .thaw e, ρ, S => if fresh e then (evE e ρ S).bind fun d S1 => newCell d S1 else .stk
  | .nev, _, _ => .stk
def evI : IT → Env → Store → R (List P)
  | .seq e, ρ, S => (evE e ρ S).bind fun d S1 => (frz d S1).bind fun p S2 => match itemsP p with
    | some ps => .ok ps S2
    | none => .stk
  | .rng es, ρ, S => (evDs es ρ S).bind fun ds S1 => match (peeks S1 ds).bind rngP with
    | some ps => .ok ps S1
    | none => .stk
  | .enum e, ρ, S => (evE e ρ S).bind fun d S1 => (frz d S1).bind fun p S2 => match p with
    | .lst ps => .ok (enumP 0 ps) S2
    | _ => .stk
  | .zip a b, ρ, S => (evE a ρ S).bind fun x S1 => (evE b ρ S1).bind fun y S2 => (frz x S2).bind fun p S3 => (frz y S3).bind fun q S4 => match zipK p q with
    | some ps => .ok ps S4
    | none => .stk
def evC : Option IE → Env → Store → R Bool
  | none, _, S => .ok true S
  | some e, ρ, S => (evE e ρ S).bind fun x S1 => match (peek S1 x).bind truthy with
    | some b => .ok b S1
    | none => .stk
def evO : Option IE → Env → Store → R (Option Int)
  | none, _, S => .ok none S
  | some e, ρ, S => (evE e ρ S).bind fun x S1 => match peek S1 x with
    | some (.int i) => .ok (some i) S1
    | _ => .stk
def evAnd : List IE → Env → Store → R D
  | [], _, _ => .stk
  | [e], ρ, S => evE e ρ S
  | e :: es, ρ, S => (evE e ρ S).bind fun x S1 => match (peek S1 x).bind truthy with
    | some true => evAnd es ρ S1
    | some false => .ok x S1
    | none => .stk
def evOr : List IE → Env → Store → R D
  | [], _, _ => .stk
  | [e], ρ, S => evE e ρ S
  | e :: es, ρ, S => (evE e ρ S).bind fun x S1 => match (peek S1 x).bind truthy with
    | some true => .ok x S1
    | some false => evOr es ρ S1
    | none => .stk
def evDs : List IE → Env → Store → R (List D)
  | [], _, S => .ok [] S
  | e :: es, ρ, S => (evE e ρ S).bind fun d S1 => (evDs es ρ S1).bind fun ds S2 => .ok (d :: ds) S2
def evPs : List IE → Env → Store → R (List P)
  | [], _, S => .ok [] S
  | .star e :: es, ρ, S => (evE e ρ S).bind fun d S1 => match (peek S1 d).bind seqP with
    | some qs => (evPs es ρ S1).bind fun ps S2 => .ok (qs ++ ps) S2
    | none => .stk
  | e :: es, ρ, S => (evE e ρ S).bind fun d S1 => (frz d S1).bind fun p S2 => (evPs es ρ S2).bind fun ps S3 => .ok (p :: ps) S3
end
def evT (e : IE) (ρ : Env) (S : Store) : R Bool := (evE gv c e ρ S).bind fun x S1 => match (peek S1 x).bind truthy with
  | some b => .ok b S1
  | none => .stk
def F.seq (r : F) (k : Env → Store → F) : F := match r with
  | .nx ρ S => k ρ S
  | r => r
def R.stm {α : Type} (ρ : Env) (r : R α) (k : α → Store → F) : F := match r with
  | .ok a S => k a S
  | .exc x S => .exc x ρ S
  | .stk => .stk
def forLoop (tg : Tg) (f : Env → Store → F) : List P → Env → Store → F
  | [], ρ, S => .nx ρ S
  | p :: ps, ρ, S => match tgSet tg p ρ with
    | none => .stk
    | some ρ1 => match f ρ1 S with
      | .nx ρ2 S2 => forLoop tg f ps ρ2 S2
      | .ct ρ2 S2 => forLoop tg f ps ρ2 S2
      | .bk ρ2 S2 => .nx ρ2 S2
      | r => r
def whileLoop (t : Env → Store → R Bool) (f : Env → Store → F) : Nat → Env → Store → F
  | 0, _, _ => .stk
  | n + 1, ρ, S => (t ρ S).stm ρ fun b S1 => if b then match f ρ S1 with
      | .nx ρ2 S2 => whileLoop t f n ρ2 S2
      | .ct ρ2 S2 => whileLoop t f n ρ2 S2
      | .bk ρ2 S2 => .nx ρ2 S2
      | r => r
    else .nx ρ S1
def setAll : List Nat → List D → Env → Option Env
  | [], [], ρ => some ρ
  | i :: is, d :: ds, ρ => if i < ρ.length then setAll is ds (ρ.set i (some d)) else none
  | _, _, _ => none
mutual
def evS : IS → Env → Store → F
  | .asg i e, ρ, S => (evE gv c e ρ S).stm ρ fun d S1 => if i < ρ.length then .nx (ρ.set i (some d)) S1 else .stk
  | .par is es, ρ, S => (evDs gv c es ρ S).stm ρ fun ds S1 => match setAll is ds ρ with
    | some ρ1 => .nx ρ1 S1
    | none => .stk
  | .unp tg e, ρ, S => (evE gv c e ρ S).stm ρ fun d S1 => match d with
    | .val p => match tgSet tg p ρ with
      | some ρ1 => .nx ρ1 S1
      | none => .stk
    | _ => .stk
  | .setI o i e, ρ, S => (evE gv c e ρ S).stm ρ fun d S1 => (evE gv c o ρ S1).stm ρ fun x S2 => (evE gv c i ρ S2).stm ρ fun y S3 => (frz d S3).stm ρ fun p S4 => match x, peek S4 y with
    | .cell n, some (.int k) => match S4[n]? with
      | some (.lst ps) => match L2.ixN ps.length k with
        | some j => .nx ρ (S4.set n (.lst (ps.set j p)))
        | none => .stk
      | _ => .stk
    | _, _ => .stk
  | .ifS t a b, ρ, S => (evT gv c t ρ S).stm ρ fun k S1 => if k then evSs a ρ S1 else evSs b ρ S1
  | .forS tg it body, ρ, S => (evI gv c it ρ S).stm ρ fun items S1 => forLoop tg (evSs body) items ρ S1
  | .whileS n t body, ρ, S => whileLoop (evT gv c t) (evSs body) n ρ S
  | .ret e, ρ, S => (evE gv c e ρ S).stm ρ fun d S1 => .rt d S1
  | .retN, _, S => .rt (.val .non) S
  | .exprS e, ρ, S => (evE gv c e ρ S).stm ρ fun _ S1 => .nx ρ S1
  | .pass, ρ, S => .nx ρ S
  | .brk, ρ, S => .bk ρ S
  | .cont, ρ, S => .ct ρ S
  | .nev, _, _ => .stk
def evSs : List IS → Env → Store → F
  | [], ρ, S => .nx ρ S
  | s :: ss, ρ, S => (evS s ρ S).seq fun ρ1 S1 => evSs ss ρ1 S1
end
end
/-- a def -/
structure FD where
  ps : List Str
  N : List Str
  body : List IS
  kw : List (Nat × List Str × List Nat) := []
/-- behind a def's body: what it made for itself is dropped, what it hands back stays -/
def endBody (n : Nat) (r : F) : R D := match r with
  | .nx _ S => .ok (.val .non) (S.take n)
  | .rt (.val p) S => .ok (.val p) (S.take n)
  | .rt (.cell m) S => if m < n then .ok (.cell m) (S.take n) else match S[m]? with
    | some x => .ok (.cell n) (S.take n ++ [x])
    | none => .stk
  | .exc x _ S => .exc x (S.take n)
  | _ => .stk
def callK (gv : Nat → Option P) (G : Nat → Option FD) : Nat → CallF
  | 0, _, _, _ => .stk
  | k + 1, f, ds, S => match G f with
    | none => .stk
    | some fd => if ds.length = fd.ps.length then endBody S.length (evSs gv (callK gv G k) fd.body (ds.map some ++ List.replicate (fd.N.length - ds.length) none) S) else .stk
end Pk

/-! Part 2: how data lie in the tracked heap -/
namespace Pk
open PySem PySem.Spec PyProof.Rows L2

/-- names of what the numbers stand for -/
structure Gs where
  gv : Nat → Option P
  G : Nat → Option FD
  gn : Nat → Str
  fn : Nat → Str
  cn : Nat → Str
  an : Nat → Str

/-- the cells' places, and what is held for later -/
structure Al where
  l : List Addr
  T : Hp
instance : Membership Addr Al := ⟨fun α a => a ∈ α.l ∨ α.T a ≠ none⟩
theorem Al.nin {α : Al} {a : Addr} (h : a ∉ α) : a ∉ α.l ∧ α.T a = none := by
  refine ⟨fun z => h (.inl z), ?_⟩
  cases e : α.T a with
  | none => rfl
  | some o => exact absurd (.inr (by rw [e]; exact Option.some_ne_none o)) h
theorem Al.nin_of {α : Al} {a : Addr} (h : a ∉ α.l) (h' : α.T a = none) : a ∉ α := fun z => by
  rcases z with z | z
  · exact h z
  · exact z h'
def Al.push (α : Al) (a : Addr) : Al := ⟨α.l ++ [a], α.T⟩
def Al.take (α : Al) (n : Nat) : Al := ⟨α.l.take n, α.T⟩
section
variable (K : PySem.W.Frag) (F : Hp)
mutual
/-- a frozen datum -/
def Rp : P → V → Prop
  | .non, v => v = .non
  | .bl b, v => v = .bl b
  | .int i, v => v = .int i
  | .str x, v => v = .str x
  | .tup ps, v => ∃ a xs, v = .ref a ∧ SqT K F a xs ∧ xs.length ≤ sizeLine ∧ Rps ps xs
  | .lst ps, v => ∃ a xs, v = .ref a ∧ F a = some (.lst xs) ∧ xs.length ≤ sizeLine ∧ Rps ps xs
  | .scr ns, v => ∃ a, v = .ref a ∧ SqL K F a (ns.map V.int) ∧ ns.length ≤ sizeLine ∧ ((∃ o, F a = some (.frz o (.lst (ns.map V.int)))) ∨ ∃ o, K.lookup a = some o ∧ o.cls = .type "list")
  | _, _ => False
def Rps : List P → List V → Prop
  | [], [] => True
  | p :: ps, v :: vs => Rp p v ∧ Rps ps vs
  | _, _ => False
end
end
section
variable {K : PySem.W.Frag} {F F' H H' : Hp} {α α' : Al} {S S' : Store}
theorem SqT.same {a : Addr} {xs : List V} (e : Same F F') (h : SqT K F a xs) : SqT K F' a xs := by
  rcases h with (h | ⟨o, h⟩) | h
  · exact .inl (.inl (e _ _ h))
  · exact .inl (.inr ⟨o, e _ _ h⟩)
  · exact .inr h
mutual
theorem Rp.mono (e : Same F F') : ∀ {p : P} {v : V}, Rp K F p v → Rp K F' p v
  | .non, v, h => by simp only [Rp] at h ⊢; exact h
  | .bl b, v, h => by simp only [Rp] at h ⊢; exact h
  | .int i, v, h => by simp only [Rp] at h ⊢; exact h
  | .str x, v, h => by simp only [Rp] at h ⊢; exact h
  | .tup ps, v, h => by
    simp only [Rp] at h ⊢
    obtain ⟨a, xs, q, h1, h2, h3⟩ := h
    exact ⟨a, xs, q, SqT.same e h1, h2, Rps.mono e h3⟩
  | .lst ps, v, h => by
    simp only [Rp] at h ⊢
    obtain ⟨a, xs, q, h1, h2, h3⟩ := h
    exact ⟨a, xs, q, e _ _ h1, h2, Rps.mono e h3⟩
  | .scr ns, v, h => by
    simp only [Rp] at h ⊢
    obtain ⟨a, q, h1, h2, h3⟩ := h
    refine ⟨a, q, e.seq h1, h2, ?_⟩
    rcases h3 with ⟨o, h3⟩ | h3
    · exact .inl ⟨o, e _ _ h3⟩
    · exact .inr h3
  | .dct _, v, h => by simp only [Rp] at h
  | .ins _ _, v, h => by simp only [Rp] at h
theorem Rps.mono (e : Same F F') : ∀ {ps : List P} {vs : List V}, Rps K F ps vs → Rps K F' ps vs
  | [], [], h => by simp only [Rps]
  | p :: ps, v :: vs, h => by
    simp only [Rps] at h ⊢
    exact ⟨Rp.mono e h.1, Rps.mono e h.2⟩
  | [], _ :: _, h => by simp only [Rps] at h
  | _ :: _, [], h => by simp only [Rps] at h
end
theorem Rps.length : ∀ {ps : List P} {vs : List V}, Rps K F ps vs → vs.length = ps.length
  | [], [], h => rfl
  | p :: ps, v :: vs, h => by
    simp only [Rps] at h
    simp [Rps.length h.2]
  | [], _ :: _, h => by simp only [Rps] at h
  | _ :: _, [], h => by simp only [Rps] at h
theorem Rps.append : ∀ {ps qs : List P} {vs us : List V}, Rps K F ps vs → Rps K F qs us → Rps K F (ps ++ qs) (vs ++ us)
  | [], _, [], _, h, h' => h'
  | p :: ps, _, v :: vs, _, h, h' => by
    simp only [Rps, List.cons_append] at h ⊢
    exact ⟨h.1, Rps.append h.2 h'⟩
  | [], _, _ :: _, _, h, _ => by simp only [Rps] at h
  | _ :: _, _, [], _, h, _ => by simp only [Rps] at h
theorem Rps.nil : Rps K F [] [] := by simp only [Rps]
theorem Rps.cons {p : P} {v : V} {ps : List P} {vs : List V} (h : Rp K F p v) (h' : Rps K F ps vs) : Rps K F (p :: ps) (v :: vs) := by
  simp only [Rps]
  exact ⟨h, h'⟩
theorem Rps.inv_cons {p : P} {ps : List P} {vs : List V} (h : Rps K F (p :: ps) vs) : ∃ v us, vs = v :: us ∧ Rp K F p v ∧ Rps K F ps us := by
  cases vs with
  | nil => simp only [Rps] at h
  | cons v us =>
    simp only [Rps] at h
    exact ⟨v, us, rfl, h.1, h.2⟩
theorem Rps.inv_nil {vs : List V} (h : Rps K F [] vs) : vs = [] := by
  cases vs with
  | nil => rfl
  | cons v us => simp only [Rps] at h
theorem Rps.get : ∀ {ps : List P} {vs : List V} {i : Nat} {p : P}, Rps K F ps vs → ps[i]? = some p → ∃ v, vs[i]? = some v ∧ Rp K F p v
  | p :: ps, v :: vs, 0, q, h, e => by
    simp only [Rps] at h
    simp at e
    subst e
    exact ⟨v, rfl, h.1⟩
  | p :: ps, v :: vs, i + 1, q, h, e => by
    simp only [Rps] at h
    obtain ⟨u, h1, h2⟩ := Rps.get (i := i) h.2 (by simpa using e)
    exact ⟨u, by simpa using h1, h2⟩
  | [], _, _, _, h, e => by simp at e
  | _ :: _, [], _, _, h, _ => by simp only [Rps] at h
theorem Rps.at_ {ps : List P} {vs : List V} {i : Nat} {v : V} (h : Rps K F ps vs) (e : vs[i]? = some v) : ∃ p, ps[i]? = some p ∧ Rp K F p v := by
  have hl := h.length
  have hi : i < ps.length := by
    have := (List.getElem?_eq_some_iff.mp e).1
    omega
  obtain ⟨u, h1, h2⟩ := h.get (List.getElem?_eq_getElem hi)
  rw [e] at h1
  cases h1
  exact ⟨_, List.getElem?_eq_getElem hi, h2⟩
theorem Rps.set : ∀ {ps : List P} {vs : List V} {p : P} {v : V} (i : Nat), Rps K F ps vs → Rp K F p v → Rps K F (ps.set i p) (vs.set i v)
  | [], [], _, _, _, h, _ => by simp [Rps]
  | q :: ps, u :: vs, p, v, 0, h, r => by
    simp only [Rps, List.set_cons_zero] at h ⊢
    exact ⟨r, h.2⟩
  | q :: ps, u :: vs, p, v, i + 1, h, r => by
    simp only [Rps, List.set_cons_succ] at h ⊢
    exact ⟨h.1, Rps.set i h.2 r⟩
  | [], _ :: _, _, _, _, h, _ => by simp only [Rps] at h
  | _ :: _, [], _, _, _, h, _ => by simp only [Rps] at h
theorem Rps.take : ∀ {ps : List P} {vs : List V} (n : Nat), Rps K F ps vs → Rps K F (ps.take n) (vs.take n)
  | _, _, 0, h => by simp [Rps]
  | [], [], n + 1, h => by simp [Rps]
  | p :: ps, v :: vs, n + 1, h => by
    simp only [Rps, List.take_succ_cons] at h ⊢
    exact ⟨h.1, Rps.take n h.2⟩
  | [], _ :: _, _ + 1, h => by simp only [Rps] at h
  | _ :: _, [], _ + 1, h => by simp only [Rps] at h
theorem Rps.drop : ∀ {ps : List P} {vs : List V} (n : Nat), Rps K F ps vs → Rps K F (ps.drop n) (vs.drop n)
  | _, _, 0, h => by simpa using h
  | [], [], n + 1, h => by simp [Rps]
  | p :: ps, v :: vs, n + 1, h => by
    simp only [Rps, List.drop_succ_cons] at h ⊢
    exact Rps.drop n h.2
  | [], _ :: _, _ + 1, h => by simp only [Rps] at h
  | _ :: _, [], _ + 1, h => by simp only [Rps] at h
theorem Rps.flat {ps : List P} {vs : List V} (h : Rps K F ps vs) : ∀ k : Nat, Rps K F (List.replicate k ps).flatten (List.replicate k vs).flatten
  | 0 => by simp [Rps]
  | k + 1 => by
    simp only [List.replicate_succ, List.flatten_cons]
    exact h.append (h.flat k)
theorem Rps.ints : ∀ {ns : List Int}, Rps K F (ns.map P.int) (ns.map V.int)
  | [] => Rps.nil
  | n :: ns => by
    simp only [List.map_cons]
    exact Rps.cons (by simp only [Rp]) Rps.ints

/-- a cell's content -/
def CellOk (K : PySem.W.Frag) (H F : Hp) (a : Addr) : Cell → Prop
  | .lst ps => F a = none ∧ ∃ xs, H a = some (.lst xs) ∧ xs.length ≤ sizeLine ∧ Rps K F ps xs
  | .fz p => Rp K F p (.ref a)
  | _ => False
/-- the tracked heap, its frozen part, the cells -/
structure Wd (K : PySem.W.Frag) (H F : Hp) (α : Al) (S : Store) : Prop where
  sub : Same F H
  len : α.l.length = S.length
  nd : α.l.Nodup
  thr : ∀ a ∈ α.l, ∃ o, H a = some o
  held : ∀ a o, α.T a = some o → H a = some o ∧ F a = none ∧ a ∉ α.l
  cell : ∀ (n : Nat) (a : Addr) (c : Cell), α.l[n]? = some a → S[n]? = some c → CellOk K H F a c
def DR (K : PySem.W.Frag) (F : Hp) (α : Al) : D → V → Prop
  | .val p, v => Rp K F p v
  | .cell n, v => ∃ a, α.l[n]? = some a ∧ v = .ref a
def EnvR (K : PySem.W.Frag) (F : Hp) (α : Al) (ρ : Env) (σ : L2.St) : Prop :=
  ρ.length = σ.length ∧ ∀ (i : Nat) (d : D), ρ[i]? = some (some d) → ∃ v, σ[i]? = some (some v) ∧ DR K F α d v
/-- onwards: what was frozen stays, the cells stay in their places -/
structure On (F : Hp) (α : Al) (F' : Hp) (α' : Al) : Prop where
  same : Same F F'
  pre : α.l <+: α'.l
  T : α'.T = α.T
theorem On.refl : On F α F α := ⟨Same.refl F, List.prefix_refl _, rfl⟩
theorem On.trans {F2 : Hp} {α2 : Al} (a : On F α F' α') (b : On F' α' F2 α2) : On F α F2 α2 := ⟨a.same.trans b.same, a.pre.trans b.pre, b.T.trans a.T⟩
theorem pre_get {n : Nat} {a : Addr} (h : α.l <+: α'.l) (e : α.l[n]? = some a) : α'.l[n]? = some a := by
  obtain ⟨t, h⟩ := h
  have hn := (List.getElem?_eq_some_iff.mp e).1
  rw [← h, List.getElem?_append_left hn]
  exact e
theorem DR.mono (o : On F α F' α') : ∀ {d : D} {v : V}, DR K F α d v → DR K F' α' d v
  | .val p, v, h => Rp.mono o.same h
  | .cell n, v, ⟨a, h, e⟩ => ⟨a, pre_get o.pre h, e⟩
theorem EnvR.mono {ρ : Env} {σ : L2.St} (o : On F α F' α') (h : EnvR K F α ρ σ) : EnvR K F' α' ρ σ :=
  ⟨h.1, fun i d e => let ⟨v, h1, h2⟩ := h.2 i d e; ⟨v, h1, h2.mono o⟩⟩
theorem EnvR.set {ρ : Env} {σ : L2.St} {i : Nat} {d : D} {v : V} (h : EnvR K F α ρ σ) (r : DR K F α d v) : EnvR K F α (ρ.set i (some d)) (σ.set i (some v)) := by
  refine ⟨by simpa using h.1, fun j e he => ?_⟩
  by_cases hj : i = j
  · subst hj
    have hi : i < ρ.length := by
      have := (List.getElem?_eq_some_iff.mp he).1
      simpa using this
    rw [List.getElem?_set_self hi] at he
    cases he
    exact ⟨v, by rw [List.getElem?_set_self (by rw [← h.1]; exact hi)], r⟩
  · rw [List.getElem?_set_ne hj] at he
    obtain ⟨u, h1, h2⟩ := h.2 j e he
    exact ⟨u, by rw [List.getElem?_set_ne hj]; exact h1, h2⟩
theorem EnvR.unset {ρ : Env} {σ : L2.St} {i : Nat} (h : EnvR K F α ρ σ) : EnvR K F α (ρ.set i none) (σ.set i none) := by
  refine ⟨by simpa using h.1, fun j e he => ?_⟩
  by_cases hj : i = j
  · subst hj
    have hi : i < ρ.length := by
      have := (List.getElem?_eq_some_iff.mp he).1
      simpa using this
    rw [List.getElem?_set_self hi] at he
    cases he
  · rw [List.getElem?_set_ne hj] at he
    obtain ⟨u, h1, h2⟩ := h.2 j e he
    exact ⟨u, by rw [List.getElem?_set_ne hj]; exact h1, h2⟩
theorem EnvR.wipe {ρ : Env} {σ : L2.St} (h : EnvR K F α ρ σ) : ∀ vs : List Nat, EnvR K F α (wipeE ρ vs) (L2.wipe σ vs)
  | [] => h
  | v :: vs => by
    unfold wipeE L2.wipe
    exact (h.wipe vs).unset

/-! ### the heap grows -/
theorem CellOk.mono {a : Addr} {c : Cell} (hF : Same F F') (hn : F a = none → F' a = none) (hH : ∀ o, H a = some o → H' a = some o) (h : CellOk K H F a c) : CellOk K H' F' a c := by
  cases c with
  | lst ps =>
    obtain ⟨h1, xs, h2, h3, h4⟩ := h
    exact ⟨hn h1, xs, hH _ h2, h3, h4.mono hF⟩
  | fz p => exact Rp.mono hF h
  | dct kvs => exact h
  | ins c fs => exact h
end
end Pk

/-! Part 3: what a reading of the small language asks of the judgements -/
namespace Pk
open PySem PySem.Spec PyProof.Rows L2
section
variable {K : PySem.W.Frag} {F F' F2 H H' : Hp} {α α' α2 : Al} {S S' : Store}
theorem Same.upd_none {p : Addr} {o : HO} (h : F p = none) : Same F (upd F p o) := fun b u e => by
  by_cases hb : b = p
  · subst hb; rw [h] at e; cases e
  · rw [upd_ne hb]; exact e
theorem Wd.free (w : Wd K H F α S) {p : Addr} (h : H p = none) : F p = none := w.sub.free h
theorem Wd.nin (w : Wd K H F α S) {p : Addr} (h : H p = none) : p ∉ α := Al.nin_of (fun m => by
  obtain ⟨o, e⟩ := w.thr p m
  rw [h] at e; cases e) (by
  cases e : α.T p with
  | none => rfl
  | some o => have := (w.held p o e).1; rw [h] at this; cases this)
theorem Wd.ne (w : Wd K H F α S) {n : Nat} {a p : Addr} (e : α.l[n]? = some a) (h : H p = none) : a ≠ p := fun q => w.nin h (q ▸ .inl (List.mem_of_getElem? e))
/-- a new object, not frozen -/
theorem Wd.new (w : Wd K H F α S) {p : Addr} {o : HO} (h : H p = none) : Wd K (upd H p o) F α S :=
  ⟨w.sub.trans (Same.upd_none h), w.len, w.nd, fun a m => by
    obtain ⟨u, e⟩ := w.thr a m
    exact ⟨u, Same.upd_none h _ _ e⟩, fun a u e => ⟨Same.upd_none h _ _ (w.held a u e).1, (w.held a u e).2⟩, fun n a c e1 e2 => (w.cell n a c e1 e2).mono (Same.refl F) id fun u e => Same.upd_none h _ _ e⟩
/-- frozen from now on -/
theorem Wd.frz (w : Wd K H F α S) {p : Addr} {o : HO} (h : H p = some o) (hF : F p = none) (hp : p ∉ α) : Wd K H (upd F p o) α S :=
  ⟨fun b u e => by
    by_cases hb : b = p
    · subst hb; rw [upd_same] at e; cases e; exact h
    · rw [upd_ne hb] at e; exact w.sub _ _ e, w.len, w.nd, w.thr, fun a u e => ⟨(w.held a u e).1, by
      rw [upd_ne (fun z => hp (by subst z; exact .inr (by rw [e]; exact Option.some_ne_none u)))]; exact (w.held a u e).2.1, (w.held a u e).2.2⟩, fun n a c e1 e2 => (w.cell n a c e1 e2).mono (Same.upd_none hF) (fun q => by
      rw [upd_ne (fun z => hp (by subst z; exact .inl (List.mem_of_getElem? e1)))]; exact q) fun _ e => e⟩
theorem On.frz {p : Addr} {o : HO} (hF : F p = none) : On F α (upd F p o) α := ⟨Same.upd_none hF, List.prefix_refl _, rfl⟩
/-- a new object, frozen at once -/
theorem Wd.newF (w : Wd K H F α S) {p : Addr} {o : HO} (h : H p = none) : Wd K (upd H p o) (upd F p o) α S :=
  (w.new (o := o) h).frz upd_same (w.free h) (w.nin h)
/-- a new cell -/
theorem Wd.push (w : Wd K H F α S) {a : Addr} {xs : List V} {ps : List P} (h : H a = some (.lst xs)) (hF : F a = none) (ha : a ∉ α) (hl : xs.length ≤ sizeLine) (r : Rps K F ps xs) : Wd K H F (α.push a) (S ++ [.lst ps]) := by
  obtain ⟨ha, haT⟩ := Al.nin ha
  refine ⟨w.sub, by simp [Al.push, w.len], List.nodup_append.mpr ⟨w.nd, by simp, fun x hx y hy e => ?_⟩, fun x m => ?_, fun x u e => ⟨(w.held x u e).1, (w.held x u e).2.1, fun m => ?_⟩, fun n x c e1 e2 => ?_⟩
  · rw [List.mem_singleton] at hy; exact ha (hy ▸ e ▸ hx)
  · rcases List.mem_append.mp m with m | m
    · exact w.thr x m
    · rw [List.mem_singleton] at m; subst m; exact ⟨_, h⟩
  · rcases List.mem_append.mp m with m | m
    · exact (w.held x u e).2.2 m
    · rw [List.mem_singleton] at m; subst m
      have e : α.T x = some u := e
      rw [haT] at e; cases e
  · by_cases hn : n < α.l.length
    · simp only [Al.push] at e1
      rw [List.getElem?_append_left hn] at e1
      rw [List.getElem?_append_left (by rw [← w.len]; exact hn)] at e2
      exact w.cell n x c e1 e2
    · simp only [Al.push] at e1
      have hn' : n = α.l.length := by
        have := (List.getElem?_eq_some_iff.mp e1).1
        simp at this
        omega
      subst hn'
      rw [List.getElem?_append_right (Nat.le_refl _)] at e1
      rw [List.getElem?_append_right (by rw [w.len]; exact Nat.le_refl _)] at e2
      simp [w.len] at e1 e2
      subst e1 e2
      exact ⟨hF, xs, h, hl, r⟩
theorem On.push {a : Addr} : On F α F (α.push a) := ⟨Same.refl F, ⟨[a], rfl⟩, rfl⟩
theorem nd_inj (h : α.l.Nodup) {i j : Nat} {a : Addr} (e1 : α.l[i]? = some a) (e2 : α.l[j]? = some a) : i = j := by
  obtain ⟨h1, q1⟩ := List.getElem?_eq_some_iff.mp e1
  obtain ⟨h2, q2⟩ := List.getElem?_eq_some_iff.mp e2
  exact (List.getElem_inj h).mp (q1.trans q2.symm)
/-- a cell's list is changed -/
theorem Wd.upd (w : Wd K H F α S) {n : Nat} {a : Addr} {ps qs : List P} {xs : List V} (ha : α.l[n]? = some a) (hS : S[n]? = some (.lst ps)) (hl : xs.length ≤ sizeLine) (r : Rps K F qs xs) : Wd K (L2.upd H a (.lst xs)) F α (S.set n (.lst qs)) := by
  obtain ⟨hF, _⟩ := w.cell n a _ ha hS
  refine ⟨fun b u e => ?_, by simp [w.len], w.nd, fun x m => ?_, fun x u e => ⟨?_, (w.held x u e).2⟩, fun j x c e1 e2 => ?_⟩
  · rw [upd_ne (fun z => by subst z; rw [hF] at e; cases e)]
    exact w.sub _ _ e
  · by_cases hx : x = a
    · subst hx; exact ⟨_, upd_same⟩
    · obtain ⟨u, e⟩ := w.thr x m
      exact ⟨u, by rw [upd_ne hx]; exact e⟩
  · rw [upd_ne (fun z => (w.held x u e).2.2 (by subst z; exact List.mem_of_getElem? ha))]
    exact (w.held x u e).1
  · by_cases hj : n = j
    · subst hj
      rw [ha] at e1; cases e1
      have hi := (List.getElem?_eq_some_iff.mp hS).1
      rw [List.getElem?_set_self hi] at e2; cases e2
      exact ⟨hF, xs, upd_same, hl, r⟩
    · rw [List.getElem?_set_ne hj] at e2
      exact (w.cell j x c e1 e2).mono (Same.refl F) id fun u e => by
        rw [upd_ne (fun z => hj (nd_inj w.nd ha (by subst z; exact e1)))]; exact e
/-- a cell's list is frozen -/
theorem Wd.fzc (w : Wd K H F α S) {n : Nat} {a : Addr} {ps : List P} {xs : List V} (ha : α.l[n]? = some a) (hS : S[n]? = some (.lst ps)) (h : H a = some (.lst xs)) (hl : xs.length ≤ sizeLine) (r : Rps K F ps xs) :
    Wd K H (L2.upd F a (.lst xs)) α (S.set n (.fz (.lst ps))) := by
  obtain ⟨hF, _⟩ := w.cell n a _ ha hS
  have sm : Same F (L2.upd F a (.lst xs)) := Same.upd_none hF
  refine ⟨fun b u e => ?_, by simp [w.len], w.nd, w.thr, fun x u e => ⟨(w.held x u e).1, ?_, (w.held x u e).2.2⟩, fun j x c e1 e2 => ?_⟩
  · by_cases hb : b = a
    · subst hb; rw [upd_same] at e; cases e; exact h
    · rw [upd_ne hb] at e; exact w.sub _ _ e
  · rw [upd_ne (fun z => (w.held x u e).2.2 (by subst z; exact List.mem_of_getElem? ha))]
    exact (w.held x u e).2.1
  · by_cases hj : n = j
    · subst hj
      rw [ha] at e1; cases e1
      have hi := (List.getElem?_eq_some_iff.mp hS).1
      rw [List.getElem?_set_self hi] at e2; cases e2
      show Rp K _ (.lst ps) _
      simp only [Rp]
      exact ⟨_, xs, rfl, upd_same, hl, r.mono sm⟩
    · rw [List.getElem?_set_ne hj] at e2
      exact (w.cell j x c e1 e2).mono sm (fun q => by
        rw [upd_ne (fun z => hj (nd_inj w.nd ha (by subst z; exact e1)))]; exact q) fun _ e => e
theorem Wd.take (w : Wd K H F α S) (n : Nat) : Wd K H F (α.take n) (S.take n) :=
  ⟨w.sub, by simp [Al.take, w.len], w.nd.sublist (List.take_sublist n α.l), fun a m => w.thr a (List.mem_of_mem_take m), fun a u e => ⟨(w.held a u e).1, (w.held a u e).2.1, fun m => (w.held a u e).2.2 (List.mem_of_mem_take m)⟩, fun j a c e1 e2 => by
    simp only [Al.take] at e1
    rw [List.getElem?_take] at e1 e2
    split at e1
    · rename_i hj
      rw [if_pos hj] at e2
      exact w.cell j a c e1 e2
    · cases e1⟩
/-- a list is held while something else runs -/
def Al.hold (α : Al) (D : Addr) (o : HO) : Al := ⟨α.l, L2.upd α.T D o⟩
theorem Wd.hold (w : Wd K H F α S) {D : Addr} {o : HO} (h : H D = some o) (hF : F D = none) (hD : D ∉ α.l) : Wd K H F (α.hold D o) S :=
  ⟨w.sub, w.len, w.nd, w.thr, fun a u e => by
    by_cases ha : a = D
    · subst ha
      have e : L2.upd α.T a o a = some u := e
      rw [upd_same] at e; cases e
      exact ⟨h, hF, hD⟩
    · have e : L2.upd α.T D o a = some u := e
      rw [upd_ne ha] at e
      exact w.held a u e, w.cell⟩
theorem Wd.hset {D : Addr} {o o' : HO} (w : Wd K H F (α.hold D o) S) : Wd K (L2.upd H D o') F (α.hold D o') S := by
  obtain ⟨h1, h2, h3⟩ := w.held D o (by show L2.upd α.T D o D = _; rw [upd_same])
  refine ⟨fun b u e => ?_, w.len, w.nd, fun a m => ?_, fun a u e => ?_, fun n a c e1 e2 => ?_⟩
  · rw [upd_ne (fun z => by subst z; rw [h2] at e; cases e)]; exact w.sub _ _ e
  · by_cases ha : a = D
    · subst ha; exact ⟨_, upd_same⟩
    · obtain ⟨u, e⟩ := w.thr a m
      exact ⟨u, by rw [upd_ne ha]; exact e⟩
  · have e : L2.upd α.T D o' a = some u := e
    by_cases ha : a = D
    · subst ha
      rw [upd_same] at e; cases e
      exact ⟨upd_same, h2, h3⟩
    · rw [upd_ne ha] at e
      have := w.held a u (by show L2.upd α.T D o a = _; rw [upd_ne ha]; exact e)
      exact ⟨by rw [upd_ne ha]; exact this.1, this.2⟩
  · exact (w.cell n a c e1 e2).mono (Same.refl F) id fun u e => by
      rw [upd_ne (fun z => h3 (by subst z; exact List.mem_of_getElem? e1))]; exact e
theorem Wd.unhold {D : Addr} {o : HO} (hT : α.T D = none) (w : Wd K H F (α.hold D o) S) : Wd K H F α S :=
  ⟨w.sub, w.len, w.nd, w.thr, fun a u e => w.held a u (by
    show L2.upd α.T D o a = _
    rw [upd_ne (fun z => by subst z; rw [hT] at e; cases e)]; exact e), w.cell⟩
theorem Wd.heldD {D : Addr} {o : HO} (w : Wd K H F (α.hold D o) S) : H D = some o ∧ F D = none ∧ D ∉ α.l := w.held D o (by show L2.upd α.T D o D = _; rw [upd_same])
/-- onwards with a list held -/
theorem On.held {D : Addr} {o : HO} (h : On F (α.hold D o) F' α') : On F α F' ⟨α'.l, α.T⟩ ∧ α' = Al.hold ⟨α'.l, α.T⟩ D o := by
  refine ⟨⟨h.same, h.pre, rfl⟩, ?_⟩
  cases α' with
  | mk l T =>
    have := h.T
    show (⟨l, T⟩ : Al) = ⟨l, L2.upd α.T D o⟩
    rw [show T = L2.upd α.T D o from this]

/-- what is read where it stands: a list that may still change -/
def Vw (K : PySem.W.Frag) (H F : Hp) : P → V → Prop
  | .lst ps, v => ∃ a xs, v = .ref a ∧ H a = some (.lst xs) ∧ xs.length ≤ sizeLine ∧ Rps K F ps xs
  | p, v => Rp K F p v
theorem Rp.vw {p : P} {v : V} (sub : Same F H) (h : Rp K F p v) : Vw K H F p v := by
  cases p with
  | lst ps =>
    simp only [Rp] at h
    obtain ⟨a, xs, e, h1, h2, h3⟩ := h
    exact ⟨a, xs, e, sub _ _ h1, h2, h3⟩
  | _ => exact h
theorem DR.vw (w : Wd K H F α S) {d : D} {v : V} {p : P} (h : DR K F α d v) (e : peek S d = some p) : Vw K H F p v := by
  cases d with
  | val q =>
    have e : q = p := Option.some.inj e
    subst e
    exact Rp.vw w.sub h
  | cell n =>
    obtain ⟨a, h1, rfl⟩ := h
    unfold peek at e
    cases hS : S[n]? with
    | none => simp [hS] at e
    | some c =>
      have ck := w.cell n a c h1 hS
      cases c with
      | lst ps =>
        simp [hS] at e
        subst e
        obtain ⟨_, xs, h2, h3, h4⟩ := ck
        exact ⟨a, xs, rfl, h2, h3, h4⟩
      | fz q =>
        simp [hS] at e
        subst e
        exact Rp.vw w.sub ck
      | dct kvs => exact ck.elim
      | ins c fs => exact ck.elim

/-- how an exception of the small language lies -/
def XRep (K : PySem.W.Frag) (ca : Nat → Addr) (an : Nat → Str) (F H : Hp) : Exn → Value → Option Addr → Prop
  | .own c fs, cls, dd => cls = .ref (ca c) ∧ ∃ d vs, dd = some d ∧ H d = some (.xd vs) ∧ Paired (fun (q : Str × V) (p : Nat × P) => q.1 = an p.1 ∧ Rp K F p.2 q.2) vs fs
  | .blt n, cls, _ => cls = .type n
end
/-- the names' addresses: classes, attributes; what is wished of exceptions -/
structure Cz where
  ca : Nat → Addr
  an : Nat → Str
abbrev RelT (τ υ : Type) := Hp → Hp → Al → τ → υ → Prop
/-- behind a piece of the small language that came to r -/
def Po {τ υ : Type} (K : PySem.W.Frag) (z : Cz) (W : WX) (σ : L2.St) (F : Hp) (α : Al) (Rel : RelT τ υ) (r : R τ) (Q : υ → Hp → Prop) : Prop := match r with
  | .ok d S' => ∀ v H' F' α', On F α F' α' → Wd K H' F' α' S' → Rel H' F' α' d v → Q v H'
  | .exc x S' => ∀ cls dd H' F' α', On F α F' α' → Wd K H' F' α' S' → XRep K z.ca z.an F' H' x cls dd → W cls dd σ H'
  | .stk => False
section
variable {K : PySem.W.Frag} {z : Cz} {W : WX} {σ : L2.St} {F F1 H : Hp} {α α1 : Al} {S : Store} {τ υ τ' υ' : Type} {Rel Rel1 : RelT τ υ} {Rel2 : RelT τ' υ'} {r : R τ} {Q Q' : υ → Hp → Prop}
theorem Po.on (o : On F α F1 α1) (h : Po K z W σ F α Rel r Q) : Po K z W σ F1 α1 Rel r Q := by
  cases r with
  | ok d S' => exact fun v H' F' α' o' => h v H' F' α' (o.trans o')
  | exc x S' => exact fun cls dd H' F' α' o' => h cls dd H' F' α' (o.trans o')
  | stk => exact h
theorem Po.mono (h : Po K z W σ F α Rel r Q) (hQ : ∀ v H, Q v H → Q' v H) : Po K z W σ F α Rel r Q' := by
  cases r with
  | ok d S' => exact fun v H' F' α' o w k => hQ _ _ (h v H' F' α' o w k)
  | exc x S' => exact h
  | stk => exact h
theorem Po.bind {k : τ → Store → R τ'} {Q : υ' → Hp → Prop} (h : Po K z W σ F α Rel2 (r.bind k) Q) :
    Po K z W σ F α Rel r (fun v H1 => ∃ F1 α1 a S1, On F α F1 α1 ∧ Wd K H1 F1 α1 S1 ∧ Rel H1 F1 α1 a v ∧ Po K z W σ F1 α1 Rel2 (k a S1) Q) := by
  cases r with
  | ok d S' => exact fun v H' F' α' o w q => ⟨F', α', d, S', o, w, q, Po.on (r := k d S') o h⟩
  | exc x S' => exact h
  | stk => exact h
theorem Po.use {d : τ} {S' : Store} {v : υ} {H' F' : Hp} {α' : Al} (h : Po K z W σ F α Rel (.ok d S') Q) (o : On F α F' α') (w : Wd K H' F' α' S') (k : Rel H' F' α' d v) : Q v H' := h v H' F' α' o w k
theorem Po.stk (h : Po K z W σ F α Rel (.stk : R τ) Q) {A : Prop} : A := (show False from h).elim
/-- from a weaker wish to a stronger one -/
theorem Po.rel (h : Po K z W σ F α Rel1 r Q) (k : ∀ (H' F' : Hp) (α' : Al) (S' : Store) (d : τ) (v : υ), r = .ok d S' → Wd K H' F' α' S' → Rel H' F' α' d v → ∃ F2 α2, On F' α' F2 α2 ∧ Wd K H' F2 α2 S' ∧ Rel1 H' F2 α2 d v) : Po K z W σ F α Rel r Q := by
  cases r with
  | ok d S' =>
    intro v H' F' α' o w q
    obtain ⟨F2, α2, o2, w2, q2⟩ := k H' F' α' S' d v rfl w q
    exact h v H' F2 α2 (o.trans o2) w2 q2
  | exc x S' => exact h
  | stk => exact h
end
/-- a value -/
abbrev RD (K : PySem.W.Frag) : RelT D V := fun _ F α d v => DR K F α d v
/-- a value; a list is new, not frozen yet -/
def RF (K : PySem.W.Frag) : RelT D V := fun H F α d v => match d with
  | .val (.lst ps) => ∃ a xs, v = .ref a ∧ H a = some (.lst xs) ∧ F a = none ∧ a ∉ α ∧ xs.length ≤ sizeLine ∧ Rps K F ps xs
  | d => DR K F α d v
abbrev RP (K : PySem.W.Frag) : RelT P V := fun _ F _ p v => Rp K F p v
abbrev RPs (K : PySem.W.Frag) : RelT (List P) (List V) := fun _ F _ p v => Rps K F p v
def DRs (K : PySem.W.Frag) (F : Hp) (α : Al) : List D → List V → Prop
  | [], [] => True
  | d :: ds, v :: vs => DR K F α d v ∧ DRs K F α ds vs
  | _, _ => False
abbrev RDs (K : PySem.W.Frag) : RelT (List D) (List V) := fun _ F α d v => DRs K F α d v
abbrev REq {τ : Type} : RelT τ τ := fun _ _ _ a b => b = a
/-- the lift: from slots and heap to a reading -/
def LG {τ υ : Type} (K : PySem.W.Frag) (z : Cz) (W : WX) (Rel : RelT τ υ) (m : Env → Store → R τ) : L2.St → Hp → (υ → Hp → Prop) → Prop := fun σ H Q =>
  ∃ F α ρ S, Wd K H F α S ∧ EnvR K F α ρ σ ∧ Po K z W σ F α Rel (m ρ S) Q
section
variable {K : PySem.W.Frag} {z : Cz} {W : WX} {σ : L2.St} {F F1 H : Hp} {α α1 : Al} {S : Store}
theorem DRs.mono {F' : Hp} {α' : Al} (o : On F α F' α') : ∀ {ds : List D} {vs : List V}, DRs K F α ds vs → DRs K F' α' ds vs
  | [], [], h => trivial
  | d :: ds, v :: vs, h => ⟨h.1.mono o, DRs.mono o h.2⟩
  | [], _ :: _, h => h.elim
  | _ :: _, [], h => h.elim
theorem DRs.length : ∀ {ds : List D} {vs : List V}, DRs K F α ds vs → vs.length = ds.length
  | [], [], h => rfl
  | d :: ds, v :: vs, h => by simp [DRs.length h.2]
  | [], _ :: _, h => h.elim
  | _ :: _, [], h => h.elim
/-- freezing what is new -/
theorem Po.frzd {r : R D} {Q : VK} (h : Po K z W σ F α (RD K) r Q) : Po K z W σ F α (RF K) r Q := by
  refine h.rel fun H' F' α' S' d v e w q => ?_
  cases d with
  | cell n => exact ⟨F', α', .refl, w, q⟩
  | val p =>
    cases p with
    | lst ps =>
      obtain ⟨a, xs, rfl, h1, h2, h3, h4, h5⟩ := q
      refine ⟨upd F' a (.lst xs), α', .frz h2, w.frz h1 h2 h3, ?_⟩
      show Rp K _ (.lst ps) _
      simp only [Rp]
      exact ⟨a, xs, rfl, upd_same, h4, h5.mono (Same.upd_none h2)⟩
    | _ => exact ⟨F', α', .refl, w, q⟩
theorem LG.frzd {m : Env → Store → R D} {H : Hp} {Q : VK} (h : LG K z W (RD K) m σ H Q) : LG K z W (RF K) m σ H Q := by
  obtain ⟨F, α, ρ, S, w, e, p⟩ := h
  exact ⟨F, α, ρ, S, w, e, p.frzd⟩
/-- giving a plain result -/
theorem Po.giv {o : Option P} {S : Store} {Q : VK} {Rel : RelT D V} (h : Po K z W σ F α Rel (giv o S) Q) : ∃ p, o = some p ∧ ∀ v H' F' α', On F α F' α' → Wd K H' F' α' S → Rel H' F' α' (.val p) v → Q v H' := by
  cases o with
  | none => exact (show False from h).elim
  | some p => exact ⟨p, rfl, h⟩
end
section
variable {X : Cx}
theorem _root_.L2.PE.imp {e : Expr} {t t' : TE} (h : PE X e t) (k : ∀ σ H Q, t' σ H Q → t σ H Q) : PE X e t' := ⟨fun pins s σ H Q I q => h.run pins s σ H Q I (k _ _ _ q)⟩
theorem _root_.L2.PT.imp {e : Expr} {t t' : TT} (h : PT X e t) (k : ∀ σ H Q, t' σ H Q → t σ H Q) : PT X e t' := ⟨fun pins s σ H Q I q => h.run pins s σ H Q I (k _ _ _ q)⟩
theorem _root_.L2.PA.imp {e : List Expr} {t t' : TA} (h : PA X e t) (k : ∀ σ H Q, t' σ H Q → t σ H Q) : PA X e t' := ⟨fun pos pins s σ H Q I q => h.run pos pins s σ H Q I (k _ _ _ q)⟩
theorem _root_.L2.PS.imp {e : Stmt} {t t' : TS} (h : PS X e t) (k : ∀ D σ H, t' D σ H → t D σ H) : PS X e t' := ⟨fun pins s σ H D I q => h.run pins s σ H D I (k _ _ _ q)⟩
theorem _root_.L2.PSs.imp {e : List Stmt} {t t' : TS} (h : PSs X e t) (k : ∀ D σ H, t' D σ H → t D σ H) : PSs X e t' := ⟨fun pins s σ H D I q => h.run pins s σ H D I (k _ _ _ q)⟩
theorem _root_.L2.PI.imp {tg e : Expr} {t t' : TI} (h : PI X tg e t) (k : ∀ σ H R, t' σ H R → t σ H R) : PI X tg e t' := ⟨fun pins s σ H R I q => h.run pins s σ H R I (k _ _ _ q)⟩
theorem _root_.L2.PO.imp {e : Option Expr} {t t' : TO} (h : PO X e t) (k : ∀ σ H Q, t' σ H Q → t σ H Q) : PO X e t' := ⟨fun pins s σ H Q I q => h.run pins s σ H Q I (k _ _ _ q)⟩
end
end Pk

/-! Part 4: operators, comparisons, subscripts, built-in functions by values -/
namespace Pk
open PySem PySem.Spec PyProof.Rows L2
theorem lim_eq : sizeLine = lim := by rw [sizeLine_eq]
section
variable {K : PySem.W.Frag} {F H : Hp} {α : Al} {S : Store}
theorem RF.of {p : P} {v : V} (hp : ∀ ps, p ≠ .lst ps) (h : Rp K F p v) : RF K H F α (.val p) v := by
  cases p with
  | lst ps => exact absurd rfl (hp ps)
  | _ => exact h
theorem RF.int {i : Int} : RF K H F α (.val (.int i)) (.int i) := RF.of (fun _ e => nomatch e) (by simp only [Rp])
theorem RF.bl {b : Bool} : RF K H F α (.val (.bl b)) (.bl b) := RF.of (fun _ e => nomatch e) (by simp only [Rp])
theorem RF.str {x : Str} : RF K H F α (.val (.str x)) (.str x) := RF.of (fun _ e => nomatch e) (by simp only [Rp])
theorem RF.non : RF K H F α (.val .non) .non := RF.of (fun _ e => nomatch e) (by simp only [Rp])
/-- what a new list, a new tuple is -/
theorem RF.lst {p : Addr} {xs : List V} {ps : List P} (w : Wd K H F α S) (h : H p = none) (hl : xs.length ≤ sizeLine) (r : Rps K F ps xs) :
    Wd K (upd H p (.lst xs)) F α S ∧ RF K (upd H p (.lst xs)) F α (.val (.lst ps)) (.ref p) :=
  ⟨w.new h, p, xs, rfl, upd_same, w.free h, w.nin h, hl, r⟩
theorem RF.tup {p : Addr} {xs : List V} {ps : List P} (w : Wd K H F α S) (h : H p = none) (hl : xs.length ≤ sizeLine) (r : Rps K F ps xs) :
    ∃ F', On F α F' α ∧ Wd K (upd H p (.tup xs)) F' α S ∧ RF K (upd H p (.tup xs)) F' α (.val (.tup ps)) (.ref p) := by
  refine ⟨_, .frz (o := .tup xs) (w.free h), w.newF h, RF.of (fun _ e => nomatch e) ?_⟩
  simp only [Rp]
  exact ⟨p, xs, rfl, SqT.of upd_same, hl, r.mono (Same.upd_none (w.free h))⟩

/-! ### data -/
theorem SqT.up (e : Same F H) {a : Addr} {xs : List V} (h : SqT K F a xs) : SqT K H a xs := SqT.same e h
mutual
theorem Rp.dp (e : Same F H) : ∀ {p : P} {v : V} {d : PyData}, Rp K F p v → p.py = some d → Dp K H v d
  | .non, v, d, h, q => by
    simp only [Rp] at h
    simp only [P.py, Option.some.injEq] at q
    subst h q
    exact .non
  | .bl b, v, d, h, q => by
    simp only [Rp] at h
    simp only [P.py, Option.some.injEq] at q
    subst h q
    exact .bl b
  | .int i, v, d, h, q => by
    simp only [Rp] at h
    simp only [P.py, Option.some.injEq] at q
    subst h q
    exact .int i
  | .str x, v, d, h, q => by
    simp only [Rp] at h
    simp only [P.py, Option.some.injEq] at q
    subst h q
    exact .str x
  | .tup ps, v, d, h, q => by
    simp only [Rp] at h
    obtain ⟨a, xs, rfl, h1, _, h3⟩ := h
    simp only [P.py, Option.map_eq_some_iff] at q
    obtain ⟨ds, q1, rfl⟩ := q
    exact .tup (SqT.up e h1) (Rps.dp e h3 q1)
  | .lst ps, v, d, h, q => by
    simp only [Rp] at h
    obtain ⟨a, xs, rfl, h1, _, h3⟩ := h
    simp only [P.py, Option.map_eq_some_iff] at q
    obtain ⟨ds, q1, rfl⟩ := q
    exact .lst (SqL.of (e _ _ h1)) (Rps.dp e h3 q1)
  | .scr _, _, _, _, q => by simp [P.py] at q
  | .dct _, _, _, _, q => by simp [P.py] at q
  | .ins _ _, _, _, _, q => by simp [P.py] at q
theorem Rps.dp (e : Same F H) : ∀ {ps : List P} {vs : List V} {ds : List PyData}, Rps K F ps vs → P.pys ps = some ds → DpAll K H vs ds
  | [], vs, ds, h, q => by
    have := Rps.inv_nil h
    subst this
    simp only [P.pys, Option.some.injEq] at q
    subst q
    exact .nil
  | p :: ps, vs, ds, h, q => by
    obtain ⟨v, us, rfl, h1, h2⟩ := Rps.inv_cons h
    simp only [P.pys] at q
    cases e1 : p.py with
    | none => simp [e1] at q
    | some d =>
      cases e2 : P.pys ps with
      | none => simp [e1, e2] at q
      | some ds' =>
        simp [e1, e2] at q
        subst q
        exact .cons (Rp.dp e h1 e1) (Rps.dp e h2 e2)
end
theorem Vw.dp (e : Same F H) {p : P} {v : V} {d : PyData} (h : Vw K H F p v) (q : p.py = some d) : Dp K H v d := by
  cases p with
  | lst ps =>
    obtain ⟨a, xs, rfl, h1, _, h3⟩ := h
    simp only [P.py, Option.map_eq_some_iff] at q
    obtain ⟨ds, q1, rfl⟩ := q
    exact .lst (SqL.of h1) (Rps.dp e h3 q1)
  | _ => exact Rp.dp e h q
theorem shapedP_some {p : P} {d : PyData} (h : shapedP p = some d) : p.py = some d ∧ SeqAt.shaped d = true := by
  unfold shapedP at h
  cases e : p.py with
  | none => simp [e] at h
  | some d' =>
    simp [e] at h
    obtain ⟨h1, rfl⟩ := h
    exact ⟨rfl, h1⟩
end

/-! ### two values, one value -/
section
variable (K : PySem.W.Frag)
/-- of two values: f's result -/
def r2 (f : P → P → Option P) : R2 := fun x y H Q => ∃ z W σ F α S p q, Wd K H F α S ∧ Vw K H F p x ∧ Vw K H F q y ∧ Po K z W σ F α (RF K) (giv (f p q) S) Q
end
section
variable {X : Cx}
theorem small_ok {i j : Int} (h : (small i || small j) = true) : CMul i j := by
  unfold small at h
  simp only [Bool.or_eq_true, Bool.and_eq_true, decide_eq_true_eq] at h
  rcases h with h | h
  · exact .inl h
  · exact .inr h
theorem op_bin (op : Operator) : OpR X (binaryOp op) (r2 X.K (binP op)) := by
  intro pins s σ H x y v u Q I rx ry ⟨z, W, σ0, F, α, S, p, q, w, vp, vq, po⟩
  obtain ⟨r, hr, k⟩ := po.giv
  unfold binP at hr
  split at hr
  · -- + of ints
    simp only [Vw, Rp] at vp vq; subst vp vq
    cases hr
    exact op_add pins s σ H _ _ v u Q I rx ry ⟨_, _, rfl, rfl, k _ H F α .refl w .int⟩
  · -- texts
    simp only [Vw, Rp] at vp vq; subst vp vq
    split at hr
    · rename_i hl
      cases hr
      exact op_add_str pins s σ H _ _ v u Q I rx ry ⟨_, _, rfl, rfl, by rw [lim_eq]; exact hl, k _ H F α .refl w .str⟩
    · cases hr
  · -- lists
    obtain ⟨a, xs, rfl, h1, h2, h3⟩ := vp
    obtain ⟨b, ys, rfl, g1, g2, g3⟩ := vq
    split at hr
    · rename_i hl
      cases hr
      have hl' : xs.length + ys.length ≤ sizeLine := by rw [h3.length, g3.length, lim_eq]; exact hl
      refine op_cat pins s σ H _ _ v u Q I rx ry ⟨a, b, xs, ys, rfl, rfl, h1, g1, hl', fun n hn => ?_⟩
      obtain ⟨w', r'⟩ := RF.lst w hn (by rw [List.length_append]; exact hl') (h3.append g3)
      exact k _ _ F α .refl w' r'
    · cases hr
  · -- tuples
    simp only [Vw, Rp] at vp vq
    obtain ⟨a, xs, rfl, h1, h2, h3⟩ := vp
    obtain ⟨b, ys, rfl, g1, g2, g3⟩ := vq
    split at hr
    · rename_i hl
      cases hr
      have hl' : xs.length + ys.length ≤ sizeLine := by rw [h3.length, g3.length, lim_eq]; exact hl
      refine op_catA pins s σ H _ _ v u Q I rx ry ⟨a, b, xs, ys, rfl, rfl, SqT.up w.sub h1, SqT.up w.sub g1, hl', fun e => ?_, fun e1 e2 => ?_, fun _ _ n hn => ?_⟩
      · subst e
        have e0 := h3.length
        have : (_ : List P) = [] := List.eq_nil_of_length_eq_zero e0.symm
        rw [this] at k
        refine k _ H F α .refl w (RF.of (fun _ e => nomatch e) ?_)
        simp only [Rp]
        exact ⟨b, ys, rfl, g1, g2, g3⟩
      · subst e2
        have e0 := g3.length
        have : (_ : List P) = [] := List.eq_nil_of_length_eq_zero e0.symm
        rw [this, List.append_nil] at k
        refine k _ H F α .refl w (RF.of (fun _ e => nomatch e) ?_)
        simp only [Rp]
        exact ⟨a, xs, rfl, h1, h2, h3⟩
      · obtain ⟨F', o', w', r'⟩ := RF.tup w hn (by rw [List.length_append]; exact hl') (h3.append g3)
        exact k _ _ F' α o' w' r'
    · cases hr
  · simp only [Vw, Rp] at vp vq; subst vp vq
    cases hr
    exact op_sub pins s σ H _ _ v u Q I rx ry ⟨_, _, rfl, rfl, k _ H F α .refl w .int⟩
  · simp only [Vw, Rp] at vp vq; subst vp vq
    split at hr
    · rename_i hs
      cases hr
      exact op_mul pins s σ H _ _ v u Q I rx ry ⟨_, _, rfl, rfl, small_ok hs, k _ H F α .refl w .int⟩
    · cases hr
  · rename_i ps0 k0
    obtain ⟨a, xs, rfl, h1, h2, h3⟩ := vp
    simp only [Vw, Rp] at vq; subst vq
    split at hr
    · rename_i hs
      simp only [Bool.and_eq_true, decide_eq_true_eq] at hs
      cases hr
      have hl' : xs.length * k0.toNat ≤ sizeLine := by rw [h3.length, lim_eq]; exact hs.2
      refine op_rep pins s σ H _ _ v u Q I rx ry ⟨a, _, xs, rfl, rfl, h1, hs.1.1, hs.1.2, hl', fun n hn => ?_⟩
      have r3 := h3.flat k0.toNat
      obtain ⟨w', r'⟩ := RF.lst w hn (by simp only [List.length_flatten, List.map_replicate, List.sum_replicate_nat]; rw [Nat.mul_comm]; exact hl') r3
      exact k _ _ F α .refl w' r'
    · cases hr
  · simp only [Vw, Rp] at vp vq; subst vp vq
    split at hr
    · rename_i hs
      simp only [Bool.and_eq_true, decide_eq_true_eq] at hs
      cases hr
      exact op_fdiv pins s σ H _ _ v u Q I rx ry ⟨_, _, rfl, rfl, hs, k _ H F α .refl w .int⟩
    · cases hr
  · simp only [Vw, Rp] at vp vq; subst vp vq
    split at hr
    · rename_i hs
      cases hr
      exact op_mod pins s σ H _ _ v u Q I rx ry ⟨_, _, rfl, rfl, hs, k _ H F α .refl w .int⟩
    · cases hr
  · simp only [Vw, Rp] at vp vq; subst vp vq
    split at hr
    · rename_i hs
      simp only [Bool.and_eq_true, decide_eq_true_eq] at hs
      cases hr
      exact op_pow pins s σ H _ _ v u Q I rx ry ⟨_, _, rfl, rfl, ⟨hs.1.1, hs.1.2, hs.2⟩, k _ H F α .refl w .int⟩
    · cases hr
  · cases hr

/-! ### comparisons -/
theorem op_in_tupD (hu : X.A.units + 65 < cLine) : OpR X (compareOp .In) (fun x y H Q => ∃ d ds, Dp X.K H x d ∧ Dp X.K H y (.tuple ds) ∧ SeqAt.shaped d = true ∧ SeqAt.shaped (.tuple ds) = true ∧ Q (.bl (ds.any fun z => PyData.eqv z d)) H) := by
  intro pins s σ H x y v u Q I rx ry ⟨d, ds, hd, he, sd, se, q⟩
  obtain ⟨as, r1⟩ := Dp.reads I d x v hd rx
  obtain ⟨bs, r2⟩ := Dp.reads I (.tuple ds) y u he ry
  exact SeqAt.in_tuple_reads r2 r1 (SeqAt.canLay_of_shaped se) (SeqAt.canLay_of_shaped sd) (room_in_shaped sd hu) ⟨.bl _, H, I, rfl, q⟩
theorem op_notIn_tupD (hu : X.A.units + 65 < cLine) : OpR X (compareOp .NotIn) (fun x y H Q => ∃ d ds, Dp X.K H x d ∧ Dp X.K H y (.tuple ds) ∧ SeqAt.shaped d = true ∧ SeqAt.shaped (.tuple ds) = true ∧ Q (.bl (!ds.any fun z => PyData.eqv z d)) H) := by
  intro pins s σ H x y v u Q I rx ry ⟨d, ds, hd, he, sd, se, q⟩
  obtain ⟨as, r1⟩ := Dp.reads I d x v hd rx
  obtain ⟨bs, r2⟩ := Dp.reads I (.tuple ds) y u he ry
  exact SeqAt.notIn_tuple_reads r2 r1 (SeqAt.canLay_of_shaped se) (SeqAt.canLay_of_shaped sd) (room_in_shaped sd hu) ⟨.bl _, H, I, rfl, q⟩
theorem isNon_eq {K : PySem.W.Frag} {H F : Hp} {p : P} {v : V} (h : Vw K H F p v) : decide (v = V.non) = isNon p := by
  cases p with
  | non => simp only [Vw, Rp] at h; subst h; rfl
  | bl b => simp only [Vw, Rp] at h; subst h; rfl
  | int b => simp only [Vw, Rp] at h; subst h; rfl
  | str b => simp only [Vw, Rp] at h; subst h; rfl
  | tup b => simp only [Vw, Rp] at h; obtain ⟨a, xs, rfl, _⟩ := h; rfl
  | lst b => obtain ⟨a, xs, rfl, _⟩ := h; rfl
  | scr b => simp only [Vw, Rp] at h; obtain ⟨a, rfl, _⟩ := h; rfl
  | dct b => simp only [Vw, Rp] at h
  | ins c b => simp only [Vw, Rp] at h
theorem sign_of {x : Str} (h : (x.length == 1) = true) : x = ⟨#[x.cps.getD 0 0]⟩ := by
  obtain ⟨c⟩ := x
  have h : c.size = 1 := by simpa [Str.length] using h
  congr 1
  apply Array.ext
  · simp [h]
  · intro i h1 h2
    have : i = 0 := by omega
    subst this
    simp [Array.getD, h]
/-- the order, as the machine finds it -/
theorem EqAt_of {pins : List (Addr × Obj)} {s : Shared} {σ : L2.St} {H F : Hp} {A : Around} (I : Inv X pins σ H s) (e : Same F H) {p q : P} {x y : V} {v u : Value} {b : Bool} (hp : Rp X.K F p x) (hq : Rp X.K F q y) (rx : RelV x v) (ry : RelV y u)
    (h : eqP p q = some b) (hu : A.units + 64 < cLine) : SeqAt.EqAt A s v u b := by
  unfold eqP at h
  cases e1 : shapedP p with
  | none => simp [e1] at h
  | some d =>
    cases e2 : shapedP q with
    | none => simp [e1, e2] at h
    | some d' =>
      simp [e1, e2] at h
      obtain ⟨q1, s1⟩ := shapedP_some e1
      obtain ⟨q2, s2⟩ := shapedP_some e2
      obtain ⟨as, r1⟩ := Dp.reads I d x v (Rp.dp e hp q1) rx
      obtain ⟨bs, r2⟩ := Dp.reads I d' y u (Rp.dp e hq q2) ry
      subst h
      have h1 : d.depth ≤ 64 := by
        unfold SeqAt.shaped at s1
        simp only [Bool.and_eq_true, decide_eq_true_eq] at s1
        exact s1.2
      exact SeqAt.eqAt_reads d d' A s v u _ _ r1 r2 (SeqAt.canLay_of_shaped s1) (SeqAt.canLay_of_shaped s2) (by omega)
theorem lexAt_shift (e r : Nat → Bool) (z : Bool) : ∀ (k i : Nat), Ob.lexAt e r z (i + 1) k = Ob.lexAt (fun j => e (j + 1)) (fun j => r (j + 1)) z i k
  | 0, i => rfl
  | k + 1, i => by
    rw [Ob.lexAt_succ, Ob.lexAt_succ, lexAt_shift e r z k (i + 1)]
theorem ordFs_at {le : Bool} {c : P → P → Option Bool} : ∀ {ps qs : List P} {b : Bool}, ordFs le c ps qs = some b → ∀ j, j < ps.length → j < qs.length →
    ∃ e l, eqP (ps.getD j .non) (qs.getD j .non) = some e ∧ c (ps.getD j .non) (qs.getD j .non) = some l
  | [], _, _, _, j, h, _ => absurd h (Nat.not_lt_zero j)
  | _ :: _, [], _, _, j, _, h => absurd h (Nat.not_lt_zero j)
  | p :: ps, q :: qs, b, h, j, h1, h2 => by
    simp only [ordFs] at h
    split at h
    · rename_i e l r he hl hr
      cases j with
      | zero => exact ⟨e, l, he, hl⟩
      | succ j =>
        simp only [List.getD_cons_succ]
        exact ordFs_at hr j (by simpa using h1) (by simpa using h2)
    · cases h
theorem ordFs_lex {le : Bool} {c : P → P → Option Bool} : ∀ {ps qs : List P} {b : Bool}, ordFs le c ps qs = some b →
    Ob.lexAt (fun j => (eqP (ps.getD j .non) (qs.getD j .non)).getD false) (fun j => (c (ps.getD j .non) (qs.getD j .non)).getD false) (if le then decide (ps.length ≤ qs.length) else decide (ps.length < qs.length)) 0 (min ps.length qs.length) = b
  | [], [], b, h => by
    simp only [ordFs, Option.some.injEq] at h
    subst h
    cases le <;> rfl
  | [], q :: qs, b, h => by
    simp only [ordFs, Option.some.injEq] at h
    subst h
    cases le <;> simp [Ob.lexAt_zero]
  | p :: ps, [], b, h => by
    simp only [ordFs, Option.some.injEq] at h
    subst h
    cases le <;> simp [Ob.lexAt_zero]
  | p :: ps, q :: qs, b, h => by
    simp only [ordFs] at h
    split at h
    · rename_i e l r he hl hr
      have ih := ordFs_lex hr
      have hm : min (p :: ps).length (q :: qs).length = min ps.length qs.length + 1 := by simp
      rw [hm, Ob.lexAt_succ, lexAt_shift]
      simp only [List.getD_cons_zero, List.getD_cons_succ, he, hl, Option.getD_some]
      have z : (if le = true then decide ((p :: ps).length ≤ (q :: qs).length) else decide ((p :: ps).length < (q :: qs).length)) = (if le = true then decide (ps.length ≤ qs.length) else decide (ps.length < qs.length)) := by
        cases le <;> simp
      rw [z, ih]
      simpa using h
    · cases h
theorem rc_lt_str {A : Around} {s : Shared} (a b : Str) (t u : Tok) : Ob.RcOp .Lt A s (.str a t) (.str b u) (strLt a b) := fun _ _ _ _ h => PySem.P.lt_str h
theorem rc_le_str {A : Around} {s : Shared} (a b : Str) (t u : Tok) : Ob.RcOp .LtE A s (.str a t) (.str b u) (!strLt b a) := fun _ _ _ _ h => PySem.P.le_str h
theorem ord_run {pins : List (Addr × Obj)} {s : Shared} {σ : L2.St} {H F : Hp} (I : Inv X pins σ H s) (e : Same F H) (le : Bool) : ∀ (n : Nat) (A : Around) (p q : P) (x y : V) (v u : Value) (b : Bool), ordF le n p q = some b → Rp X.K F p x → Rp X.K F q y → RelV x v → RelV y u →
    A.units + n + 64 < cLine → Ob.RcOp (if le then .LtE else .Lt) A s v u b
  | 0, _, _, _, _, _, _, _, _, h, _, _, _, _, _ => by cases h
  | n + 1, A, p, q, x, y, v, u, b, h, hp, hq, rx, ry, hu => by
    simp only [ordF] at h
    split at h
    · simp only [Rp] at hp hq
      subst hp hq
      obtain ⟨t, rfl⟩ := rx
      obtain ⟨t', rfl⟩ := ry
      cases h
      cases le with
      | true => exact Ob.RcOp.le_int _ _ _ _
      | false => exact Ob.RcOp.lt_int _ _ _ _
    · simp only [Rp] at hp hq
      subst hp hq
      obtain ⟨t, rfl⟩ := rx
      obtain ⟨t', rfl⟩ := ry
      cases h
      cases le with
      | true => exact rc_le_str _ _ _ _
      | false => exact rc_lt_str _ _ _ _
    · rename_i ps qs
      simp only [Rp] at hp hq
      obtain ⟨a, xs, rfl, h1, h2, h3⟩ := hp
      obtain ⟨a', ys, rfl, g1, g2, g3⟩ := hq
      cases rx
      cases ry
      obtain ⟨its, r1, p1, _⟩ := I.tuple (SqT.up e h1)
      obtain ⟨its2, r2, p2, _⟩ := I.tuple (SqT.up e g1)
      have l1 : its.toArray.size = ps.length := by rw [List.size_toArray, ← r1.length]; exact h3.length
      have l2 : its2.toArray.size = qs.length := by rw [List.size_toArray, ← r2.length]; exact g3.length
      have at_ : ∀ j (h1 : j < its.toArray.size) (h2 : j < its2.toArray.size), ∃ x' y', Rp X.K F (ps.getD j .non) x' ∧ Rp X.K F (qs.getD j .non) y' ∧ RelV x' its.toArray[j] ∧ RelV y' its2.toArray[j] := fun j j1 j2 => by
        have k1 : j < ps.length := by omega
        have k2 : j < qs.length := by omega
        obtain ⟨x', e1, e2⟩ := h3.get (List.getElem?_eq_getElem k1)
        obtain ⟨y', f1, f2⟩ := g3.get (List.getElem?_eq_getElem k2)
        obtain ⟨u1, e3, e4⟩ := r1.get e1
        obtain ⟨u2, f3, f4⟩ := r2.get f1
        refine ⟨x', y', by simpa [List.getD, k1] using e2, by simpa [List.getD, k2] using f2, ?_, ?_⟩
        · have : its.toArray[j] = u1 := by
            have := (List.getElem?_eq_some_iff.mp e3).2
            simpa using this
          rw [this]; exact e4
        · have : its2.toArray[j] = u2 := by
            have := (List.getElem?_eq_some_iff.mp f3).2
            simpa using this
          rw [this]; exact f4
      have heq : ∀ j (h1 : j < its.toArray.size) (h2 : j < its2.toArray.size), SeqAt.EqAt A.in1 s its.toArray[j] its2.toArray[j] ((fun j => (eqP (ps.getD j .non) (qs.getD j .non)).getD false) j) := fun j j1 j2 => by
        obtain ⟨x', y', a1, a2, a3, a4⟩ := at_ j j1 j2
        obtain ⟨e', l', b1, b2⟩ := ordFs_at h j (by omega) (by omega)
        have := EqAt_of (A := A.in1) I e a1 a2 a3 a4 b1 (by show A.units + 1 + 64 < cLine; omega)
        show SeqAt.EqAt A.in1 s _ _ ((eqP (ps.getD j .non) (qs.getD j .non)).getD false)
        rw [b1]
        exact this
      have hrc : ∀ j (h1 : j < its.toArray.size) (h2 : j < its2.toArray.size), ((fun j => (eqP (ps.getD j .non) (qs.getD j .non)).getD false) j) = false → Ob.RcOp (if le then .LtE else .Lt) A.in1 s its.toArray[j] its2.toArray[j] ((fun j => (ordF le n (ps.getD j .non) (qs.getD j .non)).getD false) j) := fun j j1 j2 _ => by
        obtain ⟨x', y', a1, a2, a3, a4⟩ := at_ j j1 j2
        obtain ⟨e', l', b1, b2⟩ := ordFs_at h j (by omega) (by omega)
        have := ord_run I e le n A.in1 _ _ _ _ _ _ _ b2 a1 a2 a3 a4 (by show A.units + 1 + n + 64 < cLine; omega)
        show Ob.RcOp _ A.in1 s _ _ ((ordF le n (ps.getD j .non) (qs.getD j .non)).getD false)
        rw [b2]
        exact this
      have lx := ordFs_lex h
      rw [← l1, ← l2] at lx
      cases le with
      | true =>
        have := Ob.RcOp.tuples_le (A := A) (s := s) p1 p2 (by omega) heq hrc
        simp only [if_true] at lx
        rw [lx] at this
        exact this
      | false =>
        have := Ob.RcOp.tuples_lt (A := A) (s := s) p1 p2 (by omega) heq hrc
        simp only [Bool.false_eq_true, if_false] at lx
        rw [lx] at this
        exact this
    · cases h
theorem Vw.rp_of_ord {K : PySem.W.Frag} {F H : Hp} {le : Bool} {n : Nat} {p q : P} {b : Bool} {x y : V} (h : ordF le n p q = some b) (hp : Vw K H F p x) (hq : Vw K H F q y) : Rp K F p x ∧ Rp K F q y := by
  cases n with
  | zero => cases h
  | succ n =>
    simp only [ordF] at h
    split at h
    · exact ⟨hp, hq⟩
    · exact ⟨hp, hq⟩
    · exact ⟨hp, hq⟩
    · cases h
theorem op_cmp (op : CmpOp) (hu : X.A.units + 200 < cLine) : OpR X (compareOp op) (r2 X.K (fun p q => (cmpP op p q).map .bl)) := by
  intro pins s σ H x y v u Q I rx ry ⟨z, W, σ0, F, α, S, p, q, w, vp, vq, po⟩
  obtain ⟨r, hr, k⟩ := po.giv
  rw [Option.map_eq_some_iff] at hr
  obtain ⟨b, hr, rfl⟩ := hr
  have kb : Q (.bl b) H := k _ H F α .refl w .bl
  have eqs : ∀ {b}, eqP p q = some b → ∃ d e, Dp X.K H x d ∧ Dp X.K H y e ∧ SeqAt.shaped d = true ∧ SeqAt.shaped e = true ∧ b = PyData.eqv d e := fun {b} h => by
    unfold eqP at h
    cases e1 : shapedP p with
    | none => simp [e1] at h
    | some d =>
      cases e2 : shapedP q with
      | none => simp [e1, e2] at h
      | some d' =>
        simp [e1, e2] at h
        obtain ⟨q1, s1⟩ := shapedP_some e1
        obtain ⟨q2, s2⟩ := shapedP_some e2
        exact ⟨d, d', vp.dp w.sub q1, vq.dp w.sub q2, s1, s2, h.symm⟩
  have ins : ∀ {b}, inP p q = some b → (∃ c z, x = .str ⟨#[c]⟩ ∧ y = .str z ∧ b = decide (c ∈ z.cps.toList)) ∨ (∃ d ds, Dp X.K H x d ∧ Dp X.K H y (.list ds) ∧ SeqAt.shaped d = true ∧ SeqAt.shaped (.list ds) = true ∧ b = ds.any fun z => PyData.eqv z d) ∨
      (∃ d ds, Dp X.K H x d ∧ Dp X.K H y (.tuple ds) ∧ SeqAt.shaped d = true ∧ SeqAt.shaped (.tuple ds) = true ∧ b = ds.any fun z => PyData.eqv z d) := fun {b} h => by
    unfold inP at h
    split at h
    · split at h
      · split at h
        · rename_i h1
          simp only [Vw, Rp] at vp vq
          subst vp vq
          cases h
          exact .inl ⟨_, _, congrArg V.str (sign_of h1), rfl, rfl⟩
        · cases h
      · cases h
    · split at h
      · rename_i e1 e2
        cases h
        obtain ⟨q1, s1⟩ := shapedP_some e1
        obtain ⟨q2, s2⟩ := shapedP_some e2
        exact .inr (.inl ⟨_, _, vp.dp w.sub q1, vq.dp w.sub q2, s1, s2, rfl⟩)
      · cases h
    · split at h
      · rename_i e1 e2
        cases h
        obtain ⟨q1, s1⟩ := shapedP_some e1
        obtain ⟨q2, s2⟩ := shapedP_some e2
        exact .inr (.inr ⟨_, _, vp.dp w.sub q1, vq.dp w.sub q2, s1, s2, rfl⟩)
      · cases h
    · cases h
  have iss : ∀ {b}, isP p q = some b → (y = .non ∧ b = decide (x = .non)) ∨ ∃ a c : Bool, x = .bl a ∧ y = .bl c ∧ b = decide (a = c) := fun {b} h => by
    unfold isP at h
    split at h
    · cases h
      rw [isNon_eq vp]
      simp only [Vw, Rp] at vq
      exact .inl ⟨vq, rfl⟩
    · simp only [Vw, Rp] at vp vq
      cases h
      exact .inr ⟨_, _, vp, vq, rfl⟩
    · cases h
  cases op with
  | Eq =>
    obtain ⟨d, e, h1, h2, h3, h4, rfl⟩ := eqs hr
    exact op_eqD (by omega) pins s σ H x y v u Q I rx ry ⟨d, e, h1, h2, h3, h4, kb⟩
  | NotEq =>
    simp only [cmpP, Option.map_eq_some_iff] at hr
    obtain ⟨b', hr, rfl⟩ := hr
    obtain ⟨d, e, h1, h2, h3, h4, rfl⟩ := eqs hr
    exact op_neD (by omega) pins s σ H x y v u Q I rx ry ⟨d, e, h1, h2, h3, h4, kb⟩
  | Lt =>
    obtain ⟨h1, h2⟩ := Vw.rp_of_ord hr vp vq
    exact ord_run I w.sub false 60 X.A p q x y v u b hr h1 h2 rx ry (by omega) X.prog X.w X.xe (EP X pins σ Q) ⟨.bl _, H, I, rfl, kb⟩
  | LtE =>
    obtain ⟨h1, h2⟩ := Vw.rp_of_ord hr vp vq
    exact ord_run I w.sub true 60 X.A p q x y v u b hr h1 h2 rx ry (by omega) X.prog X.w X.xe (EP X pins σ Q) ⟨.bl _, H, I, rfl, kb⟩
  | Gt =>
    simp only [cmpP] at hr
    unfold gtP at hr
    split at hr
    · simp only [Vw, Rp] at vp vq
      subst vp vq
      cases hr
      exact op_gt pins s σ H _ _ v u Q I rx ry ⟨_, _, rfl, rfl, kb⟩
    · simp only [Vw, Rp] at vp vq
      subst vp vq
      cases hr
      exact op_gt_str pins s σ H _ _ v u Q I rx ry ⟨_, _, rfl, rfl, kb⟩
    · cases hr
  | GtE =>
    simp only [cmpP] at hr
    unfold gtP at hr
    split at hr
    · simp only [Vw, Rp] at vp vq
      subst vp vq
      cases hr
      exact op_ge pins s σ H _ _ v u Q I rx ry ⟨_, _, rfl, rfl, kb⟩
    · simp only [Vw, Rp] at vp vq
      subst vp vq
      cases hr
      exact op_ge_str pins s σ H _ _ v u Q I rx ry ⟨_, _, rfl, rfl, kb⟩
    · cases hr
  | Is =>
    rcases iss hr with ⟨h1, rfl⟩ | ⟨a, c, h1, h2, rfl⟩
    · exact op_isN pins s σ H x y v u Q I rx ry ⟨h1, kb⟩
    · exact op_isBl pins s σ H x y v u Q I rx ry ⟨a, c, h1, h2, kb⟩
  | IsNot =>
    simp only [cmpP, Option.map_eq_some_iff] at hr
    obtain ⟨b', hr, rfl⟩ := hr
    rcases iss hr with ⟨h1, rfl⟩ | ⟨a, c, h1, h2, rfl⟩
    · exact op_notN pins s σ H x y v u Q I rx ry ⟨h1, kb⟩
    · exact op_notBl pins s σ H x y v u Q I rx ry ⟨a, c, h1, h2, kb⟩
  | In =>
    rcases ins hr with ⟨c, z', h1, h2, rfl⟩ | ⟨d, ds, h1, h2, h3, h4, rfl⟩ | ⟨d, ds, h1, h2, h3, h4, rfl⟩
    · exact op_in_sign pins s σ H x y v u Q I rx ry ⟨c, z', h1, h2, kb⟩
    · exact op_inD (by omega) pins s σ H x y v u Q I rx ry ⟨d, ds, h1, h2, h3, h4, kb⟩
    · exact op_in_tupD (by omega) pins s σ H x y v u Q I rx ry ⟨d, ds, h1, h2, h3, h4, kb⟩
  | NotIn =>
    simp only [cmpP, Option.map_eq_some_iff] at hr
    obtain ⟨b', hr, rfl⟩ := hr
    rcases ins hr with ⟨c, z', h1, h2, rfl⟩ | ⟨d, ds, h1, h2, h3, h4, rfl⟩ | ⟨d, ds, h1, h2, h3, h4, rfl⟩
    · exact op_notIn_sign pins s σ H x y v u Q I rx ry ⟨c, z', h1, h2, kb⟩
    · exact op_notInD (by omega) pins s σ H x y v u Q I rx ry ⟨d, ds, h1, h2, h3, h4, kb⟩
    · exact op_notIn_tupD (by omega) pins s σ H x y v u Q I rx ry ⟨d, ds, h1, h2, h3, h4, kb⟩
end
end Pk

/-! Part 5: subscripts, slices, truth, built-in functions, isinstance -/
namespace Pk
open PySem PySem.Spec PyProof.Rows L2
section
variable {X : Cx}
theorem atI_map {α β : Type} (f : α → β) (xs : List α) (i : Int) : atI (xs.map f) i = (atI xs i).map f := by
  unfold atI
  rw [List.length_map]
  cases ixN xs.length i with
  | none => rfl
  | some j => simp
theorem Rps.atI {K : PySem.W.Frag} {F : Hp} {ps : List P} {vs : List V} {i : Int} {p : P} (h : Rps K F ps vs) (e : L2.atI ps i = some p) : ∃ v, L2.atI vs i = some v ∧ Rp K F p v := by
  unfold L2.atI at e ⊢
  rw [h.length]
  cases q : ixN ps.length i with
  | none => rw [q] at e; cases e
  | some j =>
    rw [q] at e
    exact h.get e
/-- a frozen item is given as it is -/
theorem RF.frozen {K : PySem.W.Frag} {F H : Hp} {α : Al} {S : Store} {Q : VK} {p : P} {v : V} (k : ∀ v H' F' α', On F α F' α' → Wd K H' F' α' S → RD K H' F' α' (.val p) v → Q v H') (w : Wd K H F α S) (h : Rp K F p v) : Q v H := k v H F α .refl w h
/-- of two values, the result frozen already -/
def r2D (K : PySem.W.Frag) (f : P → P → Option P) : R2 := fun x y H Q => ∃ z W σ F α S p q, Wd K H F α S ∧ Vw K H F p x ∧ Vw K H F q y ∧ Po K z W σ F α (RD K) (giv (f p q) S) Q
theorem ix_all : IxR X (r2D X.K ixP) := by
  intro value slice pins s σ H x y v u Q I rx ry ⟨z, W, σ0, F, α, S, p, q, w, vp, vq, po⟩ hs
  obtain ⟨r, hr, k⟩ := po.giv
  unfold ixP at hr
  split at hr
  · obtain ⟨a, xs, rfl, h1, h2, h3⟩ := vp
    simp only [Vw, Rp] at vq; subst vq
    obtain ⟨v', e1, e2⟩ := h3.atI hr
    exact ix_list value slice pins s σ H _ _ v u Q I rx ry ⟨a, xs, _, v', rfl, rfl, SqL.of h1, e1, RF.frozen k w e2⟩ hs
  · simp only [Vw, Rp] at vp
    obtain ⟨a, xs, rfl, h1, h2, h3⟩ := vp
    simp only [Vw, Rp] at vq; subst vq
    obtain ⟨v', e1, e2⟩ := h3.atI hr
    exact ix_tup value slice pins s σ H _ _ v u Q I rx ry ⟨a, xs, _, v', rfl, rfl, SqT.up w.sub h1, e1, RF.frozen k w e2⟩ hs
  · simp only [Vw, Rp] at vp
    obtain ⟨a, rfl, h1, h2, _⟩ := vp
    simp only [Vw, Rp] at vq; subst vq
    rw [Option.map_eq_some_iff] at hr
    obtain ⟨n, hr, rfl⟩ := hr
    exact ix_list value slice pins s σ H _ _ v u Q I rx ry ⟨a, _, _, .int n, rfl, rfl, w.sub.seq h1, by rw [atI_map, hr]; rfl, RF.frozen k w (by simp only [Rp])⟩ hs
  · simp only [Vw, Rp] at vp vq; subst vp vq
    split at hr
    · rename_i hl
      rw [Option.map_eq_some_iff] at hr
      obtain ⟨c, hr, rfl⟩ := hr
      exact ix_str value slice pins s σ H _ _ v u Q I rx ry ⟨_, _, c, rfl, rfl, by rw [lim_eq]; exact hl, hr, RF.frozen k w (by simp only [Rp])⟩ hs
    · cases hr
  · cases hr
theorem Rps.cut {K : PySem.W.Frag} {F : Hp} {ps : List P} {vs : List V} (h : Rps K F ps vs) (lo hi : Option Int) : Rps K F (cutL ps lo hi) (cutV vs lo hi) := by
  unfold cutL cutV
  rw [h.length]
  exact (h.drop _).take _
theorem cutL_map {α β : Type} (f : α → β) (xs : List α) (lo hi : Option Int) : cutL (xs.map f) lo hi = (cutL xs lo hi).map f := by
  unfold cutL
  simp [List.map_take, List.map_drop]
theorem cutL_whole {α : Type} (xs : List α) (lo hi : Option Int) (h : HT.sIx xs.length 0 lo = 0 ∧ HT.sIx xs.length xs.length hi = xs.length) : cutL xs lo hi = xs := by
  unfold cutL
  rw [h.1, h.2]
  simp
def rSlP (K : PySem.W.Frag) : V → Option Int → Option Int → Hp → VK → Prop := fun x lo hi H Q => ∃ z W σ F α S p, Wd K H F α S ∧ Vw K H F p x ∧ Po K z W σ F α (RF K) (giv (slP p lo hi) S) Q
theorem sl_all : SlR X (rSlP X.K) := by
  intro pins s σ H x v vl vu lo hi sl Q I rx hs pl pu ⟨z, W, σ0, F, α, S, p, w, vp, po⟩
  obtain ⟨r, hr, k⟩ := po.giv
  unfold slP at hr
  split at hr
  · cases hr
    obtain ⟨a, xs, rfl, h1, h2, h3⟩ := vp
    refine sl_list pins s σ H _ v vl vu lo hi sl Q I rx hs pl pu ⟨a, xs, rfl, SqL.of h1, fun n hn => ?_⟩
    obtain ⟨w', r'⟩ := RF.lst w hn (Nat.le_trans (cutV_length xs lo hi) h2) (h3.cut lo hi)
    exact k _ _ F α .refl w' r'
  · cases hr
    rename_i ps
    simp only [Vw, Rp] at vp
    obtain ⟨a, xs, rfl, h1, h2, h3⟩ := vp
    refine sl_tupA pins s σ H _ v vl vu lo hi sl Q I rx hs pl pu ⟨a, xs, rfl, SqT.up w.sub h1, fun e => ?_, fun _ n hn => ?_⟩
    · rw [h3.length] at e
      rw [cutL_whole _ _ _ e] at k
      refine k _ H F α .refl w (RF.of (fun _ e => nomatch e) ?_)
      simp only [Rp]
      exact ⟨a, xs, rfl, h1, h2, h3⟩
    · obtain ⟨F', o', w', r'⟩ := RF.tup w hn (Nat.le_trans (cutV_length xs lo hi) h2) (h3.cut lo hi)
      exact k _ _ F' α o' w' r'
  · cases hr
    rename_i ns
    simp only [Vw, Rp] at vp
    obtain ⟨a, rfl, h1, h2, _⟩ := vp
    refine sl_list pins s σ H _ v vl vu lo hi sl Q I rx hs pl pu ⟨a, _, rfl, w.sub.seq h1, fun n hn => ?_⟩
    have r3 : Rps X.K F ((cutL ns lo hi).map P.int) (cutV (ns.map V.int) lo hi) := by
      rw [← cutL_map]
      exact Rps.ints.cut lo hi
    obtain ⟨w', r'⟩ := RF.lst w hn (Nat.le_trans (cutV_length _ lo hi) (by rw [List.length_map]; exact h2)) r3
    exact k _ _ F α .refl w' r'
  · split at hr
    · rename_i hl
      cases hr
      simp only [Vw, Rp] at vp; subst vp
      exact sl_str pins s σ H _ v vl vu lo hi sl Q I rx hs pl pu ⟨_, rfl, by rw [lim_eq]; exact hl, k _ H F α .refl w .str⟩
    · cases hr
  · cases hr
/-! ### truth -/
theorem tru_vw {K : PySem.W.Frag} {H F : Hp} {p : P} {x : V} {b : Bool} (sub : Same F H) (h : Vw K H F p x) (e : truthy p = some b) : TruV K x H b := by
  cases p with
  | non => simp only [Vw, Rp] at h; subst h; cases e; rfl
  | bl c => simp only [Vw, Rp] at h; subst h; cases e; rfl
  | int i =>
    simp only [Vw, Rp] at h; subst h; cases e
    show decide (i ≠ 0) = (i != 0)
    rw [Bool.eq_iff_iff]
    simp
  | str z =>
    simp only [Vw, Rp] at h; subst h
    simp only [truthy] at e
    split at e
    case isFalse => cases e
    rename_i hl
    cases e
    refine ⟨by rw [lim_eq]; exact hl, ?_⟩
    show (z.length != 0) = ((z.length : Int) != 0)
    rw [Bool.eq_iff_iff]
    simp
  | tup ps =>
    simp only [Vw, Rp] at h
    obtain ⟨a, xs, rfl, h1, _, h3⟩ := h
    cases e
    refine .inr (.inl ⟨xs, SqT.up sub h1, ?_⟩)
    have hl := h3.length
    cases xs <;> cases ps <;> first | rfl | simp at hl
  | lst ps =>
    obtain ⟨a, xs, rfl, h1, _, h3⟩ := h
    cases e
    refine .inl ⟨xs, SqL.of h1, ?_⟩
    have hl := h3.length
    cases xs <;> cases ps <;> first | rfl | simp at hl
  | scr _ => cases e
  | dct _ => cases e
  | ins _ _ => cases e
/-! ### built-in functions -/
def Vws (K : PySem.W.Frag) (H F : Hp) : List P → List V → Prop
  | [], [] => True
  | p :: ps, v :: vs => Vw K H F p v ∧ Vws K H F ps vs
  | _, _ => False
theorem Vws.one {K : PySem.W.Frag} {H F : Hp} {p : P} {vs : List V} (h : Vws K H F [p] vs) : ∃ v, vs = [v] ∧ Vw K H F p v := by
  cases vs with
  | nil => exact h.elim
  | cons v r =>
    cases r with
    | nil => exact ⟨v, rfl, h.1⟩
    | cons _ _ => exact h.2.elim
def rB (K : PySem.W.Frag) (f : List P → Option P) : List V → Hp → VK → Prop := fun xs H Q => ∃ z W σ F α S ps, Wd K H F α S ∧ Vws K H F ps xs ∧ Po K z W σ F α (RF K) (giv (f ps) S) Q
theorem allB_ok {K : PySem.W.Frag} {F : Hp} : ∀ {ps : List P} {vs : List V} {b : Bool}, Rps K F ps vs → allB ps = some b → ∃ bs : List Bool, vs = bs.map V.bl ∧ b = bs.all id
  | [], vs, b, h, e => by
    have := h.inv_nil
    subst this
    cases e
    exact ⟨[], rfl, rfl⟩
  | p :: ps, vs, b, h, e => by
    obtain ⟨v, us, rfl, h1, h2⟩ := h.inv_cons
    cases p with
    | bl c =>
      simp only [allB, Option.map_eq_some_iff] at e
      obtain ⟨b', e, rfl⟩ := e
      obtain ⟨bs, rfl, rfl⟩ := allB_ok h2 e
      simp only [Rp] at h1
      subst h1
      exact ⟨c :: bs, rfl, by simp⟩
    | _ => cases e
theorem anyB_ok {K : PySem.W.Frag} {F : Hp} : ∀ {ps : List P} {vs : List V} {b : Bool}, Rps K F ps vs → anyB ps = some b → ∃ bs : List Bool, vs = bs.map V.bl ∧ b = bs.any id
  | [], vs, b, h, e => by
    have := h.inv_nil
    subst this
    cases e
    exact ⟨[], rfl, rfl⟩
  | p :: ps, vs, b, h, e => by
    obtain ⟨v, us, rfl, h1, h2⟩ := h.inv_cons
    cases p with
    | bl c =>
      simp only [anyB, Option.map_eq_some_iff] at e
      obtain ⟨b', e, rfl⟩ := e
      obtain ⟨bs, rfl, rfl⟩ := anyB_ok h2 e
      simp only [Rp] at h1
      subst h1
      exact ⟨c :: bs, rfl, by simp⟩
    | _ => cases e
/-- the value that names it -/
def Blt.val : Blt → Value
  | .abs => .builtin "abs" | .all => .builtin "all" | .any => .builtin "any" | .int => .type "int" | .len => .builtin "len" | .list => .type "list" | .tuple => .type "tuple"
  | .str => .type "str" | .sum => .builtin "sum" | .max => .builtin "max" | .min => .builtin "min" | .sorted => .builtin "sorted" | .sset => .builtin "sorted" | .lset => .builtin "len"
theorem call_blt (b : Blt) (hc : X.calm = true) : CallR X b.val (rB X.K (bltP b)) := by
  intro pins s σ H xs us Q I rx ⟨z, W, σ0, F, α, S, ps, w, vp, po⟩
  obtain ⟨r, hr, k⟩ := po.giv
  unfold bltP at hr
  split at hr
  · obtain ⟨v, rfl, vq⟩ := vp.one
    simp only [Vw, Rp] at vq; subst vq
    cases hr
    exact call_abs pins s σ H _ us Q I rx ⟨_, rfl, k _ H F α .refl w .int⟩
  · obtain ⟨v, rfl, vq⟩ := vp.one
    obtain ⟨a, xs, rfl, h1, h2, h3⟩ := vq
    rw [Option.map_eq_some_iff] at hr
    obtain ⟨b, hr, rfl⟩ := hr
    obtain ⟨bs, rfl, rfl⟩ := allB_ok h3 hr
    exact cr_all hc pins s σ H _ us Q I rx ⟨a, bs, rfl, SqL.of h1, k _ H F α .refl w .bl⟩
  · obtain ⟨v, rfl, vq⟩ := vp.one
    obtain ⟨a, xs, rfl, h1, h2, h3⟩ := vq
    rw [Option.map_eq_some_iff] at hr
    obtain ⟨b, hr, rfl⟩ := hr
    obtain ⟨bs, rfl, rfl⟩ := anyB_ok h3 hr
    exact cr_any hc pins s σ H _ us Q I rx ⟨a, bs, rfl, SqL.of h1, k _ H F α .refl w .bl⟩
  · obtain ⟨v, rfl, vq⟩ := vp.one
    simp only [Vw, Rp] at vq; subst vq
    cases hr
    exact call_int1 pins s σ H _ us Q I rx (.inl ⟨_, rfl, k _ H F α .refl w .int⟩)
  · obtain ⟨v, rfl, vq⟩ := vp.one
    simp only [Vw, Rp] at vq; subst vq
    cases hr
    exact call_int1 pins s σ H _ us Q I rx (.inr ⟨_, rfl, k _ H F α .refl w .int⟩)
  · obtain ⟨v, rfl, vq⟩ := vp.one
    obtain ⟨a, xs, rfl, h1, h2, h3⟩ := vq
    cases hr
    refine call_len pins s σ H _ us Q I rx ⟨_, xs.length, rfl, .inl ⟨xs, SqL.of h1, rfl⟩, ?_⟩
    rw [h3.length]
    exact k _ H F α .refl w .int
  · obtain ⟨v, rfl, vq⟩ := vp.one
    simp only [Vw, Rp] at vq
    obtain ⟨a, xs, rfl, h1, h2, h3⟩ := vq
    cases hr
    refine call_len pins s σ H _ us Q I rx ⟨_, xs.length, rfl, .inr ⟨xs, SqT.up w.sub h1, rfl⟩, ?_⟩
    rw [h3.length]
    exact k _ H F α .refl w .int
  · obtain ⟨v, rfl, vq⟩ := vp.one
    simp only [Vw, Rp] at vq
    obtain ⟨a, rfl, h1, h2, _⟩ := vq
    cases hr
    refine call_len pins s σ H _ us Q I rx ⟨_, _, rfl, .inl ⟨_, w.sub.seq h1, rfl⟩, ?_⟩
    rw [List.length_map]
    exact k _ H F α .refl w .int
  · obtain ⟨v, rfl, vq⟩ := vp.one
    simp only [Vw, Rp] at vq; subst vq
    split at hr
    · rename_i hl
      cases hr
      exact call_len pins s σ H _ us Q I rx ⟨_, _, rfl, ⟨by rw [lim_eq]; exact hl, rfl⟩, k _ H F α .refl w .int⟩
    · cases hr
  · obtain ⟨v, rfl, vq⟩ := vp.one
    rw [Option.map_eq_some_iff] at hr
    obtain ⟨qs, hr, rfl⟩ := hr
    unfold seqP at hr
    split at hr
    · cases hr
      obtain ⟨a, xs, rfl, h1, h2, h3⟩ := vq
      refine call_list_of pins s σ H _ us Q I rx ⟨a, xs, rfl, .inl (SqL.of h1), fun n hn => ?_⟩
      obtain ⟨w', r'⟩ := RF.lst w hn h2 h3
      exact k _ _ F α .refl w' r'
    · cases hr
      simp only [Vw, Rp] at vq
      obtain ⟨a, xs, rfl, h1, h2, h3⟩ := vq
      refine call_list_of pins s σ H _ us Q I rx ⟨a, xs, rfl, .inr (SqT.up w.sub h1), fun n hn => ?_⟩
      obtain ⟨w', r'⟩ := RF.lst w hn h2 h3
      exact k _ _ F α .refl w' r'
    · cases hr
  · obtain ⟨v, rfl, vq⟩ := vp.one
    rw [Option.map_eq_some_iff] at hr
    obtain ⟨qs, hr, rfl⟩ := hr
    unfold seqP at hr
    split at hr
    · cases hr
      obtain ⟨a, xs, rfl, h1, h2, h3⟩ := vq
      refine call_tuple_of pins s σ H _ us Q I rx ⟨a, xs, rfl, .inl ⟨SqL.of h1, fun n hn => ?_⟩⟩
      obtain ⟨F', o', w', r'⟩ := RF.tup w hn h2 h3
      exact k _ _ F' α o' w' r'
    · cases hr
      simp only [Vw, Rp] at vq
      obtain ⟨a, xs, rfl, h1, h2, h3⟩ := vq
      refine call_tuple_of pins s σ H _ us Q I rx ⟨a, xs, rfl, .inr ⟨SqT.up w.sub h1, k _ H F α .refl w (RF.of (fun _ e => nomatch e) ?_)⟩⟩
      simp only [Rp]
      exact ⟨a, xs, rfl, h1, h2, h3⟩
    · cases hr
  · obtain ⟨v, rfl, vq⟩ := vp.one
    simp only [Vw, Rp] at vq; subst vq
    cases hr
    exact SkE.call_str_str pins s σ H _ us Q I rx ⟨_, rfl, k _ H F α .refl w .str⟩
  · cases hr
/-! ### texts joined -/
theorem pStrs_ok {K : PySem.W.Frag} {F : Hp} : ∀ {ps : List P} {vs : List V} {ys : List Str}, Rps K F ps vs → pStrs ps = some ys → vs = ys.map V.str
  | [], vs, b, h, e => by
    have := h.inv_nil
    subst this
    cases e
    rfl
  | p :: ps, vs, b, h, e => by
    obtain ⟨v, us, rfl, h1, h2⟩ := h.inv_cons
    cases p with
    | str c =>
      simp only [pStrs, Option.map_eq_some_iff] at e
      obtain ⟨b', e, rfl⟩ := e
      have := pStrs_ok h2 e
      simp only [Rp] at h1
      subst h1 this
      rfl
    | _ => cases e
/-! ### isinstance -/
def Ty.name : Ty → String
  | .int => "int" | .bool => "bool" | .str => "str" | .tuple => "tuple" | .list => "list" | .dict => "dict" | .own _ => "object"
def Ty.plain : Ty → Bool
  | .own _ => false
  | _ => true
def tyName : P → Option String
  | .non => some "NoneType" | .bl _ => some "bool" | .int _ => some "int" | .str _ => some "str" | .tup _ => some "tuple" | .lst _ => some "list" | _ => none
theorem tyX_of {K : PySem.W.Frag} {F H : Hp} {p : P} {x : V} {n : String} (sub : Same F H) (h : Vw K H F p x) (e : tyName p = some n) : TyX K H x (.type n) := by
  cases p with
  | non => simp only [Vw, Rp] at h; subst h; cases e; exact .base .non
  | bl b => simp only [Vw, Rp] at h; subst h; cases e; exact .base (.bl _)
  | int b => simp only [Vw, Rp] at h; subst h; cases e; exact .base (.int _)
  | str b => simp only [Vw, Rp] at h; subst h; cases e; exact .base (.str _)
  | tup b =>
    simp only [Vw, Rp] at h
    obtain ⟨a, xs, rfl, h1, _⟩ := h
    cases e
    rcases SqT.up sub h1 with (h1 | ⟨o, h1⟩) | ⟨o, its, k, h1, h2, _⟩
    · exact .base (.tup h1)
    · exact .fTuple h1
    · exact .kTuple h1 h2
  | lst b =>
    obtain ⟨a, xs, rfl, h1, _⟩ := h
    cases e
    exact .base (.lst h1)
  | _ => cases e
theorem kit_tab (a b : String) (ha : a ∈ ["NoneType", "bool", "int", "str", "tuple", "list"]) (hb : b ∈ ["int", "bool", "str", "tuple", "list", "dict"]) : kitB a b = some (a == b || (a == "bool" && b == "int")) := by
  have : ∀ a ∈ ["NoneType", "bool", "int", "str", "tuple", "list"], ∀ b ∈ ["int", "bool", "str", "tuple", "list", "dict"], kitB a b = some (a == b || (a == "bool" && b == "int")) := by decide +kernel
  exact this a ha b hb
theorem tyB_kit {K : PySem.W.Frag} {p : P} {t : Ty} {n : String} {b : Bool} (h : tyB p t = some b) (ht : t.plain = true) (e : tyName p = some n) : PySem.W.kitOne K (.type n) (.type t.name) = some b := by
  apply kit_ty
  have hb : t.name ∈ ["int", "bool", "str", "tuple", "list", "dict"] := by cases t <;> first | decide | cases ht
  cases p <;> first
    | (cases e; cases h; rw [kit_tab _ _ (by decide) hb]; cases t <;> first | rfl | cases ht)
    | cases e
theorem tyB_name {p : P} {t : Ty} {b : Bool} (h : tyB p t = some b) : ∃ n, tyName p = some n := by
  cases p <;> first | exact ⟨_, rfl⟩ | cases h
end
end Pk

/-! Part 6: is a piece of the program's text what the small language says? -/
namespace Pk
open PySem PySem.Spec PyProof.Rows L2
def visB (sc : Scope) (x : Str) : Bool := match sc.names.lookup x with
  | some .local => true
  | some .cell => true
  | some .free => true
  | _ => false
def glB (sc : Scope) (x : Str) : Bool := match sc.names.lookup x with
  | some .globalImplicit => true
  | _ => false
def locB (sc : Scope) (fnb : Str → Bool) (x : Str) : Bool := match sc.names.lookup x with
  | some .local => true
  | some .cell => fnb x
  | _ => false
def isLocal (sc : Scope) (x : Str) : Bool := match sc.names.lookup x with
  | some .local => true
  | _ => false
def notStar : Expr → Bool
  | .Starred .. => false
  | _ => true
def notSet : Expr → Bool
  | .Set .. => false
  | _ => true
/-- a base whose attribute is read in the plain way -/
def plainBase : Expr → Bool
  | .Call (.Name _ _) [] [] _ => false
  | _ => true
def notSlice : Expr → Bool
  | .Slice .. => false
  | _ => true
def plainName (x : Str) : Bool := !(x == ("__debug__" : Str)) && !(x == ("__classdict__" : Str))
def Blt.nm : Blt → Str
  | .abs => "abs" | .all => "all" | .any => "any" | .int => "int" | .len => "len" | .list => "list" | .tuple => "tuple" | .str => "str" | .sum => "sum" | .max => "max" | .min => "min" | .sorted => "sorted"
  | .sset => "sorted" | .lset => "len"
def Ty.nm : Ty → Str
  | .int => "int" | .bool => "bool" | .str => "str" | .tuple => "tuple" | .list => "list" | .dict => "dict" | .own _ => ""
def Mt.nm : Mt → Str
  | .append => "append" | .extend => "extend" | .join => "join"
/-- the built-in names that the text may use, none of them a name of the module -/
def bNames : List Str := ["abs", "all", "any", "int", "len", "list", "tuple", "str", "sum", "max", "min", "sorted", "bool", "dict", "isinstance", "range", "enumerate", "zip", "set", "super", "ord"]
def tstOk : IE → Bool
  | .ite .. => false
  | .thaw .. => false
  | _ => true
def relab (scope sc : Scope) : Scope := relS scope sc
def ownOf (N : List Str) (wp : List Nat) : List (Str × Nat) := wp.map fun i => (N.getD i Str.empty, i)
mutual
def tgSlots : Tg → List Nat
  | .nm i => [i]
  | .tp ts => tgsSlots ts
def tgsSlots : List Tg → List Nat
  | [] => []
  | t :: ts => tgSlots t ++ tgsSlots ts
end
def chkTyL (sc : Scope) : List Ty → List Expr → Bool
  | [], [] => true
  | t :: ts, .Name x _ :: es => t.plain && (decide (t.nm = x) && (glB sc x && chkTyL sc ts es))
  | _, _ => false
def chkTys (sc : Scope) (ts : List Ty) : Expr → Bool
  | .Tuple es _ _ => !ts.isEmpty && (decide (ts.length ≤ 10) && chkTyL sc ts es)
  | _ => false
def chkTy1 (sc : Scope) : List Ty → Expr → Bool
  | [t], .Name x _ => t.plain && (decide (t.nm = x) && glB sc x)
  | _, _ => false
section
variable (g : Gs) (N : List Str)
mutual
def chkTg (sc : Scope) (fnb : Str → Bool) : Tg → Expr → Bool
  | .nm i, .Name x _ => decide (N[i]? = some x) && locB sc fnb x
  | .tp ts, .Tuple es _ _ => chkTgs sc fnb ts es
  | _, _ => false
def chkTgs (sc : Scope) (fnb : Str → Bool) : List Tg → List Expr → Bool
  | [], [] => true
  | t :: ts, e :: es => notStar e && chkTg sc fnb t e && chkTgs sc fnb ts es
  | _, _ => false
end
def kwNames : List Keyword → List (Option Str)
  | [] => []
  | ⟨n, _, _⟩ :: r => n :: kwNames r
def kwVals : List Keyword → List Expr
  | [] => []
  | ⟨_, e, _⟩ :: r => e :: kwVals r
def kwIn (f n : Nat) (ks : List Str) (perm : List Nat) : Bool := match g.G f with
  | some fd => fd.kw.any fun e => decide (e = (n, ks, perm))
  | none => false
mutual
def chkE : Scope → IE → Expr → Bool
  | _, .nev, _ => true
  | _, .non, .Constant .none _ _ => true
  | _, .bl b, .Constant (.bool c) _ _ => b == c
  | _, .int i, .Constant (.int j) _ _ => decide (i = j)
  | _, .str x, .Constant (.str y) _ _ => decide (x = y)
  | sc, .var i, .Name x _ => decide (N[i]? = some x) && (visB sc x && plainName x)
  | sc, .glob n, .Name x _ => decide (g.gn n = x) && (glB sc x && plainName x)
  | sc, .bin op a b, .BinOp l o r _ => decide (op = o) && (chkE sc a l && chkE sc b r)
  | sc, .neg a, .UnaryOp .USub x _ => chkE sc a x
  | sc, .not a, .UnaryOp .Not x _ => tstOk a && chkE sc a x
  | sc, .cmp op a b, .Compare l [o] [r] _ => decide (op = o) && (notSet r && (chkE sc a l && chkE sc b r))
  | sc, .chain o1 o2 a b c, .Compare l [p1, p2] [r, t] _ => decide (o1 = p1) && (decide (o2 = p2) && (notSet r && (notSet t && (chkE sc a l && (chkE sc b r && chkE sc c t)))))
  | sc, .and es, .BoolOp .And xs _ => !es.isEmpty && chkTs sc es xs
  | sc, .or es, .BoolOp .Or xs _ => !es.isEmpty && chkTs sc es xs
  | sc, .ite t a b, .IfExp c x y _ => tstOk t && (chkE sc t c && (chkE sc a x && chkE sc b y))
  | sc, .lst es, .List xs _ => chkPs sc es xs
  | sc, .tup es, .Tuple xs _ _ => chkPs sc es xs
  | sc, .lc elt tg it cond wp, .ListComp x [⟨t, i, ifs, 0⟩] scope _ => blkC N sc scope (ownOf N wp) && (chkI sc it t i && (chkTg N (relab scope sc) (fun x => scope.names.lookup x == some .cell) tg t &&
      (decide (∀ i ∈ tgSlots tg, i ∈ wp) && (notSet i && (chkC (relab scope sc) cond ifs && chkE (relab scope sc) elt x)))))
  | sc, .lc2 elt tg it cond tg1 it1 cond1 wp wp1, .ListComp x [⟨t, i, ifs, 0⟩, ⟨t1, i1, ifs1, 0⟩] scope _ => blkC N sc scope (ownOf N wp) && (chkI sc it t i && (chkTg N (relab scope sc) (fun x => scope.names.lookup x == some .cell) tg t &&
      (decide (∀ i ∈ tgSlots tg, i ∈ wp) && (notSet i && (chkC (relab scope sc) cond ifs && (chkI (relab scope sc) it1 t1 i1 && (notSet i1 && (chkTg N (relab scope sc) (fun x => scope.names.lookup x == some .cell) tg1 t1 &&
        (decide (∀ i ∈ tgSlots tg1, i ∈ wp1) && (decide (∀ i ∈ wp1, i ∈ wp) && (chkC (relab scope sc) cond1 ifs1 && chkE (relab scope sc) elt x)))))))))))
  | sc, .idx a b, .Subscript x i _ => notSlice i && (chkE sc a x && chkE sc b i)
  | sc, .sl a lo hi, .Subscript x (.Slice l h none _) _ => chkE sc a x && (chkO sc lo l && chkO sc hi h)
  | sc, .call _ f args, .Call (.Name x _) xs [] _ => decide (g.fn f = x) && (glB sc x && (plainName x && ((g.G f).isSome && chkDs sc args xs)))
  | sc, .blt b args, .Call (.Name x _) xs [] _ => decide (b.nm = x) && (glB sc x && (!args.isEmpty && chkDs sc args xs))
  | sc, .meth m o args, .Call (.Attribute ob x p) xs [] q => decide (m.nm = x) && (plainBase ob && ((p.endLine == q.line) && (decide (args.length = 1) && (chkE sc o ob && chkDs sc args xs))))
  | sc, .isi e ts many, .Call (.Name x _) [y, c] [] _ => decide (x = ("isinstance" : Str)) && (glB sc x && (notStar y && (chkE sc e y && (if many then chkTys sc ts c else chkTy1 sc ts c))))
  | sc, .thaw e, x => chkE sc e x
  | sc, .callK _ f args kws ks perm, .Call (.Name x _) xs kwds _ => decide (g.fn f = x) && (glB sc x && (plainName x && (kwIn g f args.length ks perm && (decide (kwNames kwds = ks.map some) && (chkDs sc args xs && chkDs sc kws (kwVals kwds))))))
  | _, _, _ => false
def chkTs : Scope → List IE → List Expr → Bool
  | _, [], [] => true
  | sc, e :: es, x :: xs => tstOk e && (chkE sc e x && chkTs sc es xs)
  | _, _, _ => false
def chkDs : Scope → List IE → List Expr → Bool
  | _, [], [] => true
  | sc, e :: es, x :: xs => notStar x && (chkE sc e x && chkDs sc es xs)
  | _, _, _ => false
def chkPs : Scope → List IE → List Expr → Bool
  | _, [], [] => true
  | sc, .star e :: es, .Starred x _ :: xs => chkE sc e x && chkPs sc es xs
  | sc, e :: es, x :: xs => notStar x && (chkE sc e x && chkPs sc es xs)
  | _, _, _ => false
def chkC : Scope → Option IE → List Expr → Bool
  | _, none, [] => true
  | sc, some e, [x] => tstOk e && chkE sc e x
  | _, _, _ => false
def chkO : Scope → Option IE → Option Expr → Bool
  | _, none, none => true
  | sc, some e, some x => chkE sc e x
  | _, _, _ => false
def chkI : Scope → IT → Expr → Expr → Bool
  | sc, .seq e, _, x => chkE sc e x
  | sc, .rng es, _, .Call (.Name x _) xs [] _ => decide (x = ("range" : Str)) && (glB sc x && (decide (es.length = 1 ∨ es.length = 2) && chkDs sc es xs))
  | sc, .enum e, .Tuple _ _ _, .Call (.Name x _) [y] [] _ => decide (x = ("enumerate" : Str)) && (glB sc x && (notStar y && chkE sc e y))
  | sc, .zip a b, .Tuple _ _ _, .Call (.Name x _) [y, y'] [] _ => decide (x = ("zip" : Str)) && (glB sc x && (notStar y && (notStar y' && (chkE sc a y && chkE sc b y'))))
  | _, _, _, _ => false
end
end
end Pk

/-! Part 7: the pieces that the machine does as the small language says -/
namespace Pk
open PySem PySem.Spec PyProof.Rows L2
/-- what a def of number f promises at depth k -/
def spF (g : Gs) (z : Cz) (K : PySem.W.Frag) (k f : Nat) (fd : FD) : Sp := fun vs H Q E => ∃ F α S ds σ, Wd K H F α S ∧ DRs K F α ds vs ∧ ds.length = fd.ps.length ∧ Po K z (fun cls dd _ H' => E cls dd H') σ F α (RD K) (callK g.gv g.G k f ds S) Q
/-- arguments in the parameters' order -/
def gK {α : Type} (perm : List Nat) (us ws : List α) : List α := perm.filterMap fun i => (us ++ ws)[i]?
/-- every def stands where its name says and keeps its promise -/
def CallsOk (g : Gs) (z : Cz) (k : Nat) (P : Program) (w : World) (K : PySem.W.Frag) (mg : Str → Option Value) (base : Heap) : Prop := ∀ f fd, g.G f = some fd →
  ∃ a fdd, mg (g.fn f) = some (.ref a) ∧ PySem.W.keepIn K (.ref a) = true ∧ Binds K fdd fd.ps [] ∧ FnOk P w K mg base (L2.CX P w) k a fdd fd.ps (spF g z K k f fd) ∧ ∀ e ∈ fd.kw, KBn K fdd fd.ps e.1 e.2.1 (gK e.2.2) (gK e.2.2)
structure XOk (g : Gs) (z : Cz) (W : WX) (k : Nat) (N : List Str) (X : Cx) : Prop where
  calm : X.calm = true
  nd : N.Nodup
  hN : X.N = N
  room : Room k X.A
  calls : CallsOk g z k X.prog X.w X.K X.mg X.base
  tk : Takes X W
  free : ∀ x ∈ bNames, X.mg x = none
  globs : ∀ n p, g.gv n = some p → ∃ u v, X.mg (g.gn n) = some u ∧ RelV v u ∧ ∀ F, Rp X.K F p v
section
variable {g : Gs} {z : Cz} {W : WX} {k : Nat} {N : List Str} {X : Cx}
theorem XOk.un (o : XOk g z W k N X) : X.A.units + 200 < cLine := by have := o.room.un; omega
theorem takesF {X : Cx} : Takes X (fun _ _ _ _ => False) := fun _ _ x => by
  obtain ⟨_, _, _, _, _, _, _, _, _, _, _, _, _, _, _, _, z⟩ := x
  exact z.elim
/-- within a comprehension -/
theorem XOk.blk (o : XOk g z W k N X) (s : Shared) (H : Hp) (scope : Scope) (cenv : PySem.Env) (fp : List Addr) : XOk g z (fun _ _ _ _ => False) k N (X.blk s H scope cenv fp) :=
  ⟨o.calm, o.nd, o.hN, o.room, o.calls, takesF, o.free, o.globs⟩
theorem ba2 {a b : Bool} (h : (a && b) = true) : a = true ∧ b = true := Bool.and_eq_true_iff.mp h
theorem vis_of {sc : Scope} {x : Str} (h : visB sc x = true) : Vis sc x := by
  unfold visB at h
  split at h
  · exact .inl ‹_›
  · exact .inr (.inl ‹_›)
  · exact .inr (.inr ‹_›)
  · cases h
theorem gl_of {sc : Scope} {x : Str} (h : glB sc x = true) : sc.names.lookup x = some .globalImplicit := by
  unfold glB at h
  split at h
  · assumption
  · cases h
theorem plainName_of {x : Str} (h : plainName x = true) : (x == ("__debug__" : Str)) = false ∧ (x == ("__classdict__" : Str)) = false := by
  unfold plainName at h
  obtain ⟨h1, h2⟩ := ba2 h
  exact ⟨by simpa using h1, by simpa using h2⟩
theorem set_mark {op : CmpOp} {b : Expr} (h : notSet b = true) : behindInMarks op b = false := by
  cases b <;> first | rfl | cases h
theorem slice_plain {b : Expr} (h : notSlice b = true) : PlainIx b := by
  intro o i
  cases b <;> first | rfl | cases h
theorem base_plain {o : Expr} {m : Str} {env : PySem.Env} (h : plainBase o = true) : attributeBase o m env (eval o env) = eval o env := by
  cases o with
  | Call f as ks p =>
    cases f with
    | Name id q =>
      cases as with
      | nil =>
        cases ks with
        | nil => cases h
        | cons _ _ => rfl
      | cons _ _ => rfl
    | _ => rfl
  | _ => rfl
theorem star_cons {e : Expr} {es : List Expr} {env : PySem.Env} (h : notStar e = true) : starEach (e :: es) env = (false, eval e env) :: starEach es env := by
  cases e <;> first | rfl | cases h
theorem set_fold {e : Expr} (h : notSet e = true) (env : PySem.Env) (x : Value) : foldedSetIterable e env x = pure x := by
  cases e <;> first | rfl | cases h
/-! ### targets -/
theorem assignEach_cons {e : Expr} {es : List Expr} {env : PySem.Env} (h : notStar e = true) : assignEach (e :: es) env = (false, assign e env) :: assignEach es env := by
  cases e <;> first | rfl | cases h
theorem wipe_set {σ : L2.St} {i : Nat} {v : Option V} : ∀ {vs : List Nat}, i ∈ vs → L2.wipe (σ.set i v) vs = L2.wipe σ vs
  | [], h => by cases h
  | j :: vs, h => by
    unfold L2.wipe
    by_cases hi : i ∈ vs
    · rw [wipe_set hi]
    · have hij : i = j := by
        rcases List.mem_cons.mp h with e | e
        · exact e
        · exact absurd e hi
      subst hij
      have key : ∀ (vs : List Nat), i ∉ vs → L2.wipe (σ.set i v) vs = (L2.wipe σ vs).set i v := by
        intro vs
        induction vs with
        | nil => intro _; rfl
        | cons a vs ih =>
          intro hn
          unfold L2.wipe
          rw [ih (fun q => hn (List.mem_cons_of_mem _ q)), List.set_comm _ _ (fun q => hn (by rw [q]; exact List.mem_cons_self))]
      rw [key vs hi, List.set_set]
/-- what a target's reading gives -/
def TgOk (K : PySem.W.Frag) (tg : Tg) (gt : TG) : Prop := ∀ (p : P) (v : V) (σ : L2.St) (H F : Hp) (α : Al) (S : Store) (ρ ρ' : Env) (Q : L2.St → Hp → Prop), Wd K H F α S → EnvR K F α ρ σ → Rp K F p v → tgSet tg p ρ = some ρ' →
  (∀ σ', EnvR K F α ρ' σ' → (∀ vs, (∀ i ∈ tgSlots tg, i ∈ vs) → L2.wipe σ' vs = L2.wipe σ vs) → Q σ' H) → gt v σ H Q
def TgsOk (K : PySem.W.Frag) (ts : List Tg) (gt : TGs) : Prop := ∀ (ps : List P) (vs : List V) (σ : L2.St) (H F : Hp) (α : Al) (S : Store) (ρ ρ' : Env) (Q : L2.St → Hp → Prop), Wd K H F α S → EnvR K F α ρ σ → Rps K F ps vs → tgSets ts ps ρ = some ρ' →
  (∀ σ', EnvR K F α ρ' σ' → (∀ vs, (∀ i ∈ tgsSlots ts, i ∈ vs) → L2.wipe σ' vs = L2.wipe σ vs) → Q σ' H) → gt vs σ H Q
theorem assign_tgs {sc : Scope} {fnb : Str → Bool} {env : PySem.Env} : ∀ {ts : List Tg} {es : List Expr}, chkTgs N sc fnb ts es = true → (assignEach es env).length = ts.length ∧ (assignEach es env).findIdx? (·.1) = none
  | [], [], _ => ⟨rfl, rfl⟩
  | t :: ts, e :: es, h => by
    simp only [chkTgs] at h
    obtain ⟨h1, h2⟩ := ba2 h
    obtain ⟨h0, _⟩ := ba2 h1
    obtain ⟨i1, i2⟩ := assign_tgs (env := env) h2
    rw [assignEach_cons h0]
    refine ⟨by simp [i1], ?_⟩
    rw [List.findIdx?_cons]
    simp [i2]
  | [], _ :: _, h => by simp [chkTgs] at h
  | _ :: _, [], h => by simp [chkTgs] at h
theorem tgSets_len : ∀ {ts : List Tg} {ps : List P} {ρ ρ' : Env}, tgSets ts ps ρ = some ρ' → ps.length = ts.length
  | [], [], _, _, _ => rfl
  | t :: ts, p :: ps, ρ, ρ', h => by
    simp only [tgSets] at h
    split at h
    · simp [tgSets_len h]
    · cases h
  | [], _ :: _, _, _, h => by simp [tgSets] at h
  | _ :: _, [], _, _, h => by simp [tgSets] at h
mutual
def gOf (K : PySem.W.Frag) : Tg → TG
  | .nm i => gName i
  | .tp ts => gTup K ts.length (gsOf K ts)
def gsOf (K : PySem.W.Frag) : List Tg → TGs
  | [] => gNil
  | t :: ts => gCons (gOf K t) (gsOf K ts)
end
mutual
theorem tg_ok {sc : Scope} {fnb : Str → Bool} (hc : X.calm = true) (nd : N.Nodup) (hN : X.N = N) (hs : X.env.scope = sc) (hf : ∀ x, fnb x = true → X.fn x = true) : ∀ (tg : Tg) (x : Expr), chkTg N sc fnb tg x = true → PG X x (gOf X.K tg) ∧ TgOk X.K tg (gOf X.K tg)
  | .nm i, x, h => by
    cases x with
    | Name y pos =>
      simp only [chkTg] at h
      obtain ⟨h1, h2⟩ := ba2 h
      have h1 := of_decide_eq_true h1
      have hl : Loc X.env.scope y ∧ (X.fn y = true ∨ X.env.scope.names.lookup y = some .local) := by
        rw [hs]
        unfold locB at h2
        split at h2
        · exact ⟨.inl ‹_›, .inr ‹_›⟩
        · exact ⟨.inr ‹_›, .inl (hf _ h2)⟩
        · cases h2
      refine ⟨pg_name (by rw [hN]; exact nd) (by rw [hN]; exact h1) hl.1 hl.2, ?_⟩
      intro p v σ H F α S ρ ρ' Q w er r e k
      simp only [tgSet] at e
      split at e
      · cases e
        exact k _ (er.set (d := .val p) r) fun vs hv => wipe_set (hv i (by simp [tgSlots]))
      · cases e
    | _ => simp [chkTg] at h
  | .tp ts, x, h => by
    cases x with
    | Tuple es kk pos =>
      simp only [chkTg] at h
      obtain ⟨h1, h2⟩ := tgs_ok hc nd hN hs hf ts es h
      obtain ⟨a1, a2⟩ := assign_tgs (env := X.env) h
      refine ⟨pg_tup hc h1 a1 a2, ?_⟩
      intro p v σ H F α S ρ ρ' Q w er r e kk
      simp only [tgSet] at e
      split at e
      · simp only [Rp] at r
        obtain ⟨a, xs, rfl, r1, r2, r3⟩ := r
        refine ⟨a, xs, rfl, SqT.up w.sub r1, by rw [r3.length]; exact tgSets_len e, h2 _ xs σ H F α S ρ ρ' Q w er r3 e fun σ' er' hv => kk σ' er' fun vs hvs => hv vs (by simpa [tgSlots] using hvs)⟩
      · cases e
    | _ => simp [chkTg] at h
theorem tgs_ok {sc : Scope} {fnb : Str → Bool} (hc : X.calm = true) (nd : N.Nodup) (hN : X.N = N) (hs : X.env.scope = sc) (hf : ∀ x, fnb x = true → X.fn x = true) : ∀ (ts : List Tg) (es : List Expr), chkTgs N sc fnb ts es = true → PGs X es (gsOf X.K ts) ∧ TgsOk X.K ts (gsOf X.K ts)
  | [], [], _ => ⟨pgs_nil, fun ps vs σ H F α S ρ ρ' Q w er r e k => by
    cases ps with
    | nil =>
      simp only [tgSets, Option.some.injEq] at e
      subst e
      exact ⟨r.inv_nil, k σ er fun _ _ => rfl⟩
    | cons _ _ => simp [tgSets] at e⟩
  | t :: ts, e :: es, h => by
    simp only [chkTgs] at h
    obtain ⟨h1, h2⟩ := ba2 h
    obtain ⟨h0, h1⟩ := ba2 h1
    obtain ⟨p1, o1⟩ := tg_ok hc nd hN hs hf t e h1
    obtain ⟨p2, o2⟩ := tgs_ok hc nd hN hs hf ts es h2
    refine ⟨pgs_cons p1 p2 (by rw [assignEach_cons h0]; rfl), ?_⟩
    intro ps vs σ H F α S ρ ρ' Q w er r eq k
    cases ps with
    | nil => simp [tgSets] at eq
    | cons p ps =>
      obtain ⟨v, us, rfl, r1, r2⟩ := r.inv_cons
      simp only [tgSets] at eq
      split at eq
      · rename_i ρ1 e1
        refine ⟨v, us, rfl, o1 p v σ H F α S ρ ρ1 _ w er r1 e1 fun σ1 er1 w1 => ?_⟩
        refine o2 ps us σ1 H F α S ρ1 ρ' Q w er1 r2 eq fun σ2 er2 w2 => k σ2 er2 fun vs hv => ?_
        rw [w2 vs fun i hi => hv i (by simp [tgsSlots, hi]), w1 vs fun i hi => hv i (by simp [tgsSlots, hi])]
      · cases eq
  | [], _ :: _, h => by simp [chkTgs] at h
  | _ :: _, [], h => by simp [chkTgs] at h
end
/-! ### what is walked -/
/-- an iterator that gives these items -/
def RI (K : PySem.W.Frag) : RelT (List P) It := fun H F α items J => items.length ≤ sizeLine ∧ ∃ G Y, Walk J items.length G Y ∧ (∀ H' F' α' S', Same F F' → Wd K H' F' α' S' → G H') ∧
  ∀ i x p H' H'' F' α' S', Same F F' → Wd K H' F' α' S' → items[i]? = some p → Y i H' x H'' → ∃ F2, On F' α' F2 α' ∧ Wd K H'' F2 α' S' ∧ Rp K F2 p x ∧ ∀ a, H' a ≠ none → H'' a = H' a
theorem Itl_ok {K : PySem.W.Frag} {H F : Hp} {α : Al} {a : Addr} {xs : List V} {ps : List P} (h : SqL K F a xs) (hl : xs.length ≤ sizeLine) (r : Rps K F ps xs) : RI K H F α ps (Itl K a) := by
  refine ⟨by rw [← r.length]; exact hl, (fun H => SqL K H a xs), YAt xs, by rw [← r.length]; exact walk_list, fun H' F' α' S' sm w => (sm.trans w.sub).seq h, ?_⟩
  rintro i x p H' H'' F' α' S' sm w e ⟨rfl, q⟩
  obtain ⟨v, e1, e2⟩ := r.get e
  rw [e1] at q; cases q
  exact ⟨F', .refl, w, e2.mono sm, fun _ _ => rfl⟩
theorem Itt_ok {K : PySem.W.Frag} {H F : Hp} {α : Al} {a : Addr} {xs : List V} {ps : List P} (h : SqT K F a xs) (hl : xs.length ≤ sizeLine) (r : Rps K F ps xs) : RI K H F α ps (Itt K a) := by
  refine ⟨by rw [← r.length]; exact hl, (fun H => SqT K H a xs), YAt xs, by rw [← r.length]; exact walk_tup, fun H' F' α' S' sm w => SqT.up (sm.trans w.sub) h, ?_⟩
  rintro i x p H' H'' F' α' S' sm w e ⟨rfl, q⟩
  obtain ⟨v, e1, e2⟩ := r.get e
  rw [e1] at q; cases q
  exact ⟨F', .refl, w, e2.mono sm, fun _ _ => rfl⟩
theorem Its_ok {K : PySem.W.Frag} {H F : Hp} {α : Al} {z : Str} (hl : z.length ≤ lim) : RI K H F α (z.cps.toList.map fun c => .str ⟨#[c]⟩) (Its z) := by
  refine ⟨by rw [lim_eq]; simpa [Str.length] using hl, (fun _ => True), _, by simpa using walk_str, fun _ _ _ _ _ _ => trivial, ?_⟩
  rintro i x p H' H'' F' α' S' sm w e ⟨rfl, c, q, rfl⟩
  refine ⟨F', .refl, w, ?_, fun _ _ => rfl⟩
  rw [List.getElem?_map] at e
  simp [q] at e
  subst e
  simp only [Rp]
theorem Itr_ok {K : PySem.W.Frag} {H F : Hp} {α : Al} {lo : Int} {n : Nat} (hl : n ≤ lim) : RI K H F α ((List.range n).map fun (m : Nat) => P.int (lo + (m : Int))) (Itr lo n) := by
  refine ⟨by rw [lim_eq]; simpa using hl, (fun _ => True), _, by simpa using walk_range, fun _ _ _ _ _ _ => trivial, ?_⟩
  rintro i x p H' H'' F' α' S' sm w e ⟨rfl, rfl⟩
  refine ⟨F', .refl, w, ?_, fun _ _ => rfl⟩
  have hi : i < n := by
    have := (List.getElem?_eq_some_iff.mp e).1
    simpa using this
  rw [List.getElem?_map, List.getElem?_range hi] at e
  simp at e
  subst e
  simp only [Rp]
theorem enumP_get : ∀ (ps : List P) (n i : Nat), (enumP n ps)[i]? = (ps[i]?).map fun p => .tup [.int ((n + i : Nat) : Int), p]
  | [], n, i => by simp [enumP]
  | p :: ps, n, 0 => by simp [enumP]
  | p :: ps, n, i + 1 => by
    simp only [enumP, List.getElem?_cons_succ]
    rw [enumP_get ps (n + 1) i]
    congr 1
    funext q
    congr 4
    omega
theorem enumP_len : ∀ (ps : List P) (n : Nat), (enumP n ps).length = ps.length
  | [], n => rfl
  | p :: ps, n => by simp [enumP, enumP_len ps]
theorem YPair_ok {K : PySem.W.Frag} {F' H' H'' : Hp} {α' : Al} {S' : Store} {i : Nat} {v : V} {fx fy : Nat → Option V} {p q : P} (w : Wd K H' F' α' S') (y : YPair fx fy i H' v H'') (h1 : ∀ x, fx i = some x → Rp K F' p x) (h2 : ∀ x, fy i = some x → Rp K F' q x) :
    ∃ F2, On F' α' F2 α' ∧ Wd K H'' F2 α' S' ∧ Rp K F2 (.tup [p, q]) v ∧ ∀ a, H' a ≠ none → H'' a = H' a := by
  obtain ⟨T, x, y, rfl, hT, rfl, e1, e2⟩ := y
  obtain ⟨F2, o, w2, r⟩ := RF.tup (ps := [p, q]) (xs := [x, y]) w hT (show 2 ≤ sizeLine by rw [lim_eq]; decide) (Rps.cons (h1 x e1) (Rps.cons (h2 y e2) Rps.nil))
  exact ⟨F2, o, w2, r, fun a ha => upd_ne fun z => ha (by rw [z]; exact hT)⟩
theorem Ite_ok {K : PySem.W.Frag} {H F : Hp} {α : Al} {a : Addr} {xs : List V} {ps : List P} (h : F a = some (.lst xs)) (hl : xs.length ≤ sizeLine) (r : Rps K F ps xs) : RI K H F α (enumP 0 ps) (Ite K a) := by
  refine ⟨by rw [enumP_len, ← r.length]; exact hl, (fun H => SqL K H a xs), _, by rw [enumP_len, ← r.length]; exact walk_enum, fun H' F' α' S' sm w => SqL.of (w.sub _ _ (sm _ _ h)), ?_⟩
  intro i x p H' H'' F' α' S' sm w e y
  rw [enumP_get] at e
  rw [Option.map_eq_some_iff] at e
  obtain ⟨q, e, rfl⟩ := e
  obtain ⟨v, e1, e2⟩ := r.get e
  refine YPair_ok w y (fun x h => ?_) fun x h => ?_
  · cases h
    simp only [Rp, Nat.zero_add]
  · rw [e1] at h; cases h
    exact e2.mono sm
theorem zipP_get : ∀ (ps qs : List P) (i : Nat) (r : P), (zipP ps qs)[i]? = some r → ∃ p q, r = .tup [p, q] ∧ ps[i]? = some p ∧ qs[i]? = some q
  | [], _, i, r, h => by simp [zipP] at h
  | _ :: _, [], i, r, h => by simp [zipP] at h
  | p :: ps, q :: qs, 0, r, h => by
    simp [zipP] at h
    exact ⟨p, q, h.symm, rfl, rfl⟩
  | p :: ps, q :: qs, i + 1, r, h => by
    simp only [zipP, List.getElem?_cons_succ] at h ⊢
    exact zipP_get ps qs i r h
theorem zipP_len : ∀ (ps qs : List P), (zipP ps qs).length = min ps.length qs.length
  | [], _ => by simp [zipP]
  | _ :: _, [] => by simp [zipP]
  | p :: ps, q :: qs => by
    simp only [zipP, List.length_cons, zipP_len ps qs]
    omega
theorem Itz_ok {K : PySem.W.Frag} {H F : Hp} {α : Al} {a b : Addr} {xs ys : List V} {ps qs : List P} (h : F a = some (.lst xs)) (h' : F b = some (.lst ys)) (hl : xs.length ≤ sizeLine) (r : Rps K F ps xs) (r' : Rps K F qs ys) : RI K H F α (zipP ps qs) (Itz K a b) := by
  refine ⟨by rw [zipP_len, ← r.length]; omega, (fun H => SqL K H a xs ∧ SqL K H b ys), _, by rw [zipP_len, ← r.length, ← r'.length]; exact walk_zip rfl, fun H' F' α' S' sm w => ⟨SqL.of (w.sub _ _ (sm _ _ h)), SqL.of (w.sub _ _ (sm _ _ h'))⟩, ?_⟩
  intro i x p H' H'' F' α' S' sm w e y
  obtain ⟨p1, p2, rfl, e1, e2⟩ := zipP_get _ _ _ _ e
  obtain ⟨v, f1, f2⟩ := r.get e1
  obtain ⟨v', f1', f2'⟩ := r'.get e2
  refine YPair_ok w y (fun x h => ?_) fun x h => ?_
  · rw [f1] at h; cases h
    exact f2.mono sm
  · rw [f1'] at h; cases h
    exact f2'.mono sm
end
end Pk

/-! Part 8: one construct of an expression after another -/
namespace Pk
open PySem PySem.Spec PyProof.Rows L2
/-- which relation an expression's value bears -/
def Rl (K : PySem.W.Frag) (e : IE) : RelT D V := if fresh e then RF K else RD K
section
variable {K : PySem.W.Frag} {z : Cz} {W : WX} {σ : L2.St} {F H : Hp} {α : Al} {S : Store}
theorem RF.vw {d : D} {v : V} {p : P} (w : Wd K H F α S) (h : RF K H F α d v) (e : peek S d = some p) : Vw K H F p v := by
  cases d with
  | cell n => exact DR.vw w (show DR K F α (.cell n) v from h) e
  | val q =>
    have e : q = p := Option.some.inj e
    subst e
    cases q with
    | lst ps =>
      obtain ⟨a, xs, h1, h2, _, _, h3, h4⟩ := h
      exact ⟨a, xs, h1, h2, h3, h4⟩
    | _ => exact Rp.vw w.sub h
theorem Rl.vw {e : IE} {d : D} {v : V} {p : P} (w : Wd K H F α S) (h : Rl K e H F α d v) (q : peek S d = some p) : Vw K H F p v := by
  unfold Rl at h
  split at h
  · exact RF.vw w h q
  · exact DR.vw w h q
theorem Po.rl {e : IE} {r : R D} {Q : VK} (h : Po K z W σ F α (RD K) r Q) : Po K z W σ F α (Rl K e) r Q := by
  unfold Rl
  split
  · exact h.frzd
  · exact h
theorem LG.rl {e : IE} {m : Env → Store → R D} {Q : VK} (h : LG K z W (RD K) m σ H Q) : LG K z W (Rl K e) m σ H Q := by
  obtain ⟨F, α, ρ, S, w, er, p⟩ := h
  exact ⟨F, α, ρ, S, w, er, p.rl⟩
/-- the first step of a reading -/
theorem LG.bind {τ υ τ' υ' : Type} {Rel : RelT τ υ} {Rel' : RelT τ' υ'} {m : Env → Store → R τ} {k : Env → τ → Store → R τ'} {Q : υ' → Hp → Prop} {Q' : υ → Hp → Prop} (h : LG K z W Rel' (fun ρ S => (m ρ S).bind (k ρ)) σ H Q)
    (hk : ∀ (v : υ) (H1 F1 : Hp) (α1 : Al) (ρ : Env) (a : τ) (S1 : Store), Wd K H1 F1 α1 S1 → EnvR K F1 α1 ρ σ → Rel H1 F1 α1 a v → Po K z W σ F1 α1 Rel' (k ρ a S1) Q → Q' v H1) : LG K z W Rel m σ H Q' := by
  obtain ⟨F, α, ρ, S, w, er, p⟩ := h
  refine ⟨F, α, ρ, S, w, er, p.bind.mono ?_⟩
  rintro v H1 ⟨F1, α1, a, S1, o, w1, r, p1⟩
  exact hk v H1 F1 α1 ρ a S1 w1 (er.mono o) r p1
/-- .. from a state that stands -/
theorem LG.at {τ υ : Type} {Rel : RelT τ υ} {m : Env → Store → R τ} {Q : υ → Hp → Prop} {ρ : Env} (w : Wd K H F α S) (er : EnvR K F α ρ σ) (p : Po K z W σ F α Rel (m ρ S) Q) : LG K z W Rel m σ H Q := ⟨F, α, ρ, S, w, er, p⟩
theorem Po.bindk {τ υ τ' υ' : Type} {Rel : RelT τ υ} {Rel' : RelT τ' υ'} {r : R τ} {k : τ → Store → R τ'} {Q : υ' → Hp → Prop} {Q' : υ → Hp → Prop} (h : Po K z W σ F α Rel' (r.bind k) Q)
    (hk : ∀ (v : υ) (H1 F1 : Hp) (α1 : Al) (a : τ) (S1 : Store), On F α F1 α1 → Wd K H1 F1 α1 S1 → Rel H1 F1 α1 a v → Po K z W σ F1 α1 Rel' (k a S1) Q → Q' v H1) : Po K z W σ F α Rel r Q' :=
  h.bind.mono fun v H1 ⟨F1, α1, a, S1, o, w1, r, p1⟩ => hk v H1 F1 α1 a S1 o w1 r p1
theorem tru_of {d : D} {v : V} {b : Bool} {e : IE} (w : Wd K H F α S) (r : Rl K e H F α d v) (h : (peek S d).bind truthy = some b) : TruV K v H b := by
  rw [Option.bind_eq_some_iff] at h
  obtain ⟨p, h1, h2⟩ := h
  exact tru_vw w.sub (Rl.vw w r h1) h2
theorem tru_ofD {d : D} {v : V} {b : Bool} (w : Wd K H F α S) (r : RD K H F α d v) (h : (peek S d).bind truthy = some b) : TruV K v H b := by
  rw [Option.bind_eq_some_iff] at h
  obtain ⟨p, h1, h2⟩ := h
  exact tru_vw w.sub (DR.vw w r h1) h2
/-- freezing a cell, a value -/
theorem Po.frz {τ υ : Type} {Rel : RelT τ υ} {d : D} {v : V} {kk : P → Store → R τ} {Q : υ → Hp → Prop} (w : Wd K H F α S) (r : RD K H F α d v) (h : Po K z W σ F α Rel ((frz d S).bind kk) Q) :
    ∃ F1 p S1, On F α F1 α ∧ Wd K H F1 α S1 ∧ Rp K F1 p v ∧ frz d S = .ok p S1 ∧ Po K z W σ F1 α Rel (kk p S1) Q := by
  cases d with
  | val p => exact ⟨F, p, S, .refl, w, r, rfl, h⟩
  | cell n =>
    obtain ⟨a, h1, rfl⟩ := r
    unfold Pk.frz at h ⊢
    cases hS : S[n]? with
    | none => simp only [hS] at h; exact h.elim
    | some c =>
      cases c with
      | lst ps =>
        simp only [hS] at h ⊢
        obtain ⟨hF, xs, h2, h3, h4⟩ := w.cell n a _ h1 hS
        have o : On F α (L2.upd F a (.lst xs)) α := .frz hF
        refine ⟨_, _, _, o, w.fzc h1 hS h2 h3 h4, ?_, rfl, Po.on (r := kk _ _) o h⟩
        simp only [Rp]
        exact ⟨a, xs, rfl, upd_same, h3, h4.mono o.same⟩
      | fz p =>
        simp only [hS] at h ⊢
        exact ⟨F, p, S, .refl, w, w.cell n a _ h1 hS, rfl, h⟩
      | dct kvs => exact (w.cell n a _ h1 hS).elim
      | ins c fs => exact (w.cell n a _ h1 hS).elim
end
section
variable {g : Gs} {z : Cz} {W : WX} {k : Nat} {N : List Str} {X : Cx}
/-- the evaluator at hand -/
abbrev ev (g : Gs) (k : Nat) : IE → Env → Store → R D := evE g.gv (callK g.gv g.G k)
abbrev LE (g : Gs) (z : Cz) (W : WX) (k : Nat) (X : Cx) (e : IE) : TE := LG X.K z W (Rl X.K e) (ev g k e)
abbrev LD (g : Gs) (z : Cz) (W : WX) (k : Nat) (X : Cx) (e : IE) : TE := LG X.K z W (RD X.K) (ev g k e)
abbrev LT (g : Gs) (z : Cz) (W : WX) (k : Nat) (X : Cx) (e : IE) : TT := LG X.K z W REq (evT g.gv (callK g.gv g.G k) e)
theorem toD {e : IE} {x : Expr} (h : PE X x (LE g z W k X e)) : PE X x (LD g z W k X e) := h.imp fun _ _ _ q => q.rl
/-- what is no fresh list -/
theorem ofD {e : IE} {x : Expr} (hf : fresh e = false) (h : PE X x (LD g z W k X e)) : PE X x (LE g z W k X e) := h.imp fun σ H Q q => by
  have : Rl X.K e = RD X.K := by unfold Rl; rw [hf]; rfl
  unfold LE at q
  rw [this] at q
  exact q
theorem ofF {e : IE} {x : Expr} (hf : fresh e = true) (h : PE X x (LG X.K z W (RF X.K) (ev g k e))) : PE X x (LE g z W k X e) := h.imp fun σ H Q q => by
  have : Rl X.K e = RF X.K := by unfold Rl; rw [hf]; rfl
  unfold LE at q
  rw [this] at q
  exact q
/-- two operands, then an operator that gives something new -/
theorem LG.two {σ : L2.St} {H : Hp} {a b : IE} {f : P → P → Option P} {Rel : RelT D V} {Q : VK} {m : Env → Store → R D} {rr : R2}
    (hm : m = fun ρ S => (ev g k a ρ S).bind fun x S1 => (ev g k b ρ S1).bind fun y S2 => match peek S2 x, peek S2 y with
      | some p, some q => giv (f p q) S2
      | _, _ => .stk)
    (hr : ∀ x y H W σ F α S p q Q, Wd X.K H F α S → Vw X.K H F p x → Vw X.K H F q y → Po X.K z W σ F α Rel (giv (f p q) S) Q → rr x y H Q)
    (h : LG X.K z W Rel m σ H Q) : tOp rr (LD g z W k X a) (LD g z W k X b) σ H Q := by
  subst hm
  refine LG.bind h fun x H1 F1 α1 ρ d S1 w1 er1 r1 p1 => LG.at w1 er1 ?_
  refine Po.bindk p1 fun y H2 F2 α2 d2 S2 o2 w2 r2 p2 => ?_
  have r1' : RD X.K H2 F2 α2 d x := DR.mono o2 r1
  cases e1 : peek S2 d with
  | none => simp only [e1] at p2; exact p2.elim
  | some p =>
    cases e2 : peek S2 d2 with
    | none => simp only [e1, e2] at p2; exact p2.elim
    | some q =>
      simp only [e1, e2] at p2
      exact hr x y H2 W σ F2 α2 S2 p q Q w2 (DR.vw w2 r1' e1) (DR.vw w2 r2 e2) p2
theorem pe_bin_ {op : Operator} {a b : IE} {l r : Expr} {pos : Pos} (ha : PE X l (LD g z W k X a)) (hb : PE X r (LD g z W k X b)) : PE X (.BinOp l op r pos) (LE g z W k X (.bin op a b)) :=
  ofF rfl ((pe_op (op_bin op) ha hb).imp fun σ H Q q => LG.two (f := binP op) rfl (fun x y H W σ F α S p q Q w v1 v2 po => ⟨z, W, σ, F, α, S, p, q, w, v1, v2, po⟩) q)
theorem Po.toRF {σ : L2.St} {F : Hp} {α : Al} {K : PySem.W.Frag} {r : R D} {Q : VK} (h : Po K z W σ F α (RD K) r Q) : Po K z W σ F α (RF K) r Q := h.frzd
theorem pe_cmp_ {op : CmpOp} {a b : IE} {l r : Expr} {pos : Pos} (hu : X.A.units + 200 < cLine) (hs : notSet r = true) (ha : PE X l (LD g z W k X a)) (hb : PE X r (LD g z W k X b)) : PE X (.Compare l [op] [r] pos) (LE g z W k X (.cmp op a b)) :=
  ofD rfl ((pe_cmpR (op_cmp op hu) ha hb (set_mark hs)).imp fun σ H Q q => LG.two (f := fun p q => (cmpP op p q).map .bl) rfl (fun x y H W σ F α S p q Q w v1 v2 po => ⟨z, W, σ, F, α, S, p, q, w, v1, v2, po.toRF⟩) q)
theorem pe_ix_ {a b : IE} {l r : Expr} {pos : Pos} (hs : notSlice r = true) (ha : PE X l (LD g z W k X a)) (hb : PE X r (LD g z W k X b)) : PE X (.Subscript l r pos) (LE g z W k X (.idx a b)) :=
  ofD rfl ((pe_ix ix_all ha hb (slice_plain hs)).imp fun σ H Q q => LG.two (f := ixP) rfl (fun x y H W σ F α S p q Q w v1 v2 po => ⟨z, W, σ, F, α, S, p, q, w, v1, v2, po⟩) q)
theorem pe_neg_ {a : IE} {l : Expr} {pos : Pos} (ha : PE X l (LD g z W k X a)) : PE X (.UnaryOp .USub l pos) (LE g z W k X (.neg a)) := ofD rfl ((pe_un un_neg ha).imp fun σ H Q q => by
  refine LG.bind q fun x H1 F1 α1 ρ d S1 w1 er1 r1 p1 => ?_
  cases e1 : peek S1 d with
  | none => simp only [e1] at p1; exact p1.elim
  | some p =>
    cases p with
    | int i =>
      simp only [e1] at p1
      have v := DR.vw w1 r1 e1
      simp only [Vw, Rp] at v
      exact ⟨i, v, p1 _ _ F1 α1 .refl w1 (by show Rp _ _ _ _; simp only [Rp])⟩
    | _ => simp only [e1] at p1; exact p1.elim)
theorem pe_not_ {a : IE} {l : Expr} {pos : Pos} (ha : PE X l (LD g z W k X a)) : PE X (.UnaryOp .Not l pos) (LE g z W k X (.not a)) := ofD rfl ((pe_notT ha).imp fun σ H Q q => by
  refine LG.bind q fun x H1 F1 α1 ρ d S1 w1 er1 r1 p1 => ?_
  cases e1 : (peek S1 d).bind truthy with
  | none => simp only [e1] at p1; exact p1.elim
  | some b =>
    simp only [e1] at p1
    exact ⟨b, tru_ofD w1 r1 e1, p1 _ _ F1 α1 .refl w1 (by show Rp _ _ _ _; simp only [Rp])⟩)
theorem chain_asks {o1 o2 : CmpOp} {a b c : IE} {σ : L2.St} {H : Hp} {Q : VK} (q : LD g z W k X (.chain o1 o2 a b c) σ H Q) :
    tChain (r2 X.K fun p q => (cmpP o1 p q).map .bl) (r2 X.K fun p q => (cmpP o2 p q).map .bl) (LD g z W k X a) (LD g z W k X b) (LD g z W k X c) σ H Q := by
  refine LG.bind q fun x H1 F1 α1 ρ d S1 w1 er1 r1 p1 => LG.at w1 er1 ?_
  refine Po.bindk p1 fun y H2 F2 α2 d2 S2 on2 w2 r2 p2 => ?_
  have r1' : RD X.K H2 F2 α2 d x := DR.mono on2 r1
  have er2 := er1.mono on2
  cases e1 : peek S2 d with
  | none => simp only [e1] at p2; exact p2.elim
  | some p =>
    cases e2 : peek S2 d2 with
    | none => simp only [e1, e2] at p2; exact p2.elim
    | some q =>
      simp only [e1, e2] at p2
      cases e3 : cmpP o1 p q with
      | none => simp only [e3] at p2; exact p2.elim
      | some bb =>
        refine ⟨z, W, σ, F2, α2, S2, p, q, w2, DR.vw w2 r1' e1, DR.vw w2 r2 e2, ?_⟩
        simp only [e3, Option.map_some]
        intro v H3 F3 α3 on3 w3 r3
        have r3 : v = .bl bb := by
          have r3 : Rp X.K F3 (.bl bb) v := r3
          simpa only [Rp] using r3
        refine ⟨bb, r3, ?_⟩
        cases bb with
        | false =>
          simp only [e3] at p2
          rw [if_neg Bool.false_ne_true]
          exact p2 _ H3 F3 α3 on3 w3 (by show Rp _ _ _ _; simp only [Rp])
        | true =>
          simp only [e3] at p2
          rw [if_pos rfl]
          refine LG.at w3 (er2.mono on3) (Po.bindk (p2.on on3) fun u H4 F4 α4 d4 S4 on4 w4 r4 p4 => ?_)
          have r2' : RD X.K H4 F4 α4 d2 y := (r2.mono on3).mono on4
          cases e4 : peek S4 d2 with
          | none => simp only [e4] at p4; exact p4.elim
          | some q4 =>
            cases e5 : peek S4 d4 with
            | none => simp only [e4, e5] at p4; exact p4.elim
            | some q5 =>
              simp only [e4, e5] at p4
              exact ⟨z, W, σ, F4, α4, S4, q4, q5, w4, DR.vw w4 r2' e4, DR.vw w4 r4 e5, p4.toRF⟩
theorem pe_chain_ {o1 o2 : CmpOp} {a b c : IE} {l m r : Expr} {pos : Pos} (hu : X.A.units + 200 < cLine) (ha : PE X l (LD g z W k X a)) (hb : PE X m (LD g z W k X b)) (hc : PE X r (LD g z W k X c))
    (h2 : notSet r = true) : PE X (.Compare l [o1, o2] [m, r] pos) (LE g z W k X (.chain o1 o2 a b c)) := ofD rfl ((pe_chain (op_cmp o1 hu) (op_cmp o2 hu) ha hb hc (by show behindInMarks o2 r = false; exact set_mark h2)).imp fun σ H Q q => chain_asks q)
/-! ### truth of a test -/
theorem pt_val_ {e : IE} {x : Expr} (h : PE X x (LD g z W k X e)) (he : ∀ whole, isTrue x X.env whole = (do let v ← whole; standAt x.pos; holding [v] (PySem.truthy v))) : PT X x (LT g z W k X e) := (pt_truth h he).imp fun σ H Q q => by
  refine LG.bind q fun x H1 F1 α1 ρ d S1 w1 er1 r1 p1 => ?_
  cases e1 : (peek S1 d).bind Pk.truthy with
  | none => simp only [e1] at p1; exact p1.elim
  | some b =>
    simp only [e1] at p1
    exact ⟨b, tru_ofD w1 r1 e1, p1 _ _ F1 α1 .refl w1 rfl⟩
end
end Pk

/-! Part 9: rows of expressions, both ways of a test, calls -/
namespace Pk
open PySem PySem.Spec PyProof.Rows L2
def isStar : IE → Bool
  | .star _ => true
  | _ => false
section
variable {g : Gs} {z : Cz} {W : WX} {k : Nat} {N : List Str} {X : Cx}
abbrev LDs (g : Gs) (z : Cz) (W : WX) (k : Nat) (X : Cx) (es : List IE) : TA := LG X.K z W (RDs X.K) (evDs g.gv (callK g.gv g.G k) es)
abbrev LPs (g : Gs) (z : Cz) (W : WX) (k : Nat) (X : Cx) (es : List IE) : TA := LG X.K z W (RPs X.K) (evPs g.gv (callK g.gv g.G k) es)
abbrev LOr (g : Gs) (z : Cz) (W : WX) (k : Nat) (X : Cx) (es : List IE) : TE := LG X.K z W (RD X.K) (evOr g.gv (callK g.gv g.G k) es)
abbrev LAnd (g : Gs) (z : Cz) (W : WX) (k : Nat) (X : Cx) (es : List IE) : TE := LG X.K z W (RD X.K) (evAnd g.gv (callK g.gv g.G k) es)
abbrev LC (g : Gs) (z : Cz) (W : WX) (k : Nat) (X : Cx) (e : Option IE) : TT := LG X.K z W REq (evC g.gv (callK g.gv g.G k) e)
abbrev LO (g : Gs) (z : Cz) (W : WX) (k : Nat) (X : Cx) (e : Option IE) : TO := LG X.K z W REq (evO g.gv (callK g.gv g.G k) e)
abbrev LI (g : Gs) (z : Cz) (W : WX) (k : Nat) (X : Cx) (i : IT) : TI := LG X.K z W (RI X.K) (evI g.gv (callK g.gv g.G k) i)
/-! ### rows -/
theorem pa_dnil : PA X [] (LDs g z W k X []) := pa_nil.imp fun σ H Q ⟨F, α, ρ, S, w, er, p⟩ => p [] H F α .refl w trivial
theorem pa_dcons {e : IE} {es : List IE} {x : Expr} {xs : List Expr} (he : PE X x (LD g z W k X e)) (hr : PA X xs (LDs g z W k X es)) (hs : notStar x = true) : PA X (x :: xs) (LDs g z W k X (e :: es)) :=
  (pa_cons he hr (star_cons hs)).imp fun σ H Q q => LG.bind q fun v H1 F1 α1 ρ d S1 w1 er1 r1 p1 => LG.at w1 er1 (Po.bindk p1 fun vs H2 F2 α2 ds S2 o2 w2 r2 p2 => p2 _ H2 F2 α2 .refl w2 ⟨DR.mono o2 r1, r2⟩)
theorem pa_pnil : PA X [] (LPs g z W k X []) := pa_nil.imp fun σ H Q ⟨F, α, ρ, S, w, er, p⟩ => p [] H F α .refl w Rps.nil
theorem evPs_cons {gv : Nat → Option P} {c : CallF} {e : IE} {es : List IE} (h : isStar e = false) : evPs gv c (e :: es) = fun ρ S => (evE gv c e ρ S).bind fun d S1 => (Pk.frz d S1).bind fun p S2 => (evPs gv c es ρ S2).bind fun ps S3 => .ok (p :: ps) S3 := by
  cases e <;> first | rfl | cases h
theorem pa_pcons {e : IE} {es : List IE} {x : Expr} {xs : List Expr} (h : isStar e = false) (he : PE X x (LD g z W k X e)) (hr : PA X xs (LPs g z W k X es)) (hs : notStar x = true) : PA X (x :: xs) (LPs g z W k X (e :: es)) :=
  (pa_cons he hr (star_cons hs)).imp fun σ H Q q => by
    unfold LPs at q
    rw [evPs_cons h] at q
    refine LG.bind q fun v H1 F1 α1 ρ d S1 w1 er1 r1 p1 => ?_
    obtain ⟨F2, p, S2, o2, w2, r2, _, p2⟩ := Po.frz w1 r1 p1
    exact LG.at w2 (er1.mono o2) (Po.bindk p2 fun vs H3 F3 α3 ps S3 o3 w3 r3 p3 => p3 _ H3 F3 α3 .refl w3 (Rps.cons (r2.mono o3.same) r3))
theorem pa_pstar {e : IE} {es : List IE} {x : Expr} {xs : List Expr} {pp : Pos} (he : PE X x (LD g z W k X e)) (hr : PA X xs (LPs g z W k X es)) : PA X (.Starred x pp :: xs) (LPs g z W k X (.star e :: es)) :=
  (StX.pa_star he hr).imp fun σ H Q q => by
    refine LG.bind q fun v H1 F1 α1 ρ d S1 w1 er1 r1 p1 => ?_
    cases e1 : (peek S1 d).bind seqP with
    | none => simp only [e1] at p1; exact p1.elim
    | some qs =>
      simp only [e1] at p1
      rw [Option.bind_eq_some_iff] at e1
      obtain ⟨p, e1, e2⟩ := e1
      have vw := DR.vw w1 r1 e1
      have key : ∃ a xs', v = V.ref a ∧ (SqT X.K H1 a xs' ∨ SqL X.K H1 a xs') ∧ Rps X.K F1 qs xs' := by
        cases p with
        | lst ps =>
          cases e2
          obtain ⟨a, xs', rfl, h1, h2, h3⟩ := vw
          exact ⟨a, xs', rfl, .inr (SqL.of h1), h3⟩
        | tup ps =>
          cases e2
          simp only [Vw, Rp] at vw
          obtain ⟨a, xs', rfl, h1, h2, h3⟩ := vw
          exact ⟨a, xs', rfl, .inl (SqT.up w1.sub h1), h3⟩
        | _ => cases e2
      obtain ⟨a, xs', rfl, hq, hr⟩ := key
      exact ⟨a, xs', rfl, hq, LG.at w1 er1 (Po.bindk p1 fun vs H3 F3 α3 ps S3 o3 w3 r3 p3 => p3 _ H3 F3 α3 .refl w3 ((hr.mono o3.same).append r3))⟩
theorem pe_lst_ {es : List IE} {xs : List Expr} {pos : Pos} (h : PA X xs (LPs g z W k X es)) : PE X (.List xs pos) (LE g z W k X (.lst es)) := ofF rfl ((pe_lst h).imp fun σ H Q q => by
  refine LG.bind q fun vs H1 F1 α1 ρ ps S1 w1 er1 r1 p1 => ?_
  split at p1
  · rename_i hl
    have hl' : vs.length ≤ sizeLine := by rw [Rps.length r1, lim_eq]; exact hl
    refine ⟨hl', fun p hp => ?_⟩
    obtain ⟨w2, r2⟩ := RF.lst (ps := ps) w1 hp hl' r1
    exact p1 _ _ F1 α1 .refl w2 r2
  · exact p1.elim)
theorem pe_tup_ {es : List IE} {xs : List Expr} {pos : Pos} {kk} (h : PA X xs (LPs g z W k X es)) : PE X (.Tuple xs kk pos) (LE g z W k X (.tup es)) := ofD rfl ((pe_tup h).imp fun σ H Q q => by
  refine LG.bind q fun vs H1 F1 α1 ρ ps S1 w1 er1 r1 p1 => ?_
  split at p1
  · rename_i hl
    have hl' : vs.length ≤ sizeLine := by rw [Rps.length r1, lim_eq]; exact hl
    refine ⟨hl', fun p hp => ?_⟩
    obtain ⟨F2, o2, w2, r2⟩ := RF.tup (ps := ps) w1 hp hl' r1
    exact p1 _ _ F2 α1 o2 w2 r2
  · exact p1.elim)
/-! ### and, or, if -/
theorem pe_and1_ {e : IE} {x : Expr} {pos : Pos} (h : PE X x (LD g z W k X e)) : PE X (.BoolOp .And [x] pos) (LAnd g z W k X [e]) := pe_one h
theorem pe_or1_ {e : IE} {x : Expr} {pos : Pos} (h : PE X x (LD g z W k X e)) : PE X (.BoolOp .Or [x] pos) (LOr g z W k X [e]) := pe_one h
theorem pe_and_ {e e' : IE} {es : List IE} {x x' : Expr} {xs : List Expr} {pos : Pos} (ha : PE X x (LD g z W k X e)) (hb : PE X (.BoolOp .And (x' :: xs) pos) (LAnd g z W k X (e' :: es))) : PE X (.BoolOp .And (x :: x' :: xs) pos) (LAnd g z W k X (e :: e' :: es)) :=
  (pe_andT ha hb).imp fun σ H Q q => by
    refine LG.bind q fun v H1 F1 α1 ρ d S1 w1 er1 r1 p1 => ?_
    cases e1 : (peek S1 d).bind Pk.truthy with
    | none => simp only [e1] at p1; exact p1.elim
    | some b =>
      refine ⟨b, tru_ofD w1 r1 e1, ?_⟩
      simp only [e1] at p1
      cases b with
      | true => rw [if_pos rfl]; exact LG.at w1 er1 p1
      | false => rw [if_neg Bool.false_ne_true]; exact p1 _ H1 F1 α1 .refl w1 r1
theorem pe_or_ {e e' : IE} {es : List IE} {x x' : Expr} {xs : List Expr} {pos : Pos} (ha : PE X x (LD g z W k X e)) (hb : PE X (.BoolOp .Or (x' :: xs) pos) (LOr g z W k X (e' :: es))) : PE X (.BoolOp .Or (x :: x' :: xs) pos) (LOr g z W k X (e :: e' :: es)) :=
  (pe_orT ha hb).imp fun σ H Q q => by
    refine LG.bind q fun v H1 F1 α1 ρ d S1 w1 er1 r1 p1 => ?_
    cases e1 : (peek S1 d).bind Pk.truthy with
    | none => simp only [e1] at p1; exact p1.elim
    | some b =>
      refine ⟨b, tru_ofD w1 r1 e1, ?_⟩
      simp only [e1] at p1
      cases b with
      | false => rw [if_neg Bool.false_ne_true]; exact LG.at w1 er1 p1
      | true => rw [if_pos rfl]; exact p1 _ H1 F1 α1 .refl w1 r1
theorem evT_at {e : IE} {σ : L2.St} {F H : Hp} {α : Al} {S : Store} {ρ : Env} {τ υ : Type} {Rel : RelT τ υ} {kk : Bool → Store → R τ} {Q : υ → Hp → Prop} {Q' : Bool → Hp → Prop} (w : Wd X.K H F α S) (er : EnvR X.K F α ρ σ)
    (p : Po X.K z W σ F α Rel ((evT g.gv (callK g.gv g.G k) e ρ S).bind kk) Q)
    (h : ∀ (b : Bool) (H1 F1 : Hp) (α1 : Al) (S1 : Store), On F α F1 α1 → Wd X.K H1 F1 α1 S1 → Po X.K z W σ F1 α1 Rel (kk b S1) Q → Q' b H1) : LT g z W k X e σ H Q' :=
  LG.at w er (Po.bindk p fun v H1 F1 α1 a S1 o1 w1 r1 p1 => by
    have r1 : v = a := r1
    subst r1
    exact h v H1 F1 α1 S1 o1 w1 p1)
theorem R.bind_assoc {α β γ : Type} (r : R α) (f : α → Store → R β) (h : β → Store → R γ) : (r.bind f).bind h = r.bind fun a S => (f a S).bind h := by
  cases r <;> rfl
theorem pe_ite_ {t a b : IE} {c x y : Expr} {pos : Pos} (hc : PT X c (LT g z W k X t)) (ha : PE X x (LD g z W k X a)) (hb : PE X y (LD g z W k X b)) : PE X (.IfExp c x y pos) (LE g z W k X (.ite t a b)) := ofD rfl ((pe_ifExp hc ha hb).imp fun σ H Q q => by
  obtain ⟨F, α, ρ, S, w, er, p⟩ := q
  refine evT_at w er (kk := fun bb S1 => if bb then ev g k a ρ S1 else ev g k b ρ S1) (Q := Q) (Rel := RD X.K) ?_ fun bb H1 F1 α1 S1 o1 w1 p1 => ?_
  · unfold evT
    rw [R.bind_assoc]
    have : (fun (x : D) S1 => (match (peek S1 x).bind Pk.truthy with | some b => (R.ok b S1 : R Bool) | none => R.stk).bind fun bb S1 => if bb = true then ev g k a ρ S1 else ev g k b ρ S1) =
        fun (x : D) S1 => match (peek S1 x).bind Pk.truthy with
          | some true => ev g k a ρ S1
          | some false => ev g k b ρ S1
          | none => R.stk := by
      funext x S1
      cases (peek S1 x).bind Pk.truthy with
      | none => rfl
      | some b => cases b <;> rfl
    exact (congrArg (fun f => Po X.K z W σ F α (RD X.K) ((evE g.gv (callK g.gv g.G k) t ρ S).bind f) Q) this).mpr p
  · cases bb with
    | true => exact LG.at w1 (er.mono o1) p1
    | false => exact LG.at w1 (er.mono o1) p1)
/-! ### tests -/
/-- the value's test: what a test asks of a reading -/
theorem LT.of {e : IE} {σ : L2.St} {H : Hp} {Q : Bool → Hp → Prop} (q : LT g z W k X e σ H Q) : LD g z W k X e σ H fun v H1 => ∃ b, TruV X.K v H1 b ∧ Q b H1 := by
  refine LG.bind q fun v H1 F1 α1 ρ d S1 w1 er1 r1 p1 => ?_
  cases e1 : (peek S1 d).bind Pk.truthy with
  | none => simp only [e1] at p1; exact p1.elim
  | some b =>
    simp only [e1] at p1
    exact ⟨b, tru_ofD w1 r1 e1, p1 _ _ F1 α1 .refl w1 rfl⟩
theorem pt_not_ {a : IE} {x : Expr} {pos : Pos} (ha : PT X x (LT g z W k X a)) : PT X (.UnaryOp .Not x pos) (LT g z W k X (.not a)) := (pt_not ha).imp fun σ H Q q => by
  obtain ⟨F, α, ρ, S, w, er, p⟩ := q
  refine evT_at w er (kk := fun bb S1 => .ok (!bb) S1) (Q := Q) (Rel := REq) ?_ fun bb H1 F1 α1 S1 o1 w1 p1 => p1 _ H1 F1 α1 .refl w1 rfl
  have e : evT g.gv (callK g.gv g.G k) (.not a) ρ S = (evT g.gv (callK g.gv g.G k) a ρ S).bind fun bb S1 => .ok (!bb) S1 := by
    unfold evT
    show ((evE g.gv (callK g.gv g.G k) a ρ S).bind _).bind _ = _
    rw [R.bind_assoc, R.bind_assoc]
    congr 1
    funext x S1
    cases (peek S1 x).bind Pk.truthy with
    | none => rfl
    | some b => rfl
  rw [← e]
  exact p
theorem pt_bl {e : IE} {x : Expr} {r : R2} {t : TE} (he : ∀ σ H Q, LD g z W k X e σ H Q → t σ H Q) (hb : ∀ ρ S d S', ev g k e ρ S = .ok d S' → ∃ b, d = .val (.bl b)) (h : PT X x (tTest t)) : PT X x (LT g z W k X e) := h.imp fun σ H Q q => by
  refine he σ H _ ?_
  obtain ⟨F, α, ρ, S, w, er, p⟩ := q
  refine ⟨F, α, ρ, S, w, er, ?_⟩
  unfold evT at p
  cases e1 : ev g k e ρ S with
  | stk => rw [show evE g.gv (callK g.gv g.G k) e ρ S = _ from e1] at p; exact p.elim
  | exc x S' => rw [show evE g.gv (callK g.gv g.G k) e ρ S = _ from e1] at p; exact p
  | ok d S' =>
    rw [show evE g.gv (callK g.gv g.G k) e ρ S = _ from e1] at p
    obtain ⟨b, rfl⟩ := hb ρ S d S' e1
    intro v H' F' α' o w' r
    have r : v = .bl b := by
      have r : Rp X.K F' (.bl b) v := r
      simpa only [Rp] using r
    exact ⟨b, r, p b H' F' α' o w' rfl⟩
theorem giv_bl {o : Option Bool} {S S' : Store} {d : D} (h : giv (o.map P.bl) S = .ok d S') : ∃ b, d = .val (.bl b) := by
  cases o with
  | none => cases h
  | some b => cases h; exact ⟨b, rfl⟩
theorem pt_cmp_ {op : CmpOp} {a b : IE} {l r : Expr} {pos : Pos} (hu : X.A.units + 200 < cLine) (hs : notSet r = true) (ha : PE X l (LD g z W k X a)) (hb : PE X r (LD g z W k X b)) : PT X (.Compare l [op] [r] pos) (LT g z W k X (.cmp op a b)) := by
  refine pt_bl (r := r2 X.K fun p q => (cmpP op p q).map .bl) (fun σ H Q q => LG.two (f := fun p q => (cmpP op p q).map .bl) rfl (fun x y H W σ F α S p q Q w v1 v2 po => ⟨z, W, σ, F, α, S, p, q, w, v1, v2, po.toRF⟩) q) ?_ (pt_cmpR (op_cmp op hu) ha hb (set_mark hs))
  intro ρ S d S' e
  have e : ((ev g k a ρ S).bind fun x S1 => (ev g k b ρ S1).bind fun y S2 => match peek S2 x, peek S2 y with
    | some p, some q => giv ((cmpP op p q).map .bl) S2
    | _, _ => .stk) = .ok d S' := e
  cases h1 : ev g k a ρ S with
  | ok x S1 =>
    simp only [h1, R.bind] at e
    cases h2 : ev g k b ρ S1 with
    | ok y S2 =>
      simp only [h2] at e
      split at e
      · exact giv_bl e
      · cases e
    | _ => simp only [h2] at e; cases e
  | _ => simp only [h1, R.bind] at e; cases e
theorem pt_chain_ {o1 o2 : CmpOp} {a b c : IE} {l m r : Expr} {pos : Pos} (hu : X.A.units + 200 < cLine) (ha : PE X l (LD g z W k X a)) (hb : PE X m (LD g z W k X b)) (hc : PE X r (LD g z W k X c))
    (h2 : notSet r = true) : PT X (.Compare l [o1, o2] [m, r] pos) (LT g z W k X (.chain o1 o2 a b c)) := by
  refine pt_bl (r := fun _ _ _ _ => True) (fun σ H Q q => chain_asks q) ?_ (pt_chain (op_cmp o1 hu) (op_cmp o2 hu) ha hb hc (by show behindInMarks o2 r = false; exact set_mark h2))
  intro ρ S d S' e
  have e : ((ev g k a ρ S).bind fun x S1 => (ev g k b ρ S1).bind fun y S2 => match peek S2 x, peek S2 y with
    | some p, some q => match cmpP o1 p q with
      | some true => (ev g k c ρ S2).bind fun z S3 => match peek S3 y, peek S3 z with
        | some q, some r => giv ((cmpP o2 q r).map .bl) S3
        | _, _ => .stk
      | some false => .ok (.val (.bl false)) S2
      | none => .stk
    | _, _ => .stk) = .ok d S' := e
  cases h1 : ev g k a ρ S with
  | ok x S1 =>
    simp only [h1, R.bind] at e
    cases h2 : ev g k b ρ S1 with
    | ok y S2 =>
      simp only [h2] at e
      split at e
      · split at e
        · cases h3 : ev g k c ρ S2 with
          | ok z S3 =>
            simp only [h3] at e
            split at e
            · exact giv_bl e
            · cases e
          | _ => simp only [h3] at e; cases e
        · cases e; exact ⟨_, rfl⟩
        · cases e
      · cases e
    | _ => simp only [h2] at e; cases e
  | _ => simp only [h1, R.bind] at e; cases e
abbrev evB (g : Gs) (k : Nat) (m : Env → Store → R D) : Env → Store → R Bool := fun ρ S => (m ρ S).bind fun x S1 => match (peek S1 x).bind Pk.truthy with
  | some b => .ok b S1
  | none => .stk
theorem pw_and1_ {e : IE} {x : Expr} {pos : Pos} (h : PT X x (LT g z W k X e)) : PW X (.BoolOp .And [x] pos) (LG X.K z W REq (evB g k (evAnd g.gv (callK g.gv g.G k) [e]))) := pw_and1 h
theorem pw_or1_ {e : IE} {x : Expr} {pos : Pos} (h : PT X x (LT g z W k X e)) : PW X (.BoolOp .Or [x] pos) (LG X.K z W REq (evB g k (evOr g.gv (callK g.gv g.G k) [e]))) := pw_or1 h
theorem _root_.L2.PW.imp {e : Expr} {t t' : TT} (h : PW X e t) (kk : ∀ σ H Q, t' σ H Q → t σ H Q) : PW X e t' := ⟨fun wh pins s σ H Q I q => h.run wh pins s σ H Q I (kk _ _ _ q)⟩
theorem pw_and_ {e e' : IE} {es : List IE} {x x' : Expr} {xs : List Expr} {pos : Pos} (ha : PT X x (LT g z W k X e)) (hb : PW X (.BoolOp .And (x' :: xs) pos) (LG X.K z W REq (evB g k (evAnd g.gv (callK g.gv g.G k) (e' :: es))))) :
    PW X (.BoolOp .And (x :: x' :: xs) pos) (LG X.K z W REq (evB g k (evAnd g.gv (callK g.gv g.G k) (e :: e' :: es)))) := (pw_and ha hb).imp fun σ H Q q => by
  obtain ⟨F, α, ρ, S, w, er, p⟩ := q
  refine evT_at w er (kk := fun bb S1 => if bb then evB g k (evAnd g.gv (callK g.gv g.G k) (e' :: es)) ρ S1 else .ok false S1) (Q := Q) (Rel := REq) ?_ fun bb H1 F1 α1 S1 o1 w1 p1 => ?_
  · have hh : evB g k (evAnd g.gv (callK g.gv g.G k) (e :: e' :: es)) ρ S = (evT g.gv (callK g.gv g.G k) e ρ S).bind fun bb S1 => if bb then evB g k (evAnd g.gv (callK g.gv g.G k) (e' :: es)) ρ S1 else .ok false S1 := by
      unfold evB evT
      show ((evE g.gv (callK g.gv g.G k) e ρ S).bind _).bind _ = _
      rw [R.bind_assoc, R.bind_assoc]
      congr 1
      funext x S1
      cases h1 : (peek S1 x).bind Pk.truthy with
      | none => rfl
      | some b =>
        cases b with
        | true => rfl
        | false => simp only [R.bind, h1]; rfl
    rw [← hh]
    exact p
  · cases bb with
    | true => exact LG.at w1 (er.mono o1) p1
    | false => exact p1 _ H1 F1 α1 .refl w1 rfl
theorem pw_or_ {e e' : IE} {es : List IE} {x x' : Expr} {xs : List Expr} {pos : Pos} (ha : PT X x (LT g z W k X e)) (hb : PW X (.BoolOp .Or (x' :: xs) pos) (LG X.K z W REq (evB g k (evOr g.gv (callK g.gv g.G k) (e' :: es))))) :
    PW X (.BoolOp .Or (x :: x' :: xs) pos) (LG X.K z W REq (evB g k (evOr g.gv (callK g.gv g.G k) (e :: e' :: es)))) := (pw_or ha hb).imp fun σ H Q q => by
  obtain ⟨F, α, ρ, S, w, er, p⟩ := q
  refine evT_at w er (kk := fun bb S1 => if bb then .ok true S1 else evB g k (evOr g.gv (callK g.gv g.G k) (e' :: es)) ρ S1) (Q := Q) (Rel := REq) ?_ fun bb H1 F1 α1 S1 o1 w1 p1 => ?_
  · have hh : evB g k (evOr g.gv (callK g.gv g.G k) (e :: e' :: es)) ρ S = (evT g.gv (callK g.gv g.G k) e ρ S).bind fun bb S1 => if bb then .ok true S1 else evB g k (evOr g.gv (callK g.gv g.G k) (e' :: es)) ρ S1 := by
      unfold evB evT
      show ((evE g.gv (callK g.gv g.G k) e ρ S).bind _).bind _ = _
      rw [R.bind_assoc, R.bind_assoc]
      congr 1
      funext x S1
      cases h1 : (peek S1 x).bind Pk.truthy with
      | none => rfl
      | some b =>
        cases b with
        | false => rfl
        | true => simp only [R.bind, h1]; rfl
    rw [← hh]
    exact p
  · cases bb with
    | false => exact LG.at w1 (er.mono o1) p1
    | true => exact p1 _ H1 F1 α1 .refl w1 rfl
def plainT : Expr → Bool
  | .UnaryOp .Not _ _ => false
  | .BoolOp .. => false
  | .Compare .. => false
  | .IfExp .. => false
  | _ => true
theorem true_plain {x : Expr} {env : PySem.Env} (h : plainT x = true) (whole : Sem Value) : isTrue x env whole = (do let v ← whole; standAt x.pos; holding [v] (PySem.truthy v)) := by
  cases x with
  | UnaryOp o _ _ => cases o <;> first | rfl | cases h
  | BoolOp _ _ _ => cases h
  | Compare _ _ _ _ => cases h
  | IfExp _ _ _ _ => cases h
  | _ => rfl
/-! ### parts of a slice -/
theorem po_none_ : PO X none (LO g z W k X none) := po_none.imp fun σ H Q ⟨F, α, ρ, S, w, er, p⟩ => p _ H F α .refl w rfl
theorem po_some_ {e : IE} {x : Expr} (h : PE X x (LD g z W k X e)) : PO X (some x) (LO g z W k X (some e)) := (po_some h).imp fun σ H Q q => by
  refine LG.bind q fun v H1 F1 α1 ρ d S1 w1 er1 r1 p1 => ?_
  cases e1 : peek S1 d with
  | none => simp only [e1] at p1; exact p1.elim
  | some p =>
    cases p with
    | int i =>
      simp only [e1] at p1
      have vw := DR.vw w1 r1 e1
      simp only [Vw, Rp] at vw
      exact ⟨i, vw, p1 _ H1 F1 α1 .refl w1 rfl⟩
    | _ => simp only [e1] at p1; exact p1.elim
theorem pe_sl_ {a : IE} {lo hi : Option IE} {x : Expr} {l h : Option Expr} {p2 pos : Pos} (ha : PE X x (LD g z W k X a)) (hl : PO X l (LO g z W k X lo)) (hh : PO X h (LO g z W k X hi)) : PE X (.Subscript x (.Slice l h none p2) pos) (LE g z W k X (.sl a lo hi)) :=
  ofF rfl ((pe_slice sl_all ha hl hh).imp fun σ H Q q => by
    refine LG.bind q fun v H1 F1 α1 ρ d S1 w1 er1 r1 p1 => LG.at w1 er1 (Po.bindk p1 fun i H2 F2 α2 i' S2 o2 w2 r2 p2 => ?_)
    cases r2
    refine LG.at w2 (er1.mono o2) (Po.bindk p2 fun j H3 F3 α3 j' S3 o3 w3 r3 p3 => ?_)
    cases r3
    have r1' : RD X.K H3 F3 α3 d v := DR.mono o3 (DR.mono o2 r1)
    cases e1 : peek S3 d with
    | none => simp only [e1] at p3; exact p3.elim
    | some p =>
      simp only [e1] at p3
      exact ⟨z, W, σ, F3, α3, S3, p, w3, DR.vw w3 r1' e1, p3⟩)
/-! ### names, constants -/
theorem pe_var_ {i : Nat} {x : Str} {pos : Pos} (hN : X.N[i]? = some x) (hv : visB X.env.scope x = true) (hp : plainName x = true) : PE X (.Name x pos) (LE g z W k X (.var i)) :=
  ofD rfl ((pe_var hN (vis_of hv) (plainName_of hp).1 (plainName_of hp).2).imp fun σ H Q ⟨F, α, ρ, S, w, er, p⟩ => by
    have p : Po X.K z W σ F α (RD X.K) (match ρ[i]? with | some (some d) => R.ok d S | _ => R.stk) Q := p
    cases e : ρ[i]? with
    | none => simp only [e] at p; exact p.elim
    | some o =>
      cases o with
      | none => simp only [e] at p; exact p.elim
      | some d =>
        simp only [e] at p
        obtain ⟨v, h1, h2⟩ := er.2 i d e
        exact ⟨v, h1, p v H F α .refl w h2⟩)
theorem pe_glob_ (o : XOk g z W k N X) {n : Nat} {x : Str} {pos : Pos} (hx : g.gn n = x) (hg : glB X.env.scope x = true) (hp : plainName x = true) : PE X (.Name x pos) (LE g z W k X (.glob n)) := ofD rfl (by
  cases e : g.gv n with
  | none => exact ⟨fun pins s σ H Q I ⟨F, α, ρ, S, w, er, p⟩ => by
      have p : Po X.K z W σ F α (RD X.K) (giv (g.gv n) S) Q := p
      rw [e] at p; exact p.elim⟩
  | some pp =>
    obtain ⟨u, v, h1, h2, h3⟩ := o.globs n pp e
    rw [hx] at h1
    refine (pe_glob (gl_of hg) h1 h2 (plainName_of hp).1).imp fun σ H Q ⟨F, α, ρ, S, w, er, p⟩ => ?_
    have p : Po X.K z W σ F α (RD X.K) (giv (g.gv n) S) Q := p
    rw [e] at p
    exact p v H F α .refl w (h3 F))
theorem c_ask {e : IE} {p : P} {v : V} (he : ∀ ρ S, ev g k e ρ S = .ok (.val p) S) (hp : ∀ F, Rp X.K F p v) (σ : L2.St) (H : Hp) (Q : VK) (q : LD g z W k X e σ H Q) : tC v σ H Q := by
  obtain ⟨F, α, ρ, S, w, er, po⟩ := q
  rw [he ρ S] at po
  exact po v H F α .refl w (hp F)
theorem pe_non_ {j} {pos : Pos} : PE X (.Constant .none j pos) (LE g z W k X .non) := ofD rfl (pe_non.imp (c_ask (p := .non) (fun _ _ => rfl) fun F => by simp only [Rp]))
theorem pe_bl_ {b : Bool} {j} {pos : Pos} : PE X (.Constant (.bool b) j pos) (LE g z W k X (.bl b)) := ofD rfl (pe_bl.imp (c_ask (p := .bl b) (fun _ _ => rfl) fun F => by simp only [Rp]))
theorem pe_int_ {i : Int} {j} {pos : Pos} : PE X (.Constant (.int i) j pos) (LE g z W k X (.int i)) := ofD rfl (pe_int.imp (c_ask (p := .int i) (fun _ _ => rfl) fun F => by simp only [Rp]))
theorem pe_str_ {x : Str} {j} {pos : Pos} : PE X (.Constant (.str x) j pos) (LE g z W k X (.str x)) := ofD rfl (pe_str.imp (c_ask (p := .str x) (fun _ _ => rfl) fun F => by simp only [Rp]))
theorem pe_nev_ {x : Expr} : PE X x (LE g z W k X .nev) := ⟨fun pins s σ H Q I ⟨F, α, ρ, S, w, er, p⟩ => by
  have p : Po X.K z W σ F α (Rl X.K .nev) R.stk Q := p
  exact p.elim⟩
theorem pt_nev_ {x : Expr} : PT X x (LT g z W k X .nev) := ⟨fun pins s σ H Q I ⟨F, α, ρ, S, w, er, p⟩ => by
  have p : Po X.K z W σ F α REq R.stk Q := p
  exact p.elim⟩
end
end Pk

/-! Part 10: calls: defs, built-in functions, methods -/
namespace Pk
open PySem PySem.Spec PyProof.Rows L2
def plains (xs : List Expr) : Bool := xs.all notStar
theorem star_all {xs : List Expr} {env : PySem.Env} : plains xs = true → ∀ pos : Pos, (backTo pos (starEach xs env)).any (·.1) = false := by
  intro h pos
  induction xs with
  | nil => rfl
  | cons x xs ih =>
    obtain ⟨h1, h2⟩ := ba2 (show (notStar x && plains xs) = true from h)
    rw [star_cons h1]
    show (false || _) = false
    rw [Bool.false_or]
    exact ih h2
section
variable {K : PySem.W.Frag} {H F : Hp} {α : Al} {S : Store}
theorem DRs.vws (w : Wd K H F α S) : ∀ {ds : List D} {vs : List V} {ps : List P}, DRs K F α ds vs → peeks S ds = some ps → Vws K H F ps vs
  | [], [], ps, _, e => by cases e; trivial
  | d :: ds, v :: vs, ps, h, e => by
    unfold peeks at e
    cases e1 : peek S d with
    | none => simp only [e1] at e; cases e
    | some p =>
      cases e2 : peeks S ds with
      | none => simp only [e1, e2] at e; cases e
      | some qs =>
        simp only [e1, e2] at e
        cases e
        exact ⟨DR.vw w h.1 e1, DRs.vws w h.2 e2⟩
  | [], _ :: _, _, h, _ => h.elim
  | _ :: _, [], _, h, _ => h.elim
theorem DRs.one {d : D} {vs : List V} (h : DRs K F α [d] vs) : ∃ v, vs = [v] ∧ DR K F α d v := by
  cases vs with
  | nil => exact h.elim
  | cons v r =>
    cases r with
    | nil => exact ⟨v, rfl, h.1⟩
    | cons _ _ => exact h.2.elim
theorem Vw.grow {H2 : Hp} {p : P} {v : V} (s : Same H H2) (h : Vw K H F p v) : Vw K H2 F p v := by
  cases p with
  | lst ps =>
    obtain ⟨a, xs, e, h1, h2⟩ := h
    exact ⟨a, xs, e, s _ _ h1, h2⟩
  | _ => exact h
/-- a call's end -/
theorem Po.endc {z : Cz} {W : WX} {σ : L2.St} {keep : Bool} {n : Nat} {r : R D} {Q : VK} (hn : α.l.length = n) (h : Po K z W σ F α (RD K) (r.bind fun d S2 => endCall keep n d S2) Q) : Po K z W σ F α (RD K) r Q := by
  cases r with
  | stk => exact h
  | exc x S1 => exact h
  | ok d S1 =>
    intro v H1 F1 α1 o1 w1 r1
    have h : Po K z W σ F α (RD K) (endCall keep n d S1) Q := h
    cases keep with
    | true => exact h v H1 F1 α1 o1 w1 r1
    | false =>
      cases d with
      | val p => exact h v H1 F1 α1 o1 w1 r1
      | cell m =>
        simp only [endCall] at h
        split at h
        · exact h v H1 F1 α1 o1 w1 r1
        · rename_i hm
          obtain ⟨a, ha, rfl⟩ := r1
          have hpre : α.l <+: α1.l.take n := by
            obtain ⟨t, ht⟩ := o1.pre
            rw [← ht, ← hn, List.take_append_of_le_length (Nat.le_refl _), List.take_length]
            exact List.prefix_refl _
          cases hS : S1[m]? with
          | none => simp only [hS] at h; exact h.elim
          | some c =>
            cases c with
            | lst ps =>
              simp only [hS] at h
              obtain ⟨hF, xs, h2, h3, h4⟩ := w1.cell m a _ ha hS
              have w2 := w1.take n
              have hna : a ∉ α1.l.take n := fun hmem => by
                obtain ⟨j, hj⟩ := List.mem_iff_getElem?.mp hmem
                rw [List.getElem?_take] at hj
                split at hj
                · rename_i hjn
                  have := nd_inj w1.nd ha hj
                  omega
                · cases hj
              have hT : α1.T a = none := by
                cases e : α1.T a with
                | none => rfl
                | some o => exact absurd (List.mem_of_getElem? ha) (w1.held a o e).2.2
              refine h (.ref a) H1 (L2.upd F1 a (.lst xs)) (α1.take n) ⟨o1.same.trans (Same.upd_none hF), hpre, o1.T⟩ (w2.frz (p := a) (o := .lst xs) h2 hF (Al.nin_of hna hT)) ?_
              show Rp K _ (.lst ps) _
              simp only [Rp]
              exact ⟨a, xs, rfl, upd_same, h3, h4.mono (Same.upd_none hF)⟩
            | fz p =>
              simp only [hS] at h
              exact h (.ref a) H1 F1 (α1.take n) ⟨o1.same, hpre, o1.T⟩ (w1.take n) (w1.cell m a _ ha hS)
            | dct _ => exact (w1.cell m a _ ha hS).elim
            | ins _ _ => exact (w1.cell m a _ ha hS).elim
end
section
variable {g : Gs} {z : Cz} {W : WX} {k : Nat} {N : List Str} {X : Cx}
theorem pe_call_ (o : XOk g z W k N X) {keep : Bool} {f : Nat} {args : List IE} {x : Str} {xs : List Expr} {p pos : Pos} (hx : g.fn f = x) (hg : glB X.env.scope x = true) (hp : plainName x = true) (hG : (g.G f).isSome = true) (ha : PA X xs (LDs g z W k X args)) (hs : plains xs = true) (hl : args.length = xs.length) :
    PE X (.Call (.Name x p) xs [] pos) (LE g z W k X (.call keep f args)) := ofD rfl (by
  obtain ⟨fd, hfd⟩ := Option.isSome_iff_exists.mp hG
  obtain ⟨a, fdd, h1, h2, h3, h4, _⟩ := o.calls f fd hfd
  rw [hx] at h1
  have asks : ∀ σ H Q, LD g z W k X (.call keep f args) σ H Q → LDs g z W k X args σ H fun vs H1 => spF g z X.K k f fd (vs ++ []) H1 Q (WE W σ) := fun σ H Q q => by
    refine LG.bind q fun vs H1 F1 α1 ρ ds S1 w1 er1 r1 p1 => ?_
    rw [List.append_nil]
    have p2 : Po X.K z W σ F1 α1 (RD X.K) (callK g.gv g.G k f ds S1) Q := Po.endc (by rw [w1.len]) p1
    refine ⟨F1, α1, S1, ds, σ, w1, r1, ?_, p2⟩
    cases k with
    | zero => exact p2.elim
    | succ k =>
      unfold callK at p2
      simp only [hfd] at p2
      split at p2
      · assumption
      · exact p2.elim
  cases xs with
  | nil =>
    obtain rfl : args = [] := List.length_eq_zero_iff.mp hl
    refine ⟨fun pins s σ H Q I q => wpAny_Call_Name_kw (ld_glob I (gl_of hg) h1 ?_ (plainName_of hp).1)⟩
    have hsp : spF g z X.K k f fd ([] ++ []) H Q (WE W σ) := by
      obtain ⟨F, α, ρ, S, w, er, po⟩ := asks σ H Q q
      exact po [] H F α .refl w trivial
    exact PySem.W.callWith_K0 I.kIn h2 (run_fnSD (us := []) h4 o.room h3 .nil (passAt o.tk σ) I .nil hsp)
  | cons y ys =>
    obtain ⟨hs1, hs2⟩ := ba2 (show (notStar y && plains ys) = true from hs)
    refine (pe_callSD (E := WE W) h4 o.room (gl_of hg) h1 h2 h3 .nil (fun σ => passAt o.tk σ) ha (plainName_of hp).1 (star_cons hs1) (star_all hs2 pos)).imp fun σ H Q q => asks σ H Q q)
theorem Po.bindq {K : PySem.W.Frag} {σ : L2.St} {F : Hp} {α : Al} {τ υ τ' υ' : Type} {Rel : RelT τ υ} {Rel' : RelT τ' υ'} {r : R τ} {k : τ → Store → R τ'} {Q : υ' → Hp → Prop} {Q' : υ → Hp → Prop} (h : Po K z W σ F α Rel' (r.bind k) Q)
    (hk : ∀ (v : υ) (H1 F1 : Hp) (α1 : Al) (a : τ) (S1 : Store), r = .ok a S1 → On F α F1 α1 → Wd K H1 F1 α1 S1 → Rel H1 F1 α1 a v → Po K z W σ F1 α1 Rel' (k a S1) Q → Q' v H1) : Po K z W σ F α Rel r Q' := by
  cases r with
  | stk => exact h
  | exc x S1 => exact h
  | ok a S1 => exact fun v H1 F1 α1 o1 w1 r1 => hk v H1 F1 α1 a S1 rfl o1 w1 r1 (Po.on (r := k a S1) o1 h)
theorem evDs_len {gv : Nat → Option P} {c : CallF} : ∀ {es : List IE} {ρ : Env} {S S' : Store} {ds : List D}, evDs gv c es ρ S = .ok ds S' → ds.length = es.length
  | [], ρ, S, S', ds, h => by cases h; rfl
  | e :: es, ρ, S, S', ds, h => by
    unfold evDs at h
    cases h1 : evE gv c e ρ S with
    | ok d S1 =>
      simp only [h1, R.bind] at h
      cases h2 : evDs gv c es ρ S1 with
      | ok ds' S2 =>
        simp only [h2] at h
        cases h
        simp [evDs_len h2]
      | _ => simp only [h2] at h; cases h
    | _ => simp only [h1, R.bind] at h; cases h
/-! ### keywords -/
theorem kw_all {pos : Pos} {env : PySem.Env} : ∀ {kws : List Keyword} {ks : List Str}, kwNames kws = ks.map some → (backToKw pos (keywordEach kws env)).all (·.1.isSome) = true ∧ (backToKw pos (keywordEach kws env)).filterMap (·.1) = ks ∧ (backToKw pos (keywordEach kws env)).any (·.1.isNone) = false
  | [], [], _ => ⟨rfl, rfl, rfl⟩
  | ⟨n, e, p⟩ :: kws, k :: ks, h => by
    simp only [kwNames, List.map_cons, List.cons.injEq] at h
    obtain ⟨rfl, h⟩ := h
    obtain ⟨i1, i2, i3⟩ := kw_all (pos := pos) (env := env) h
    exact ⟨i1, congrArg (k :: ·) i2, i3⟩
  | [], _ :: _, h => by simp [kwNames] at h
  | ⟨_, _, _⟩ :: _, [], h => by simp [kwNames] at h
theorem pk_nil_ : PK X [] (LDs g z W k X []) := ⟨fun pos pins s σ H Q I ⟨F, α, ρ, S, w, er, p⟩ => pk_nil.run pos pins s σ H Q I (p [] H F α .refl w trivial)⟩
theorem pk_cons_ {e : IE} {es : List IE} {x : Expr} {nm : Option Str} {kp : Pos} {kws : List Keyword} (he : PE X x (LD g z W k X e)) (hr : PK X kws (LDs g z W k X es)) : PK X (⟨nm, x, kp⟩ :: kws) (LDs g z W k X (e :: es)) :=
  ⟨fun pos pins s σ H Q I q => (pk_cons he hr).run pos pins s σ H Q I (LG.bind q fun v H1 F1 α1 ρ d S1 w1 er1 r1 p1 => LG.at w1 er1 (Po.bindk p1 fun vs H2 F2 α2 ds S2 o2 w2 r2 p2 => p2 _ H2 F2 α2 .refl w2 ⟨DR.mono o2 r1, r2⟩))⟩
theorem DRs.append {K : PySem.W.Frag} {F : Hp} {α : Al} : ∀ {ds es : List D} {vs us : List V}, DRs K F α ds vs → DRs K F α es us → DRs K F α (ds ++ es) (vs ++ us)
  | [], _, [], _, _, h => h
  | d :: ds, es, v :: vs, us, h, h' => ⟨h.1, DRs.append h.2 h'⟩
  | [], _, _ :: _, _, h, _ => h.elim
  | _ :: _, _, [], _, h, _ => h.elim
theorem DRs.get {K : PySem.W.Frag} {F : Hp} {α : Al} : ∀ {ds : List D} {vs : List V} {i : Nat} {d : D}, DRs K F α ds vs → ds[i]? = some d → ∃ v, vs[i]? = some v ∧ DR K F α d v
  | d :: ds, v :: vs, 0, _, h, e => by
    simp at e
    subst e
    exact ⟨v, rfl, h.1⟩
  | d :: ds, v :: vs, i + 1, _, h, e => by
    obtain ⟨u, h1, h2⟩ := DRs.get (i := i) h.2 (by simpa using e)
    exact ⟨u, by simpa using h1, h2⟩
  | [], _, _, _, _, e => by simp at e
  | _ :: _, [], _, _, h, _ => h.elim
theorem DRs.pick {K : PySem.W.Frag} {F : Hp} {α : Al} {ds : List D} {vs : List V} (h : DRs K F α ds vs) : ∀ {perm : List Nat} {xs : List D}, Pk.pick ds perm = some xs → DRs K F α xs (perm.filterMap fun i => vs[i]?)
  | [], xs, e => by
    cases e
    trivial
  | i :: perm, xs, e => by
    unfold Pk.pick at e
    cases e1 : ds[i]? with
    | none => simp only [e1] at e; cases e
    | some d =>
      cases e2 : Pk.pick ds perm with
      | none => simp only [e1, e2] at e; cases e
      | some ys =>
        simp only [e1, e2] at e
        cases e
        obtain ⟨v, h1, h2⟩ := h.get e1
        rw [List.filterMap_cons, h1]
        exact ⟨h2, DRs.pick h e2⟩
theorem pe_callK_ (o : XOk g z W k N X) {keep : Bool} {f : Nat} {args kws : List IE} {ks : List Str} {perm : List Nat} {x : Str} {xs : List Expr} {kwds : List Keyword} {p pos : Pos} (hx : g.fn f = x) (hg : glB X.env.scope x = true) (hp : plainName x = true) (hG : kwIn g f args.length ks perm = true) (hn : kwNames kwds = ks.map some)
    (ha : PA X xs (LDs g z W k X args)) (hkw : PK X kwds (LDs g z W k X kws)) (hs : plains xs = true) (hl : args.length = xs.length) (hlk : kws.length = ks.length) :
    PE X (.Call (.Name x p) xs kwds pos) (LE g z W k X (.callK keep f args kws ks perm)) := ofD rfl (by
  unfold kwIn at hG
  cases hfd : g.G f with
  | none => rw [hfd] at hG; cases hG
  | some fd =>
    rw [hfd] at hG
    obtain ⟨e, he, hq⟩ := List.any_eq_true.mp hG
    cases of_decide_eq_true hq
    obtain ⟨a, fdd, h1, h2, h3, h4, h5⟩ := o.calls f fd hfd
    have hb := h5 _ he
    rw [hx] at h1
    obtain ⟨k1, k2, k3⟩ := kw_all (pos := pos) (env := X.env) hn
    have asks : ∀ σ H Q, LD g z W k X (.callK keep f args kws ks perm) σ H Q → LDs g z W k X args σ H fun vs H1 => LDs g z W k X kws σ H1 fun zs H2 => vs.length = args.length ∧ zs.length = ks.length ∧ spF g z X.K k f fd (gK perm vs zs) H2 Q (WE W σ) := fun σ H Q q => by
      obtain ⟨F, α, ρ, S, w, er, po⟩ := q
      refine ⟨F, α, ρ, S, w, er, Po.bindq po fun vs H1 F1 α1 ds S1 e1 o1 w1 r1 p1 => LG.at w1 (er.mono o1) (Po.bindq p1 fun zs H2 F2 α2 es S2 e2 o2 w2 r2 p2 => ⟨?_, ?_, ?_⟩)⟩
      · rw [r1.length, evDs_len e1]
      · rw [r2.length, evDs_len e2, hlk]
      · cases e3 : pick (ds ++ es) perm with
        | none => simp only [e3] at p2; exact p2.elim
        | some ys =>
          simp only [e3] at p2
          have p3 : Po X.K z W σ F2 α2 (RD X.K) (callK g.gv g.G k f ys S2) Q := Po.endc (by rw [w2.len]) p2
          refine ⟨F2, α2, S2, ys, σ, w2, DRs.pick ((DRs.mono o2 r1).append r2) e3, ?_, p3⟩
          cases k with
          | zero => exact p3.elim
          | succ k =>
            unfold callK at p3
            simp only [hfd] at p3
            split at p3
            · assumption
            · exact p3.elim
    have fin : ∀ {pins : List (Addr × Obj)} {σ : L2.St} {H : Hp} {s : Shared} {Q : VK} {us ws : List Value} {vs zs : List V}, Inv X pins σ H s → Vals vs us → Vals zs ws → vs.length = args.length → zs.length = ks.length → spF g z X.K k f fd (gK perm vs zs) H Q (WE W σ) →
        wpAny (model X.prog X.w) X.A (call (.ref a) us (ks.zip ws)) (EP X pins σ Q) X.xe s := fun {pins σ H s Q us ws vs zs} I r rz l1 l2 h => by
      have r2 := hb.rel r rz
      refine wpAny_call (codeAny_mono (h4.run X.A X.stack s H ⟨us, ks.zip ws⟩ (gK perm us ws) (gK perm vs zs) Q (WE W σ) o.room I.env0 (hb.to s us ws I.kIn (r.length.symm.trans l1) (rz.length.symm.trans l2)) r2 h) fun r s' hq => ?_)
      match r, hq with
      | .error e, hq => exact passAt o.tk σ pins H s e s' I hq
      | .ok (.ret u), hq => exact I.after hq
      | .ok .next, hq => exact hq.elim
      | .ok .brk, hq => exact hq.elim
      | .ok .cont, hq => exact hq.elim
    refine ⟨fun pins s σ H Q I q => wpAny_Call_Name_kw (ld_glob I (gl_of hg) h1 ?_ (plainName_of hp).1)⟩
    cases xs with
    | nil =>
      obtain rfl : args = [] := List.length_eq_zero_iff.mp hl
      obtain ⟨F, α, ρ, S, w, er, po⟩ := asks σ H Q q
      have q2 := po [] H F α .refl w trivial
      refine PySem.W.callWith_KW0 (h₀ := X.base) I.ok.mod.kin h2 k1 (thn (hkw.run pos pins s σ H _ I q2) fun ws s2 ⟨zs, H2, I2, rz, l1, l2, h⟩ => ⟨I2.kIn, ?_⟩) (by rw [k3]; rfl)
      rw [k2]
      exact fin I2 .nil rz l1 l2 h
    | cons y ys =>
      have hs1 := (ba2 (show (notStar y && plains ys) = true from hs)).1
      refine PySem.W.callWith_KW (h₀ := X.base) I.ok.mod.kin h2 k1 (thn (ha.run pos pins s σ H _ I (asks σ H Q q)) fun us s1 ⟨vs, H1, I1, r, q1⟩ => ?_) (by rw [k3, star_all hs pos]; rfl) (star_cons hs1)
      refine thn (hkw.run pos pins s1 σ H1 _ I1 q1) fun ws s2 ⟨zs, H2, I2, rz, l1, l2, h⟩ => ⟨I2.kIn, ?_⟩
      rw [k2]
      exact fin I2 r rz l1 l2 h)
/-! ### built-in functions -/
theorem Blt.is {b : Blt} : (∃ id, b.val = .builtin id) ∨ ∃ T, b.val = .type T := by cases b <;> first | exact .inl ⟨_, rfl⟩ | exact .inr ⟨_, rfl⟩
theorem Blt.boot : ∀ b : Blt, bootBuiltins b.nm = some b.val
  | .abs => by decide +kernel
  | .all => by decide +kernel
  | .any => by decide +kernel
  | .int => by decide +kernel
  | .len => by decide +kernel
  | .list => by decide +kernel
  | .tuple => by decide +kernel
  | .str => by decide +kernel
  | .sum => by decide +kernel
  | .max => by decide +kernel
  | .min => by decide +kernel
  | .sorted => by decide +kernel
  | .sset => by decide +kernel
  | .lset => by decide +kernel
theorem Blt.mem : ∀ b : Blt, b.nm ∈ bNames := by intro b; cases b <;> decide +kernel
theorem Blt.plain : ∀ b : Blt, (b.nm == ("__debug__" : Str)) = false := by intro b; cases b <;> decide +kernel
theorem Blt.noname : ∀ b : Blt, b.nm ≠ ("__name__" : Str) := by intro b; cases b <;> decide +kernel
theorem pe_blt_ (o : XOk g z W k N X) {b : Blt} {args : List IE} {x : Str} {y : Expr} {ys : List Expr} {p pos : Pos} (hx : b.nm = x) (hg : glB X.env.scope x = true) (ha : PA X (y :: ys) (LDs g z W k X args)) (hs : plains (y :: ys) = true) :
    PE X (.Call (.Name x p) (y :: ys) [] pos) (LE g z W k X (.blt b args)) := ofF rfl (by
  subst hx
  obtain ⟨hs1, hs2⟩ := ba2 (show (notStar y && plains ys) = true from hs)
  have asks : ∀ σ H Q, LG X.K z W (RF X.K) (ev g k (.blt b args)) σ H Q → LDs g z W k X args σ H fun vs H1 => rB X.K (bltP b) vs H1 Q := fun σ H Q q => by
    refine LG.bind q fun vs H1 F1 α1 ρ ds S1 w1 er1 r1 p1 => ?_
    cases e : peeks S1 ds with
    | none => simp only [e] at p1; exact p1.elim
    | some ps =>
      simp only [e] at p1
      exact ⟨z, W, σ, F1, α1, S1, ps, w1, DRs.vws w1 r1 e, p1⟩
  rcases b.is with ⟨id, hv⟩ | ⟨T, hv⟩
  · refine (pe_callB (r := rB X.K (bltP b)) (by rw [← hv]; exact call_blt b o.calm) (gl_of hg) (o.free _ b.mem) (by rw [← hv]; exact b.boot) ha b.noname b.plain (star_cons hs1) (star_all hs2 pos)).imp fun σ H Q q => asks σ H Q q
  · refine (pe_callTy (r := rB X.K (bltP b)) (by rw [← hv]; exact call_blt b o.calm) (gl_of hg) (o.free _ b.mem) (by rw [← hv]; exact b.boot) ha b.noname b.plain (star_cons hs1) (star_all hs2 pos)).imp fun σ H Q q => asks σ H Q q)
/-! ### isinstance -/
theorem Ty.boot : ∀ t : Ty, t.plain = true → bootBuiltins t.nm = some (.type t.name)
  | .int, _ => by decide +kernel
  | .bool, _ => by decide +kernel
  | .str, _ => by decide +kernel
  | .tuple, _ => by decide +kernel
  | .list, _ => by decide +kernel
  | .dict, _ => by decide +kernel
  | .own _, h => by cases h
theorem Ty.mem : ∀ t : Ty, t.plain = true → t.nm ∈ bNames ∧ (t.nm == ("__debug__" : Str)) = false ∧ t.nm ≠ ("__name__" : Str) := by
  intro t h
  cases t <;> first | decide +kernel | cases h
theorem pe_ty_ (o : XOk g z W k N X) {t : Ty} {x : Str} {p : Pos} (ht : t.plain = true) (hx : t.nm = x) (hg : glB X.env.scope x = true) : PE X (.Name x p) (tC (.ty t.name)) := by
  subst hx
  obtain ⟨m1, m2, m3⟩ := Ty.mem t ht
  exact pe_bltn (gl_of hg) (o.free _ m1) (Ty.boot t ht) rfl m3 m2
theorem kit_any {K : PySem.W.Frag} {p : P} {n : String} (hn : tyName p = some n) : ∀ {ts : List Ty} {b : Bool}, (∀ t ∈ ts, t.plain = true) → tyAny p ts = some b → PySem.W.kitAny K (.type n) (ts.map fun t => Value.type t.name) = some b
  | [], b, _, h => by cases h; rfl
  | t :: ts, b, hp, h => by
    unfold tyAny at h
    cases e1 : tyB p t with
    | none => simp only [e1] at h; cases h
    | some b1 =>
      cases e2 : tyAny p ts with
      | none => simp only [e1, e2] at h; cases h
      | some b2 =>
        simp only [e1, e2] at h
        cases h
        refine kitAny_cons (tyB_kit e1 (hp t List.mem_cons_self) hn) (fun hb => ?_) fun hb => by rw [hb]; rfl
        rw [hb, Bool.false_or]
        exact kit_any hn (fun t ht => hp t (List.mem_cons_of_mem _ ht)) e2
theorem tyAny_name {p : P} {t : Ty} {ts : List Ty} {b : Bool} (h : tyAny p (t :: ts) = some b) : ∃ n, tyName p = some n := by
  unfold tyAny at h
  cases e1 : tyB p t with
  | none => simp only [e1] at h; cases h
  | some b1 => exact tyB_name e1
def tTys : List Ty → TA
  | [] => tNil
  | t :: ts => tCons (tC (.ty t.name)) (tTys ts)
theorem tTys_ask {ts : List Ty} : ∀ {σ : L2.St} {H : Hp} {Q : List V → Hp → Prop}, Q (ts.map fun t => V.ty t.name) H → tTys ts σ H Q := by
  induction ts with
  | nil => exact fun q => q
  | cons t ts ih => exact fun {σ H Q} q => ih (Q := fun xs H2 => Q (.ty t.name :: xs) H2) q
theorem pa_tys (o : XOk g z W k N X) : ∀ {ts : List Ty} {es : List Expr}, chkTyL X.env.scope ts es = true → PA X es (tTys ts) ∧ ∀ t ∈ ts, t.plain = true
  | [], [], _ => ⟨pa_nil, fun _ h => nomatch h⟩
  | t :: ts, e :: es, h => by
    cases e with
    | Name x p =>
      simp only [chkTyL] at h
      obtain ⟨h1, h⟩ := ba2 h
      obtain ⟨h2, h⟩ := ba2 h
      obtain ⟨h3, h⟩ := ba2 h
      obtain ⟨i1, i2⟩ := pa_tys o h
      refine ⟨pa_cons (pe_ty_ o h1 (of_decide_eq_true h2) h3) i1 rfl, fun u hu => ?_⟩
      rcases List.mem_cons.mp hu with e | hu
      · exact e ▸ h1
      · exact i2 u hu
    | _ => simp [chkTyL] at h
  | [], _ :: _, h => by simp [chkTyL] at h
  | _ :: _, [], h => by simp [chkTyL] at h
theorem boot_isi : bootBuiltins "isinstance" = some (.builtin "isinstance") := by decide +kernel
theorem clsv_tys : ∀ ts : List Ty, Paired ClsV (ts.map fun t => V.ty t.name) (ts.map fun t => Value.type t.name)
  | [] => .nil
  | t :: ts => .cons (.ty _) (clsv_tys ts)
theorem pe_isi_ (o : XOk g z W k N X) {e : IE} {ts : List Ty} {many : Bool} {y c : Expr} {p pos : Pos} (hg : glB X.env.scope "isinstance" = true) (hs : notStar y = true) (he : PE X y (LD g z W k X e)) (hc : (if many then chkTys X.env.scope ts c else chkTy1 X.env.scope ts c) = true) :
    PE X (.Call (.Name "isinstance" p) [y, c] [] pos) (LE g z W k X (.isi e ts many)) := ofD rfl (by
  have hfree := o.free "isinstance" (by decide +kernel)
  have core : ∀ {σ H Q}, LD g z W k X (.isi e ts many) σ H Q → LD g z W k X e σ H fun v H1 => ∃ b F1 α1 S1 p, Wd X.K H1 F1 α1 S1 ∧ Vw X.K H1 F1 p v ∧ tyAny p ts = some b ∧ ∀ H2, Wd X.K H2 F1 α1 S1 → Q (.bl b) H2 := fun {σ H Q} q => by
    refine LG.bind q fun v H1 F1 α1 ρ d S1 w1 er1 r1 p1 => ?_
    cases e1 : peek S1 d with
    | none => simp only [e1] at p1; exact p1.elim
    | some p =>
      simp only [e1, Option.bind_some] at p1
      cases e2 : tyAny p ts with
      | none => simp only [e2] at p1; exact p1.elim
      | some b =>
        simp only [e2] at p1
        exact ⟨b, F1, α1, S1, p, w1, DR.vw w1 r1 e1, e2, fun H2 w2 => p1 _ H2 F1 α1 .refl w2 (by show Rp _ _ _ _; simp only [Rp])⟩
  cases many with
  | false =>
    simp only [Bool.false_eq_true, if_false] at hc
    unfold chkTy1 at hc
    split at hc
    · rename_i t x q
      obtain ⟨h1, hc⟩ := ba2 hc
      obtain ⟨h2, h3⟩ := ba2 hc
      have pc := pe_ty_ (p := q) o h1 (of_decide_eq_true h2) h3
      refine (pe_callB call_isi (gl_of hg) hfree boot_isi (pa_cons he (pa_cons pc pa_nil rfl) (star_cons hs)) (by decide +kernel) (by decide +kernel) (star_cons hs) (star_all (xs := [.Name x q]) rfl pos)).imp fun σ H Q q => ?_
      have cq := core q
      obtain ⟨F, α, ρ, S, w, er, po⟩ := cq
      refine ⟨F, α, ρ, S, w, er, po.mono fun v H1 hq => ?_⟩
      obtain ⟨b, F1, α1, S1, p, w1, vw, e2, hq⟩ := hq
      obtain ⟨n, hn⟩ := tyAny_name e2
      have hk := tyB_kit (K := X.K) (b := b) (p := p) (t := t) (by
        unfold tyAny at e2
        cases e1 : tyB p t with
        | none => simp only [e1] at e2; cases e2
        | some b1 =>
          simp only [e1, tyAny] at e2
          cases e2
          rw [Bool.or_false]) h1 hn
      exact ⟨v, .ty t.name, .type n, .type t.name, b, rfl, .ty _, tyX_of w1.sub vw hn, hk, hq H1 w1⟩
    · cases hc
  | true =>
    simp only [if_true] at hc
    unfold chkTys at hc
    split at hc
    · rename_i es kk tp
      obtain ⟨hne, hc⟩ := ba2 hc
      obtain ⟨hlen, hc⟩ := ba2 hc
      have hlen := of_decide_eq_true hlen
      obtain ⟨pt, hpl⟩ := pa_tys o hc
      refine (pe_callB call_isiT (gl_of hg) hfree boot_isi (pa_cons he (pa_cons (pe_tup (pos := tp) (x1 := kk) pt) pa_nil rfl) (star_cons hs)) (by decide +kernel) (by decide +kernel) (star_cons hs) (star_all (xs := [.Tuple es kk tp]) rfl pos)).imp fun σ H Q q => ?_
      have cq := core q
      obtain ⟨F, α, ρ, S, w, er, po⟩ := cq
      refine ⟨F, α, ρ, S, w, er, po.mono fun v H1 hq => ?_⟩
      obtain ⟨b, F1, α1, S1, p, w1, vw, e2, hq⟩ := hq
      have hn : ∃ n, tyName p = some n := by
        cases ts with
        | nil => cases hne
        | cons t ts => exact tyAny_name e2
      obtain ⟨n, hn⟩ := hn
      refine tTys_ask ⟨?_, fun pp hpp => ?_⟩
      · rw [List.length_map, sizeLine_eq]
        omega
      · have w2 := w1.new (o := .tup (ts.map fun t => V.ty t.name)) hpp
        exact ⟨v, pp, _, .type n, _, b, rfl, upd_same, clsv_tys ts, tyX_of w2.sub (vw.grow (Same.upd_none hpp)) hn, kit_any hn hpl e2, hq _ w2⟩
    · cases hc)
/-! ### methods -/
theorem few {x : Expr} {env : PySem.Env} {cpos : Pos} (h : notStar x = true) : ((backTo cpos (starEach [x] env)).all (fun x => !x.1) && (backToKw cpos (keywordEach [] env)).all (fun x => x.1.isSome)
      && decide (([x] : List Expr).length + ([] : List Keyword).length + (if ([] : List Keyword).isEmpty then 0 else 1) < 30)) = true := by
  rw [star_cons h]
  rfl
theorem pe_meth_ (o : XOk g z W k N X) {m : Mt} {ob e : IE} {x : Str} {y a : Expr} {p pos : Pos} (hx : m.nm = x) (hb : plainBase y = true) (hl : (p.endLine == pos.line) = true) (hs : notStar a = true) (ho : PE X y (LD g z W k X ob)) (he : PE X a (LD g z W k X e)) :
    PE X (.Call (.Attribute y x p) [a] [] pos) (LE g z W k X (.meth m ob [e])) := ofD rfl (by
  subst hx
  have pa : PA X [a] (LDs g z W k X [e]) := pa_dcons he pa_dnil hs
  have start : ∀ {σ H Q}, LD g z W k X (.meth m ob [e]) σ H Q → LD g z W k X ob σ H fun v H1 => ∃ F1 α1 ρ d S1, Wd X.K H1 F1 α1 S1 ∧ EnvR X.K F1 α1 ρ σ ∧ DR X.K F1 α1 d v ∧ methOk m d S1 = true ∧ Po X.K z W σ F1 α1 (RD X.K) ((evDs g.gv (callK g.gv g.G k) [e] ρ S1).bind fun ds S2 =>
      if isMut m then match d, ds with
        | .cell n, [d] => (if m = .append then Pk.frz d S2 else match peek S2 d with | some p => .ok p S2 | none => .stk).bind fun p S3 => match S3[n]? with
          | some (.lst ps) => match mutP m ps [p] with
            | some qs => .ok (.val .non) (S3.set n (.lst qs))
            | none => .stk
          | _ => .stk
        | _, _ => .stk
      else match peek S2 d, peeks S2 ds with
        | some p, some ps => giv (methP m p ps) S2
        | _, _ => .stk) Q := fun {σ H Q} q => by
    refine LG.bind q fun v H1 F1 α1 ρ d S1 w1 er1 r1 p1 => ?_
    by_cases hm : methOk m d S1 = true
    · rw [if_pos hm] at p1
      exact ⟨F1, α1, ρ, d, S1, w1, er1, r1, hm, p1⟩
    · rw [if_neg hm] at p1
      exact p1.elim
  have isL : ∀ {d v H1 F1 α1 S1}, Wd X.K H1 F1 α1 S1 → DR X.K F1 α1 d v → isMut m = true → methOk m d S1 = true → ∃ n a, d = .cell n ∧ α1.l[n]? = some a ∧ v = .ref a ∧ ∃ xs, H1 a = some (.lst xs) := fun {d v H1 F1 α1 S1} w r hm h => by
    unfold methOk at h
    rw [if_pos hm] at h
    split at h
    · rename_i n
      obtain ⟨a, ha, rfl⟩ := r
      split at h
      · rename_i ps hS
        obtain ⟨_, xs, h2, _⟩ := w.cell n a _ ha hS
        exact ⟨n, a, rfl, ha, rfl, xs, h2⟩
      · cases h
    · cases h
  cases m with
  | append =>
    refine (pe_bm F.plainAttrs_list F.slot_list_append F.type_list_append mt_append ho pa (base_plain hb) (few hs) hl (star_cons hs) rfl).imp fun σ H Q q => ?_
    obtain ⟨F, α, ρ, S, w, er, po⟩ := start q
    refine ⟨F, α, ρ, S, w, er, po.mono fun v H1 ⟨F1, α1, ρ1, d, S1, w1, er1, r1, hm, p1⟩ => ?_⟩
    obtain ⟨n, a, rfl, ha, rfl, xs, h2⟩ := isL w1 r1 rfl hm
    refine ⟨.inl ⟨rfl, xs, SqL.of h2⟩, LG.at w1 er1 (Po.bindk p1 fun vs H2 F2 α2 ds S2 o2 w2 r2 p2 => ?_)⟩
    rw [if_pos (show isMut _ = true from rfl)] at p2
    cases ds with
    | nil => exact p2.elim
    | cons dd rest =>
      cases rest with
      | cons _ _ => exact p2.elim
      | nil =>
        obtain ⟨v, rfl, rv⟩ := DRs.one r2
        simp only [if_true] at p2
        obtain ⟨F3, p, S3, o3, w3, r3, _, p3⟩ := Po.frz w2 rv p2
        cases hS : S3[n]? with
        | none => simp only [hS] at p3; exact p3.elim
        | some c =>
          cases c with
          | lst ps =>
            simp only [hS, mutP] at p3
            have ha3 := pre_get o3.pre (pre_get o2.pre ha)
            obtain ⟨hF, ys, h5, h6, h7⟩ := w3.cell n a _ ha3 hS
            split at p3
            · rename_i qs hq
              split at hq
              · rename_i hlt
                cases hq
                have hl7 := h7.length
                have hlt' : ys.length < sizeLine := by rw [hl7, lim_eq]; exact hlt
                have hl8 : (ys ++ [v]).length ≤ sizeLine := by rw [List.length_append]; exact hlt'
                have w4 := w3.upd (xs := ys ++ [v]) ha3 hS hl8 (h7.append (Rps.cons r3 Rps.nil))
                exact ⟨a, ys, v, rfl, rfl, h5, hlt', p3 .non _ F3 _ .refl w4 (by show Rp _ _ _ _; simp only [Rp])⟩
              · cases hq
            · exact p3.elim
          | _ => simp only [hS] at p3; exact p3.elim
  | extend =>
    refine (pe_bm F.plainAttrs_list F.slot_list_extend F.type_list_extend mt_extend ho pa (base_plain hb) (few hs) hl (star_cons hs) rfl).imp fun σ H Q q => ?_
    obtain ⟨F, α, ρ, S, w, er, po⟩ := start q
    refine ⟨F, α, ρ, S, w, er, po.mono fun v H1 ⟨F1, α1, ρ1, d, S1, w1, er1, r1, hm, p1⟩ => ?_⟩
    obtain ⟨n, a, rfl, ha, rfl, xs, h2⟩ := isL w1 r1 rfl hm
    refine ⟨.inl ⟨rfl, xs, SqL.of h2⟩, LG.at w1 er1 (Po.bindk p1 fun vs H2 F2 α2 ds S2 o2 w2 r2 p2 => ?_)⟩
    rw [if_pos (show isMut _ = true from rfl)] at p2
    cases ds with
    | nil => exact p2.elim
    | cons dd rest =>
      cases rest with
      | cons _ _ => exact p2.elim
      | nil =>
        obtain ⟨v, rfl, rv⟩ := DRs.one r2
        simp only [show (Mt.extend = Mt.append) = False from by simp, if_false] at p2
        cases e1 : peek S2 dd with
        | none => simp only [e1] at p2; exact p2.elim
        | some p =>
          simp only [e1, R.bind] at p2
          have vw := DR.vw w2 rv e1
          cases hS : S2[n]? with
          | none => simp only [hS] at p2; exact p2.elim
          | some c =>
            cases c with
            | lst ps =>
              simp only [hS] at p2
              have ha3 := pre_get o2.pre ha
              obtain ⟨hF, ys, h5, h6, h7⟩ := w2.cell n a _ ha3 hS
              cases p with
              | lst qs =>
                simp only [mutP] at p2
                obtain ⟨b, zs, rfl, g1, g2, g3⟩ := vw
                split at p2
                · rename_i qs' hq
                  split at hq
                  · rename_i hlt
                    cases hq
                    have hl7 := h7.length
                    have hl9 := g3.length
                    have hlt' : ys.length + zs.length ≤ sizeLine := by rw [hl7, hl9, lim_eq]; exact hlt
                    have w4 := w2.upd (xs := ys ++ zs) ha3 hS (by rw [List.length_append]; exact hlt') (h7.append g3)
                    exact ⟨a, b, ys, zs, rfl, rfl, h5, g1, hlt', p2 .non _ F2 _ .refl w4 (by show Rp _ _ _ _; simp only [Rp])⟩
                  · cases hq
                · exact p2.elim
              | _ => simp only [mutP] at p2; exact p2.elim
            | _ => simp only [hS] at p2; exact p2.elim
  | join =>
    refine (pe_bm F.plainAttrs_str F.slot_str_join F.type_str_join mt_join ho pa (base_plain hb) (few hs) hl (star_cons hs) rfl).imp fun σ H Q q => ?_
    obtain ⟨F, α, ρ, S, w, er, po⟩ := start q
    refine ⟨F, α, ρ, S, w, er, po.mono fun v H1 ⟨F1, α1, ρ1, d, S1, w1, er1, r1, hm, p1⟩ => ?_⟩
    have hd : ∃ s, d = .val (.str s) := by
      unfold methOk at hm
      simp only [isMut, Bool.false_eq_true, if_false] at hm
      split at hm
      · exact ⟨_, rfl⟩
      · cases hm
    obtain ⟨s, rfl⟩ := hd
    have hv : v = .str s := by
      have r1 : Rp X.K F1 (.str s) v := r1
      simpa only [Rp] using r1
    subst hv
    refine ⟨rfl, LG.at w1 er1 (Po.bindk p1 fun vs H2 F2 α2 ds S2 o2 w2 r2 p2 => ?_)⟩
    simp only [isMut, Bool.false_eq_true, if_false] at p2
    have e0 : peek S2 (.val (.str s)) = some (.str s) := rfl
    rw [e0] at p2
    cases e1 : peeks S2 ds with
    | none => simp only [e1] at p2; exact p2.elim
    | some ps =>
      simp only [e1] at p2
      obtain ⟨r, hr, p3⟩ := Po.giv p2
      unfold methP at hr
      split at hr
      · rename_i xs0 a' p' q1 q2
        cases q1
        cases q2
        obtain ⟨u, rfl, vw⟩ := (DRs.vws w2 r2 e1).one
        split at hr
        · rename_i ys hys
          split at hr
          · rename_i hj
            cases hr
            rw [Option.bind_eq_some_iff] at hys
            obtain ⟨qs, hq1, hq2⟩ := hys
            have hsum := of_decide_eq_true hj
            have fin : Q (.str (Txt.join s ys)) H2 := p3 _ H2 F2 α2 .refl w2 (by show Rp _ _ _ _; simp only [Rp])
            cases p' with
            | lst l =>
              cases hq1
              obtain ⟨b, zs, rfl, g1, g2, g3⟩ := vw
              have := pStrs_ok g3 hq2
              subst this
              exact ⟨s, b, ys, rfl, rfl, .inl (SqL.of g1), hsum, fin⟩
            | tup l =>
              cases hq1
              simp only [Vw, Rp] at vw
              obtain ⟨b, zs, rfl, g1, g2, g3⟩ := vw
              have := pStrs_ok g3 hq2
              subst this
              exact ⟨s, b, ys, rfl, rfl, .inr (SqT.up w2.sub g1), hsum, fin⟩
            | _ => cases hq1
          · cases hr
        · cases hr
      · cases hr)
/-! ### a list that may change later -/
theorem pe_thaw_ {e : IE} {x : Expr} (he : PE X x (LE g z W k X e)) : PE X x (LE g z W k X (.thaw e)) := ofD rfl (he.imp fun σ H Q q => by
  obtain ⟨F, α, ρ, S, w, er, po⟩ := q
  have po : Po X.K z W σ F α (RD X.K) (if fresh e then (ev g k e ρ S).bind fun d S1 => newCell d S1 else .stk) Q := po
  split at po
  · rename_i hf
    refine ⟨F, α, ρ, S, w, er, Po.bindk po fun v H1 F1 α1 d S1 o1 w1 r1 p1 => ?_⟩
    have r1 : RF X.K H1 F1 α1 d v := by
      have : Rl X.K e = RF X.K := by unfold Rl; rw [hf]; rfl
      rw [← this]; exact r1
    cases d with
    | cell n => exact p1.elim
    | val p =>
      cases p with
      | lst ps =>
        obtain ⟨a, xs, rfl, h1, h2, h3, h4, h5⟩ := r1
        refine p1 (.ref a) H1 F1 (α1.push a) .push (w1.push h1 h2 h3 h4 h5) ⟨a, ?_, rfl⟩
        show (α1.l ++ [a])[S1.length]? = some a
        rw [← w1.len]
        simp
      | dct kvs =>
        have r1 : Rp X.K F1 (.dct kvs) v := r1
        simp only [Rp] at r1
      | _ => exact p1.elim
  · exact po.elim)
end
end Pk

/-! Part 11: what is walked, comprehensions -/
namespace Pk
open PySem PySem.Spec PyProof.Rows L2
section
variable {g : Gs} {z : Cz} {W : WX} {k : Nat} {N : List Str} {X : Cx}
/-! ### iterators -/
def iSeq (K : PySem.W.Frag) (te : TE) : TI := fun σ H R => te σ H fun v H1 => (∃ a xs, v = .ref a ∧ SqL K H1 a xs ∧ R (Itl K a) H1) ∨ (∃ a xs, v = .ref a ∧ SqT K H1 a xs ∧ R (Itt K a) H1) ∨ ∃ x, v = .str x ∧ R (Its x) H1
theorem pi_seqs {tg e : Expr} {te : TE} (he : PE X e te) : PI X tg e (iSeq X.K te) := by
  constructor
  intro pins s σ H R I h
  apply thn (he.run pins s σ H _ I h)
  rintro v s1 ⟨y, H1, I1, ry, q | q | q⟩
  · obtain ⟨a, xs, rfl, hq, q⟩ := q
    obtain rfl : v = .ref a := ry
    obtain ⟨its, _, p, _⟩ := I1.list hq
    exact wpAny_pyIter_list p.isList (pi_one (tk := s1.toks) I1 _ (turn_list a _) ⟨_, Heap.get?_push_size _ rfl, rfl, rfl⟩ q)
  · obtain ⟨a, xs, rfl, hq, q⟩ := q
    obtain rfl : v = .ref a := ry
    obtain ⟨its, _, p, _⟩ := I1.tuple hq
    exact wpAny_pyIter_tuple (show s1.heap.IsTuple a its.toArray from p) (pi_one (tk := s1.toks) I1 _ (turn_tuple a _) ⟨_, Heap.get?_push_size _ rfl, rfl, rfl⟩ q)
  · obtain ⟨x, rfl, q⟩ := q
    obtain ⟨t, rfl⟩ := ry
    rcases Bool.eq_false_or_eq_true (x.cps.all (· < 128)) with ha | ha
    · exact wpAny_pyIter_ascii ha (pi_one I1 _ (turn_str _ x t _ (.inl rfl)) ⟨_, Heap.get?_push_size _ rfl, rfl, rfl⟩ q)
    · exact wpAny_pyIter_wide ha (pi_one I1 _ (turn_str _ x t _ (.inr rfl)) ⟨_, Heap.get?_push_size _ rfl, rfl, rfl⟩ q)
theorem pi_seq_ {e : IE} {tg x : Expr} (he : PE X x (LD g z W k X e)) : PI X tg x (LI g z W k X (.seq e)) := (pi_seqs he).imp fun σ H R q => by
  refine LG.bind q fun v H1 F1 α1 ρ d S1 w1 er1 r1 p1 => ?_
  obtain ⟨F2, p, S2, o2, w2, r2, _, p2⟩ := Po.frz w1 r1 p1
  cases e1 : itemsP p with
  | none => simp only [e1] at p2; exact p2.elim
  | some ps =>
    simp only [e1] at p2
    cases p with
    | lst qs =>
      cases e1
      simp only [Rp] at r2
      obtain ⟨a, xs, rfl, h1, h2, h3⟩ := r2
      exact .inl ⟨a, xs, rfl, SqL.of (w2.sub _ _ h1), p2 _ H1 F2 α1 .refl w2 (Itl_ok (SqL.of h1) h2 h3)⟩
    | tup qs =>
      cases e1
      simp only [Rp] at r2
      obtain ⟨a, xs, rfl, h1, h2, h3⟩ := r2
      exact .inr (.inl ⟨a, xs, rfl, SqT.up w2.sub h1, p2 _ H1 F2 α1 .refl w2 (Itt_ok h1 h2 h3)⟩)
    | scr ns =>
      cases e1
      simp only [Rp] at r2
      obtain ⟨a, rfl, h1, h2, h3⟩ := r2
      exact .inl ⟨a, _, rfl, w2.sub.seq h1, p2 _ H1 F2 α1 .refl w2 (Itl_ok h1 (by simpa using h2) Rps.ints)⟩
    | str zz =>
      simp only [itemsP] at e1
      split at e1
      · rename_i hl
        cases e1
        simp only [Rp] at r2
        subst r2
        exact .inr (.inr ⟨zz, rfl, p2 _ H1 F2 α1 .refl w2 (Its_ok hl)⟩)
      · cases e1
    | _ => cases e1
theorem pi_enum_ (o : XOk g z W k N X) {e : IE} {x : Expr} {p pos tpos : Pos} {es : List Expr} {kk : Nat} (hg : glB X.env.scope "enumerate" = true) (hs : notStar x = true) (he : PE X x (LD g z W k X e)) :
    PI X (.Tuple es kk tpos) (.Call (.Name "enumerate" p) [x] [] pos) (LI g z W k X (.enum e)) := (pi_enum (gl_of hg) (o.free _ (by decide +kernel)) (pa_cons he pa_nil (star_cons hs)) (star_cons hs)).imp fun σ H R q => by
  refine LG.bind q fun v H1 F1 α1 ρ d S1 w1 er1 r1 p1 => ?_
  obtain ⟨F2, p, S2, o2, w2, r2, _, p2⟩ := Po.frz w1 r1 p1
  cases p with
  | lst qs =>
    simp only [Rp] at r2
    obtain ⟨a, xs, rfl, h1, h2, h3⟩ := r2
    exact ⟨a, xs, rfl, SqL.of (w2.sub _ _ h1), p2 _ H1 F2 α1 .refl w2 (Ite_ok h1 h2 h3)⟩
  | _ => exact p2.elim
theorem ItzT_ok {K : PySem.W.Frag} {H F : Hp} {α : Al} {a b : Addr} {xs ys : List V} {ps qs : List P} (h : SqT K F a xs) (h' : SqT K F b ys) (hl : xs.length ≤ sizeLine) (r : Rps K F ps xs) (r' : Rps K F qs ys) : RI K H F α (zipP ps qs) (RZ.ItzT K a b) := by
  have wk : Walk (RZ.ItzT K a b) (min xs.length ys.length) (fun H => SqT K H a xs ∧ SqT K H b ys) (YPair (fun i => xs[i]?) fun i => ys[i]?) := by
    constructor
    · intro i H hi q
      exact ⟨xs, ys, xs[i], ys[i], q.1, q.2, List.getElem?_eq_getElem _, List.getElem?_eq_getElem _⟩
    · intro H q
      refine ⟨xs, ys, q.1, q.2, ?_⟩
      omega
    · intro i H v H' _ q ⟨T, x, y, e1, e2, e3, e4, e5⟩
      exact ⟨T, x, y, e1, e2, e3, e4 _ q.1, e5 _ q.2⟩
  refine ⟨by rw [zipP_len, ← r.length]; omega, (fun H => SqT K H a xs ∧ SqT K H b ys), _, by rw [zipP_len, ← r.length, ← r'.length]; exact wk, fun H' F' α' S' sm w => ⟨SqT.up (sm.trans w.sub) h, SqT.up (sm.trans w.sub) h'⟩, ?_⟩
  intro i x p H' H'' F' α' S' sm w e y
  obtain ⟨p1, p2, rfl, e1, e2⟩ := zipP_get _ _ _ _ e
  obtain ⟨v, f1, f2⟩ := r.get e1
  obtain ⟨v', f1', f2'⟩ := r'.get e2
  refine YPair_ok w y (fun x h => ?_) fun x h => ?_
  · rw [f1] at h; cases h
    exact f2.mono sm
  · rw [f1'] at h; cases h
    exact f2'.mono sm
theorem pi_zip_ (o : XOk g z W k N X) {e e' : IE} {x x' : Expr} {p pos tpos : Pos} {es : List Expr} {kk : Nat} (hg : glB X.env.scope "zip" = true) (hs : notStar x = true) (hs' : notStar x' = true) (he : PE X x (LD g z W k X e)) (he' : PE X x' (LD g z W k X e')) :
    PI X (.Tuple es kk tpos) (.Call (.Name "zip" p) [x, x'] [] pos) (LI g z W k X (.zip e e')) := (RZ.pi_zipA (gl_of hg) (o.free _ (by decide +kernel)) (pa_cons he (pa_cons he' pa_nil (star_cons hs')) (star_cons hs)) (star_cons hs) (star_all (xs := [x']) (by show (notStar x' && true) = true; rw [hs']; rfl) pos)).imp fun σ H R q => by
  refine LG.bind q fun v H1 F1 α1 ρ d S1 w1 er1 r1 p1 => LG.at w1 er1 (Po.bindk p1 fun v' H2 F2 α2 d' S2 o2 w2 r2 p2 => ?_)
  obtain ⟨F3, p, S3, o3, w3, r3, _, p3⟩ := Po.frz w2 (DR.mono o2 r1) p2
  obtain ⟨F4, q, S4, o4, w4, r4, _, p4⟩ := Po.frz w3 (DR.mono o3 r2) p3
  have r3 := r3.mono o4.same
  cases e1 : zipK p q with
  | none => simp only [e1] at p4; exact p4.elim
  | some ps =>
    simp only [e1] at p4
    unfold zipK at e1
    split at e1
    · cases e1
      simp only [Rp] at r3 r4
      obtain ⟨a, xs, rfl, h1, h2, h3⟩ := r3
      obtain ⟨b, ys, rfl, h1', h2', h3'⟩ := r4
      exact ⟨a, b, xs, ys, rfl, .inl ⟨SqL.of (w4.sub _ _ h1), SqL.of (w4.sub _ _ h1'), p4 _ _ F4 _ .refl w4 (Itz_ok h1 h1' h2 h3 h3')⟩⟩
    · cases e1
      simp only [Rp] at r3 r4
      obtain ⟨a, xs, rfl, h1, h2, h3⟩ := r3
      obtain ⟨b, ys, rfl, h1', h2', h3'⟩ := r4
      exact ⟨a, b, xs, ys, rfl, .inr ⟨SqT.up w4.sub h1, SqT.up w4.sub h1', p4 _ _ F4 _ .refl w4 (ItzT_ok h1 h1' h2 h3 h3')⟩⟩
    · cases e1
theorem Vw.int_ {K : PySem.W.Frag} {H F : Hp} {j : Int} {v : V} (h : Vw K H F (.int j) v) : v = .int j := by simpa only [Vw, Rp] using h
theorem Vws.two {K : PySem.W.Frag} {H F : Hp} {p q : P} {vs : List V} (h : Vws K H F [p, q] vs) : ∃ v u, vs = [v, u] ∧ Vw K H F p v ∧ Vw K H F q u := by
  cases vs with
  | nil => exact h.elim
  | cons v r =>
    obtain ⟨u, rfl, h2⟩ := Vws.one h.2
    exact ⟨v, u, rfl, h.1, h2⟩
theorem peeks_len {S : Store} : ∀ {ds : List D} {ps : List P}, peeks S ds = some ps → ps.length = ds.length
  | [], ps, h => by cases h; rfl
  | d :: ds, ps, h => by
    unfold peeks at h
    cases h1 : peek S d with
    | none => simp only [h1] at h; cases h
    | some p =>
      cases h2 : peeks S ds with
      | none => simp only [h1, h2] at h; cases h
      | some qs =>
        simp only [h1, h2] at h
        cases h
        simp [peeks_len h2]
theorem len2 {α : Type} : ∀ {l : List α}, l.length = 2 → ∃ a b, l = [a, b]
  | [a, b], _ => ⟨a, b, rfl⟩
theorem pi_rng_ (o : XOk g z W k N X) {es : List IE} {tg : Expr} {xs : List Expr} {p pos : Pos} (hg : glB X.env.scope "range" = true) (hs : plains xs = true) (hl : es.length = 1 ∨ es.length = 2) (hle : es.length = xs.length) (ha : PA X xs (LDs g z W k X es)) :
    PI X tg (.Call (.Name "range" p) xs [] pos) (LI g z W k X (.rng es)) := by
  have hf := o.free "range" (by decide +kernel)
  have core : ∀ {σ H R}, LI g z W k X (.rng es) σ H R → LDs g z W k X es σ H fun vs H1 => ∃ F1 α1 S1 qs ps, qs.length = es.length ∧ Wd X.K H1 F1 α1 S1 ∧ Vws X.K H1 F1 qs vs ∧ rngP qs = some ps ∧ ∀ J, RI X.K H1 F1 α1 ps J → R J H1 := fun {σ H R} q => by
    obtain ⟨F, α, ρ, S, w, er, p⟩ := q
    refine ⟨F, α, ρ, S, w, er, Po.bindq p fun v H1 F1 α1 d S1 he o1 w1 r1 p1 => ?_⟩
    cases e1 : peeks S1 d with
    | none => simp only [e1, Option.bind_none] at p1; exact p1.elim
    | some qs =>
      simp only [e1, Option.bind_some] at p1
      cases e2 : rngP qs with
      | none => simp only [e2] at p1; exact p1.elim
      | some ps =>
        simp only [e2] at p1
        exact ⟨F1, α1, S1, qs, ps, by rw [peeks_len e1, evDs_len he], w1, DRs.vws w1 r1 e1, e2, fun J h => p1 J H1 F1 α1 .refl w1 h⟩
  have up : ∀ {i j : Int} {H F α}, (decide (-(2 ^ 62) ≤ i) && decide (i < 2 ^ 62) && decide (-(2 ^ 62) ≤ j) && decide (j < 2 ^ 62) && decide ((j - i).toNat ≤ lim)) = true → (-(2 ^ 62) ≤ i ∧ i < 2 ^ 62 ∧ -(2 ^ 62) ≤ j ∧ j < 2 ^ 62) ∧ RI X.K H F α ((List.range (j - i).toNat).map fun (n : Nat) => P.int (i + (n : Int))) (Itr i (j - i).toNat) := fun {i j H F α} h => by
    simp only [Bool.and_eq_true, decide_eq_true_eq] at h
    obtain ⟨⟨⟨⟨h1, h2⟩, h3⟩, h4⟩, h5⟩ := h
    exact ⟨⟨h1, h2, h3, h4⟩, Itr_ok h5⟩
  rcases hl with hl | hl
  · obtain ⟨e, rfl⟩ := List.length_eq_one_iff.mp hl
    obtain ⟨x, rfl⟩ := List.length_eq_one_iff.mp (hle.symm.trans hl)
    obtain ⟨hs1, _⟩ := ba2 (show (notStar x && plains []) = true from hs)
    refine (pi_range1 (gl_of hg) hf ha (star_cons hs1)).imp fun σ H R q => ?_
    obtain ⟨F, α, ρ, S, w, er, po⟩ := core q
    refine ⟨F, α, ρ, S, w, er, po.mono fun vs H1 ⟨F1, α1, S1, qs, ps, hq, w1, vw, e2, fin⟩ => ?_⟩
    unfold rngP at e2
    split at e2
    · rename_i j
      split at e2
      · rename_i hj
        cases e2
        simp only [Bool.and_eq_true, decide_eq_true_eq] at hj
        obtain ⟨v, rfl, vv⟩ := vw.one
        cases vv.int_
        refine ⟨j, rfl, hj.1, by have := hj.2; unfold lim at this; omega, fin _ ?_⟩
        have hr := Itr_ok (K := X.K) (H := H1) (F := F1) (α := α1) (lo := 0) (n := j.toNat) (by have := hj.2; unfold lim at *; omega)
        have e : (fun (m : Nat) => P.int (0 + (m : Int))) = fun (m : Nat) => P.int (m : Int) := by
          funext m
          rw [Int.zero_add]
        rw [e] at hr
        exact hr
      · cases e2
    · cases hq
    · cases e2
  · obtain ⟨e, e', rfl⟩ := len2 hl
    obtain ⟨x, y, rfl⟩ := len2 (hle.symm.trans hl)
    obtain ⟨hs1, hs2⟩ := ba2 (show (notStar x && plains [y]) = true from hs)
    obtain ⟨hs2, _⟩ := ba2 (show (notStar y && plains []) = true from hs2)
    refine (pi_range2 (gl_of hg) hf ha (by rw [star_cons hs1, star_cons hs2]; rfl) (star_cons hs2)).imp fun σ H R q => ?_
    obtain ⟨F, α, ρ, S, w, er, po⟩ := core q
    refine ⟨F, α, ρ, S, w, er, po.mono fun vs H1 ⟨F1, α1, S1, qs, ps, hq, w1, vw, e2, fin⟩ => ?_⟩
    unfold rngP at e2
    split at e2
    · cases hq
    · rename_i i j
      split at e2
      · rename_i hj
        cases e2
        obtain ⟨v, u, rfl, vv, vv'⟩ := vw.two
        cases vv.int_
        cases vv'.int_
        obtain ⟨h1, h2⟩ := up (H := H1) (F := F1) (α := α1) hj
        exact ⟨i, j, rfl, h1, fin _ h2⟩
      · cases e2
    · cases e2
/-! ### comprehensions -/
theorem wipe_none {σ : L2.St} {j : Nat} (h : j < σ.length) : ∀ {vs : List Nat}, j ∈ vs → (L2.wipe σ vs)[j]? = some none
  | v :: vs, hm => by
    unfold L2.wipe
    by_cases hv : v = j
    · subst hv
      rw [List.getElem?_set_self (by rw [wipe_length]; exact h)]
    · rw [List.getElem?_set_ne hv]
      exact wipe_none h (by
        rcases List.mem_cons.mp hm with e | e
        · exact absurd e.symm hv
        · exact e)
theorem wipe_twice {σ : L2.St} {vs : List Nat} : L2.wipe (L2.wipe σ vs) vs = L2.wipe σ vs := by
  apply List.ext_getElem?
  intro j
  by_cases hj : j ∈ vs
  · by_cases hl : j < σ.length
    · rw [wipe_none (by rw [wipe_length]; exact hl) hj, wipe_none hl hj]
    · rw [List.getElem?_eq_none (by rw [wipe_length, wipe_length]; omega), List.getElem?_eq_none (by rw [wipe_length]; omega)]
  · rw [wipe_out hj]
theorem walk_gen {J : It} {n : Nat} {G : Hp → Prop} {Y : Nat → Hp → V → Hp → Prop} {Qd : Hp → Prop} {H0 : Hp} (w : Walk J n G Y) (B : V → Hp → (Hp → Prop) → Prop) (Pv : Nat → Hp → Prop) (h0 : Pv 0 H0) (hG : ∀ i H, i ≤ n → Pv i H → G H)
    (hs : ∀ i x H H', i < n → Pv i H → Y i H x H' → B x H' (Pv (i + 1))) (hd : ∀ H, Pv n H → Qd H) :
    ∃ W : Nat → Nat → Hp → Prop, (∃ m, W 0 m H0) ∧ ∀ i m H, W i m H → (J.stop i H ∧ Qd H) ∨ (J.go i H ∧ ∃ Nx : Hp → Prop, (∀ H', Nx H' → ∃ m', m' < m ∧ W (i + 1) m' H') ∧ ∀ x H', J.yld i H x H' → B x H' Nx) := by
  refine ⟨fun i m H => i + m = n ∧ Pv i H, ⟨n, Nat.zero_add n, h0⟩, fun i m H ⟨e, p⟩ => ?_⟩
  have q := hG i H (by omega) p
  cases m with
  | zero =>
    have e : i = n := e
    subst e
    exact .inl ⟨w.stops H q, hd H p⟩
  | succ m => exact .inr ⟨w.goes i H (by omega) q, Pv (i + 1), fun H' p' => ⟨m, Nat.lt_succ_self m, by omega, p'⟩, fun x H' y => hs i x H H' (by omega) p (w.yields i H x H' (by omega) q y)⟩
/-- what a comprehension's list holds so far -/
def LcI (K : PySem.W.Frag) (L : Addr) (T : Hp) (F1 : Hp) (l1 : List Addr) (done : List P) (S : Store) (H : Hp) : Prop :=
  ∃ F l acc, On F1 ⟨l1, T⟩ F ⟨l, T⟩ ∧ Wd K H F (Al.hold ⟨l, T⟩ L (.lst acc)) S ∧ Rps K F done acc
theorem LcI.base {K : PySem.W.Frag} {L : Addr} {T F1 F2 : Hp} {l1 l2 : List Addr} {done : List P} {S : Store} {H : Hp} (o : On F1 ⟨l1, T⟩ F2 ⟨l2, T⟩) (i : LcI K L T F2 l2 done S H) : LcI K L T F1 l1 done S H := by
  obtain ⟨F, l, acc, o2, w, r⟩ := i
  exact ⟨F, l, acc, o.trans o2, w, r⟩
abbrev noW : WX := fun _ _ _ _ => False
/-- an item is computed and appended -/
theorem elt_ok {L : Addr} {T F1 : Hp} {l1 : List Addr} {done : List P} {S S1 S2 : Store} {H : Hp} {e : IE} {ρ : Env} {σ : L2.St} {d : D} {q : P} {Nx : Hp → Prop} (i : LcI X.K L T F1 l1 done S H) (er : EnvR X.K F1 ⟨l1, T⟩ ρ σ)
    (h1 : ev g k e ρ S = .ok d S1) (h2 : Pk.frz d S1 = .ok q S2) (hl : done.length < lim) (hN : ∀ H5, LcI X.K L T F1 l1 (done ++ [q]) S2 H5 → Nx H5) :
    LD g z noW k X e σ H fun y H4 => ∃ acc, H4 L = some (.lst acc) ∧ acc.length < sizeLine ∧ Nx (L2.upd H4 L (.lst (acc ++ [y]))) := by
  obtain ⟨F, l, acc, o, w, r⟩ := i
  refine ⟨F, _, ρ, S, w, show EnvR X.K F ⟨l, T⟩ ρ σ from er.mono o, ?_⟩
  rw [h1]
  intro y H4 F4 α4 o4 w4 r4
  obtain ⟨o5, e5⟩ := o4.held
  obtain ⟨F6, q', S', o6, w6, r6, e6, _⟩ := Po.frz (z := z) (W := noW) (σ := σ) (Rel := REq) (kk := fun p S => R.ok p S) (Q := fun (_ : P) _ => True) w4 r4 (by
    rw [h2]
    exact fun _ _ _ _ _ _ _ => trivial)
  rw [h2] at e6
  cases e6
  rw [e5] at w6
  obtain ⟨g1, g2, g3⟩ := w6.heldD
  have hacc : acc.length = done.length := r.length
  refine ⟨acc, g1, by rw [hacc, lim_eq]; exact hl, hN _ ⟨F6, α4.l, acc ++ [y], o.trans (o5.trans ⟨o6.same, List.prefix_refl _, rfl⟩), w6.hset, ?_⟩⟩
  exact (r.mono (o5.same.trans o6.same)).append (Rps.cons r6 Rps.nil)
/-- a turn's block -/
def lcBody (g : Gs) (k : Nat) (elt : IE) (tg : Tg) (cond : Option IE) (wp : List Nat) (ρ : Env) : P → Store → R (Option P) := fun p S => match tgSet tg p (wipeE ρ wp) with
  | none => .stk
  | some ρ1 => (evC g.gv (callK g.gv g.G k) cond ρ1 S).bind fun b S1 => if b then (evE g.gv (callK g.gv g.G k) elt ρ1 S1).bind fun d S2 => (Pk.frz d S2).bind fun q S3 => .ok (some q) S3 else .ok none S1
theorem R.ok_bind {α β : Type} {r : R α} {f : α → Store → R β} {b : β} {S : Store} (h : r.bind f = .ok b S) : ∃ a S1, r = .ok a S1 ∧ f a S1 = .ok b S := by
  cases r with
  | ok a S1 => exact ⟨a, S1, rfl, h⟩
  | exc x S1 => cases h
  | stk => cases h
theorem R.noX_ok {α : Type} {r : R α} {a : α} {S : Store} (h : r.noX = .ok a S) : r = .ok a S := by
  cases r with
  | ok a S1 => exact h
  | exc x S1 => cases h
  | stk => cases h
theorem lcLoop_noX {f : P → Store → R (Option P)} : ∀ {ps : List P} {S : Store}, lcLoop f ps S = .stk ∨ ∃ r S', lcLoop f ps S = .ok r S'
  | [], S => .inr ⟨[], S, rfl⟩
  | p :: ps, S => by
    unfold lcLoop
    cases h1 : f p S with
    | ok o S1 =>
      rcases lcLoop_noX (f := f) (ps := ps) (S := S1) with h2 | ⟨r, S2, h2⟩
      · exact .inl (by simp only [R.noX, R.bind, h2])
      · exact .inr ⟨_, _, by simp only [R.noX, R.bind, h2]; rfl⟩
    | exc x S1 => exact .inl rfl
    | stk => exact .inl rfl
theorem lcLoop2_noX {f : P → Store → R (List P)} : ∀ {ps : List P} {S : Store}, lcLoop2 f ps S = .stk ∨ ∃ r S', lcLoop2 f ps S = .ok r S'
  | [], S => .inr ⟨[], S, rfl⟩
  | p :: ps, S => by
    unfold lcLoop2
    cases h1 : f p S with
    | ok o S1 =>
      rcases lcLoop2_noX (f := f) (ps := ps) (S := S1) with h2 | ⟨r, S2, h2⟩
      · exact .inl (by simp only [R.noX, R.bind, h2])
      · exact .inr ⟨_, _, by simp only [R.noX, R.bind, h2]; rfl⟩
    | exc x S1 => exact .inl rfl
    | stk => exact .inl rfl
theorem lcLoop_cons {f : P → Store → R (Option P)} {p : P} {ps r : List P} {S S' : Store} (h : lcLoop f (p :: ps) S = .ok r S') : ∃ o S1 r', f p S = .ok o S1 ∧ lcLoop f ps S1 = .ok r' S' ∧ r = o.toList ++ r' := by
  unfold lcLoop at h
  obtain ⟨o, S1, h1, h⟩ := R.ok_bind h
  obtain ⟨r', S2, h2, h⟩ := R.ok_bind h
  cases h
  exact ⟨o, S1, r', R.noX_ok h1, h2, by cases o <;> rfl⟩
theorem lcLoop2_cons {f : P → Store → R (List P)} {p : P} {ps r : List P} {S S' : Store} (h : lcLoop2 f (p :: ps) S = .ok r S') : ∃ o S1 r', f p S = .ok o S1 ∧ lcLoop2 f ps S1 = .ok r' S' ∧ r = o ++ r' := by
  unfold lcLoop2 at h
  obtain ⟨o, S1, h1, h⟩ := R.ok_bind h
  obtain ⟨r', S2, h2, h⟩ := R.ok_bind h
  cases h
  exact ⟨o, S1, r', R.noX_ok h1, h2, rfl⟩
theorem lcLoop_len {f : P → Store → R (Option P)} : ∀ {ps r : List P} {S S' : Store}, lcLoop f ps S = .ok r S' → r.length ≤ ps.length
  | [], r, S, S', h => by cases h; exact Nat.le_refl _
  | p :: ps, r, S, S', h => by
    obtain ⟨o, S1, r', _, h2, rfl⟩ := lcLoop_cons h
    have := lcLoop_len h2
    have ho : o.toList.length ≤ 1 := by cases o <;> simp
    simp only [List.length_append, List.length_cons]
    omega
theorem lcB_some {elt : IE} {tg : Tg} {cond : Option IE} {wp : List Nat} {ρ : Env} {p : P} {S S' : Store} {o : Option P} (h : lcBody g k elt tg cond wp ρ p S = .ok o S') : ∃ ρ1 b S1, tgSet tg p (wipeE ρ wp) = some ρ1 ∧ evC g.gv (callK g.gv g.G k) cond ρ1 S = .ok b S1 ∧
    ((b = true ∧ ∃ d S2 q, ev g k elt ρ1 S1 = .ok d S2 ∧ Pk.frz d S2 = .ok q S' ∧ o = some q) ∨ (b = false ∧ o = none ∧ S1 = S')) := by
  unfold lcBody at h
  cases h1 : tgSet tg p (wipeE ρ wp) with
  | none => simp only [h1] at h; cases h
  | some ρ1 =>
    simp only [h1] at h
    obtain ⟨b, S1, h2, h⟩ := R.ok_bind h
    refine ⟨ρ1, b, S1, rfl, h2, ?_⟩
    cases b with
    | true =>
      simp only [if_true] at h
      obtain ⟨d, S2, h3, h⟩ := R.ok_bind h
      obtain ⟨q, S3, h4, h⟩ := R.ok_bind h
      cases h
      exact .inl ⟨rfl, d, S2, q, h3, h4, rfl⟩
    | false =>
      simp only [Bool.false_eq_true, if_false] at h
      cases h
      exact .inr ⟨rfl, rfl, rfl⟩
/-- one turn: the target, the test, the item -/
theorem turn_ok {L : Addr} {T F1 : Hp} {l1 : List Addr} {done : List P} {S S' : Store} {H : Hp} {elt : IE} {tg : Tg} {cond : Option IE} {wp : List Nat} {ρ : Env} {σ : L2.St} {p : P} {x : V} {o : Option P} {Nx : Hp → Prop}
    (tok : TgOk X.K tg (gOf X.K tg)) (hw : ∀ i ∈ tgSlots tg, i ∈ wp) (i : LcI X.K L T F1 l1 done S H) (rp : Rp X.K F1 p x) (er : EnvR X.K F1 ⟨l1, T⟩ ρ σ) (h : lcBody g k elt tg cond wp ρ p S = .ok o S') (hl : (done ++ o.toList).length ≤ lim)
    (hN : ∀ H5, LcI X.K L T F1 l1 (done ++ o.toList) S' H5 → Nx H5) :
    gOf X.K tg x (L2.wipe σ wp) H fun σ2 H2 => L2.wipe σ2 wp = L2.wipe σ wp ∧ LC g z noW k X cond σ2 H2 fun b H3 => if b = true then LD g z noW k X elt σ2 H3 fun y H4 => ∃ acc, H4 L = some (.lst acc) ∧ acc.length < sizeLine ∧ Nx (L2.upd H4 L (.lst (acc ++ [y]))) else Nx H3 := by
  obtain ⟨ρ1, b, S1, e1, e2, e3⟩ := lcB_some h
  obtain ⟨F, l, acc, o1, w, r⟩ := i
  refine tok p x _ H F _ S (wipeE ρ wp) ρ1 _ w ((er.mono o1).wipe wp) (rp.mono o1.same) e1 fun σ' er' hv => ⟨by rw [hv wp hw, wipe_twice], ?_⟩
  refine ⟨F, _, ρ1, S, w, er', ?_⟩
  rw [e2]
  intro b' H3 F3 α3 o3 w3 rb
  cases rb
  obtain ⟨o4, e4⟩ := o3.held
  rw [e4] at w3
  have i3 : LcI X.K L T F1 l1 done S1 H3 := ⟨F3, α3.l, acc, o1.trans o4, w3, r.mono o4.same⟩
  rcases e3 with ⟨rfl, d, S2, q, h1, h2, rfl⟩ | ⟨rfl, rfl, rfl⟩
  · rw [if_pos rfl]
    have i3' : LcI X.K L T F3 α3.l done S1 H3 := ⟨F3, α3.l, acc, .refl, w3, r.mono o4.same⟩
    refine elt_ok (F1 := F3) (l1 := α3.l) i3' (er'.mono o4) h1 h2 (by simp at hl; omega) fun H5 i5 => hN H5 (i5.base (o1.trans o4))
  · rw [if_neg Bool.false_ne_true]
    refine hN H3 ?_
    simpa using i3
theorem own_map (N : List Str) (wp : List Nat) : (ownOf N wp).map (·.2) = wp := by
  unfold ownOf
  rw [List.map_map]
  exact List.map_id' wp
/-- a list comprehension of one clause -/
theorem lc_ask {elt : IE} {tg : Tg} {it : IT} {cond : Option IE} {wp : List Nat} (tok : TgOk X.K tg (gOf X.K tg)) (hw : ∀ i ∈ tgSlots tg, i ∈ wp) {σ : L2.St} {H : Hp} {Q : VK} (q : LG X.K z W (RF X.K) (ev g k (.lc elt tg it cond wp)) σ H Q) :
    tLc (LI g z W k X it) (gOf X.K tg) (LC g z noW k X cond) (LD g z noW k X elt) wp σ H Q := by
  refine LG.bind q fun J H1 F1 α1 ρ items S1 w1 er1 r1 p1 L hL => ?_
  obtain ⟨hlen, G, Y, wk, hG, hY⟩ := r1
  have p1 : Po X.K z W σ F1 α1 (RF X.K) ((lcLoop (lcBody g k elt tg cond wp ρ) items S1).bind fun ps S2 => .ok (.val (.lst ps)) S2) Q := p1
  rcases lcLoop_noX (f := lcBody g k elt tg cond wp ρ) (ps := items) (S := S1) with e | ⟨ps, S2, e⟩
  · rw [e] at p1; exact p1.elim
  rw [e] at p1
  have hT : α1.T L = none := (Al.nin (w1.nin hL)).2
  have hps : ps.length ≤ lim := by have := lcLoop_len e; rw [lim_eq] at hlen; omega
  have w0 : Wd X.K (L2.upd H1 L (.lst [])) F1 (Al.hold ⟨α1.l, α1.T⟩ L (.lst [])) S1 := (w1.new hL).hold upd_same (w1.free hL) (Al.nin (w1.nin hL)).1
  refine walk_gen wk (fun x H' Nx => gOf X.K tg x (L2.wipe σ wp) H' fun σ2 H2 => L2.wipe σ2 wp = L2.wipe σ wp ∧ LC g z noW k X cond σ2 H2 fun b H3 => if b = true then LD g z noW k X elt σ2 H3 fun y H4 => ∃ acc, H4 L = some (.lst acc) ∧ acc.length < sizeLine ∧ Nx (L2.upd H4 L (.lst (acc ++ [y]))) else Nx H3)
    (fun i H => ∃ done rest S, done ++ rest = ps ∧ lcLoop (lcBody g k elt tg cond wp ρ) (items.drop i) S = .ok rest S2 ∧ LcI X.K L α1.T F1 α1.l done S H) ?_ ?_ ?_ ?_
  · exact ⟨[], ps, S1, rfl, e, F1, α1.l, [], .refl, w0, Rps.nil⟩
  · rintro i H _ ⟨done, rest, S, _, _, F, l, acc, o, w, _⟩
    exact hG H F _ S o.same w
  · rintro i x H H' hi ⟨done, rest, S, hd, hr, F, l, acc, o, w, r⟩ y
    rw [List.drop_eq_getElem_cons hi] at hr
    obtain ⟨o', S', r', h1, h2, rfl⟩ := lcLoop_cons hr
    obtain ⟨F2, o2, w2, rp, hsame⟩ := hY i x items[i] H H' F _ S o.same w (List.getElem?_eq_getElem hi) y
    have o2' : On F ⟨l, α1.T⟩ F2 ⟨l, α1.T⟩ := ⟨o2.same, List.prefix_refl _, rfl⟩
    have i2 : LcI X.K L α1.T F2 l done S H' := ⟨F2, l, acc, .refl, w2, r.mono o2.same⟩
    refine turn_ok tok hw i2 rp (er1.mono (o.trans o2')) h1 ?_ fun H5 i5 => ⟨done ++ o'.toList, r', S', by rw [List.append_assoc]; exact hd, h2, i5.base (o.trans o2')⟩
    have : (done ++ o'.toList ++ r').length = ps.length := by rw [List.append_assoc, hd]
    rw [List.length_append] at this
    omega
  · rintro H ⟨done, rest, S, hd, hr, F, l, acc, o, w, r⟩
    rw [List.drop_length] at hr
    cases hr
    rw [List.append_nil] at hd
    subst hd
    obtain ⟨g1, g2, g3⟩ := w.heldD
    refine p1 (.ref L) H F ⟨l, α1.T⟩ o (w.unhold hT) ⟨L, acc, rfl, g1, g2, Al.nin_of g3 hT, ?_, r⟩
    rw [r.length, lim_eq]
    exact hps
def lcBody2 (g : Gs) (k : Nat) (elt : IE) (tg : Tg) (cond : Option IE) (tg1 : Tg) (it1 : IT) (cond1 : Option IE) (wp wp1 : List Nat) (ρ : Env) : P → Store → R (List P) := fun p S => match tgSet tg p (wipeE ρ wp) with
  | none => .stk
  | some ρ1 => (evC g.gv (callK g.gv g.G k) cond ρ1 S).bind fun b S1 => if b then (evI g.gv (callK g.gv g.G k) it1 ρ1 S1).bind fun items1 S2 => lcLoop (lcBody g k elt tg1 cond1 wp1 ρ1) items1 S2 else .ok [] S1
theorem lcB2_some {elt : IE} {tg tg1 : Tg} {it1 : IT} {cond cond1 : Option IE} {wp wp1 : List Nat} {ρ : Env} {p : P} {S S' : Store} {o : List P} (h : lcBody2 g k elt tg cond tg1 it1 cond1 wp wp1 ρ p S = .ok o S') : ∃ ρ1 b S1, tgSet tg p (wipeE ρ wp) = some ρ1 ∧ evC g.gv (callK g.gv g.G k) cond ρ1 S = .ok b S1 ∧
    ((b = true ∧ ∃ items1 S2, evI g.gv (callK g.gv g.G k) it1 ρ1 S1 = .ok items1 S2 ∧ lcLoop (lcBody g k elt tg1 cond1 wp1 ρ1) items1 S2 = .ok o S') ∨ (b = false ∧ o = [] ∧ S1 = S')) := by
  unfold lcBody2 at h
  cases h1 : tgSet tg p (wipeE ρ wp) with
  | none => simp only [h1] at h; cases h
  | some ρ1 =>
    simp only [h1] at h
    obtain ⟨b, S1, h2, h⟩ := R.ok_bind h
    refine ⟨ρ1, b, S1, rfl, h2, ?_⟩
    cases b with
    | true =>
      simp only [if_true] at h
      obtain ⟨d, S2, h3, h⟩ := R.ok_bind h
      exact .inl ⟨rfl, d, S2, h3, h⟩
    | false =>
      simp only [Bool.false_eq_true, if_false] at h
      cases h
      exact .inr ⟨rfl, rfl, rfl⟩
/-- a list comprehension of two clauses -/
theorem lc2_ask {elt : IE} {tg tg1 : Tg} {it it1 : IT} {cond cond1 : Option IE} {wp wp1 : List Nat} (tok : TgOk X.K tg (gOf X.K tg)) (hw : ∀ i ∈ tgSlots tg, i ∈ wp) (tok1 : TgOk X.K tg1 (gOf X.K tg1)) (hw1 : ∀ i ∈ tgSlots tg1, i ∈ wp1) {σ : L2.St} {H : Hp} {Q : VK}
    (q : LG X.K z W (RF X.K) (ev g k (.lc2 elt tg it cond tg1 it1 cond1 wp wp1)) σ H Q) :
    tLc2 (LI g z W k X it) (gOf X.K tg) (LC g z noW k X cond) (LI g z noW k X it1) (gOf X.K tg1) (LC g z noW k X cond1) (LD g z noW k X elt) wp wp1 σ H Q := by
  refine LG.bind q fun J H1 F1 α1 ρ items S1 w1 er1 r1 p1 L hL => ?_
  obtain ⟨hlen, G, Y, wk, hG, hY⟩ := r1
  have p1 : Po X.K z W σ F1 α1 (RF X.K) ((lcLoop2 (lcBody2 g k elt tg cond tg1 it1 cond1 wp wp1 ρ) items S1).bind fun ps S2 => if ps.length ≤ lim then .ok (.val (.lst ps)) S2 else .stk) Q := p1
  rcases lcLoop2_noX (f := lcBody2 g k elt tg cond tg1 it1 cond1 wp wp1 ρ) (ps := items) (S := S1) with e | ⟨ps, S2, e⟩
  · rw [e] at p1; exact p1.elim
  rw [e] at p1
  have p1 : Po X.K z W σ F1 α1 (RF X.K) (if ps.length ≤ lim then .ok (.val (.lst ps)) S2 else .stk) Q := p1
  split at p1
  case isFalse => exact p1.elim
  rename_i hps
  have hT : α1.T L = none := (Al.nin (w1.nin hL)).2
  have w0 : Wd X.K (L2.upd H1 L (.lst [])) F1 (Al.hold ⟨α1.l, α1.T⟩ L (.lst [])) S1 := (w1.new hL).hold upd_same (w1.free hL) (Al.nin (w1.nin hL)).1
  refine walk_gen wk (fun x H' Nx => gOf X.K tg x (L2.wipe σ wp) H' fun σ2 H2 => L2.wipe σ2 wp = L2.wipe σ wp ∧ LC g z noW k X cond σ2 H2 fun b H3 => if b = true then LI g z noW k X it1 σ2 H3 fun J1 H4 => ∃ W1 : Nat → Nat → Hp → Prop, (∃ m, W1 0 m H4) ∧ ∀ j k' H, W1 j k' H →
      (J1.stop j H ∧ Nx H) ∨ (J1.go j H ∧ ∃ Nx1 : Hp → Prop, (∀ H', Nx1 H' → ∃ m', m' < k' ∧ W1 (j + 1) m' H') ∧ ∀ x H', J1.yld j H x H' → gOf X.K tg1 x (L2.wipe σ2 wp1) H' fun σ3 H5 => L2.wipe σ3 wp1 = L2.wipe σ2 wp1 ∧ LC g z noW k X cond1 σ3 H5 fun b H6 =>
        if b = true then LD g z noW k X elt σ3 H6 fun y H7 => ∃ acc, H7 L = some (.lst acc) ∧ acc.length < sizeLine ∧ Nx1 (L2.upd H7 L (.lst (acc ++ [y]))) else Nx1 H6)
    else Nx H3)
    (fun i H => ∃ done rest S, done ++ rest = ps ∧ lcLoop2 (lcBody2 g k elt tg cond tg1 it1 cond1 wp wp1 ρ) (items.drop i) S = .ok rest S2 ∧ LcI X.K L α1.T F1 α1.l done S H) ?_ ?_ ?_ ?_
  · exact ⟨[], ps, S1, rfl, e, F1, α1.l, [], .refl, w0, Rps.nil⟩
  · rintro i H _ ⟨done, rest, S, _, _, F, l, acc, o, w, _⟩
    exact hG H F _ S o.same w
  · rintro i x H H' hi ⟨done, rest, S, hd, hr, F, l, acc, o, w, r⟩ y
    rw [List.drop_eq_getElem_cons hi] at hr
    obtain ⟨o', S', r', h1, h2, rfl⟩ := lcLoop2_cons hr
    obtain ⟨F2, o2, w2, rp, hsame⟩ := hY i x items[i] H H' F _ S o.same w (List.getElem?_eq_getElem hi) y
    have o2' : On F ⟨l, α1.T⟩ F2 ⟨l, α1.T⟩ := ⟨o2.same, List.prefix_refl _, rfl⟩
    have hlen2 : (done ++ o').length ≤ lim := by
      have : (done ++ o' ++ r').length = ps.length := by rw [List.append_assoc, hd]
      rw [List.length_append] at this
      omega
    have hN : ∀ H5, LcI X.K L α1.T F2 l (done ++ o') S' H5 → ∃ done rest S, done ++ rest = ps ∧ lcLoop2 (lcBody2 g k elt tg cond tg1 it1 cond1 wp wp1 ρ) (items.drop (i + 1)) S = .ok rest S2 ∧ LcI X.K L α1.T F1 α1.l done S H5 := fun H5 i5 =>
      ⟨done ++ o', r', S', by rw [List.append_assoc]; exact hd, h2, i5.base (o.trans o2')⟩
    obtain ⟨ρ1, b, S3, e1, e2, e3⟩ := lcB2_some h1
    refine tok _ x _ H' F2 _ S (wipeE ρ wp) ρ1 _ w2 ((show EnvR X.K F2 _ ρ σ from er1.mono (o.trans o2')).wipe wp) rp e1 fun σ' er' hv => ⟨by rw [hv wp hw, wipe_twice], ?_⟩
    refine ⟨F2, _, ρ1, S, w2, er', ?_⟩
    rw [e2]
    intro b' H3 F3 α3 o3 w3 rb
    cases rb
    obtain ⟨o4, e4⟩ := o3.held
    rw [e4] at w3
    rcases e3 with ⟨rfl, items1, S4, h3, h4⟩ | ⟨rfl, rfl, rfl⟩
    · rw [if_pos rfl]
      refine ⟨F3, _, ρ1, S3, w3, show EnvR X.K F3 ⟨α3.l, α1.T⟩ ρ1 σ' from er'.mono o4, ?_⟩
      rw [h3]
      intro J1 H4 F4 α4 o5 w4 r4
      obtain ⟨o6, e6⟩ := o5.held
      rw [e6] at w4
      obtain ⟨hlen1, G1, Y1, wk1, hG1, hY1⟩ := r4
      have er4 : EnvR X.K F4 ⟨α4.l, α1.T⟩ ρ1 σ' := (show EnvR X.K F3 ⟨α3.l, α1.T⟩ ρ1 σ' from er'.mono o4).mono o6
      have r5 : Rps X.K F4 done acc := r.mono (o2.same.trans (o4.same.trans o6.same))
      refine walk_gen wk1 (fun x H' Nx1 => gOf X.K tg1 x (L2.wipe σ' wp1) H' fun σ3 H5 => L2.wipe σ3 wp1 = L2.wipe σ' wp1 ∧ LC g z noW k X cond1 σ3 H5 fun b H6 =>
        if b = true then LD g z noW k X elt σ3 H6 fun y H7 => ∃ acc, H7 L = some (.lst acc) ∧ acc.length < sizeLine ∧ Nx1 (L2.upd H7 L (.lst (acc ++ [y]))) else Nx1 H6)
        (fun j H => ∃ done1 rest1 S, done1 ++ rest1 = o' ∧ lcLoop (lcBody g k elt tg1 cond1 wp1 ρ1) (items1.drop j) S = .ok rest1 S' ∧ LcI X.K L α1.T F4 α4.l (done ++ done1) S H) ?_ ?_ ?_ ?_
      · exact ⟨[], o', S4, rfl, h4, F4, α4.l, acc, .refl, w4, by rw [List.append_nil]; exact r5⟩
      · rintro j H _ ⟨done1, rest1, S, _, _, F, l, acc, o, w, _⟩
        exact hG1 H F _ S o.same w
      · rintro j x1 H5 H5' hj ⟨done1, rest1, S5, hd1, hr1, F5, l5, acc5, o7, w5, r7⟩ y1
        rw [List.drop_eq_getElem_cons hj] at hr1
        obtain ⟨o8, S6, r8, g1, g2, rfl⟩ := lcLoop_cons hr1
        obtain ⟨F6, o9, w6, rp6, _⟩ := hY1 j x1 items1[j] H5 H5' F5 _ S5 o7.same w5 (List.getElem?_eq_getElem hj) y1
        have o9' : On F5 ⟨l5, α1.T⟩ F6 ⟨l5, α1.T⟩ := ⟨o9.same, List.prefix_refl _, rfl⟩
        have i2 : LcI X.K L α1.T F6 l5 (done ++ done1) S5 H5' := ⟨F6, l5, acc5, .refl, w6, r7.mono o9.same⟩
        refine turn_ok tok1 hw1 i2 rp6 (er4.mono (o7.trans o9')) g1 ?_ fun H7 i7 => ⟨done1 ++ o8.toList, r8, S6, by rw [List.append_assoc]; exact hd1, g2, ?_⟩
        · have : (done ++ (done1 ++ (o8.toList ++ r8))).length ≤ lim := by rw [hd1]; exact hlen2
          simp only [List.length_append] at this ⊢
          omega
        · rw [← List.append_assoc]
          exact i7.base (o7.trans o9')
      · rintro H5 ⟨done1, rest1, S5, hd1, hr1, i5⟩
        rw [List.drop_length] at hr1
        cases hr1
        rw [List.append_nil] at hd1
        subst hd1
        exact hN H5 (i5.base (o4.trans o6))
    · rw [if_neg Bool.false_ne_true]
      exact hN H3 ⟨F3, α3.l, acc, o4, w3, by rw [List.append_nil]; exact r.mono (o2.same.trans o4.same)⟩
  · rintro H ⟨done, rest, S, hd, hr, F, l, acc, o, w, r⟩
    rw [List.drop_length] at hr
    cases hr
    rw [List.append_nil] at hd
    subst hd
    obtain ⟨g1, g2, g3⟩ := w.heldD
    refine p1 (.ref L) H F ⟨l, α1.T⟩ o (w.unhold hT) ⟨L, acc, rfl, g1, g2, Al.nin_of g3 hT, ?_, r⟩
    rw [r.length, lim_eq]
    exact hps
end
end Pk

/-! Part 12: every expression that is checked does what the small language says -/
namespace Pk
open PySem PySem.Spec PyProof.Rows L2
section
variable {g : Gs} {z : Cz} {k : Nat} {N : List Str}
def AllT (g : Gs) (z : Cz) (W : WX) (k : Nat) (X : Cx) : List IE → List Expr → Prop
  | [], [] => True
  | e :: es, x :: xs => (PE X x (LE g z W k X e) ∧ PT X x (LT g z W k X e)) ∧ AllT g z W k X es xs
  | _, _ => False
theorem and_ok {W : WX} {X : Cx} {pos : Pos} : ∀ {es : List IE} {xs : List Expr}, AllT g z W k X es xs → es ≠ [] → PE X (.BoolOp .And xs pos) (LAnd g z W k X es) ∧ PW X (.BoolOp .And xs pos) (LG X.K z W REq (evB g k (evAnd g.gv (callK g.gv g.G k) es)))
  | [], _, _, h => absurd rfl h
  | [e], [x], h, _ => ⟨pe_and1_ (toD h.1.1), pw_and1_ h.1.2⟩
  | e :: e' :: es, x :: x' :: xs, h, _ => by
    obtain ⟨i1, i2⟩ := and_ok (pos := pos) h.2 (List.cons_ne_nil e' es)
    exact ⟨pe_and_ (toD h.1.1) i1, pw_and_ h.1.2 i2⟩
  | [_], _ :: _ :: _, h, _ => h.2.elim
  | _ :: _ :: _, [_], h, _ => h.2.elim
  | _ :: _, [], h, _ => h.elim
theorem or_ok {W : WX} {X : Cx} {pos : Pos} : ∀ {es : List IE} {xs : List Expr}, AllT g z W k X es xs → es ≠ [] → PE X (.BoolOp .Or xs pos) (LOr g z W k X es) ∧ PW X (.BoolOp .Or xs pos) (LG X.K z W REq (evB g k (evOr g.gv (callK g.gv g.G k) es)))
  | [], _, _, h => absurd rfl h
  | [e], [x], h, _ => ⟨pe_or1_ (toD h.1.1), pw_or1_ h.1.2⟩
  | e :: e' :: es, x :: x' :: xs, h, _ => by
    obtain ⟨i1, i2⟩ := or_ok (pos := pos) h.2 (List.cons_ne_nil e' es)
    exact ⟨pe_or_ (toD h.1.1) i1, pw_or_ h.1.2 i2⟩
  | [_], _ :: _ :: _, h, _ => h.2.elim
  | _ :: _ :: _, [_], h, _ => h.2.elim
  | _ :: _, [], h, _ => h.elim
theorem fromF {W : WX} {X : Cx} {e : IE} {x : Expr} (hf : fresh e = true) (h : PE X x (LE g z W k X e)) : PE X x (LG X.K z W (RF X.K) (ev g k e)) := h.imp fun σ H Q q => by
  have : Rl X.K e = RF X.K := by unfold Rl; rw [hf]; rfl
  unfold LE
  rw [this]
  exact q
/-- or, all new -/
theorem or_new {W : WX} {X : Cx} {pos : Pos} : ∀ {es : List IE} {xs : List Expr}, AllT g z W k X es xs → es ≠ [] → freshL es = true → PE X (.BoolOp .Or xs pos) (LG X.K z W (RF X.K) (evOr g.gv (callK g.gv g.G k) es))
  | [], _, _, h, _ => absurd rfl h
  | [e], [x], h, _, hf => by
    have hf := (ba2 (show (fresh e && freshL []) = true from hf)).1
    exact pe_one (fromF hf h.1.1)
  | e :: e' :: es, x :: x' :: xs, h, _, hf => by
    obtain ⟨f1, f2⟩ := ba2 (show (fresh e && freshL (e' :: es)) = true from hf)
    have i1 := or_new (pos := pos) h.2 (List.cons_ne_nil e' es) f2
    refine (pe_orT (fromF f1 h.1.1) i1).imp fun σ H Q q => ?_
    refine LG.bind q fun v H1 F1 α1 ρ d S1 w1 er1 r1 p1 => ?_
    cases e1 : (peek S1 d).bind Pk.truthy with
    | none => simp only [e1] at p1; exact p1.elim
    | some b =>
      have tr : TruV X.K v H1 b := by
        rw [Option.bind_eq_some_iff] at e1
        obtain ⟨p, q1, q2⟩ := e1
        exact tru_vw w1.sub (RF.vw w1 r1 q1) q2
      refine ⟨b, tr, ?_⟩
      simp only [e1] at p1
      cases b with
      | false => rw [if_neg Bool.false_ne_true]; exact LG.at w1 er1 p1
      | true => rw [if_pos rfl]; exact p1 _ H1 F1 α1 .refl w1 r1
  | [_], _ :: _ :: _, h, _, _ => h.2.elim
  | _ :: _ :: _, [_], h, _, _ => h.2.elim
  | _ :: _, [], h, _, _ => h.elim
/-- what is a plain test -/
theorem both {W : WX} {X : Cx} {e : IE} {x : Expr} (hx : plainT x = true) (h : PE X x (LE g z W k X e)) : PE X x (LE g z W k X e) ∧ (tstOk e = true → PT X x (LT g z W k X e)) := ⟨h, fun _ => pt_val_ (toD h) (true_plain hx)⟩
theorem chkDs_len {sc : Scope} : ∀ {es : List IE} {xs : List Expr}, chkDs g N sc es xs = true → es.length = xs.length ∧ plains xs = true
  | [], [], _ => ⟨rfl, rfl⟩
  | e :: es, x :: xs, h => by
    simp only [chkDs] at h
    obtain ⟨h1, h⟩ := ba2 h
    obtain ⟨h2, h⟩ := ba2 h
    obtain ⟨i1, i2⟩ := chkDs_len h
    exact ⟨by simp [i1], by show (notStar x && plains xs) = true; rw [h1, i2]; rfl⟩
  | [], _ :: _, h => by simp [chkDs] at h
  | _ :: _, [], h => by simp [chkDs] at h
theorem kw_len : ∀ {kwds : List Keyword} {ks : List Str}, kwNames kwds = ks.map some → (kwVals kwds).length = ks.length
  | [], [], _ => rfl
  | ⟨n, e, p⟩ :: kws, k :: ks, h => by
    simp only [kwNames, List.map_cons, List.cons.injEq] at h
    simp [kwVals, kw_len h.2]
  | [], _ :: _, h => by simp [kwNames] at h
  | ⟨_, _, _⟩ :: _, [], h => by simp [kwNames] at h
/-- all that is checked up to a size -/
structure AllOk (g : Gs) (z : Cz) (k : Nat) (N : List Str) (n : Nat) : Prop where
  e : ∀ (e : IE), sizeOf e < n → ∀ {W : WX} {X : Cx} (o : XOk g z W k N X) (sc : Scope) (x : Expr), X.env.scope = sc → chkE g N sc e x = true → PE X x (LE g z W k X e) ∧ (tstOk e = true → PT X x (LT g z W k X e))
  ts : ∀ (es : List IE), sizeOf es < n → ∀ {W : WX} {X : Cx} (o : XOk g z W k N X) (sc : Scope) (xs : List Expr), X.env.scope = sc → chkTs g N sc es xs = true → AllT g z W k X es xs
  ds : ∀ (es : List IE), sizeOf es < n → ∀ {W : WX} {X : Cx} (o : XOk g z W k N X) (sc : Scope) (xs : List Expr), X.env.scope = sc → chkDs g N sc es xs = true → PA X xs (LDs g z W k X es)
  ks : ∀ (es : List IE), sizeOf es < n → ∀ {W : WX} {X : Cx} (o : XOk g z W k N X) (sc : Scope) (kwds : List Keyword), X.env.scope = sc → chkDs g N sc es (kwVals kwds) = true → PK X kwds (LDs g z W k X es)
  ps : ∀ (es : List IE), sizeOf es < n → ∀ {W : WX} {X : Cx} (o : XOk g z W k N X) (sc : Scope) (xs : List Expr), X.env.scope = sc → chkPs g N sc es xs = true → PA X xs (LPs g z W k X es)
  c : ∀ (e : Option IE), sizeOf e < n → ∀ {W : WX} {X : Cx} (o : XOk g z W k N X) (sc : Scope) (xs : List Expr), X.env.scope = sc → chkC g N sc e xs = true → PTs X xs (LC g z W k X e)
  o : ∀ (e : Option IE), sizeOf e < n → ∀ {W : WX} {X : Cx} (o : XOk g z W k N X) (sc : Scope) (x : Option Expr), X.env.scope = sc → chkO g N sc e x = true → PO X x (LO g z W k X e)
  i : ∀ (i : IT), sizeOf i < n → ∀ {W : WX} {X : Cx} (o : XOk g z W k N X) (sc : Scope) (tg x : Expr), X.env.scope = sc → chkI g N sc i tg x = true → PI X tg x (LI g z W k X i)
theorem all_e {n : Nat} (A : AllOk g z k N n) (e : IE) (hn : sizeOf e < n + 1) {W : WX} {X : Cx} (o : XOk g z W k N X) (sc : Scope) (x : Expr) (hs : X.env.scope = sc) (h : chkE g N sc e x = true) : PE X x (LE g z W k X e) ∧ (tstOk e = true → PT X x (LT g z W k X e)) := by
  unfold chkE at h
  split at h
  · exact ⟨pe_nev_, fun _ => pt_nev_⟩
  · exact both rfl pe_non_
  · cases (show _ = _ by simpa using h)
    exact both rfl pe_bl_
  · cases of_decide_eq_true h
    exact both rfl pe_int_
  · cases of_decide_eq_true h
    exact both rfl pe_str_
  · subst hs
    obtain ⟨h1, h⟩ := ba2 h
    obtain ⟨h2, h3⟩ := ba2 h
    exact both rfl (pe_var_ (by rw [o.hN]; exact of_decide_eq_true h1) h2 h3)
  · subst hs
    obtain ⟨h1, h⟩ := ba2 h
    obtain ⟨h2, h3⟩ := ba2 h
    exact both rfl (pe_glob_ o (of_decide_eq_true h1) h2 h3)
  · rename_i op a b l op' r pos
    obtain ⟨h1, h⟩ := ba2 h
    obtain ⟨h2, h3⟩ := ba2 h
    cases of_decide_eq_true h1
    simp only [IE.bin.sizeOf_spec] at hn
    exact both rfl (pe_bin_ (toD (A.e a (by omega) o sc _ hs h2).1) (toD (A.e b (by omega) o sc _ hs h3).1))
  · rename_i a x pos
    simp only [IE.neg.sizeOf_spec] at hn
    exact both rfl (pe_neg_ (toD (A.e a (by omega) o sc _ hs h).1))
  · rename_i a x pos
    obtain ⟨h1, h⟩ := ba2 h
    simp only [IE.not.sizeOf_spec] at hn
    have i := A.e a (by omega) o sc _ hs h
    exact ⟨pe_not_ (toD i.1), fun _ => pt_not_ (i.2 h1)⟩
  · rename_i op a b l op' r pos
    obtain ⟨h1, h⟩ := ba2 h
    obtain ⟨h2, h⟩ := ba2 h
    obtain ⟨h3, h4⟩ := ba2 h
    cases of_decide_eq_true h1
    simp only [IE.cmp.sizeOf_spec] at hn
    have i1 := toD (A.e a (by omega) o sc _ hs h3).1
    have i2 := toD (A.e b (by omega) o sc _ hs h4).1
    exact ⟨pe_cmp_ o.un h2 i1 i2, fun _ => pt_cmp_ o.un h2 i1 i2⟩
  · rename_i o1 o2 a b c l p1 p2 r t pos
    obtain ⟨h1, h⟩ := ba2 h
    obtain ⟨h2, h⟩ := ba2 h
    obtain ⟨h3, h⟩ := ba2 h
    obtain ⟨h4, h⟩ := ba2 h
    obtain ⟨h5, h⟩ := ba2 h
    obtain ⟨h6, h7⟩ := ba2 h
    cases of_decide_eq_true h1
    cases of_decide_eq_true h2
    simp only [IE.chain.sizeOf_spec] at hn
    have i1 := toD (A.e a (by omega) o sc _ hs h5).1
    have i2 := toD (A.e b (by omega) o sc _ hs h6).1
    have i3 := toD (A.e c (by omega) o sc _ hs h7).1
    exact ⟨pe_chain_ o.un i1 i2 i3 h4, fun _ => pt_chain_ o.un i1 i2 i3 h4⟩
  · rename_i es xs pos
    obtain ⟨h1, h⟩ := ba2 h
    simp only [IE.and.sizeOf_spec] at hn
    have i := and_ok (pos := pos) (A.ts es (by omega) o sc xs hs h) (fun e => by subst e; cases h1)
    exact ⟨ofD rfl i.1, fun _ => i.2.pt⟩
  · rename_i es xs pos
    obtain ⟨h1, h⟩ := ba2 h
    simp only [IE.or.sizeOf_spec] at hn
    have hne : es ≠ [] := fun e => by subst e; cases h1
    have al := A.ts es (by omega) o sc xs hs h
    have i := or_ok (pos := pos) al hne
    refine ⟨?_, fun _ => i.2.pt⟩
    cases hf : freshL es with
    | true => exact ofF (by unfold fresh; exact hf) (or_new al hne hf)
    | false => exact ofD (by unfold fresh; exact hf) i.1
  · rename_i t a b c x y pos
    obtain ⟨h1, h⟩ := ba2 h
    obtain ⟨h2, h⟩ := ba2 h
    obtain ⟨h3, h4⟩ := ba2 h
    simp only [IE.ite.sizeOf_spec] at hn
    exact ⟨pe_ite_ ((A.e t (by omega) o sc _ hs h2).2 h1) (toD (A.e a (by omega) o sc _ hs h3).1) (toD (A.e b (by omega) o sc _ hs h4).1), fun hh => by cases hh⟩
  · rename_i es xs pos
    simp only [IE.lst.sizeOf_spec] at hn
    exact both rfl (pe_lst_ (A.ps es (by omega) o sc xs hs h))
  · rename_i es xs kk pos
    simp only [IE.tup.sizeOf_spec] at hn
    exact both rfl (pe_tup_ (A.ps es (by omega) o sc xs hs h))
  · rename_i elt tg it cond wp xe xt xi ifs scope pos
    subst hs
    obtain ⟨h1, h⟩ := ba2 h
    obtain ⟨h2, h⟩ := ba2 h
    obtain ⟨h3, h⟩ := ba2 h
    obtain ⟨h4, h⟩ := ba2 h
    obtain ⟨h5, h⟩ := ba2 h
    obtain ⟨h6, h7⟩ := ba2 h
    simp only [IE.lc.sizeOf_spec] at hn
    have hi := A.i it (by omega) o _ xt xi rfl h2
    refine both rfl (ofF rfl ((pe_lc (wi := LI g z W k X it) (g := gOf X.K tg) (tt := LC g z noW k X cond) (te := LD g z noW k X elt) o.calm (by rw [o.hN]; exact o.nd) hi (blkOk_by (by rw [o.hN]; exact h1)) (fun s H C cl fp => ?_) (fun s H C cl fp => ?_) (fun s H C cl fp => ?_) (set_fold h5 _)).imp fun σ H Q q => ?_))
    · exact (tg_ok (X := X.blk s H scope (compEnvC scope cl C X.env) fp) o.calm o.nd o.hN rfl (fun _ q => q) tg xt h3).1
    · exact A.c cond (by omega) (o.blk s H scope (compEnvC scope cl C X.env) fp) _ ifs rfl h6
    · exact toD (A.e elt (by omega) (o.blk s H scope (compEnvC scope cl C X.env) fp) _ xe rfl h7).1
    · rw [own_map]
      exact lc_ask (tg_ok (X := X.blk X.s_0 H scope (compEnvC scope [] 0 X.env) []) o.calm o.nd o.hN rfl (fun _ q => q) tg xt h3).2 (of_decide_eq_true h4) q
  · rename_i elt tg it cond tg1 it1 cond1 wp wp1 xe xt xi ifs xt1 xi1 ifs1 scope pos
    subst hs
    obtain ⟨h1, h⟩ := ba2 h
    obtain ⟨h2, h⟩ := ba2 h
    obtain ⟨h3, h⟩ := ba2 h
    obtain ⟨h4, h⟩ := ba2 h
    obtain ⟨h5, h⟩ := ba2 h
    obtain ⟨h6, h⟩ := ba2 h
    obtain ⟨h7, h⟩ := ba2 h
    obtain ⟨h8, h⟩ := ba2 h
    obtain ⟨h9, h⟩ := ba2 h
    obtain ⟨h10, h⟩ := ba2 h
    obtain ⟨h11, h⟩ := ba2 h
    obtain ⟨h12, h13⟩ := ba2 h
    simp only [IE.lc2.sizeOf_spec] at hn
    have hi := A.i it (by omega) o _ xt xi rfl h2
    refine both rfl (ofF rfl ((pe_lc2 (wi := LI g z W k X it) (g := gOf X.K tg) (tt := LC g z noW k X cond) (wi1 := LI g z noW k X it1) (g1 := gOf X.K tg1) (tt1 := LC g z noW k X cond1) (te := LD g z noW k X elt) (vs1 := wp1) o.calm (by rw [o.hN]; exact o.nd) hi (blkOk_by (by rw [o.hN]; exact h1)) (by rw [own_map]; exact of_decide_eq_true h11)
      (fun s H C cl fp => ?_) (fun s H C cl fp => ?_) (fun s H C cl fp => ?_) (fun s H C cl fp => ?_) (fun s H C cl fp => ?_) (fun s H C cl fp => ?_) (set_fold h5 _) (fun env => set_fold h8 env)).imp fun σ H Q q => ?_))
    · exact (tg_ok (X := X.blk s H scope (compEnvC scope cl C X.env) fp) o.calm o.nd o.hN rfl (fun _ q => q) tg xt h3).1
    · exact A.c cond (by omega) (o.blk s H scope (compEnvC scope cl C X.env) fp) _ ifs rfl h6
    · exact A.i it1 (by omega) (o.blk s H scope (compEnvC scope cl C X.env) fp) _ xt1 xi1 rfl h7
    · exact (tg_ok (X := X.blk s H scope (compEnvC scope cl C X.env) fp) o.calm o.nd o.hN rfl (fun _ q => q) tg1 xt1 h9).1
    · exact A.c cond1 (by omega) (o.blk s H scope (compEnvC scope cl C X.env) fp) _ ifs1 rfl h12
    · exact toD (A.e elt (by omega) (o.blk s H scope (compEnvC scope cl C X.env) fp) _ xe rfl h13).1
    · rw [own_map]
      exact lc2_ask (tg_ok (X := X.blk X.s_0 H scope (compEnvC scope [] 0 X.env) []) o.calm o.nd o.hN rfl (fun _ q => q) tg xt h3).2 (of_decide_eq_true h4) (tg_ok (X := X.blk X.s_0 H scope (compEnvC scope [] 0 X.env) []) o.calm o.nd o.hN rfl (fun _ q => q) tg1 xt1 h9).2 (of_decide_eq_true h10) q
  · rename_i a b x i pos
    obtain ⟨h1, h⟩ := ba2 h
    obtain ⟨h2, h3⟩ := ba2 h
    simp only [IE.idx.sizeOf_spec] at hn
    exact both rfl (pe_ix_ h1 (toD (A.e a (by omega) o sc _ hs h2).1) (toD (A.e b (by omega) o sc _ hs h3).1))
  · rename_i a lo hi x l hh p2 pos
    obtain ⟨h1, h⟩ := ba2 h
    obtain ⟨h2, h3⟩ := ba2 h
    simp only [IE.sl.sizeOf_spec] at hn
    exact both rfl (pe_sl_ (toD (A.e a (by omega) o sc _ hs h1).1) (A.o lo (by omega) o sc _ hs h2) (A.o hi (by omega) o sc _ hs h3))
  · rename_i keep f args x p xs pos
    obtain ⟨h1, h⟩ := ba2 h
    obtain ⟨h2, h⟩ := ba2 h
    obtain ⟨h3, h⟩ := ba2 h
    obtain ⟨h4, h⟩ := ba2 h
    obtain ⟨h5, h6⟩ := chkDs_len h
    simp only [IE.call.sizeOf_spec] at hn
    have ha := A.ds args (by omega) o sc _ hs h
    subst hs
    exact both rfl (pe_call_ o (of_decide_eq_true h1) h2 h3 h4 ha h6 h5)
  · rename_i b args x p xs pos
    obtain ⟨h1, h⟩ := ba2 h
    obtain ⟨h2, h⟩ := ba2 h
    obtain ⟨h3, h⟩ := ba2 h
    obtain ⟨h5, h6⟩ := chkDs_len h
    simp only [IE.blt.sizeOf_spec] at hn
    have ha := A.ds args (by omega) o sc _ hs h
    subst hs
    cases xs with
    | nil => rw [List.length_eq_zero_iff.mp h5] at h3; cases h3
    | cons y ys => exact both rfl (pe_blt_ o (of_decide_eq_true h1) h2 ha h6)
  · rename_i m ob args y x p xs pos
    obtain ⟨h1, h⟩ := ba2 h
    obtain ⟨h2, h⟩ := ba2 h
    obtain ⟨h3, h⟩ := ba2 h
    obtain ⟨h4, h⟩ := ba2 h
    obtain ⟨h5, h6⟩ := ba2 h
    simp only [IE.meth.sizeOf_spec] at hn
    obtain ⟨e, rfl⟩ := List.length_eq_one_iff.mp (of_decide_eq_true h4)
    obtain ⟨l1, l2⟩ := chkDs_len h6
    obtain ⟨xx, rfl⟩ := List.length_eq_one_iff.mp l1.symm
    simp only [chkDs] at h6
    obtain ⟨h7, h6⟩ := ba2 h6
    obtain ⟨h8, _⟩ := ba2 h6
    simp at hn
    exact both rfl (pe_meth_ o (of_decide_eq_true h1) h2 h3 h7 (toD (A.e ob (by omega) o sc _ hs h5).1) (toD (A.e e (by omega) o sc _ hs h8).1))
  · rename_i e ts many x p y c pos
    obtain ⟨h1, h⟩ := ba2 h
    obtain ⟨h2, h⟩ := ba2 h
    obtain ⟨h3, h⟩ := ba2 h
    obtain ⟨h4, h5⟩ := ba2 h
    cases of_decide_eq_true h1
    simp only [IE.isi.sizeOf_spec] at hn
    have i := toD (A.e e (by omega) o sc _ hs h4).1
    subst hs
    exact both rfl (pe_isi_ o h2 h3 i h5)
  · rename_i e
    simp only [IE.thaw.sizeOf_spec] at hn
    exact ⟨pe_thaw_ (A.e e (by omega) o sc _ hs h).1, fun hh => by cases hh⟩
  · rename_i keep f args kws ks perm x p xs kwds pos
    obtain ⟨h1, h⟩ := ba2 h
    obtain ⟨h2, h⟩ := ba2 h
    obtain ⟨h3, h⟩ := ba2 h
    obtain ⟨h4, h⟩ := ba2 h
    obtain ⟨h5, h⟩ := ba2 h
    obtain ⟨h6, h7⟩ := ba2 h
    obtain ⟨l1, l2⟩ := chkDs_len h6
    obtain ⟨l3, _⟩ := chkDs_len h7
    simp only [IE.callK.sizeOf_spec] at hn
    have ha := A.ds args (by omega) o sc _ hs h6
    have hk := A.ks kws (by omega) o sc _ hs h7
    have hnm := of_decide_eq_true h5
    subst hs
    exact both rfl (pe_callK_ o (of_decide_eq_true h1) h2 h3 h4 hnm ha hk l2 l1 (by rw [l3, kw_len hnm]))
  · cases h
theorem all_ok : ∀ n : Nat, AllOk g z k N n
  | 0 => ⟨fun _ h => absurd h (Nat.not_lt_zero _), fun _ h => absurd h (Nat.not_lt_zero _), fun _ h => absurd h (Nat.not_lt_zero _), fun _ h => absurd h (Nat.not_lt_zero _), fun _ h => absurd h (Nat.not_lt_zero _), fun _ h => absurd h (Nat.not_lt_zero _), fun _ h => absurd h (Nat.not_lt_zero _), fun _ h => absurd h (Nat.not_lt_zero _)⟩
  | n + 1 => by
    have A := all_ok n
    refine ⟨fun e hn {W X} o sc x hs h => all_e A e hn o sc x hs h, fun es hn {W X} o sc xs hs h => ?_, fun es hn {W X} o sc xs hs h => ?_, fun es hn {W X} o sc kwds hs h => ?_, fun es hn {W X} o sc xs hs h => ?_, fun e hn {W X} o sc xs hs h => ?_, fun e hn {W X} o sc x hs h => ?_, fun i hn {W X} o sc tg x hs h => ?_⟩
    · cases es with
      | nil =>
        cases xs with
        | nil => trivial
        | cons _ _ => simp [chkTs] at h
      | cons e es =>
        cases xs with
        | nil => simp [chkTs] at h
        | cons x xs =>
          simp only [chkTs] at h
          obtain ⟨h1, h⟩ := ba2 h
          obtain ⟨h2, h3⟩ := ba2 h
          simp only [List.cons.sizeOf_spec] at hn
          have i := A.e e (by omega) o sc x hs h2
          exact ⟨⟨i.1, i.2 h1⟩, A.ts es (by omega) o sc xs hs h3⟩
    · cases es with
      | nil =>
        cases xs with
        | nil => exact pa_dnil
        | cons _ _ => simp [chkDs] at h
      | cons e es =>
        cases xs with
        | nil => simp [chkDs] at h
        | cons x xs =>
          simp only [chkDs] at h
          obtain ⟨h1, h⟩ := ba2 h
          obtain ⟨h2, h3⟩ := ba2 h
          simp only [List.cons.sizeOf_spec] at hn
          exact pa_dcons (toD (A.e e (by omega) o sc x hs h2).1) (A.ds es (by omega) o sc xs hs h3) h1
    · cases es with
      | nil =>
        cases kwds with
        | nil => exact pk_nil_
        | cons kw _ =>
          obtain ⟨nm, x, kp⟩ := kw
          simp [kwVals, chkDs] at h
      | cons e es =>
        cases kwds with
        | nil => simp [kwVals, chkDs] at h
        | cons kw kwds =>
          obtain ⟨nm, x, kp⟩ := kw
          simp only [kwVals, chkDs] at h
          obtain ⟨h1, h⟩ := ba2 h
          obtain ⟨h2, h3⟩ := ba2 h
          simp only [List.cons.sizeOf_spec] at hn
          exact pk_cons_ (toD (A.e e (by omega) o sc x hs h2).1) (A.ks es (by omega) o sc kwds hs h3)
    · unfold chkPs at h
      split at h
      · exact pa_pnil
      · rename_i e es x p xs
        obtain ⟨h1, h2⟩ := ba2 h
        simp only [List.cons.sizeOf_spec, IE.star.sizeOf_spec] at hn
        exact pa_pstar (toD (A.e e (by omega) o sc x hs h1).1) (A.ps es (by omega) o sc xs hs h2)
      · rename_i e es x xs hno
        obtain ⟨h1, h⟩ := ba2 h
        obtain ⟨h2, h3⟩ := ba2 h
        simp only [List.cons.sizeOf_spec] at hn
        refine pa_pcons ?_ (toD (A.e e (by omega) o sc x hs h2).1) (A.ps es (by omega) o sc xs hs h3) h1
        cases e with
        | star e' =>
          unfold chkE at h2
          cases h2
        | _ => rfl
      · cases h
    · cases e with
      | none =>
        cases xs with
        | nil => exact ⟨fun pins s σ H Q I ⟨F, α, ρ, S, w, er, p⟩ => pts_nil.run pins s σ H Q I (p true H F α .refl w rfl)⟩
        | cons _ _ => simp [chkC] at h
      | some e =>
        unfold chkC at h
        split at h
        · rename_i hh
          cases hh
        · rename_i e' x hh
          cases hh
          obtain ⟨h1, h2⟩ := ba2 h
          simp only [Option.some.sizeOf_spec] at hn
          exact pts_one ((A.e e (by omega) o _ x hs h2).2 h1)
        · cases h
    · cases e with
      | none =>
        cases x with
        | none => exact po_none_
        | some _ => simp [chkO] at h
      | some e =>
        cases x with
        | none => simp [chkO] at h
        | some x =>
          simp only [chkO] at h
          simp only [Option.some.sizeOf_spec] at hn
          exact po_some_ (toD (A.e e (by omega) o sc x hs h).1)
    · unfold chkI at h
      split at h
      · rename_i e
        simp only [IT.seq.sizeOf_spec] at hn
        exact pi_seq_ (toD (A.e e (by omega) o _ _ hs h).1)
      · rename_i es x p xs pos
        obtain ⟨h1, h⟩ := ba2 h
        obtain ⟨h2, h⟩ := ba2 h
        obtain ⟨h3, hz⟩ := ba2 h
        obtain ⟨h5, h6⟩ := chkDs_len hz
        cases of_decide_eq_true h1
        simp only [IT.rng.sizeOf_spec] at hn
        have ha := A.ds es (by omega) o _ _ hs hz
        subst hs
        exact pi_rng_ o h2 h6 (of_decide_eq_true h3) h5 ha
      · rename_i e es kk tp x p y pos
        obtain ⟨h1, h⟩ := ba2 h
        obtain ⟨h2, h⟩ := ba2 h
        obtain ⟨h3, hz⟩ := ba2 h
        cases of_decide_eq_true h1
        simp only [IT.enum.sizeOf_spec] at hn
        have ha := toD (A.e e (by omega) o _ _ hs hz).1
        subst hs
        exact pi_enum_ o h2 h3 ha
      · rename_i a b es kk tp x p y y' pos
        obtain ⟨h1, h⟩ := ba2 h
        obtain ⟨h2, h⟩ := ba2 h
        obtain ⟨h3, h⟩ := ba2 h
        obtain ⟨h4, h⟩ := ba2 h
        obtain ⟨h5, h6⟩ := ba2 h
        cases of_decide_eq_true h1
        simp only [IT.zip.sizeOf_spec] at hn
        have ha := toD (A.e a (by omega) o _ _ hs h5).1
        have hb := toD (A.e b (by omega) o _ _ hs h6).1
        subst hs
        exact pi_zip_ o h2 h3 h4 ha hb
      · cases h
/-- a checked expression -/
theorem exp_ok {W : WX} {X : Cx} (o : XOk g z W k N X) {e : IE} {x : Expr} (h : chkE g N X.env.scope e x = true) : PE X x (LE g z W k X e) := ((all_ok (sizeOf e + 1)).e e (by omega) o _ x rfl h).1
theorem tst_ok {W : WX} {X : Cx} (o : XOk g z W k N X) {e : IE} {x : Expr} (ht : tstOk e = true) (h : chkE g N X.env.scope e x = true) : PT X x (LT g z W k X e) := ((all_ok (sizeOf e + 1)).e e (by omega) o _ x rfl h).2 ht
theorem row_ok {W : WX} {X : Cx} (o : XOk g z W k N X) {es : List IE} {xs : List Expr} (h : chkDs g N X.env.scope es xs = true) : PA X xs (LDs g z W k X es) := (all_ok (sizeOf es + 1)).ds es (by omega) o _ xs rfl h
theorem itr_ok {W : WX} {X : Cx} (o : XOk g z W k N X) {i : IT} {tg x : Expr} (h : chkI g N X.env.scope i tg x = true) : PI X tg x (LI g z W k X i) := (all_ok (sizeOf i + 1)).i i (by omega) o _ tg x rfl h
theorem cnd_ok {W : WX} {X : Cx} (o : XOk g z W k N X) {e : Option IE} {xs : List Expr} (h : chkC g N X.env.scope e xs = true) : PTs X xs (LC g z W k X e) := (all_ok (sizeOf e + 1)).c e (by omega) o _ xs rfl h
end
end Pk

/-! Part 13: statements -/
namespace Pk
open PySem PySem.Spec PyProof.Rows L2
theorem bk_fn {env : PySem.Env} (hk : env.scope.kind = .function) : env.blockKind = .function := by unfold PySem.Env.blockKind; rw [hk]; rfl
theorem sw_par2 {env : PySem.Env} {x y : Str} {px py pt pt2 : Pos} {kt k2} {a b : Expr} (hk : env.scope.kind = .function) (hx : env.scope.names.lookup x = some .local) (hy : env.scope.names.lookup y = some .local) (hl : (py.line == px.line) = true) (hne : x ≠ y)
    (ha : notStar a = true) (hb : notStar b = true) (hf : [a, b].all (foldedForSure 8) = false) (hc : [a, b].all (constantsAlone 8) = false) :
    swappedStores [.Tuple [.Name x px, .Name y py] kt pt] (.Tuple [a, b] k2 pt2) env = pure (some [x, y]) := by
  have kx : env.kindOf x = some .local := hx
  have ky : env.kindOf y = some .local := hy
  have bk := bk_fn hk
  have hs : ([a, b].any fun | .Starred .. => true | _ => false) = false := by
    have e : (fun x : Expr => match x with | .Starred .. => true | _ => false) = fun a => !notStar a := by
      funext a
      cases a <;> rfl
    show ([a, b].any (fun x : Expr => match x with | .Starred .. => true | _ => false)) = false
    rw [e]
    simp [ha, hb]
  have hd : [x, y].eraseDups = [x, y] := by
    have : (x == y) = false := by simpa using hne
    have h2 : (y == x) = false := by simpa using Ne.symm hne
    simp [List.eraseDups_cons, h2]
  unfold swappedStores
  simp only [bk, hf, hc, hs, kx, ky, Expr.pos, List.filterMap, List.head?, Option.map, Option.getD, beq_self_eq_true, hl, Bool.and_self, if_true, hd]
  refine (if_neg (show ¬ (false = true) from Bool.false_ne_true)).trans ((if_neg fun h => Bool.noConfusion (h.symm.trans hs)).trans ((if_neg ?_).trans rfl))
  simp
theorem sw_par3 {env : PySem.Env} {x y w : Str} {px py pw pt pt2 : Pos} {kt k2} {a b c : Expr} (hk : env.scope.kind = .function) (hx : env.scope.names.lookup x = some .local) (hy : env.scope.names.lookup y = some .local) (hw : env.scope.names.lookup w = some .local)
    (hl : (py.line == px.line) = true) (hl2 : (pw.line == px.line) = true) (h1 : x ≠ y) (h2 : x ≠ w) (h3 : y ≠ w)
    (ha : notStar a = true) (hb : notStar b = true) (hcc : notStar c = true) (hf : [a, b, c].all (foldedForSure 8) = false) (hc : [a, b, c].all (constantsAlone 8) = false) :
    swappedStores [.Tuple [.Name x px, .Name y py, .Name w pw] kt pt] (.Tuple [a, b, c] k2 pt2) env = pure (some [x, y, w]) := by
  have kx : env.kindOf x = some .local := hx
  have ky : env.kindOf y = some .local := hy
  have kw : env.kindOf w = some .local := hw
  have bk := bk_fn hk
  have hs : ([a, b, c].any fun | .Starred .. => true | _ => false) = false := by
    have e : (fun x : Expr => match x with | .Starred .. => true | _ => false) = fun a => !notStar a := by
      funext a
      cases a <;> rfl
    show ([a, b, c].any (fun x : Expr => match x with | .Starred .. => true | _ => false)) = false
    rw [e]
    simp [ha, hb, hcc]
  have hd : [x, y, w].eraseDups = [x, y, w] := by
    have e1 : (y == x) = false := by simpa using Ne.symm h1
    have e2 : (w == x) = false := by simpa using Ne.symm h2
    have e3 : (w == y) = false := by simpa using Ne.symm h3
    simp [List.eraseDups_cons, e1, e2, e3]
  unfold swappedStores
  simp only [bk, hf, hc, hs, kx, ky, kw, Expr.pos, List.filterMap, List.head?, Option.map, Option.getD, beq_self_eq_true, hl, hl2, Bool.and_self, if_true, hd]
  refine (if_neg (show ¬ (false = true) from Bool.false_ne_true)).trans ((if_neg fun h => Bool.noConfusion (h.symm.trans hs)).trans ((if_neg ?_).trans rfl))
  simp
theorem sw_none_fold {env : PySem.Env} {ts vs : List Expr} {kt k2 : Nat} {pt pt2 : Pos} (hf : vs.all (foldedForSure 8) = true) : swappedStores [.Tuple ts kt pt] (.Tuple vs k2 pt2) env = pure none := by
  unfold swappedStores
  simp only [hf, if_true]
  split
  · rfl
  · split
    · rfl
    · split <;> rfl
theorem sw_none_len {env : PySem.Env} {ts vs : List Expr} {kt k2 : Nat} {pt pt2 : Pos} (hf : (ts.length == 2 || ts.length == 3) = false) : swappedStores [.Tuple ts kt pt] (.Tuple vs k2 pt2) env = pure none := by
  unfold swappedStores
  simp only [hf]
  rfl

/-- no comprehension at the top -/
def noComp : Expr → Bool
  | .ListComp .. => false
  | .SetComp .. => false
  | .DictComp .. => false
  | _ => true
/-- is the value swapped in? (a comprehension, a local name on its line) -/
def swB (sc : Scope) (y : Str) (py : Pos) : Expr → Bool
  | .ListComp _ _ s p => isLocal sc y && (py.line == p.line) && !(s.names.any fun (n, k) => n == y && (k == .local || k == .cell))
  | .SetComp .. => true
  | .DictComp .. => true
  | _ => false
def lcOnly : Expr → Bool
  | .SetComp .. => false
  | .DictComp .. => false
  | _ => true
theorem sw_none_tup {t x : Expr} {ts : List Expr} {kt : Nat} {pt : Pos} {l : Nat} {env : PySem.Env} : swapsWith x (some (.Tuple ts kt pt)) l env = pure false := by cases x <;> rfl
theorem sw_none_sub {x a b : Expr} {pt : Pos} {l : Nat} {env : PySem.Env} : swapsWith x (some (.Subscript a b pt)) l env = pure false := by cases x <;> rfl
theorem sw_noComp {x : Expr} {t : Option Expr} {l : Nat} {env : PySem.Env} (h : noComp x = true) : swapsWith x t l env = pure false := by cases x <;> first | rfl | cases h
theorem sw_false {x : Expr} {y : Str} {py : Pos} {l : Nat} {env : PySem.Env} (hk : env.scope.kind = .function) (hl : lcOnly x = true) (h : swB env.scope y py x = false) : swapsWith x (some (.Name y py)) l env = pure false := by
  cases x with
  | ListComp e gs s p =>
    have bk := bk_fn hk
    unfold swapsWith
    simp only [bk]
    show (pure ((ScopeKind.function == ScopeKind.function) && (env.kindOf y == some .local) && (py.line == p.line) && !(s.names.any fun (n, k) => n == y && (k == .local || k == .cell))) : Sem Bool) = pure false
    have e : (env.kindOf y == some NameKind.local) = isLocal env.scope y := by
      show (env.scope.names.lookup y == some NameKind.local) = isLocal env.scope y
      unfold isLocal
      cases env.scope.names.lookup y with
      | none => rfl
      | some q => cases q <;> rfl
    rw [e]
    have h : (isLocal env.scope y && (py.line == p.line) && !(s.names.any fun (n, k) => n == y && (k == .local || k == .cell))) = false := h
    have h0 : (ScopeKind.function == ScopeKind.function) = true := rfl
    rw [h0, Bool.true_and, h]
  | SetComp _ _ _ _ => cases hl
  | DictComp _ _ _ _ _ => cases hl
  | _ => rfl
def isTupE : Expr → Bool
  | .Tuple .. => true
  | _ => false
/-- a tuple of targets takes the value's tuple, not the parts swapped -/
def swNames (sc : Scope) (ts : List Expr) : List Str := ts.filterMap fun
  | .Name id pos => if sc.names.lookup id == some .local && pos.line == (ts.head?.map (·.pos.line)).getD 0 then some id else none
  | _ => none
theorem sw_none_cell {env : PySem.Env} {ts vs : List Expr} {kt k2 : Nat} {pt pt2 : Pos} (hf : ((swNames env.scope ts).length != ts.length) = true) : swappedStores [.Tuple ts kt pt] (.Tuple vs k2 pt2) env = pure none := by
  have key : ∀ (b : Bool) (x y : Sem (Option (List Str))), (if ((swNames env.scope ts).length != ts.length || b) = true then x else y) = x := fun b x y => by rw [hf, Bool.true_or]; rfl
  unfold swappedStores
  dsimp only
  split
  · rfl
  · split
    · rfl
    · exact key _ _ _
def swNone (sc : Scope) (ts : List Expr) : Expr → Bool
  | .Tuple vs _ _ => (vs.all (foldedForSure 8) || !(ts.length == 2 || ts.length == 3)) || ((swNames sc ts).length != ts.length)
  | _ => true
theorem sw_none {ts : List Expr} {x : Expr} {kt : Nat} {pt : Pos} {env : PySem.Env} (h : swNone env.scope ts x = true) : swappedStores [.Tuple ts kt pt] x env = pure none := by
  cases x with
  | Tuple vs k2 p2 =>
    rcases Bool.or_eq_true_iff.mp (show ((vs.all (foldedForSure 8) || !(ts.length == 2 || ts.length == 3)) || ((swNames env.scope ts).length != ts.length)) = true from h) with h | h
    · rcases Bool.or_eq_true_iff.mp h with h | h
      · exact sw_none_fold h
      · exact sw_none_len (by simpa using h)
    · exact sw_none_cell h
  | _ => rfl
section
variable (g : Gs) (N : List Str)
def chkAsg (sc : Scope) (i : Nat) (e : IE) (x : Expr) : Expr → Bool
  | .Name y _ => decide (N[i]? = some y) && (locB sc (fun _ => true) y && (lcOnly x && chkE g N sc e x))
  | _ => false
def two {α : Type} : List α → Option (α × α)
  | [a, b] => some (a, b)
  | _ => none
def nameP : Expr → Option (Str × Pos)
  | .Name y p => some (y, p)
  | _ => none
def tupP : Expr → Option (List Expr)
  | .Tuple es _ _ => some es
  | _ => none
def chkPar (sc : Scope) (is : List Nat) (es : List IE) (x t : Expr) : Bool := match two is, two es, (tupP t).bind two, (tupP x).bind two with
  | some (i, j), some (e, e'), some (t1, t2), some (x, x') => match nameP t1, nameP t2 with
    | some (y, py), some (y', py') => decide (N[i]? = some y) && (decide (N[j]? = some y') && (decide (i ≠ j) && (isLocal sc y && (isLocal sc y' && ((py'.line == py.line) && (notStar x && (notStar x' &&
      (!([x, x'].all (foldedForSure 8)) && (!([x, x'].all (constantsAlone 8)) && chkDs g N sc [e, e'] [x, x'])))))))))
    | _, _ => false
  | _, _, _, _ => false
def three {α : Type} : List α → Option (α × α × α)
  | [a, b, c] => some (a, b, c)
  | _ => none
def chkPar3 (sc : Scope) (is : List Nat) (es : List IE) (x t : Expr) : Bool := match three is, three es, (tupP t).bind three, (tupP x).bind three with
  | some (i, j, l), some (e, e', e''), some (t1, t2, t3), some (x, x', x'') => match nameP t1, nameP t2, nameP t3 with
    | some (y, py), some (y', py'), some (y'', py'') => decide (N[i]? = some y) && (decide (N[j]? = some y') && (decide (N[l]? = some y'') && (decide (i ≠ j) && (decide (i ≠ l) && (decide (j ≠ l) && (isLocal sc y && (isLocal sc y' && (isLocal sc y'' && ((py'.line == py.line) && ((py''.line == py.line) &&
      (notStar x && (notStar x' && (notStar x'' && (!([x, x', x''].all (foldedForSure 8)) && (!([x, x', x''].all (constantsAlone 8)) && chkDs g N sc [e, e', e''] [x, x', x'']))))))))))))))) 
    | _, _, _ => false
  | _, _, _, _ => false
def chkUnp (sc : Scope) (tg : Tg) (e : IE) (x : Expr) : Expr → Bool
  | .Tuple es k p => chkTg N sc (fun _ => true) tg (.Tuple es k p) && (swNone sc es x && chkE g N sc e x)
  | _ => false
def chkSet (sc : Scope) (o i e : IE) (x : Expr) : Expr → Bool
  | .Subscript a b _ => notSlice b && (chkE g N sc e x && (chkE g N sc o a && chkE g N sc i b))
  | _ => false
mutual
def chkS (sc : Scope) : IS → Stmt → Bool
  | .nev, _ => true
  | .asg i e, .Assign [t] x _ => chkAsg g N sc i e x t
  | .par is es, .Assign [t] x _ => chkPar g N sc is es x t || chkPar3 g N sc is es x t
  | .unp tg e, .Assign [t] x _ => chkUnp g N sc tg e x t
  | .setI o i e, .Assign [t] x _ => chkSet g N sc o i e x t
  | .ifS c t e, .If c' t' e' _ => tstOk c && (chkE g N sc c c' && (chkSs sc t t' && chkSs sc e e'))
  | .forS tg it body, .For t x b [] _ => chkTg N sc (fun _ => true) tg t && (notSet x && (chkI g N sc it t x && chkSs sc body b))
  | .whileS _ c body, .While c' b [] _ => tstOk c && (chkE g N sc c c' && chkSs sc body b)
  | .ret e, .Return (some x) _ => chkE g N sc e x
  | .retN, .Return none _ => true
  | .exprS e, .Expr x _ => noComp x && chkE g N sc e x
  | .pass, .Pass _ => true
  | .brk, .Break _ => true
  | .cont, .Continue _ => true
  | _, _ => false
def chkSs (sc : Scope) : List IS → List Stmt → Bool
  | [], [] => true
  | s :: ss, x :: xs => chkS sc s x && chkSs sc ss xs
  | _, _ => false
end
end
/-- behind statements that came to r -/
def PoF (K : PySem.W.Frag) (z : Cz) (W : WX) (Fz : Hp) (α : Al) (r : F) (E : Ends) : Prop := match r with
  | .nx ρ S => ∀ σ' H' F' α', On Fz α F' α' → Wd K H' F' α' S → EnvR K F' α' ρ σ' → E.nx σ' H'
  | .bk ρ S => ∀ σ' H' F' α', On Fz α F' α' → Wd K H' F' α' S → EnvR K F' α' ρ σ' → E.bk σ' H'
  | .ct ρ S => ∀ σ' H' F' α', On Fz α F' α' → Wd K H' F' α' S → EnvR K F' α' ρ σ' → E.ct σ' H'
  | .rt d S => ∀ v H' F' α', On Fz α F' α' → Wd K H' F' α' S → DR K F' α' d v → E.rt v H'
  | .exc x ρ S => ∀ cls dd σ' H' F' α', On Fz α F' α' → Wd K H' F' α' S → EnvR K F' α' ρ σ' → XRep K z.ca z.an F' H' x cls dd → W cls dd σ' H'
  | .stk => False
/-- the lift of a statement -/
def LF (K : PySem.W.Frag) (z : Cz) (W : WX) (m : Env → Store → F) : TS := fun E σ H => ∃ Fz α ρ S, Wd K H Fz α S ∧ EnvR K Fz α ρ σ ∧ PoF K z W Fz α (m ρ S) E
structure SOk (g : Gs) (z : Cz) (W : WX) (k : Nat) (N : List Str) (X : Cx) : Prop where
  x : XOk g z W k N X
  fn : ∀ y, X.fn y = true
  own : PassesOwn (model X.prog X.w) X.A X.env X.xe
  kind : X.env.scope.kind = .function
section
variable {K : PySem.W.Frag} {g : Gs} {z : Cz} {W : WX} {k : Nat} {N : List Str} {X : Cx} {F1 F2 H : Hp} {α α1 α2 : Al} {S : Store} {σ : L2.St} {E : Ends} {ρ : Env}
theorem PoF.on {r : F} (o : On F1 α1 F2 α2) (h : PoF K z W F1 α1 r E) : PoF K z W F2 α2 r E := by
  cases r with
  | nx ρ S => exact fun σ' H' F' α' o' => h σ' H' F' α' (o.trans o')
  | bk ρ S => exact fun σ' H' F' α' o' => h σ' H' F' α' (o.trans o')
  | ct ρ S => exact fun σ' H' F' α' o' => h σ' H' F' α' (o.trans o')
  | rt d S => exact fun v H' F' α' o' => h v H' F' α' (o.trans o')
  | exc x ρ S => exact fun cls dd σ' H' F' α' o' => h cls dd σ' H' F' α' (o.trans o')
  | stk => exact h
/-- an expression, then the rest -/
theorem PoF.stm {τ υ : Type} {Rel : RelT τ υ} {r : R τ} {kk : τ → Store → F} {Q : υ → Hp → Prop} (er : EnvR K F1 α1 ρ σ) (h : PoF K z W F1 α1 (r.stm ρ kk) E)
    (hk : ∀ (v : υ) (H2 F2 : Hp) (α2 : Al) (a : τ) (S2 : Store), On F1 α1 F2 α2 → Wd K H2 F2 α2 S2 → Rel H2 F2 α2 a v → PoF K z W F2 α2 (kk a S2) E → Q v H2) : Po K z W σ F1 α1 Rel r Q := by
  cases r with
  | stk => exact h
  | exc x S2 => exact fun cls dd H' F' α' o w x => h cls dd σ H' F' α' o w (er.mono o) x
  | ok a S2 => exact fun v H2 F2 α2 o w r => hk v H2 F2 α2 a S2 o w r (PoF.on (r := kk a S2) o h)
theorem LF.at (w : Wd K H F1 α1 S) (er : EnvR K F1 α1 ρ σ) {m : Env → Store → F} (p : PoF K z W F1 α1 (m ρ S) E) : LF K z W m E σ H := ⟨F1, α1, ρ, S, w, er, p⟩
theorem PoF.seq {r : F} {kk : Env → Store → F} {E' : Ends} (h : PoF K z W F1 α1 (r.seq kk) E) (hr : E'.rt = E.rt) (hb : E'.bk = E.bk) (hc : E'.ct = E.ct)
    (hn : ∀ ρ S σ' H' F' α', On F1 α1 F' α' → Wd K H' F' α' S → EnvR K F' α' ρ σ' → PoF K z W F' α' (kk ρ S) E → E'.nx σ' H') : PoF K z W F1 α1 r E' := by
  cases r with
  | nx ρ S => exact fun σ' H' F' α' o w er => hn ρ S σ' H' F' α' o w er (PoF.on (r := kk ρ S) o h)
  | bk ρ S => exact fun σ' H' F' α' o w er => by rw [hb]; exact h σ' H' F' α' o w er
  | ct ρ S => exact fun σ' H' F' α' o w er => by rw [hc]; exact h σ' H' F' α' o w er
  | rt d S => exact fun v H' F' α' o w r => by rw [hr]; exact h v H' F' α' o w r
  | exc x ρ S => exact h
  | stk => exact h
/-- the evaluators of statements -/
abbrev vS (g : Gs) (k : Nat) : IS → Env → Store → F := evS g.gv (callK g.gv g.G k)
abbrev vSs (g : Gs) (k : Nat) : List IS → Env → Store → F := evSs g.gv (callK g.gv g.G k)
abbrev LS (g : Gs) (z : Cz) (W : WX) (k : Nat) (X : Cx) (s : IS) : TS := LF X.K z W (vS g k s)
abbrev LSs (g : Gs) (z : Cz) (W : WX) (k : Nat) (X : Cx) (s : List IS) : TS := LF X.K z W (vSs g k s)
theorem pss_nil_ : PSs X [] (LSs g z W k X []) := pss_nil.imp fun E σ H ⟨F, α, ρ, S, w, er, p⟩ => p σ H F α .refl w er
theorem pss_cons_ {s : IS} {ss : List IS} {x : Stmt} {xs : List Stmt} (h : PS X x (LS g z W k X s)) (hs : PSs X xs (LSs g z W k X ss)) : PSs X (x :: xs) (LSs g z W k X (s :: ss)) := (pss_cons h hs).imp fun E σ H ⟨F, α, ρ, S, w, er, p⟩ =>
  LF.at w er (PoF.seq (E := E) (E' := { E with nx := LSs g z W k X ss E }) p rfl rfl rfl fun ρ S σ' H' F' α' o w er p => LF.at w er p)
theorem ps_nev_ {x : Stmt} : PS X x (LS g z W k X .nev) := ⟨fun pins s σ H E I ⟨F, α, ρ, S, w, er, p⟩ => (show False from p).elim⟩
theorem ps_pass_ {p : Pos} : PS X (.Pass p) (LS g z W k X .pass) := ps_pass.imp fun E σ H ⟨F, α, ρ, S, w, er, p⟩ => p σ H F α .refl w er
theorem ps_brk_ {p : Pos} : PS X (.Break p) (LS g z W k X .brk) := ps_break.imp fun E σ H ⟨F, α, ρ, S, w, er, p⟩ => p σ H F α .refl w er
theorem ps_cont_ {p : Pos} : PS X (.Continue p) (LS g z W k X .cont) := ps_continue.imp fun E σ H ⟨F, α, ρ, S, w, er, p⟩ => p σ H F α .refl w er
theorem ps_retN_ {p : Pos} : PS X (.Return none p) (LS g z W k X .retN) := ps_retN.imp fun E σ H ⟨F, α, ρ, S, w, er, p⟩ => p .non H F α .refl w (by show Rp _ _ _ _; simp only [Rp])
theorem ps_ret_ {e : IE} {x : Expr} {p : Pos} (he : PE X x (LD g z W k X e)) : PS X (.Return (some x) p) (LS g z W k X (.ret e)) := (ps_ret he).imp fun E σ H ⟨F, α, ρ, S, w, er, p⟩ =>
  LG.at w er (PoF.stm er p fun v H2 F2 α2 d S2 o2 w2 r2 p2 => p2 v H2 F2 α2 .refl w2 r2)
theorem ps_expr_ {e : IE} {x : Expr} {p : Pos} (hn : noComp x = true) (he : PE X x (LD g z W k X e)) : PS X (.Expr x p) (LS g z W k X (.exprS e)) := (ps_expr he (sw_noComp hn)).imp fun E σ H ⟨F, α, ρ, S, w, er, p⟩ =>
  LG.at w er (PoF.stm er p fun v H2 F2 α2 d S2 o2 w2 r2 p2 => p2 σ H2 F2 α2 .refl w2 (er.mono o2))
theorem thaw_ask {e : IE} {σ : L2.St} {H : Hp} {Q : VK} (q : LD g z W k X (.thaw e) σ H Q) : LE g z W k X e σ H Q := by
  obtain ⟨F, α, ρ, S, w, er, po⟩ := q
  have po : Po X.K z W σ F α (RD X.K) (if fresh e then (ev g k e ρ S).bind fun d S1 => newCell d S1 else .stk) Q := po
  split at po
  · rename_i hf
    refine ⟨F, α, ρ, S, w, er, Po.bindk po fun v H1 F1 α1 d S1 o1 w1 r1 p1 => ?_⟩
    have r1 : RF X.K H1 F1 α1 d v := by
      have : Rl X.K e = RF X.K := by unfold Rl; rw [hf]; rfl
      rw [← this]; exact r1
    cases d with
    | cell n => exact p1.elim
    | val p =>
      cases p with
      | lst ps =>
        obtain ⟨a, xs, rfl, h1, h2, h3, h4, h5⟩ := r1
        refine p1 (.ref a) H1 F1 (α1.push a) .push (w1.push h1 h2 h3 h4 h5) ⟨a, ?_, rfl⟩
        show (α1.l ++ [a])[S1.length]? = some a
        rw [← w1.len]
        simp
      | dct kvs =>
        have r1 : Rp X.K F1 (.dct kvs) v := r1
        simp only [Rp] at r1
      | _ => exact p1.elim
  · exact po.elim
theorem _root_.L2.PS.no {x : Stmt} {t : TS} (h : ∀ E σ H, ¬ t E σ H) : PS X x t := ⟨fun pins s σ H E I q => (h E σ H q).elim⟩
theorem chk_noComp {sc : Scope} {e : IE} {x : Expr} (h : chkE g N sc e x = true) : noComp x = true ∨ e = .nev ∨ (∃ e0, e = .thaw e0) ∨ (∃ elt tg it cond wp, e = .lc elt tg it cond wp) ∨ ∃ elt tg it cond tg1 it1 cond1 wp wp1, e = .lc2 elt tg it cond tg1 it1 cond1 wp wp1 := by
  unfold chkE at h
  split at h
  case h_1 => exact .inr (.inl rfl)
  case h_18 => exact .inr (.inr (.inr (.inl ⟨_, _, _, _, _, rfl⟩)))
  case h_19 => exact .inr (.inr (.inr (.inr ⟨_, _, _, _, _, _, _, _, _, rfl⟩)))
  case h_26 => exact .inr (.inr (.inl ⟨_, rfl⟩))
  case h_28 => cases h
  all_goals exact .inl rfl
end
end Pk

/-! Part 14: every statement that is checked does what the small language says -/
namespace Pk
open PySem PySem.Spec PyProof.Rows L2
section
variable {K : PySem.W.Frag} {g : Gs} {z : Cz} {W : WX} {k : Nat} {N : List Str} {X : Cx} {F1 F2 H : Hp} {α α1 α2 : Al} {S : Store} {σ : L2.St} {E : Ends} {ρ : Env}
/-! ### names -/
theorem loc_of {sc : Scope} {f : Str → Bool} {x : Str} (h : locB sc f x = true) : Loc sc x := by
  unfold locB at h
  split at h
  · exact .inl ‹_›
  · exact .inr ‹_›
  · cases h
theorem islocal_of {sc : Scope} {x : Str} (h : isLocal sc x = true) : sc.names.lookup x = some .local := by
  unfold isLocal at h
  split at h
  · assumption
  · cases h
theorem swB_true {elt : Expr} {gs : List Comprehension} {scope : Scope} {pos py : Pos} {y : Str} {l : Nat} {env : PySem.Env} (hk : env.scope.kind = .function) (h : swB env.scope y py (.ListComp elt gs scope pos) = true) :
    env.scope.names.lookup y = some .local ∧ swapsWith (.ListComp elt gs scope pos) (some (.Name y py)) l env = pure true := by
  have h : (isLocal env.scope y && (py.line == pos.line) && !(scope.names.any fun (n, k) => n == y && (k == .local || k == .cell))) = true := h
  obtain ⟨h, h3⟩ := ba2 h
  obtain ⟨h1, h2⟩ := ba2 h
  exact ⟨islocal_of h1, sw_true hk (islocal_of h1) h2 (by simpa using h3)⟩
theorem lc_set (o : SOk g z W k N X) {i : Nat} {y : Str} {py spos : Pos} (hi : N[i]? = some y) {elt : IE} {tg : Tg} {it : IT} {cond : Option IE} {wp : List Nat} {x : Expr} (h : chkE g N X.env.scope (.lc elt tg it cond wp) x = true) (hs : swB X.env.scope y py x = true) :
    PS X (.Assign [.Name y py] x spos) (tAsg (LE g z W k X (.lc elt tg it cond wp)) (gName i)) := by
  have hi' : X.N[i]? = some y := by rw [o.x.hN]; exact hi
  generalize he : IE.lc elt tg it cond wp = e at h
  unfold chkE at h
  split at h
  case h_18 =>
    rename_i elt' tg' it' cond' wp' xe xt xi ifs scope pos
    cases he
    obtain ⟨h1, h⟩ := ba2 h
    obtain ⟨h2, h⟩ := ba2 h
    obtain ⟨h3, h⟩ := ba2 h
    obtain ⟨h4, h⟩ := ba2 h
    obtain ⟨h5, h⟩ := ba2 h
    obtain ⟨h6, h7⟩ := ba2 h
    obtain ⟨s1, s2⟩ := swB_true (l := spos.line) o.kind hs
    refine (ps_setLc (wi := LI g z W k X it) (g := gOf X.K tg) (tt := LC g z noW k X cond) (te := LD g z noW k X elt) o.x.calm (by rw [o.x.hN]; exact o.x.nd) hi' s1 s2 (itr_ok o.x h2) (blkOk_by (by rw [o.x.hN]; exact h1)) (fun s H C cl fp => ?_) (fun s H C cl fp => ?_) (fun s H C cl fp => ?_) (set_fold h5 _)).imp fun E σ H q => ?_
    · exact (tg_ok (X := X.blk s H scope (compEnvC scope cl C X.env) fp) o.x.calm o.x.nd o.x.hN rfl (fun _ q => q) tg xt h3).1
    · exact cnd_ok (o.x.blk s H scope (compEnvC scope cl C X.env) fp) h6
    · exact toD (exp_ok (o.x.blk s H scope (compEnvC scope cl C X.env) fp) h7)
    · rw [own_map]
      exact lc_ask (tg_ok (X := X.blk X.s_0 H scope (compEnvC scope [] 0 X.env) []) o.x.calm o.x.nd o.x.hN rfl (fun _ q => q) tg xt h3).2 (of_decide_eq_true h4) q
  all_goals cases he
  cases h
theorem lc2_set (o : SOk g z W k N X) {i : Nat} {y : Str} {py spos : Pos} (hi : N[i]? = some y) {elt : IE} {tg tg1 : Tg} {it it1 : IT} {cond cond1 : Option IE} {wp wp1 : List Nat} {x : Expr} (h : chkE g N X.env.scope (.lc2 elt tg it cond tg1 it1 cond1 wp wp1) x = true) (hs : swB X.env.scope y py x = true) :
    PS X (.Assign [.Name y py] x spos) (tAsg (LE g z W k X (.lc2 elt tg it cond tg1 it1 cond1 wp wp1)) (gName i)) := by
  have hi' : X.N[i]? = some y := by rw [o.x.hN]; exact hi
  generalize he : IE.lc2 elt tg it cond tg1 it1 cond1 wp wp1 = e at h
  unfold chkE at h
  split at h
  case h_19 =>
    rename_i elt' tg' it' cond' tg1' it1' cond1' wp' wp1' xe xt xi ifs xt1 xi1 ifs1 scope pos
    cases he
    obtain ⟨h1, h⟩ := ba2 h
    obtain ⟨h2, h⟩ := ba2 h
    obtain ⟨h3, h⟩ := ba2 h
    obtain ⟨h4, h⟩ := ba2 h
    obtain ⟨h5, h⟩ := ba2 h
    obtain ⟨h6, h⟩ := ba2 h
    obtain ⟨h7, h⟩ := ba2 h
    obtain ⟨h8, h⟩ := ba2 h
    obtain ⟨h9, h⟩ := ba2 h
    obtain ⟨h10, h⟩ := ba2 h
    obtain ⟨h11, h⟩ := ba2 h
    obtain ⟨h12, h13⟩ := ba2 h
    obtain ⟨s1, s2⟩ := swB_true (l := spos.line) o.kind hs
    refine (ps_setLc2 (wi := LI g z W k X it) (g := gOf X.K tg) (tt := LC g z noW k X cond) (wi1 := LI g z noW k X it1) (g1 := gOf X.K tg1) (tt1 := LC g z noW k X cond1) (te := LD g z noW k X elt) (vs1 := wp1) o.x.calm (by rw [o.x.hN]; exact o.x.nd) hi' s1 s2 (itr_ok o.x h2) (blkOk_by (by rw [o.x.hN]; exact h1)) (by rw [own_map]; exact of_decide_eq_true h11)
      (fun s H C cl fp => ?_) (fun s H C cl fp => ?_) (fun s H C cl fp => ?_) (fun s H C cl fp => ?_) (fun s H C cl fp => ?_) (fun s H C cl fp => ?_) (set_fold h5 _) (fun env => set_fold h8 env)).imp fun E σ H q => ?_
    · exact (tg_ok (X := X.blk s H scope (compEnvC scope cl C X.env) fp) o.x.calm o.x.nd o.x.hN rfl (fun _ q => q) tg xt h3).1
    · exact cnd_ok (o.x.blk s H scope (compEnvC scope cl C X.env) fp) h6
    · exact itr_ok (o.x.blk s H scope (compEnvC scope cl C X.env) fp) h7
    · exact (tg_ok (X := X.blk s H scope (compEnvC scope cl C X.env) fp) o.x.calm o.x.nd o.x.hN rfl (fun _ q => q) tg1 xt1 h9).1
    · exact cnd_ok (o.x.blk s H scope (compEnvC scope cl C X.env) fp) h12
    · exact toD (exp_ok (o.x.blk s H scope (compEnvC scope cl C X.env) fp) h13)
    · rw [own_map]
      exact lc2_ask (tg_ok (X := X.blk X.s_0 H scope (compEnvC scope [] 0 X.env) []) o.x.calm o.x.nd o.x.hN rfl (fun _ q => q) tg xt h3).2 (of_decide_eq_true h4) (tg_ok (X := X.blk X.s_0 H scope (compEnvC scope [] 0 X.env) []) o.x.calm o.x.nd o.x.hN rfl (fun _ q => q) tg1 xt1 h9).2 (of_decide_eq_true h10) q
  all_goals cases he
  cases h
/-- name = value -/
theorem set_ok0 (o : SOk g z W k N X) {i : Nat} {y : Str} {py spos : Pos} (hi : N[i]? = some y) (hy : locB X.env.scope (fun _ => true) y = true) {e : IE} {x : Expr} (hl : lcOnly x = true) (h : chkE g N X.env.scope e x = true) (ht : ∀ e0, e ≠ .thaw e0) : PS X (.Assign [.Name y py] x spos) (tAsg (LE g z W k X e) (gName i)) := by
  have nd : X.N.Nodup := by rw [o.x.hN]; exact o.x.nd
  have hi' : X.N[i]? = some y := by rw [o.x.hN]; exact hi
  have plain : swapsWith x (some (.Name y py)) spos.line X.env = pure false → PS X (.Assign [.Name y py] x spos) (tAsg (LE g z W k X e) (gName i)) := fun hs =>
    ps_set nd hi' (loc_of hy) (exp_ok o.x h) hs (.inl (o.fn y))
  rcases chk_noComp h with hn | rfl | ⟨e0, rfl⟩ | ⟨elt, tg, it, cond, wp, rfl⟩ | ⟨elt, tg, it, cond, tg1, it1, cond1, wp, wp1, rfl⟩
  · exact plain (sw_noComp hn)
  · exact PS.no fun E σ H ⟨F, α, ρ, S, w, er, p⟩ => p
  · exact absurd rfl (ht e0)
  · cases hs : swB X.env.scope y py x with
    | true => exact lc_set o hi h hs
    | false => exact plain (sw_false o.kind hl hs)
  · cases hs : swB X.env.scope y py x with
    | true => exact lc2_set o hi h hs
    | false => exact plain (sw_false o.kind hl hs)
theorem set_ok (o : SOk g z W k N X) {i : Nat} {y : Str} {py spos : Pos} (hi : N[i]? = some y) (hy : locB X.env.scope (fun _ => true) y = true) {e : IE} {x : Expr} (hl : lcOnly x = true) (h : chkE g N X.env.scope e x = true) : PS X (.Assign [.Name y py] x spos) (tAsg (LD g z W k X e) (gName i)) := by
  by_cases ht : ∃ e0, e = .thaw e0
  · obtain ⟨e0, rfl⟩ := ht
    by_cases ht0 : ∃ e1, e0 = .thaw e1
    · obtain ⟨e1, rfl⟩ := ht0
      exact PS.no fun E σ H ⟨F, α, ρ, S, w, er, p⟩ => p
    · have h' : chkE g N X.env.scope e0 x = true := by
        unfold chkE at h
        exact h
      exact (set_ok0 o hi hy hl h' fun e1 q => ht0 ⟨e1, q⟩).imp fun E σ H q => thaw_ask q
  · exact (set_ok0 o hi hy hl h fun e1 q => ht ⟨e1, q⟩).imp fun E σ H q => LG.rl q
theorem ps_asg_ (o : SOk g z W k N X) {i : Nat} {y : Str} {py spos : Pos} (hi : N[i]? = some y) (hy : locB X.env.scope (fun _ => true) y = true) {e : IE} {x : Expr} (hl : lcOnly x = true) (h : chkE g N X.env.scope e x = true) : PS X (.Assign [.Name y py] x spos) (LS g z W k X (.asg i e)) :=
  (set_ok o hi hy hl h).imp fun E σ H ⟨F, α, ρ, S, w, er, p⟩ => LG.at w er (PoF.stm er p fun v H2 F2 α2 d S2 o2 w2 r2 p2 => by
    split at p2
    · exact p2 _ H2 F2 α2 .refl w2 ((er.mono o2).set r2)
    · exact p2.elim)
theorem ps_par_ (o : SOk g z W k N X) {i j : Nat} {y y' : Str} {py py' pt pt2 spos : Pos} {kt k2 : Nat} {e e' : IE} {x x' : Expr} (hi : N[i]? = some y) (hj : N[j]? = some y') (hij : i ≠ j) (hy : isLocal X.env.scope y = true) (hy' : isLocal X.env.scope y' = true) (hl : (py'.line == py.line) = true)
    (hs : notStar x = true) (hs' : notStar x' = true) (hf : [x, x'].all (foldedForSure 8) = false) (hc : [x, x'].all (constantsAlone 8) = false) (h : chkDs g N X.env.scope [e, e'] [x, x'] = true) :
    PS X (.Assign [.Tuple [.Name y py, .Name y' py'] kt pt] (.Tuple [x, x'] k2 pt2) spos) (LS g z W k X (.par [i, j] [e, e'])) := by
  have hne : y ≠ y' := fun q => hij (by
    subst q
    obtain ⟨h1, e1⟩ := List.getElem?_eq_some_iff.mp hi
    obtain ⟨h2, e2⟩ := List.getElem?_eq_some_iff.mp hj
    exact (List.getElem_inj o.x.nd).mp (e1.trans e2.symm))
  refine (ps_par o.x.calm (by rw [o.x.hN]; exact o.x.nd) (by rw [o.x.hN]; exact hi) (by rw [o.x.hN]; exact hj) hij (islocal_of hy) (islocal_of hy') (row_ok o.x h) (sw_par2 o.kind (islocal_of hy) (islocal_of hy') hl hne hs hs' hf hc) rfl).imp fun E σ H ⟨F, α, ρ, S, w, er, p⟩ => LG.at w er (PoF.stm er p fun vs H2 F2 α2 ds S2 o2 w2 r2 p2 => ?_)
  cases ds with
  | nil => exact p2.elim
  | cons d ds =>
    cases ds with
    | nil =>
      simp only [setAll] at p2
      split at p2 <;> first | exact p2.elim | (rename_i q; split at q <;> cases q)
    | cons d' ds =>
      cases ds with
      | cons _ _ =>
        simp only [setAll] at p2
        split at p2
        · rename_i q
          split at q
          · split at q <;> cases q
          · cases q
        · exact p2.elim
      | nil =>
        cases vs with
        | nil => exact r2.elim
        | cons v vs =>
          cases vs with
          | nil => exact r2.2.elim
          | cons v' vs =>
            cases vs with
            | cons _ _ => exact r2.2.2.elim
            | nil =>
              refine ⟨v, v', rfl, ?_⟩
              simp only [setAll] at p2
              split at p2
              · rename_i ρ1 q
                split at q
                · split at q
                  · cases q
                    exact p2 _ H2 F2 α2 .refl w2 (((er.mono o2).set r2.1).set r2.2.1)
                  · cases q
                · cases q
              · exact p2.elim
theorem two_some {α : Type} {l : List α} {a b : α} (h : two l = some (a, b)) : l = [a, b] := by
  unfold two at h
  split at h
  · cases h; rfl
  · cases h
theorem nameP_some {x : Expr} {y : Str} {p : Pos} (h : nameP x = some (y, p)) : x = .Name y p := by
  cases x <;> first | (cases h; rfl) | cases h
theorem tupP_some {x : Expr} {a b : Expr} (h : (tupP x).bind two = some (a, b)) : ∃ k p, x = .Tuple [a, b] k p := by
  cases x <;> first | cases h | skip
  rename_i es k p
  exact ⟨k, p, by rw [two_some (show two es = some (a, b) from h)]⟩
theorem chkPar_ok (o : SOk g z W k N X) {is : List Nat} {es : List IE} {x t : Expr} {spos : Pos} (h : chkPar g N X.env.scope is es x t = true) : PS X (.Assign [t] x spos) (LS g z W k X (.par is es)) := by
  unfold chkPar at h
  split at h
  · rename_i i j e e' t1 t2 x1 x2 q1 q2 q3 q4
    obtain ⟨kt, pt, rfl⟩ := tupP_some q3
    obtain ⟨k2, pt2, rfl⟩ := tupP_some q4
    cases two_some q1
    cases two_some q2
    split at h
    · rename_i y py y' py' r1 r2
      cases nameP_some r1
      cases nameP_some r2
      obtain ⟨h1, h⟩ := ba2 h
      obtain ⟨h2, h⟩ := ba2 h
      obtain ⟨h3, h⟩ := ba2 h
      obtain ⟨h4, h⟩ := ba2 h
      obtain ⟨h5, h⟩ := ba2 h
      obtain ⟨h6, h⟩ := ba2 h
      obtain ⟨h7, h⟩ := ba2 h
      obtain ⟨h8, h⟩ := ba2 h
      obtain ⟨h9, h⟩ := ba2 h
      obtain ⟨h10, h11⟩ := ba2 h
      exact ps_par_ o (of_decide_eq_true h1) (of_decide_eq_true h2) (of_decide_eq_true h3) h4 h5 h6 h7 h8 (by simpa only [Bool.not_eq_true'] using h9) (by simpa only [Bool.not_eq_true'] using h10) h11
    · cases h
  · cases h
theorem nd_ne (nd : N.Nodup) {i j : Nat} {y y' : Str} (hi : N[i]? = some y) (hj : N[j]? = some y') (hij : i ≠ j) : y ≠ y' := fun q => hij (by
  subst q
  obtain ⟨h1, e1⟩ := List.getElem?_eq_some_iff.mp hi
  obtain ⟨h2, e2⟩ := List.getElem?_eq_some_iff.mp hj
  exact (List.getElem_inj nd).mp (e1.trans e2.symm))
theorem three_some {α : Type} {l : List α} {a b c : α} (h : three l = some (a, b, c)) : l = [a, b, c] := by
  unfold three at h
  split at h
  · cases h; rfl
  · cases h
theorem tupP_some3 {x : Expr} {a b c : Expr} (h : (tupP x).bind three = some (a, b, c)) : ∃ k p, x = .Tuple [a, b, c] k p := by
  cases x <;> first | cases h | skip
  rename_i es k p
  exact ⟨k, p, by rw [three_some (show three es = some (a, b, c) from h)]⟩
theorem setAll3 {is : List Nat} {i j l : Nat} (hi : is = [i, j, l]) {ds : List D} {ρ ρ' : Env} (h : setAll is ds ρ = some ρ') : ∃ d1 d2 d3, ds = [d1, d2, d3] ∧ ρ' = ((ρ.set i (some d1)).set j (some d2)).set l (some d3) := by
  subst hi
  match ds with
  | [] => simp [setAll] at h
  | [_] => simp [setAll] at h
  | [_, _] => simp [setAll] at h
  | [d1, d2, d3] =>
    simp only [setAll] at h
    split at h
    · split at h
      · split at h
        · cases h
          exact ⟨d1, d2, d3, rfl, rfl⟩
        · cases h
      · cases h
    · cases h
  | _ :: _ :: _ :: _ :: _ => simp [setAll] at h
theorem DRs.three {d1 d2 d3 : D} {vs : List V} (h : DRs K F1 α [d1, d2, d3] vs) : ∃ v1 v2 v3, vs = [v1, v2, v3] ∧ DR K F1 α d1 v1 ∧ DR K F1 α d2 v2 ∧ DR K F1 α d3 v3 := by
  match vs, h with
  | [v1, v2, v3], h => exact ⟨v1, v2, v3, rfl, h.1, h.2.1, h.2.2.1⟩
theorem chkPar3_ok (o : SOk g z W k N X) {is : List Nat} {es : List IE} {x t : Expr} {spos : Pos} (h : chkPar3 g N X.env.scope is es x t = true) : PS X (.Assign [t] x spos) (LS g z W k X (.par is es)) := by
  unfold chkPar3 at h
  split at h
  · rename_i i j l e e' e'' t1 t2 t3 x1 x2 x3 q1 q2 q3 q4
    obtain ⟨kt, pt, rfl⟩ := tupP_some3 q3
    obtain ⟨k2, pt2, rfl⟩ := tupP_some3 q4
    cases three_some q1
    cases three_some q2
    split at h
    · rename_i y py y' py' y'' py'' r1 r2 r3
      cases nameP_some r1
      cases nameP_some r2
      cases nameP_some r3
      obtain ⟨h1, h⟩ := ba2 h
      obtain ⟨h2, h⟩ := ba2 h
      obtain ⟨h3, h⟩ := ba2 h
      obtain ⟨h4, h⟩ := ba2 h
      obtain ⟨h5, h⟩ := ba2 h
      obtain ⟨h6, h⟩ := ba2 h
      obtain ⟨h7, h⟩ := ba2 h
      obtain ⟨h8, h⟩ := ba2 h
      obtain ⟨h9, h⟩ := ba2 h
      obtain ⟨h10, h⟩ := ba2 h
      obtain ⟨h11, h⟩ := ba2 h
      obtain ⟨h12, h⟩ := ba2 h
      obtain ⟨h13, h⟩ := ba2 h
      obtain ⟨h14, h⟩ := ba2 h
      obtain ⟨h15, h⟩ := ba2 h
      obtain ⟨h16, h17⟩ := ba2 h
      have h1 := of_decide_eq_true h1
      have h2 := of_decide_eq_true h2
      have h3 := of_decide_eq_true h3
      have h4 := of_decide_eq_true h4
      have h5 := of_decide_eq_true h5
      have h6 := of_decide_eq_true h6
      refine (ps_par3 o.x.calm (by rw [o.x.hN]; exact o.x.nd) (by rw [o.x.hN]; exact h1) (by rw [o.x.hN]; exact h2) (by rw [o.x.hN]; exact h3) h4 h5 h6 (islocal_of h7) (islocal_of h8) (islocal_of h9) (row_ok o.x h17)
        (sw_par3 o.kind (islocal_of h7) (islocal_of h8) (islocal_of h9) h10 h11 (nd_ne o.x.nd h1 h2 h4) (nd_ne o.x.nd h1 h3 h5) (nd_ne o.x.nd h2 h3 h6) h12 h13 h14 (by simpa only [Bool.not_eq_true'] using h15) (by simpa only [Bool.not_eq_true'] using h16)) rfl).imp fun E σ H ⟨F, α, ρ, S, w, er, p⟩ => LG.at w er (PoF.stm er p fun vs H2 F2 α2 ds S2 o2 w2 r2 p2 => ?_)
      cases q : setAll [i, j, l] ds ρ with
      | none => simp only [q] at p2; exact p2.elim
      | some ρ' =>
        simp only [q] at p2
        obtain ⟨d1, d2, d3, rfl, rfl⟩ := setAll3 rfl q
        obtain ⟨v1, v2, v3, rfl, g1, g2, g3⟩ := DRs.three r2
        exact ⟨v1, v2, v3, rfl, p2 _ H2 F2 α2 .refl w2 ((((er.mono o2).set g1).set g2).set g3)⟩
    · cases h
  · cases h
theorem ps_unp_ (o : SOk g z W k N X) {ts : Tg} {es : List Expr} {kt : Nat} {pt spos : Pos} {e : IE} {x : Expr} (ht : chkTg N X.env.scope (fun _ => true) ts (.Tuple es kt pt) = true) (hs : swNone X.env.scope es x = true) (h : chkE g N X.env.scope e x = true) :
    PS X (.Assign [.Tuple es kt pt] x spos) (LS g z W k X (.unp ts e)) := by
  obtain ⟨h1, h2⟩ := tg_ok o.x.calm o.x.nd o.x.hN rfl (fun y _ => o.fn y) ts (.Tuple es kt pt) ht
  refine (ps_asg (toD (exp_ok o.x h)) h1 (by show swapsWith x (some (.Tuple es kt pt)) spos.line X.env = pure false; exact sw_none_tup (t := x)) (sw_none hs)).imp fun E σ H ⟨F, α, ρ, S, w, er, p⟩ => LG.at w er (PoF.stm er p fun v H2 F2 α2 d S2 o2 w2 r2 p2 => ?_)
  cases d with
  | cell n => exact p2.elim
  | val p =>
    simp only at p2
    split at p2
    · rename_i ρ1 q
      exact h2 p v σ H2 F2 α2 S2 ρ ρ1 E.nx w2 (er.mono o2) r2 q fun σ' er' _ => p2 σ' H2 F2 α2 .refl w2 er'
    · exact p2.elim
theorem PoF.frz {d : D} {v : V} {kk : P → Store → F} (w : Wd K H F1 α1 S) (r : RD K H F1 α1 d v) (h : PoF K z W F1 α1 ((Pk.frz d S).stm ρ kk) E) :
    ∃ F2 p S1, On F1 α1 F2 α1 ∧ Wd K H F2 α1 S1 ∧ Rp K F2 p v ∧ PoF K z W F2 α1 (kk p S1) E := by
  cases e : Pk.frz d S with
  | stk => rw [e] at h; exact h.elim
  | exc x S1 =>
    exfalso
    unfold Pk.frz at e
    split at e
    · cases e
    · split at e <;> cases e
  | ok p S1 =>
    obtain ⟨F2, q, S2, o2, w2, r2, e2, _⟩ := Po.frz (z := z) (W := W) (σ := []) (Rel := REq) (kk := fun p S => R.ok p S) (Q := fun (_ : P) _ => True) w r (by
      rw [e]
      exact fun _ _ _ _ _ _ _ => trivial)
    rw [e] at e2 h
    cases e2
    exact ⟨F2, p, S1, o2, w2, r2, PoF.on (r := kk p S1) o2 h⟩
theorem ps_setI_ (o : SOk g z W k N X) {ob i e : IE} {a b x : Expr} {pt spos : Pos} (hb : notSlice b = true) (h : chkE g N X.env.scope e x = true) (ha : chkE g N X.env.scope ob a = true) (hi : chkE g N X.env.scope i b = true) :
    PS X (.Assign [.Subscript a b pt] x spos) (LS g z W k X (.setI ob i e)) := by
  refine (ps_asg (toD (exp_ok o.x h)) (pg_sub (toD (exp_ok o.x ha)) (toD (exp_ok o.x hi)) set_list (fun v => by cases b <;> first | rfl | cases hb)) (by show swapsWith x (some (.Subscript a b pt)) spos.line X.env = pure false; exact sw_none_sub) (by cases x <;> rfl)).imp fun E σ H ⟨F, α, ρ, S, w, er, p⟩ => LG.at w er (PoF.stm er p fun v H2 F2 α2 d S2 o2 w2 r2 p2 => ?_)
  refine LG.at w2 (er.mono o2) (PoF.stm (er.mono o2) p2 fun v3 H3 F3 α3 d3 S3 o3 w3 r3 p3 => ?_)
  refine LG.at w3 ((er.mono o2).mono o3) (PoF.stm ((er.mono o2).mono o3) p3 fun v4 H4 F4 α4 d4 S4 o4 w4 r4 p4 => ?_)
  have er4 := ((er.mono o2).mono o3).mono o4
  have r2 : RD X.K H4 F4 α4 d v := (r2.mono o3).mono o4
  have r3 : RD X.K H4 F4 α4 d3 v3 := r3.mono o4
  obtain ⟨F5, p, S5, o5, w5, r5, p5⟩ := PoF.frz w4 r2 p4
  have r4 : DR X.K F5 α4 d4 v4 := r4.mono o5
  have r3 : DR X.K F5 α4 d3 v3 := r3.mono o5
  cases d3 with
  | val q => exact p5.elim
  | cell n =>
    obtain ⟨a', ha', rfl⟩ := r3
    cases e1 : peek S5 d4 with
    | none => simp only [e1] at p5; exact p5.elim
    | some q =>
      cases q with
      | int kk =>
        simp only [e1] at p5
        have hv := (DR.vw w5 r4 e1).int_
        subst hv
        cases hS : S5[n]? with
        | none => simp only [hS] at p5; exact p5.elim
        | some c =>
          cases c with
          | lst ps =>
            simp only [hS] at p5
            obtain ⟨hF, xs, h1, h2, h3⟩ := w5.cell n a' _ ha' hS
            split at p5
            · rename_i j hj
              refine ⟨a', xs, kk, j, rfl, rfl, h1, by rw [h3.length]; exact hj, ?_⟩
              exact p5 σ _ F5 α4 .refl (w5.upd ha' hS (by rw [List.length_set]; exact h2) (h3.set j r5)) (er4.mono o5)
            · exact p5.elim
          | _ => simp only [hS] at p5; exact p5.elim
      | _ => simp only [e1] at p5; exact p5.elim
/-! ### tests, loops -/
theorem ps_if_ {c : IE} {t e : List IS} {c' : Expr} {t' e' : List Stmt} {p : Pos} (hc : PT X c' (LT g z W k X c)) (ht : PSs X t' (LSs g z W k X t)) (he : PSs X e' (LSs g z W k X e)) : PS X (.If c' t' e' p) (LS g z W k X (.ifS c t e)) :=
  (ps_if hc ht he).imp fun E σ H ⟨F, α, ρ, S, w, er, p⟩ => LG.at w er (PoF.stm er p fun b H2 F2 α2 b' S2 o2 w2 r2 p2 => by
    cases r2
    cases b with
    | true => exact LF.at w2 (er.mono o2) p2
    | false => exact LF.at w2 (er.mono o2) p2)
theorem ps_while_ {n : Nat} {c : IE} {body : List IS} {c' : Expr} {b' : List Stmt} {p : Pos} (own : PassesOwn (model X.prog X.w) X.A X.env X.xe) (hc : PT X c' (LT g z W k X c)) (hb : PSs X b' (LSs g z W k X body)) : PS X (.While c' b' [] p) (LS g z W k X (.whileS n c body)) :=
  (ps_while own hc hb).imp fun E σ H ⟨F, α, ρ, S, w, er, p⟩ => by
    refine ⟨fun m σ H => LF X.K z W (whileLoop (evT g.gv (callK g.gv g.G k) c) (vSs g k body) m) E σ H, ⟨n, F, α, ρ, S, w, er, p⟩, ?_⟩
    rintro m σ H ⟨F, α, ρ, S, w, er, p⟩
    cases m with
    | zero => exact p.elim
    | succ m =>
      refine LG.at w er (PoF.stm er p fun b H2 F2 α2 b' S2 o2 w2 r2 p2 => ?_)
      cases r2
      cases b with
      | false =>
        rw [if_neg Bool.false_ne_true]
        exact p2 σ H2 F2 α2 .refl w2 (er.mono o2)
      | true =>
        rw [if_pos rfl]
        refine ⟨LF X.K z W (whileLoop (evT g.gv (callK g.gv g.G k) c) (vSs g k body) m) E, fun σ' H' q => ⟨m, Nat.lt_succ_self m, q⟩, LF.at w2 (er.mono o2) ?_⟩
        rw [if_pos rfl] at p2
        cases e : vSs g k body ρ S2 with
        | nx ρ3 S3 =>
          rw [e] at p2
          exact fun σ' H' F' α' o w er => LF.at w er (PoF.on o p2)
        | ct ρ3 S3 =>
          rw [e] at p2
          exact fun σ' H' F' α' o w er => LF.at w er (PoF.on o p2)
        | bk ρ3 S3 =>
          rw [e] at p2
          exact p2
        | rt d S3 =>
          rw [e] at p2
          exact p2
        | exc x ρ3 S3 =>
          rw [e] at p2
          exact p2
        | stk =>
          rw [e] at p2
          exact p2
theorem ps_for_ (hc : X.calm = true) {tg : Tg} {it : IT} {body : List IS} {t x : Expr} {b' : List Stmt} {p : Pos} (own : PassesOwn (model X.prog X.w) X.A X.env X.xe) (hi : PI X t x (LI g z W k X it)) (hg : PG X t (gOf X.K tg)) (tok : TgOk X.K tg (gOf X.K tg)) (hb : PSs X b' (LSs g z W k X body)) (hs : notSet x = true) :
    PS X (.For t x b' [] p) (LS g z W k X (.forS tg it body)) := (ps_for own hc hi hg hb (set_fold hs _)).imp fun E σ H ⟨F, α, ρ, S, w, er, p⟩ => LG.at w er (PoF.stm er p fun J H1 F1 α1 items S1 o1 w1 r1 p1 => by
  obtain ⟨hlen, G, Y, wk, hG, hY⟩ := r1
  refine for_it wk (fun i σ H => ∃ F α ρ S, On F1 α1 F α ∧ Wd X.K H F α S ∧ EnvR X.K F α ρ σ ∧ PoF X.K z W F α (forLoop tg (vSs g k body) (items.drop i) ρ S) E) ⟨F1, α1, ρ, S1, .refl, w1, er.mono o1, p1⟩ ?_ ?_ ?_
  · rintro i σ H _ ⟨F, α, ρ, S, o, w, _, _⟩
    exact hG H F α S o.same w
  · rintro i v σ H H' hlt ⟨F, α, ρ, S, o, w, er, p⟩ y
    rw [List.drop_eq_getElem_cons hlt] at p
    obtain ⟨F2, o2, w2, rp, _⟩ := hY i v items[i] H H' F α S o.same w (List.getElem?_eq_getElem hlt) y
    unfold forLoop at p
    cases e1 : tgSet tg items[i] ρ with
    | none => simp only [e1] at p; exact p.elim
    | some ρ1 =>
      simp only [e1] at p
      refine tok _ v σ H' F2 α S ρ ρ1 _ w2 (er.mono o2) rp e1 fun σ' er' _ => LF.at w2 er' ?_
      have p := PoF.on o2 p
      cases e : vSs g k body ρ1 S with
      | nx ρ3 S3 =>
        rw [e] at p
        exact fun σ'' H'' F' α' o' w' er'' => ⟨F', α', ρ3, S3, o.trans (o2.trans o'), w', er'', PoF.on o' p⟩
      | ct ρ3 S3 =>
        rw [e] at p
        exact fun σ'' H'' F' α' o' w' er'' => ⟨F', α', ρ3, S3, o.trans (o2.trans o'), w', er'', PoF.on o' p⟩
      | bk ρ3 S3 => rw [e] at p; exact p
      | rt d S3 => rw [e] at p; exact p
      | exc x ρ3 S3 => rw [e] at p; exact p
      | stk => rw [e] at p; exact p
  · rintro σ H ⟨F, α, ρ, S, o, w, er, p⟩
    rw [List.drop_length] at p
    exact p σ H F α .refl w er)
/-! ### all -/
structure AllS (g : Gs) (z : Cz) (k : Nat) (N : List Str) (n : Nat) : Prop where
  s : ∀ (s : IS), sizeOf s < n → ∀ {W : WX} {X : Cx} (o : SOk g z W k N X) (sc : Scope) (x : Stmt), X.env.scope = sc → chkS g N sc s x = true → PS X x (LS g z W k X s)
  ss : ∀ (s : List IS), sizeOf s < n → ∀ {W : WX} {X : Cx} (o : SOk g z W k N X) (sc : Scope) (x : List Stmt), X.env.scope = sc → chkSs g N sc s x = true → PSs X x (LSs g z W k X s)
theorem all_s : ∀ n : Nat, AllS g z k N n
  | 0 => ⟨fun _ h => absurd h (Nat.not_lt_zero _), fun _ h => absurd h (Nat.not_lt_zero _)⟩
  | n + 1 => by
    have A := all_s n
    refine ⟨fun s hn {W X} o sc x hs h => ?_, fun ss hn {W X} o sc xs hs h => ?_⟩
    · unfold chkS at h
      split at h
      · exact ps_nev_
      · rename_i i e t x p
        subst hs
        unfold chkAsg at h
        split at h
        · obtain ⟨h1, h⟩ := ba2 h
          obtain ⟨h2, h⟩ := ba2 h
          obtain ⟨h3, h4⟩ := ba2 h
          exact ps_asg_ o (of_decide_eq_true h1) h2 h3 h4
        · cases h
      · subst hs
        rcases Bool.or_eq_true_iff.mp h with h | h
        · exact chkPar_ok o h
        · exact chkPar3_ok o h
      · subst hs
        unfold chkUnp at h
        split at h
        · obtain ⟨h1, h⟩ := ba2 h
          obtain ⟨h2, h3⟩ := ba2 h
          exact ps_unp_ o h1 h2 h3
        · cases h
      · subst hs
        unfold chkSet at h
        split at h
        · obtain ⟨h1, h⟩ := ba2 h
          obtain ⟨h2, h⟩ := ba2 h
          obtain ⟨h3, h4⟩ := ba2 h
          exact ps_setI_ o h1 h2 h3 h4
        · cases h
      · rename_i c t e c' t' e' p
        subst hs
        obtain ⟨h1, h⟩ := ba2 h
        obtain ⟨h2, h⟩ := ba2 h
        obtain ⟨h3, h4⟩ := ba2 h
        simp only [IS.ifS.sizeOf_spec] at hn
        exact ps_if_ (tst_ok o.x h1 h2) (A.ss t (by omega) o _ _ rfl h3) (A.ss e (by omega) o _ _ rfl h4)
      · rename_i tg it body t x b p
        subst hs
        obtain ⟨h1, h⟩ := ba2 h
        obtain ⟨h2, h⟩ := ba2 h
        obtain ⟨h3, h4⟩ := ba2 h
        simp only [IS.forS.sizeOf_spec] at hn
        obtain ⟨g1, g2⟩ := tg_ok o.x.calm o.x.nd o.x.hN rfl (fun y _ => o.fn y) tg t h1
        exact ps_for_ o.x.calm o.own (itr_ok o.x h3) g1 g2 (A.ss body (by omega) o _ _ rfl h4) h2
      · rename_i m c body c' b p
        subst hs
        obtain ⟨h1, h⟩ := ba2 h
        obtain ⟨h2, h3⟩ := ba2 h
        simp only [IS.whileS.sizeOf_spec] at hn
        exact ps_while_ o.own (tst_ok o.x h1 h2) (A.ss body (by omega) o _ _ rfl h3)
      · subst hs
        exact ps_ret_ (toD (exp_ok o.x h))
      · exact ps_retN_
      · subst hs
        obtain ⟨h1, h2⟩ := ba2 h
        exact ps_expr_ h1 (toD (exp_ok o.x h2))
      · exact ps_pass_
      · exact ps_brk_
      · exact ps_cont_
      · cases h
    · cases ss with
      | nil =>
        cases xs with
        | nil => exact pss_nil_
        | cons _ _ => simp [chkSs] at h
      | cons s ss =>
        cases xs with
        | nil => simp [chkSs] at h
        | cons x xs =>
          simp only [chkSs] at h
          obtain ⟨h1, h2⟩ := ba2 h
          simp only [List.cons.sizeOf_spec] at hn
          exact pss_cons_ (A.s s (by omega) o sc x hs h1) (A.ss ss (by omega) o sc xs hs h2)
/-- a checked body -/
theorem body_ok {W : WX} {X : Cx} (o : SOk g z W k N X) {ss : List IS} {xs : List Stmt} (h : chkSs g N X.env.scope ss xs = true) : PSs X xs (LSs g z W k X ss) := (all_s (sizeOf ss + 1)).ss ss (by omega) o _ xs rfl h
end
end Pk

/-! Part 15: defs -/
namespace Pk
open PySem PySem.Spec PyProof.Rows L2
section
variable {K : PySem.W.Frag} {g : Gs} {z : Cz} {k : Nat} {F1 F2 H : Hp} {α α1 α2 : Al} {S : Store}
theorem Wd.takePush (w : Wd K H F1 α S) {n m : Nat} {a : Addr} {c : Cell} (hm : n ≤ m) (ha : α.l[m]? = some a) (hc : S[m]? = some c) : Wd K H F1 ((α.take n).push a) (S.take n ++ [c]) := by
  have hml : m < α.l.length := (List.getElem?_eq_some_iff.mp ha).1
  have hna : a ∉ α.l.take n := fun hmem => by
    obtain ⟨j, hj⟩ := List.mem_iff_getElem?.mp hmem
    rw [List.getElem?_take] at hj
    split at hj
    · rename_i hjn
      have := nd_inj w.nd ha hj
      omega
    · cases hj
  have hl := w.len
  refine ⟨w.sub, by simp [Al.push, Al.take, hl], List.nodup_append.mpr ⟨w.nd.sublist (List.take_sublist n _), by simp, fun x hx y hy e => ?_⟩, fun x hx => ?_, fun x u e => ⟨(w.held x u e).1, (w.held x u e).2.1, fun hx => ?_⟩, fun j x c' e1 e2 => ?_⟩
  · rw [List.mem_singleton] at hy
    exact hna (hy ▸ e ▸ hx)
  · rcases List.mem_append.mp hx with hx | hx
    · exact w.thr x (List.mem_of_mem_take hx)
    · rw [List.mem_singleton] at hx
      subst hx
      exact w.thr x (List.mem_of_getElem? ha)
  · rcases List.mem_append.mp hx with hx | hx
    · exact (w.held x u e).2.2 (List.mem_of_mem_take hx)
    · rw [List.mem_singleton] at hx
      subst hx
      exact (w.held x u e).2.2 (List.mem_of_getElem? ha)
  · simp only [Al.push, Al.take] at e1
    by_cases hj : j < n
    · rw [List.getElem?_append_left (by simp; omega), List.getElem?_take, if_pos hj] at e1
      rw [List.getElem?_append_left (by simp; omega), List.getElem?_take, if_pos hj] at e2
      exact w.cell j x c' e1 e2
    · have hjn : j = n := by
        have := (List.getElem?_eq_some_iff.mp e1).1
        simp at this
        omega
      subst hjn
      rw [List.getElem?_append_right (by simp; omega)] at e1 e2
      simp only [List.length_take] at e1 e2
      rw [show j - min j α.l.length = 0 by omega] at e1
      rw [show j - min j S.length = 0 by omega] at e2
      cases e1
      cases e2
      exact w.cell m _ _ ha hc
/-- a body's end -/
theorem endB {E : XK} {σ : L2.St} {n : Nat} {r : F} {Q : VK} (hn : α.l.length = n) (h : Po K z (fun cls dd _ H' => E cls dd H') σ F1 α (RD K) (endBody n r) Q) : PoF K z (fun cls dd _ H' => E cls dd H') F1 α r { nx := fun _ H' => Q .non H', rt := Q } := by
  have pre : ∀ {F' : Hp} {α' : Al}, On F1 α F' α' → On F1 α F' (α'.take n) := fun {F' α'} o => ⟨o.same, by
    obtain ⟨t, ht⟩ := o.pre
    show α.l <+: α'.l.take n
    rw [← ht, ← hn, List.take_append_of_le_length (Nat.le_refl _), List.take_length]
    exact List.prefix_refl _, o.T⟩
  cases r with
  | nx ρ S' => exact fun σ' H' F' α' o w er => h .non H' F' (α'.take n) (pre o) (w.take n) (by show Rp _ _ _ _; simp only [Rp])
  | bk ρ S' => exact h.elim
  | ct ρ S' => exact h.elim
  | stk => exact h.elim
  | exc x ρ S' => exact fun cls dd σ' H' F' α' o w er xr => h cls dd H' F' (α'.take n) (pre o) (w.take n) xr
  | rt d S' =>
    intro v H' F' α' o w r
    cases d with
    | val p => exact h v H' F' (α'.take n) (pre o) (w.take n) r
    | cell m =>
      have h : Po K z (fun cls dd _ H' => E cls dd H') σ F1 α (RD K) (if m < n then .ok (.cell m) (S'.take n) else match S'[m]? with
        | some x => .ok (.cell n) (S'.take n ++ [x])
        | none => .stk) Q := h
      obtain ⟨a, ha, rfl⟩ := r
      split at h
      · rename_i hm
        refine h (.ref a) H' F' (α'.take n) (pre o) (w.take n) ⟨a, ?_, rfl⟩
        show (α'.l.take n)[m]? = some a
        rw [List.getElem?_take, if_pos hm]
        exact ha
      · rename_i hm
        cases hS : S'[m]? with
        | none => rw [hS] at h; exact h.elim
        | some c =>
          rw [hS] at h
          have pr := pre o
          have hml : m < α'.l.length := (List.getElem?_eq_some_iff.mp ha).1
          refine h (.ref a) H' F' ((α'.take n).push a) (pr.trans .push) (w.takePush (by omega) ha hS) ⟨a, ?_, rfl⟩
          show (α'.l.take n ++ [a])[n]? = some a
          rw [List.getElem?_append_right (by simp; omega)]
          simp only [List.length_take]
          rw [show n - min n α'.l.length = 0 by omega]
          rfl
theorem envR_start {ds : List D} {vs : List V} {N : List Str} (h : DRs K F1 α ds vs) : EnvR K F1 α (ds.map some ++ List.replicate (N.length - ds.length) none) (L2.start N vs) := by
  have hl := h.length
  unfold L2.start
  refine ⟨by simp [hl], fun i d e => ?_⟩
  have get : ∀ {ds : List D} {vs : List V}, DRs K F1 α ds vs → ∀ (i : Nat) (d : D), ds[i]? = some d → ∃ v, vs[i]? = some v ∧ DR K F1 α d v := by
    intro ds
    induction ds with
    | nil => intro vs _ i d e; simp at e
    | cons d0 ds ih =>
      intro vs h i d e
      cases vs with
      | nil => exact h.elim
      | cons v vs =>
        cases i with
        | zero =>
          simp at e
          subst e
          exact ⟨v, rfl, h.1⟩
        | succ i =>
          obtain ⟨u, h1, h2⟩ := ih h.2 i d (by simpa using e)
          exact ⟨u, by simpa using h1, h2⟩
  by_cases hi : i < ds.length
  · rw [List.getElem?_append_left (by simpa using hi), List.getElem?_map] at e
    cases e1 : ds[i]? with
    | none => rw [e1] at e; cases e
    | some d' =>
      rw [e1] at e
      cases e
      obtain ⟨v, h1, h2⟩ := get h i d e1
      refine ⟨v, ?_, h2⟩
      rw [List.getElem?_append_left (by simp; omega), List.getElem?_map, h1]
      rfl
  · rw [List.getElem?_append_right (by simp; omega)] at e
    have := List.mem_of_getElem? e
    have := List.eq_of_mem_replicate this
    cases this
/-- a def of the module and its reading -/
def DfOk (g : Gs) (K : PySem.W.Frag) (mg : Str → Option Value) (f : Nat) (fd : FD) : Prop := ∃ a fdd x qual params body scope kws, mg (g.fn f) = some (.ref a) ∧ FunD K x qual params body scope [] kws a fdd ∧ FnScope fd.N fd.ps scope ∧ chkSs g fd.N scope fd.body body = true ∧ Binds K fdd fd.ps [] ∧ ∀ e ∈ fd.kw, KBn K fdd fd.ps e.1 e.2.1 (gK e.2.2) (gK e.2.2)
theorem spF_len {f : Nat} {fd : FD} {vs : List V} {Q : VK} {E : XK} (h : spF g z K k f fd vs H Q E) : vs.length = fd.ps.length := by
  obtain ⟨F, α, S, ds, σ, w, r, hl, _⟩ := h
  rw [r.length, hl]
theorem def_ok {P : Program} {w : World} {mg : Str → Option Value} {base : Heap} (C : CallsOk g z k P w K mg base) (free : ∀ x ∈ bNames, mg x = none) (globs : ∀ n p, g.gv n = some p → ∃ u v, mg (g.gn n) = some u ∧ RelV v u ∧ ∀ F, Rp K F p v)
    {f : Nat} {fd : FD} (hf : g.G f = some fd) {a : Addr} {fdd : FuncData} {x qual : Str} {params : Arguments} {body : List Stmt} {scope : Scope} {dvs : List V} {kws : List (Str × V)} (h2 : FunD K x qual params body scope dvs kws a fdd) (h3 : FnScope fd.N fd.ps scope) (h4 : chkSs g fd.N scope fd.body body = true) :
    FnOk P w K mg base (L2.CX P w) (k + 1) a fdd fd.ps (spF g z K (k + 1) f fd) := by
  refine h2.ok h3 (fun vs H Q E h => spF_len h) (fun cdv A outer s H vs Q E hr h => ?_)
  obtain ⟨F, α, S, ds, σ, wd, r, hl, p⟩ := h
  have o : SOk g z (fun cls d _ H => E cls d H) k fd.N (cxOf (L2.CX P w) P w K mg base fd.N qual scope a cdv A outer s H E) :=
    ⟨⟨rfl, h3.nd, rfl, hr, C, takes_of rfl rfl rfl rfl, free, globs⟩, fun _ => rfl, passes_of rfl, h3.kind⟩
  refine ⟨LSs g z (fun cls d _ H => E cls d H) k (cxOf (L2.CX P w) P w K mg base fd.N qual scope a cdv A outer s H E) fd.body, body_ok o h4, ?_⟩
  have p : Po K z (fun cls dd _ H' => E cls dd H') σ F α (RD K) (match g.G f with
    | none => .stk
    | some fd => if ds.length = fd.ps.length then endBody S.length (evSs g.gv (callK g.gv g.G k) fd.body (ds.map some ++ List.replicate (fd.N.length - ds.length) none) S) else .stk) Q := p
  simp only [hf, if_pos hl] at p
  exact ⟨F, α, _, S, wd, envR_start r, endB wd.len p⟩
theorem calls_ok {P : Program} {w : World} {mg : Str → Option Value} {base : Heap} (D : ∀ f fd, g.G f = some fd → DfOk g K mg f fd) (free : ∀ x ∈ bNames, mg x = none) (globs : ∀ n p, g.gv n = some p → ∃ u v, mg (g.gn n) = some u ∧ RelV v u ∧ ∀ F, Rp K F p v) : ∀ k, CallsOk g z k P w K mg base
  | 0 => fun f fd hf => by
    obtain ⟨a, fdd, x, qual, params, body, scope, kws, h1, h2, h3, h4, h5, h6⟩ := D f fd hf
    refine ⟨a, fdd, h1, h2.kp, h5, ⟨fun vs H Q E h => spF_len h, fun A outer s H args us vs Q E _ _ _ _ h => ?_⟩, h6⟩
    obtain ⟨F, α, S, ds, σ, w, r, hl, p⟩ := h
    exact p.elim
  | k + 1 => fun f fd hf => by
    obtain ⟨a, fdd, x, qual, params, body, scope, kws, h1, h2, h3, h4, h5, h6⟩ := D f fd hf
    exact ⟨a, fdd, h1, h2.kp, h5, def_ok (calls_ok D free globs k) free globs hf h2 h3 h4, h6⟩
theorem gK_rel {perm : List Nat} {vs zs : List V} {us ws : List Value} (r : Vals vs us) (q : Vals zs ws) : Vals (gK perm vs zs) (gK perm us ws) := by
  have r2 := r.append q
  unfold gK
  induction perm with
  | nil => exact .nil
  | cons i perm ih =>
    rw [List.filterMap_cons, List.filterMap_cons]
    cases e : (vs ++ zs)[i]? with
    | some v =>
      obtain ⟨u, h1, h2⟩ := Vals.get r2 e
      rw [h1]
      exact .cons h2 ih
    | none =>
      have hl := Vals.length r2
      have : (us ++ ws)[i]? = none := by
        rw [List.getElem?_eq_none_iff] at e ⊢
        omega
      rw [this]
      exact ih
theorem kbn_of {x qual : Str} {params : Arguments} {body : List Stmt} {scope : Scope} {kws : List (Str × V)} {a : Addr} {fdd : FuncData} {ps ks : List Str} {n : Nat} {perm : List Nat} (F : FunD K x qual params body scope [] kws a fdd)
    (h : ∀ (kV doc pm : Value) (an : Option Addr) (cdv ct : Value) (us ws : List Value), us.length = n → ws.length = ks.length → bindArgs (PySem.W.fnOf x qual params body scope .none kV doc pm an cdv ct) ⟨us, ks.zip ws⟩ = pure (ps.zip (gK perm us ws))) : KBn K fdd ps n ks (gK perm) (gK perm) := by
  refine ⟨fun s us ws _ h1 h2 => ?_, fun r q => gK_rel r q⟩
  obtain ⟨oc, od, dV, kV, doc, pm, an, cdv, ct, osl, rfl, lk, hcd, hD, hK⟩ := F.ex
  rcases hD with ⟨_, rfl⟩ | ⟨e, _⟩
  · exact .of_eq (h kV doc pm an cdv ct us ws h1 h2)
  · exact absurd rfl e
/-! ### the law's end -/
def CXa : CXT := fun outer H s E e s' => ∃ P w, L2.CX P w outer H s E e s'
theorem cxa {P : Program} {w : World} {mg : Str → Option Value} {base : Heap} {a : Addr} {fdd : FuncData} {ps : List Str} {sp : Sp} (h : FnOk P w K mg base (L2.CX P w) k a fdd ps sp) : FnOk P w K mg base CXa k a fdd ps sp :=
  ⟨h.len, fun A outer s H args us vs Q E h1 h2 h3 h4 h5 => codeAny_mono (h.run A outer s H args us vs Q E h1 h2 h3 h4 h5) fun r s' hq => by
    cases r with
    | error e => exact ⟨P, w, hq⟩
    | ok f => cases f <;> exact hq⟩
theorem cxa_no (H : Hp) (s : Shared) (e : Value) (s' : Shared) : CXa [] H s (fun _ _ _ => False) e s' → False := by
  rintro ⟨P, w, _, _, _, _, _, _, _, _, _, _, _, _, h⟩
  exact h
/-- a law whose reading comes to True -/
theorem sp_law {f : Nat} {fd : FD} (hf : fd.ps.length = 1) (h : ∀ ns : List Int, ns.length ≤ 63 → ∃ S, callK g.gv g.G k f [.val (.scr ns)] [] = .ok (.val (.bl true)) S) (H : Hp) (a : Addr) (ns : List Int) (hl : ns.length ≤ 63) (hO : Only H) (hS : SqL K H a (ns.map V.int)) :
    spF g z K k f fd [.ref a] H (fun v _ => v = .bl true) fun _ _ _ => False := by
  obtain ⟨S, e⟩ := h ns hl
  refine ⟨H, ⟨[], fun _ => none⟩, [], [.val (.scr ns)], [], ⟨Same.refl H, rfl, List.nodup_nil, (fun a h => by cases h), (fun a o h => by cases h), fun n a c h => by cases h⟩, ⟨?_, trivial⟩, by rw [hf]; rfl, ?_⟩
  · show Rp K H (.scr ns) (.ref a)
    simp only [Rp]
    refine ⟨a, rfl, hS, by rw [lim_eq]; unfold lim; omega, ?_⟩
    rcases hS with (h | ⟨o, h⟩) | ⟨o, its, n, h1, h2, _⟩
    · rcases hO a with e | ⟨o, xs, e⟩
      · rw [e] at h; cases h
      · rw [e] at h; cases h
    · exact .inl ⟨o, h⟩
    · exact .inr ⟨o, h1, h2⟩
  · rw [e]
    intro v H' F' α' o w r
    have r : Rp K F' (.bl true) v := r
    simpa only [Rp] using r
end
end Pk

/-! Shared specs, 1: drawing numbers -/
namespace Pk
open PySem
def R.Ok {α : Type} (r : R α) (Q : α → Store → Prop) : Prop := match r with
  | .ok a S => Q a S
  | _ => False
theorem R.Ok.bind {α β : Type} {r : R α} {f : α → Store → R β} {Q : β → Store → Prop} (h : r.Ok fun a S => (f a S).Ok Q) : (r.bind f).Ok Q := by
  cases r with
  | ok a S => exact h
  | exc x S => exact h
  | stk => exact h
theorem R.Ok.mono {α : Type} {r : R α} {Q Q' : α → Store → Prop} (h : r.Ok Q) (k : ∀ a S, Q a S → Q' a S) : r.Ok Q' := by
  cases r with
  | ok a S => exact k a S h
  | exc x S => exact h
  | stk => exact h
theorem R.Ok.out {α : Type} {r : R α} {Q : α → Store → Prop} (h : r.Ok Q) : ∃ a S, r = .ok a S ∧ Q a S := by
  cases r with
  | ok a S => exact ⟨a, S, rfl, h⟩
  | exc x S => exact h.elim
  | stk => exact h.elim
theorem R.Ok.of {α : Type} {a : α} {S : Store} {Q : α → Store → Prop} (h : Q a S) : (R.ok a S).Ok Q := h
/-- a box: a number that is drawn from, a beginning, a count -/
def BoxC (a b c : Int) : Cell := .lst [.int a, .int b, .int c]
/-- a box that is well: what it may still count -/
structure BoxOk (a b c : Int) (T : Int) : Prop where
  a0 : 0 ≤ a
  b0 : 0 ≤ b
  b1 : b < 2 ^ 63
  c0 : 0 ≤ c
  c1 : c + T ≤ 2 ^ 40
def takeBody : List IS := [
    .ifS (.cmp .Gt (.idx (.var 0) (.int 0)) (.int 0)) [
      .asg 5 (.bin .Mod (.blt .int [.idx (.var 0) (.int 0)]) (.var 1)),
      .setI (.var 0) (.int 0) (.bin .FloorDiv (.idx (.var 0) (.int 0)) (.var 1)),
      .ret (.var 5)] [],
    .setI (.var 0) (.int 2) (.bin .Add (.idx (.var 0) (.int 2)) (.int 1)),
    .asg 2 (.bin .Mod (.blt .int [.bin .Mult (.bin .Add (.idx (.var 0) (.int 1)) (.bin .Mult (.int 48271) (.idx (.var 0) (.int 2)))) (.bin .Add (.int 39373) (.idx (.var 0) (.int 2)))]) (.int 2147483647)),
    .asg 3 (.bin .Add (.bin .Mod (.blt .int [.var 2]) (.int 40009)) (.int 7)),
    .asg 4 (.bin .Mod (.blt .int [.bin .Mult (.bin .Add (.bin .Add (.var 2) (.idx (.var 0) (.int 2))) (.bin .FloorDiv (.idx (.var 0) (.int 1)) (.int 1000003))) (.var 3)]) (.int 2147483629)),
    .ret (.bin .Mod (.blt .int [.bin .FloorDiv (.bin .Mod (.blt .int [.bin .Add (.bin .Mult (.var 4) (.int 48271)) (.var 2)]) (.int 2147483587)) (.int 64)]) (.var 1))]
theorem small_of {i : Int} (h1 : 0 ≤ i) (h2 : i < 2 ^ 64) : small i = true := by
  unfold small
  simp only [Bool.and_eq_true, decide_eq_true_eq]
  omega
theorem take_body {gv : Nat → Option P} {c : CallF} {n : Nat} {S : Store} {a b cc m T : Int} (hS : S[n]? = some (BoxC a b cc)) (ok : BoxOk a b cc (T + 1)) (hT : 0 ≤ T) (hm : 0 < m) (hm2 : m < 1073741824) :
    ∃ r a' c' ρ, evSs gv c takeBody [some (.cell n), some (.val (.int m)), none, none, none, none] S = .rt (.val (.int r)) (S.set n (BoxC a' b c')) ∧ 0 ≤ r ∧ r < m ∧ BoxOk a' b c' T ∧ ρ = () := by
  have hn : n < S.length := (List.getElem?_eq_some_iff.mp hS).1
  obtain ⟨a0, b0, b1, c0, c1⟩ := ok
  unfold BoxC at hS
  by_cases ha : 0 < a
  · refine ⟨a % m, a / m, cc, (), ?_, Int.emod_nonneg _ (by omega), Int.emod_lt_of_pos _ hm, ⟨Int.ediv_nonneg a0 (by omega), b0, b1, c0, by omega⟩, rfl⟩
    simp [takeBody, evSs, evS, evE, evT, evDs, peek, peeks, hS, ixP, L2.atI, L2.ixN, cmpP, gtP, ha, giv, R.bind, R.stm, F.seq, Pk.truthy, bltP, binP, hm, hm2, Pk.frz, BoxC]
  · have s1 : small (39373 + (cc + 1)) = true := small_of (by omega) (by omega)
    have s2 : ∀ i : Int, small (i % 40009 + 7) = true := fun i => small_of (by have := Int.emod_nonneg i (show (40009 : Int) ≠ 0 by decide); omega) (by have := Int.emod_lt_of_pos i (show (0 : Int) < 40009 by decide); omega)
    have s3 : small 48271 = true := by decide
    have h2 : ∀ x : Cell, (S.set n x)[n]? = some x := fun x => List.getElem?_set_self hn
    generalize e1 : (b + 48271 * (cc + 1)) * (39373 + (cc + 1)) % 2147483647 = once
    generalize e2 : (once + (cc + 1) + b / 1000003) * (once % 40009 + 7) % 2147483629 = twice
    refine ⟨(twice * 48271 + once) % 2147483587 / 64 % m, a, cc + 1, (), ?_, Int.emod_nonneg _ (by omega), Int.emod_lt_of_pos _ hm, ⟨a0, b0, b1, by omega, by omega⟩, rfl⟩
    simp [takeBody, evSs, evS, evE, evT, evDs, peek, peeks, hS, ixP, L2.atI, L2.ixN, cmpP, gtP, ha, giv, R.bind, R.stm, F.seq, Pk.truthy, bltP, binP, hm, hm2, Pk.frz, BoxC, h2, s1, s2, s3, e1, e2, -List.getElem?_set_self, -List.getElem?_set]
end Pk

/-! A way to run the small language by simp: each piece from the front, nothing behind it before its turn -/
namespace Pk
open PySem
/-- a thing that stands by what follows, so that simp leaves it alone -/
structure Tag {α : Type} (a : α) : Type where
def R.bd {α β : Type} (r : R α) (f : α → Store → R β) (_ : Tag f) : R β := r.bind f
def R.st {α : Type} (ρ : Env) (r : R α) (k : α → Store → F) (_ : Tag k) : F := R.stm ρ r k
@[simp] theorem bind_ok {α β : Type} (a : α) (S : Store) (f : α → Store → R β) (t : Tag f) : (R.ok a S).bd f t = f a S := rfl
@[simp] theorem bind_exc {α β : Type} (x : Exn) (S : Store) (f : α → Store → R β) (t : Tag f) : (R.exc x S : R α).bd f t = .exc x S := rfl
@[simp] theorem bind_stk {α β : Type} (f : α → Store → R β) (t : Tag f) : (R.stk : R α).bd f t = .stk := rfl
@[simp] theorem stm_ok {α : Type} (ρ : Env) (a : α) (S : Store) (k : α → Store → F) (t : Tag k) : R.st ρ (.ok a S) k t = k a S := rfl
@[simp] theorem stm_exc {α : Type} (ρ : Env) (x : Exn) (S : Store) (k : α → Store → F) (t : Tag k) : R.st ρ (.exc x S : R α) k t = .exc x ρ S := rfl
@[simp] theorem bind_ok0 {α β : Type} (a : α) (S : Store) (f : α → Store → R β) : (R.ok a S).bind f = f a S := rfl
@[simp] theorem giv_some (p : P) (S : Store) : giv (some p) S = .ok (.val p) S := rfl
section
variable (gv : Nat → Option P) (c : CallF) (ρ : Env) (S : Store)
/-- then the other statements -/
def sqL (r : F) (ss : List IS) : F := r.seq fun ρ S => evSs gv c ss ρ S
@[simp] theorem sqL_nx (ss : List IS) : sqL gv c (.nx ρ S) ss = evSs gv c ss ρ S := rfl
@[simp] theorem sqL_rt (d : D) (ss : List IS) : sqL gv c (.rt d S) ss = .rt d S := rfl
@[simp] theorem sqL_bk (ss : List IS) : sqL gv c (.bk ρ S) ss = .bk ρ S := rfl
@[simp] theorem sqL_ct (ss : List IS) : sqL gv c (.ct ρ S) ss = .ct ρ S := rfl
@[simp] theorem sqL_exc (x : Exn) (ss : List IS) : sqL gv c (.exc x ρ S) ss = .exc x ρ S := rfl
@[simp] theorem evSs_nil : evSs gv c [] ρ S = .nx ρ S := by simp only [evSs] <;> rfl
@[simp] theorem evSs_cons (s : IS) (ss : List IS) : evSs gv c (s :: ss) ρ S = sqL gv c (evS gv c s ρ S) ss := by simp only [evSs] <;> rfl
@[simp] theorem evS_asg (i : Nat) (e : IE) : evS gv c (.asg i e) ρ S = (evE gv c e ρ S).st ρ (fun d S1 => if i < ρ.length then .nx (ρ.set i (some d)) S1 else .stk) ⟨⟩ := by simp only [evS] <;> rfl
@[simp] theorem evS_par (is : List Nat) (es : List IE) : evS gv c (.par is es) ρ S = (evDs gv c es ρ S).st ρ (fun ds S1 => match setAll is ds ρ with
    | some ρ1 => .nx ρ1 S1
    | none => .stk) ⟨⟩ := by simp only [evS] <;> rfl
@[simp] theorem evS_unp (tg : Tg) (e : IE) : evS gv c (.unp tg e) ρ S = (evE gv c e ρ S).st ρ (fun d S1 => match d with
    | .val p => match tgSet tg p ρ with
      | some ρ1 => .nx ρ1 S1
      | none => .stk
    | _ => .stk) ⟨⟩ := by simp only [evS] <;> rfl
@[simp] theorem evS_setI (o i e : IE) : evS gv c (.setI o i e) ρ S = (evE gv c e ρ S).st ρ (fun d S1 => (evE gv c o ρ S1).st ρ (fun x S2 => (evE gv c i ρ S2).st ρ (fun y S3 => (frz d S3).st ρ (fun p S4 => match x, peek S4 y with
    | .cell n, some (.int k) => match S4[n]? with
      | some (.lst ps) => match L2.ixN ps.length k with
        | some j => .nx ρ (S4.set n (.lst (ps.set j p)))
        | none => .stk
      | _ => .stk
    | _, _ => .stk) ⟨⟩) ⟨⟩) ⟨⟩) ⟨⟩ := by simp only [evS] <;> rfl
@[simp] theorem evS_if (t : IE) (a b : List IS) : evS gv c (.ifS t a b) ρ S = (evT gv c t ρ S).st ρ (fun k S1 => if k then evSs gv c a ρ S1 else evSs gv c b ρ S1) ⟨⟩ := by simp only [evS] <;> rfl
@[simp] theorem evS_for (tg : Tg) (it : IT) (body : List IS) : evS gv c (.forS tg it body) ρ S = (evI gv c it ρ S).st ρ (fun items S1 => forLoop tg (evSs gv c body) items ρ S1) ⟨⟩ := by simp only [evS] <;> rfl
@[simp] theorem evS_while (n : Nat) (t : IE) (body : List IS) : evS gv c (.whileS n t body) ρ S = whileLoop (evT gv c t) (evSs gv c body) n ρ S := by simp only [evS] <;> rfl
@[simp] theorem evS_ret (e : IE) : evS gv c (.ret e) ρ S = (evE gv c e ρ S).st ρ (fun d S1 => .rt d S1) ⟨⟩ := by simp only [evS] <;> rfl
@[simp] theorem evS_retN : evS gv c .retN ρ S = .rt (.val .non) S := by simp only [evS] <;> rfl
@[simp] theorem evS_expr (e : IE) : evS gv c (.exprS e) ρ S = (evE gv c e ρ S).st ρ (fun _ S1 => .nx ρ S1) ⟨⟩ := by simp only [evS] <;> rfl
@[simp] theorem evS_pass : evS gv c .pass ρ S = .nx ρ S := by simp only [evS] <;> rfl
@[simp] theorem evS_brk : evS gv c .brk ρ S = .bk ρ S := by simp only [evS] <;> rfl
@[simp] theorem evS_cont : evS gv c .cont ρ S = .ct ρ S := by simp only [evS] <;> rfl
/-- the truth of what is told -/
def trS (x : D) (S : Store) : R Bool := match (peek S x).bind truthy with
  | some b => .ok b S
  | none => .stk
@[simp] theorem trS_bl (b : Bool) : trS (.val (.bl b)) S = .ok b S := rfl
@[simp] theorem trS_lst (ps : List P) : trS (.val (.lst ps)) S = .ok (!ps.isEmpty) S := rfl
@[simp] theorem trS_tup (ps : List P) : trS (.val (.tup ps)) S = .ok (!ps.isEmpty) S := rfl
@[simp] theorem trS_int (i : Int) : trS (.val (.int i)) S = .ok (decide (i ≠ 0)) S := rfl
@[simp] theorem trS_non : trS (.val .non) S = .ok false S := rfl
@[simp] theorem evT_eq (e : IE) : evT gv c e ρ S = (evE gv c e ρ S).bd trS ⟨⟩ := rfl
@[simp] theorem evE_non : evE gv c .non ρ S = .ok (.val .non) S := by simp only [evE] <;> rfl
@[simp] theorem evE_bl (b : Bool) : evE gv c (.bl b) ρ S = .ok (.val (.bl b)) S := by simp only [evE] <;> rfl
@[simp] theorem evE_int (i : Int) : evE gv c (.int i) ρ S = .ok (.val (.int i)) S := by simp only [evE] <;> rfl
@[simp] theorem evE_str (x : Str) : evE gv c (.str x) ρ S = .ok (.val (.str x)) S := by simp only [evE] <;> rfl
/-- what a slot holds -/
def rdS (o : Option (Option D)) (S : Store) : R D := match o with
  | some (some d) => .ok d S
  | _ => .stk
@[simp] theorem rdS_some (d : D) : rdS (some (some d)) S = .ok d S := rfl
@[simp] theorem evE_var (i : Nat) : evE gv c (.var i) ρ S = rdS ρ[i]? S := by simp only [evE] <;> rfl
@[simp] theorem evE_glob (g : Nat) : evE gv c (.glob g) ρ S = giv (gv g) S := by simp only [evE] <;> rfl
/-- two operands looked at -/
def pk2 (f : P → P → Option P) (x y : D) (S : Store) : R D := match peek S x, peek S y with
  | some p, some q => giv (f p q) S
  | _, _ => .stk
@[simp] theorem pk2_val (f : P → P → Option P) (p q : P) : pk2 f (.val p) (.val q) S = giv (f p q) S := rfl
@[simp] theorem evE_bin (op : Operator) (a b : IE) : evE gv c (.bin op a b) ρ S = (evE gv c a ρ S).bd (fun x S1 => (evE gv c b ρ S1).bd (pk2 (binP op) x) ⟨⟩) ⟨⟩ := by simp only [evE] <;> rfl
@[simp] theorem evE_cmp (op : CmpOp) (a b : IE) : evE gv c (.cmp op a b) ρ S = (evE gv c a ρ S).bd (fun x S1 => (evE gv c b ρ S1).bd (pk2 (fun p q => (cmpP op p q).map .bl) x) ⟨⟩) ⟨⟩ := by simp only [evE] <;> rfl
@[simp] theorem evE_idx (a b : IE) : evE gv c (.idx a b) ρ S = (evE gv c a ρ S).bd (fun x S1 => (evE gv c b ρ S1).bd (pk2 ixP x) ⟨⟩) ⟨⟩ := by simp only [evE] <;> rfl
def pk1 (f : P → Option P) (x : D) (S : Store) : R D := match peek S x with
  | some p => giv (f p) S
  | none => .stk
@[simp] theorem pk1_val (f : P → Option P) (p : P) : pk1 f (.val p) S = giv (f p) S := rfl
def negP : P → Option P
  | .int i => some (.int (-i))
  | _ => none
@[simp] theorem negP_int (i : Int) : negP (.int i) = some (.int (-i)) := rfl
@[simp] theorem evE_neg (a : IE) : evE gv c (.neg a) ρ S = (evE gv c a ρ S).bd (pk1 negP) ⟨⟩ := by
  simp only [evE]
  show _ = R.bind _ _
  congr 1
  funext x S1
  unfold pk1
  cases peek S1 x with
  | none => rfl
  | some p => cases p <;> rfl
@[simp] theorem evE_not (a : IE) : evE gv c (.not a) ρ S = (evE gv c a ρ S).bd (fun x S1 => (trS x S1).bd (fun b S1 => .ok (.val (.bl (!b))) S1) ⟨⟩) ⟨⟩ := by
  simp only [evE]
  show _ = R.bind _ _
  congr 1
  funext x S1
  unfold trS
  cases (peek S1 x).bind truthy <;> rfl
@[simp] theorem evE_chain (o1 o2 : CmpOp) (a b e : IE) : evE gv c (.chain o1 o2 a b e) ρ S = (evE gv c a ρ S).bd (fun x S1 => (evE gv c b ρ S1).bd (fun y S2 => match peek S2 x, peek S2 y with
    | some p, some q => match cmpP o1 p q with
      | some true => (evE gv c e ρ S2).bd (pk2 (fun p q => (cmpP o2 p q).map .bl) y) ⟨⟩
      | some false => .ok (.val (.bl false)) S2
      | none => .stk
    | _, _ => .stk) ⟨⟩) ⟨⟩ := by simp only [evE] <;> rfl
@[simp] theorem evE_and (es : List IE) : evE gv c (.and es) ρ S = evAnd gv c es ρ S := by simp only [evE] <;> rfl
@[simp] theorem evE_or (es : List IE) : evE gv c (.or es) ρ S = evOr gv c es ρ S := by simp only [evE] <;> rfl
@[simp] theorem evAnd_one (e : IE) : evAnd gv c [e] ρ S = evE gv c e ρ S := by simp only [evAnd] <;> rfl
@[simp] theorem evAnd_cons (e e1 : IE) (es : List IE) : evAnd gv c (e :: e1 :: es) ρ S = (evE gv c e ρ S).bd (fun x S1 => (trS x S1).bd (fun b S1 => if b then evAnd gv c (e1 :: es) ρ S1 else .ok x S1) ⟨⟩) ⟨⟩ := by
  simp only [evAnd]
  show _ = R.bind _ _
  congr 1
  funext x S1
  unfold trS
  cases (peek S1 x).bind truthy with
  | none => rfl
  | some b => cases b <;> rfl
@[simp] theorem evOr_one (e : IE) : evOr gv c [e] ρ S = evE gv c e ρ S := by simp only [evOr] <;> rfl
@[simp] theorem evOr_cons (e e1 : IE) (es : List IE) : evOr gv c (e :: e1 :: es) ρ S = (evE gv c e ρ S).bd (fun x S1 => (trS x S1).bd (fun b S1 => if b then .ok x S1 else evOr gv c (e1 :: es) ρ S1) ⟨⟩) ⟨⟩ := by
  simp only [evOr]
  show _ = R.bind _ _
  congr 1
  funext x S1
  unfold trS
  cases (peek S1 x).bind truthy with
  | none => rfl
  | some b => cases b <;> rfl
@[simp] theorem evE_ite (t a b : IE) : evE gv c (.ite t a b) ρ S = (evE gv c t ρ S).bd (fun x S1 => (trS x S1).bd (fun k S1 => if k then evE gv c a ρ S1 else evE gv c b ρ S1) ⟨⟩) ⟨⟩ := by
  simp only [evE]
  show _ = R.bind _ _
  congr 1
  funext x S1
  unfold trS
  cases (peek S1 x).bind truthy with
  | none => rfl
  | some b => cases b <;> rfl
/-- a row of such a length -/
def mkR (f : List P → P) (ps : List P) (S : Store) : R D := if ps.length ≤ lim then .ok (.val (f ps)) S else .stk
theorem mkR_ok {f : List P → P} {ps : List P} {S : Store} (h : ps.length ≤ lim) : mkR f ps S = .ok (.val (f ps)) S := by unfold mkR; rw [if_pos h]
@[simp] theorem mkR_nil (f : List P → P) : mkR f [] S = .ok (.val (f [])) S := rfl
@[simp] theorem evE_lst (es : List IE) : evE gv c (.lst es) ρ S = (evPs gv c es ρ S).bd (mkR .lst) ⟨⟩ := by simp only [evE] <;> rfl
@[simp] theorem evE_tup (es : List IE) : evE gv c (.tup es) ρ S = (evPs gv c es ρ S).bd (mkR .tup) ⟨⟩ := by simp only [evE] <;> rfl
@[simp] theorem evPs_nil : evPs gv c [] ρ S = .ok [] S := by simp only [evPs] <;> rfl
@[simp] theorem evPs_star (e : IE) (es : List IE) : evPs gv c (.star e :: es) ρ S = (evE gv c e ρ S).bd (fun d S1 => match (peek S1 d).bind seqP with
    | some qs => (evPs gv c es ρ S1).bd (fun ps S2 => .ok (qs ++ ps) S2) ⟨⟩
    | none => .stk) ⟨⟩ := by simp only [evPs] <;> rfl
theorem evPs_consE {e : IE} (he : ∀ x, e ≠ .star x) (es : List IE) : evPs gv c (e :: es) ρ S = (evE gv c e ρ S).bd (fun d S1 => (frz d S1).bd (fun p S2 => (evPs gv c es ρ S2).bd (fun ps S3 => .ok (p :: ps) S3) ⟨⟩) ⟨⟩) ⟨⟩ := by
  cases e <;> first
    | exact absurd rfl (he _)
    | (simp only [evPs]; rfl)
@[simp] theorem frz_val (p : P) : frz (.val p) S = .ok p S := rfl
@[simp] theorem evPs_non (es : List IE) : evPs gv c (.non :: es) ρ S = (evE gv c .non ρ S).bd (fun d S1 => (frz d S1).bd (fun p S2 => (evPs gv c es ρ S2).bd (fun ps S3 => .ok (p :: ps) S3) ⟨⟩) ⟨⟩) ⟨⟩ := by simp only [evPs] <;> rfl
@[simp] theorem evPs_bl {x0} (es : List IE) : evPs gv c ((.bl x0) :: es) ρ S = (evE gv c (.bl x0) ρ S).bd (fun d S1 => (frz d S1).bd (fun p S2 => (evPs gv c es ρ S2).bd (fun ps S3 => .ok (p :: ps) S3) ⟨⟩) ⟨⟩) ⟨⟩ := by simp only [evPs] <;> rfl
@[simp] theorem evPs_int {x0} (es : List IE) : evPs gv c ((.int x0) :: es) ρ S = (evE gv c (.int x0) ρ S).bd (fun d S1 => (frz d S1).bd (fun p S2 => (evPs gv c es ρ S2).bd (fun ps S3 => .ok (p :: ps) S3) ⟨⟩) ⟨⟩) ⟨⟩ := by simp only [evPs] <;> rfl
@[simp] theorem evPs_str {x0} (es : List IE) : evPs gv c ((.str x0) :: es) ρ S = (evE gv c (.str x0) ρ S).bd (fun d S1 => (frz d S1).bd (fun p S2 => (evPs gv c es ρ S2).bd (fun ps S3 => .ok (p :: ps) S3) ⟨⟩) ⟨⟩) ⟨⟩ := by simp only [evPs] <;> rfl
@[simp] theorem evPs_var {x0} (es : List IE) : evPs gv c ((.var x0) :: es) ρ S = (evE gv c (.var x0) ρ S).bd (fun d S1 => (frz d S1).bd (fun p S2 => (evPs gv c es ρ S2).bd (fun ps S3 => .ok (p :: ps) S3) ⟨⟩) ⟨⟩) ⟨⟩ := by simp only [evPs] <;> rfl
@[simp] theorem evPs_glob {x0} (es : List IE) : evPs gv c ((.glob x0) :: es) ρ S = (evE gv c (.glob x0) ρ S).bd (fun d S1 => (frz d S1).bd (fun p S2 => (evPs gv c es ρ S2).bd (fun ps S3 => .ok (p :: ps) S3) ⟨⟩) ⟨⟩) ⟨⟩ := by simp only [evPs] <;> rfl
@[simp] theorem evPs_bin {x0 x1 x2} (es : List IE) : evPs gv c ((.bin x0 x1 x2) :: es) ρ S = (evE gv c (.bin x0 x1 x2) ρ S).bd (fun d S1 => (frz d S1).bd (fun p S2 => (evPs gv c es ρ S2).bd (fun ps S3 => .ok (p :: ps) S3) ⟨⟩) ⟨⟩) ⟨⟩ := by simp only [evPs] <;> rfl
@[simp] theorem evPs_neg {x0} (es : List IE) : evPs gv c ((.neg x0) :: es) ρ S = (evE gv c (.neg x0) ρ S).bd (fun d S1 => (frz d S1).bd (fun p S2 => (evPs gv c es ρ S2).bd (fun ps S3 => .ok (p :: ps) S3) ⟨⟩) ⟨⟩) ⟨⟩ := by simp only [evPs] <;> rfl
@[simp] theorem evPs_not {x0} (es : List IE) : evPs gv c ((.not x0) :: es) ρ S = (evE gv c (.not x0) ρ S).bd (fun d S1 => (frz d S1).bd (fun p S2 => (evPs gv c es ρ S2).bd (fun ps S3 => .ok (p :: ps) S3) ⟨⟩) ⟨⟩) ⟨⟩ := by simp only [evPs] <;> rfl
@[simp] theorem evPs_cmp {x0 x1 x2} (es : List IE) : evPs gv c ((.cmp x0 x1 x2) :: es) ρ S = (evE gv c (.cmp x0 x1 x2) ρ S).bd (fun d S1 => (frz d S1).bd (fun p S2 => (evPs gv c es ρ S2).bd (fun ps S3 => .ok (p :: ps) S3) ⟨⟩) ⟨⟩) ⟨⟩ := by simp only [evPs] <;> rfl
@[simp] theorem evPs_chain {x0 x1 x2 x3 x4} (es : List IE) : evPs gv c ((.chain x0 x1 x2 x3 x4) :: es) ρ S = (evE gv c (.chain x0 x1 x2 x3 x4) ρ S).bd (fun d S1 => (frz d S1).bd (fun p S2 => (evPs gv c es ρ S2).bd (fun ps S3 => .ok (p :: ps) S3) ⟨⟩) ⟨⟩) ⟨⟩ := by simp only [evPs] <;> rfl
@[simp] theorem evPs_and {x0} (es : List IE) : evPs gv c ((.and x0) :: es) ρ S = (evE gv c (.and x0) ρ S).bd (fun d S1 => (frz d S1).bd (fun p S2 => (evPs gv c es ρ S2).bd (fun ps S3 => .ok (p :: ps) S3) ⟨⟩) ⟨⟩) ⟨⟩ := by simp only [evPs] <;> rfl
@[simp] theorem evPs_or {x0} (es : List IE) : evPs gv c ((.or x0) :: es) ρ S = (evE gv c (.or x0) ρ S).bd (fun d S1 => (frz d S1).bd (fun p S2 => (evPs gv c es ρ S2).bd (fun ps S3 => .ok (p :: ps) S3) ⟨⟩) ⟨⟩) ⟨⟩ := by simp only [evPs] <;> rfl
@[simp] theorem evPs_ite {x0 x1 x2} (es : List IE) : evPs gv c ((.ite x0 x1 x2) :: es) ρ S = (evE gv c (.ite x0 x1 x2) ρ S).bd (fun d S1 => (frz d S1).bd (fun p S2 => (evPs gv c es ρ S2).bd (fun ps S3 => .ok (p :: ps) S3) ⟨⟩) ⟨⟩) ⟨⟩ := by simp only [evPs] <;> rfl
@[simp] theorem evPs_lst {x0} (es : List IE) : evPs gv c ((.lst x0) :: es) ρ S = (evE gv c (.lst x0) ρ S).bd (fun d S1 => (frz d S1).bd (fun p S2 => (evPs gv c es ρ S2).bd (fun ps S3 => .ok (p :: ps) S3) ⟨⟩) ⟨⟩) ⟨⟩ := by simp only [evPs] <;> rfl
@[simp] theorem evPs_tup {x0} (es : List IE) : evPs gv c ((.tup x0) :: es) ρ S = (evE gv c (.tup x0) ρ S).bd (fun d S1 => (frz d S1).bd (fun p S2 => (evPs gv c es ρ S2).bd (fun ps S3 => .ok (p :: ps) S3) ⟨⟩) ⟨⟩) ⟨⟩ := by simp only [evPs] <;> rfl
@[simp] theorem evPs_lc {x0 x1 x2 x3 x4} (es : List IE) : evPs gv c ((.lc x0 x1 x2 x3 x4) :: es) ρ S = (evE gv c (.lc x0 x1 x2 x3 x4) ρ S).bd (fun d S1 => (frz d S1).bd (fun p S2 => (evPs gv c es ρ S2).bd (fun ps S3 => .ok (p :: ps) S3) ⟨⟩) ⟨⟩) ⟨⟩ := by simp only [evPs] <;> rfl
@[simp] theorem evPs_lc2 {x0 x1 x2 x3 x4 x5 x6 x7 x8} (es : List IE) : evPs gv c ((.lc2 x0 x1 x2 x3 x4 x5 x6 x7 x8) :: es) ρ S = (evE gv c (.lc2 x0 x1 x2 x3 x4 x5 x6 x7 x8) ρ S).bd (fun d S1 => (frz d S1).bd (fun p S2 => (evPs gv c es ρ S2).bd (fun ps S3 => .ok (p :: ps) S3) ⟨⟩) ⟨⟩) ⟨⟩ := by simp only [evPs] <;> rfl
@[simp] theorem evPs_idx {x0 x1} (es : List IE) : evPs gv c ((.idx x0 x1) :: es) ρ S = (evE gv c (.idx x0 x1) ρ S).bd (fun d S1 => (frz d S1).bd (fun p S2 => (evPs gv c es ρ S2).bd (fun ps S3 => .ok (p :: ps) S3) ⟨⟩) ⟨⟩) ⟨⟩ := by simp only [evPs] <;> rfl
@[simp] theorem evPs_sl {x0 x1 x2} (es : List IE) : evPs gv c ((.sl x0 x1 x2) :: es) ρ S = (evE gv c (.sl x0 x1 x2) ρ S).bd (fun d S1 => (frz d S1).bd (fun p S2 => (evPs gv c es ρ S2).bd (fun ps S3 => .ok (p :: ps) S3) ⟨⟩) ⟨⟩) ⟨⟩ := by simp only [evPs] <;> rfl
@[simp] theorem evPs_call {x0 x1 x2} (es : List IE) : evPs gv c ((.call x0 x1 x2) :: es) ρ S = (evE gv c (.call x0 x1 x2) ρ S).bd (fun d S1 => (frz d S1).bd (fun p S2 => (evPs gv c es ρ S2).bd (fun ps S3 => .ok (p :: ps) S3) ⟨⟩) ⟨⟩) ⟨⟩ := by simp only [evPs] <;> rfl
@[simp] theorem evPs_callK {x0 x1 x2 x3 x4 x5} (es : List IE) : evPs gv c ((.callK x0 x1 x2 x3 x4 x5) :: es) ρ S = (evE gv c (.callK x0 x1 x2 x3 x4 x5) ρ S).bd (fun d S1 => (frz d S1).bd (fun p S2 => (evPs gv c es ρ S2).bd (fun ps S3 => .ok (p :: ps) S3) ⟨⟩) ⟨⟩) ⟨⟩ := by simp only [evPs] <;> rfl
@[simp] theorem evPs_blt {x0 x1} (es : List IE) : evPs gv c ((.blt x0 x1) :: es) ρ S = (evE gv c (.blt x0 x1) ρ S).bd (fun d S1 => (frz d S1).bd (fun p S2 => (evPs gv c es ρ S2).bd (fun ps S3 => .ok (p :: ps) S3) ⟨⟩) ⟨⟩) ⟨⟩ := by simp only [evPs] <;> rfl
@[simp] theorem evPs_meth {x0 x1 x2} (es : List IE) : evPs gv c ((.meth x0 x1 x2) :: es) ρ S = (evE gv c (.meth x0 x1 x2) ρ S).bd (fun d S1 => (frz d S1).bd (fun p S2 => (evPs gv c es ρ S2).bd (fun ps S3 => .ok (p :: ps) S3) ⟨⟩) ⟨⟩) ⟨⟩ := by simp only [evPs] <;> rfl
@[simp] theorem evPs_isi {x0 x1 x2} (es : List IE) : evPs gv c ((.isi x0 x1 x2) :: es) ρ S = (evE gv c (.isi x0 x1 x2) ρ S).bd (fun d S1 => (frz d S1).bd (fun p S2 => (evPs gv c es ρ S2).bd (fun ps S3 => .ok (p :: ps) S3) ⟨⟩) ⟨⟩) ⟨⟩ := by simp only [evPs] <;> rfl
@[simp] theorem evPs_thaw {x0} (es : List IE) : evPs gv c ((.thaw x0) :: es) ρ S = (evE gv c (.thaw x0) ρ S).bd (fun d S1 => (frz d S1).bd (fun p S2 => (evPs gv c es ρ S2).bd (fun ps S3 => .ok (p :: ps) S3) ⟨⟩) ⟨⟩) ⟨⟩ := by simp only [evPs] <;> rfl
@[simp] theorem evDs_nil : evDs gv c [] ρ S = .ok [] S := by simp only [evDs] <;> rfl
@[simp] theorem evDs_cons (e : IE) (es : List IE) : evDs gv c (e :: es) ρ S = (evE gv c e ρ S).bd (fun d S1 => (evDs gv c es ρ S1).bd (fun ds S2 => .ok (d :: ds) S2) ⟨⟩) ⟨⟩ := by simp only [evDs] <;> rfl
@[simp] theorem evE_call (keep : Bool) (f : Nat) (args : List IE) : evE gv c (.call keep f args) ρ S = (evDs gv c args ρ S).bd (fun ds S1 => (c f ds S1).bd (fun d S2 => endCall keep S1.length d S2) ⟨⟩) ⟨⟩ := by simp only [evE] <;> rfl
@[simp] theorem evE_callK (keep : Bool) (f : Nat) (args kws : List IE) (ks : List Str) (perm : List Nat) : evE gv c (.callK keep f args kws ks perm) ρ S = (evDs gv c args ρ S).bd (fun ds S1 => (evDs gv c kws ρ S1).bd (fun es S2 => match pick (ds ++ es) perm with
    | some xs => (c f xs S2).bd (fun d S3 => endCall keep S2.length d S3) ⟨⟩
    | none => .stk) ⟨⟩) ⟨⟩ := by simp only [evE] <;> rfl
def bl1 (b : Blt) (ds : List D) (S : Store) : R D := match peeks S ds with
  | some ps => giv (bltP b ps) S
  | none => .stk
@[simp] theorem bl1_val (b : Blt) (p : P) : bl1 b [.val p] S = giv (bltP b [p]) S := rfl
@[simp] theorem evE_blt (b : Blt) (args : List IE) : evE gv c (.blt b args) ρ S = (evDs gv c args ρ S).bd (bl1 b) ⟨⟩ := by simp only [evE] <;> rfl
def isiS (ts : List Ty) (x : D) (S : Store) : R D := match (peek S x).bind fun p => tyAny p ts with
  | some b => .ok (.val (.bl b)) S
  | none => .stk
@[simp] theorem isiS_val (ts : List Ty) (p : P) : isiS ts (.val p) S = giv ((tyAny p ts).map .bl) S := by
  unfold isiS
  show (match tyAny p ts with | some b => R.ok (D.val (.bl b)) S | none => .stk) = _
  cases tyAny p ts <;> rfl
@[simp] theorem evE_isi (e : IE) (ts : List Ty) (many : Bool) : evE gv c (.isi e ts many) ρ S = (evE gv c e ρ S).bd (isiS ts) ⟨⟩ := by simp only [evE] <;> rfl
def thawS (d : D) (S : Store) : R D := newCell d S
@[simp] theorem thawS_lst (ps : List P) : thawS (.val (.lst ps)) S = .ok (.cell S.length) (S ++ [.lst ps]) := rfl
theorem evE_thaw {e : IE} (h : fresh e = true) : evE gv c (.thaw e) ρ S = (evE gv c e ρ S).bd thawS ⟨⟩ := by simp only [evE, h, if_true] <;> rfl
@[simp] theorem evI_seq (e : IE) : evI gv c (.seq e) ρ S = (evE gv c e ρ S).bd (fun d S1 => (frz d S1).bd (fun p S2 => match itemsP p with
    | some ps => .ok ps S2
    | none => .stk) ⟨⟩) ⟨⟩ := by simp only [evI] <;> rfl
@[simp] theorem evI_rng (es : List IE) : evI gv c (.rng es) ρ S = (evDs gv c es ρ S).bd (fun ds S1 => match (peeks S1 ds).bind rngP with
    | some ps => .ok ps S1
    | none => .stk) ⟨⟩ := by simp only [evI] <;> rfl
@[simp] theorem evI_enum (e : IE) : evI gv c (.enum e) ρ S = (evE gv c e ρ S).bd (fun d S1 => (frz d S1).bd (fun p S2 => match p with
    | .lst ps => .ok (enumP 0 ps) S2
    | _ => .stk) ⟨⟩) ⟨⟩ := by simp only [evI] <;> rfl
@[simp] theorem evI_zip (a b : IE) : evI gv c (.zip a b) ρ S = (evE gv c a ρ S).bd (fun x S1 => (evE gv c b ρ S1).bd (fun y S2 => (frz x S2).bd (fun p S3 => (frz y S3).bd (fun q S4 => match zipK p q with
    | some ps => .ok ps S4
    | none => .stk) ⟨⟩) ⟨⟩) ⟨⟩) ⟨⟩ := by simp only [evI] <;> rfl
@[simp] theorem evC_none : evC gv c none ρ S = .ok true S := by simp only [evC] <;> rfl
@[simp] theorem evC_some (e : IE) : evC gv c (some e) ρ S = (evE gv c e ρ S).bd trS ⟨⟩ := by simp only [evC] <;> rfl
@[simp] theorem evO_none : evO gv c none ρ S = .ok none S := by simp only [evO] <;> rfl
@[simp] theorem evO_some (e : IE) : evO gv c (some e) ρ S = (evE gv c e ρ S).bd (fun x S1 => match peek S1 x with
    | some (.int i) => .ok (some i) S1
    | _ => .stk) ⟨⟩ := by simp only [evO] <;> rfl
@[simp] theorem evE_sl (a : IE) (lo hi : Option IE) : evE gv c (.sl a lo hi) ρ S = (evE gv c a ρ S).bd (fun x S1 => (evO gv c lo ρ S1).bd (fun l S2 => (evO gv c hi ρ S2).bd (fun h S3 => pk1 (fun p => slP p l h) x S3) ⟨⟩) ⟨⟩) ⟨⟩ := by
  simp only [evE]
  rfl
theorem evE_meth (m : Mt) (o : IE) (args : List IE) : evE gv c (.meth m o args) ρ S = (evE gv c o ρ S).bind fun x S1 => if methOk m x S1 then (evDs gv c args ρ S1).bind fun ds S2 =>
      if isMut m then match x, ds with
        | .cell n, [d] => (if m = .append then frz d S2 else match peek S2 d with | some p => .ok p S2 | none => .stk).bind fun p S3 => match S3[n]? with
          | some (.lst ps) => match mutP m ps [p] with
            | some qs => .ok (.val .non) (S3.set n (.lst qs))
            | none => .stk
          | _ => .stk
        | _, _ => .stk
      else match peek S2 x, peeks S2 ds with
        | some p, some ps => giv (methP m p ps) S2
        | _, _ => .stk
      else .stk := by simp only [evE] <;> rfl
/-- what a comprehension does with an item -/
def lcF (elt : IE) (tg : Tg) (cond : Option IE) (wp : List Nat) (p : P) (S : Store) : R (Option P) := match tgSet tg p (wipeE ρ wp) with
  | none => .stk
  | some ρ1 => (evC gv c cond ρ1 S).bd (fun b S1 => if b then (evE gv c elt ρ1 S1).bd (fun d S2 => (frz d S2).bd (fun q S3 => .ok (some q) S3) ⟨⟩) ⟨⟩ else .ok none S1) ⟨⟩
def okL (ps : List P) (S : Store) : R D := .ok (.val (.lst ps)) S
@[simp] theorem okL_eq (ps : List P) : okL ps S = .ok (.val (.lst ps)) S := rfl
@[simp] theorem evE_lc (elt : IE) (tg : Tg) (it : IT) (cond : Option IE) (wp : List Nat) : evE gv c (.lc elt tg it cond wp) ρ S = (evI gv c it ρ S).bd (fun items S1 => (lcLoop (lcF gv c ρ elt tg cond wp) items S1).bd okL ⟨⟩) ⟨⟩ := by simp only [evE] <;> rfl
def lcF2 (elt : IE) (tg : Tg) (cond : Option IE) (tg1 : Tg) (it1 : IT) (cond1 : Option IE) (wp wp1 : List Nat) (p : P) (S : Store) : R (List P) := match tgSet tg p (wipeE ρ wp) with
  | none => .stk
  | some ρ1 => (evC gv c cond ρ1 S).bd (fun b S1 => if b then (evI gv c it1 ρ1 S1).bd (fun items1 S2 => lcLoop (lcF gv c ρ1 elt tg1 cond1 wp1) items1 S2) ⟨⟩ else .ok [] S1) ⟨⟩
@[simp] theorem evE_lc2 (elt : IE) (tg : Tg) (it : IT) (cond : Option IE) (tg1 : Tg) (it1 : IT) (cond1 : Option IE) (wp wp1 : List Nat) : evE gv c (.lc2 elt tg it cond tg1 it1 cond1 wp wp1) ρ S = (evI gv c it ρ S).bd (fun items S1 => (lcLoop2 (lcF2 gv c ρ elt tg cond tg1 it1 cond1 wp wp1) items S1).bd (mkR .lst) ⟨⟩) ⟨⟩ := by simp only [evE] <;> rfl
end
@[simp] theorem peek_val (S : Store) (p : P) : peek S (.val p) = some p := rfl
@[simp] theorem peeks_nil (S : Store) : peeks S [] = some [] := rfl
@[simp] theorem peeks_val (S : Store) (p : P) (ds : List D) : peeks S (.val p :: ds) = (peeks S ds).map (p :: ·) := by
  show (match some p, peeks S ds with | some p, some ps => some (p :: ps) | _, _ => none) = _
  cases peeks S ds <;> rfl
theorem peek_lst {S : Store} {n : Nat} {ps : List P} (h : S[n]? = some (.lst ps)) : peek S (.cell n) = some (.lst ps) := by
  show (match S[n]? with | some (.lst ps) => some (P.lst ps) | some (.dct kvs) => some (.dct kvs) | some (.fz p) => some p | _ => none) = _
  rw [h]
theorem frz_lst {S : Store} {n : Nat} {ps : List P} (h : S[n]? = some (.lst ps)) : frz (.cell n) S = .ok (.lst ps) (S.set n (.fz (.lst ps))) := by
  show (match S[n]? with | some (.lst ps) => R.ok (P.lst ps) (S.set n (.fz (.lst ps))) | some (.dct kvs) => .ok (.dct kvs) (S.set n (.fz (.dct kvs))) | some (.fz p) => .ok p S | _ => .stk) = _
  rw [h]
end Pk

/-! What the small functions give, for simp -/
namespace Pk
open PySem
section
variable (p q : P) (ps qs : List P) (b : Bool) (i j : Int) (x y : Str) (S : Store) (ρ : Env)
@[simp] theorem s_tr1 : truthy .non = some false := rfl
@[simp] theorem s_tr2 : truthy (.bl b) = some b := rfl
@[simp] theorem s_tr3 : truthy (.int i) = some (decide (i ≠ 0)) := rfl
@[simp] theorem s_tr5 : truthy (.tup ps) = some (!ps.isEmpty) := rfl
@[simp] theorem s_tr6 : truthy (.lst ps) = some (!ps.isEmpty) := rfl
@[simp] theorem s_b1 : bltP .abs [.int i] = some (.int (if i < 0 then -i else i)) := rfl
@[simp] theorem s_b2 : bltP .all [.lst ps] = (allB ps).map .bl := rfl
@[simp] theorem s_b3 : bltP .any [.lst ps] = (anyB ps).map .bl := rfl
@[simp] theorem s_b4 : bltP .int [.int i] = some (.int i) := rfl
@[simp] theorem s_b5 : bltP .int [.bl b] = some (.int (if b = true then 1 else 0)) := rfl
@[simp] theorem s_b6 : bltP .len [.lst ps] = some (.int ps.length) := rfl
@[simp] theorem s_b7 : bltP .len [.tup ps] = some (.int ps.length) := rfl
@[simp] theorem s_b8 (ns : List Int) : bltP .len [.scr ns] = some (.int ns.length) := rfl
@[simp] theorem s_b10 : bltP .list [p] = (seqP p).map .lst := rfl
@[simp] theorem s_b11 : bltP .tuple [p] = (seqP p).map .tup := rfl
@[simp] theorem s_b12 : bltP .str [.str x] = some (.str x) := rfl
@[simp] theorem s_ta1 : tyAny p [] = some false := rfl
@[simp] theorem s_ta2 (t : Ty) (ts : List Ty) : tyAny p (t :: ts) = match tyB p t, tyAny p ts with
    | some a, some b => some (a || b)
    | _, _ => none := rfl
@[simp] theorem s_it1 : itemsP (.lst ps) = some ps := rfl
@[simp] theorem s_it2 : itemsP (.tup ps) = some ps := rfl
@[simp] theorem s_it3 (ns : List Int) : itemsP (.scr ns) = some (ns.map .int) := rfl
@[simp] theorem s_sq1 : seqP (.lst ps) = some ps := rfl
@[simp] theorem s_sq2 : seqP (.tup ps) = some ps := rfl
@[simp] theorem s_sq3 : seqP (.int i) = none := rfl
@[simp] theorem s_wi1 : wipeE ρ [] = ρ := rfl
@[simp] theorem s_wi2 (v : Nat) (vs : List Nat) : wipeE ρ (v :: vs) = (wipeE ρ vs).set v none := rfl
@[simp] theorem s_tg1 (n : Nat) : tgSet (.nm n) p ρ = if n < ρ.length then some (ρ.set n (some (.val p))) else none := rfl
@[simp] theorem s_tg2 (ts : List Tg) : tgSet (.tp ts) (.tup ps) ρ = tgSets ts ps ρ := rfl
@[simp] theorem s_ts1 : tgSets [] [] ρ = some ρ := rfl
@[simp] theorem s_ts2 (t : Tg) (ts : List Tg) : tgSets (t :: ts) (p :: ps) ρ = match tgSet t p ρ with
    | some ρ' => tgSets ts ps ρ'
    | none => none := rfl
@[simp] theorem s_sa1 : setAll [] [] ρ = some ρ := rfl
@[simp] theorem s_sa2 (n : Nat) (is : List Nat) (d : D) (ds : List D) : setAll (n :: is) (d :: ds) ρ = if n < ρ.length then setAll is ds (ρ.set n (some d)) else none := rfl
@[simp] theorem s_c1 : cmpP .Eq p q = eqP p q := rfl
@[simp] theorem s_c2 : cmpP .NotEq p q = (eqP p q).map (!·) := rfl
@[simp] theorem s_c3 : cmpP .Lt p q = ordF false 60 p q := rfl
@[simp] theorem s_c4 : cmpP .LtE p q = ordF true 60 p q := rfl
@[simp] theorem s_c5 : cmpP .Gt p q = gtP false p q := rfl
@[simp] theorem s_c6 : cmpP .GtE p q = gtP true p q := rfl
@[simp] theorem s_c7 : cmpP .Is p q = isP p q := rfl
@[simp] theorem s_c8 : cmpP .IsNot p q = (isP p q).map (!·) := rfl
@[simp] theorem s_c9 : cmpP .In p q = inP p q := rfl
@[simp] theorem s_c10 : cmpP .NotIn p q = (inP p q).map (!·) := rfl
@[simp] theorem s_g1 : gtP b (.int i) (.int j) = some (if b then decide (j ≤ i) else decide (j < i)) := rfl
@[simp] theorem s_is1 : isP p .non = some (isNon p) := by cases p <;> rfl
@[simp] theorem s_is2 (a b : Bool) : isP (.bl a) (.bl b) = some (decide (a = b)) := rfl
@[simp] theorem s_n1 : isNon .non = true := rfl
@[simp] theorem s_n2 : isNon (.bl b) = false := rfl
@[simp] theorem s_n3 : isNon (.int i) = false := rfl
@[simp] theorem s_n4 : isNon (.str x) = false := rfl
@[simp] theorem s_n5 : isNon (.tup ps) = false := rfl
@[simp] theorem s_n6 : isNon (.lst ps) = false := rfl
@[simp] theorem s_n7 (ns : List Int) : isNon (.scr ns) = false := rfl
@[simp] theorem s_o1 (le : Bool) (n : Nat) : ordF le (n + 1) (.int i) (.int j) = some (if le then decide (i ≤ j) else decide (i < j)) := rfl
@[simp] theorem s_o2 (le : Bool) (n : Nat) : ordF le (n + 1) (.str x) (.str y) = some (if le then !strLt y x else strLt x y) := rfl
end
@[simp] theorem endBody_val' {n : Nat} {p : P} {S : Store} (h : n = S.length) : endBody n (.rt (.val p) S) = .ok (.val p) S := by
  subst h
  show R.ok (D.val p) (S.take S.length) = _
  rw [List.take_length]
/-- a comprehension's block, for one name -/
theorem lcF_nm {gv : Nat → Option P} {c : CallF} {ρ : Env} {S : Store} {elt : IE} {w : Nat} {p : P} {wp : List Nat} (h : w < (wipeE ρ wp).length) : lcF gv c ρ elt (.nm w) none wp p S = (evE gv c elt ((wipeE ρ wp).set w (some (.val p))) S).bd (fun d S2 => (frz d S2).bd (fun q S3 => .ok (some q) S3) ⟨⟩) ⟨⟩ := by
  unfold lcF
  rw [s_tg1, if_pos h]
  simp only [evC_none, bind_ok, if_true]
end Pk

/-! Shared specs, 2: loops, calls -/
namespace Pk
open PySem
def F.Ok (r : F) (Q : Env → Store → Prop) (V : D → Store → Prop) : Prop := match r with
  | .nx ρ S => Q ρ S
  | .rt d S => V d S
  | _ => False
theorem lcLoop_pure {f : P → Store → R (Option P)} {h : P → P} {S : Store} : ∀ {ps : List P}, (∀ p ∈ ps, f p S = .ok (some (h p)) S) → lcLoop f ps S = .ok (ps.map h) S
  | [], _ => rfl
  | p :: ps, hp => by
    unfold lcLoop
    rw [hp p List.mem_cons_self]
    simp only [R.noX, R.bind, lcLoop_pure fun q hq => hp q (List.mem_cons_of_mem _ hq)]
    rfl
theorem lcLoop_opt {f : P → Store → R (Option P)} {h : P → Option P} {S : Store} : ∀ {ps : List P}, (∀ p ∈ ps, f p S = .ok (h p) S) → lcLoop f ps S = .ok (ps.filterMap h) S
  | [], _ => rfl
  | p :: ps, hp => by
    unfold lcLoop
    rw [hp p List.mem_cons_self]
    simp only [R.noX, R.bind, lcLoop_opt fun q hq => hp q (List.mem_cons_of_mem _ hq), List.filterMap_cons]
    cases h p <;> rfl
theorem allB_map {α : Type} (h : α → Bool) : ∀ ps : List α, allB (ps.map fun p => P.bl (h p)) = some (ps.all h)
  | [] => rfl
  | p :: ps => by
    simp only [List.map_cons, allB, allB_map h ps, List.all_cons, Option.map_some]
theorem lcLoop2_pure {f : P → Store → R (List P)} {h : P → List P} {S : Store} : ∀ {ps : List P}, (∀ p ∈ ps, f p S = .ok (h p) S) → lcLoop2 f ps S = .ok (ps.flatMap h) S
  | [], _ => rfl
  | p :: ps, hp => by
    unfold lcLoop2
    rw [hp p List.mem_cons_self]
    simp only [R.noX, R.bind, lcLoop2_pure fun q hq => hp q (List.mem_cons_of_mem _ hq), List.flatMap_cons]
/-- a loop that changes what is stored: each turn keeps I and gives an item of A -/
theorem lcLoop_inv {f : P → Store → R (Option P)} (I : Nat → Store → Prop) (A : P → Prop) : ∀ {ps : List P} {S : Store} (k : Nat), I (k + ps.length) S → (∀ p ∈ ps, ∀ j S, I (j + 1) S → (f p S).Ok fun o S' => ∃ q, o = some q ∧ A q ∧ I j S') →
    (lcLoop f ps S).Ok fun qs S' => qs.length = ps.length ∧ (∀ q ∈ qs, A q) ∧ I k S'
  | [], S, k, h, _ => ⟨rfl, (fun q h => by cases h), h⟩
  | p :: ps, S, k, h, hp => by
    unfold lcLoop
    obtain ⟨o, S1, e1, q, rfl, hq, h1⟩ := (hp p List.mem_cons_self (k + ps.length) S (by simpa [Nat.add_assoc] using h)).out
    rw [e1]
    refine R.Ok.bind ?_
    show ((lcLoop f ps S1).bind _).Ok _
    obtain ⟨qs, S2, e2, h2, h3, h4⟩ := (lcLoop_inv I A k h1 fun p' hp' => hp p' (List.mem_cons_of_mem _ hp')).out
    rw [e2]
    refine ⟨by simp [h2], fun r hr => ?_, h4⟩
    rcases List.mem_cons.mp hr with e | hr
    · exact e ▸ hq
    · exact h3 r hr
/-- a for loop: each turn keeps I -/
theorem forLoop_inv {tg : Tg} {f : Env → Store → F} (I : Nat → Env → Store → Prop) {V : D → Store → Prop} : ∀ {ps : List P} {ρ : Env} {S : Store} (k : Nat), I (k + ps.length) ρ S → (∀ p ∈ ps, ∀ j ρ S, I (j + 1) ρ S → ∃ ρ1, tgSet tg p ρ = some ρ1 ∧ (f ρ1 S).Ok (I j) V) →
    (forLoop tg f ps ρ S).Ok (I k) V
  | [], ρ, S, k, h, _ => h
  | p :: ps, ρ, S, k, h, hp => by
    unfold forLoop
    obtain ⟨ρ1, e1, h1⟩ := hp p List.mem_cons_self (k + ps.length) ρ S (by simpa [Nat.add_assoc] using h)
    rw [e1]
    simp only
    cases e : f ρ1 S with
    | nx ρ2 S2 =>
      rw [e] at h1
      exact forLoop_inv I k h1 fun p' hp' => hp p' (List.mem_cons_of_mem _ hp')
    | rt d S2 => rw [e] at h1; exact h1
    | bk _ _ => rw [e] at h1; exact h1.elim
    | ct _ _ => rw [e] at h1; exact h1.elim
    | exc _ _ _ => rw [e] at h1; exact h1.elim
    | stk => rw [e] at h1; exact h1.elim
/-- a call, one step down -/
theorem callK_one {gv : Nat → Option P} {G : Nat → Option FD} {k f : Nat} {fd : FD} {ds : List D} {S : Store} (h : G f = some fd) (hl : ds.length = fd.ps.length) :
    callK gv G (k + 1) f ds S = endBody S.length (evSs gv (callK gv G k) fd.body (ds.map some ++ List.replicate (fd.N.length - ds.length) none) S) := by
  show (match G f with
    | none => R.stk
    | some fd => if ds.length = fd.ps.length then endBody S.length (evSs gv (callK gv G k) fd.body (ds.map some ++ List.replicate (fd.N.length - ds.length) none) S) else .stk) = _
  rw [h]
  simp only [hl, if_true]
/-- a box in its place -/
def Bx (S : Store) (n : Nat) (T : Int) : Prop := ∃ a b c, S[n]? = some (BoxC a b c) ∧ BoxOk a b c T
/-- only the box has changed -/
def Sm (S : Store) (n : Nat) (S' : Store) : Prop := ∃ x, S' = S.set n x
theorem Sm.refl {S : Store} {n : Nat} {T : Int} (h : Bx S n T) : Sm S n S := by
  obtain ⟨a, b, c, h, _⟩ := h
  refine ⟨BoxC a b c, ?_⟩
  obtain ⟨h1, h2⟩ := List.getElem?_eq_some_iff.mp h
  rw [← h2, List.set_getElem_self]
theorem Sm.trans {S S1 S2 : Store} {n : Nat} (h : Sm S n S1) (h' : Sm S1 n S2) : Sm S n S2 := by
  obtain ⟨x, rfl⟩ := h
  obtain ⟨y, rfl⟩ := h'
  exact ⟨y, by rw [List.set_set]⟩
theorem Sm.length {S S1 : Store} {n : Nat} (h : Sm S n S1) : S1.length = S.length := by
  obtain ⟨x, rfl⟩ := h
  simp
theorem Bx.less {S : Store} {n : Nat} {T T' : Int} (h : Bx S n T) (hT : T' ≤ T) : Bx S n T' := by
  obtain ⟨a, b, c, h, h1, h2, h3, h4, h5⟩ := h
  exact ⟨a, b, c, h, h1, h2, h3, h4, by omega⟩
def TakeSp (c : CallF) (t : Nat) : Prop := ∀ n S m T, Bx S n (T + 1) → 0 ≤ T → 0 < m → m < 1073741824 → (c t [.cell n, .val (.int m)] S).Ok fun d S' => ∃ r, d = .val (.int r) ∧ 0 ≤ r ∧ r < m ∧ Bx S' n T ∧ Sm S n S'
theorem take_sp {gv : Nat → Option P} {G : Nat → Option FD} {k t : Nat} {fd : FD} (h : G t = some fd) (h1 : fd.ps.length = 2) (h2 : fd.N.length = 6) (h3 : fd.body = takeBody) : TakeSp (callK gv G (k + 1)) t := by
  intro n S m T ⟨a, b, c, hS, ok⟩ hT hm hm2
  obtain ⟨r, a', c', _, e, r0, r1, ok', _⟩ := take_body (gv := gv) (c := callK gv G k) hS ok hT hm hm2
  rw [callK_one h (by rw [h1]; rfl), h2, h3]
  have hn : n < S.length := (List.getElem?_eq_some_iff.mp hS).1
  show (endBody S.length (evSs gv (callK gv G k) takeBody [some (.cell n), some (.val (.int m)), none, none, none, none] S)).Ok _
  rw [e]
  refine ⟨r, rfl, r0, r1, ?_, BoxC a' b c', ?_⟩
  · rw [List.take_of_length_le (by simp)]
    exact ⟨a', b, c', List.getElem?_set_self hn, ok'⟩
  · rw [List.take_of_length_le (by simp)]
end Pk
namespace Pk
open PySem
theorem endBody_val {p : P} {S : Store} : endBody S.length (.rt (.val p) S) = .ok (.val p) S := by
  show R.ok (D.val p) (S.take S.length) = _
  rw [List.take_length]
/-- a call whose body hands back a value and leaves the store -/
theorem call_pure {gv : Nat → Option P} {G : Nat → Option FD} {k f : Nat} {fd : FD} {ds : List D} {S : Store} {p : P} (h : G f = some fd) (hl : ds.length = fd.ps.length)
    (e : evSs gv (callK gv G k) fd.body (ds.map some ++ List.replicate (fd.N.length - ds.length) none) S = .rt (.val p) S) : callK gv G (k + 1) f ds S = .ok (.val p) S := by
  rw [callK_one h hl, e, endBody_val]
end Pk
namespace Pk
open PySem
theorem beq_dec (a b : Ty) : (a == b) = decide (a = b) := by cases a <;> cases b <;> first | rfl | (rename_i x y; by_cases h : x = y <;> simp [h])
@[simp] theorem tyB_non (t : Ty) : tyB .non t = some false := rfl
@[simp] theorem tyB_bl (b : Bool) (t : Ty) : tyB (.bl b) t = some (decide (t = .bool) || decide (t = .int)) := by simp only [tyB, beq_dec]
@[simp] theorem tyB_int (i : Int) (t : Ty) : tyB (.int i) t = some (decide (t = .int)) := by simp only [tyB, beq_dec]
@[simp] theorem tyB_str (x : Str) (t : Ty) : tyB (.str x) t = some (decide (t = .str)) := by simp only [tyB, beq_dec]
@[simp] theorem tyB_tup (ps : List P) (t : Ty) : tyB (.tup ps) t = some (decide (t = .tuple)) := by simp only [tyB, beq_dec]
@[simp] theorem tyB_lst (ps : List P) (t : Ty) : tyB (.lst ps) t = some (decide (t = .list)) := by simp only [tyB, beq_dec]
end Pk
namespace Pk
@[simp] theorem endCall_val {keep : Bool} {n : Nat} {p : P} {S : Store} : endCall keep n (.val p) S = .ok (.val p) S := by cases keep <;> rfl
@[simp] theorem endCall_true {n : Nat} {d : D} {S : Store} : endCall true n d S = .ok d S := rfl
end Pk
namespace Pk
open PySem
theorem shaped_int (i : Int) : shapedP (.int i) = some (.int i) := rfl
theorem shaped_bl (i : Bool) : shapedP (.bl i) = some (.bool i) := rfl
theorem shaped_non : shapedP .non = some .none := rfl
@[simp] theorem eqP_int (i j : Int) : eqP (.int i) (.int j) = some (decide (i = j)) := by
  unfold eqP
  rw [shaped_int, shaped_int]
  rfl
@[simp] theorem eqP_bl (a b : Bool) : eqP (.bl a) (.bl b) = some (a == b) := by
  unfold eqP
  rw [shaped_bl, shaped_bl]
  rfl
end Pk
namespace Pk
open PySem
/-- a loop that looks at each item and leaves at the first bad one -/
theorem forLoop_guard {i : Nat} {f : Env → Store → F} {ok : P → Bool} {V : D} {base : Env} {S : Store} (hi : i < base.length) : ∀ {ps : List P} (x : Option D), (∀ p ∈ ps, f (base.set i (some (.val p))) S = if ok p then .nx (base.set i (some (.val p))) S else .rt V S) →
    ∃ x', forLoop (.nm i) f ps (base.set i x) S = if ps.all ok then .nx (base.set i x') S else .rt V S
  | [], x, _ => ⟨x, rfl⟩
  | p :: ps, x, h => by
    obtain ⟨x', e⟩ := forLoop_guard hi (ps := ps) (some (.val p)) fun q hq => h q (List.mem_cons_of_mem _ hq)
    refine ⟨x', ?_⟩
    unfold forLoop
    have e1 : tgSet (.nm i) p (base.set i x) = some (base.set i (some (.val p))) := by
      unfold tgSet
      rw [if_pos (by simpa using hi), List.set_set]
    rw [e1]
    simp only
    rw [h p List.mem_cons_self]
    cases hk : ok p with
    | true => simpa [hk] using e
    | false => simp [hk]
end Pk
namespace Pk
open PySem
theorem evSs_nx {gv : Nat → Option P} {c : CallF} {s : IS} {ss : List IS} {ρ ρ' : Env} {S S' : Store} (h : evS gv c s ρ S = .nx ρ' S') : evSs gv c (s :: ss) ρ S = evSs gv c ss ρ' S' := by
  show (evS gv c s ρ S).seq _ = _
  rw [h]
  rfl
theorem evSs_rt {gv : Nat → Option P} {c : CallF} {s : IS} {ss : List IS} {ρ : Env} {S S' : Store} {d : D} (h : evS gv c s ρ S = .rt d S') : evSs gv c (s :: ss) ρ S = .rt d S' := by
  show (evS gv c s ρ S).seq _ = _
  rw [h]
  rfl
end Pk

/-! Shared specs, 3: what is drawn of some -/
namespace Pk
open PySem
/-- what stands in a row, a tuple, a text -/
def OfSp (c : CallF) (t : Nat) : Prop := ∀ n S p ps T, Bx S n (T + 1) → 0 ≤ T → itemsP p = some ps → (∀ ns, p ≠ .scr ns) → 0 < ps.length → ps.length < 1073741824 → (c t [.cell n, .val p] S).Ok fun d S' => ∃ q, d = .val q ∧ q ∈ ps ∧ Bx S' n T ∧ Sm S n S'
theorem atI_lt {α : Type} {xs : List α} {r : Int} (h0 : 0 ≤ r) (h1 : r < xs.length) : ∃ q, L2.atI xs r = some q ∧ q ∈ xs := by
  have hi : r.toNat < xs.length := by omega
  refine ⟨xs[r.toNat], ?_, List.getElem_mem hi⟩
  unfold L2.atI L2.ixN
  rw [if_pos h0, if_pos h1]
  simp [hi]
theorem len_items {p : P} {ps : List P} (h : itemsP p = some ps) (hs : ∀ ns, p ≠ .scr ns) : bltP .len [p] = some (.int ps.length) := by
  cases p with
  | lst l => cases h; rfl
  | tup l => cases h; rfl
  | scr ns => exact absurd rfl (hs ns)
  | str z =>
    have h : (if z.length ≤ lim then some (z.cps.toList.map fun c => P.str ⟨#[c]⟩) else none) = some ps := h
    split at h
    · rename_i hl
      cases h
      show (if z.length ≤ lim then some (P.int z.length) else none) = _
      rw [if_pos hl]
      simp [Str.length]
    · cases h
  | _ => cases h
theorem ix_items {p : P} {ps : List P} {r : Int} (h : itemsP p = some ps) (hs : ∀ ns, p ≠ .scr ns) (h0 : 0 ≤ r) (h1 : r < ps.length) : ∃ q, ixP p (.int r) = some q ∧ q ∈ ps := by
  cases p with
  | lst l => cases h; exact atI_lt h0 h1
  | tup l => cases h; exact atI_lt h0 h1
  | scr ns => exact absurd rfl (hs ns)
  | str z =>
    have h : (if z.length ≤ lim then some (z.cps.toList.map fun c => P.str ⟨#[c]⟩) else none) = some ps := h
    split at h
    · rename_i hl
      cases h
      rw [List.length_map] at h1
      obtain ⟨q, e, hm⟩ := atI_lt (xs := z.cps.toList) h0 h1
      refine ⟨.str ⟨#[q]⟩, ?_, List.mem_map.mpr ⟨q, hm, rfl⟩⟩
      show (if z.length ≤ lim then (L2.atI z.cps.toList r).map fun c => P.str ⟨#[c]⟩ else none) = _
      rw [if_pos hl, e]
      rfl
    · cases h
  | _ => cases h
def ofBody (t : Nat) : List IS := [.ret (.idx (.var 1) (.call false t [.var 0, .blt .len [.var 1]]))]
theorem of_sp {gv : Nat → Option P} {G : Nat → Option FD} {k t o : Nat} {fd : FD} (ht : TakeSp (callK gv G k) t) (h : G o = some fd) (h1 : fd.ps.length = 2) (h2 : fd.N.length = 2) (h3 : fd.body = ofBody t) : OfSp (callK gv G (k + 1)) o := by
  intro n S p ps T hB hT hp hs hl hl2
  rw [callK_one h (by rw [h1]; rfl), h2, h3]
  obtain ⟨d, S1, e, r, rfl, r0, r1, b1, m1⟩ := (ht n S ps.length T hB hT (by omega) (by omega)).out
  obtain ⟨q, eq, hq⟩ := ix_items hp hs r0 r1
  have el := len_items hp hs
  have hlen := m1.length
  have ev : evSs gv (callK gv G k) (ofBody t) [some (.cell n), some (.val p)] S = .rt (.val q) S1 := by
    simp [ofBody, el, e, eq]
  show (endBody S.length (evSs gv (callK gv G k) (ofBody t) [some (.cell n), some (.val p)] S)).Ok _
  rw [ev, ← hlen, endBody_val]
  exact ⟨q, rfl, hq, b1, m1⟩
end Pk

/-! Shared specs, 4: texts, drawn names -/
namespace Pk
open PySem
theorem str_append_len (a b : Str) : (a ++ b).length = a.length + b.length := by
  show (a.cps ++ b.cps).size = _
  rw [Array.size_append]
  rfl
theorem cutS_len (z : Str) (lo hi : Option Int) : (L2.cutS z lo hi).length ≤ z.length := by
  unfold L2.cutS Str.length
  simp
  omega
theorem join_len (ys : List Str) : (Txt.join (PySem.Str.ofString "") ys).length ≤ (ys.map (·.length)).sum := by
  have h := StrLaws.join_length_le (PySem.Str.ofString "") ys
  rw [show (PySem.Str.ofString "").length = 0 by decide +kernel, Nat.mul_zero, Nat.add_zero] at h
  show (Builtin.Str.glued (PySem.Str.ofString "") ys).length ≤ _
  rw [StrLaws.glued_eq_join]
  exact h
/-- a text of at most so many signs -/
def sl (n : Nat) (p : P) : Prop := ∃ z, p = .str z ∧ z.length ≤ n
theorem pStrs_sl {n : Nat} : ∀ {qs : List P}, (∀ q ∈ qs, sl n q) → ∃ ys, pStrs qs = some ys ∧ ys.length = qs.length ∧ (ys.map (·.length)).sum ≤ qs.length * n
  | [], _ => ⟨[], rfl, rfl, by simp⟩
  | q :: qs, h => by
    obtain ⟨z, rfl, hz⟩ := h q List.mem_cons_self
    obtain ⟨ys, e, hl, hs⟩ := pStrs_sl fun q' hq => h q' (List.mem_cons_of_mem _ hq)
    refine ⟨z :: ys, by simp [pStrs, e], by simp [hl], ?_⟩
    simp only [List.map_cons, List.sum_cons, List.length_cons, Nat.succ_mul]
    omega
theorem join_sl {qs : List P} {n : Nat} (h : ∀ q ∈ qs, sl n q) (hn : qs.length * n ≤ lim) : ∃ z, methP .join (.str (PySem.Str.ofString "")) [.lst qs] = some (.str z) ∧ z.length ≤ qs.length * n := by
  obtain ⟨ys, e, hl, hs⟩ := pStrs_sl h
  have hj : joinOk (PySem.Str.ofString "") ys = true := by
    unfold joinOk
    rw [show (PySem.Str.ofString "").length = 0 by decide +kernel]
    simp only [Nat.mul_zero, Nat.add_zero, decide_eq_true_eq]
    omega
  refine ⟨Txt.join (PySem.Str.ofString "") ys, ?_, Nat.le_trans (join_len ys) hs⟩
  unfold methP
  simp [e, hj]
/-! ### a box and one more cell -/
theorem Bx.lt {S : Store} {n : Nat} {T : Int} (h : Bx S n T) : n < S.length := by
  obtain ⟨a, b, c, h, _⟩ := h
  exact (List.getElem?_eq_some_iff.mp h).1
theorem Bx.app {S : Store} {n : Nat} {T : Int} {R : Store} (h : Bx S n T) : Bx (S ++ R) n T := by
  have hl := h.lt
  obtain ⟨a, b, c, h, ok⟩ := h
  exact ⟨a, b, c, by rw [List.getElem?_append_left hl]; exact h, ok⟩
theorem Bx.unapp {S : Store} {n : Nat} {T : Int} {R : Store} (h : Bx (S ++ R) n T) (hl : n < S.length) : Bx S n T := by
  obtain ⟨a, b, c, h, ok⟩ := h
  exact ⟨a, b, c, by rw [List.getElem?_append_left hl] at h; exact h, ok⟩
theorem Sm.unapp {S S' R : Store} {n : Nat} (h : Sm (S ++ R) n S') (hl : n < S.length) : ∃ S1, S' = S1 ++ R ∧ Sm S n S1 := by
  obtain ⟨x, rfl⟩ := h
  exact ⟨S.set n x, by rw [List.set_append_left _ _ hl], x, rfl⟩
/-- a draw beside other cells -/
theorem TakeSp.app {c : CallF} {t : Nat} (h : TakeSp c t) {n : Nat} {S R : Store} {m T : Int} (hB : Bx S n (T + 1)) (hT : 0 ≤ T) (hm : 0 < m) (hm2 : m < 1073741824) :
    ∃ r S1, c t [.cell n, .val (.int m)] (S ++ R) = .ok (.val (.int r)) (S1 ++ R) ∧ 0 ≤ r ∧ r < m ∧ Bx S1 n T ∧ Sm S n S1 := by
  obtain ⟨d, S', e, r, rfl, r0, r1, b1, m1⟩ := (h n (S ++ R) m T hB.app hT hm hm2).out
  obtain ⟨S1, rfl, m2⟩ := m1.unapp hB.lt
  have hl : n < S1.length := by rw [m2.length]; exact hB.lt
  exact ⟨r, S1, e, r0, r1, b1.unapp hl, m2⟩
end Pk

/-! Shared specs, 6: drawn words -/
namespace Pk
open PySem
/-- a text's signs -/
abbrev tx (z : Str) : List Nat := z.cps.toList
theorem tx_inj {a b : Str} (h : tx a = tx b) : a = b := by
  cases a; cases b
  congr 1
  exact Array.toList_inj.mp h
theorem tx_len (z : Str) : (tx z).length = z.length := rfl
theorem tx_app (a b : Str) : tx (a ++ b) = tx a ++ tx b := by
  show (a.cps ++ b.cps).toList = _
  rw [Array.toList_append]
theorem tx_mk (l : List Nat) : tx ⟨l.toArray⟩ = l := rfl
theorem tx_one (ch : Nat) : tx ⟨#[ch]⟩ = [ch] := rfl
theorem tx_cut (z : Str) (lo hi : Option Int) : tx (L2.cutS z lo hi) = cutL (tx z) lo hi := rfl
def em : Str := PySem.Str.ofString ""
theorem tx_em : tx em = [] := by decide +kernel
theorem tx_join : ∀ ys : List Str, tx (Txt.join em ys) = (ys.map tx).flatten := by
  intro ys
  show tx (Builtin.Str.glued em ys) = _
  rw [StrLaws.glued_eq_join]
  induction ys with
  | nil => rfl
  | cons y ys ih =>
    cases ys with
    | nil => simp [Str.join]
    | cons y2 ys =>
      show tx (y ++ em ++ Str.join em (y2 :: ys)) = _
      rw [tx_app, tx_app, tx_em, ih]
      simp
/-- small letters alone -/
def Ltr (ch : Nat) : Prop := 97 ≤ ch ∧ ch ≤ 122
def LtrP (p : P) : Prop := ∃ ch, Ltr ch ∧ p = .str ⟨#[ch]⟩
def abc : Str := PySem.Str.ofString "abcdefghijklmnopqrstuvwxyz"
theorem abc_tx : tx abc = (List.range 26).map (97 + ·) := by decide +kernel
theorem abc_at {r : Int} (h0 : 0 ≤ r) (h1 : r < 26) : ixP (.str abc) (.int r) = some (.str ⟨#[97 + r.toNat]⟩) := by
  have hl : abc.length ≤ lim := by decide +kernel
  show (if abc.length ≤ lim then (L2.atI (tx abc) r).map fun c => P.str ⟨#[c]⟩ else none) = _
  rw [if_pos hl, abc_tx]
  have hr : r.toNat < 26 := by omega
  unfold L2.atI L2.ixN
  rw [if_pos h0, if_pos (by simp; omega)]
  simp [hr]
theorem ltr_list : ∀ {qs : List P}, (∀ q ∈ qs, LtrP q) → ∃ chs : List Nat, (∀ ch ∈ chs, Ltr ch) ∧ qs = chs.map fun ch => .str ⟨#[ch]⟩
  | [], _ => ⟨[], by simp, rfl⟩
  | q :: qs, h => by
    obtain ⟨ch, h1, rfl⟩ := h q List.mem_cons_self
    obtain ⟨chs, h2, rfl⟩ := ltr_list fun q' hq => h q' (List.mem_cons_of_mem _ hq)
    exact ⟨ch :: chs, by simpa using ⟨h1, h2⟩, rfl⟩
theorem pStrs_map : ∀ ys : List Str, pStrs (ys.map .str) = some ys
  | [] => rfl
  | y :: ys => by simp [pStrs, pStrs_map ys]
theorem sum_one {chs : List Nat} : ((chs.map fun ch => (⟨#[ch]⟩ : Str)).map (·.length)).sum = chs.length := by
  induction chs with
  | nil => rfl
  | cons a l ih => simp only [List.map_cons, List.sum_cons, List.length_cons, ih]; show 1 + _ = _; omega
theorem join_chs {chs : List Nat} (h : chs.length ≤ lim) : methP .join (.str em) [.lst (chs.map fun ch => .str ⟨#[ch]⟩)] = some (.str ⟨chs.toArray⟩) := by
  have e : (chs.map fun ch => P.str ⟨#[ch]⟩) = (chs.map fun ch => (⟨#[ch]⟩ : Str)).map .str := by simp
  have hj : joinOk em (chs.map fun ch => (⟨#[ch]⟩ : Str)) = true := by
    unfold joinOk
    rw [sum_one, show em.length = 0 by decide +kernel]
    simpa using h
  have ht : Txt.join em (chs.map fun ch => (⟨#[ch]⟩ : Str)) = ⟨chs.toArray⟩ := by
    apply tx_inj
    rw [tx_join, tx_mk]
    clear h e hj
    induction chs with
    | nil => rfl
    | cons a l ih =>
      simp only [List.map_cons, List.flatten_cons, tx_one, ih, List.singleton_append]
  unfold methP
  rw [e]
  simp only [seqP, Option.bind_some, pStrs_map, hj, ht, if_true]
section
variable (gv : Nat → Option P) (c : CallF) (ρ : Env) (S : Store)
/-- what is joined -/
def jnS (x : D) (ds : List D) (S : Store) : R D := match peek S x, peeks S ds with
  | some p, some ps => giv (methP .join p ps) S
  | _, _ => .stk
def jnG (x : D) (S : Store) (r : R (List D)) : R D := match x with
  | .val (.str _) => r.bd (jnS x) ⟨⟩
  | _ => .stk
theorem evE_join (o : IE) (args : List IE) : evE gv c (.meth .join o args) ρ S = (evE gv c o ρ S).bd (fun x S1 => jnG x S1 (evDs gv c args ρ S1)) ⟨⟩ := by
  rw [evE_meth]
  show _ = R.bind _ _
  congr 1
  funext x S1
  unfold jnG methOk
  cases x with
  | val p => cases p <;> rfl
  | cell n => rfl
def apS (n : Nat) (d : D) (S : Store) : R D := (frz d S).bd (fun p S => match S[n]? with
  | some (.lst ps) => if ps.length < lim then .ok (.val .non) (S.set n (.lst (ps ++ [p]))) else .stk
  | _ => .stk) ⟨⟩
def apG (x : D) (S : Store) (r : R D) : R D := match x with
  | .cell n => match S[n]? with
    | some (.lst _) => r.bd (apS n) ⟨⟩
    | _ => .stk
  | _ => .stk
theorem evE_app (o e : IE) : evE gv c (.meth .append o [e]) ρ S = (evE gv c o ρ S).bd (fun x S1 => apG x S1 (evE gv c e ρ S1)) ⟨⟩ := by
  rw [evE_meth]
  show _ = R.bind _ _
  congr 1
  funext x S1
  unfold apG methOk
  cases x with
  | val p => rfl
  | cell n =>
    simp only [isMut, if_true]
    cases hS : S1[n]? with
    | none => rfl
    | some cc =>
      cases cc with
      | lst ps =>
        simp only [if_true, evDs_cons, evDs_nil, bind_ok]
        cases evE gv c e ρ S1 with
        | ok d S2 =>
          simp only [bind_ok, bind_ok0, evDs_nil]
          unfold apS
          show R.bind _ _ = R.bind _ _
          congr 1
          funext p S3
          cases S3[n]? with
          | none => rfl
          | some cc =>
            cases cc with
            | lst ps =>
              simp only [mutP]
              by_cases h : ps.length < lim
              · rw [if_pos h, if_pos h]
              · rw [if_neg h, if_neg h]
            | _ => rfl
        | exc x S2 => rfl
        | stk => rfl
      | _ => rfl
theorem apG_ok {n : Nat} {ps : List P} {S S2 : Store} {p : P} {r : R D} (h : S[n]? = some (.lst ps)) (hr : r = .ok (.val p) S2) (h2 : S2[n]? = some (.lst ps)) (hl : ps.length < lim) : apG (.cell n) S r = .ok (.val .non) (S2.set n (.lst (ps ++ [p]))) := by
  subst hr
  simp [apG, h, apS, h2, hl]
end
end Pk

/-! Shared specs, 7: drawn names -/
namespace Pk
open PySem
/-- a word of drawn letters: slot 2 the letters, slot w the turn -/
theorem word_sp {gv : Nat → Option P} {c : CallF} {t n w : Nat} (ht : TakeSp c t) {ρ : Env} {S Z : Store} {e : IT} {items : List P} {T : Int} (hb : ρ[0]? = some (some (.cell n))) (hl : ρ[2]? = some (some (.val (.str abc)))) (hlw : 2 ≠ w) (hw0 : w ≠ 0) (hw : w < ρ.length)
    (hi : ∀ S, evI gv c e ρ S = .ok items S) (hn : items.length ≤ 1000) (hT : 0 ≤ T) (hB : Bx S n (T + items.length)) :
    ∃ z S1, evE gv c (.meth .join (.str em) [.lc (.idx (.var 2) (.call false t [.var 0, .int 26])) (.nm w) e none [w]]) ρ (S ++ Z) = .ok (.val (.str z)) (S1 ++ Z) ∧ z.length = items.length ∧ (∀ ch ∈ tx z, Ltr ch) ∧ Bx S1 n T ∧ Sm S n S1 := by
  have step : ∀ p ∈ items, ∀ (j : Nat) (S' : Store), (∃ S1, S' = S1 ++ Z ∧ Bx S1 n (T + ((j + 1 : Nat) : Int)) ∧ Sm S n S1) →
      (lcF gv c ρ (.idx (.var 2) (.call false t [.var 0, .int 26])) (.nm w) none [w] p S').Ok fun o S'' => ∃ q, o = some q ∧ LtrP q ∧ ∃ S1, S'' = S1 ++ Z ∧ Bx S1 n (T + (j : Int)) ∧ Sm S n S1 := by
    rintro p _ j S' ⟨S1, rfl, b1, m1⟩
    obtain ⟨r, S2, e2, r0, r1, b2, m2⟩ := ht.app (R := Z) (n := n) (S := S1) (m := 26) (T := T + j) (by
      have : T + ((j + 1 : Nat) : Int) = T + j + 1 := by omega
      rw [this] at b1
      exact b1) (by omega) (by decide) (by decide)
    have h0 : ((ρ.set w none).set w (some (.val p)))[0]? = some (some (.cell n)) := by
      rw [List.set_set, List.getElem?_set_ne hw0]
      exact hb
    have hl' : ((ρ.set w none).set w (some (.val p)))[2]? = some (some (.val (.str abc))) := by
      rw [List.set_set, List.getElem?_set_ne (Ne.symm hlw)]
      exact hl
    have hw2 : w < (ρ.set w none).length := by simpa using hw
    have et : tgSet (.nm w) p (wipeE ρ [w]) = some ((ρ.set w none).set w (some (.val p))) := by
      show (if w < (ρ.set w none).length then _ else none) = _
      rw [if_pos hw2]
      rfl
    refine R.Ok.mono (Q := fun o S'' => o = some (.str ⟨#[97 + r.toNat]⟩) ∧ S'' = S2 ++ Z) ?_ ?_
    · unfold lcF
      rw [et]
      simp only [evC_none, bind_ok, evE_idx, evE_var, hl', rdS_some, evE_call, evDs_cons, h0, evE_int, evDs_nil, e2, endCall_val, pk2_val, abc_at r0 r1, giv_some, frz_val, if_true]
      exact ⟨rfl, rfl⟩
    · rintro o S'' ⟨rfl, rfl⟩
      exact ⟨_, rfl, ⟨_, ⟨by omega, by omega⟩, rfl⟩, S2, rfl, b2, m1.trans m2⟩
  obtain ⟨qs, S', e', hlen, hA, S1, rfl, b1, m1⟩ := (lcLoop_inv (fun j S' => ∃ S1, S' = S1 ++ Z ∧ Bx S1 n (T + ((j : Nat) : Int)) ∧ Sm S n S1) LtrP (ps := items) (S := S ++ Z) 0 ⟨S, rfl, by simpa using hB, Sm.refl hB⟩ step).out
  obtain ⟨chs, hc, rfl⟩ := ltr_list hA
  have hlen : chs.length = items.length := by simpa using hlen
  refine ⟨⟨chs.toArray⟩, S1, ?_, hlen, hc, by simpa using b1, m1⟩
  rw [evE_join]
  simp only [evE_str, bind_ok, evDs_cons, evE_lc, hi, e', okL_eq, evDs_nil, jnG, jnS, peek_val, peeks_val, peeks_nil, Option.map_some, join_chs (show chs.length ≤ lim by unfold lim; omega), giv_some]
/-- a name -/
structure IsName (z : Str) : Prop where
  pos : 1 ≤ z.length
  le : z.length ≤ 8
  ltr : ∀ ch ∈ tx z, Ltr ch
/-- where a name has its own sign -/
def NameAt (place first step : Int) (k : Nat) (z : Str) : Prop := IsName z ∧ (tx z)[(place % (z.length : Int)).toNat]? = some (97 + ((first + step * k) % 26).toNat)
def steps : List Int := [1, 3, 5, 7, 9, 11, 15, 17, 19, 21, 23, 25]
theorem step_inj {first step : Int} (hs : step ∈ steps) {i j : Nat} (hi : i < 26) (hj : j < 26) (h : (first + step * i) % 26 = (first + step * j) % 26) : i = j := by
  simp only [steps, List.mem_cons, List.mem_nil_iff, or_false] at hs
  rcases hs with rfl | rfl | rfl | rfl | rfl | rfl | rfl | rfl | rfl | rfl | rfl | rfl <;> omega
theorem nameAt_inj {place first step : Int} (hs : step ∈ steps) {i j : Nat} (hi : i < 26) (hj : j < 26) {z : Str} (h1 : NameAt place first step i z) (h2 : NameAt place first step j z) : i = j := by
  have e := h1.2.symm.trans h2.2
  have e := Option.some.inj e
  have a1 := Int.emod_nonneg (first + step * i) (show (26 : Int) ≠ 0 by decide)
  have a2 := Int.emod_nonneg (first + step * j) (show (26 : Int) ≠ 0 by decide)
  exact step_inj (first := first) hs hi hj (by omega)
/-- drawn names: so many, no two alike -/
structure Names (ws : List Str) (m : Nat) : Prop where
  len : ws.length = m
  nd : ws.Nodup
  name : ∀ w ∈ ws, IsName w
theorem names_of {place first step : Int} (hs : step ∈ steps) {ws : List Str} (hl : ws.length ≤ 26) (h : ∀ (k : Nat) (w : Str), ws[k]? = some w → NameAt place first step k w) : Names ws ws.length := by
  refine ⟨rfl, ?_, fun w hw => ?_⟩
  · refine List.pairwise_iff_getElem.mpr fun i j hi hj hij e => ?_
    have h1 := h i ws[i] (List.getElem?_eq_getElem hi)
    have h2 := h j ws[i] (by rw [e]; exact List.getElem?_eq_getElem hj)
    have := nameAt_inj hs (by omega) (by omega) h1 h2
    omega
  · obtain ⟨k, hk⟩ := List.mem_iff_getElem?.mp hw
    exact (h k w hk).1
def namesLoop (t : Nat) : List IS := [
      .asg 11 (.ite (.cmp .Eq (.var 10) (.int 0)) (.var 8) (.bin .Add (.int 1) (.call false t [.var 0, .int 8]))),
      .asg 12 (.sl (.var 3) none (some (.var 11))),
      .ifS (.cmp .Gt (.var 10) (.int 0)) [
        .asg 12 (.meth .join (.str em) [.lc (.idx (.var 2) (.call false t [.var 0, .int 26])) (.nm 15) (.rng [.var 11]) none [15]])] [],
      .asg 13 (.bin .Mod (.blt .int [.var 9]) (.var 11)),
      .asg 14 (.idx (.var 2) (.bin .Mod (.blt .int [.bin .Add (.var 4) (.bin .Mult (.var 5) (.var 7))]) (.int 26))),
      .exprS (.meth .append (.var 6) [.bin .Add (.bin .Add (.sl (.var 12) none (some (.var 13))) (.var 14)) (.sl (.var 12) (some (.bin .Add (.var 13) (.int 1))) none)])]
def namesBody (t o : Nat) : List IS := [
    .asg 2 (.str abc),
    .asg 3 (.meth .join (.str em) [.lc (.idx (.var 2) (.call false t [.var 0, .int 26])) (.nm 7) (.rng [.int 8]) none [7]]),
    .par [8, 9, 10] [.bin .Add (.int 1) (.call false t [.var 0, .int 8]), .call false t [.var 0, .int 8], .call false t [.var 0, .int 2]],
    .asg 4 (.call false t [.var 0, .int 26]),
    .asg 5 (.call false o [.var 0, .lst [.int 1, .int 3, .int 5, .int 7, .int 9, .int 11, .int 15, .int 17, .int 19, .int 21, .int 23, .int 25]]),
    .asg 6 (.thaw (.lst [])),
    .forS (.nm 7) (.rng [.var 1]) (namesLoop t),
    .ret (.var 6)]
theorem cutL_take {α : Type} {xs : List α} {k : Int} (h0 : 0 ≤ k) (h1 : k ≤ xs.length) : cutL xs none (some k) = xs.take k.toNat := by
  unfold cutL HT.sIx
  simp only [List.drop_zero, Nat.sub_zero]
  rw [if_neg (by omega)]
  congr 1
  omega
theorem cutL_drop {α : Type} {xs : List α} {k : Int} (h0 : 0 ≤ k) (h1 : k ≤ xs.length) : cutL xs (some k) none = xs.drop k.toNat := by
  unfold cutL HT.sIx
  simp only
  rw [if_neg (by omega), show min k.toNat xs.length = k.toNat by omega]
  rw [List.take_of_length_le]
  simp
/-- a word with one sign put in -/
theorem put_name {place first step : Int} {k : Nat} {z : Str} (hp : 0 ≤ place) (hz : IsName z) :
    NameAt place first step k (L2.cutS z none (some (place % (z.length : Int))) ++ ⟨#[97 + ((first + step * k) % 26).toNat]⟩ ++ L2.cutS z (some (place % (z.length : Int) + 1)) none) := by
  have hl := hz.pos
  have a0 := Int.emod_nonneg place (show (z.length : Int) ≠ 0 by omega)
  have a1 := Int.emod_lt_of_pos place (show (0 : Int) < z.length by omega)
  have b0 := Int.emod_nonneg (first + step * k) (show (26 : Int) ≠ 0 by decide)
  have b1 := Int.emod_lt_of_pos (first + step * k) (show (0 : Int) < 26 by decide)
  generalize hq : place % (z.length : Int) = at_ at a0 a1
  generalize hsg : (first + step * k) % 26 = sg at b0 b1
  have e : tx (L2.cutS z none (some at_) ++ ⟨#[97 + sg.toNat]⟩ ++ L2.cutS z (some (at_ + 1)) none) = (tx z).take at_.toNat ++ [97 + sg.toNat] ++ (tx z).drop (at_ + 1).toNat := by
    rw [tx_app, tx_app, tx_cut, tx_cut, tx_one, cutL_take a0 (by rw [tx_len]; omega), cutL_drop (by omega) (by rw [tx_len]; omega)]
  have el : (L2.cutS z none (some at_) ++ ⟨#[97 + sg.toNat]⟩ ++ L2.cutS z (some (at_ + 1)) none).length = z.length := by
    rw [← tx_len, e]
    simp only [List.length_append, List.length_take, List.length_drop, tx_len, List.length_cons, List.length_nil]
    omega
  refine ⟨⟨by rw [el]; exact hz.pos, by rw [el]; exact hz.le, fun ch hc => ?_⟩, ?_⟩
  · rw [e] at hc
    simp only [List.mem_append, List.mem_singleton] at hc
    rcases hc with (hc | rfl) | hc
    · exact hz.ltr ch (List.mem_of_mem_take hc)
    · exact ⟨by omega, by omega⟩
    · exact hz.ltr ch (List.mem_of_mem_drop hc)
  · rw [el, e, hq, List.append_assoc, List.getElem?_append_right (by rw [List.length_take]; omega)]
    have : at_.toNat - (List.take at_.toNat (tx z)).length = 0 := by
      rw [List.length_take, tx_len]
      omega
    rw [this, hsg]
    rfl
end Pk

/-! Shared specs, 8: drawn names, run -/
namespace Pk
open PySem
/-- a loop by its turns -/
theorem forLoop_at {tg : Tg} {f : Env → Store → F} {Q : Env → Store → Prop} {V : D → Store → Prop} : ∀ {items : List P} (I : Nat → Env → Store → Prop) {ρ : Env} {S : Store}, I 0 ρ S → (∀ i p ρ S, items[i]? = some p → I i ρ S → ∃ ρ1, tgSet tg p ρ = some ρ1 ∧ (f ρ1 S).Ok (I (i + 1)) V) → (∀ ρ S, I items.length ρ S → Q ρ S) →
    (forLoop tg f items ρ S).Ok Q V
  | [], I, ρ, S, h, _, k => k ρ S h
  | p :: ps, I, ρ, S, h, hs, k => by
    unfold forLoop
    obtain ⟨ρ1, e1, h1⟩ := hs 0 p ρ S rfl h
    rw [e1]
    simp only
    cases e : f ρ1 S with
    | nx ρ2 S2 =>
      rw [e] at h1
      exact forLoop_at (fun i => I (i + 1)) h1 (fun i q ρ S hq hi => hs (i + 1) q ρ S (by simpa using hq) hi) k
    | rt d S2 => rw [e] at h1; exact h1
    | bk _ _ => rw [e] at h1; exact h1.elim
    | ct _ _ => rw [e] at h1; exact h1.elim
    | exc _ _ _ => rw [e] at h1; exact h1.elim
    | stk => rw [e] at h1; exact h1.elim
/-- the names' slots -/
def nmE (n L : Nat) (m first step far place near : Int) (base : Str) (x7 x11 x12 x13 x14 : Option D) : Env :=
  [some (.cell n), some (.val (.int m)), some (.val (.str abc)), some (.val (.str base)), some (.val (.int first)), some (.val (.int step)), some (.cell L), x7, some (.val (.int far)), some (.val (.int place)), some (.val (.int near)), x11, x12, x13, x14, none]
theorem sl_str {z : Str} (hz : z.length ≤ 100) (lo hi : Option Int) : slP (.str z) lo hi = some (.str (L2.cutS z lo hi)) := by
  show (if z.length ≤ lim then some (P.str (L2.cutS z lo hi)) else none) = _
  rw [if_pos (by unfold lim; omega)]
theorem add_str {a b : Str} (ha : a.length ≤ 100) (hb : b.length ≤ 100) : binP .Add (.str a) (.str b) = some (.str (a ++ b)) := by
  show (if a.length + b.length ≤ lim then some (P.str (a ++ b)) else none) = _
  rw [if_pos (by unfold lim; omega)]
theorem rng1 {m : Int} (h0 : 0 ≤ m) (h1 : m ≤ 1000000) : rngP [.int m] = some ((List.range m.toNat).map fun (n : Nat) => P.int (n : Int)) := by
  show (if decide (-(2 ^ 62) ≤ m) && decide (m ≤ lim) then _ else none) = _
  rw [if_pos]
  simp only [Bool.and_eq_true, decide_eq_true_eq]
  unfold lim
  omega
theorem evI_rng1 {gv : Nat → Option P} {c : CallF} {ρ : Env} {S : Store} {e : IE} {m : Int} (he : evE gv c e ρ S = .ok (.val (.int m)) S) (h0 : 0 ≤ m) (h1 : m ≤ 1000000) : evI gv c (.rng [e]) ρ S = .ok ((List.range m.toNat).map fun (n : Nat) => P.int (n : Int)) S := by
  simp only [evI_rng, evDs_cons, he, bind_ok, evDs_nil, peeks_val, peeks_nil, Option.map_some, Option.bind_some, rng1 h0 h1]
theorem names_loop {gv : Nat → Option P} {c : CallF} {t n : Nat} (ht : TakeSp c t) {S : Store} {ws : List Str} {m first step far place near T : Int} {k : Nat} {base : Str} {x11 x12 x13 x14 : Option D}
    (hbase : base.length = 8) (hltr : ∀ ch ∈ tx base, Ltr ch) (hfar : 1 ≤ far ∧ far ≤ 8) (hplace : 0 ≤ place) (hnear : 0 ≤ near) (hws : ws.length ≤ 100) (hB : Bx S n (T + 9)) (hT : 0 ≤ T) (hfirst : 0 ≤ first) (hstep : 0 ≤ step) (hstep2 : step ≤ 25) :
    (evSs gv c (namesLoop t) (nmE n S.length m first step far place near base (some (.val (.int (k : Int)))) x11 x12 x13 x14) (S ++ [.lst (ws.map .str)])).Ok
      (fun ρ' S' => ∃ x11 x12 x13 x14 S1 w, ρ' = nmE n S.length m first step far place near base (some (.val (.int (k : Int)))) x11 x12 x13 x14 ∧ S' = S1 ++ [.lst ((ws ++ [w]).map .str)] ∧ NameAt place first step k w ∧ Bx S1 n T ∧ Sm S n S1) fun _ _ => False := by
  have b0 := Int.emod_nonneg (first + step * k) (show (26 : Int) ≠ 0 by decide)
  have b1 := Int.emod_lt_of_pos (first + step * k) (show (0 : Int) < 26 by decide)
  have hsm : small step = true := small_of hstep (by omega)
  -- behind the word
  have fin : ∀ (S1 : Store) (z : Str), IsName z → Sm S n S1 → Bx S1 n T →
      (evSs gv c (namesLoop t).tail.tail.tail (nmE n S.length m first step far place near base (some (.val (.int (k : Int)))) (some (.val (.int z.length))) (some (.val (.str z))) x13 x14) (S1 ++ [.lst (ws.map .str)])).Ok
      (fun ρ' S' => ∃ x11 x12 x13 x14 S1 w, ρ' = nmE n S.length m first step far place near base (some (.val (.int (k : Int)))) x11 x12 x13 x14 ∧ S' = S1 ++ [.lst ((ws ++ [w]).map .str)] ∧ NameAt place first step k w ∧ Bx S1 n T ∧ Sm S n S1) fun _ _ => False := by
    intro S1 z hz m1 B1
    have hl := hz.pos
    have hl8 := hz.le
    have a0 := Int.emod_nonneg place (show (z.length : Int) ≠ 0 by omega)
    have a1 := Int.emod_lt_of_pos place (show (0 : Int) < z.length by omega)
    have hput := put_name (first := first) (step := step) (k := k) hplace hz
    have hc1 := cutS_len z none (some (place % (z.length : Int)))
    have hc2 := cutS_len z (some (place % (z.length : Int) + 1)) none
    have hS1 : (S1 ++ [.lst (ws.map .str)])[S.length]? = some (.lst (ws.map .str)) := by
      rw [← m1.length, List.getElem?_append_right (Nat.le_refl _)]
      simp
    have hset : ∀ x : Cell, (S1 ++ [Cell.lst (ws.map .str)]).set S.length x = S1 ++ [x] := fun x => by
      rw [← m1.length, List.set_append_right _ _ (Nat.le_refl _)]
      simp
    have hmod : binP .Mod (.int place) (.int z.length) = some (.int (place % (z.length : Int))) := by
      show (if (0 : Int) < z.length then some (P.int (place % (z.length : Int))) else none) = _
      rw [if_pos (by omega)]
    have hlen3 : (L2.cutS z none (some (place % (z.length : Int))) ++ (⟨#[97 + ((first + step * k) % 26).toNat]⟩ : Str)).length ≤ 100 := by
      rw [str_append_len]
      show _ + 1 ≤ _
      omega
    generalize hr1 : L2.cutS z none (some (place % (z.length : Int))) = c1 at hput hc1 hlen3
    generalize hr2 : L2.cutS z (some (place % (z.length : Int) + 1)) none = c2 at hput hc2
    generalize hr3 : (⟨#[97 + ((first + step * k) % 26).toNat]⟩ : Str) = c3 at hput hlen3
    have hc3 : c3.length = 1 := by rw [← hr3]; rfl
    have e1 : binP .Mult (.int step) (.int k) = some (.int (step * k)) := by simp [binP, hsm]
    have e2 : binP .Add (.int first) (.int (step * k)) = some (.int (first + step * k)) := rfl
    have e3 : binP .Mod (.int (first + step * k)) (.int 26) = some (.int ((first + step * k) % 26)) := by simp [binP]
    have e4 : bltP .int [.int place] = some (.int place) := rfl
    have e4' : bltP .int [.int (first + step * k)] = some (.int (first + step * k)) := rfl
    have e5 : binP .Add (.int (place % (z.length : Int))) (.int 1) = some (.int (place % (z.length : Int) + 1)) := rfl
    have hfin : (ws.map P.str).length < lim := by
      rw [List.length_map]
      unfold lim
      omega
    simp only [namesLoop, nmE, List.tail_cons, evSs_cons, evS_asg, evE_bin, evE_blt, evDs_cons, evE_var, List.getElem?_cons_succ, List.getElem?_cons_zero, rdS_some, bind_ok, evDs_nil, bl1_val, e4, giv_some, pk2_val, hmod, stm_ok, List.length_cons, List.length_nil, Nat.reduceAdd, Nat.reduceLT, if_true, List.set_cons_succ, List.set_cons_zero, sqL_nx, evE_idx, e1, e2, e3, e4', evE_int, abc_at b0 b1, evS_expr, evE_app, evE_sl, evO_none, evO_some, peek_val, pk1_val, sl_str (show z.length ≤ 100 by omega), hr1, hr2, hr3, e5, add_str (show c1.length ≤ 100 by omega) (show c3.length ≤ 100 by omega), add_str hlen3 (show c2.length ≤ 100 by omega)]
    rw [apG_ok hS1 rfl hS1 hfin, hset]
    simp only [stm_ok, sqL_nx, evSs_nil]
    refine ⟨_, _, _, _, S1, c1 ++ c3 ++ c2, rfl, ?_, hput, B1, m1⟩
    simp
  by_cases hn : near = 0
  · subst hn
    have hz : IsName (L2.cutS base none (some far)) := by
      have e : tx (L2.cutS base none (some far)) = (tx base).take far.toNat := by rw [tx_cut, cutL_take (by omega) (by rw [tx_len, hbase]; omega)]
      have el : (L2.cutS base none (some far)).length = far.toNat := by
        rw [← tx_len, e, List.length_take, tx_len, hbase]
        omega
      exact ⟨by omega, by omega, fun ch hc => hltr ch (List.mem_of_mem_take (by rw [← e]; exact hc))⟩
    have hf : ((L2.cutS base none (some far)).length : Int) = far := by
      rw [← tx_len, tx_cut, cutL_take (by omega) (by rw [tx_len, hbase]; omega), List.length_take, tx_len, hbase]
      omega
    have := fin S _ hz (Sm.refl hB) (hB.less (by omega))
    rw [hf] at this
    have eq0 : cmpP .Eq (.int 0) (.int 0) = some true := by simp
    have gt0 : cmpP .Gt (.int 0) (.int 0) = some false := rfl
    rw [namesLoop] at this ⊢
    simp only [nmE, evSs_cons, evS_asg, evE_ite, evE_cmp, evE_var, List.getElem?_cons_succ, List.getElem?_cons_zero, rdS_some, bind_ok, evE_int, pk2_val, eq0, Option.map_some, giv_some, trS_bl, if_true, stm_ok, List.length_cons, List.length_nil, Nat.reduceAdd, Nat.reduceLT, List.set_cons_succ, List.set_cons_zero, sqL_nx, evE_sl, evO_none, evO_some, peek_val, pk1_val, sl_str (show base.length ≤ 100 by omega), evS_if, evT_eq, gt0, Bool.false_eq_true, if_false, evSs_nil]
    simp only [List.tail_cons, nmE, evSs_cons, evS_asg, evE_ite, evE_cmp, evE_var, List.getElem?_cons_succ, List.getElem?_cons_zero, rdS_some, bind_ok, evE_int, pk2_val, eq0, Option.map_some, giv_some, trS_bl, if_true, stm_ok, List.length_cons, List.length_nil, Nat.reduceAdd, Nat.reduceLT, List.set_cons_succ, List.set_cons_zero, sqL_nx, evE_sl, evO_none, evO_some, peek_val, pk1_val, sl_str (show base.length ≤ 100 by omega), evS_if, evT_eq, gt0, Bool.false_eq_true, if_false, evSs_nil] at this
    exact this
  · obtain ⟨r, S1, e1, r0, r1, B1, m1⟩ := ht.app (R := [.lst (ws.map .str)]) (n := n) (S := S) (m := 8) (T := T + 8) (by
      rw [show T + 8 + 1 = T + 9 by omega]
      exact hB) (by omega) (by decide) (by decide)
    have eqn : cmpP .Eq (.int near) (.int 0) = some false := by simp [hn]
    have gtn : cmpP .Gt (.int near) (.int 0) = some true := by
      show some (decide (0 < near)) = _
      rw [decide_eq_true (by omega)]
    have ea : binP .Add (.int 1) (.int r) = some (.int (1 + r)) := rfl
    obtain ⟨z, S2, e2, z1, z2, B2, m2⟩ := word_sp (gv := gv) (c := c) (t := t) (n := n) (w := 15) ht (ρ := nmE n S.length m first step far place near base (some (.val (.int (k : Int)))) (some (.val (.int (1 + r)))) (some (.val (.str (L2.cutS base none (some (1 + r)))))) x13 x14) (S := S1) (Z := [.lst (ws.map .str)]) (e := .rng [.var 11]) (items := (List.range (1 + r).toNat).map fun (n : Nat) => P.int (n : Int)) (T := T)
      rfl rfl (by decide) (by decide) (by show 15 < 16; decide) (fun S => evI_rng1 (by simp [nmE]) (by omega) (by omega)) (by simp; omega) hT (by
        refine B1.less ?_
        simp
        omega)
    have hz1 : z.length = (1 + r).toNat := by simpa using z1
    have hz : IsName z := ⟨by omega, by omega, z2⟩
    have := fin S2 z hz (m1.trans m2) B2
    rw [show (z.length : Int) = 1 + r by omega] at this
    rw [namesLoop] at this ⊢
    simp only [nmE] at e2
    simp only [nmE, evSs_cons, evS_asg, evE_ite, evE_cmp, evE_var, List.getElem?_cons_succ, List.getElem?_cons_zero, rdS_some, bind_ok, evE_int, pk2_val, eqn, Option.map_some, giv_some, trS_bl, if_true, if_false, Bool.false_eq_true, evE_bin, evE_call, evDs_cons, evDs_nil, e1, endCall_val, ea, stm_ok, List.length_cons, List.length_nil, Nat.reduceAdd, Nat.reduceLT, List.set_cons_succ, List.set_cons_zero, sqL_nx, evE_sl, evO_none, evO_some, peek_val, pk1_val, sl_str (show base.length ≤ 100 by omega), evS_if, evT_eq, gtn, e2, evSs_nil]
    simp only [List.tail_cons, nmE, evSs_cons, evS_asg, evE_ite, evE_cmp, evE_var, List.getElem?_cons_succ, List.getElem?_cons_zero, rdS_some, bind_ok, evE_int, pk2_val, eqn, Option.map_some, giv_some, trS_bl, if_true, if_false, Bool.false_eq_true, evE_bin, evE_call, evDs_cons, evDs_nil, e1, endCall_val, ea, stm_ok, List.length_cons, List.length_nil, Nat.reduceAdd, Nat.reduceLT, List.set_cons_succ, List.set_cons_zero, sqL_nx, evE_sl, evO_none, evO_some, peek_val, pk1_val, sl_str (show base.length ≤ 100 by omega), evS_if, evT_eq, gtn, e2, evSs_nil] at this
    exact this
end Pk

/-! Shared specs, 9: the def of drawn names -/
namespace Pk
open PySem
theorem F.Ok.mono {r : F} {Q Q' : Env → Store → Prop} {V V' : D → Store → Prop} (h : r.Ok Q V) (k : ∀ ρ S, Q ρ S → Q' ρ S) (k' : ∀ d S, V d S → V' d S) : r.Ok Q' V' := by
  cases r with
  | nx ρ S => exact k ρ S h
  | rt d S => exact k' d S h
  | _ => exact h
theorem endBody_new {n : Nat} {S1 : Store} {x : Cell} (h : S1.length = n) : endBody n (.rt (.cell n) (S1 ++ [x])) = .ok (.cell n) (S1 ++ [x]) := by
  subst h
  have e : (S1 ++ [x])[S1.length]? = some x := by
    rw [List.getElem?_append_right (Nat.le_refl _), Nat.sub_self]
    rfl
  simp only [endBody, Nat.lt_irrefl, if_false, e, List.take_left']
theorem evE_lst0 {gv : Nat → Option P} {c : CallF} {ρ : Env} {S : Store} : evE gv c (.lst []) ρ S = .ok (.val (.lst [])) S := by simp
def NamesSp (c : CallF) (f : Nat) : Prop := ∀ n S m T, Bx S n (T + (13 + 9 * m)) → 0 ≤ T → 0 ≤ m → m ≤ 26 → (c f [.cell n, .val (.int m)] S).Ok fun d S' => ∃ ws S1, d = .cell S.length ∧ S' = S1 ++ [.lst (ws.map .str)] ∧ Names ws m.toNat ∧ Bx S1 n T ∧ Sm S n S1
def stepsP : List P := steps.map .int
theorem evPs_steps {gv : Nat → Option P} {c : CallF} {ρ : Env} {S : Store} : evE gv c (.lst [.int 1, .int 3, .int 5, .int 7, .int 9, .int 11, .int 15, .int 17, .int 19, .int 21, .int 23, .int 25]) ρ S = .ok (.val (.lst stepsP)) S := by
  rw [evE_lst]
  rfl
theorem names_sp {gv : Nat → Option P} {G : Nat → Option FD} {k t o f : Nat} {fd : FD} (ht : TakeSp (callK gv G k) t) (ho : OfSp (callK gv G k) o) (h : G f = some fd) (h1 : fd.ps.length = 2) (h2 : fd.N.length = 16) (h3 : fd.body = namesBody t o) : NamesSp (callK gv G (k + 1)) f := by
  intro n S m T hB hT hm hm26
  rw [callK_one h (by rw [h1]; rfl), h2, h3]
  generalize hc : callK gv G k = c at ht ho
  -- the base
  obtain ⟨base, S1, e1, bl, bt, B1, m1⟩ := word_sp (gv := gv) (c := c) (t := t) (n := n) (w := 7) ht (ρ := [some (.cell n), some (.val (.int m)), some (.val (.str abc)), none, none, none, none, none, none, none, none, none, none, none, none, none]) (S := S) (Z := []) (e := .rng [.int 8]) (items := (List.range (8 : Int).toNat).map fun (n : Nat) => P.int (n : Int)) (T := T + (5 + 9 * m))
      rfl rfl (by decide) (by decide) (by show 7 < 16; decide) (fun S => evI_rng1 (by simp) (by omega) (by omega)) (by simp) (by omega) (by
        refine hB.less ?_
        simp
        omega)
  simp only [List.append_nil] at e1
  have bl : base.length = 8 := by simpa using bl
  obtain ⟨_, S2, e2, far, rfl, f0, f1, B2, m2⟩ := (ht n S1 8 (T + (4 + 9 * m)) (by rw [show T + (4 + 9 * m) + 1 = T + (5 + 9 * m) by omega]; exact B1) (by omega) (by decide) (by decide)).out
  obtain ⟨_, S3, e3, place, rfl, p0, p1, B3, m3⟩ := (ht n S2 8 (T + (3 + 9 * m)) (by rw [show T + (3 + 9 * m) + 1 = T + (4 + 9 * m) by omega]; exact B2) (by omega) (by decide) (by decide)).out
  obtain ⟨_, S4, e4, near, rfl, n0, n1, B4, m4⟩ := (ht n S3 2 (T + (2 + 9 * m)) (by rw [show T + (2 + 9 * m) + 1 = T + (3 + 9 * m) by omega]; exact B3) (by omega) (by decide) (by decide)).out
  obtain ⟨_, S5, e5, first, rfl, i0, i1, B5, m5⟩ := (ht n S4 26 (T + (1 + 9 * m)) (by rw [show T + (1 + 9 * m) + 1 = T + (2 + 9 * m) by omega]; exact B4) (by omega) (by decide) (by decide)).out
  obtain ⟨_, S6, e6, q, rfl, hq, B6, m6⟩ := (ho n S5 (.lst stepsP) stepsP (T + 9 * m) (by rw [show T + 9 * m + 1 = T + (1 + 9 * m) by omega]; exact B5) (by omega) rfl (fun _ h => nomatch h) (by decide) (by decide)).out
  obtain ⟨step, hst, rfl⟩ := List.mem_map.mp hq
  have hst0 : 0 ≤ step ∧ step ≤ 25 := by
    simp only [steps, List.mem_cons, List.mem_nil_iff, or_false] at hst
    omega
  have mS : Sm S n S6 := ((((m1.trans m2).trans m3).trans m4).trans m5).trans m6
  have lS := mS.length
  -- the loop
  have hloop := forLoop_at (tg := .nm 7) (f := evSs gv c (namesLoop t)) (items := (List.range m.toNat).map fun (n : Nat) => P.int (n : Int)) (V := fun _ _ => False)
    (fun i ρ S' => ∃ x7 x11 x12 x13 x14 S1 ws, ρ = nmE n S.length m first step (1 + far) place near base x7 x11 x12 x13 x14 ∧ S' = S1 ++ [.lst (ws.map .str)] ∧ ws.length = i ∧ (∀ (k : Nat) (w : Str), ws[k]? = some w → NameAt place first step k w) ∧ Bx S1 n (T + 9 * (m - i)) ∧ Sm S n S1)
    (ρ := nmE n S.length m first step (1 + far) place near base none none none none none) (S := S6 ++ [.lst []])
    (Q := fun ρ S' => ∃ ws S1, ρ[6]? = some (some (.cell S.length)) ∧ S' = S1 ++ [.lst (ws.map .str)] ∧ Names ws m.toNat ∧ Bx S1 n T ∧ Sm S n S1)
    ⟨none, none, none, none, none, S6, [], rfl, rfl, rfl, (fun k w h => by simp at h), by simpa using B6, mS⟩
    (fun i p ρ S' hp hI => by
      obtain ⟨x7, x11, x12, x13, x14, S1, ws, rfl, rfl, hl, hw, BB, mm⟩ := hI
      rw [List.getElem?_map] at hp
      have hi : i < m.toNat := by
        by_cases hi : i < m.toNat
        · exact hi
        · rw [List.getElem?_eq_none (by simp; omega)] at hp
          cases hp
      rw [List.getElem?_range hi] at hp
      cases hp
      refine ⟨nmE n S.length m first step (1 + far) place near base (some (.val (.int (i : Int)))) x11 x12 x13 x14, rfl, ?_⟩
      have := names_loop (gv := gv) (S := S1) (ws := ws) (m := m) (k := i) (T := T + 9 * (m - (i + 1 : Nat))) (x11 := x11) (x12 := x12) (x13 := x13) (x14 := x14) ht bl bt (far := 1 + far) (by omega) p0 n0 (by omega) (by rw [show T + 9 * (m - (i + 1 : Nat)) + 9 = T + 9 * (m - i) by omega]; exact BB) (by omega) i0 hst0.1 hst0.2
      rw [mm.length] at this
      refine F.Ok.mono this ?_ fun _ _ h => h
      rintro ρ' S' ⟨x11, x12, x13, x14, S1', w, rfl, rfl, hn, B', m'⟩
      refine ⟨_, x11, x12, x13, x14, S1', ws ++ [w], rfl, rfl, by simp [hl], fun k u hk => ?_, B', mm.trans m'⟩
      by_cases hk2 : k < ws.length
      · rw [List.getElem?_append_left hk2] at hk
        exact hw k u hk
      · rw [List.getElem?_append_right (by omega)] at hk
        have hk3 : k - ws.length = 0 := by
          by_cases z : k - ws.length = 0
          · exact z
          · rw [List.getElem?_eq_none (by simp; omega)] at hk
            cases hk
        rw [hk3] at hk
        cases hk
        rw [show k = i by omega]
        exact hn)
    (fun ρ S' hI => by
      obtain ⟨x7, x11, x12, x13, x14, S1, ws, rfl, rfl, hl, hw, BB, mm⟩ := hI
      have hl : ws.length = m.toNat := by simpa using hl
      refine ⟨ws, S1, rfl, rfl, hl ▸ names_of hst (by omega) hw, ?_, mm⟩
      refine BB.less ?_
      simp
      omega)
  have a1 : binP .Add (.int 1) (.int far) = some (.int (1 + far)) := rfl
  have hst1 : ([some (D.cell n), some (D.val (P.int m))] : Env) = ([D.cell n, .val (.int m)] : List D).map some := rfl
  show (endBody S.length (evSs gv c (namesBody t o) [some (.cell n), some (.val (.int m)), none, none, none, none, none, none, none, none, none, none, none, none, none, none] S)).Ok _
  simp only [nmE] at hloop
  simp only [namesBody, evSs_cons, evS_asg, evE_str, stm_ok, List.length_cons, List.length_nil, Nat.reduceAdd, Nat.reduceLT, if_true, List.set_cons_succ, List.set_cons_zero, sqL_nx, e1, evS_par, evDs_cons, evE_bin, evE_int, bind_ok, evE_call, evE_var, List.getElem?_cons_succ, List.getElem?_cons_zero, rdS_some, evDs_nil, e2, e3, e4, e5, endCall_val, pk2_val, a1, giv_some, setAll, evPs_steps, e6, evE_thaw _ _ _ _ (e := .lst []) rfl, evE_lst0, thawS_lst, evS_for, evI_rng1 (gv := gv) (c := c) (e := .var 1) (ρ := [some (.cell n), some (.val (.int m)), some (.val (.str abc)), some (.val (.str base)), some (.val (.int first)), some (.val (.int step)), some (.cell S6.length), none, some (.val (.int (1 + far))), some (.val (.int place)), some (.val (.int near)), none, none, none, none, none]) (S := S6 ++ [.lst []]) (m := m) (by simp) hm (by omega)]
  rw [lS]
  generalize forLoop _ _ _ _ _ = r at hloop ⊢
  cases r with
  | nx ρ S' =>
    obtain ⟨ws, S1', hr, rfl, hn, B', m'⟩ := hloop
    have l1 := m'.length
    simp only [sqL_nx, evSs_cons, evS_ret, evE_var, hr, rdS_some, stm_ok, sqL_rt]
    rw [endBody_new l1]
    exact ⟨ws, S1', rfl, rfl, hn, B', m'⟩
  | _ => exact hloop.elim
end Pk

/-! Shared specs, 10: in ascending order -/
namespace Pk
open PySem
section
variable {α : Type} (le : α → α → Bool)
def putIn (done : List α) (x : α) : List α := done.take (done.filter (le · x)).length ++ [x] ++ done.drop (done.filter (le · x)).length
def rise (ps : List α) : List α := ps.foldl (putIn le) []
variable {le}
theorem putIn_perm (done : List α) (x : α) : (putIn le done x).Perm (x :: done) := by
  unfold putIn
  rw [List.append_assoc, List.singleton_append]
  refine List.perm_middle.trans ?_
  rw [List.take_append_drop]
theorem rise_perm_aux : ∀ (ps done : List α), (ps.foldl (putIn le) done).Perm (ps ++ done)
  | [], done => .refl _
  | p :: ps, done => by
    refine (rise_perm_aux ps (putIn le done p)).trans ?_
    refine (List.Perm.append_left ps (putIn_perm done p)).trans ?_
    exact List.perm_middle
theorem rise_perm (ps : List α) : (rise le ps).Perm ps := by
  have := rise_perm_aux (le := le) ps []
  rwa [List.append_nil] at this
theorem rise_len (ps : List α) : (rise le ps).length = ps.length := (rise_perm ps).length_eq
theorem rise_take {ps : List α} {i : Nat} {p : α} (h : ps[i]? = some p) : rise le (ps.take (i + 1)) = putIn le (rise le (ps.take i)) p := by
  unfold rise
  rw [List.take_add_one, h]
  simp
/-- in a sorted row the lesser ones stand ahead -/
theorem split_at {x : α} (ht : ∀ a b c, le a b = true → le b c = true → le a c = true) : ∀ {l : List α}, l.Pairwise (fun a b => le a b = true) → (∀ a ∈ l.take (l.filter (le · x)).length, le a x = true) ∧ ∀ a ∈ l.drop (l.filter (le · x)).length, le a x = false
  | [], _ => ⟨(fun a h => by simp at h), fun a h => by simp at h⟩
  | y :: l, h => by
    obtain ⟨h1, h2⟩ := List.pairwise_cons.mp h
    cases hy : le y x with
    | true =>
      obtain ⟨i1, i2⟩ := split_at ht (x := x) h2
      rw [List.filter_cons_of_pos (by simpa using hy)]
      simp only [List.length_cons, List.take_succ_cons, List.drop_succ_cons]
      refine ⟨fun a ha => ?_, i2⟩
      rcases List.mem_cons.mp ha with rfl | ha
      · exact hy
      · exact i1 a ha
    | false =>
      have no : ∀ a ∈ l, le a x = false := fun a ha => by
        cases e : le a x with
        | false => rfl
        | true =>
          rw [ht y a x (h1 a ha) e] at hy
          cases hy
      have hf : (y :: l).filter (le · x) = [] := by
        rw [List.filter_eq_nil_iff]
        intro a ha
        rcases List.mem_cons.mp ha with rfl | ha
        · simp [hy]
        · simp [no a ha]
      rw [hf]
      refine ⟨(fun a h => by simp at h), fun a ha => ?_⟩
      rcases List.mem_cons.mp (by simpa using ha) with rfl | ha
      · exact hy
      · exact no a ha
theorem putIn_sorted (ht : ∀ a b c, le a b = true → le b c = true → le a c = true) (hto : ∀ a b, le a b = false → le b a = true) {done : List α} {x : α} (h : done.Pairwise (fun a b => le a b = true)) : (putIn le done x).Pairwise (fun a b => le a b = true) := by
  obtain ⟨h1, h2⟩ := split_at (x := x) ht h
  unfold putIn
  generalize (done.filter (le · x)).length = k at h1 h2 ⊢
  rw [List.append_assoc, List.pairwise_append]
  have hk : (done.take k ++ done.drop k).Pairwise (fun a b => le a b = true) := by rwa [List.take_append_drop]
  rw [List.pairwise_append] at hk
  refine ⟨hk.1, List.pairwise_cons.mpr ⟨fun a ha => hto _ _ (h2 a ha), hk.2.1⟩, fun a ha b hb => ?_⟩
  rcases List.mem_cons.mp hb with rfl | hb
  · exact h1 a ha
  · exact hk.2.2 a ha b hb
theorem rise_sorted (ht : ∀ a b c, le a b = true → le b c = true → le a c = true) (hto : ∀ a b, le a b = false → le b a = true) (ps : List α) : (rise le ps).Pairwise (fun a b => le a b = true) := by
  unfold rise
  have : ∀ (ps done : List α), done.Pairwise (fun a b => le a b = true) → (ps.foldl (putIn le) done).Pairwise (fun a b => le a b = true) := by
    intro ps
    induction ps with
    | nil => intro done h; exact h
    | cons p ps ih => intro done h; exact ih _ (putIn_sorted ht hto h)
  exact this ps [] List.Pairwise.nil
theorem rise_map {β : Type} {leB : β → β → Bool} {f : α → β} (h : ∀ a b, leB (f a) (f b) = le a b) (ps : List α) : rise leB (ps.map f) = (rise le ps).map f := by
  have : ∀ (ps : List α) (done : List α), (ps.map f).foldl (putIn leB) (done.map f) = (ps.foldl (putIn le) done).map f := by
    intro ps
    induction ps with
    | nil => intro done; rfl
    | cons p ps ih =>
      intro done
      have e : putIn leB (done.map f) (f p) = (putIn le done p).map f := by
        unfold putIn
        have : ((done.map f).filter (leB · (f p))).length = (done.filter (le · p)).length := by
          rw [List.filter_map, List.length_map]
          congr 2
          funext a
          exact h a p
        rw [this]
        simp
      simp only [List.map_cons, List.foldl_cons, e]
      exact ih _
  exact this ps []
end
theorem strLt_iff (a b : Str) : strLt a b = true ↔ tx a < tx b := by unfold strLt; simp
def strLe (a b : Str) : Bool := !strLt b a
theorem strLe_iff (a b : Str) : strLe a b = true ↔ tx a ≤ tx b := by
  unfold strLe
  rw [Bool.not_eq_true', ← Bool.not_eq_true, strLt_iff]
  exact List.not_lt
theorem strLe_trans (a b c : Str) (h1 : strLe a b = true) (h2 : strLe b c = true) : strLe a c = true := by
  rw [strLe_iff] at *
  exact List.le_trans h1 h2
theorem strLe_total (a b : Str) (h : strLe a b = false) : strLe b a = true := by
  rw [strLe_iff]
  have : ¬ tx a ≤ tx b := by rw [← strLe_iff, h]; exact Bool.false_ne_true
  rcases List.le_total (tx a) (tx b) with h | h
  · exact absurd h this
  · exact h
/-- ascending, no two alike -/
abbrev Asc (ws : List Str) : Prop := ws.Pairwise fun a b => strLt a b = true
theorem strLt_of_le_ne {a b : Str} (h : strLe a b = true) (hn : a ≠ b) : strLt a b = true := by
  rw [strLe_iff] at h
  rw [strLt_iff]
  rcases Decidable.em (tx a < tx b) with h' | h'
  · exact h'
  · exact absurd (tx_inj (List.le_antisymm h (List.not_lt.mp h'))) hn
theorem asc_rise {ws : List Str} (h : ws.Nodup) : Asc (rise strLe ws) := by
  have h1 := rise_sorted strLe_trans strLe_total ws
  have h2 : (rise strLe ws).Nodup := (rise_perm ws).nodup_iff.mpr h
  exact (h1.and h2).imp fun ⟨a, b⟩ => strLt_of_le_ne a b
/-! the def -/
def riseLoop : List IS := [
      .asg 3 (.blt .len [.lc (.int 1) (.nm 4) (.seq (.var 1)) (some (.cmp .LtE (.var 4) (.var 2))) [4]]),
      .asg 1 (.bin .Add (.bin .Add (.sl (.var 1) none (some (.var 3))) (.lst [.var 2])) (.sl (.var 1) (some (.var 3)) none))]
def riseBody : List IS := [.asg 1 (.lst []), .forS (.nm 2) (.seq (.var 0)) riseLoop, .ret (.var 1)]
theorem lc_count {le : P → P → Bool} {x : P} {gv : Nat → Option P} {c : CallF} {S : Store} {a b d : Option D} : ∀ {done : List P}, (∀ q ∈ done, ordF true 60 q x = some (le q x)) →
    lcLoop (lcF gv c [a, b, some (.val x), d, none] (.int 1) (.nm 4) (some (.cmp .LtE (.var 4) (.var 2))) [4]) done S = .ok (List.replicate (done.filter (le · x)).length (.int 1)) S
  | [], _ => rfl
  | q :: done, h => by
    have ih := lc_count (gv := gv) (c := c) (S := S) (a := a) (b := b) (d := d) fun q' hq => h q' (List.mem_cons_of_mem _ hq)
    have e : lcF gv c [a, b, some (.val x), d, none] (.int 1) (.nm 4) (some (.cmp .LtE (.var 4) (.var 2))) [4] q S = .ok (if le q x then some (.int 1) else none) S := by
      have hq : cmpP .LtE q x = some (le q x) := h q List.mem_cons_self
      have et : tgSet (.nm 4) q (wipeE [a, b, some (.val x), d, none] [4]) = some [a, b, some (.val x), d, some (.val q)] := rfl
      unfold lcF
      rw [et]
      simp only [evC_some, evE_cmp, evE_var, List.getElem?_cons_succ, List.getElem?_cons_zero, rdS_some, bind_ok, pk2_val, hq, Option.map_some, giv_some, trS_bl]
      cases le q x <;> simp
    unfold lcLoop
    rw [e]
    simp only [R.noX, bind_ok0, ih]
    cases hb : le q x <;> simp [hb, List.replicate_succ]
theorem rise_loop {le : P → P → Bool} {x p0 : P} {gv : Nat → Option P} {c : CallF} {S : Store} {x3 : Option D} {done : List P} (h : ∀ q ∈ done, ordF true 60 q x = some (le q x)) (hl : done.length < 1000000) :
    evSs gv c riseLoop [some (.val p0), some (.val (.lst done)), some (.val x), x3, none] S = .nx [some (.val p0), some (.val (.lst (putIn le done x))), some (.val x), some (.val (.int (done.filter (le · x)).length)), none] S := by
  have hk : (done.filter (le · x)).length ≤ done.length := List.length_filter_le _ _
  have e1 := lc_count (gv := gv) (c := c) (S := S) (a := some (.val p0)) (b := some (.val (.lst done))) (d := x3) h
  have e2 : bltP .len [.lst (List.replicate (done.filter (le · x)).length (.int 1))] = some (.int (done.filter (le · x)).length) := by simp [bltP]
  unfold putIn
  generalize (done.filter (le · x)).length = k at hk e1 e2 ⊢
  have e3 : slP (.lst done) none (some (k : Int)) = some (.lst (done.take k)) := by
    show some (P.lst (cutL done none (some (k : Int)))) = _
    rw [cutL_take (by omega) (by omega)]
    rfl
  have e4 : slP (.lst done) (some (k : Int)) none = some (.lst (done.drop k)) := by
    show some (P.lst (cutL done (some (k : Int)) none)) = _
    rw [cutL_drop (by omega) (by omega)]
    rfl
  have e5 : binP .Add (.lst (done.take k)) (.lst [x]) = some (.lst (done.take k ++ [x])) := by
    show (if (done.take k).length + [x].length ≤ lim then some (P.lst (done.take k ++ [x])) else none) = _
    rw [if_pos (by simp; unfold lim; omega)]
  have e6 : binP .Add (.lst (done.take k ++ [x])) (.lst (done.drop k)) = some (.lst (done.take k ++ [x] ++ done.drop k)) := by
    show (if (done.take k ++ [x]).length + (done.drop k).length ≤ lim then some (P.lst (done.take k ++ [x] ++ done.drop k)) else none) = _
    rw [if_pos (by simp; unfold lim; omega)]
  have e7 : mkR .lst [x] S = .ok (.val (.lst [x])) S := rfl
  simp only [riseLoop, evSs_cons, evS_asg, evE_blt, evDs_cons, evE_lc, evI_seq, evE_var, List.getElem?_cons_succ, List.getElem?_cons_zero, rdS_some, bind_ok, frz_val, itemsP, e1, okL_eq, evDs_nil, bl1_val, e2, giv_some, stm_ok, List.length_cons, List.length_nil, Nat.reduceAdd, Nat.reduceLT, if_true, List.set_cons_succ, List.set_cons_zero, sqL_nx, evE_bin, evE_sl, evO_none, evO_some, peek_val, pk1_val, e3, e4, evE_lst, evPs_consE _ _ _ _ (e := .var 2) (fun _ h => nomatch h), evPs_nil, e7, pk2_val, e5, e6, evSs_nil]
theorem rise_sp {gv : Nat → Option P} {G : Nat → Option FD} {k f : Nat} {fd : FD} {le : P → P → Bool} {p : P} {ps : List P} {S : Store} (h : G f = some fd) (h1 : fd.ps.length = 1) (h2 : fd.N.length = 5) (h3 : fd.body = riseBody) (hp : itemsP p = some ps) (hle : ∀ a ∈ ps, ∀ b ∈ ps, ordF true 60 a b = some (le a b)) (hl : ps.length < 1000000) :
    callK gv G (k + 1) f [.val p] S = .ok (.val (.lst (rise le ps))) S := by
  rw [callK_one h (by rw [h1]; rfl), h2, h3]
  have hloop := forLoop_at (tg := .nm 2) (f := evSs gv (callK gv G k) riseLoop) (items := ps) (V := fun _ _ => False)
    (fun i ρ S' => ∃ x2 x3, ρ = [some (.val p), some (.val (.lst (rise le (ps.take i)))), x2, x3, none] ∧ S' = S)
    (ρ := [some (.val p), some (.val (.lst [])), none, none, none]) (S := S)
    (Q := fun ρ S' => ρ[1]? = some (some (.val (.lst (rise le ps)))) ∧ S' = S)
    ⟨none, none, rfl, rfl⟩
    (fun i q ρ S' hq hI => by
      obtain ⟨x2, x3, rfl, rfl⟩ := hI
      refine ⟨[some (.val p), some (.val (.lst (rise le (ps.take i)))), some (.val q), x3, none], rfl, ?_⟩
      have hm : ∀ a ∈ rise le (ps.take i), a ∈ ps := fun a ha => List.mem_of_mem_take ((rise_perm _).mem_iff.mp ha)
      rw [rise_loop (le := le) (fun a ha => hle a (hm a ha) q (List.mem_of_getElem? hq)) (by rw [rise_len, List.length_take]; omega), ← rise_take hq]
      exact ⟨_, _, rfl, rfl⟩)
    (fun ρ S' hI => by
      obtain ⟨x2, x3, rfl, rfl⟩ := hI
      rw [List.take_length]
      exact ⟨rfl, rfl⟩)
  show endBody S.length (evSs gv (callK gv G k) riseBody [some (.val p), none, none, none, none] S) = _
  simp only [riseBody, evSs_cons, evS_asg, evE_lst0, stm_ok, List.length_cons, List.length_nil, Nat.reduceAdd, Nat.reduceLT, if_true, List.set_cons_succ, List.set_cons_zero, sqL_nx, evS_for, evI_seq, evE_var, List.getElem?_cons_zero, rdS_some, bind_ok, frz_val, hp]
  generalize forLoop _ _ _ _ _ = r at hloop ⊢
  cases r with
  | nx ρ S' =>
    obtain ⟨hr, rfl⟩ := hloop
    simp only [sqL_nx, evSs_cons, evS_ret, evE_var, hr, rdS_some, stm_ok, sqL_rt, endBody_val]
  | _ => exact hloop.elim
def leP : P → P → Bool
  | .str a, .str b => strLe a b
  | _, _ => false
/-- a SET of so many drawn names -/
def ThingsSp (c : CallF) (f : Nat) : Prop := ∀ n S m T, Bx S n (T + (13 + 9 * m)) → 0 ≤ T → 0 ≤ m → m ≤ 26 → (c f [.cell n, .val (.int m)] S).Ok fun d S' => ∃ ws, d = .val (.tup (ws.map .str)) ∧ Names ws m.toNat ∧ Asc ws ∧ Bx S' n T ∧ Sm S n S'
def thingsBody (nm ri : Nat) : List IS := [.ret (.blt .tuple [.call false ri [.call false nm [.var 0, .var 1]]])]
theorem things_sp {gv : Nat → Option P} {G : Nat → Option FD} {k nm ri f : Nat} {fd fr : FD} (hn : NamesSp (callK gv G (k + 1)) nm) (hr : G ri = some fr) (hr1 : fr.ps.length = 1) (hr2 : fr.N.length = 5) (hr3 : fr.body = riseBody)
    (h : G f = some fd) (h1 : fd.ps.length = 2) (h2 : fd.N.length = 2) (h3 : fd.body = thingsBody nm ri) : ThingsSp (callK gv G (k + 2)) f := by
  intro n S m T hB hT hm hm26
  rw [callK_one h (by rw [h1]; rfl), h2, h3]
  obtain ⟨_, _, e, ws, S1, rfl, rfl, hw, B1, m1⟩ := (hn n S m T hB hT hm hm26).out
  have hend : endCall false S.length (.cell S.length) (S1 ++ [.lst (ws.map .str)]) = .ok (.val (.lst (ws.map .str))) S1 := by
    have e : (S1 ++ [Cell.lst (ws.map .str)])[S.length]? = some (.lst (ws.map .str)) := by
      rw [← m1.length, List.getElem?_append_right (Nat.le_refl _), Nat.sub_self]
      rfl
    simp only [endCall, Nat.lt_irrefl, if_false, e]
    rw [← m1.length]
    simp
  have er := rise_sp (k := k) (gv := gv) (G := G) (le := leP) (p := .lst (ws.map .str)) (ps := ws.map .str) (S := S1) hr hr1 hr2 hr3 rfl (fun a ha b hb => by
    obtain ⟨x, _, rfl⟩ := List.mem_map.mp ha
    obtain ⟨y, _, rfl⟩ := List.mem_map.mp hb
    rfl) (by rw [List.length_map, hw.len]; omega)
  rw [rise_map (le := strLe) (leB := leP) (f := P.str) (fun a b => rfl)] at er
  show (endBody S.length (evSs gv (callK gv G (k + 1)) (thingsBody nm ri) [some (.cell n), some (.val (.int m))] S)).Ok _
  have et : bltP .tuple [.lst ((rise strLe ws).map .str)] = some (.tup ((rise strLe ws).map .str)) := rfl
  simp only [thingsBody, evSs_cons, evS_ret, evE_blt, evDs_cons, evE_call, evE_var, List.getElem?_cons_succ, List.getElem?_cons_zero, rdS_some, bind_ok, evDs_nil, e, hend, er, endCall_val, bl1_val, et, giv_some, stm_ok, sqL_rt]
  rw [← m1.length, endBody_val]
  refine ⟨rise strLe ws, rfl, ⟨by rw [rise_len]; exact hw.len, (rise_perm ws).nodup_iff.mpr hw.nd, fun w h => hw.name w ((rise_perm ws).mem_iff.mp h)⟩, asc_rise hw.nd, B1, m1⟩
end Pk

/-! Shared specs, 11: the script's cells, boxes, the law's end -/
namespace Pk
open PySem
def boxBody (C : Int) : List IS := [
    .asg 2 (.ite (.cmp .Lt (.var 1) (.blt .len [.var 0])) (.idx (.var 0) (.var 1)) (.int 0)),
    .ret (.thaw (.lst [.bin .Mult (.blt .abs [.var 2]) (.blt .int [.cmp .GtE (.blt .abs [.var 2]) (.bin .Pow (.int 10) (.int 18))]), .bin .Add (.bin .Add (.bin .Mod (.blt .int [.var 2]) (.int 2305843009213693951)) (.bin .Mult (.int 39373) (.var 1))) (.int C), .int 0]))]
theorem iabs_nonneg (v : Int) : 0 ≤ (if v < 0 then -v else v) := by split <;> omega
def BoxSp (c : CallF) (f : Nat) : Prop := ∀ S (zs : List Int) (j : Nat), j < zs.length → zs.length ≤ 63 → (c f [.val (.lst (zs.map .int)), .val (.int j)] S).Ok fun d S' => d = .cell S.length ∧ ∃ a b cc, S' = S ++ [BoxC a b cc] ∧ BoxOk a b cc (2 ^ 40)
theorem box_sp {gv : Nat → Option P} {G : Nat → Option FD} {k f : Nat} {fd : FD} {C : Int} (h : G f = some fd) (h1 : fd.ps.length = 2) (h2 : fd.N.length = 3) (h3 : fd.body = boxBody C) (hC0 : 0 ≤ C) (hC : C < 2 ^ 40) : BoxSp (callK gv G (k + 1)) f := by
  intro S zs j hj hz
  rw [callK_one h (by rw [h1]; rfl), h2, h3]
  obtain ⟨v, hv, _⟩ : ∃ v, L2.atI (zs.map P.int) (j : Int) = some (.int v) ∧ True := by
    refine ⟨zs[j], ?_, trivial⟩
    unfold L2.atI L2.ixN
    rw [if_pos (by omega), if_pos (by simp; omega)]
    simp [hj]
  have hv : ixP (.lst (zs.map P.int)) (.int (j : Int)) = some (.int v) := hv
  have a0 := iabs_nonneg v
  have m0 := Int.emod_nonneg v (show (2305843009213693951 : Int) ≠ 0 by decide)
  have m1 := Int.emod_lt_of_pos v (show (0 : Int) < 2305843009213693951 by decide)
  have e1 : cmpP .Lt (.int (j : Int)) (.int zs.length) = some true := by
    show some (decide ((j : Int) < zs.length)) = _
    rw [decide_eq_true (by omega)]
  have e2 : bltP .len [.lst (zs.map P.int)] = some (.int zs.length) := by
    show some (P.int ((zs.map P.int).length : Nat)) = _
    rw [List.length_map]
  have e3 : bltP .abs [.int v] = some (.int (if v < 0 then -v else v)) := rfl
  have e4 : binP .Pow (.int 10) (.int 18) = some (.int (10 ^ 18)) := by simp [binP]
  have e5 : cmpP .GtE (.int (if v < 0 then -v else v)) (.int (10 ^ 18)) = some (decide (10 ^ 18 ≤ (if v < 0 then -v else v))) := rfl
  have e6 : ∀ b : Bool, bltP .int [.bl b] = some (.int (if b then 1 else 0)) := fun _ => rfl
  have e7 : ∀ (x : Int) (b : Bool), binP .Mult (.int x) (.int (if b then 1 else 0)) = some (.int (x * (if b then 1 else 0))) := fun x b => by cases b <;> simp [binP, small]
  have e8 : bltP .int [.int v] = some (.int v) := rfl
  have e9 : binP .Mod (.int v) (.int 2305843009213693951) = some (.int (v % 2305843009213693951)) := by simp [binP]
  have e10 : binP .Mult (.int 39373) (.int (j : Int)) = some (.int (39373 * j)) := by simp [binP, small]
  have e11 : ∀ x y : Int, binP .Add (.int x) (.int y) = some (.int (x + y)) := fun _ _ => rfl
  have hb : 0 ≤ (if v < 0 then -v else v) * (if decide (10 ^ 18 ≤ (if v < 0 then -v else v)) then 1 else 0) := by
    cases decide (10 ^ 18 ≤ (if v < 0 then -v else v)) <;> simp [a0]
  generalize hab : (if v < 0 then -v else v) = av at *
  generalize hbb : decide ((10 : Int) ^ 18 ≤ av) = bb at *
  have e12 : ∀ x y z : Int, mkR .lst [.int x, .int y, .int z] S = .ok (.val (.lst [.int x, .int y, .int z])) S := fun _ _ _ => rfl
  have hend : ∀ x y z : Int, endBody S.length (.rt (.cell S.length) (S ++ [.lst [.int x, .int y, .int z]])) = .ok (.cell S.length) (S ++ [BoxC x y z]) := fun x y z => endBody_new rfl
  show (endBody S.length (evSs gv (callK gv G k) (boxBody C) [some (.val (.lst (zs.map .int))), some (.val (.int j)), none] S)).Ok _
  simp only [boxBody, evSs_cons, evS_asg, evE_ite, evE_cmp, evE_var, List.getElem?_cons_succ, List.getElem?_cons_zero, rdS_some, bind_ok, evE_blt, evDs_cons, evDs_nil, bl1_val, e2, giv_some, pk2_val, e1, Option.map_some, trS_bl, if_true, evE_idx, hv, stm_ok, List.length_cons, List.length_nil, Nat.reduceAdd, Nat.reduceLT, List.set_cons_succ, List.set_cons_zero, sqL_nx, evS_ret, evE_thaw _ _ _ _ (e := .lst [_, _, _]) rfl, evE_lst, evPs_bin, evPs_int, evPs_nil, evE_bin, evE_int, e3, e4, e5, e6, e7, e8, e9, e10, e11, frz_val, e12, thawS_lst, sqL_rt, hend]
  exact ⟨rfl, _, _, _, rfl, hb, by omega, by omega, by omega, by omega⟩
/-! the cells -/
def cellsLoop : List IS := [
      .asg 5 (.bin .Mod (.blt .int [.var 3]) (.var 1)),
      .setI (.var 2) (.var 5) (.bin .Add (.idx (.var 2) (.var 5)) (.bin .Mult (.var 4) (.bin .Add (.var 3) (.int 2))))]
def cellsBody : List IS := [
    .asg 2 (.thaw (.or [.blt .list [.sl (.var 0) none (some (.var 1))], .lst [.int 0]])),
    .forS (.tp [.nm 3, .nm 4]) (.enum (.sl (.var 0) (some (.var 1)) (some (.int 63)))) cellsLoop,
    .ret (.var 2)]
def CellsSp (c : CallF) (f : Nat) : Prop := ∀ S (ns : List Int) (m : Nat), ns.length ≤ 63 → 0 < m → m < 60 → (c f [.val (.scr ns), .val (.int m)] S).Ok fun d S' => d = .cell S.length ∧ ∃ zs : List Int, S' = S ++ [.lst (zs.map .int)] ∧ 0 < zs.length ∧ zs.length ≤ m
theorem enum_at {ps : List P} {i : Nat} {p : P} (h : (enumP 0 ps)[i]? = some p) : ∃ q, p = .tup [.int (i : Int), q] ∧ ps[i]? = some q := by
  have g : ∀ (ps : List P) (n i : Nat), (enumP n ps)[i]? = (ps[i]?).map fun p => .tup [.int ((n + i : Nat) : Int), p] := by
    intro ps
    induction ps with
    | nil => intro n i; simp [enumP]
    | cons p ps ih =>
      intro n i
      cases i with
      | zero => simp [enumP]
      | succ i =>
        simp only [enumP, List.getElem?_cons_succ, ih (n + 1) i]
        rw [show n + 1 + i = n + (i + 1) by omega]
  rw [g, Option.map_eq_some_iff] at h
  obtain ⟨q, h1, h2⟩ := h
  exact ⟨q, by rw [← h2, Nat.zero_add], h1⟩
theorem cells_loop {gv : Nat → Option P} {c : CallF} {S : Store} {zs ns : List Int} {i m : Nat} {v : Int} {x5 : Option D} (hz : 0 < zs.length) (hi : i < 1000) (hm : 0 < m) (hmz : zs.length = m) :
    evSs gv c cellsLoop [some (.val (.scr ns)), some (.val (.int m)), some (.cell S.length), some (.val (.int i)), some (.val (.int v)), x5] (S ++ [.lst (zs.map .int)]) =
      .nx [some (.val (.scr ns)), some (.val (.int m)), some (.cell S.length), some (.val (.int i)), some (.val (.int v)), some (.val (.int ((i : Int) % m)))] (S ++ [.lst ((zs.set ((i : Int) % m).toNat (zs.getD ((i : Int) % m).toNat 0 + v * ((i : Int) + 2))).map .int)]) := by
  have a0 := Int.emod_nonneg (i : Int) (show (m : Int) ≠ 0 by omega)
  have a1 := Int.emod_lt_of_pos (i : Int) (show (0 : Int) < m by omega)
  have e1 : bltP .int [.int (i : Int)] = some (.int i) := rfl
  have e2 : binP .Mod (.int (i : Int)) (.int m) = some (.int ((i : Int) % m)) := by
    show (if (0 : Int) < m then some (P.int ((i : Int) % m)) else none) = _
    rw [if_pos (by omega)]
  generalize (i : Int) % m = at_ at *
  obtain ⟨a, rfl⟩ : ∃ a : Nat, at_ = a := ⟨at_.toNat, by omega⟩
  have ha : a < zs.length := by omega
  have hS : (S ++ [Cell.lst (zs.map P.int)])[S.length]? = some (.lst (zs.map .int)) := by
    rw [List.getElem?_append_right (Nat.le_refl _), Nat.sub_self]
    rfl
  have hset : ∀ x : Cell, (S ++ [Cell.lst (zs.map P.int)]).set S.length x = S ++ [x] := fun x => by
    rw [List.set_append_right _ _ (Nat.le_refl _), Nat.sub_self]
    rfl
  have e3 : ixP (.lst (zs.map P.int)) (.int (a : Int)) = some (.int (zs.getD a 0)) := by
    show L2.atI (zs.map P.int) (a : Int) = _
    unfold L2.atI L2.ixN
    rw [if_pos (by omega), if_pos (by simp; omega)]
    simp [ha]
  have e3' : pk2 ixP (.cell S.length) (.val (.int (a : Int))) (S ++ [Cell.lst (zs.map P.int)]) = .ok (.val (.int (zs.getD a 0))) (S ++ [Cell.lst (zs.map P.int)]) := by
    unfold pk2
    rw [peek_lst hS]
    simp only [peek_val, e3, giv_some]
  have e4 : binP .Add (.int (i : Int)) (.int 2) = some (.int (i + 2)) := rfl
  have e5 : binP .Mult (.int v) (.int ((i : Int) + 2)) = some (.int (v * (i + 2))) := by
    show (if small v || small ((i : Int) + 2) then some (P.int (v * (i + 2))) else none) = _
    rw [small_of (i := (i : Int) + 2) (by omega) (by omega)]
    simp
  have e6 : ∀ x y : Int, binP .Add (.int x) (.int y) = some (.int (x + y)) := fun _ _ => rfl
  have e7 : L2.ixN (zs.map P.int).length (a : Int) = some a := by
    unfold L2.ixN
    rw [if_pos (by omega), if_pos (by simp; omega)]
    simp
  simp only [cellsLoop, evSs_cons, evS_asg, evE_bin, evE_blt, evDs_cons, evE_var, List.getElem?_cons_succ, List.getElem?_cons_zero, rdS_some, bind_ok, evDs_nil, bl1_val, e1, giv_some, pk2_val, e2, stm_ok, List.length_cons, List.length_nil, Nat.reduceAdd, Nat.reduceLT, if_true, List.set_cons_succ, List.set_cons_zero, sqL_nx, evS_setI, evE_idx, e3', evE_int, e4, e5, e6, frz_val, peek_val, hS, e7, hset, evSs_nil, Int.toNat_natCast]
  simp
theorem cells_sp {gv : Nat → Option P} {G : Nat → Option FD} {k f : Nat} {fd : FD} (h : G f = some fd) (h1 : fd.ps.length = 2) (h2 : fd.N.length = 6) (h3 : fd.body = cellsBody) : CellsSp (callK gv G (k + 1)) f := by
  intro S ns m hn hm hm2
  rw [callK_one h (by rw [h1]; rfl), h2, h3]
  generalize hc : callK gv G k = c
  obtain ⟨zs, hz0, hz1, hzm, he⟩ : ∃ zs : List Int, 0 < zs.length ∧ zs.length ≤ m ∧ (m < ns.length → zs.length = m) ∧ evE gv c (.thaw (.or [.blt .list [.sl (.var 0) none (some (.var 1))], .lst [.int 0]])) [some (.val (.scr ns)), some (.val (.int m)), none, none, none, none] S = .ok (.cell S.length) (S ++ [.lst (zs.map .int)]) := by
    have e1 : slP (.scr ns) none (some (m : Int)) = some (.lst ((cutL ns none (some (m : Int))).map .int)) := rfl
    have e1' : (cutL ns none (some (m : Int))) = ns.take m := by
      unfold cutL HT.sIx
      simp only [List.drop_zero, Nat.sub_zero]
      rw [if_neg (by omega), Int.toNat_natCast]
      by_cases hmn : m ≤ ns.length
      · rw [show min m ns.length = m by omega]
      · rw [show min m ns.length = ns.length by omega, List.take_length, List.take_of_length_le (by omega)]
    have e2 : bltP .list [.lst ((ns.take m).map .int)] = some (.lst ((ns.take m).map .int)) := rfl
    have e3 : mkR .lst [.int 0] S = .ok (.val (.lst [.int 0])) S := rfl
    cases ns with
    | nil =>
      refine ⟨[0], by simp, by simp; omega, (fun h => by simp at h), ?_⟩
      simp only [evE_thaw _ _ _ _ (e := .or [.blt .list [.sl (.var 0) none (some (.var 1))], .lst [.int 0]]) rfl, evE_or, evOr_cons, evE_blt, evDs_cons, evE_sl, evE_var, List.getElem?_cons_succ, List.getElem?_cons_zero, rdS_some, bind_ok, evO_none, evO_some, peek_val, pk1_val, e1, e1', giv_some, evDs_nil, bl1_val, e2, trS_lst, List.take_nil, List.map_nil, List.isEmpty_nil, Bool.not_true, Bool.false_eq_true, if_false, evOr_one, evE_lst, evPs_int, evE_int, frz_val, evPs_nil, e3, thawS_lst]
      rfl
    | cons v ns =>
      refine ⟨(v :: ns).take m, by simp; omega, by simp; omega, (fun h => by rw [List.length_take]; omega), ?_⟩
      have e4 : (!((List.take m (v :: ns)).map P.int).isEmpty) = true := by
        cases m with
        | zero => omega
        | succ m => rfl
      simp only [evE_thaw _ _ _ _ (e := .or [.blt .list [.sl (.var 0) none (some (.var 1))], .lst [.int 0]]) rfl, evE_or, evOr_cons, evE_blt, evDs_cons, evE_sl, evE_var, List.getElem?_cons_succ, List.getElem?_cons_zero, rdS_some, bind_ok, evO_none, evO_some, peek_val, pk1_val, e1, e1', giv_some, evDs_nil, bl1_val, e2, trS_lst, e4, if_true, thawS_lst]
  obtain ⟨rs, hr, hrm, hsl⟩ : ∃ rs : List Int, rs.length ≤ 63 ∧ (0 < rs.length → m < ns.length) ∧ slP (.scr ns) (some (m : Int)) (some 63) = some (.lst (rs.map .int)) := by
    refine ⟨cutL ns (some (m : Int)) (some 63), by unfold cutL; simp; omega, fun h => ?_, rfl⟩
    unfold cutL HT.sIx at h
    have h0 : ¬ ((m : Int) < 0) := by omega
    simp [h0] at h
    omega
  have hloop := forLoop_at (tg := .tp [.nm 3, .nm 4]) (f := evSs gv c cellsLoop) (items := enumP 0 (rs.map .int)) (V := fun _ _ => False)
    (fun i ρ S' => ∃ x3 x4 x5, ∃ zs' : List Int, ρ = [some (.val (.scr ns)), some (.val (.int m)), some (.cell S.length), x3, x4, x5] ∧ S' = S ++ [.lst (zs'.map .int)] ∧ zs'.length = zs.length)
    (ρ := [some (.val (.scr ns)), some (.val (.int m)), some (.cell S.length), none, none, none]) (S := S ++ [.lst (zs.map .int)])
    (Q := fun ρ S' => ρ[2]? = some (some (.cell S.length)) ∧ ∃ zs' : List Int, S' = S ++ [.lst (zs'.map .int)] ∧ zs'.length = zs.length)
    ⟨none, none, none, zs, rfl, rfl, rfl⟩
    (fun i p ρ S' hp hI => by
      obtain ⟨x3, x4, x5, zs', rfl, rfl, hl⟩ := hI
      obtain ⟨q, rfl, hq⟩ := enum_at hp
      rw [List.getElem?_map, Option.map_eq_some_iff] at hq
      obtain ⟨v, hv, rfl⟩ := hq
      have hi := (List.getElem?_eq_some_iff.mp hv).1
      have hzz := hzm (hrm (by omega))
      refine ⟨[some (.val (.scr ns)), some (.val (.int m)), some (.cell S.length), some (.val (.int i)), some (.val (.int v)), x5], rfl, ?_⟩
      rw [cells_loop (by omega) (by omega) hm (by omega)]
      exact ⟨_, _, _, _, rfl, rfl, by simpa using hl⟩)
    (fun ρ S' hI => by
      obtain ⟨x3, x4, x5, zs', rfl, rfl, hl⟩ := hI
      exact ⟨rfl, zs', rfl, hl⟩)
  show (endBody S.length (evSs gv c cellsBody [some (.val (.scr ns)), some (.val (.int m)), none, none, none, none] S)).Ok _
  simp only [cellsBody, evSs_cons, evS_asg, he, stm_ok, List.length_cons, List.length_nil, Nat.reduceAdd, Nat.reduceLT, if_true, List.set_cons_succ, List.set_cons_zero, sqL_nx, evS_for, evI_enum, evE_sl, evE_var, List.getElem?_cons_succ, List.getElem?_cons_zero, rdS_some, bind_ok, evO_some, peek_val, evE_int, pk1_val, hsl, giv_some, frz_val]
  generalize forLoop _ _ _ _ _ = r at hloop ⊢
  cases r with
  | nx ρ S' =>
    obtain ⟨hr, zs', rfl, hl⟩ := hloop
    simp only [sqL_nx, evSs_cons, evS_ret, evE_var, hr, rdS_some, stm_ok, sqL_rt]
    rw [endBody_new rfl]
    exact ⟨rfl, zs', rfl, by omega, by omega⟩
  | _ => exact hloop.elim
/-! the law's end -/
theorem lcLoop_all {f : P → Store → R (Option P)} {Q : Store → Prop} : ∀ {ps : List P} {S : Store}, Q S → (∀ p ∈ ps, ∀ S, Q S → (f p S).Ok fun o S' => o = some (.bl true) ∧ Q S') → (lcLoop f ps S).Ok fun qs S' => qs = List.replicate ps.length (.bl true) ∧ Q S'
  | [], S, h, _ => ⟨rfl, h⟩
  | p :: ps, S, h, hp => by
    unfold lcLoop
    obtain ⟨o, S1, e1, rfl, h1⟩ := (hp p List.mem_cons_self S h).out
    rw [e1]
    obtain ⟨qs, S2, e2, rfl, h2⟩ := (lcLoop_all h1 fun q hq => hp q (List.mem_cons_of_mem _ hq)).out
    simp only [R.noX, bind_ok0, e2]
    exact ⟨rfl, h2⟩
theorem allB_rep : ∀ n : Nat, allB (List.replicate n (.bl true)) = some true
  | 0 => rfl
  | n + 1 => by simp [List.replicate_succ, allB, allB_rep n]
def RightSp (c : CallF) (f : Nat) : Prop := ∀ n S, Bx S n (2 ^ 40) → (c f [.cell n] S).Ok fun d _ => d = .val (.bl true)
/-- all([_law_right(_law_box(cells, k)) for k in range(len(cells))]), the cells in slot 1, k in slot 2 -/
theorem rights_sp {gv : Nat → Option P} {c : CallF} {S : Store} {zs : List Int} {bx ri v w : Nat} {ρ : Env} (hb : BoxSp c bx) (hr : RightSp c ri) (hv : ρ[v]? = some (some (.val (.lst (zs.map .int))))) (hw : w < ρ.length) (hvw : w ≠ v) (hz : zs.length ≤ 63) :
    (evE gv c (.blt .all [.lc (.call false ri [.call true bx [.var v, .var w]]) (.nm w) (.rng [.blt .len [.var v]]) none [w]]) ρ S).Ok fun d _ => d = .val (.bl true) := by
  have e2 : bltP .len [.lst (zs.map P.int)] = some (.int zs.length) := by
    show some (P.int ((zs.map P.int).length : Nat)) = _
    rw [List.length_map]
  have el : evE gv c (.blt .len [.var v]) ρ S = .ok (.val (.int zs.length)) S := by
    simp only [evE_blt, evDs_cons, evE_var, hv, rdS_some, bind_ok, evDs_nil, bl1_val, e2, giv_some]
  obtain ⟨qs, S', e, rfl, _⟩ := (lcLoop_all (f := lcF gv c ρ (.call false ri [.call true bx [.var v, .var w]]) (.nm w) none [w]) (Q := fun _ => True) (ps := (List.range (zs.length : Int).toNat).map fun (n : Nat) => P.int (n : Int)) (S := S) trivial (fun p hp S _ => by
    obtain ⟨j, hj, rfl⟩ := List.mem_map.mp hp
    have hj : j < zs.length := by simpa using hj
    obtain ⟨d, S1, e1, rfl, a, b, cc, rfl, hbox⟩ := (hb S zs j hj hz).out
    have hB : Bx (S ++ [BoxC a b cc]) S.length (2 ^ 40) := ⟨a, b, cc, by rw [List.getElem?_append_right (Nat.le_refl _), Nat.sub_self]; rfl, hbox⟩
    obtain ⟨d2, S2, e2, rfl⟩ := (hr S.length _ hB).out
    have et : tgSet (.nm w) (.int (j : Int)) (wipeE ρ [w]) = some (ρ.set w (some (.val (.int j)))) := by
      show (if w < (ρ.set w none).length then some ((ρ.set w none).set w _) else none) = _
      rw [if_pos (by simpa using hw), List.set_set]
    have h1 : (ρ.set w (some (D.val (.int (j : Int)))))[v]? = some (some (.val (.lst (zs.map .int)))) := by
      rw [List.getElem?_set_ne hvw]
      exact hv
    have h2 : (ρ.set w (some (D.val (.int (j : Int)))))[w]? = some (some (.val (.int j))) := List.getElem?_set_self hw
    unfold lcF
    rw [et]
    simp only [evC_none, bind_ok, if_true, evE_call, evDs_cons, evE_var, h1, h2, rdS_some, evDs_nil, e1, endCall_true, e2, endCall_val, frz_val]
    exact ⟨rfl, trivial⟩)).out
  have ea : bltP .all [.lst (List.replicate ((List.range (zs.length : Int).toNat).map fun (n : Nat) => P.int (n : Int)).length (.bl true))] = some (.bl true) := by
    show (allB _).map P.bl = _
    rw [allB_rep]
    rfl
  simp only [evE_blt, evDs_cons, evE_lc, evI_rng1 el (by omega) (by omega), bind_ok, e, okL_eq, evDs_nil, bl1_val, ea, giv_some]
  rfl
end Pk

/-! the defs of partskept_k18_machines_or_not as readings -/
namespace K18
open PySem PySem.Spec PyProof.Rows L2 Pk
/-- is_number -/
def f0 : FD where
  ps := ([PySem.Str.ofString "thing"] : List PySem.Str)
  N := ([PySem.Str.ofString "thing"] : List PySem.Str)
  body := [
    .ret (.and [.isi (.var 0) [.int] false, .not (.isi (.var 0) [.bool] false)])]

/-- is_answer -/
def f1 : FD where
  ps := ([PySem.Str.ofString "thing"] : List PySem.Str)
  N := ([PySem.Str.ofString "thing", PySem.Str.ofString "part"] : List PySem.Str)
  body := [
    .ifS (.isi (.var 0) [.tuple] false) [
      .ret (.blt .all [.lc (.call false 1 [.var 1]) (.nm 1) (.seq (.var 0)) none [1]])] [],
    .ret (.or [.cmp .Is (.var 0) (.non), .isi (.var 0) [.str] false, .call false 0 [.var 0]])]

/-- is_note -/
def f2 : FD where
  ps := ([PySem.Str.ofString "thing", PySem.Str.ofString "many"] : List PySem.Str)
  N := ([PySem.Str.ofString "thing", PySem.Str.ofString "many"] : List PySem.Str)
  body := [
    .ret (.and [.call false 0 [.var 0], .chain .LtE .Lt (.int 0) (.var 0) (.var 1)])]

/-- is_machine -/
def f3 : FD where
  ps := ([PySem.Str.ofString "things", PySem.Str.ofString "thing"] : List PySem.Str)
  N := ([PySem.Str.ofString "things", PySem.Str.ofString "thing", PySem.Str.ofString "many", PySem.Str.ofString "first", PySem.Str.ofString "steps", PySem.Str.ofString "said", PySem.Str.ofString "row", PySem.Str.ofString "note", PySem.Str.ofString "one"] : List PySem.Str)
  body := [
    .ifS (.or [.not (.isi (.var 1) [.tuple] false), .cmp .NotEq (.blt .len [.var 1]) (.glob 0)]) [
      .ret (.bl false)] [],
    .unp (.tp [.nm 3, .nm 4, .nm 5]) (.var 1),
    .ifS (.or [.not (.isi (.var 4) [.tuple] false), .not (.isi (.var 5) [.tuple] false), .cmp .NotEq (.blt .len [.var 4]) (.blt .len [.var 5])]) [
      .ret (.bl false)] [],
    .asg 2 (.blt .len [.var 4]),
    .ifS (.or [.not (.call false 2 [.var 3, .var 2]), .not (.blt .all [.lc (.call false 1 [.var 8]) (.nm 8) (.seq (.var 5)) none [8]])]) [
      .ret (.bl false)] [],
    .ifS (.not (.blt .all [.lc (.and [.isi (.var 6) [.tuple] false, .cmp .Eq (.blt .len [.var 6]) (.blt .len [.var 0])]) (.nm 6) (.seq (.var 4)) none [6]])) [
      .ret (.bl false)] [],
    .ret (.blt .all [.lc2 (.call false 2 [.var 7, .var 2]) (.nm 6) (.seq (.var 4)) none (.nm 7) (.seq (.var 6)) none [6, 7] [7]])]
  kw := [(0, [PySem.Str.ofString "things", PySem.Str.ofString "thing"], [0, 1])]

/-- _law_box -/
def f4 : FD where
  ps := ([PySem.Str.ofString "_law_script", PySem.Str.ofString "_law_k"] : List PySem.Str)
  N := ([PySem.Str.ofString "_law_script", PySem.Str.ofString "_law_k", PySem.Str.ofString "_law_cell"] : List PySem.Str)
  body := [
    .asg 2 (.ite (.cmp .Lt (.var 1) (.blt .len [.var 0])) (.idx (.var 0) (.var 1)) (.int 0)),
    .ret (.thaw (.lst [.bin .Mult (.blt .abs [.var 2]) (.blt .int [.cmp .GtE (.blt .abs [.var 2]) (.bin .Pow (.int 10) (.int 18))]), .bin .Add (.bin .Add (.bin .Mod (.blt .int [.var 2]) (.int 2305843009213693951)) (.bin .Mult (.int 39373) (.var 1))) (.int 18403), .int 0]))]

/-- _law_take -/
def f5 : FD where
  ps := ([PySem.Str.ofString "_law_box_here", PySem.Str.ofString "_law_below"] : List PySem.Str)
  N := ([PySem.Str.ofString "_law_box_here", PySem.Str.ofString "_law_below", PySem.Str.ofString "_law_once", PySem.Str.ofString "_law_far_so", PySem.Str.ofString "_law_twice", PySem.Str.ofString "_law_drawn"] : List PySem.Str)
  body := [
    .ifS (.cmp .Gt (.idx (.var 0) (.int 0)) (.int 0)) [
      .asg 5 (.bin .Mod (.blt .int [.idx (.var 0) (.int 0)]) (.var 1)),
      .setI (.var 0) (.int 0) (.bin .FloorDiv (.idx (.var 0) (.int 0)) (.var 1)),
      .ret (.var 5)] [],
    .setI (.var 0) (.int 2) (.bin .Add (.idx (.var 0) (.int 2)) (.int 1)),
    .asg 2 (.bin .Mod (.blt .int [.bin .Mult (.bin .Add (.idx (.var 0) (.int 1)) (.bin .Mult (.int 48271) (.idx (.var 0) (.int 2)))) (.bin .Add (.int 39373) (.idx (.var 0) (.int 2)))]) (.int 2147483647)),
    .asg 3 (.bin .Add (.bin .Mod (.blt .int [.var 2]) (.int 40009)) (.int 7)),
    .asg 4 (.bin .Mod (.blt .int [.bin .Mult (.bin .Add (.bin .Add (.var 2) (.idx (.var 0) (.int 2))) (.bin .FloorDiv (.idx (.var 0) (.int 1)) (.int 1000003))) (.var 3)]) (.int 2147483629)),
    .ret (.bin .Mod (.blt .int [.bin .FloorDiv (.bin .Mod (.blt .int [.bin .Add (.bin .Mult (.var 4) (.int 48271)) (.var 2)]) (.int 2147483587)) (.int 64)]) (.var 1))]

/-- _law_cells -/
def f6 : FD where
  ps := ([PySem.Str.ofString "_law_script", PySem.Str.ofString "_law_most_so"] : List PySem.Str)
  N := ([PySem.Str.ofString "_law_script", PySem.Str.ofString "_law_most_so", PySem.Str.ofString "_law_cells_here", PySem.Str.ofString "_law_k", PySem.Str.ofString "_law_cell", PySem.Str.ofString "_law_at_so"] : List PySem.Str)
  body := [
    .asg 2 (.thaw (.or [.blt .list [.sl (.var 0) none (some (.var 1))], .lst [.int 0]])),
    .forS (.tp [.nm 3, .nm 4]) (.enum (.sl (.var 0) (some (.var 1)) (some (.int 63)))) [
      .asg 5 (.bin .Mod (.blt .int [.var 3]) (.var 1)),
      .setI (.var 2) (.var 5) (.bin .Add (.idx (.var 2) (.var 5)) (.bin .Mult (.var 4) (.bin .Add (.var 3) (.int 2))))],
    .ret (.var 2)]

/-- _law_of -/
def f7 : FD where
  ps := ([PySem.Str.ofString "_law_box_here", PySem.Str.ofString "_law_some"] : List PySem.Str)
  N := ([PySem.Str.ofString "_law_box_here", PySem.Str.ofString "_law_some"] : List PySem.Str)
  body := [
    .ret (.idx (.var 1) (.call false 5 [.var 0, .blt .len [.var 1]]))]

/-- _law_same -/
def f8 : FD where
  ps := ([PySem.Str.ofString "_law_got", PySem.Str.ofString "_law_due_so"] : List PySem.Str)
  N := ([PySem.Str.ofString "_law_got", PySem.Str.ofString "_law_due_so", PySem.Str.ofString "_law_own", PySem.Str.ofString "_law_mine", PySem.Str.ofString "_law_its"] : List PySem.Str)
  body := [
    .ifS (.isi (.var 1) [.list, .tuple] true) [
      .ifS (.or [.cmp .NotEq (.isi (.var 0) [.list] false) (.isi (.var 1) [.list] false), .cmp .NotEq (.isi (.var 0) [.tuple] false) (.isi (.var 1) [.tuple] false)]) [
        .ret (.bl false)] [],
      .ret (.and [.cmp .Eq (.blt .len [.var 0]) (.blt .len [.var 1]), .blt .all [.lc (.call false 8 [.var 3, .var 4]) (.tp [.nm 3, .nm 4]) (.zip (.var 0) (.var 1)) none [3, 4]]])] [],
    .ifS (.isi (.var 1) [.dict] false) [
      .ifS (.or [.not (.isi (.var 0) [.dict] false), .cmp .NotEq (.blt .len [.var 0]) (.blt .len [.var 1]), .cmp .NotEq (.lc (.var 2) (.nm 2) (.seq (.var 1)) (some (.cmp .NotIn (.var 2) (.var 0))) [2]) (.lst [])]) [
        .ret (.bl false)] [],
      .ret (.blt .all [.lc (.call false 8 [.idx (.var 0) (.var 2), .idx (.var 1) (.var 2)]) (.nm 2) (.seq (.var 1)) none [2]])] [],
    .ifS (.or [.cmp .Is (.var 1) (.non), .isi (.var 1) [.bool, .str] true]) [
      .ret (.and [.cmp .Eq (.var 0) (.var 1), .cmp .Eq (.isi (.var 0) [.bool] false) (.isi (.var 1) [.bool] false), .cmp .Eq (.cmp .Is (.var 0) (.non)) (.cmp .Is (.var 1) (.non))])] [],
    .ret (.and [.isi (.var 0) [.int] false, .not (.isi (.var 0) [.bool] false), .cmp .Eq (.var 0) (.var 1)])]

/-- _law_rising -/
def f9 : FD where
  ps := ([PySem.Str.ofString "_law_rows_so"] : List PySem.Str)
  N := ([PySem.Str.ofString "_law_rows_so", PySem.Str.ofString "_law_done", PySem.Str.ofString "_law_mine_so", PySem.Str.ofString "_law_at_so", PySem.Str.ofString "_law_own"] : List PySem.Str)
  body := [
    .asg 1 (.lst []),
    .forS (.nm 2) (.seq (.var 0)) [
      .asg 3 (.blt .len [.lc (.int 1) (.nm 4) (.seq (.var 1)) (some (.cmp .LtE (.var 4) (.var 2))) [4]]),
      .asg 1 (.bin .Add (.bin .Add (.sl (.var 1) none (some (.var 3))) (.lst [.var 2])) (.sl (.var 1) (some (.var 3)) none))],
    .ret (.var 1)]

/-- _law_names -/
def f10 : FD where
  ps := ([PySem.Str.ofString "_law_box_here", PySem.Str.ofString "_law_some"] : List PySem.Str)
  N := ([PySem.Str.ofString "_law_box_here", PySem.Str.ofString "_law_some", PySem.Str.ofString "_law_letters", PySem.Str.ofString "_law_base", PySem.Str.ofString "_law_first_so", PySem.Str.ofString "_law_step", PySem.Str.ofString "_law_done", PySem.Str.ofString "_law_k", PySem.Str.ofString "_law_far_so", PySem.Str.ofString "_law_place", PySem.Str.ofString "_law_near", PySem.Str.ofString "_law_size_so"] : List PySem.Str) ++ ([PySem.Str.ofString "_law_word_so", PySem.Str.ofString "_law_at_so", PySem.Str.ofString "_law_sign_so", PySem.Str.ofString "_law_turn"] : List PySem.Str)
  body := [
    .asg 2 (.str (PySem.Str.ofString "abcdefghijklmnopqrstuvwxyz")),
    .asg 3 (.meth .join (.str (PySem.Str.ofString "")) [.lc (.idx (.var 2) (.call false 5 [.var 0, .int 26])) (.nm 7) (.rng [.int 8]) none [7]]),
    .par [8, 9, 10] [.bin .Add (.int 1) (.call false 5 [.var 0, .int 8]), .call false 5 [.var 0, .int 8], .call false 5 [.var 0, .int 2]],
    .asg 4 (.call false 5 [.var 0, .int 26]),
    .asg 5 (.call false 7 [.var 0, .lst [.int 1, .int 3, .int 5, .int 7, .int 9, .int 11, .int 15, .int 17, .int 19, .int 21, .int 23, .int 25]]),
    .asg 6 (.thaw (.lst [])),
    .forS (.nm 7) (.rng [.var 1]) [
      .asg 11 (.ite (.cmp .Eq (.var 10) (.int 0)) (.var 8) (.bin .Add (.int 1) (.call false 5 [.var 0, .int 8]))),
      .asg 12 (.sl (.var 3) none (some (.var 11))),
      .ifS (.cmp .Gt (.var 10) (.int 0)) [
        .asg 12 (.meth .join (.str (PySem.Str.ofString "")) [.lc (.idx (.var 2) (.call false 5 [.var 0, .int 26])) (.nm 15) (.rng [.var 11]) none [15]])] [],
      .asg 13 (.bin .Mod (.blt .int [.var 9]) (.var 11)),
      .asg 14 (.idx (.var 2) (.bin .Mod (.blt .int [.bin .Add (.var 4) (.bin .Mult (.var 5) (.var 7))]) (.int 26))),
      .exprS (.meth .append (.var 6) [.bin .Add (.bin .Add (.sl (.var 12) none (some (.var 13))) (.var 14)) (.sl (.var 12) (some (.bin .Add (.var 13) (.int 1))) none)])],
    .ret (.var 6)]

/-- _law_things -/
def f11 : FD where
  ps := ([PySem.Str.ofString "_law_box_here", PySem.Str.ofString "_law_many_so"] : List PySem.Str)
  N := ([PySem.Str.ofString "_law_box_here", PySem.Str.ofString "_law_many_so"] : List PySem.Str)
  body := [
    .ret (.blt .tuple [.call false 9 [.call false 10 [.var 0, .var 1]]])]

/-- _law_is_note -/
def f12 : FD where
  ps := ([PySem.Str.ofString "_law_matter", PySem.Str.ofString "_law_many_so"] : List PySem.Str)
  N := ([PySem.Str.ofString "_law_matter", PySem.Str.ofString "_law_many_so"] : List PySem.Str)
  body := [
    .ret (.and [.isi (.var 0) [.int] false, .not (.isi (.var 0) [.bool] false), .cmp .LtE (.int 0) (.var 0), .cmp .Lt (.var 0) (.var 1)])]

/-- _law_is_said -/
def f13 : FD where
  ps := ([PySem.Str.ofString "_law_matter"] : List PySem.Str)
  N := ([PySem.Str.ofString "_law_matter", PySem.Str.ofString "_law_bit"] : List PySem.Str)
  body := [
    .ifS (.isi (.var 0) [.tuple] false) [
      .ret (.blt .all [.lc (.call false 13 [.var 1]) (.nm 1) (.seq (.var 0)) none [1]])] [],
    .ret (.or [.cmp .Is (.var 0) (.non), .isi (.var 0) [.str] false, .and [.isi (.var 0) [.int] false, .not (.isi (.var 0) [.bool] false)]])]

/-- _law_is_so -/
def f14 : FD where
  ps := ([PySem.Str.ofString "_law_letters", PySem.Str.ofString "_law_matter"] : List PySem.Str)
  N := ([PySem.Str.ofString "_law_letters", PySem.Str.ofString "_law_matter", PySem.Str.ofString "_law_many_so", PySem.Str.ofString "_law_row_so", PySem.Str.ofString "_law_bit"] : List PySem.Str)
  body := [
    .ifS (.or [.not (.isi (.var 1) [.tuple] false), .cmp .NotEq (.blt .len [.var 1]) (.int 3)]) [
      .ret (.bl false)] [],
    .ifS (.or [.not (.isi (.idx (.var 1) (.int 1)) [.tuple] false), .not (.isi (.idx (.var 1) (.int 2)) [.tuple] false), .cmp .NotEq (.blt .len [.idx (.var 1) (.int 1)]) (.blt .len [.idx (.var 1) (.int 2)])]) [
      .ret (.bl false)] [],
    .asg 2 (.blt .len [.idx (.var 1) (.int 1)]),
    .forS (.nm 3) (.seq (.idx (.var 1) (.int 1))) [
      .ifS (.or [.not (.isi (.var 3) [.tuple] false), .cmp .NotEq (.blt .len [.var 3]) (.blt .len [.var 0])]) [
        .ret (.bl false)] [],
      .ifS (.not (.blt .all [.lc (.call false 12 [.var 4, .var 2]) (.nm 4) (.seq (.var 3)) none [4]])) [
        .ret (.bl false)] []],
    .ret (.and [.call false 12 [.idx (.var 1) (.int 0), .var 2], .blt .all [.lc (.call false 13 [.var 4]) (.nm 4) (.seq (.idx (.var 1) (.int 2))) none [4]]])]

/-- _law_bent -/
def f15 : FD where
  ps := ([PySem.Str.ofString "_law_box_here", PySem.Str.ofString "_law_matter", PySem.Str.ofString "_law_pool", PySem.Str.ofString "_law_deep"] : List PySem.Str)
  N := ([PySem.Str.ofString "_law_box_here", PySem.Str.ofString "_law_matter", PySem.Str.ofString "_law_pool", PySem.Str.ofString "_law_deep", PySem.Str.ofString "_law_k", PySem.Str.ofString "_law_way_so"] : List PySem.Str)
  body := [
    .ifS (.or [.cmp .Eq (.var 3) (.int 0), .not (.isi (.var 1) [.tuple] false), .cmp .Eq (.blt .len [.var 1]) (.int 0), .cmp .Eq (.call false 5 [.var 0, .int 6]) (.int 0)]) [
      .ret (.call false 7 [.var 0, .var 2])] [],
    .par [4, 5] [.call false 5 [.var 0, .blt .len [.var 1]], .call false 5 [.var 0, .int 9]],
    .ifS (.cmp .Eq (.var 5) (.int 0)) [
      .ret (.bin .Add (.sl (.var 1) none (some (.var 4))) (.sl (.var 1) (some (.bin .Add (.var 4) (.int 1))) none))] [],
    .ifS (.cmp .Eq (.var 5) (.int 1)) [
      .ret (.bin .Add (.bin .Add (.sl (.var 1) none (some (.var 4))) (.tup [.idx (.var 1) (.var 4)])) (.sl (.var 1) (some (.var 4)) none))] [],
    .ifS (.cmp .Eq (.var 5) (.int 2)) [
      .ret (.blt .list [.var 1])] [],
    .ret (.bin .Add (.bin .Add (.sl (.var 1) none (some (.var 4))) (.tup [.call false 15 [.var 0, .idx (.var 1) (.var 4), .var 2, .bin .Sub (.var 3) (.int 1)]])) (.sl (.var 1) (some (.bin .Add (.var 4) (.int 1))) none))]

/-- _law_by_hand_right -/
def f16 : FD where
  ps := ([] : List PySem.Str)
  N := ([PySem.Str.ofString "_law_one_so", PySem.Str.ofString "_law_some", PySem.Str.ofString "_law_bad", PySem.Str.ofString "_law_told", PySem.Str.ofString "_law_wide", PySem.Str.ofString "_law_own", PySem.Str.ofString "_law_k"] : List PySem.Str)
  body := [
    .asg 0 (.tup [.int 0, .tup [.tup [.int 0, .int 1], .tup [.int 1, .int 1]], .tup [.str (PySem.Str.ofString "x"), .non]]),
    .asg 1 (.lst [.var 0, .tup [.int 1, .tup [.tup [.int 0, .int 0], .tup [.int 0, .int 1]], .tup [.int 1, .int 0]], .tup [.int 0, .tup [.tup [.int 0, .int 0]], .tup [.tup [.int 1, .tup [.str (PySem.Str.ofString "b"), .tup []]]]], .tup [.int 1, .tup [.tup [.int 1, .int 1], .tup [.int 0, .int 0]], .tup [.int 5, .int 5]]]),
    .asg 2 (.thaw (.lst [.tup [.int 2, .tup [.tup [.int 0, .int 1], .tup [.int 1, .int 1]], .tup [.int 0, .int 0]], .tup [.neg (.int 1), .tup [.tup [.int 0, .int 1], .tup [.int 1, .int 1]], .tup [.int 0, .int 0]], .tup [.int 0, .tup [.tup [.int 0, .int 2], .tup [.int 1, .int 1]], .tup [.int 0, .int 0]], .tup [.int 0, .tup [], .tup []]])),
    .asg 2 (.thaw (.bin .Add (.var 2) (.lst [.tup [.bl true, .tup [.tup [.int 0, .int 1], .tup [.int 1, .int 1]], .tup [.int 0, .int 0]], .tup [.int 0, .tup [.tup [.int 0, .bl true], .tup [.int 1, .int 1]], .tup [.int 0, .int 0]], .tup [.int 0, .tup [.tup [.int 0, .int 1], .tup [.int 1, .int 1]], .tup [.int 0, .bl true]]]))),
    .asg 2 (.thaw (.bin .Add (.var 2) (.lst [.tup [.int 0, .tup [.tup [.int 0, .int 1]], .tup [.int 0, .int 0]], .tup [.int 0, .tup [.tup [.int 0, .int 1], .tup [.int 1, .int 1]], .tup [.int 0]], .tup [.int 0, .tup [.tup [.int 0], .tup [.int 1]], .tup [.int 0, .int 0]]]))),
    .exprS (.meth .append (.var 2) [.tup [.int 0, .tup [.tup [.int 0, .int 1, .int 0]], .tup [.int 0]]]),
    .asg 2 (.thaw (.bin .Add (.var 2) (.lst [.tup [.int 0, .lst [.tup [.int 0, .int 1], .tup [.int 1, .int 1]], .tup [.int 0, .int 0]], .tup [.int 0, .tup [.tup [.int 0, .int 1], .lst [.int 1, .int 1]], .tup [.int 0, .int 0]], .tup [.int 0, .tup [.tup [.int 0, .int 1], .tup [.int 1, .int 1]], .lst [.int 0, .int 0]]]))),
    .asg 2 (.thaw (.bin .Add (.var 2) (.lst [.blt .list [.var 0], .bin .Add (.var 0) (.tup [.int 0]), .sl (.var 0) none (some (.int 2)), .non, .int 0, .str (PySem.Str.ofString ""), .tup [], .tup [.int 0, .tup [.tup [.int 0, .int 1], .tup [.int 1, .int 1]], .tup [.int 0, .lst [.int 1]]], .tup [.int 0, .int 0, .int 0]]))),
    .asg 2 (.thaw (.bin .Add (.var 2) (.lst [.tup [.str (PySem.Str.ofString "0"), .tup [.tup [.int 0, .int 1], .tup [.int 1, .int 1]], .tup [.int 0, .int 0]], .tup [.non, .tup [.tup [.int 0, .int 1], .tup [.int 1, .int 1]], .tup [.int 0, .int 0]], .tup [.int 0, .tup [.tup [.int 0, .neg (.int 1)], .tup [.int 1, .int 1]], .tup [.int 0, .int 0]]]))),
    .ifS (.not (.call false 8 [.lc (.call false 3 [.tup [.str (PySem.Str.ofString "a"), .str (PySem.Str.ofString "b")], .var 5]) (.nm 5) (.seq (.bin .Add (.var 1) (.var 2))) none [5], .bin .Add (.bin .Mult (.lst [.bl true]) (.blt .len [.var 1])) (.bin .Mult (.lst [.bl false]) (.blt .len [.var 2]))])) [
      .ret (.bl false)] [],
    .asg 3 (.lst [.call false 3 [.tup [], .tup [.int 0, .tup [.tup []], .tup [.int 1]]], .call false 3 [.tup [], .tup [.int 0, .tup [.tup [], .tup []], .tup [.int 1, .int 2]]], .call false 3 [.tup [], .tup [.int 0, .tup [], .tup []]]]),
    .asg 4 (.tup [.int 300, .blt .tuple [.lc (.tup [.var 6]) (.nm 6) (.rng [.int 301]) none [6]], .blt .tuple [.lc (.var 6) (.nm 6) (.rng [.int 301]) none [6]]]),
    .asg 3 (.bin .Add (.var 3) (.lst [.callK false 3 [] [.tup [.str (PySem.Str.ofString "a"), .str (PySem.Str.ofString "b")], .var 0] ["things", "thing"] [0, 1], .call false 3 [.tup [.str (PySem.Str.ofString "a")], .var 4], .call false 3 [.tup [.str (PySem.Str.ofString "a")], .var 0]])),
    .ret (.call false 8 [.var 3, .lst [.bl true, .bl true, .bl false, .bl true, .bl true, .bl false]])]

/-- _law_right -/
def f17 : FD where
  ps := ([PySem.Str.ofString "_law_box_here"] : List PySem.Str)
  N := ([PySem.Str.ofString "_law_box_here", PySem.Str.ofString "_law_turn", PySem.Str.ofString "_law_steps_so", PySem.Str.ofString "_law_said", PySem.Str.ofString "_law_own", PySem.Str.ofString "_law_pool", PySem.Str.ofString "_law_again", PySem.Str.ofString "_law_letters", PySem.Str.ofString "_law_many_so", PySem.Str.ofString "_law_odd", PySem.Str.ofString "_law_k", PySem.Str.ofString "_law_bit"] : List PySem.Str)
  body := [
    .forS (.nm 1) (.rng [.int 6]) [
      .unp (.tp [.nm 7, .nm 8]) (.tup [.call false 11 [.var 0, .call false 5 [.var 0, .int 5]], .bin .Add (.int 1) (.call false 5 [.var 0, .int 5])]),
      .asg 2 (.blt .tuple [.lc (.blt .tuple [.lc (.call false 5 [.var 0, .var 8]) (.nm 11) (.seq (.var 7)) none [11]]) (.nm 10) (.rng [.var 8]) none [10]]),
      .asg 3 (.blt .tuple [.lc (.call false 7 [.var 0, .lst [.int 0, .int 1, .str (PySem.Str.ofString "x"), .non, .tup [.int 1, .str (PySem.Str.ofString "b")]]]) (.nm 10) (.rng [.var 8]) none [10]]),
      .asg 4 (.tup [.call false 5 [.var 0, .var 8], .var 2, .var 3]),
      .ifS (.cmp .IsNot (.call false 3 [.var 7, .var 4]) (.bl true)) [
        .ret (.bl false)] [],
      .asg 5 (.lst [.int 0, .int 1, .neg (.int 1), .var 8, .bin .Sub (.var 8) (.int 1), .bl true, .bl false, .non, .str (PySem.Str.ofString ""), .str (PySem.Str.ofString "a"), .tup [], .lst [], .tup [.int 0], .lst [.int 0], .tup [.int 0, .int 0], .idx (.var 4) (.int 0), .idx (.var 4) (.int 1)]),
      .forS (.nm 6) (.rng [.int 4]) [
        .asg 9 (.call false 15 [.var 0, .var 4, .var 5, .int 3]),
        .ifS (.not (.call false 8 [.call false 3 [.var 7, .var 9], .call false 14 [.var 7, .var 9]])) [
          .ret (.bl false)] []]],
    .ret (.bl true)]

/-- law -/
def f18 : FD where
  ps := ([PySem.Str.ofString "_law_script"] : List PySem.Str)
  N := ([PySem.Str.ofString "_law_script", PySem.Str.ofString "_law_cells_here", PySem.Str.ofString "_law_k"] : List PySem.Str)
  body := [
    .ifS (.not (.call false 16 [])) [
      .ret (.bl false)] [],
    .asg 1 (.call false 6 [.var 0, .int 3]),
    .ret (.blt .all [.lc (.call false 17 [.call true 4 [.var 1, .var 2]]) (.nm 2) (.rng [.blt .len [.var 1]]) none [2]])]

def G : Nat → Option FD
  | 0 => some f0
  | 1 => some f1
  | 2 => some f2
  | 3 => some f3
  | 4 => some f4
  | 5 => some f5
  | 6 => some f6
  | 7 => some f7
  | 8 => some f8
  | 9 => some f9
  | 10 => some f10
  | 11 => some f11
  | 12 => some f12
  | 13 => some f13
  | 14 => some f14
  | 15 => some f15
  | 16 => some f16
  | 17 => some f17
  | 18 => some f18
  | _ => none
def fnm : Nat → PySem.Str
  | 0 => PySem.Str.ofString "is_number"
  | 1 => PySem.Str.ofString "is_answer"
  | 2 => PySem.Str.ofString "is_note"
  | 3 => PySem.Str.ofString "is_machine"
  | 4 => PySem.Str.ofString "_law_box"
  | 5 => PySem.Str.ofString "_law_take"
  | 6 => PySem.Str.ofString "_law_cells"
  | 7 => PySem.Str.ofString "_law_of"
  | 8 => PySem.Str.ofString "_law_same"
  | 9 => PySem.Str.ofString "_law_rising"
  | 10 => PySem.Str.ofString "_law_names"
  | 11 => PySem.Str.ofString "_law_things"
  | 12 => PySem.Str.ofString "_law_is_note"
  | 13 => PySem.Str.ofString "_law_is_said"
  | 14 => PySem.Str.ofString "_law_is_so"
  | 15 => PySem.Str.ofString "_law_bent"
  | 16 => PySem.Str.ofString "_law_by_hand_right"
  | 17 => PySem.Str.ofString "_law_right"
  | 18 => PySem.Str.ofString "law"
  | _ => PySem.Str.ofString ""
def gvl : Nat → Option P
  | 0 => some (.int 3)
  | _ => none
def gnm : Nat → PySem.Str
  | 0 => PySem.Str.ofString "PARTS"
  | _ => PySem.Str.ofString ""
def gs : Gs := ⟨gvl, G, gnm, fnm, fun _ => PySem.Str.ofString "", fun _ => PySem.Str.ofString ""⟩
end K18

/-! k18: what is told apart -/
namespace K18
open PySem Pk
/-- plain data to a depth, rows of few -/
def good : Nat → P → Bool
  | _, .non => true
  | _, .bl _ => true
  | _, .int _ => true
  | _, .str _ => true
  | 0, _ => false
  | n + 1, .tup ps => decide (ps.length ≤ 1000) && ps.all (good n)
  | n + 1, .lst ps => decide (ps.length ≤ 1000) && ps.all (good n)
  | _, _ => false
def ans : Nat → P → Bool
  | _, .non => true
  | _, .int _ => true
  | _, .str _ => true
  | n + 1, .tup ps => ps.all (ans n)
  | _, _ => false
def num : P → Bool
  | .int _ => true
  | _ => false
abbrev cK (k : Nat) : CallF := callK gs.gv gs.G k
theorem number_sp {k n : Nat} {p : P} {S : Store} (hk : 1 ≤ k) (h : good n p = true) : callK gs.gv gs.G k 0 [.val p] S = .ok (.val (.bl (num p))) S := by
  obtain ⟨k, rfl⟩ : ∃ j, k = j + 1 := ⟨k - 1, by omega⟩
  refine call_pure (fd := f0) rfl rfl ?_
  cases p <;> first
    | rfl
    | (cases n <;> simp [good] at h; done)
theorem good_tup {n : Nat} {ps : List P} (h : good n (.tup ps) = true) : ∃ m, n = m + 1 ∧ ps.length ≤ 1000 ∧ ∀ p ∈ ps, good m p = true := by
  cases n with
  | zero => simp [good] at h
  | succ m =>
    simp only [good, Bool.and_eq_true, decide_eq_true_eq, List.all_eq_true] at h
    exact ⟨m, rfl, h.1, h.2⟩
theorem answer_sp : ∀ (n : Nat) {k : Nat} {p : P} {S : Store}, n + 2 ≤ k → good n p = true → callK gs.gv gs.G k 1 [.val p] S = .ok (.val (.bl (ans n p))) S := by
  intro n
  induction n with
  | zero =>
    intro k p S hk h
    obtain ⟨k, rfl⟩ : ∃ j, k = j + 1 := ⟨k - 1, by omega⟩
    refine call_pure (fd := f1) rfl rfl ?_
    have hn := number_sp (k := k) (S := S) (by omega) h
    cases p <;> first
      | (simp [f1, hn, ans, num]; done)
      | (simp [good] at h; done)
  | succ n ih =>
    intro k p S hk h
    obtain ⟨k, rfl⟩ : ∃ j, k = j + 1 := ⟨k - 1, by omega⟩
    refine call_pure (fd := f1) rfl rfl ?_
    have hn := number_sp (k := k) (S := S) (by omega) h
    cases p with
    | tup ps =>
      obtain ⟨m, hm, hl, hg⟩ := good_tup h
      cases hm
      simp [f1]
      rw [lcLoop_pure (h := fun p => .bl (ans n p))]
      · simp [ans, allB_map]
      · intro p hp
        simp [lcF, ih (k := k) (S := S) (by omega) (hg p hp)]
    | _ => first
      | (simp [f1, hn, ans, num]; done)
      | (simp [good] at h; done)
def note (many : Nat) : P → Bool
  | .int i => decide (0 ≤ i) && decide (i < many)
  | _ => false
theorem note_sp {k n : Nat} {p : P} {m : Nat} {S : Store} (hk : 2 ≤ k) (h : good n p = true) : callK gs.gv gs.G k 2 [.val p, .val (.int m)] S = .ok (.val (.bl (note m p))) S := by
  obtain ⟨k, rfl⟩ : ∃ j, k = j + 1 := ⟨k - 1, by omega⟩
  refine call_pure (fd := f2) rfl rfl ?_
  have hn := number_sp (k := k) (S := S) (by omega) h
  cases p with
  | int i =>
    by_cases h0 : 0 ≤ i <;> simp [f2, hn, num, note, ordF, h0]
  | _ => first
    | (simp [f2, hn, num, note]; done)
    | (simp [good] at h; done)
    | (cases n <;> simp [good] at h; done)
theorem gv0 : gs.gv 0 = some (.int 3) := rfl
def row (nt : Nat) : P → Bool
  | .tup r => decide (r.length = nt)
  | _ => false
def cells : P → List P
  | .tup r => r
  | _ => []
def mach (n nt : Nat) : P → Bool
  | .tup [first, .tup rows, .tup says] => decide (rows.length = says.length) && (note rows.length first && says.all (ans n) && rows.all (row nt) && (rows.flatMap cells).all (note rows.length))
  | _ => false
theorem isTup_cases (p : P) : (∃ ps, p = .tup ps) ∨ ∀ ps, p ≠ .tup ps := by
  cases p <;> first | exact .inl ⟨_, rfl⟩ | exact .inr (fun _ h => nomatch h)
theorem tyB_notTup {n : Nat} {p : P} (h : good n p = true) (hp : ∀ ps, p ≠ .tup ps) : tyB p .tuple = some false := by
  cases p <;> first | rfl | exact absurd rfl (hp _) | (cases n <;> simp [good] at h; done)
theorem good_mono : ∀ {n : Nat} {p : P}, good n p = true → good (n + 1) p = true
  | n, .non, _ => by simp [good]
  | n, .bl _, _ => by simp [good]
  | n, .int _, _ => by simp [good]
  | n, .str _, _ => by simp [good]
  | 0, .tup _, h => by simp [good] at h
  | 0, .lst _, h => by simp [good] at h
  | n + 1, .tup ps, h => by
    simp only [good, Bool.and_eq_true, decide_eq_true_eq, List.all_eq_true] at h ⊢
    exact ⟨h.1, fun p hp => good_mono (h.2 p hp)⟩
  | n + 1, .lst ps, h => by
    simp only [good, Bool.and_eq_true, decide_eq_true_eq, List.all_eq_true] at h ⊢
    exact ⟨h.1, fun p hp => good_mono (h.2 p hp)⟩
  | n, .scr _, h => by cases n <;> simp [good] at h
  | n, .dct _, h => by cases n <;> simp [good] at h
  | n, .ins _ _, h => by cases n <;> simp [good] at h
theorem machine_sp {n k : Nat} {p : P} {ts : List P} {S : Store} (hk : n + 3 ≤ k) (h : good (n + 1) p = true) : callK gs.gv gs.G k 3 [.val (.tup ts), .val p] S = .ok (.val (.bl (mach n ts.length p))) S := by
  obtain ⟨k, rfl⟩ : ∃ j, k = j + 1 := ⟨k - 1, by omega⟩
  refine call_pure (fd := f3) rfl rfl ?_
  rcases isTup_cases p with ⟨ps, rfl⟩ | hp
  · obtain ⟨m, hm, hl, hg⟩ := good_tup h
    cases hm
    match ps, hg with
    | [first, steps, said], hg =>
      have g1 := hg first (by simp)
      have g2 := hg steps (by simp)
      have g3 := hg said (by simp)
      have no : (∀ a b, P.tup [first, steps, said] ≠ .tup [first, .tup a, .tup b]) → mach n ts.length (.tup [first, steps, said]) = false := fun hno => by
        unfold mach
        split
        · rename_i f1 r1 s1 q
          cases q
          exact absurd rfl (hno _ _)
        · rfl
      rcases isTup_cases steps with ⟨rows, rfl⟩ | hs
      · rcases isTup_cases said with ⟨says, rfl⟩ | hd
        · by_cases hlen : rows.length = says.length
          · obtain ⟨m1, hm1, hl1, hg1⟩ := good_tup g2
            cases hm1
            obtain ⟨m2, hm2, hl2, hg2⟩ := good_tup g3
            cases hm2
            have hlen' : (rows.length : Int) = says.length := by omega
            have hnote := note_sp (k := k) (S := S) (m := says.length) (by omega) g1
            have hA : ∀ p ∈ says, callK gs.gv gs.G k 1 [.val p] S = .ok (.val (.bl (ans (m1 + 1) p))) S := fun p hp => answer_sp (m1 + 1) (by omega) (good_mono (hg2 p hp))
            obtain ⟨LA, hLA, hBA⟩ : ∃ L, (∀ f : P → Store → R (Option P), (∀ p ∈ says, f p S = .ok (some (.bl (ans (m1 + 1) p))) S) → lcLoop f says S = .ok L S) ∧ allB L = some (says.all (ans (m1 + 1))) := ⟨_, fun f hf => lcLoop_pure hf, allB_map _ _⟩
            have hT : ∀ p ∈ rows, tyB p .tuple = some (match p with | .tup _ => true | _ => false) := fun p hp => by
              rcases isTup_cases p with ⟨r, rfl⟩ | hp2
              · rfl
              · rw [tyB_notTup (hg1 p hp) hp2]
                cases p <;> first | rfl | exact absurd rfl (hp2 _)
            obtain ⟨LR, hLR, hBR⟩ : ∃ L, (∀ f : P → Store → R (Option P), (∀ p ∈ rows, f p S = .ok (some (.bl (row ts.length p))) S) → lcLoop f rows S = .ok L S) ∧ allB L = some (rows.all (row ts.length)) := ⟨_, fun f hf => lcLoop_pure hf, allB_map _ _⟩
            have em : mach (m1 + 1) ts.length (.tup [first, .tup rows, .tup says]) = (decide (rows.length = says.length) && (note rows.length first && says.all (ans (m1 + 1)) && rows.all (row ts.length) && (rows.flatMap cells).all (note rows.length))) := rfl
            rw [em, hlen]
            generalize says.all (ans (m1 + 1)) = bA at hBA ⊢
            cases hfirst : note says.length first with
            | false => simp [f3, gv0, hlen, hlen', hnote, hfirst]
            | true =>
              cases bA with
              | false =>
                simp [f3, gv0, hlen, hlen', hnote, hfirst]
                rw [hLA _ (fun p hp => by simp [lcF, hA p hp])]
                simp [hBA]
              | true =>
                simp [f3, gv0, hlen, hlen', hnote, hfirst]
                rw [hLA _ (fun p hp => by simp [lcF, hA p hp])]
                simp [hBA]
                rw [hLR]
                case a =>
                  intro p hp
                  rcases isTup_cases p with ⟨r, rfl⟩ | hp2
                  · by_cases hr : (r.length : Int) = ts.length
                    · have hr' : r.length = ts.length := by omega
                      simp [lcF, row, hr']
                    · have hr' : ¬ r.length = ts.length := by omega
                      simp [lcF, row, hr, hr']
                  · have e := tyB_notTup (hg1 p hp) hp2
                    have er : row ts.length p = false := by
                      cases p <;> first | rfl | exact absurd rfl (hp2 _)
                    simp [lcF, e, er]
                generalize hb : rows.all (row ts.length) = bR at hBR ⊢
                cases bR with
                | false => simp [hBR]
                | true =>
                  simp [hBR]
                  rw [lcLoop2_pure (h := fun p => (cells p).map fun q => .bl (note says.length q))]
                  rotate_left
                  · intro p hp
                    rcases isTup_cases p with ⟨r, rfl⟩ | hp2
                    · have hgr := hg1 _ hp
                      obtain ⟨m3, hm3, _, hg3⟩ := good_tup hgr
                      simp [lcF2, cells]
                      refine lcLoop_pure fun q hq => ?_
                      simp [lcF, note_sp (k := k) (S := S) (m := says.length) (by omega) (hg3 q hq)]
                    · have er : row ts.length p = false := by
                        cases p <;> first | rfl | exact absurd rfl (hp2 _)
                      have := List.all_eq_true.mp hb p hp
                      rw [er] at this
                      cases this
                  have hfl : (rows.flatMap fun p => (cells p).map fun q => P.bl (note says.length q)) = (rows.flatMap cells).map fun q => .bl (note says.length q) := by
                    rw [List.map_flatMap]
                  have hle : (rows.flatMap cells).length ≤ lim := by
                    have : ∀ l : List P, (∀ p ∈ l, good m1 p = true) → (l.flatMap cells).length ≤ l.length * 1000 := by
                      intro l
                      induction l with
                      | nil => intro _; simp
                      | cons p l ih =>
                        intro hl
                        have h1 : (cells p).length ≤ 1000 := by
                          rcases isTup_cases p with ⟨r, rfl⟩ | hp2
                          · obtain ⟨_, _, hl3, _⟩ := good_tup (hl (.tup r) List.mem_cons_self)
                            exact hl3
                          · cases p <;> first | exact Nat.zero_le _ | exact absurd rfl (hp2 _)
                        have := ih fun q hq => hl q (by simp [hq])
                        simp only [List.flatMap_cons, List.length_append, List.length_cons]
                        omega
                    have := this rows hg1
                    unfold lim
                    omega
                  have hle' : ((rows.flatMap cells).map fun q => P.bl (note says.length q)).length ≤ lim := by rw [List.length_map]; exact hle
                  rw [hfl, bind_ok]
                  simp only [mkR_ok hle', bind_ok]
                  simp [allB_map, List.all_flatMap]
          · have hlen' : ¬ (rows.length : Int) = says.length := by omega
            simp [f3, gv0, mach, hlen, hlen']
        · have e := tyB_notTup g3 hd
          rw [no fun a b q => by cases q; exact hd _ rfl]
          simp [f3, gv0, e]
      · have e := tyB_notTup g2 hs
        rw [no fun a b q => by cases q; exact hs _ rfl]
        simp [f3, gv0, e]
    | [], _ => simp [f3, gv0, mach]
    | [_], _ => simp [f3, gv0, mach]
    | [_, _], _ => simp [f3, gv0, mach]
    | _ :: _ :: _ :: _ :: r, _ =>
      have : ¬ ((r.length : Int) + 1 + 1 + 1 + 1 = 3) := by omega
      simp [f3, gv0, mach, this]
  · have e := tyB_notTup h hp
    have em : mach n ts.length p = false := by
      unfold mach
      split
      · exact absurd rfl (hp _)
      · rfl
    simp [f3, gv0, em, e]
end K18

/-! k18: the law's own looks -/
namespace K18
open PySem Pk
theorem same_bl {k : Nat} {a b : Bool} {S : Store} (hk : 1 ≤ k) : callK gs.gv gs.G k 8 [.val (.bl a), .val (.bl b)] S = .ok (.val (.bl (a == b))) S := by
  obtain ⟨k, rfl⟩ : ∃ j, k = j + 1 := ⟨k - 1, by omega⟩
  refine call_pure (fd := f8) rfl rfl ?_
  cases a <;> cases b <;> simp [f8]
theorem lnote_sp {k n : Nat} {p : P} {m : Nat} {S : Store} (hk : 1 ≤ k) (h : good n p = true) : callK gs.gv gs.G k 12 [.val p, .val (.int m)] S = .ok (.val (.bl (note m p))) S := by
  obtain ⟨k, rfl⟩ : ∃ j, k = j + 1 := ⟨k - 1, by omega⟩
  refine call_pure (fd := f12) rfl rfl ?_
  cases p with
  | int i =>
    by_cases h0 : 0 ≤ i <;> simp [f12, note, ordF, h0]
  | _ => first
    | (simp [f12, note]; done)
    | (simp [good] at h; done)
    | (cases n <;> simp [good] at h; done)
theorem lsaid_sp : ∀ (n : Nat) {k : Nat} {p : P} {S : Store}, n + 1 ≤ k → good n p = true → callK gs.gv gs.G k 13 [.val p] S = .ok (.val (.bl (ans n p))) S := by
  intro n
  induction n with
  | zero =>
    intro k p S hk h
    obtain ⟨k, rfl⟩ : ∃ j, k = j + 1 := ⟨k - 1, by omega⟩
    refine call_pure (fd := f13) rfl rfl ?_
    cases p <;> first
      | (simp [f13, ans]; done)
      | (simp [good] at h; done)
  | succ n ih =>
    intro k p S hk h
    obtain ⟨k, rfl⟩ : ∃ j, k = j + 1 := ⟨k - 1, by omega⟩
    refine call_pure (fd := f13) rfl rfl ?_
    cases p with
    | tup ps =>
      obtain ⟨m, hm, hl, hg⟩ := good_tup h
      cases hm
      simp [f13]
      rw [lcLoop_pure (h := fun p => .bl (ans n p))]
      · simp [ans, allB_map]
      · intro p hp
        simp [lcF, ih (k := k) (S := S) (by omega) (hg p hp)]
    | _ => first
      | (simp [f13, ans]; done)
      | (simp [good] at h; done)
end K18

namespace K18
open PySem Pk
def lrow (nt m : Nat) (p : P) : Bool := row nt p && (cells p).all (note m)
theorem all_and {α : Type} (f g : α → Bool) : ∀ l : List α, l.all (fun x => f x && g x) = (l.all f && l.all g)
  | [] => rfl
  | x :: l => by
    simp only [List.all_cons, all_and f g l]
    cases f x <;> cases g x <;> cases l.all f <;> cases l.all g <;> rfl
theorem mach_eq {n nt : Nat} {first : P} {rows says : List P} : mach n nt (.tup [first, .tup rows, .tup says]) = (decide (rows.length = says.length) && (rows.all (lrow nt rows.length) && (note rows.length first && says.all (ans n)))) := by
  show (decide (rows.length = says.length) && (note rows.length first && says.all (ans n) && rows.all (row nt) && (rows.flatMap cells).all (note rows.length))) = _
  generalize rows.length = m
  have e : rows.all (lrow nt m) = (rows.all (row nt) && (rows.flatMap cells).all (note m)) := by
    rw [List.all_flatMap]
    exact all_and _ _ _
  rw [e]
  cases note m first <;> cases says.all (ans n) <;> cases rows.all (row nt) <;> cases (rows.flatMap cells).all (note m) <;> rfl
def soLoop : List IS := [
      .ifS (.or [.not (.isi (.var 3) [.tuple] false), .cmp .NotEq (.blt .len [.var 3]) (.blt .len [.var 0])]) [
        .ret (.bl false)] [],
      .ifS (.not (.blt .all [.lc (.call false 12 [.var 4, .var 2]) (.nm 4) (.seq (.var 3)) none [4]])) [
        .ret (.bl false)] []]
theorem so_loop {n k : Nat} {p q : P} {ts : List P} {m : Nat} {S : Store} (hk : 1 ≤ k) (h : good n p = true) :
    evSs gs.gv (callK gs.gv gs.G k) soLoop [some (.val (.tup ts)), some (.val q), some (.val (.int m)), some (.val p), none] S =
      if lrow ts.length m p then .nx [some (.val (.tup ts)), some (.val q), some (.val (.int m)), some (.val p), none] S else .rt (.val (.bl false)) S := by
  rcases isTup_cases p with ⟨r, rfl⟩ | hp2
  · by_cases hr : (r.length : Int) = ts.length
    · have hr' : r.length = ts.length := by omega
      obtain ⟨m3, hm3, _, hg3⟩ := good_tup h
      obtain ⟨L, hL, hB⟩ : ∃ L, (∀ f : P → Store → R (Option P), (∀ p ∈ r, f p S = .ok (some (.bl (note m p))) S) → lcLoop f r S = .ok L S) ∧ allB L = some (r.all (note m)) := ⟨_, fun f hf => lcLoop_pure hf, allB_map _ _⟩
      have hN : ∀ p ∈ r, callK gs.gv gs.G k 12 [.val p, .val (.int m)] S = .ok (.val (.bl (note m p))) S := fun p hp => lnote_sp hk (hg3 p hp)
      have el : lrow ts.length m (.tup r) = r.all (note m) := by simp [lrow, row, cells, hr']
      rw [el]
      generalize r.all (note m) = b at hB ⊢
      have e := hL (lcF gs.gv (callK gs.gv gs.G k) [some (.val (.tup ts)), some (.val q), some (.val (.int m)), some (.val (.tup r)), none] (.call false 12 [.var 4, .var 2]) (.nm 4) none [4]) (fun p hp => by simp [lcF, hN p hp])
      cases b <;> simp [soLoop, hr', e, hB]
    · have hr' : ¬ r.length = ts.length := by omega
      simp [soLoop, lrow, row, hr, hr']
  · have e := tyB_notTup h hp2
    have er : row ts.length p = false := by
      cases p <;> first | rfl | exact absurd rfl (hp2 _)
    simp [soLoop, lrow, e, er]
theorem so_sp {n k : Nat} {p : P} {ts : List P} {S : Store} (hk : n + 3 ≤ k) (h : good (n + 1) p = true) : callK gs.gv gs.G k 14 [.val (.tup ts), .val p] S = .ok (.val (.bl (mach n ts.length p))) S := by
  obtain ⟨k, rfl⟩ : ∃ j, k = j + 1 := ⟨k - 1, by omega⟩
  refine call_pure (fd := f14) rfl rfl ?_
  rcases isTup_cases p with ⟨ps, rfl⟩ | hp
  · obtain ⟨m, hm, hl, hg⟩ := good_tup h
    cases hm
    match ps, hg with
    | [first, steps, said], hg =>
      have g1 := hg first (by simp)
      have g2 := hg steps (by simp)
      have g3 := hg said (by simp)
      have no : (∀ a b, P.tup [first, steps, said] ≠ .tup [first, .tup a, .tup b]) → mach n ts.length (.tup [first, steps, said]) = false := fun hno => by
        unfold mach
        split
        · rename_i f1 r1 s1 q
          cases q
          exact absurd rfl (hno _ _)
        · rfl
      have i0 : ixP (.tup [first, steps, said]) (.int 0) = some first := by simp [ixP, L2.atI, L2.ixN]
      have i1 : ixP (.tup [first, steps, said]) (.int 1) = some steps := by simp [ixP, L2.atI, L2.ixN]
      have i2 : ixP (.tup [first, steps, said]) (.int 2) = some said := by simp [ixP, L2.atI, L2.ixN]
      rcases isTup_cases steps with ⟨rows, rfl⟩ | hs
      · rcases isTup_cases said with ⟨says, rfl⟩ | hd
        · rw [mach_eq]
          by_cases hlen : rows.length = says.length
          · obtain ⟨m1, hm1, hl1, hg1⟩ := good_tup g2
            cases hm1
            obtain ⟨m2, hm2, hl2, hg2⟩ := good_tup g3
            cases hm2
            have hlen' : (rows.length : Int) = says.length := by omega
            have hnote := lnote_sp (k := k) (S := S) (m := says.length) (by omega) g1
            have hA : ∀ p ∈ says, callK gs.gv gs.G k 13 [.val p] S = .ok (.val (.bl (ans (m1 + 1) p))) S := fun p hp => lsaid_sp (m1 + 1) (by omega) (good_mono (hg2 p hp))
            obtain ⟨LA, hLA, hBA⟩ : ∃ L, (∀ f : P → Store → R (Option P), (∀ p ∈ says, f p S = .ok (some (.bl (ans (m1 + 1) p))) S) → lcLoop f says S = .ok L S) ∧ allB L = some (says.all (ans (m1 + 1))) := ⟨_, fun f hf => lcLoop_pure hf, allB_map _ _⟩
            obtain ⟨x', hloop⟩ := forLoop_guard (i := 3) (f := evSs gs.gv (callK gs.gv gs.G k) soLoop) (ok := lrow ts.length says.length) (V := .val (.bl false)) (base := [some (.val (.tup ts)), some (.val (.tup [first, .tup rows, .tup says])), some (.val (.int says.length)), none, none]) (S := S) (by simp) (ps := rows) none fun p hp => so_loop (by omega) (hg1 p hp)
            have hloop : forLoop (.nm 3) (evSs gs.gv (callK gs.gv gs.G k) soLoop) rows [some (.val (.tup ts)), some (.val (.tup [first, .tup rows, .tup says])), some (.val (.int says.length)), none, none] S = if rows.all (lrow ts.length says.length) then .nx [some (.val (.tup ts)), some (.val (.tup [first, .tup rows, .tup says])), some (.val (.int says.length)), x', none] S else .rt (.val (.bl false)) S := hloop
            rw [hlen]
            generalize rows.all (lrow ts.length says.length) = bR at hloop ⊢
            generalize says.all (ans (m1 + 1)) = bA at hBA ⊢
            refine (evSs_nx (ρ' := [some (.val (.tup ts)), some (.val (.tup [first, .tup rows, .tup says])), none, none, none]) (S' := S) (by simp [f14])).trans ?_
            refine (evSs_nx (ρ' := [some (.val (.tup ts)), some (.val (.tup [first, .tup rows, .tup says])), none, none, none]) (S' := S) (by simp [i1, i2, hlen])).trans ?_
            refine (evSs_nx (ρ' := [some (.val (.tup ts)), some (.val (.tup [first, .tup rows, .tup says])), some (.val (.int says.length)), none, none]) (S' := S) (by simp [i1, hlen])).trans ?_
            have e4 : evS gs.gv (callK gs.gv gs.G k) (.forS (.nm 3) (.seq (.idx (.var 1) (.int 1))) soLoop) [some (.val (.tup ts)), some (.val (.tup [first, .tup rows, .tup says])), some (.val (.int says.length)), none, none] S = if bR then .nx [some (.val (.tup ts)), some (.val (.tup [first, .tup rows, .tup says])), some (.val (.int says.length)), x', none] S else .rt (.val (.bl false)) S := by
              rw [← hloop]
              simp [i1]
            cases bR with
            | false =>
              refine (evSs_rt e4).trans ?_
              simp
            | true =>
              refine (evSs_nx e4).trans ?_
              cases hfirst : note says.length first with
              | false => simp [i0, hnote, hfirst]
              | true =>
                rw [hfirst] at hnote
                have e := hLA (lcF gs.gv (callK gs.gv gs.G k) [some (.val (.tup ts)), some (.val (.tup [first, .tup rows, .tup says])), some (.val (.int says.length)), x', none] (.call false 13 [.var 4]) (.nm 4) none [4]) (fun p hp => by simp [lcF, hA p hp])
                cases bA <;> simp [i0, i2, hnote, e, hBA]
          · have hlen' : ¬ (rows.length : Int) = says.length := by omega
            simp [f14, i0, i1, i2, hlen, hlen']
        · have e := tyB_notTup g3 hd
          rw [no fun a b q => by cases q; exact hd _ rfl]
          simp [f14, i0, i1, i2, e]
      · have e := tyB_notTup g2 hs
        rw [no fun a b q => by cases q; exact hs _ rfl]
        simp [f14, i0, i1, i2, e]
    | [], _ => simp [f14, mach]
    | [_], _ => simp [f14, mach]
    | [_, _], _ => simp [f14, mach]
    | _ :: _ :: _ :: _ :: r, _ =>
      have : ¬ ((r.length : Int) + 1 + 1 + 1 + 1 = 3) := by omega
      simp [f14, mach, this]
  · have e := tyB_notTup h hp
    have em : mach n ts.length p = false := by
      unfold mach
      split
      · exact absurd rfl (hp _)
      · rfl
    simp [f14, em, e]
end K18

/-! k18: what is bent -/
namespace K18
open PySem Pk
def gdL (L : Nat) : Nat → P → Bool
  | _, .non => true
  | _, .bl _ => true
  | _, .int _ => true
  | _, .str _ => true
  | 0, _ => false
  | n + 1, .tup ps => decide (ps.length ≤ L) && ps.all (gdL L n)
  | n + 1, .lst ps => decide (ps.length ≤ L) && ps.all (gdL L n)
  | _, _ => false
theorem gdL_good {L : Nat} (hL : L ≤ 1000) : ∀ {n : Nat} {p : P}, gdL L n p = true → good n p = true
  | n, .non, _ => by simp [good]
  | n, .bl _, _ => by simp [good]
  | n, .int _, _ => by simp [good]
  | n, .str _, _ => by simp [good]
  | 0, .tup _, h => by simp [gdL] at h
  | 0, .lst _, h => by simp [gdL] at h
  | n + 1, .tup ps, h => by
    simp only [gdL, good, Bool.and_eq_true, decide_eq_true_eq, List.all_eq_true] at h ⊢
    exact ⟨by omega, fun p hp => gdL_good hL (h.2 p hp)⟩
  | n + 1, .lst ps, h => by
    simp only [gdL, good, Bool.and_eq_true, decide_eq_true_eq, List.all_eq_true] at h ⊢
    exact ⟨by omega, fun p hp => gdL_good hL (h.2 p hp)⟩
  | n, .scr _, h => by cases n <;> simp [gdL] at h
  | n, .dct _, h => by cases n <;> simp [gdL] at h
  | n, .ins _ _, h => by cases n <;> simp [gdL] at h
theorem gdL_mono {L L' : Nat} (hL : L ≤ L') : ∀ {n n' : Nat} {p : P}, n ≤ n' → gdL L n p = true → gdL L' n' p = true
  | n, n', .non, _, _ => by simp [gdL]
  | n, n', .bl _, _, _ => by simp [gdL]
  | n, n', .int _, _, _ => by simp [gdL]
  | n, n', .str _, _, _ => by simp [gdL]
  | 0, n', .tup _, _, h => by simp [gdL] at h
  | 0, n', .lst _, _, h => by simp [gdL] at h
  | n + 1, n', .tup ps, hn, h => by
    obtain ⟨m, rfl⟩ : ∃ m, n' = m + 1 := ⟨n' - 1, by omega⟩
    simp only [gdL, Bool.and_eq_true, decide_eq_true_eq, List.all_eq_true] at h ⊢
    exact ⟨by omega, fun p hp => gdL_mono hL (by omega) (h.2 p hp)⟩
  | n + 1, n', .lst ps, hn, h => by
    obtain ⟨m, rfl⟩ : ∃ m, n' = m + 1 := ⟨n' - 1, by omega⟩
    simp only [gdL, Bool.and_eq_true, decide_eq_true_eq, List.all_eq_true] at h ⊢
    exact ⟨by omega, fun p hp => gdL_mono hL (by omega) (h.2 p hp)⟩
  | n, n', .scr _, _, h => by cases n <;> simp [gdL] at h
  | n, n', .dct _, _, h => by cases n <;> simp [gdL] at h
  | n, n', .ins _ _, _, h => by cases n <;> simp [gdL] at h
theorem gdL_tup {L n : Nat} {ps : List P} : gdL L (n + 1) (.tup ps) = true ↔ ps.length ≤ L ∧ ∀ p ∈ ps, gdL L n p = true := by
  simp only [gdL, Bool.and_eq_true, decide_eq_true_eq, List.all_eq_true]
theorem gdL_lst {L n : Nat} {ps : List P} : gdL L (n + 1) (.lst ps) = true ↔ ps.length ≤ L ∧ ∀ p ∈ ps, gdL L n p = true := by
  simp only [gdL, Bool.and_eq_true, decide_eq_true_eq, List.all_eq_true]
theorem take_k {k : Nat} (hk : 1 ≤ k) : TakeSp (callK gs.gv gs.G k) 5 := by
  obtain ⟨k, rfl⟩ : ∃ j, k = j + 1 := ⟨k - 1, by omega⟩
  exact take_sp (fd := f5) rfl rfl rfl rfl
theorem of_k {k : Nat} (hk : 2 ≤ k) : OfSp (callK gs.gv gs.G k) 7 := by
  obtain ⟨k, rfl⟩ : ∃ j, k = j + 1 := ⟨k - 1, by omega⟩
  exact of_sp (take_k (by omega)) (fd := f7) rfl rfl rfl rfl
theorem names_k {k : Nat} (hk : 3 ≤ k) : NamesSp (callK gs.gv gs.G k) 10 := by
  obtain ⟨k, rfl⟩ : ∃ j, k = j + 1 := ⟨k - 1, by omega⟩
  exact names_sp (take_k (by omega)) (of_k (by omega)) (fd := f10) rfl rfl rfl rfl
theorem things_k {k : Nat} (hk : 4 ≤ k) : ThingsSp (callK gs.gv gs.G k) 11 := by
  obtain ⟨k, rfl⟩ : ∃ j, k = j + 2 := ⟨k - 2, by omega⟩
  exact things_sp (names_k (by omega)) (fr := f9) rfl rfl rfl rfl (fd := f11) rfl rfl rfl rfl
theorem box_k {k : Nat} (hk : 1 ≤ k) : BoxSp (callK gs.gv gs.G k) 4 := by
  obtain ⟨k, rfl⟩ : ∃ j, k = j + 1 := ⟨k - 1, by omega⟩
  exact box_sp (fd := f4) rfl rfl rfl rfl (by decide) (by decide)
theorem cells_k {k : Nat} (hk : 1 ≤ k) : CellsSp (callK gs.gv gs.G k) 6 := by
  obtain ⟨k, rfl⟩ : ∃ j, k = j + 1 := ⟨k - 1, by omega⟩
  exact cells_sp (fd := f6) rfl rfl rfl rfl
theorem sl_take {ps : List P} {r : Int} (h0 : 0 ≤ r) (h1 : r < ps.length) : slP (.tup ps) none (some r) = some (.tup (ps.take r.toNat)) := by
  show some (P.tup (cutL ps none (some r))) = _
  rw [cutL_take h0 (by omega)]
theorem sl_drop {ps : List P} {r : Int} (h0 : 0 ≤ r) (h1 : r ≤ ps.length) : slP (.tup ps) (some r) none = some (.tup (ps.drop r.toNat)) := by
  show some (P.tup (cutL ps (some r) none)) = _
  rw [cutL_drop h0 (by omega)]
theorem add_tup {ps qs : List P} (h : ps.length + qs.length ≤ 2000) : binP .Add (.tup ps) (.tup qs) = some (.tup (ps ++ qs)) := by
  show (if ps.length + qs.length ≤ lim then some (P.tup (ps ++ qs)) else none) = _
  rw [if_pos (by unfold lim; omega)]
theorem bent_sp {L : Nat} (hL : L ≤ 900) {pool : List P} (hp : 0 < pool.length) (hp2 : pool.length ≤ 1000) (hpool : ∀ p ∈ pool, gdL L 2 p = true) {n : Nat} : ∀ (d : Nat) {k : Nat} {S : Store} {p : P} {T : Int}, d + 4 ≤ k → gdL L (2 + d) p = true → Bx S n (T + 4 * (d + 1)) → 0 ≤ T →
    (callK gs.gv gs.G k 15 [.cell n, .val p, .val (.lst pool), .val (.int d)] S).Ok fun x S' => ∃ q, x = .val q ∧ gdL (L + 1) (2 + d) q = true ∧ Bx S' n T ∧ S'.length = S.length := by
  intro d
  induction d with
  | zero =>
    intro k S p T hk hg hB hT
    obtain ⟨k, rfl⟩ : ∃ j, k = j + 1 := ⟨k - 1, by omega⟩
    rw [callK_one (fd := f15) rfl rfl]
    obtain ⟨_, S1, e1, q, rfl, hq, B1, m1⟩ := ((of_k (k := k) (by omega)) n S (.lst pool) pool (T + 3) (by rw [show T + 3 + 1 = T + 4 * (((0 : Nat) : Int) + 1) by omega]; exact hB) (by omega) rfl (fun _ h => nomatch h) hp (by omega)).out
    show (endBody S.length (evSs gs.gv (callK gs.gv gs.G k) f15.body [some (.cell n), some (.val p), some (.val (.lst pool)), some (.val (.int (0 : Nat))), none, none] S)).Ok _
    simp [f15, e1, ← m1.length]
    exact ⟨q, rfl, gdL_mono (by omega) (by omega) (hpool q hq), B1.less (by omega), rfl⟩
  | succ d ih =>
    intro k S p T hk hg hB hT
    obtain ⟨k, rfl⟩ : ∃ j, k = j + 1 := ⟨k - 1, by omega⟩
    rw [callK_one (fd := f15) rfl rfl]
    show (endBody S.length (evSs gs.gv (callK gs.gv gs.G k) f15.body [some (.cell n), some (.val p), some (.val (.lst pool)), some (.val (.int ((d + 1 : Nat) : Int))), none, none] S)).Ok _
    have hd : ¬ ((d : Int) + 1 = 0) := by omega
    have pick : ∀ S0 T0, S0.length = S.length → Bx S0 n (T0 + 1) → T ≤ T0 → ∃ q S1, callK gs.gv gs.G k 7 [.cell n, .val (.lst pool)] S0 = .ok (.val q) S1 ∧ gdL (L + 1) (2 + (d + 1)) q = true ∧ Bx S1 n T ∧ S1.length = S.length := by
      intro S0 T0 h0 B0 hT0
      obtain ⟨_, S1, e1, q, rfl, hq, B1, m1⟩ := ((of_k (k := k) (by omega)) n S0 (.lst pool) pool T0 B0 (by omega) rfl (fun _ h => nomatch h) hp (by omega)).out
      exact ⟨q, S1, e1, gdL_mono (by omega) (by omega) (hpool q hq), B1.less (by omega), by rw [m1.length, h0]⟩
    rcases isTup_cases p with ⟨ps, rfl⟩ | hn
    · obtain ⟨hl, hps⟩ := gdL_tup.mp (show gdL L (2 + d + 1) (.tup ps) = true from hg)
      by_cases hz : ps.length = 0
      · obtain ⟨q, S1, e1, h1, B1, l1⟩ := pick S (T + 4 * (d + 1) + 3) rfl (by rw [show T + 4 * (d + 1) + 3 + 1 = T + 4 * (((d + 1 : Nat) : Int) + 1) by omega]; exact hB) (by omega)
        have hz' : ps = [] := List.length_eq_zero_iff.mp hz
        subst hz'
        simp [f15, e1, hd, l1]
        exact ⟨q, rfl, h1, B1, l1⟩
      · have hz' : ¬ ps = [] := fun h => hz (by simp [h])
        obtain ⟨_, S1, e1, r, rfl, r0, r1, B1, m1⟩ := ((take_k (k := k) (by omega)) n S 6 (T + 4 * (d + 1) + 3) (by rw [show T + 4 * (d + 1) + 3 + 1 = T + 4 * (((d + 1 : Nat) : Int) + 1) by omega]; exact hB) (by omega) (by decide) (by decide)).out
        by_cases hr : r = 0
        · subst hr
          obtain ⟨q, S2, e2, h2, B2, l2⟩ := pick S1 (T + 4 * (d + 1) + 2) m1.length (by rw [show T + 4 * (d + 1) + 2 + 1 = T + 4 * (d + 1) + 3 by omega]; exact B1) (by omega)
          simp [f15, e1, e2, hd, hz', l2]
          exact ⟨q, rfl, h2, B2, l2⟩
        · obtain ⟨_, S2, e2, i, rfl, i0, i1, B2, m2⟩ := ((take_k (k := k) (by omega)) n S1 ps.length (T + 4 * (d + 1) + 2) (by rw [show T + 4 * (d + 1) + 2 + 1 = T + 4 * (d + 1) + 3 by omega]; exact B1) (by omega) (by omega) (by omega)).out
          obtain ⟨_, S3, e3, w, rfl, w0, w1, B3, m3⟩ := ((take_k (k := k) (by omega)) n S2 9 (T + 4 * (d + 1) + 1) (by rw [show T + 4 * (d + 1) + 1 + 1 = T + 4 * (d + 1) + 2 by omega]; exact B2) (by omega) (by decide) (by decide)).out
          have l3 : S3.length = S.length := by rw [m3.length, m2.length, m1.length]
          have hi : i.toNat < ps.length := by omega
          have t1 := sl_take i0 i1
          have t2 := sl_drop i0 (show i ≤ ps.length by omega)
          have t3 := sl_drop (ps := ps) (show 0 ≤ i + 1 by omega) (by omega)
          have t4 : binP .Add (.int i) (.int 1) = some (.int (i + 1)) := rfl
          have mt : ∀ q ∈ ps.take i.toNat, gdL (L + 1) (2 + d) q = true := fun q hq => gdL_mono (by omega) (by omega) (hps q (List.mem_of_mem_take hq))
          have md : ∀ j, ∀ q ∈ ps.drop j, gdL (L + 1) (2 + d) q = true := fun j q hq => gdL_mono (by omega) (by omega) (hps q (List.mem_of_mem_drop hq))
          obtain ⟨x, hx, hxm⟩ := atI_lt (xs := ps) i0 i1
          have hx : ixP (.tup ps) (.int i) = some x := hx
          by_cases h0 : w = 0
          · subst h0
            have a1 : binP .Add (.tup (ps.take i.toNat)) (.tup (ps.drop (i + 1).toNat)) = some (.tup (ps.take i.toNat ++ ps.drop (i + 1).toNat)) := add_tup (by simp; omega)
            simp [f15, e1, e2, e3, hd, hz', hr, t1, t3, t4, a1, l3]
            refine ⟨_, rfl, (gdL_tup (n := 2 + d)).mpr ⟨by simp; omega, fun q hq => ?_⟩, B3.less (by omega), l3⟩
            rcases List.mem_append.mp hq with h | h
            · exact mt q h
            · exact md _ q h
          · by_cases h1 : w = 1
            · subst h1
              have a1 : binP .Add (.tup (ps.take i.toNat)) (.tup [x]) = some (.tup (ps.take i.toNat ++ [x])) := add_tup (by simp; omega)
              have a2 : binP .Add (.tup (ps.take i.toNat ++ [x])) (.tup (ps.drop i.toNat)) = some (.tup (ps.take i.toNat ++ [x] ++ ps.drop i.toNat)) := add_tup (by simp; omega)
              have a3 : mkR .tup [x] S3 = .ok (.val (.tup [x])) S3 := rfl
              simp [f15, e1, e2, e3, hd, hz', hr, t1, t2, hx, a3, a1, l3, -List.append_assoc]
              simp only [a2, giv_some, stm_ok, sqL_rt]
              rw [← l3, endBody_val]
              refine ⟨_, rfl, (gdL_tup (n := 2 + d)).mpr ⟨by simp; omega, fun q hq => ?_⟩, B3.less (by omega), rfl⟩
              simp only [List.mem_append, List.mem_singleton] at hq
              rcases hq with (h | rfl) | h
              · exact mt q h
              · exact gdL_mono (by omega) (by omega) (hps q hxm)
              · exact md _ q h
            · by_cases h2 : w = 2
              · subst h2
                simp [f15, e1, e2, e3, hd, hz', hr, l3]
                refine ⟨_, rfl, (gdL_lst (n := 2 + d)).mpr ⟨by omega, fun q hq => gdL_mono (by omega) (by omega) (hps q hq)⟩, B3.less (by omega), l3⟩
              · obtain ⟨_, S4, e4, y, rfl, hy, B4, l4⟩ := (ih (k := k) (S := S3) (p := x) (T := T + 1) (by omega) (hps x hxm) (by rw [show T + 1 + 4 * ((d : Int) + 1) = T + 4 * (d + 1) + 1 by omega]; exact B3) (by omega)).out
                have l5 : S4.length = S.length := by rw [l4, l3]
                have a1 : binP .Add (.tup (ps.take i.toNat)) (.tup [y]) = some (.tup (ps.take i.toNat ++ [y])) := add_tup (by simp; omega)
                have a2 : binP .Add (.tup (ps.take i.toNat ++ [y])) (.tup (ps.drop (i + 1).toNat)) = some (.tup (ps.take i.toNat ++ [y] ++ ps.drop (i + 1).toNat)) := add_tup (by simp; omega)
                have a3 : mkR .tup [y] S4 = .ok (.val (.tup [y])) S4 := rfl
                have a4 : binP .Sub (.int ((d : Int) + 1)) (.int 1) = some (.int d) := by
                  show some (P.int ((d : Int) + 1 - 1)) = _
                  rw [Int.add_sub_cancel]
                simp [f15, e1, e2, e3, hd, hz', hr, h0, h1, h2, t1, t3, t4, hx, a4, e4, a3, a1, -List.append_assoc]
                simp only [a2, giv_some, bind_ok, stm_ok, sqL_rt]
                rw [← l5, endBody_val]
                refine ⟨_, rfl, (gdL_tup (n := 2 + d)).mpr ⟨by simp; omega, fun q hq => ?_⟩, B4.less (by omega), rfl⟩
                simp only [List.mem_append, List.mem_singleton] at hq
                rcases hq with (h | rfl) | h
                · exact mt q h
                · exact hy
                · exact md _ q h
    · obtain ⟨q, S1, e1, h1, B1, l1⟩ := pick S (T + 4 * (d + 1) + 3) rfl (by rw [show T + 4 * (d + 1) + 3 + 1 = T + 4 * (((d + 1 : Nat) : Int) + 1) by omega]; exact hB) (by omega)
      have e := tyB_notTup (gdL_good (by omega) hg) hn
      simp [f15, e1, hd, e, l1]
      exact ⟨q, rfl, h1, B1, l1⟩
end K18

/-! k18: the law -/
namespace K18
open PySem Pk
def saidE : IE := .lst [.int 0, .int 1, .str (PySem.Str.ofString "x"), .non, .tup [.int 1, .str (PySem.Str.ofString "b")]]
def saidP : List P := [.int 0, .int 1, .str (PySem.Str.ofString "x"), .non, .tup [.int 1, .str (PySem.Str.ofString "b")]]
theorem said_ev {gv : Nat → Option P} {c : CallF} {ρ : Pk.Env} {S : Store} : evE gv c saidE ρ S = .ok (.val (.lst saidP)) S := rfl
/-- rows of drawn notes -/
theorem row_ok {k n m : Nat} {ρ : Pk.Env} {S : Store} {ws : List P} {T : Int} (hk : 1 ≤ k) (h0 : ρ[0]? = some (some (.cell n))) (h8 : ρ[8]? = some (some (.val (.int m)))) (h7 : ρ[7]? = some (some (.val (.tup ws)))) (hw : 11 < ρ.length) (hm : 0 < m) (hm2 : m ≤ 5) (hB : Bx S n (T + ws.length)) (hT : 0 ≤ T) (hws : ws.length ≤ 4) :
    (evE gs.gv (callK gs.gv gs.G k) (.blt .tuple [.lc (.call false 5 [.var 0, .var 8]) (.nm 11) (.seq (.var 7)) none [11]]) ρ S).Ok fun d S' => ∃ row, d = .val (.tup row) ∧ row.length = ws.length ∧ (∀ p ∈ row, ∃ i : Int, p = .int i ∧ 0 ≤ i ∧ i < m) ∧ Bx S' n T ∧ Sm S n S' := by
  obtain ⟨qs, S', e, hl, hA, B', m'⟩ := (lcLoop_inv (fun j S' => Bx S' n (T + (j : Nat)) ∧ Sm S n S') (fun p => ∃ i : Int, p = .int i ∧ 0 ≤ i ∧ i < m) (ps := ws) (S := S) (f := lcF gs.gv (callK gs.gv gs.G k) ρ (.call false 5 [.var 0, .var 8]) (.nm 11) none [11]) 0 ⟨by simpa using hB, Sm.refl hB⟩ (fun p hp j S1 ⟨B1, m1⟩ => by
    obtain ⟨_, S2, e2, r, rfl, r0, r1, B2, m2⟩ := (take_k hk n S1 m (T + j) (by rw [show T + (j : Int) + 1 = T + ((j + 1 : Nat) : Int) by omega]; exact B1) (by omega) (by omega) (by omega)).out
    have h0' : ((ρ.set 11 none).set 11 (some (.val p)))[0]? = some (some (.cell n)) := by
      rw [List.set_set, List.getElem?_set_ne (by decide)]
      exact h0
    have h8' : ((ρ.set 11 none).set 11 (some (.val p)))[8]? = some (some (.val (.int m))) := by
      rw [List.set_set, List.getElem?_set_ne (by decide)]
      exact h8
    rw [lcF_nm (by simpa [wipeE] using hw)]
    simp only [s_wi2, s_wi1, evE_call, evDs_cons, evE_var, h0', h8', rdS_some, bind_ok, evDs_nil, e2, endCall_val, frz_val]
    exact ⟨_, rfl, ⟨r, rfl, r0, r1⟩, B2, m1.trans m2⟩)).out
  simp only [evE_blt, evDs_cons, evE_lc, evI_seq, evE_var, h7, rdS_some, bind_ok, frz_val, s_it2, e, okL_eq, evDs_nil, bl1_val, s_b11, s_sq1, Option.map_some, giv_some]
  exact ⟨qs, rfl, hl, hA, by simpa using B', m'⟩
theorem rows_ok {k n m : Nat} {ρ : Pk.Env} {S : Store} {ws : List P} {T : Int} (hk : 1 ≤ k) (h0 : ρ[0]? = some (some (.cell n))) (h8 : ρ[8]? = some (some (.val (.int m)))) (h7 : ρ[7]? = some (some (.val (.tup ws)))) (hw : 11 < ρ.length) (hm : 0 < m) (hm2 : m ≤ 5) (hB : Bx S n (T + 20)) (hT : 0 ≤ T) (hws : ws.length ≤ 4) :
    (evE gs.gv (callK gs.gv gs.G k) (.blt .tuple [.lc (.blt .tuple [.lc (.call false 5 [.var 0, .var 8]) (.nm 11) (.seq (.var 7)) none [11]]) (.nm 10) (.rng [.var 8]) none [10]]) ρ S).Ok fun d S' => ∃ rows, d = .val (.tup rows) ∧ rows.length = m ∧ (∀ p ∈ rows, ∃ row, p = .tup row ∧ row.length = ws.length ∧ (∀ p ∈ row, ∃ i : Int, p = .int i ∧ 0 ≤ i ∧ i < m)) ∧ Bx S' n T ∧ Sm S n S' := by
  have hi : evI gs.gv (callK gs.gv gs.G k) (.rng [.var 8]) ρ S = .ok ((List.range (m : Int).toNat).map fun (n : Nat) => P.int (n : Int)) S := evI_rng1 (by simp only [evE_var, h8, rdS_some]) (by omega) (by omega)
  obtain ⟨qs, S', e, hl, hA, B', m'⟩ := (lcLoop_inv (fun j S' => Bx S' n (T + (4 * j : Nat)) ∧ Sm S n S') (fun p => ∃ row, p = .tup row ∧ row.length = ws.length ∧ (∀ p ∈ row, ∃ i : Int, p = .int i ∧ 0 ≤ i ∧ i < m)) (ps := (List.range (m : Int).toNat).map fun (n : Nat) => P.int (n : Int)) (S := S) (f := lcF gs.gv (callK gs.gv gs.G k) ρ (.blt .tuple [.lc (.call false 5 [.var 0, .var 8]) (.nm 11) (.seq (.var 7)) none [11]]) (.nm 10) none [10]) 0 ⟨hB.less (by simp; omega), Sm.refl hB⟩ (fun p hp j S1 ⟨B1, m1⟩ => by
    obtain ⟨_, S2, e2, row, rfl, r0, r1, B2, m2⟩ := (row_ok (k := k) (n := n) (m := m) (ρ := (ρ.set 10 none).set 10 (some (.val p))) (S := S1) (ws := ws) (T := T + (4 * j : Nat)) hk (by
      rw [List.set_set, List.getElem?_set_ne (by decide)]
      exact h0) (by
      rw [List.set_set, List.getElem?_set_ne (by decide)]
      exact h8) (by
      rw [List.set_set, List.getElem?_set_ne (by decide)]
      exact h7) (by simpa using hw) hm hm2 (B1.less (by omega)) (by omega) hws).out
    rw [lcF_nm (by simp [wipeE]; omega)]
    simp only [s_wi2, s_wi1, e2, bind_ok, frz_val]
    exact ⟨_, rfl, ⟨row, rfl, r0, r1⟩, B2, m1.trans m2⟩)).out
  rw [evE_blt, evDs_cons, evE_lc, hi]
  simp only [bind_ok, e, okL_eq, evDs_nil, bl1_val, s_b11, s_sq1, Option.map_some, giv_some]
  exact ⟨qs, rfl, by simpa using hl, hA, by simpa using B', m'⟩
theorem said_ok {k n m : Nat} {ρ : Pk.Env} {S : Store} {T : Int} (hk : 2 ≤ k) (h0 : ρ[0]? = some (some (.cell n))) (h8 : ρ[8]? = some (some (.val (.int m)))) (hw : 11 < ρ.length) (hm : 0 < m) (hm2 : m ≤ 5) (hB : Bx S n (T + 5)) (hT : 0 ≤ T) :
    (evE gs.gv (callK gs.gv gs.G k) (.blt .tuple [.lc (.call false 7 [.var 0, saidE]) (.nm 10) (.rng [.var 8]) none [10]]) ρ S).Ok fun d S' => ∃ says, d = .val (.tup says) ∧ says.length = m ∧ (∀ p ∈ says, p ∈ saidP) ∧ Bx S' n T ∧ Sm S n S' := by
  have hi : evI gs.gv (callK gs.gv gs.G k) (.rng [.var 8]) ρ S = .ok ((List.range (m : Int).toNat).map fun (n : Nat) => P.int (n : Int)) S := evI_rng1 (by simp only [evE_var, h8, rdS_some]) (by omega) (by omega)
  obtain ⟨qs, S', e, hl, hA, B', m'⟩ := (lcLoop_inv (fun j S' => Bx S' n (T + (j : Nat)) ∧ Sm S n S') (fun p => p ∈ saidP) (ps := (List.range (m : Int).toNat).map fun (n : Nat) => P.int (n : Int)) (S := S) (f := lcF gs.gv (callK gs.gv gs.G k) ρ (.call false 7 [.var 0, saidE]) (.nm 10) none [10]) 0 ⟨hB.less (by simp; omega), Sm.refl hB⟩ (fun p hp j S1 ⟨B1, m1⟩ => by
    obtain ⟨_, S2, e2, q, rfl, hq, B2, m2⟩ := (of_k hk n S1 (.lst saidP) saidP (T + j) (by rw [show T + (j : Int) + 1 = T + ((j + 1 : Nat) : Int) by omega]; exact B1) (by omega) rfl (fun _ h => nomatch h) (by decide) (by decide)).out
    have h0' : ((ρ.set 10 none).set 10 (some (.val p)))[0]? = some (some (.cell n)) := by
      rw [List.set_set, List.getElem?_set_ne (by decide)]
      exact h0
    rw [lcF_nm (by simp [wipeE]; omega)]
    simp only [s_wi2, s_wi1, evE_call, evDs_cons, evE_var, h0', rdS_some, bind_ok, said_ev, evDs_nil, e2, endCall_val, frz_val]
    exact ⟨_, rfl, hq, B2, m1.trans m2⟩)).out
  rw [evE_blt, evDs_cons, evE_lc, hi]
  simp only [bind_ok, e, okL_eq, evDs_nil, bl1_val, s_b11, s_sq1, Option.map_some, giv_some]
  exact ⟨qs, rfl, by simpa using hl, hA, by simpa using B', m'⟩
theorem own_mach {m : Nat} {ws rows says : List P} {r : Int} (hr0 : 0 ≤ r) (hr : r < m) (h1 : rows.length = m) (h2 : ∀ p ∈ rows, ∃ row, p = .tup row ∧ row.length = ws.length ∧ (∀ p ∈ row, ∃ i : Int, p = .int i ∧ 0 ≤ i ∧ i < m)) (h3 : says.length = m) (h4 : ∀ p ∈ says, p ∈ saidP) (n : Nat) :
    mach (n + 1) ws.length (.tup [.int r, .tup rows, .tup says]) = true := by
  rw [mach_eq]
  simp only [Bool.and_eq_true, decide_eq_true_eq, List.all_eq_true]
  refine ⟨by omega, fun p hp => ?_, ?_, fun p hp => ?_⟩
  · obtain ⟨rw_, rfl, hl, hi⟩ := h2 p hp
    simp only [lrow, row, cells, Bool.and_eq_true, decide_eq_true_eq, List.all_eq_true]
    refine ⟨hl, fun q hq => ?_⟩
    obtain ⟨i, rfl, i0, i1⟩ := hi q hq
    simp only [note, Bool.and_eq_true, decide_eq_true_eq]
    omega
  · simp only [note, Bool.and_eq_true, decide_eq_true_eq]
    omega
  · have := h4 p hp
    simp only [saidP, List.mem_cons, List.mem_nil_iff, or_false] at this
    rcases this with rfl | rfl | rfl | rfl | rfl <;> simp [ans]
theorem own_gd {m : Nat} {ws rows says : List P} {r : Int} (hm : m ≤ 5) (hws : ws.length ≤ 4) (h1 : rows.length = m) (h2 : ∀ p ∈ rows, ∃ row, p = .tup row ∧ row.length = ws.length ∧ (∀ p ∈ row, ∃ i : Int, p = .int i ∧ 0 ≤ i ∧ i < m)) (h3 : says.length = m) (h4 : ∀ p ∈ says, p ∈ saidP) :
    gdL 10 2 (.tup rows) = true ∧ gdL 10 5 (.tup [.int r, .tup rows, .tup says]) = true := by
  have g1 : gdL 10 2 (.tup rows) = true := gdL_tup.mpr ⟨by omega, fun p hp => by
    obtain ⟨row, rfl, hl, hi⟩ := h2 p hp
    refine gdL_tup.mpr ⟨by omega, fun q hq => ?_⟩
    obtain ⟨i, rfl, _⟩ := hi q hq
    rfl⟩
  have g2 : gdL 10 2 (.tup says) = true := gdL_tup.mpr ⟨by omega, fun p hp => by
    have := h4 p hp
    simp only [saidP, List.mem_cons, List.mem_nil_iff, or_false] at this
    rcases this with rfl | rfl | rfl | rfl | rfl <;> simp [gdL]⟩
  refine ⟨g1, gdL_tup.mpr ⟨by simp, fun p hp => ?_⟩⟩
  simp only [List.mem_cons, List.mem_nil_iff, or_false] at hp
  rcases hp with rfl | rfl | rfl
  · rfl
  · exact gdL_mono (Nat.le_refl _) (by omega) g1
  · exact gdL_mono (Nat.le_refl _) (by omega) g2
def poolOf (m : Nat) (r : Int) (rows : List P) : List P := [.int 0, .int 1, .int (-1), .int m, .int ((m : Int) - 1), .bl true, .bl false, .non, .str em, .str (PySem.Str.ofString "a"), .tup [], .lst [], .tup [.int 0], .lst [.int 0], .tup [.int 0, .int 0], .int r, .tup rows]
theorem pool_gd {m : Nat} {r : Int} {rows : List P} (h : gdL 10 2 (.tup rows) = true) : ∀ p ∈ poolOf m r rows, gdL 10 2 p = true := by
  intro p hp
  simp only [poolOf, List.mem_cons, List.mem_nil_iff, or_false] at hp
  rcases hp with rfl | rfl | rfl | rfl | rfl | rfl | rfl | rfl | rfl | rfl | rfl | rfl | rfl | rfl | rfl | rfl | rfl <;> first
    | exact h
    | simp [gdL]
end K18

/-! k18: the law's turns -/
namespace K18
open PySem Pk
def againBody : List IS := [
        .asg 9 (.call false 15 [.var 0, .var 4, .var 5, .int 3]),
        .ifS (.not (.call false 8 [.call false 3 [.var 7, .var 9], .call false 14 [.var 7, .var 9]])) [
          .ret (.bl false)] []]
def turnBody : List IS := [
      .unp (.tp [.nm 7, .nm 8]) (.tup [.call false 11 [.var 0, .call false 5 [.var 0, .int 5]], .bin .Add (.int 1) (.call false 5 [.var 0, .int 5])]),
      .asg 2 (.blt .tuple [.lc (.blt .tuple [.lc (.call false 5 [.var 0, .var 8]) (.nm 11) (.seq (.var 7)) none [11]]) (.nm 10) (.rng [.var 8]) none [10]]),
      .asg 3 (.blt .tuple [.lc (.call false 7 [.var 0, saidE]) (.nm 10) (.rng [.var 8]) none [10]]),
      .asg 4 (.tup [.call false 5 [.var 0, .var 8], .var 2, .var 3]),
      .ifS (.cmp .IsNot (.call false 3 [.var 7, .var 4]) (.bl true)) [
        .ret (.bl false)] [],
      .asg 5 (.lst [.int 0, .int 1, .neg (.int 1), .var 8, .bin .Sub (.var 8) (.int 1), .bl true, .bl false, .non, .str em, .str (PySem.Str.ofString "a"), .tup [], .lst [], .tup [.int 0], .lst [.int 0], .tup [.int 0, .int 0], .idx (.var 4) (.int 0), .idx (.var 4) (.int 1)]),
      .forS (.nm 6) (.rng [.int 4]) againBody]
theorem again_ok {k n m : Nat} {ws : List P} {own : P} {pool : List P} {x1 x2 x3 x6 x9 : Option D} {S : Store} {T : Int} (hk : 20 ≤ k) (hg : gdL 10 5 own = true) (hp : 0 < pool.length) (hp2 : pool.length ≤ 1000) (hpool : ∀ p ∈ pool, gdL 10 2 p = true) (hB : Bx S n (T + 20)) (hT : 0 ≤ T) :
    (evSs gs.gv (callK gs.gv gs.G k) againBody [some (.cell n), x1, x2, x3, some (.val own), some (.val (.lst pool)), x6, some (.val (.tup ws)), some (.val (.int m)), x9, none, none] S).Ok
      (fun ρ S' => ∃ x9, ρ = [some (.cell n), x1, x2, x3, some (.val own), some (.val (.lst pool)), x6, some (.val (.tup ws)), some (.val (.int m)), x9, none, none] ∧ Bx S' n T) fun _ _ => False := by
  obtain ⟨_, S1, e1, q, rfl, hq, B1, l1⟩ := (bent_sp (L := 10) (by omega) hp hp2 hpool (n := n) 3 (k := k) (S := S) (p := own) (T := T) (by omega) hg (hB.less (by omega)) hT).out
  have hq := gdL_good (by omega) hq
  have e2 := machine_sp (n := 4) (k := k) (p := q) (ts := ws) (S := S1) (by omega) hq
  have e3 := so_sp (n := 4) (k := k) (p := q) (ts := ws) (S := S1) (by omega) hq
  have e4 := same_bl (k := k) (a := mach 4 ws.length q) (b := mach 4 ws.length q) (S := S1) (by omega)
  have e1' : callK gs.gv gs.G k 15 [.cell n, .val own, .val (.lst pool), .val (.int 3)] S = .ok (.val q) S1 := e1
  simp only [againBody, evSs_cons, evS_asg, evE_call, evDs_cons, evE_var, List.getElem?_cons_succ, List.getElem?_cons_zero, rdS_some, bind_ok, evE_int, evDs_nil, e1', endCall_val, stm_ok, List.length_cons, List.length_nil, Nat.reduceAdd, Nat.reduceLT, if_true, List.set_cons_succ, List.set_cons_zero, sqL_nx, evS_if, evT_eq, evE_not, e2, e3, e4, beq_self_eq_true, trS_bl, Bool.not_true, Bool.false_eq_true, if_false, evSs_nil]
  exact ⟨_, rfl, B1⟩
theorem mkR_any {f : List P → P} {ps : List P} {S : Store} (h : ps.length ≤ 1000) : mkR f ps S = .ok (.val (f ps)) S := mkR_ok (by unfold lim; omega)
theorem turn_ok {k n : Nat} {x1 x2 x3 x4 x5 x6 x7 x8 x9 : Option D} {S : Store} {T : Int} (hk : 20 ≤ k) (hB : Bx S n (T + 200)) (hT : 0 ≤ T) :
    (evSs gs.gv (callK gs.gv gs.G k) turnBody [some (.cell n), x1, x2, x3, x4, x5, x6, x7, x8, x9, none, none] S).Ok
      (fun ρ S' => ∃ x1 x2 x3 x4 x5 x6 x7 x8 x9, ρ = [some (.cell n), x1, x2, x3, x4, x5, x6, x7, x8, x9, none, none] ∧ Bx S' n T) fun _ _ => False := by
  obtain ⟨_, S1, e1, a, rfl, a0, a1, B1, m1⟩ := ((take_k (k := k) (by omega)) n S 5 (T + 199) (by rw [show T + 199 + 1 = T + 200 by omega]; exact hB) (by omega) (by decide) (by decide)).out
  obtain ⟨_, S2, e2, ws, rfl, hws, _, B2, m2⟩ := ((things_k (k := k) (by omega)) n S1 a (T + 150) (B1.less (by omega)) (by omega) (by omega) (by omega)).out
  obtain ⟨_, S3, e3, b, rfl, b0, b1, B3, m3⟩ := ((take_k (k := k) (by omega)) n S2 5 (T + 149) (B2.less (by omega)) (by omega) (by decide) (by decide)).out
  obtain ⟨m, hm⟩ : ∃ m : Nat, (m : Int) = 1 + b := ⟨(1 + b).toNat, by omega⟩
  have hwl : (ws.map P.str).length ≤ 4 := by rw [List.length_map, hws.len]; omega
  have p1 : binP .Add (.int 1) (.int b) = some (.int m) := by rw [hm]; rfl
  generalize hwp : ws.map P.str = wp at *
  obtain ⟨_, S4, e4, rows, rfl, r1, r2, B4, m4⟩ := (rows_ok (k := k) (n := n) (m := m) (ρ := [some (.cell n), x1, x2, x3, x4, x5, x6, some (.val (.tup wp)), some (.val (.int m)), x9, none, none]) (S := S3) (ws := wp) (T := T + 129) (by omega) rfl rfl rfl (by simp) (by omega) (by omega) (B3.less (by omega)) (by omega) hwl).out
  obtain ⟨_, S5, e5, says, rfl, s1, s2, B5, m5⟩ := (said_ok (k := k) (n := n) (m := m) (ρ := [some (.cell n), x1, some (.val (.tup rows)), x3, x4, x5, x6, some (.val (.tup wp)), some (.val (.int m)), x9, none, none]) (S := S4) (T := T + 124) (by omega) rfl rfl (by simp) (by omega) (by omega) (B4.less (by omega)) (by omega)).out
  obtain ⟨_, S6, e6, r, rfl, q0, q1, B6, m6⟩ := ((take_k (k := k) (by omega)) n S5 m (T + 123) (B5.less (by omega)) (by omega) (by omega) (by omega)).out
  obtain ⟨g1, g2⟩ := own_gd (ws := wp) (r := r) (by omega) hwl r1 r2 s1 s2
  have e7 := machine_sp (n := 4) (k := k) (p := .tup [.int r, .tup rows, .tup says]) (ts := wp) (S := S6) (by omega) (gdL_good (by omega) g2)
  rw [own_mach q0 q1 r1 r2 s1 s2 3] at e7
  have i0 : ixP (.tup [.int r, .tup rows, .tup says]) (.int 0) = some (.int r) := by simp [ixP, L2.atI, L2.ixN]
  have i1 : ixP (.tup [.int r, .tup rows, .tup says]) (.int 1) = some (.tup rows) := by simp [ixP, L2.atI, L2.ixN]
  have p2 : binP .Sub (.int (m : Int)) (.int 1) = some (.int (m - 1)) := rfl
  have p3 : cmpP .IsNot (.bl true) (.bl true) = some false := rfl
  have k2 : ∀ (p q : P) (S : Store), mkR .tup [p, q] S = .ok (.val (.tup [p, q])) S := fun _ _ _ => rfl
  have k3 : ∀ (p q r : P) (S : Store), mkR .tup [p, q, r] S = .ok (.val (.tup [p, q, r])) S := fun _ _ _ _ => rfl
  have k1 : ∀ (p : P) (S : Store), mkR .tup [p] S = .ok (.val (.tup [p])) S := fun _ _ => rfl
  have k1l : ∀ (p : P) (S : Store), mkR .lst [p] S = .ok (.val (.lst [p])) S := fun _ _ => rfl
  have kp : mkR .lst (poolOf m r rows) S6 = .ok (.val (.lst (poolOf m r rows))) S6 := rfl
  have ep : evE gs.gv (callK gs.gv gs.G k) (.lst [.int 0, .int 1, .neg (.int 1), .var 8, .bin .Sub (.var 8) (.int 1), .bl true, .bl false, .non, .str em, .str (PySem.Str.ofString "a"), .tup [], .lst [], .tup [.int 0], .lst [.int 0], .tup [.int 0, .int 0], .idx (.var 4) (.int 0), .idx (.var 4) (.int 1)]) [some (.cell n), x1, some (.val (.tup rows)), some (.val (.tup says)), some (.val (.tup [.int r, .tup rows, .tup says])), x5, x6, some (.val (.tup wp)), some (.val (.int m)), x9, none, none] S6 = .ok (.val (.lst (poolOf m r rows))) S6 := by
    rw [← kp]
    simp only [evE_lst, evPs_int, evPs_neg, evPs_var, evPs_bin, evPs_bl, evPs_non, evPs_str, evPs_tup, evPs_lst, evPs_idx, evPs_nil, evE_int, evE_neg, evE_var, evE_bin, evE_bl, evE_non, evE_str, evE_tup, evE_idx, bind_ok, frz_val, pk1_val, negP_int, giv_some, List.getElem?_cons_succ, List.getElem?_cons_zero, rdS_some, pk2_val, p2, i0, i1, mkR_nil, k1, k1l, k2]
    rfl
  have hloop := forLoop_at (tg := .nm 6) (f := evSs gs.gv (callK gs.gv gs.G k) againBody) (items := (List.range (4 : Int).toNat).map fun (n : Nat) => P.int (n : Int)) (V := fun _ _ => False)
    (fun i ρ S' => ∃ x6 x9, ρ = [some (.cell n), x1, some (.val (.tup rows)), some (.val (.tup says)), some (.val (.tup [.int r, .tup rows, .tup says])), some (.val (.lst (poolOf m r rows))), x6, some (.val (.tup wp)), some (.val (.int m)), x9, none, none] ∧ Bx S' n (T + 20 * (4 - i)))
    (ρ := [some (.cell n), x1, some (.val (.tup rows)), some (.val (.tup says)), some (.val (.tup [.int r, .tup rows, .tup says])), some (.val (.lst (poolOf m r rows))), x6, some (.val (.tup wp)), some (.val (.int m)), x9, none, none]) (S := S6)
    (Q := fun ρ S' => ∃ x1 x2 x3 x4 x5 x6 x7 x8 x9, ρ = [some (.cell n), x1, x2, x3, x4, x5, x6, x7, x8, x9, none, none] ∧ Bx S' n T)
    ⟨x6, x9, rfl, B6.less (by simp)⟩
    (fun i p ρ S' hp hI => by
      obtain ⟨x6, x9, rfl, BB⟩ := hI
      refine ⟨[some (.cell n), x1, some (.val (.tup rows)), some (.val (.tup says)), some (.val (.tup [.int r, .tup rows, .tup says])), some (.val (.lst (poolOf m r rows))), some (.val p), some (.val (.tup wp)), some (.val (.int m)), x9, none, none], rfl, ?_⟩
      have hi : i < 4 := by
        have := (List.getElem?_eq_some_iff.mp hp).1
        simpa using this
      refine F.Ok.mono (again_ok (T := T + 20 * (4 - (i + 1 : Nat))) hk g2 (by simp [poolOf]) (by simp [poolOf]) (pool_gd g1) (BB.less (by omega)) (by omega)) ?_ fun _ _ h => h
      rintro ρ' S' ⟨x9, rfl, B'⟩
      exact ⟨_, _, rfl, B'⟩)
    (fun ρ S' hI => by
      obtain ⟨x6, x9, rfl, BB⟩ := hI
      exact ⟨_, _, _, _, _, _, _, _, _, rfl, BB.less (by simp)⟩)
  simp only [turnBody, evSs_cons, evS_unp, evE_tup, evPs_call, evE_call, evDs_cons, evE_var, List.getElem?_cons_succ, List.getElem?_cons_zero, rdS_some, bind_ok, evE_int, evDs_nil, e1, e2, endCall_val, frz_val, evPs_bin, evE_bin, e3, pk2_val, p1, giv_some, evPs_nil, k2, stm_ok, s_tg2, s_ts2, s_tg1, s_ts1, List.length_cons, List.length_nil, Nat.reduceAdd, Nat.reduceLT, if_true, List.set_cons_succ, List.set_cons_zero, sqL_nx, evS_asg, e4, e5, evPs_var, e6, k3, evS_if, evT_eq, evE_cmp, e7, evE_bl, p3, Option.map_some, trS_bl, Bool.false_eq_true, if_false, evSs_nil, ep, evS_for, evI_rng1 (gv := gs.gv) (c := callK gs.gv gs.G k) (e := .int 4) (m := 4) rfl (by decide) (by decide)]
  generalize forLoop _ _ _ _ _ = rr at hloop ⊢
  cases rr with
  | nx ρ S' => exact hloop
  | _ => exact hloop.elim
theorem right_k {k : Nat} (hk : 21 ≤ k) : RightSp (callK gs.gv gs.G k) 17 := by
  intro n S hB
  obtain ⟨k, rfl⟩ : ∃ j, k = j + 1 := ⟨k - 1, by omega⟩
  rw [callK_one (fd := f17) rfl rfl]
  have hloop := forLoop_at (tg := .nm 1) (f := evSs gs.gv (callK gs.gv gs.G k) turnBody) (items := (List.range (6 : Int).toNat).map fun (n : Nat) => P.int (n : Int)) (V := fun _ _ => False)
    (fun i ρ S' => ∃ x1 x2 x3 x4 x5 x6 x7 x8 x9, ρ = [some (.cell n), x1, x2, x3, x4, x5, x6, x7, x8, x9, none, none] ∧ Bx S' n (200 * (6 - i)))
    (ρ := [some (.cell n), none, none, none, none, none, none, none, none, none, none, none]) (S := S)
    (Q := fun ρ S' => True)
    ⟨none, none, none, none, none, none, none, none, none, rfl, hB.less (by decide)⟩
    (fun i p ρ S' hp hI => by
      obtain ⟨x1, x2, x3, x4, x5, x6, x7, x8, x9, rfl, BB⟩ := hI
      refine ⟨[some (.cell n), some (.val p), x2, x3, x4, x5, x6, x7, x8, x9, none, none], rfl, ?_⟩
      have hi : i < 6 := by
        have := (List.getElem?_eq_some_iff.mp hp).1
        simpa using this
      refine F.Ok.mono (turn_ok (T := 200 * (6 - (i + 1 : Nat))) (by omega) (BB.less (by omega)) (by omega)) ?_ fun _ _ h => h
      rintro ρ' S' h
      exact h)
    (fun ρ S' hI => trivial)
  show (endBody S.length (evSs gs.gv (callK gs.gv gs.G k) [.forS (.nm 1) (.rng [.int 6]) turnBody, .ret (.bl true)] [some (.cell n), none, none, none, none, none, none, none, none, none, none, none] S)).Ok _
  simp only [evSs_cons, evS_for, evI_rng1 (gv := gs.gv) (c := callK gs.gv gs.G k) (e := .int 6) (m := 6) rfl (by decide) (by decide), stm_ok]
  generalize forLoop _ _ _ _ _ = rr at hloop ⊢
  cases rr with
  | nx ρ S' =>
    simp only [sqL_nx, evSs_cons, evS_ret, evE_bl, stm_ok, sqL_rt]
    rfl
  | _ => exact hloop.elim
end K18

/-! k18: the law comes to True -/
namespace K18
open PySem Pk
theorem hand : callK gs.gv gs.G 99 16 [] [] = .ok (.val (.bl true)) [] := by kernel_rfl
theorem good_law : ∀ ns : List Int, ns.length ≤ 63 → ∃ S, callK gs.gv gs.G 100 18 [.val (.scr ns)] [] = .ok (.val (.bl true)) S := by
  intro ns hn
  rw [callK_one (fd := f18) rfl rfl]
  obtain ⟨_, _, e1, rfl, zs, rfl, z0, z1⟩ := (cells_k (k := 99) (by omega) [] ns 3 hn (by decide) (by decide)).out
  have hend : endCall false 0 (.cell 0) ([] ++ [.lst (zs.map .int)]) = .ok (.val (.lst (zs.map .int))) [] := rfl
  obtain ⟨_, S', e2, rfl⟩ := (rights_sp (gv := gs.gv) (c := callK gs.gv gs.G 99) (S := []) (zs := zs) (bx := 4) (ri := 17) (v := 1) (w := 2) (ρ := [some (.val (.scr ns)), some (.val (.lst (zs.map .int))), none]) (box_k (by omega)) (right_k (by omega)) rfl (by simp) (by decide) (by omega)).out
  have e1' : callK gs.gv gs.G 99 6 [.val (.scr ns), .val (.int 3)] [] = .ok (.cell 0) ([] ++ [.lst (zs.map .int)]) := e1
  refine ⟨S'.take 0, ?_⟩
  show endBody 0 (evSs gs.gv (callK gs.gv gs.G 99) f18.body [some (.val (.scr ns)), none, none] []) = _
  rw [f18]
  simp only [evSs_cons, evS_if, evT_eq, evE_not, evE_call, evDs_nil, bind_ok, hand, endCall_val, trS_bl, Bool.not_true, Bool.false_eq_true, if_false, stm_ok, evSs_nil, sqL_nx, evS_asg, evDs_cons, evE_var, List.getElem?_cons_zero, rdS_some, evE_int, e1', List.length_nil, hend, List.length_cons, Nat.reduceAdd, Nat.reduceLT, if_true, List.set_cons_succ, List.set_cons_zero, evS_ret, e2, sqL_rt]
  rfl
end K18

/-! the text is what the readings say -/
namespace K18
open PySem PySem.Spec PyProof.Rows L2 Pk
def top (i : Nat) : Stmt := PySem.Challenge.pw_partskept_k18_machines_or_not.main.body.getD i (.Pass ⟨0, 0, 0, 0⟩)
def d0 : He.DefD := ⟨(PySem.Str.ofString "is_number", none), PySem.Str.ofString "is_number", PySem.Str.ofString "is_number", defArgs (top 1), defBody (top 1), defScope (top 1), [], []⟩
def d1 : He.DefD := ⟨(PySem.Str.ofString "is_answer", none), PySem.Str.ofString "is_answer", PySem.Str.ofString "is_answer", defArgs (top 2), defBody (top 2), defScope (top 2), [], []⟩
def d2 : He.DefD := ⟨(PySem.Str.ofString "is_note", none), PySem.Str.ofString "is_note", PySem.Str.ofString "is_note", defArgs (top 5), defBody (top 5), defScope (top 5), [], []⟩
def d3 : He.DefD := ⟨(PySem.Str.ofString "is_machine", none), PySem.Str.ofString "is_machine", PySem.Str.ofString "is_machine", defArgs (top 6), defBody (top 6), defScope (top 6), [], []⟩
def d4 : He.DefD := ⟨(PySem.Str.ofString "_law_box", none), PySem.Str.ofString "_law_box", PySem.Str.ofString "_law_box", defArgs (top 8), defBody (top 8), defScope (top 8), [], []⟩
def d5 : He.DefD := ⟨(PySem.Str.ofString "_law_take", none), PySem.Str.ofString "_law_take", PySem.Str.ofString "_law_take", defArgs (top 9), defBody (top 9), defScope (top 9), [], []⟩
def d6 : He.DefD := ⟨(PySem.Str.ofString "_law_cells", none), PySem.Str.ofString "_law_cells", PySem.Str.ofString "_law_cells", defArgs (top 10), defBody (top 10), defScope (top 10), [], []⟩
def d7 : He.DefD := ⟨(PySem.Str.ofString "_law_of", none), PySem.Str.ofString "_law_of", PySem.Str.ofString "_law_of", defArgs (top 11), defBody (top 11), defScope (top 11), [], []⟩
def d8 : He.DefD := ⟨(PySem.Str.ofString "_law_same", none), PySem.Str.ofString "_law_same", PySem.Str.ofString "_law_same", defArgs (top 12), defBody (top 12), defScope (top 12), [], []⟩
def d9 : He.DefD := ⟨(PySem.Str.ofString "_law_rising", none), PySem.Str.ofString "_law_rising", PySem.Str.ofString "_law_rising", defArgs (top 13), defBody (top 13), defScope (top 13), [], []⟩
def d10 : He.DefD := ⟨(PySem.Str.ofString "_law_names", none), PySem.Str.ofString "_law_names", PySem.Str.ofString "_law_names", defArgs (top 14), defBody (top 14), defScope (top 14), [], []⟩
def d11 : He.DefD := ⟨(PySem.Str.ofString "_law_things", none), PySem.Str.ofString "_law_things", PySem.Str.ofString "_law_things", defArgs (top 15), defBody (top 15), defScope (top 15), [], []⟩
def d12 : He.DefD := ⟨(PySem.Str.ofString "_law_is_note", none), PySem.Str.ofString "_law_is_note", PySem.Str.ofString "_law_is_note", defArgs (top 16), defBody (top 16), defScope (top 16), [], []⟩
def d13 : He.DefD := ⟨(PySem.Str.ofString "_law_is_said", none), PySem.Str.ofString "_law_is_said", PySem.Str.ofString "_law_is_said", defArgs (top 17), defBody (top 17), defScope (top 17), [], []⟩
def d14 : He.DefD := ⟨(PySem.Str.ofString "_law_is_so", none), PySem.Str.ofString "_law_is_so", PySem.Str.ofString "_law_is_so", defArgs (top 18), defBody (top 18), defScope (top 18), [], []⟩
def d15 : He.DefD := ⟨(PySem.Str.ofString "_law_bent", none), PySem.Str.ofString "_law_bent", PySem.Str.ofString "_law_bent", defArgs (top 19), defBody (top 19), defScope (top 19), [], []⟩
def d16 : He.DefD := ⟨(PySem.Str.ofString "_law_by_hand_right", none), PySem.Str.ofString "_law_by_hand_right", PySem.Str.ofString "_law_by_hand_right", defArgs (top 20), defBody (top 20), defScope (top 20), [], []⟩
def d17 : He.DefD := ⟨(PySem.Str.ofString "_law_right", none), PySem.Str.ofString "_law_right", PySem.Str.ofString "_law_right", defArgs (top 21), defBody (top 21), defScope (top 21), [], []⟩
def d18 : He.DefD := ⟨(PySem.Str.ofString "law", none), PySem.Str.ofString "law", PySem.Str.ofString "law", defArgs (top 22), defBody (top 22), defScope (top 22), [], []⟩
def fn : List He.DefD := [d0, d1, d2, d3, d4, d5, d6, d7, d8, d9, d10, d11, d12, d13, d14, d15, d16, d17, d18]
def fa : List He.Fa := [
  .free (PySem.Str.ofString "abs"),
  .free (PySem.Str.ofString "all"),
  .free (PySem.Str.ofString "any"),
  .free (PySem.Str.ofString "int"),
  .free (PySem.Str.ofString "len"),
  .free (PySem.Str.ofString "list"),
  .free (PySem.Str.ofString "tuple"),
  .free (PySem.Str.ofString "str"),
  .free (PySem.Str.ofString "sum"),
  .free (PySem.Str.ofString "max"),
  .free (PySem.Str.ofString "min"),
  .free (PySem.Str.ofString "sorted"),
  .free (PySem.Str.ofString "bool"),
  .free (PySem.Str.ofString "dict"),
  .free (PySem.Str.ofString "isinstance"),
  .free (PySem.Str.ofString "range"),
  .free (PySem.Str.ofString "enumerate"),
  .free (PySem.Str.ofString "zip"),
  .free (PySem.Str.ofString "set"),
  .free (PySem.Str.ofString "super"),
  .free (PySem.Str.ofString "ord"),
  .glo (PySem.Str.ofString "is_number"),
  .glo (PySem.Str.ofString "is_answer"),
  .glo (PySem.Str.ofString "is_note"),
  .glo (PySem.Str.ofString "is_machine"),
  .glo (PySem.Str.ofString "_law_box"),
  .glo (PySem.Str.ofString "_law_take"),
  .glo (PySem.Str.ofString "_law_cells"),
  .glo (PySem.Str.ofString "_law_of"),
  .glo (PySem.Str.ofString "_law_same"),
  .glo (PySem.Str.ofString "_law_rising"),
  .glo (PySem.Str.ofString "_law_names"),
  .glo (PySem.Str.ofString "_law_things"),
  .glo (PySem.Str.ofString "_law_is_note"),
  .glo (PySem.Str.ofString "_law_is_said"),
  .glo (PySem.Str.ofString "_law_is_so"),
  .glo (PySem.Str.ofString "_law_bent"),
  .glo (PySem.Str.ofString "_law_by_hand_right"),
  .glo (PySem.Str.ofString "_law_right"),
  .glo (PySem.Str.ofString "law"),
  .int (PySem.Str.ofString "PARTS") 3]
def loose : List PySem.Str := ([PySem.Str.ofString "__name__", PySem.Str.ofString "is_number", PySem.Str.ofString "is_answer", PySem.Str.ofString "PARTS", PySem.Str.ofString "is_note", PySem.Str.ofString "is_machine", PySem.Str.ofString "_law_box", PySem.Str.ofString "_law_take", PySem.Str.ofString "_law_cells", PySem.Str.ofString "_law_of", PySem.Str.ofString "_law_same", PySem.Str.ofString "_law_rising"] : List PySem.Str) ++ ([PySem.Str.ofString "_law_names", PySem.Str.ofString "_law_things", PySem.Str.ofString "_law_is_note", PySem.Str.ofString "_law_is_said", PySem.Str.ofString "_law_is_so", PySem.Str.ofString "_law_bent", PySem.Str.ofString "_law_by_hand_right", PySem.Str.ofString "_law_right"] : List PySem.Str)

theorem sc0 : FnScope f0.N f0.ps (defScope (top 1)) := ⟨rfl, rfl, rfl, by decide +kernel, by decide +kernel, by decide +kernel, by decide +kernel⟩
theorem ck0 : chkSs gs f0.N (defScope (top 1)) f0.body (defBody (top 1)) = true := by decide +kernel
theorem df0 {K : PySem.W.Frag} {h : Heap} {mg : PySem.Str → Option Value} (X : K.In h) (Gn : h.Ns mainGlobals mg) (c : He.SaysD fa fn K) : DfOk gs K mg 0 f0 := by
  obtain ⟨fdd, F⟩ := c.def_ 0 (d := d0) rfl
  exact ⟨_, fdd, _, _, _, _, _, _, He.glo_ok X Gn (c.fact 21 (f := .glo (PySem.Str.ofString "is_number")) rfl), F, sc0, ck0, FunD.bindsN F (fun _ _ _ _ _ _ us hl => match us, hl with | [_], _ => rfl), fun e he => by cases he⟩
theorem sc1 : FnScope f1.N f1.ps (defScope (top 2)) := ⟨rfl, rfl, rfl, by decide +kernel, by decide +kernel, by decide +kernel, by decide +kernel⟩
theorem ck1 : chkSs gs f1.N (defScope (top 2)) f1.body (defBody (top 2)) = true := by decide +kernel
theorem df1 {K : PySem.W.Frag} {h : Heap} {mg : PySem.Str → Option Value} (X : K.In h) (Gn : h.Ns mainGlobals mg) (c : He.SaysD fa fn K) : DfOk gs K mg 1 f1 := by
  obtain ⟨fdd, F⟩ := c.def_ 1 (d := d1) rfl
  exact ⟨_, fdd, _, _, _, _, _, _, He.glo_ok X Gn (c.fact 22 (f := .glo (PySem.Str.ofString "is_answer")) rfl), F, sc1, ck1, FunD.bindsN F (fun _ _ _ _ _ _ us hl => match us, hl with | [_], _ => rfl), fun e he => by cases he⟩
theorem sc2 : FnScope f2.N f2.ps (defScope (top 5)) := ⟨rfl, rfl, rfl, by decide +kernel, by decide +kernel, by decide +kernel, by decide +kernel⟩
theorem ck2 : chkSs gs f2.N (defScope (top 5)) f2.body (defBody (top 5)) = true := by decide +kernel
theorem df2 {K : PySem.W.Frag} {h : Heap} {mg : PySem.Str → Option Value} (X : K.In h) (Gn : h.Ns mainGlobals mg) (c : He.SaysD fa fn K) : DfOk gs K mg 2 f2 := by
  obtain ⟨fdd, F⟩ := c.def_ 2 (d := d2) rfl
  exact ⟨_, fdd, _, _, _, _, _, _, He.glo_ok X Gn (c.fact 23 (f := .glo (PySem.Str.ofString "is_note")) rfl), F, sc2, ck2, FunD.bindsN F (fun _ _ _ _ _ _ us hl => match us, hl with | [_, _], _ => rfl), fun e he => by cases he⟩
theorem sc3 : FnScope f3.N f3.ps (defScope (top 6)) := ⟨rfl, rfl, rfl, by decide +kernel, by decide +kernel, by decide +kernel, by decide +kernel⟩
theorem ck3 : chkSs gs f3.N (defScope (top 6)) f3.body (defBody (top 6)) = true := by decide +kernel
theorem df3 {K : PySem.W.Frag} {h : Heap} {mg : PySem.Str → Option Value} (X : K.In h) (Gn : h.Ns mainGlobals mg) (c : He.SaysD fa fn K) : DfOk gs K mg 3 f3 := by
  obtain ⟨fdd, F⟩ := c.def_ 3 (d := d3) rfl
  exact ⟨_, fdd, _, _, _, _, _, _, He.glo_ok X Gn (c.fact 24 (f := .glo (PySem.Str.ofString "is_machine")) rfl), F, sc3, ck3, FunD.bindsN F (fun _ _ _ _ _ _ us hl => match us, hl with | [_, _], _ => rfl), fun e he => by
    simp only [f3, List.mem_cons, List.mem_nil_iff, or_false] at he
    rcases he with rfl
    · exact kbn_of F fun _ _ _ _ _ _ us ws h1 h2 => match us, ws, h1, h2 with | [], [_, _], _, _ => rfl⟩
theorem sc4 : FnScope f4.N f4.ps (defScope (top 8)) := ⟨rfl, rfl, rfl, by decide +kernel, by decide +kernel, by decide +kernel, by decide +kernel⟩
theorem ck4 : chkSs gs f4.N (defScope (top 8)) f4.body (defBody (top 8)) = true := by decide +kernel
theorem df4 {K : PySem.W.Frag} {h : Heap} {mg : PySem.Str → Option Value} (X : K.In h) (Gn : h.Ns mainGlobals mg) (c : He.SaysD fa fn K) : DfOk gs K mg 4 f4 := by
  obtain ⟨fdd, F⟩ := c.def_ 4 (d := d4) rfl
  exact ⟨_, fdd, _, _, _, _, _, _, He.glo_ok X Gn (c.fact 25 (f := .glo (PySem.Str.ofString "_law_box")) rfl), F, sc4, ck4, FunD.bindsN F (fun _ _ _ _ _ _ us hl => match us, hl with | [_, _], _ => rfl), fun e he => by cases he⟩
theorem sc5 : FnScope f5.N f5.ps (defScope (top 9)) := ⟨rfl, rfl, rfl, by decide +kernel, by decide +kernel, by decide +kernel, by decide +kernel⟩
theorem ck5 : chkSs gs f5.N (defScope (top 9)) f5.body (defBody (top 9)) = true := by decide +kernel
theorem df5 {K : PySem.W.Frag} {h : Heap} {mg : PySem.Str → Option Value} (X : K.In h) (Gn : h.Ns mainGlobals mg) (c : He.SaysD fa fn K) : DfOk gs K mg 5 f5 := by
  obtain ⟨fdd, F⟩ := c.def_ 5 (d := d5) rfl
  exact ⟨_, fdd, _, _, _, _, _, _, He.glo_ok X Gn (c.fact 26 (f := .glo (PySem.Str.ofString "_law_take")) rfl), F, sc5, ck5, FunD.bindsN F (fun _ _ _ _ _ _ us hl => match us, hl with | [_, _], _ => rfl), fun e he => by cases he⟩
theorem sc6 : FnScope f6.N f6.ps (defScope (top 10)) := ⟨rfl, rfl, rfl, by decide +kernel, by decide +kernel, by decide +kernel, by decide +kernel⟩
theorem ck6 : chkSs gs f6.N (defScope (top 10)) f6.body (defBody (top 10)) = true := by decide +kernel
theorem df6 {K : PySem.W.Frag} {h : Heap} {mg : PySem.Str → Option Value} (X : K.In h) (Gn : h.Ns mainGlobals mg) (c : He.SaysD fa fn K) : DfOk gs K mg 6 f6 := by
  obtain ⟨fdd, F⟩ := c.def_ 6 (d := d6) rfl
  exact ⟨_, fdd, _, _, _, _, _, _, He.glo_ok X Gn (c.fact 27 (f := .glo (PySem.Str.ofString "_law_cells")) rfl), F, sc6, ck6, FunD.bindsN F (fun _ _ _ _ _ _ us hl => match us, hl with | [_, _], _ => rfl), fun e he => by cases he⟩
theorem sc7 : FnScope f7.N f7.ps (defScope (top 11)) := ⟨rfl, rfl, rfl, by decide +kernel, by decide +kernel, by decide +kernel, by decide +kernel⟩
theorem ck7 : chkSs gs f7.N (defScope (top 11)) f7.body (defBody (top 11)) = true := by decide +kernel
theorem df7 {K : PySem.W.Frag} {h : Heap} {mg : PySem.Str → Option Value} (X : K.In h) (Gn : h.Ns mainGlobals mg) (c : He.SaysD fa fn K) : DfOk gs K mg 7 f7 := by
  obtain ⟨fdd, F⟩ := c.def_ 7 (d := d7) rfl
  exact ⟨_, fdd, _, _, _, _, _, _, He.glo_ok X Gn (c.fact 28 (f := .glo (PySem.Str.ofString "_law_of")) rfl), F, sc7, ck7, FunD.bindsN F (fun _ _ _ _ _ _ us hl => match us, hl with | [_, _], _ => rfl), fun e he => by cases he⟩
theorem sc8 : FnScope f8.N f8.ps (defScope (top 12)) := ⟨rfl, rfl, rfl, by decide +kernel, by decide +kernel, by decide +kernel, by decide +kernel⟩
theorem ck8 : chkSs gs f8.N (defScope (top 12)) f8.body (defBody (top 12)) = true := by decide +kernel
theorem df8 {K : PySem.W.Frag} {h : Heap} {mg : PySem.Str → Option Value} (X : K.In h) (Gn : h.Ns mainGlobals mg) (c : He.SaysD fa fn K) : DfOk gs K mg 8 f8 := by
  obtain ⟨fdd, F⟩ := c.def_ 8 (d := d8) rfl
  exact ⟨_, fdd, _, _, _, _, _, _, He.glo_ok X Gn (c.fact 29 (f := .glo (PySem.Str.ofString "_law_same")) rfl), F, sc8, ck8, FunD.bindsN F (fun _ _ _ _ _ _ us hl => match us, hl with | [_, _], _ => rfl), fun e he => by cases he⟩
theorem sc9 : FnScope f9.N f9.ps (defScope (top 13)) := ⟨rfl, rfl, rfl, by decide +kernel, by decide +kernel, by decide +kernel, by decide +kernel⟩
theorem ck9 : chkSs gs f9.N (defScope (top 13)) f9.body (defBody (top 13)) = true := by decide +kernel
theorem df9 {K : PySem.W.Frag} {h : Heap} {mg : PySem.Str → Option Value} (X : K.In h) (Gn : h.Ns mainGlobals mg) (c : He.SaysD fa fn K) : DfOk gs K mg 9 f9 := by
  obtain ⟨fdd, F⟩ := c.def_ 9 (d := d9) rfl
  exact ⟨_, fdd, _, _, _, _, _, _, He.glo_ok X Gn (c.fact 30 (f := .glo (PySem.Str.ofString "_law_rising")) rfl), F, sc9, ck9, FunD.bindsN F (fun _ _ _ _ _ _ us hl => match us, hl with | [_], _ => rfl), fun e he => by cases he⟩
theorem sc10 : FnScope f10.N f10.ps (defScope (top 14)) := ⟨rfl, rfl, rfl, by decide +kernel, by decide +kernel, by decide +kernel, by decide +kernel⟩
theorem ck10 : chkSs gs f10.N (defScope (top 14)) f10.body (defBody (top 14)) = true := by decide +kernel
theorem df10 {K : PySem.W.Frag} {h : Heap} {mg : PySem.Str → Option Value} (X : K.In h) (Gn : h.Ns mainGlobals mg) (c : He.SaysD fa fn K) : DfOk gs K mg 10 f10 := by
  obtain ⟨fdd, F⟩ := c.def_ 10 (d := d10) rfl
  exact ⟨_, fdd, _, _, _, _, _, _, He.glo_ok X Gn (c.fact 31 (f := .glo (PySem.Str.ofString "_law_names")) rfl), F, sc10, ck10, FunD.bindsN F (fun _ _ _ _ _ _ us hl => match us, hl with | [_, _], _ => rfl), fun e he => by cases he⟩
theorem sc11 : FnScope f11.N f11.ps (defScope (top 15)) := ⟨rfl, rfl, rfl, by decide +kernel, by decide +kernel, by decide +kernel, by decide +kernel⟩
theorem ck11 : chkSs gs f11.N (defScope (top 15)) f11.body (defBody (top 15)) = true := by decide +kernel
theorem df11 {K : PySem.W.Frag} {h : Heap} {mg : PySem.Str → Option Value} (X : K.In h) (Gn : h.Ns mainGlobals mg) (c : He.SaysD fa fn K) : DfOk gs K mg 11 f11 := by
  obtain ⟨fdd, F⟩ := c.def_ 11 (d := d11) rfl
  exact ⟨_, fdd, _, _, _, _, _, _, He.glo_ok X Gn (c.fact 32 (f := .glo (PySem.Str.ofString "_law_things")) rfl), F, sc11, ck11, FunD.bindsN F (fun _ _ _ _ _ _ us hl => match us, hl with | [_, _], _ => rfl), fun e he => by cases he⟩
theorem sc12 : FnScope f12.N f12.ps (defScope (top 16)) := ⟨rfl, rfl, rfl, by decide +kernel, by decide +kernel, by decide +kernel, by decide +kernel⟩
theorem ck12 : chkSs gs f12.N (defScope (top 16)) f12.body (defBody (top 16)) = true := by decide +kernel
theorem df12 {K : PySem.W.Frag} {h : Heap} {mg : PySem.Str → Option Value} (X : K.In h) (Gn : h.Ns mainGlobals mg) (c : He.SaysD fa fn K) : DfOk gs K mg 12 f12 := by
  obtain ⟨fdd, F⟩ := c.def_ 12 (d := d12) rfl
  exact ⟨_, fdd, _, _, _, _, _, _, He.glo_ok X Gn (c.fact 33 (f := .glo (PySem.Str.ofString "_law_is_note")) rfl), F, sc12, ck12, FunD.bindsN F (fun _ _ _ _ _ _ us hl => match us, hl with | [_, _], _ => rfl), fun e he => by cases he⟩
theorem sc13 : FnScope f13.N f13.ps (defScope (top 17)) := ⟨rfl, rfl, rfl, by decide +kernel, by decide +kernel, by decide +kernel, by decide +kernel⟩
theorem ck13 : chkSs gs f13.N (defScope (top 17)) f13.body (defBody (top 17)) = true := by decide +kernel
theorem df13 {K : PySem.W.Frag} {h : Heap} {mg : PySem.Str → Option Value} (X : K.In h) (Gn : h.Ns mainGlobals mg) (c : He.SaysD fa fn K) : DfOk gs K mg 13 f13 := by
  obtain ⟨fdd, F⟩ := c.def_ 13 (d := d13) rfl
  exact ⟨_, fdd, _, _, _, _, _, _, He.glo_ok X Gn (c.fact 34 (f := .glo (PySem.Str.ofString "_law_is_said")) rfl), F, sc13, ck13, FunD.bindsN F (fun _ _ _ _ _ _ us hl => match us, hl with | [_], _ => rfl), fun e he => by cases he⟩
theorem sc14 : FnScope f14.N f14.ps (defScope (top 18)) := ⟨rfl, rfl, rfl, by decide +kernel, by decide +kernel, by decide +kernel, by decide +kernel⟩
theorem ck14 : chkSs gs f14.N (defScope (top 18)) f14.body (defBody (top 18)) = true := by decide +kernel
theorem df14 {K : PySem.W.Frag} {h : Heap} {mg : PySem.Str → Option Value} (X : K.In h) (Gn : h.Ns mainGlobals mg) (c : He.SaysD fa fn K) : DfOk gs K mg 14 f14 := by
  obtain ⟨fdd, F⟩ := c.def_ 14 (d := d14) rfl
  exact ⟨_, fdd, _, _, _, _, _, _, He.glo_ok X Gn (c.fact 35 (f := .glo (PySem.Str.ofString "_law_is_so")) rfl), F, sc14, ck14, FunD.bindsN F (fun _ _ _ _ _ _ us hl => match us, hl with | [_, _], _ => rfl), fun e he => by cases he⟩
theorem sc15 : FnScope f15.N f15.ps (defScope (top 19)) := ⟨rfl, rfl, rfl, by decide +kernel, by decide +kernel, by decide +kernel, by decide +kernel⟩
theorem ck15 : chkSs gs f15.N (defScope (top 19)) f15.body (defBody (top 19)) = true := by decide +kernel
theorem df15 {K : PySem.W.Frag} {h : Heap} {mg : PySem.Str → Option Value} (X : K.In h) (Gn : h.Ns mainGlobals mg) (c : He.SaysD fa fn K) : DfOk gs K mg 15 f15 := by
  obtain ⟨fdd, F⟩ := c.def_ 15 (d := d15) rfl
  exact ⟨_, fdd, _, _, _, _, _, _, He.glo_ok X Gn (c.fact 36 (f := .glo (PySem.Str.ofString "_law_bent")) rfl), F, sc15, ck15, FunD.bindsN F (fun _ _ _ _ _ _ us hl => match us, hl with | [_, _, _, _], _ => rfl), fun e he => by cases he⟩
theorem sc16 : FnScope f16.N f16.ps (defScope (top 20)) := ⟨rfl, rfl, rfl, by decide +kernel, by decide +kernel, by decide +kernel, by decide +kernel⟩
theorem ck16 : chkSs gs f16.N (defScope (top 20)) f16.body (defBody (top 20)) = true := by decide +kernel
theorem df16 {K : PySem.W.Frag} {h : Heap} {mg : PySem.Str → Option Value} (X : K.In h) (Gn : h.Ns mainGlobals mg) (c : He.SaysD fa fn K) : DfOk gs K mg 16 f16 := by
  obtain ⟨fdd, F⟩ := c.def_ 16 (d := d16) rfl
  exact ⟨_, fdd, _, _, _, _, _, _, He.glo_ok X Gn (c.fact 37 (f := .glo (PySem.Str.ofString "_law_by_hand_right")) rfl), F, sc16, ck16, FunD.bindsN F (fun _ _ _ _ _ _ us hl => match us, hl with | [], _ => rfl), fun e he => by cases he⟩
theorem sc17 : FnScope f17.N f17.ps (defScope (top 21)) := ⟨rfl, rfl, rfl, by decide +kernel, by decide +kernel, by decide +kernel, by decide +kernel⟩
theorem ck17 : chkSs gs f17.N (defScope (top 21)) f17.body (defBody (top 21)) = true := by decide +kernel
theorem df17 {K : PySem.W.Frag} {h : Heap} {mg : PySem.Str → Option Value} (X : K.In h) (Gn : h.Ns mainGlobals mg) (c : He.SaysD fa fn K) : DfOk gs K mg 17 f17 := by
  obtain ⟨fdd, F⟩ := c.def_ 17 (d := d17) rfl
  exact ⟨_, fdd, _, _, _, _, _, _, He.glo_ok X Gn (c.fact 38 (f := .glo (PySem.Str.ofString "_law_right")) rfl), F, sc17, ck17, FunD.bindsN F (fun _ _ _ _ _ _ us hl => match us, hl with | [_], _ => rfl), fun e he => by cases he⟩
theorem sc18 : FnScope f18.N f18.ps (defScope (top 22)) := ⟨rfl, rfl, rfl, by decide +kernel, by decide +kernel, by decide +kernel, by decide +kernel⟩
theorem ck18 : chkSs gs f18.N (defScope (top 22)) f18.body (defBody (top 22)) = true := by decide +kernel
theorem df18 {K : PySem.W.Frag} {h : Heap} {mg : PySem.Str → Option Value} (X : K.In h) (Gn : h.Ns mainGlobals mg) (c : He.SaysD fa fn K) : DfOk gs K mg 18 f18 := by
  obtain ⟨fdd, F⟩ := c.def_ 18 (d := d18) rfl
  exact ⟨_, fdd, _, _, _, _, _, _, He.glo_ok X Gn (c.fact 39 (f := .glo (PySem.Str.ofString "law")) rfl), F, sc18, ck18, FunD.bindsN F (fun _ _ _ _ _ _ us hl => match us, hl with | [_], _ => rfl), fun e he => by cases he⟩
section
variable {K : PySem.W.Frag} {h : Heap} {mg : PySem.Str → Option Value}
theorem dfs (X : K.In h) (Gn : h.Ns mainGlobals mg) (c : He.SaysD fa fn K) : ∀ f fd, gs.G f = some fd → DfOk gs K mg f fd := by
  intro f fd hf
  have hf : G f = some fd := hf
  unfold G at hf
  split at hf
  · cases hf; exact df0 X Gn c
  · cases hf; exact df1 X Gn c
  · cases hf; exact df2 X Gn c
  · cases hf; exact df3 X Gn c
  · cases hf; exact df4 X Gn c
  · cases hf; exact df5 X Gn c
  · cases hf; exact df6 X Gn c
  · cases hf; exact df7 X Gn c
  · cases hf; exact df8 X Gn c
  · cases hf; exact df9 X Gn c
  · cases hf; exact df10 X Gn c
  · cases hf; exact df11 X Gn c
  · cases hf; exact df12 X Gn c
  · cases hf; exact df13 X Gn c
  · cases hf; exact df14 X Gn c
  · cases hf; exact df15 X Gn c
  · cases hf; exact df16 X Gn c
  · cases hf; exact df17 X Gn c
  · cases hf; exact df18 X Gn c
  · cases hf
theorem frees (X : K.In h) (Gn : h.Ns mainGlobals mg) (c : He.SaysD fa fn K) : ∀ x ∈ bNames, mg x = none := by
  intro x hx
  simp only [bNames, List.mem_cons, List.mem_nil_iff, or_false] at hx
  rcases hx with rfl | rfl | rfl | rfl | rfl | rfl | rfl | rfl | rfl | rfl | rfl | rfl | rfl | rfl | rfl | rfl | rfl | rfl | rfl | rfl | rfl
  · exact He.free_ok X Gn (c.fact 0 (f := .free (PySem.Str.ofString "abs")) rfl)
  · exact He.free_ok X Gn (c.fact 1 (f := .free (PySem.Str.ofString "all")) rfl)
  · exact He.free_ok X Gn (c.fact 2 (f := .free (PySem.Str.ofString "any")) rfl)
  · exact He.free_ok X Gn (c.fact 3 (f := .free (PySem.Str.ofString "int")) rfl)
  · exact He.free_ok X Gn (c.fact 4 (f := .free (PySem.Str.ofString "len")) rfl)
  · exact He.free_ok X Gn (c.fact 5 (f := .free (PySem.Str.ofString "list")) rfl)
  · exact He.free_ok X Gn (c.fact 6 (f := .free (PySem.Str.ofString "tuple")) rfl)
  · exact He.free_ok X Gn (c.fact 7 (f := .free (PySem.Str.ofString "str")) rfl)
  · exact He.free_ok X Gn (c.fact 8 (f := .free (PySem.Str.ofString "sum")) rfl)
  · exact He.free_ok X Gn (c.fact 9 (f := .free (PySem.Str.ofString "max")) rfl)
  · exact He.free_ok X Gn (c.fact 10 (f := .free (PySem.Str.ofString "min")) rfl)
  · exact He.free_ok X Gn (c.fact 11 (f := .free (PySem.Str.ofString "sorted")) rfl)
  · exact He.free_ok X Gn (c.fact 12 (f := .free (PySem.Str.ofString "bool")) rfl)
  · exact He.free_ok X Gn (c.fact 13 (f := .free (PySem.Str.ofString "dict")) rfl)
  · exact He.free_ok X Gn (c.fact 14 (f := .free (PySem.Str.ofString "isinstance")) rfl)
  · exact He.free_ok X Gn (c.fact 15 (f := .free (PySem.Str.ofString "range")) rfl)
  · exact He.free_ok X Gn (c.fact 16 (f := .free (PySem.Str.ofString "enumerate")) rfl)
  · exact He.free_ok X Gn (c.fact 17 (f := .free (PySem.Str.ofString "zip")) rfl)
  · exact He.free_ok X Gn (c.fact 18 (f := .free (PySem.Str.ofString "set")) rfl)
  · exact He.free_ok X Gn (c.fact 19 (f := .free (PySem.Str.ofString "super")) rfl)
  · exact He.free_ok X Gn (c.fact 20 (f := .free (PySem.Str.ofString "ord")) rfl)
theorem globs (X : K.In h) (Gn : h.Ns mainGlobals mg) (c : He.SaysD fa fn K) : ∀ n p, gs.gv n = some p → ∃ u v, mg (gs.gn n) = some u ∧ RelV v u ∧ ∀ F, Rp K F p v := by
  intro n p hp
  have hp : gvl n = some p := hp
  unfold gvl at hp
  split at hp
  · cases hp
    obtain ⟨t, ht⟩ := He.int_ok X Gn (c.fact 40 (f := .int (PySem.Str.ofString "PARTS") 3) rfl)
    exact ⟨_, .int 3, ht, ⟨t, rfl⟩, fun F => by simp only [Rp]⟩
  · cases hp
end
/-- what the law's reading is to come to -/
def Good : Prop := ∀ ns : List Int, ns.length ≤ 63 → ∃ S, callK gs.gv gs.G 100 18 [.val (.scr ns)] [] = .ok (.val (.bl true)) S
theorem law_facts (good : Good) {P : Program} {w : World} {K : PySem.W.Frag} {h : Heap} {mg : PySem.Str → Option Value} {f : Addr} (X : K.In h) (Gn : h.Ns mainGlobals mg) (hfa : mg (PySem.Str.ofString "law") = some (.ref f)) (c : He.SaysD fa fn K) :
    ∃ fd : FuncData, (∀ (s : Shared) (v : Value), BindsTo s fd ⟨[v], []⟩ [(PySem.Str.ofString "_law_script", v)]) ∧ ∀ base : Heap, K.In base → base.Ns mainGlobals mg → FnOk P w K mg base CXa 100 f fd [PySem.Str.ofString "_law_script"] (spF gs ⟨fun _ => 0, fun _ => PySem.Str.ofString ""⟩ K 100 18 f18) := by
  obtain ⟨fdd, F⟩ := c.def_ 18 (d := d18) rfl
  have e := hfa.symm.trans (He.glo_ok X Gn (c.fact 39 (f := .glo (PySem.Str.ofString "law")) rfl))
  cases e
  have b := FunD.bindsA (ps := f18.ps) F fun _ _ _ _ _ _ us hl => match us, hl with | [_], _ => rfl
  exact ⟨fdd, fun s v => b s [v] rfl, fun base _ _ => cxa (def_ok (calls_ok (dfs X Gn c) (frees X Gn c) (globs X Gn c) 99) (frees X Gn c) (globs X Gn c) (f := 18) rfl F sc18 ck18)⟩

end K18

namespace K18
open PySem PySem.Spec PyProof.Rows L2 Pk
abbrev R : PySem.W.OpenRow := PySem.W.OpenLaw.row PySem.Challenge.rw_partskept_k18_machines_or_not
abbrev hk : PySem.W.Hook := He.hookD 5 fa fn
def ob (s : PySem.W.SharedT) : He.AlD := He.obsDG 5 fa fn (HandSHeadRun.getT s)
theorem ob_eq (s : PySem.W.SharedT) : ob s = hk.obs s.abs := He.obsDG_eq (HandSHeadRun.getT_eq s)
theorem run (w : World) : HandSHeadRun.RunEq R (PySem.W.view R.prog [22]) hk ob 3000 loose w := by
  intro os
  kernel_rfl
end K18

open PySem PySem.W PySem.Calls PyProof.Rows
theorem PySem.Challenge.cw_partskept_k18_machines_or_not_holds : PySem.Challenge.rw_partskept_k18_machines_or_not.Holds := by
  w_on; o_law
  refine HandSHeadRun.head_any (r := OpenLaw.row PySem.Challenge.rw_partskept_k18_machines_or_not) (q := view (OpenLaw.row PySem.Challenge.rw_partskept_k18_machines_or_not).prog [22]) (H := K18.hk) (ob := K18.ob) (M := 3000) (loose := K18.loose) (d := HandSHeadRun.topDef (OpenLaw.row PySem.Challenge.rw_partskept_k18_machines_or_not).prog 22) (kwd := []) K18.ob_eq
    (by kernel_rfl) (fun s => by kernel_rfl) K18.run (by kernel_rfl) (by kernel_rfl) (by kernel_rfl) (by rfl) (by first | assumption | decide +kernel) (by decide +kernel) ⟨rfl, rfl, rfl, rfl, rfl, by decide +kernel⟩ ?hw ?hc
  case hw => w_witness2
  case hc =>
    refine L2.walk_ofE (l := PySem.Challenge.rw_partskept_k18_machines_or_not) (n := 63) (k := 100) (x := PySem.Str.ofString "_law_script") (CX := Pk.CXa) rfl (by decide) (by kernel_rfl) ⟨rfl, by decide, by decide⟩ ?F Pk.cxa_no
    intro w mg fa h Y Gn hmg0
    obtain ⟨K, KX, c⟩ := Y
    have hmg : mg (PySem.Str.ofString "law") = some (.ref fa) := by
      have e : (HandSHeadRun.topDef (OpenLaw.row PySem.Challenge.rw_partskept_k18_machines_or_not).prog 22).name = PySem.Str.ofString "law" := by kernel_rfl
      rw [← e]
      exact hmg0
    obtain ⟨fd, hb, hF⟩ := K18.law_facts K18.good_law (P := (PySem.Challenge.rw_partskept_k18_machines_or_not).prog) (w := w) KX Gn hmg c
    exact ⟨K, fd, _, KX, hb, fun H a ns hl hO hS => Pk.sp_law rfl K18.good_law H a ns hl hO hS, hF⟩
