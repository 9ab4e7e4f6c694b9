import PyProof.Rows.All
import Wide.All
import OpenK.AllK
import Wide.FinOn
import HandS.ForMost
import HandS.ForExc
import HandS.Star
import HandS.Deep
import HandS.FStr
import HandS.IsInst
import HandS.TupAny
import HandS.Wide
import HandS.Flow
import HandS.Style
import HandS.Conv
import HandS.Zip
import HandS.Replace
import HandS.Defaults
import HandS.TupMul
import HandS.TupLe
import KE.GoesMore
import KE.GoesEnum
import KE.KStateDown
import Lean
import HandS.Ends
import HandS.Words
import HandS.WordsExc
import HandS.Head0
import HandS.Head1
import HandS.Head2
import HandS.HeadEnd
import HandS.HeadHook1
import HandS.HeadHook2
import PySem.Challenge.RW_partloops_k14_conditions_hold
set_option Elab.async false
set_option linter.all false
set_option maxRecDepth 100000
namespace Pc
open PySem L2

/-- data -/
inductive D where
  | non | bl (b : Bool) | int (i : Int) | str (s : Str)
  | tup (l : List D) | lst (l : List D) | obj (c : Nat) (ns : List Str) (l : List D)
/-- a value: data, a shared cell, a name's own list -/
inductive W where
  | d (x : D) | c (n : Nat) | b (i : Nat)
/-- what a name holds -/
inductive Sl where
  | no | w (x : W) | own (l : List D)
/-- a shared cell -/
inductive Cl where
  | lst (l : List D) | fz (l : List D) | gone
structure Ss where
  g : List Cl
  r : List Sl
inductive Res (α : Type) where
  | ok (a : α) (s : Ss) | exc (x : D) (s : Ss) | stuck
def Res.bind {α β : Type} (x : Res α) (f : α → Ss → Res β) : Res β :=
  match x with
  | .ok a s => f a s
  | .exc e s => .exc e s
  | .stuck => .stuck

inductive O2 where
  | add | sub | mul | fdiv | mod | pow
  deriving DecidableEq
inductive C2 where
  | eq | ne | lt | le | gt | ge | isn | nisn | inn | nin
  deriving DecidableEq
/-- built-in functions of one value (or two) -/
inductive Bi where
  | len | int | str | bool | abs | all | any | sum | repr | tuple | max2 | min2
  deriving DecidableEq
/-- methods of texts -/
inductive Sm where
  | join | index
  deriving DecidableEq
inductive Tg where
  | nm (i : Nat) | tp (l : List Nat)
mutual
inductive Ex where
  | v (i : Nat) | b (i : Nat) | k (x : D) | gk (n : Str) (x : D)
  | op (o : O2) (a b : Ex) | neg (a : Ex) | cmp (o : C2) (a b : Ex) | cmp2 (o p : C2) (a b c : Ex)
  | bop (an : Bool) (es : Exs) | not (a : Ex) | ite (t : Te) (a b : Ex)
  | tup (es : Exs) | fz (f : Fx) | mk (f : Fx)
  | sub (a i : Ex) | sli (a : Ex) (lo hi : Exo)
  | call (f p : Nat) (es kes : Exs)
  | bi (b : Bi) (es : Exs) | isi (a : Ex) (t : String) | sm (m : Sm) (o a : Ex)
  | fs (ps : Exs)
  | app (c e : Ex) | popl (c : Ex) | popa (c i : Ex)
inductive Exo where
  | no | so (e : Ex)
inductive Exs where
  | nil | cons (e : Ex) (r : Exs) | star (e : Ex) (r : Exs)
inductive Te where
  | e (x : Ex) | not (t : Te) | bop (an : Bool) (ts : Tes) | cmp (o : C2) (a b : Ex) | cmp2 (o p : C2) (a b c : Ex)
inductive Tes where
  | nil | cons (t : Te) (r : Tes)
inductive Fx where
  | disp (es : Exs) | cat (a b : Ex) | rep (a n : Ex) | cpy (a : Ex) | sli (a : Ex) (lo hi : Exo) | rev (a : Ex)
  | lc (t : Tg) (i : It) (ifs : Tes) (e : Ex) (vs : List Nat)
  | lc2 (t : Tg) (i : It) (ifs : Tes) (t1 : Tg) (i1 : It) (ifs1 : Tes) (e : Ex) (vs vs1 : List Nat)
inductive It where
  | sq (e : Ex) | rg1 (a : Ex) | rg2 (a b : Ex) | en (e : Ex) | zp (a b : Ex)
end
inductive Rh where
  | ex (e : Ex) | ow (f : Fx)
mutual
inductive Sx where
  | set (i : Nat) (e : Ex) | own (i : Nat) (f : Fx) | par (l : List (Nat × Rh)) | unp (t : Tg) (e : Ex)
  | sset (c i e : Ex) | aug (i : Nat) (o : O2) (e : Ex) | ex (e : Ex) | ret (e : Ex) | retn
  | ife (t : Te) (a b : Sxs) | for_ (t : Tg) (i : It) (b : Sxs) | whl (n : Nat) (t : Te) (b : Sxs)
  | brk | cnt | pas
inductive Sxs where
  | nil | cons (s : Sx) (r : Sxs)
end

def W.isB : W → Bool
  | .b _ => true
  | _ => false
/-- the data of a value -/
def look (s : Ss) : W → Option D
  | .d x => some x
  | .c n => match s.g[n]? with
    | some (.lst l) => some (.lst l)
    | some (.fz l) => some (.lst l)
    | _ => none
  | .b i => match s.r[i]? with
    | some (.own l) => some (.lst l)
    | some (.w (.d x)) => some x
    | _ => none
/-- a list that is not the script -/
def lookL (s : Ss) : W → Option (List D)
  | .d (.lst l) => some l
  | .d _ => none
  | .c n => match s.g[n]? with
    | some (.lst l) => some l
    | _ => none
  | .b i => match s.r[i]? with
    | some (.own l) => some l
    | some (.w (.d (.lst l))) => some l
    | _ => none
mutual
def D.py : D → Option PyData
  | .non => some .none
  | .bl b => some (.bool b)
  | .int i => some (.int i)
  | .str s => some (.str s)
  | .tup l => (D.pys l).map .tuple
  | .lst l => (D.pys l).map .list
  | .obj _ _ _ => none
def D.pys : List D → Option (List PyData)
  | [] => some []
  | x :: l => match D.py x, D.pys l with
    | some a, some b => some (a :: b)
    | _, _ => none
end
def D.fl : D → Bool
  | .non | .bl _ | .int _ | .str _ => true
  | _ => false
def intsOf : List D → Option (List Int)
  | [] => some []
  | .int i :: l => (intsOf l).map (i :: ·)
  | _ => none
def blsOf : List D → Option (List Bool)
  | [] => some []
  | .bl i :: l => (blsOf l).map (i :: ·)
  | _ => none
def strsOf : List D → Option (List Str)
  | [] => some []
  | .str i :: l => (strsOf l).map (i :: ·)
  | _ => none
def optB {α : Type} (b : Bool) (x : α) : Option α := if b then some x else none
/-- a product the machine bears -/
def mulOk (i j : Int) : Bool := (decide (-(2 ^ 64) < i) && decide (i < 2 ^ 64)) || (decide (-(2 ^ 64) < j) && decide (j < 2 ^ 64))
def opD : O2 → D → D → Option D
  | .add, .int i, .int j => some (.int (i + j))
  | .add, .str a, .str b => optB (decide (a.length + b.length ≤ sizeLine)) (.str (a ++ b))
  | .add, .tup a, .tup b => optB (decide (a.length + b.length ≤ sizeLine)) (.tup (a ++ b))
  | .sub, .int i, .int j => some (.int (i - j))
  | .mul, .int i, .int j => optB (mulOk i j) (.int (i * j))
  | .mul, .tup l, .int k => optB (!l.isEmpty && decide (2 ≤ k) && decide (k ≤ 1000) && decide (l.length ≤ 1000)) (.tup (List.replicate k.toNat l).flatten)
  | .fdiv, .int i, .int j => optB (decide (j ≠ 0) && decide (j.natAbs < 1073741824)) (.int (i.fdiv j))
  | .mod, .int i, .int j => optB (decide (j ≠ 0)) (.int (i.fmod j))
  | .pow, .int i, .int j => optB (decide (0 ≤ j) && decide (j ≤ 1000000) && decide (i.natAbs < 2 ^ 64)) (.int (i ^ j.toNat))
  | _, _, _ => none
def eqG (x y : D) : Option Bool :=
  match x.py, y.py with
  | some a, some b => optB (SeqAt.shaped a && SeqAt.shaped b) (PyData.eqv a b)
  | _, _ => none
def eqD : D → D → Option Bool
  | .str a, .str b => some (decide (a = b))
  | x, y => eqG x y
def eqF : D → D → Bool
  | .non, .non => true
  | .bl a, .bl b => a == b
  | .bl a, .int j => (if a then 1 else 0) == j
  | .int i, .bl b => i == (if b then 1 else 0)
  | .int i, .int j => i == j
  | .str a, .str b => a == b
  | _, _ => false
def inD (x : D) : D → Option Bool
  | .lst l | .tup l => optB (x.fl && l.all D.fl) (l.any fun y => eqF y x)
  | .str b => match x with
    | .str a => some (!(Builtin.Str.occurrences b a 0 b.length 1).isEmpty)
    | _ => none
  | _ => none
def cmpD : C2 → D → D → Option Bool
  | .eq, x, y => eqD x y
  | .ne, x, y => (eqD x y).map (!·)
  | .lt, .int i, .int j => some (decide (i < j))
  | .le, .int i, .int j => some (decide (i ≤ j))
  | .gt, .int i, .int j => some (decide (j < i))
  | .ge, .int i, .int j => some (decide (j ≤ i))
  | .isn, .bl a, .bl b => some (decide (a = b))
  | .nisn, .bl a, .bl b => some (!decide (a = b))
  | .isn, x, .non => match x with
    | .non => some true
    | _ => some false
  | .nisn, x, .non => match x with
    | .non => some false
    | _ => some true
  | .inn, x, y => inD x y
  | .nin, x, y => (inD x y).map (!·)
  | _, _, _ => none
/-- the truth of data -/
def truD : D → Option Bool
  | .non => some false
  | .bl b => some b
  | .int i => some (i != 0)
  | .str s => optB (decide (s.length ≤ sizeLine)) (s.length != 0)
  | .tup l | .lst l => some (!l.isEmpty)
  | .obj _ _ _ => none
def ixD (n : Nat) (i : Int) : Option Nat := if 0 ≤ i then (if i < n then some i.toNat else none) else if -(n : Int) ≤ i then some (i + n).toNat else none
def subD : D → D → Option D
  | .lst l, .int i | .tup l, .int i => (ixD l.length i).bind fun j => l[j]?
  | .str z, .int i => if z.length ≤ sizeLine then ((ixD z.cps.toList.length i).bind fun j => z.cps.toList[j]?).map fun c => .str ⟨#[c]⟩ else none
  | _, _ => none
/-- a slice's ends -/
def partI : D → Option (Option Int)
  | .non => some none
  | .int i => some (some i)
  | _ => none
def cutD {α : Type} (xs : List α) (lo hi : Option Int) : List α := (xs.drop (HT.sIx xs.length 0 lo)).take (HT.sIx xs.length xs.length hi - HT.sIx xs.length 0 lo)
def sliD (x : D) (lo hi : Option Int) : Option D :=
  match x with
  | .tup l => some (.tup (cutD l lo hi))
  | .str z => optB (decide (z.length ≤ sizeLine)) (.str (cutS z lo hi))
  | _ => none
def tyD : D → String
  | .non => "NoneType"
  | .bl _ => "bool"
  | .int _ => "int"
  | .str _ => "str"
  | .tup _ => "tuple"
  | .lst _ => "list"
  | .obj _ _ _ => "object"
def isiD (x : D) (t : String) : Option Bool :=
  match x with
  | .obj _ _ _ => none
  | .bl _ => some (t == "bool" || t == "int")
  | x => some (tyD x == t)
def biD : Bi → List D → Option D
  | .len, [.lst l] | .len, [.tup l] => some (.int l.length)
  | .len, [.str z] => optB (decide (z.length ≤ sizeLine)) (.int z.length)
  | .int, [.int i] => some (.int i)
  | .int, [.bl b] => some (.int (if b then 1 else 0))
  | .str, [.int i] => optB (decide (i.natAbs.log2 < 1920)) (.str (toString i))
  | .bool, [.int i] => some (.bl (i != 0))
  | .bool, [.bl b] => some (.bl b)
  | .abs, [.int i] => some (.int (if i < 0 then -i else i))
  | .all, [.lst l] => (blsOf l).map fun bs => .bl (bs.all id)
  | .any, [.lst l] => (blsOf l).map fun bs => .bl (bs.any id)
  | .sum, [.lst l] => (intsOf l).map fun ns => .int ns.sum
  | .repr, [x] => x.py.bind fun d => optB (d.showable && decide (d.shown.length ≤ sizeLine) && decide (d.depth ≤ 64)) (.str d.shown)
  | .tuple, [.lst l] | .tuple, [.tup l] => some (.tup l)
  | .max2, [.int i, .int j] => some (.int (if j > i then j else i))
  | .min2, [.int i, .int j] => some (.int (if j < i then j else i))
  | _, _ => none
def smD : Sm → Str → D → Option D
  | .join, a, .lst l | .join, a, .tup l => (strsOf l).bind fun ys => optB (decide ((ys.map (·.length)).sum + ys.length * a.length ≤ 16777216)) (.str (Txt.join a ys))
  | .index, a, .str b => match Builtin.Str.occurrences a b 0 a.length 1 with
    | i :: _ => some (.int (i : Nat))
    | [] => none
  | _, _, _ => none
/-- the text of an f-string's part -/
def fmtD : D → Option Str
  | .str z => optB (decide (z.length ≤ sizeLine)) z
  | .int i => optB (decide (i.natAbs.log2 < 1920)) (toString i)
  | _ => none
/-- the items of what is walked -/
def itemsD : D → Option (List D)
  | .lst l | .tup l => some l
  | .str z => some (z.cps.toList.map fun c => .str ⟨#[c]⟩)
  | _ => none
def rgD (lo hi : Int) : Option (List D) :=
  optB (decide (-(2 ^ 62) ≤ lo) && decide (lo < 2 ^ 62) && decide (-(2 ^ 62) ≤ hi) && decide (hi < 2 ^ 62)) ((List.range (hi - lo).toNat).map fun i => .int (lo + (i : Nat)))
def enD (l : List D) : List D := l.zipIdx.map fun p => .tup [.int p.2, p.1]
def zpD : List D → List D → List D
  | x :: l, y :: m => .tup [x, y] :: zpD l m
  | _, _ => []
def dOf : W → Option D
  | .d x => some x
  | _ => none
def dsOf : List W → Option (List D)
  | [] => some []
  | .d x :: l => (dsOf l).map (x :: ·)
  | _ => none
def looks (s : Ss) : List W → Option (List D)
  | [] => some []
  | w :: l => match look s w, looks s l with
    | some a, some b => some (a :: b)
    | _, _ => none
def Res.of {α : Type} (o : Option α) (s : Ss) : Res α :=
  match o with
  | some a => .ok a s
  | none => .stuck
def bindG (r : List Sl) : Tg → D → Option (List Sl)
  | .nm i, x => some (r.set i (.w (.d x)))
  | .tp l, .tup xs => if l.length = xs.length then some ((l.zip xs).foldl (fun r p => r.set p.1 (.w (.d p.2))) r) else none
  | _, _ => none
/-- the slots of a comprehension's names emptied; none of them an owned list; put back -/
def nR (r : List Sl) : List Nat → List Sl
  | [] => r
  | v :: vs => (nR r vs).set v .no
def noOwn (r : List Sl) (vs : List Nat) : Bool := vs.all fun i => match r[i]? with | some (.own _) => false | _ => true
def backR (r0 r : List Sl) : List Nat → List Sl
  | [] => r
  | v :: vs => match r0[v]? with
    | some x => (backR r0 r vs).set v x
    | none => backR r0 r vs
/-- a list changed -/
def putL (s : Ss) (w : W) (l : List D) : Option Ss :=
  match w with
  | .c n => match s.g[n]? with
    | some (.lst _) => some { s with g := s.g.set n (.lst l) }
    | _ => none
  | .b i => match s.r[i]? with
    | some (.own _) => some { s with r := s.r.set i (.own l) }
    | _ => none
  | _ => none
def getL (s : Ss) (w : W) : Option (List D) :=
  match w with
  | .c n => match s.g[n]? with
    | some (.lst l) => some l
    | _ => none
  | .b i => match s.r[i]? with
    | some (.own l) => some l
    | _ => none
  | _ => none

inductive Cr where
  | ok (w : W) (g : List Cl) | exc (x : D) (g : List Cl) | stuck
abbrev Or := Nat → Nat → List W → List W → List Cl → Cr
def comp (f : D → List D → Ss → Res (List D)) : List D → List D → Ss → Res (List D)
  | [], acc, s => .ok acc s
  | x :: l, acc, s => match f x acc s with
    | .ok acc' s' => comp f l acc' s'
    | _ => .stuck
def addD (acc : List D) (y : W) (s : Ss) : Res (List D) :=
  match y with
  | .d d => if acc.length < sizeLine then .ok (acc ++ [d]) s else .stuck
  | _ => .stuck
def turnC (t : Tg) (vs : List Nat) (ft : Ss → Res Bool) (fe : List D → Ss → Res (List D)) (x : D) (acc : List D) (s : Ss) : Res (List D) :=
  match bindG (nR s.r vs) t x with
  | none => .stuck
  | some r3 => (ft { s with r := r3 }).bind fun c s4 => if c then fe acc s4 else .ok acc s4
mutual
def ev (o : Or) : Ex → Ss → Res W
  | .v i, s => match s.r[i]? with
    | some (.w x) => .ok x s
    | some (.own l) => .ok (.d (.lst l)) { s with r := s.r.set i (.w (.d (.lst l))) }
    | _ => .stuck
  | .b i, s => match s.r[i]? with
    | some (.w x) => .ok x s
    | some (.own _) => .ok (.b i) s
    | _ => .stuck
  | .k x, s => .ok (.d x) s
  | .gk _ x, s => .ok (.d x) s
  | .op f a b, s => (ev o a s).bind fun x s1 => (ev o b s1).bind fun y s2 => match look s2 x, look s2 y with
    | some p, some q => Res.of ((opD f p q).map W.d) s2
    | _, _ => .stuck
  | .neg a, s => (ev o a s).bind fun x s1 => match x with
    | .d (.int i) => .ok (.d (.int (-i))) s1
    | _ => .stuck
  | .cmp f a b, s => (ev o a s).bind fun x s1 => (ev o b s1).bind fun y s2 => match look s2 x, look s2 y with
    | some p, some q => Res.of ((cmpD f p q).map fun b => W.d (.bl b)) s2
    | _, _ => .stuck
  | .cmp2 f g a b c, s => (ev o a s).bind fun x s1 => (ev o b s1).bind fun y s2 => match look s2 x, look s2 y with
    | some p, some q => match cmpD f p q with
      | some true => (ev o c s2).bind fun z s3 => match look s3 y, look s3 z with
        | some q', some u => Res.of ((cmpD g q' u).map fun b => W.d (.bl b)) s3
        | _, _ => .stuck
      | some false => .ok (.d (.bl false)) s2
      | none => .stuck
    | _, _ => .stuck
  | .bop an es, s => evB o an es s
  | .not a, s => (ev o a s).bind fun x s1 => match x with
    | .d (.bl b) => .ok (.d (.bl (!b))) s1
    | _ => .stuck
  | .ite t a b, s => (evT o t s).bind fun c s1 => if c then ev o a s1 else ev o b s1
  | .tup es, s => (evs o es s).bind fun ws s1 => match dsOf ws with
    | some ds => if ds.length ≤ sizeLine then .ok (.d (.tup ds)) s1 else .stuck
    | none => .stuck
  | .fz f, s => (evF o f s).bind fun l s1 => .ok (.d (.lst l)) s1
  | .mk f, s => (evF o f s).bind fun l s1 => .ok (.c s1.g.length) { s1 with g := s1.g ++ [.lst l] }
  | .sub a i, s => (ev o a s).bind fun x s1 => (ev o i s1).bind fun y s2 => match look s2 x, dOf y with
    | some p, some q => Res.of ((subD p q).map W.d) s2
    | _, _ => .stuck
  | .sli a lo hi, s => (ev o a s).bind fun x s1 => (evo o lo s1).bind fun l s2 => (evo o hi s2).bind fun h s3 => match look s3 x with
    | some p => Res.of ((sliD p l h).map W.d) s3
    | none => .stuck
  | .call f p es kes, s => (evs o es s).bind fun ws s1 => (evs o kes s1).bind fun zs s2 => match o f p ws zs s2.g with
    | .ok w g => if w.isB then .stuck else .ok w { s2 with g := g }
    | .exc e g => .exc e { s2 with g := g }
    | .stuck => .stuck
  | .bi b es, s => (evs o es s).bind fun ws s1 => match looks s1 ws with
    | some ds => Res.of ((biD b ds).map W.d) s1
    | none => .stuck
  | .isi a t, s => (ev o a s).bind fun x s1 => match look s1 x with
    | some p => Res.of ((isiD p t).map fun b => W.d (.bl b)) s1
    | none => .stuck
  | .sm m x a, s => (ev o x s).bind fun x s1 => match x with
    | .d (.str z) => (ev o a s1).bind fun y s2 => match look s2 y with
      | some q => Res.of ((smD m z q).map W.d) s2
      | none => .stuck
    | _ => .stuck
  | .fs ps, s => (evJ o ps Str.empty s).bind fun z s1 => .ok (.d (.str z)) s1
  | .app c e, s => (ev o c s).bind fun x s1 => match getL s1 x with
    | none => .stuck
    | some _ => (ev o e s1).bind fun y s2 => match getL s2 x, dOf y with
      | some l, some d => if l.length < sizeLine then (match putL s2 x (l ++ [d]) with | some s3 => .ok (.d .non) s3 | none => .stuck) else .stuck
      | _, _ => .stuck
  | .popl c, s => (ev o c s).bind fun x s1 => match getL s1 x with
    | some l => match l.getLast? with
      | some d => (match putL s1 x l.dropLast with | some s3 => .ok (.d d) s3 | none => .stuck)
      | none => .stuck
    | none => .stuck
  | .popa c i, s => (ev o c s).bind fun x s1 => match getL s1 x with
    | none => .stuck
    | some _ => (ev o i s1).bind fun y s2 => match getL s2 x, dOf y with
      | some l, some (.int i) => if 0 ≤ i ∧ i < l.length ∧ i < 2 ^ 63 then (match l[i.toNat]? with
        | some d => (match putL s2 x (l.eraseIdx i.toNat) with | some s3 => .ok (.d d) s3 | none => .stuck)
        | none => .stuck) else .stuck
      | _, _ => .stuck
def evo (o : Or) : Exo → Ss → Res (Option Int)
  | .no, s => .ok none s
  | .so e, s => (ev o e s).bind fun x s1 => match x with
    | .d (.int i) => .ok (some i) s1
    | _ => .stuck
def evs (o : Or) : Exs → Ss → Res (List W)
  | .nil, s => .ok [] s
  | .cons e r, s => (ev o e s).bind fun x s1 => (evs o r s1).bind fun xs s2 => .ok (x :: xs) s2
  | .star e r, s => (ev o e s).bind fun x s1 => match x with
    | .d (.lst l) | .d (.tup l) => (evs o r s1).bind fun xs s2 => .ok (l.map W.d ++ xs) s2
    | _ => .stuck
def evB (o : Or) (an : Bool) : Exs → Ss → Res W
  | .cons e .nil, s => ev o e s
  | .cons e (.cons e' r), s => (ev o e s).bind fun x s1 => match x with
    | .d (.bl c) => if c == an then evB o an (.cons e' r) s1 else .ok (.d (.bl c)) s1
    | _ => .stuck
  | _, _ => .stuck
def evJ (o : Or) : Exs → Str → Ss → Res Str
  | .nil, z, s => .ok z s
  | .cons e r, z, s => (ev o e s).bind fun x s1 => match look s1 x with
    | some d => match fmtD d with
      | some t => if (z ++ t).length ≤ sizeLine then evJ o r (z ++ t) s1 else .stuck
      | none => .stuck
    | none => .stuck
  | .star _ _, _, _ => .stuck
def evT (o : Or) : Te → Ss → Res Bool
  | .e x, s => (ev o x s).bind fun w s1 => match look s1 w with
    | some d => Res.of (truD d) s1
    | none => .stuck
  | .not t, s => (evT o t s).bind fun c s1 => .ok (!c) s1
  | .bop an ts, s => evTs o an ts s
  | .cmp f a b, s => (ev o a s).bind fun x s1 => (ev o b s1).bind fun y s2 => match look s2 x, look s2 y with
    | some p, some q => Res.of (cmpD f p q) s2
    | _, _ => .stuck
  | .cmp2 f g a b c, s => (ev o a s).bind fun x s1 => (ev o b s1).bind fun y s2 => match look s2 x, look s2 y with
    | some p, some q => match cmpD f p q with
      | some true => (ev o c s2).bind fun z s3 => match look s3 y, look s3 z with
        | some q', some u => Res.of (cmpD g q' u) s3
        | _, _ => .stuck
      | some false => .ok false s2
      | none => .stuck
    | _, _ => .stuck
def evTs (o : Or) (an : Bool) : Tes → Ss → Res Bool
  | .nil, s => .ok an s
  | .cons t r, s => (evT o t s).bind fun c s1 => if c == an then evTs o an r s1 else .ok c s1
def evF (o : Or) : Fx → Ss → Res (List D)
  | .disp es, s => (evs o es s).bind fun ws s1 => match dsOf ws with
    | some ds => if ds.length ≤ sizeLine then .ok ds s1 else .stuck
    | none => .stuck
  | .cat a b, s => (ev o a s).bind fun x s1 => (ev o b s1).bind fun y s2 => match lookL s2 x, lookL s2 y with
    | some l, some m => if l.length + m.length ≤ sizeLine then .ok (l ++ m) s2 else .stuck
    | _, _ => .stuck
  | .rep a n, s => (ev o a s).bind fun x s1 => (ev o n s1).bind fun y s2 => match lookL s2 x, dOf y with
    | some l, some (.int k) => if -(2 ^ 63) ≤ k ∧ k < 2 ^ 63 ∧ l.length * k.toNat ≤ sizeLine then .ok (List.replicate k.toNat l).flatten s2 else .stuck
    | _, _ => .stuck
  | .cpy a, s => (ev o a s).bind fun x s1 => match look s1 x with
    | some (.lst l) | some (.tup l) => .ok l s1
    | _ => .stuck
  | .sli a lo hi, s => (ev o a s).bind fun x s1 => (evo o lo s1).bind fun l s2 => (evo o hi s2).bind fun h s3 => match look s3 x with
    | some (.lst m) => .ok (cutD m l h) s3
    | _ => .stuck
  | .rev a, s => (ev o a s).bind fun x s1 => match look s1 x with
    | some (.lst l) => .ok l.reverse s1
    | _ => .stuck
  | .lc t i ifs e vs, s => (evI o i s).bind fun l s1 => if noOwn s1.r vs then (comp (turnC t vs (evTs o true ifs) (fun acc s4 => (ev o e s4).bind fun y s5 => addD acc y s5)) l [] s1).bind fun acc s2 => .ok acc { s2 with r := backR s1.r s2.r vs } else .stuck
  | .lc2 t i ifs t1 i1 ifs1 e vs vs1, s => (evI o i s).bind fun l s1 => if noOwn s1.r vs then (comp (turnC t vs (evTs o true ifs) (fun acc s4 => (evI o i1 s4).bind fun l1 s5 =>
      comp (turnC t1 vs1 (evTs o true ifs1) (fun acc s4 => (ev o e s4).bind fun y s5 => addD acc y s5)) l1 acc s5)) l [] s1).bind fun acc s2 => .ok acc { s2 with r := backR s1.r s2.r vs } else .stuck
def evI (o : Or) : It → Ss → Res (List D)
  | .sq e, s => (ev o e s).bind fun x s1 => match x with
    | .d d => Res.of (itemsD d) s1
    | _ => .stuck
  | .rg1 a, s => (ev o a s).bind fun x s1 => match x with
    | .d (.int j) => Res.of (rgD 0 j) s1
    | _ => .stuck
  | .rg2 a b, s => (ev o a s).bind fun x s1 => (ev o b s1).bind fun y s2 => match x, y with
    | .d (.int i), .d (.int j) => Res.of (rgD i j) s2
    | _, _ => .stuck
  | .en e, s => (ev o e s).bind fun x s1 => match x with
    | .d (.lst l) => .ok (enD l) s1
    | .d (.tup l) => .ok (enD l) s1
    | _ => .stuck
  | .zp a b, s => (ev o a s).bind fun x s1 => (ev o b s1).bind fun y s2 => match x, y with
    | .d (.lst l), .d (.lst m) => .ok (zpD l m) s2
    | _, _ => .stuck
end

inductive Fl where
  | nx | rt (w : W) | bk | ct
def forL (f : D → Ss → Res Fl) : List D → Ss → Res Fl
  | [], s => .ok .nx s
  | x :: l, s => (f x s).bind fun c s' => match c with
    | .nx | .ct => forL f l s'
    | .bk => .ok .nx s'
    | .rt w => .ok (.rt w) s'
def whlL (t : Ss → Res Bool) (f : Ss → Res Fl) : Nat → Ss → Res Fl
  | 0, _ => .stuck
  | n + 1, s => (t s).bind fun c s1 => if c then (f s1).bind (fun c s2 => match c with
    | .nx | .ct => whlL t f n s2
    | .bk => .ok .nx s2
    | .rt w => .ok (.rt w) s2) else .ok .nx s1
def evR (o : Or) : List (Nat × Rh) → Ss → Res (List (Nat × Sl))
  | [], s => .ok [] s
  | (i, .ex e) :: l, s => (ev o e s).bind fun w s1 => if w.isB then .stuck else (evR o l s1).bind fun xs s2 => .ok ((i, .w w) :: xs) s2
  | (i, .ow f) :: l, s => (evF o f s).bind fun d s1 => (evR o l s1).bind fun xs s2 => .ok ((i, .own d) :: xs) s2
def setsR (r : List Sl) (l : List (Nat × Sl)) : List Sl := l.foldl (fun r p => r.set p.1 p.2) r
mutual
def ex1 (o : Or) : Sx → Ss → Res Fl
  | .set i e, s => (ev o e s).bind fun w s1 => if w.isB then .stuck else .ok .nx { s1 with r := s1.r.set i (.w w) }
  | .own i f, s => (evF o f s).bind fun l s1 => .ok .nx { s1 with r := s1.r.set i (.own l) }
  | .par l, s => (evR o l s).bind fun xs s1 => .ok .nx { s1 with r := setsR s1.r xs }
  | .unp t e, s => (ev o e s).bind fun w s1 => match w with
    | .d x => (match bindG s1.r t x with | some r => .ok .nx { s1 with r := r } | none => .stuck)
    | _ => .stuck
  | .sset c i e, s => (ev o e s).bind fun v s1 => (ev o c s1).bind fun w s2 => (ev o i s2).bind fun k s3 => match dOf v, getL s3 w, dOf k with
    | some d, some l, some (.int n) => (match ixD l.length n with
      | some j => (match putL s3 w (l.set j d) with | some s4 => .ok .nx s4 | none => .stuck)
      | none => .stuck)
    | _, _, _ => .stuck
  | .aug i f e, s => match s.r[i]? with
    | some (.w (.d (.int x))) => (ev o e s).bind fun w s1 => match dOf w with
      | some y => (match opD f (.int x) y with | some z => .ok .nx { s1 with r := s1.r.set i (.w (.d z)) } | none => .stuck)
      | none => .stuck
    | _ => .stuck
  | .ex e, s => (ev o e s).bind fun _ s1 => .ok .nx s1
  | .ret e, s => (ev o e s).bind fun w s1 => if w.isB then .stuck else .ok (.rt w) s1
  | .retn, s => .ok (.rt (.d .non)) s
  | .ife t a b, s => (evT o t s).bind fun c s1 => if c then exs o a s1 else exs o b s1
  | .for_ t i b, s => (evI o i s).bind fun l s1 => forL (fun x s => match bindG s.r t x with
    | some r => exs o b { s with r := r }
    | none => .stuck) l s1
  | .whl n t b, s => whlL (evT o t) (exs o b) n s
  | .brk, s => .ok .bk s
  | .cnt, s => .ok .ct s
  | .pas, s => .ok .nx s
def exs (o : Or) : Sxs → Ss → Res Fl
  | .nil, s => .ok .nx s
  | .cons a r, s => (ex1 o a s).bind fun c s1 => match c with
    | .nx => exs o r s1
    | c => .ok c s1
end

/-- where a parameter's value comes from: a positional value, a keyword's, a default -/
inductive Ar where
  | p (i : Nat) | k (i : Nat) | df (x : D)
structure Pat where
  n : Nat
  ks : List Str
  sel : List Ar
structure Fn where
  name : Str
  /-- the parameters, then the other names -/
  np : Nat
  nm : List Str
  pats : List Pat
  body : Sxs
def selW (ws zs : List W) : Ar → W
  | .p i => ws.getD i (.d .non)
  | .k i => zs.getD i (.d .non)
  | .df x => .d x
def noB : List W → Bool
  | [] => true
  | w :: l => !w.isB && noB l
def argsOf (fd : Fn) (p : Nat) (ws zs : List W) : Option (List W) :=
  match fd.pats[p]? with
  | some q => if ws.length = q.n ∧ zs.length = q.ks.length ∧ q.sel.length = fd.np ∧ noB ws ∧ noB zs then some (q.sel.map (selW ws zs)) else none
  | none => none
def startR (fd : Fn) (ws : List W) : List Sl := ws.map Sl.w ++ List.replicate (fd.nm.length - ws.length) Sl.no
def runB (o : Or) (fd : Fn) (ws : List W) (g : List Cl) : Cr :=
  match exs o fd.body ⟨g, startR fd ws⟩ with
  | .ok (.rt w) s => .ok w s.g
  | .ok .nx s => .ok (.d .non) s.g
  | .exc e s => .exc e s.g
  | _ => .stuck
def run (tab : List Fn) : Nat → Or
  | 0 => fun _ _ _ _ _ => .stuck
  | n + 1 => fun f p ws zs g => match tab[f]? with
    | some fd => (match argsOf fd p ws zs with
      | some as => runB (run tab n) fd as g
      | none => .stuck)
    | none => .stuck

example (o : Or) (x : D) (s : Ss) : ev o (.k x) s = .ok (.d x) s := rfl
example : run [⟨"f", 1, ["x", "y"], [⟨1, [], [.p 0]⟩], .cons (.set 1 (.op .add (.v 0) (.k (.int 3)))) (.cons (.ret (.v 1)) .nil)⟩] 1 0 0 [.d (.int 4)] [] [] = .ok (.d (.int 7)) [] := by kernel_rfl
end Pc

set_option Elab.async false
set_option linter.all false
set_option maxRecDepth 100000
set_option maxHeartbeats 4000000
namespace Pc
open PySem L2
/-- the written part, and where the own classes stand -/
structure Kx where
  K : PySem.W.Frag
  cl : Nat → Option Addr
mutual
def Rep (k : Kx) (T : Hp) : D → V → Prop
  | .non, v => v = .non
  | .bl b, v => v = .bl b
  | .int i, v => v = .int i
  | .str s, v => v = .str s
  | .tup l, v => ∃ a vs, v = .ref a ∧ SqT k.K T a vs ∧ Reps k T l vs
  | .lst l, v => ∃ a vs, v = .ref a ∧ T a = some (.lst vs) ∧ Reps k T l vs
  | .obj c ns l, v => ∃ a C dx vs, v = .ref a ∧ k.cl c = some C ∧ T a = some (.ins C dx (ns.zip vs)) ∧ ns.length = l.length ∧ Reps k T l vs
def Reps (k : Kx) (T : Hp) : List D → List V → Prop
  | [], vs => vs = []
  | d :: l, vs => ∃ v r, vs = v :: r ∧ Rep k T d v ∧ Reps k T l r
end
section
variable {k : Kx} {T T' : Hp}
theorem sqT_same {K : PySem.W.Frag} {a : Addr} {xs : List V} (e : Same T T') (h : SqT K T a xs) : SqT K T' a xs := by
  rcases h with (h | ⟨o, h⟩) | h
  · exact .inl (.inl (e _ _ h))
  · exact .inl (.inr ⟨o, e _ _ h⟩)
  · exact .inr h
theorem sqL_same {K : PySem.W.Frag} {a : Addr} {xs : List V} (e : Same T T') (h : SqL K T a xs) : SqL K T' a xs := e.seq h
mutual
theorem Rep.mono (e : Same T T') : ∀ {d : D} {v : V}, Rep k T d v → Rep k T' d v
  | .non, _, h => h
  | .bl _, _, h => h
  | .int _, _, h => h
  | .str _, _, h => h
  | .tup l, _, h => by
    obtain ⟨a, vs, e1, h1, h2⟩ := h
    exact ⟨a, vs, e1, sqT_same e h1, Reps.mono e h2⟩
  | .lst l, _, h => by
    obtain ⟨a, vs, e1, h1, h2⟩ := h
    exact ⟨a, vs, e1, e _ _ h1, Reps.mono e h2⟩
  | .obj c ns l, _, h => by
    obtain ⟨a, C, dx, vs, e1, e2, h1, e3, h2⟩ := h
    exact ⟨a, C, dx, vs, e1, e2, e _ _ h1, e3, Reps.mono e h2⟩
theorem Reps.mono (e : Same T T') : ∀ {l : List D} {vs : List V}, Reps k T l vs → Reps k T' l vs
  | [], _, h => h
  | d :: l, _, h => by
    obtain ⟨v, r, e1, h1, h2⟩ := h
    exact ⟨v, r, e1, Rep.mono e h1, Reps.mono e h2⟩
end
theorem Reps.nil : Reps k T [] [] := rfl
theorem Reps.cons {d : D} {v : V} {l : List D} {vs : List V} (h : Rep k T d v) (hs : Reps k T l vs) : Reps k T (d :: l) (v :: vs) := ⟨v, vs, rfl, h, hs⟩
theorem Reps.len : ∀ {l : List D} {vs : List V}, Reps k T l vs → vs.length = l.length
  | [], _, h => by cases (show _ = [] from h); rfl
  | d :: l, _, h => by
    obtain ⟨v, r, rfl, _, h2⟩ := h
    exact congrArg Nat.succ (Reps.len h2)
theorem Reps.app : ∀ {l m : List D} {vs ws : List V}, Reps k T l vs → Reps k T m ws → Reps k T (l ++ m) (vs ++ ws)
  | [], _, _, _, h, h' => by cases (show _ = [] from h); exact h'
  | d :: l, _, _, _, h, h' => by
    obtain ⟨v, r, rfl, h1, h2⟩ := h
    exact ⟨v, _, rfl, h1, Reps.app h2 h'⟩
theorem Reps.one {d : D} {v : V} (h : Rep k T d v) : Reps k T [d] [v] := .cons h .nil
theorem Reps.get : ∀ {l : List D} {vs : List V} {i : Nat} {d : D}, Reps k T l vs → l[i]? = some d → ∃ v, vs[i]? = some v ∧ Rep k T d v
  | [], _, _, _, _, e => by simp at e
  | d :: l, _, 0, _, h, e => by
    obtain ⟨v, r, rfl, h1, h2⟩ := h
    simp at e; subst e
    exact ⟨v, rfl, h1⟩
  | d :: l, _, i + 1, _, h, e => by
    obtain ⟨v, r, rfl, h1, h2⟩ := h
    obtain ⟨u, e1, e2⟩ := Reps.get (i := i) h2 (by simpa using e)
    exact ⟨u, by simpa using e1, e2⟩
theorem Reps.getV : ∀ {l : List D} {vs : List V} {i : Nat} {v : V}, Reps k T l vs → vs[i]? = some v → ∃ d, l[i]? = some d ∧ Rep k T d v
  | [], _, _, _, h, e => by cases (show _ = [] from h); simp at e
  | d :: l, _, 0, _, h, e => by
    obtain ⟨v, r, rfl, h1, h2⟩ := h
    simp at e; subst e
    exact ⟨d, rfl, h1⟩
  | d :: l, _, i + 1, _, h, e => by
    obtain ⟨v, r, rfl, h1, h2⟩ := h
    obtain ⟨u, e1, e2⟩ := Reps.getV (i := i) h2 (by simpa using e)
    exact ⟨u, by simpa using e1, e2⟩
theorem Reps.take : ∀ {l : List D} {vs : List V} (n : Nat), Reps k T l vs → Reps k T (l.take n) (vs.take n)
  | _, _, 0, _ => by simp [Reps.nil]
  | [], _, n + 1, h => by cases (show _ = [] from h); exact Reps.nil
  | d :: l, _, n + 1, h => by
    obtain ⟨v, r, rfl, h1, h2⟩ := h
    exact ⟨v, _, rfl, h1, Reps.take n h2⟩
theorem Reps.drop : ∀ {l : List D} {vs : List V} (n : Nat), Reps k T l vs → Reps k T (l.drop n) (vs.drop n)
  | _, _, 0, h => h
  | [], _, n + 1, h => by cases (show _ = [] from h); exact Reps.nil
  | d :: l, _, n + 1, h => by
    obtain ⟨v, r, rfl, h1, h2⟩ := h
    exact Reps.drop n h2
theorem Reps.set : ∀ {l : List D} {vs : List V} {d : D} {v : V} (n : Nat), Reps k T l vs → Rep k T d v → Reps k T (l.set n d) (vs.set n v)
  | [], _, _, _, n, h, _ => by cases (show _ = [] from h); exact Reps.nil
  | d :: l, _, _, _, 0, h, q => by
    obtain ⟨v, r, rfl, h1, h2⟩ := h
    exact ⟨_, _, rfl, q, h2⟩
  | d :: l, _, _, _, n + 1, h, q => by
    obtain ⟨v, r, rfl, h1, h2⟩ := h
    exact ⟨_, _, rfl, h1, Reps.set n h2 q⟩
theorem Reps.erase : ∀ {l : List D} {vs : List V} (n : Nat), Reps k T l vs → Reps k T (l.eraseIdx n) (vs.eraseIdx n)
  | [], _, n, h => by cases (show _ = [] from h); exact Reps.nil
  | d :: l, _, 0, h => by
    obtain ⟨v, r, rfl, h1, h2⟩ := h
    exact h2
  | d :: l, _, n + 1, h => by
    obtain ⟨v, r, rfl, h1, h2⟩ := h
    exact ⟨_, _, rfl, h1, Reps.erase n h2⟩
theorem Reps.rev : ∀ {l : List D} {vs : List V}, Reps k T l vs → Reps k T l.reverse vs.reverse
  | [], _, h => by cases (show _ = [] from h); exact Reps.nil
  | d :: l, _, h => by
    obtain ⟨v, r, rfl, h1, h2⟩ := h
    rw [List.reverse_cons, List.reverse_cons]
    exact (Reps.rev h2).app (.one h1)
theorem Reps.dropLast {l : List D} {vs : List V} (h : Reps k T l vs) : Reps k T l.dropLast vs.dropLast := by
  rw [List.dropLast_eq_take, List.dropLast_eq_take, h.len]
  exact h.take _
theorem Reps.repl {l : List D} {vs : List V} (h : Reps k T l vs) : ∀ n : Nat, Reps k T (List.replicate n l).flatten (List.replicate n vs).flatten
  | 0 => Reps.nil
  | n + 1 => by
    rw [List.replicate_succ, List.replicate_succ, List.flatten_cons, List.flatten_cons]
    exact h.app (Reps.repl h n)
end

/-- a value of a name -/
def RepW (k : Kx) (T : Hp) (μ : List Addr) : W → V → Prop
  | .d x, v => Rep k T x v
  | .c n, v => ∃ a, μ[n]? = some a ∧ v = .ref a
  | .b _, _ => False
/-- a value reckoned -/
def RepR (k : Kx) (T : Hp) (μ : List Addr) (σ : St) : W → V → Prop
  | .d x, v => Rep k T x v
  | .c n, v => ∃ a, μ[n]? = some a ∧ v = .ref a
  | .b i, v => σ[i]? = some (some v)
theorem RepW.r {k : Kx} {T : Hp} {μ : List Addr} {σ : St} : ∀ {w : W} {v : V}, RepW k T μ w v → RepR k T μ σ w v
  | .d _, _, h => h
  | .c _, _, h => h
  | .b _, _, h => h.elim
theorem RepR.w {k : Kx} {T : Hp} {μ : List Addr} {σ : St} : ∀ {w : W} {v : V}, RepR k T μ σ w v → w.isB = false → RepW k T μ w v
  | .d _, _, h, _ => h
  | .c _, _, h, _ => h
  | .b _, _, _, e => by cases e
theorem pre_get {α : Type} {μ μ' : List α} (p : μ <+: μ') {n : Nat} {a : α} (h : μ[n]? = some a) : μ'[n]? = some a := by
  obtain ⟨r, rfl⟩ := p
  have hl : n < μ.length := (List.getElem?_eq_some_iff.mp h).1
  rw [List.getElem?_append_left hl]; exact h
theorem RepR.mono {k : Kx} {T T' : Hp} {μ μ' : List Addr} {σ : St} (e : Same T T') (p : μ <+: μ') : ∀ {w : W} {v : V}, RepR k T μ σ w v → RepR k T' μ' σ w v
  | .d _, _, h => Rep.mono e h
  | .c _, _, ⟨a, h1, h2⟩ => ⟨a, pre_get p h1, h2⟩
  | .b _, _, h => h
theorem RepW.mono {k : Kx} {T T' : Hp} {μ μ' : List Addr} (e : Same T T') (p : μ <+: μ') : ∀ {w : W} {v : V}, RepW k T μ w v → RepW k T' μ' w v
  | .d _, _, h => Rep.mono e h
  | .c _, _, ⟨a, h1, h2⟩ => ⟨a, pre_get p h1, h2⟩
  | .b _, _, h => h
def CRep (k : Kx) (T H : Hp) (a : Addr) : Cl → Prop
  | .lst l => ∃ vs, H a = some (.lst vs) ∧ Reps k T l vs
  | .fz l => ∃ o vs, H a = some (.frz o (.lst vs)) ∧ Reps k T l vs
  | .gone => True
/-- the state and the heap: T what stands for ever, Fr what the callers own, μ where the cells stand -/
structure Sim (k : Kx) (T Fr : Hp) (μ : List Addr) (s : Ss) (σ : St) (H : Hp) : Prop where
  tH : Same T H
  fH : Same Fr H
  tF : ∀ a, Fr a ≠ none → T a = none
  len : μ.length = s.g.length
  cel : ∀ (n : Nat) (a : Addr) (c : Cl), μ[n]? = some a → s.g[n]? = some c → T a = none ∧ Fr a = none ∧ H a ≠ none ∧ CRep k T H a c
  cnd : ∀ (m n : Nat) (a : Addr), μ[m]? = some a → μ[n]? = some a → m = n
  rlen : s.r.length = σ.length
  val : ∀ (i : Nat) (w : W), s.r[i]? = some (.w w) → ∃ v, σ[i]? = some (some v) ∧ RepW k T μ w v
  own : ∀ (i : Nat) (l : List D), s.r[i]? = some (.own l) → ∃ p vs, σ[i]? = some (some (.ref p)) ∧ H p = some (.lst vs) ∧ Reps k T l vs ∧ T p = none ∧ Fr p = none ∧ (∀ n : Nat, μ[n]? ≠ some p) ∧
    ∀ (j : Nat) (m : List D), s.r[j]? = some (.own m) → σ[j]? = some (some (.ref p)) → j = i
/-- a list that nothing else knows -/
def Fresh (k : Kx) (T Fr : Hp) (μ : List Addr) (s : Ss) (σ : St) (H : Hp) (l : List D) (v : V) : Prop :=
  ∃ p vs, v = .ref p ∧ H p = some (.lst vs) ∧ Reps k T l vs ∧ T p = none ∧ Fr p = none ∧ (∀ n : Nat, μ[n]? ≠ some p) ∧ ∀ (j : Nat) (m : List D), s.r[j]? = some (.own m) → σ[j]? ≠ some (some (.ref p))
/-- data as it stands now: a list may be one that changes -/
def Top (k : Kx) (T H : Hp) : D → V → Prop
  | .lst l, v => ∃ a vs, v = .ref a ∧ Rd H a (.lst vs) ∧ Reps k T l vs
  | .non, v => v = .non
  | .bl b, v => v = .bl b
  | .int i, v => v = .int i
  | .str s, v => v = .str s
  | .tup l, v => Rep k T (.tup l) v
  | .obj c ns l, v => Rep k T (.obj c ns l) v
theorem Rep.top {k : Kx} {T H : Hp} (e : Same T H) : ∀ {d : D} {v : V}, Rep k T d v → Top k T H d v
  | .lst l, _, h => by
    obtain ⟨a, vs, e1, h1, h2⟩ := h
    exact ⟨a, vs, e1, .inl (e _ _ h1), h2⟩
  | .tup l, _, h => h
  | .non, _, h => h
  | .bl _, _, h => h
  | .int _, _, h => h
  | .str _, _, h => h
  | .obj _ _ _, _, h => h
theorem upd_none {T : Hp} {p : Addr} {o : HO} (h : T p = none) : Same T (upd T p o) := fun b u e => by
  rw [upd_ne (ne_of_none e h)]; exact e
section
variable {k : Kx} {T T' Fr : Hp} {μ : List Addr} {s : Ss} {σ : St} {H : Hp} {p : Addr} {o : HO} {w : W} {v : V}
theorem Sim.tn (S : Sim k T Fr μ s σ H) (h : H p = none) : T p = none := by
  cases e : T p with
  | none => rfl
  | some u => rw [S.tH _ _ e] at h; cases h
theorem Sim.fn (S : Sim k T Fr μ s σ H) (h : H p = none) : Fr p = none := by
  cases e : Fr p with
  | none => rfl
  | some u => rw [S.fH _ _ e] at h; cases h
theorem Sim.mn (S : Sim k T Fr μ s σ H) (h : H p = none) (n : Nat) : μ[n]? ≠ some p := fun e => by
  have hn : n < s.g.length := by rw [← S.len]; exact (List.getElem?_eq_some_iff.mp e).1
  obtain ⟨_, _, h3, _⟩ := S.cel n p _ e (List.getElem?_eq_getElem hn)
  exact h3 h
theorem Sim.on (S : Sim k T Fr μ s σ H) (h : H p = none) (j : Nat) (m : List D) (e : s.r[j]? = some (.own m)) : σ[j]? ≠ some (some (.ref p)) := fun q => by
  obtain ⟨p', vs, e1, e2, _⟩ := S.own j m e
  rw [e1] at q
  cases q
  rw [e2] at h; cases h
/-- a new object, standing for ever or not -/
theorem Sim.grow (S : Sim k T Fr μ s σ H) (h : H p = none) (hT : Same T T') (hp : ∀ b, b ≠ p → T' b = T b) (hq : ∀ u, T' p = some u → u = o) : Sim k T' Fr μ s σ (upd H p o) := by
  have hh : Same H (upd H p o) := upd_none h
  have tb : ∀ b, b ≠ p → T b = none → T' b = none := fun b hb e => by rw [hp b hb]; exact e
  refine ⟨fun b u e => ?_, fun b u e => hh _ _ (S.fH _ _ e), fun a ha => ?_, S.len, fun n a c e1 e2 => ?_, S.cnd, S.rlen, fun i w e => ?_, fun i l e => ?_⟩
  · by_cases hb : b = p
    · subst hb
      rw [hq u e, upd_same]
    · rw [hp b hb] at e
      exact hh _ _ (S.tH _ _ e)
  · refine tb a (fun e => ?_) (S.tF a ha)
    subst e
    exact ha (S.fn h)
  · obtain ⟨h1, h2, h3, h4⟩ := S.cel n a c e1 e2
    have hne : a ≠ p := fun e => by subst e; exact h3 h
    refine ⟨tb a hne h1, h2, by rw [upd_ne hne]; exact h3, ?_⟩
    cases c with
    | lst l =>
      obtain ⟨vs, q1, q2⟩ := h4
      exact ⟨vs, by rw [upd_ne hne]; exact q1, q2.mono hT⟩
    | fz l =>
      obtain ⟨o, vs, q1, q2⟩ := h4
      exact ⟨o, vs, by rw [upd_ne hne]; exact q1, q2.mono hT⟩
    | gone => exact trivial
  · obtain ⟨v, h1, h2⟩ := S.val i w e
    exact ⟨v, h1, h2.mono hT (List.prefix_refl _)⟩
  · obtain ⟨q, vs, h1, h2, h3, h4, h5, h6, h7⟩ := S.own i l e
    have hne : q ≠ p := fun e => by subst e; rw [h2] at h; cases h
    exact ⟨q, vs, h1, by rw [upd_ne hne]; exact h2, h3.mono hT, tb q hne h4, h5, h6, h7⟩
/-- a new object that stands for ever -/
theorem Sim.new (S : Sim k T Fr μ s σ H) (h : H p = none) : Sim k (upd T p o) Fr μ s σ (upd H p o) :=
  S.grow h (upd_none (S.tn h)) (fun b hb => upd_ne hb) (fun u e => by rw [upd_same] at e; cases e; rfl)
/-- a new object that nobody knows yet -/
theorem Sim.loose (S : Sim k T Fr μ s σ H) (h : H p = none) : Sim k T Fr μ s σ (upd H p o) :=
  S.grow h (fun _ _ e => e) (fun _ _ => rfl) (fun u e => by rw [S.tn h] at e; cases e)
theorem Sim.fresh (S : Sim k T Fr μ s σ H) (h : H p = none) {l : List D} {vs : List V} (r : Reps k T l vs) : Fresh k T Fr μ s σ (upd H p (.lst vs)) l (.ref p) :=
  ⟨p, vs, rfl, upd_same, r, S.tn h, S.fn h, S.mn h, S.on h⟩
/-- a known object that nobody else knows is made one that stands for ever -/
theorem Sim.keep (S : Sim k T Fr μ s σ H) {l : List D} (f : Fresh k T Fr μ s σ H l v) : ∃ T', Same T T' ∧ Sim k T' Fr μ s σ H ∧ Rep k T' (.lst l) v := by
  obtain ⟨p, vs, rfl, h1, h2, h3, h4, h5, h6⟩ := f
  have hT : Same T (upd T p (.lst vs)) := upd_none h3
  refine ⟨upd T p (.lst vs), hT, ⟨fun b u e => ?_, S.fH, fun a ha => ?_, S.len, fun n a c e1 e2 => ?_, S.cnd, S.rlen, fun i w e => ?_, fun i l e => ?_⟩, ⟨p, vs, rfl, upd_same, h2.mono hT⟩⟩
  · by_cases hb : b = p
    · subst hb; rw [upd_same] at e; cases e; exact h1
    · rw [upd_ne hb] at e; exact S.tH _ _ e
  · rw [upd_ne (fun e => by subst e; exact ha h4)]
    exact S.tF a ha
  · obtain ⟨q1, q2, q3, q4⟩ := S.cel n a c e1 e2
    have hne : a ≠ p := fun e => by subst e; exact h5 n e1
    refine ⟨by rw [upd_ne hne]; exact q1, q2, q3, ?_⟩
    cases c with
    | lst l =>
      obtain ⟨vs, r1, r2⟩ := q4
      exact ⟨vs, r1, r2.mono hT⟩
    | fz l =>
      obtain ⟨o, vs, r1, r2⟩ := q4
      exact ⟨o, vs, r1, r2.mono hT⟩
    | gone => exact trivial
  · obtain ⟨v, q1, q2⟩ := S.val i w e
    exact ⟨v, q1, q2.mono hT (List.prefix_refl _)⟩
  · obtain ⟨q, vs', q1, q2, q3, q4, q5, q6, q7⟩ := S.own i l e
    have hne : q ≠ p := fun z => by subst z; exact h6 i l e q1
    exact ⟨q, vs', q1, q2, q3.mono hT, by rw [upd_ne hne]; exact q4, q5, q6, q7⟩
/-- an owned list of a name is frozen -/
theorem Sim.freeze (S : Sim k T Fr μ s σ H) {i : Nat} {l : List D} (e : s.r[i]? = some (.own l)) : ∃ T' v, Same T T' ∧ σ[i]? = some (some v) ∧ Sim k T' Fr μ { s with r := s.r.set i (.w (.d (.lst l))) } σ H ∧ Rep k T' (.lst l) v := by
  obtain ⟨p, vs, h0, h1, h2, h3, h4, h5, h6⟩ := S.own i l e
  have hT : Same T (upd T p (.lst vs)) := upd_none h3
  have hi : i < s.r.length := (List.getElem?_eq_some_iff.mp e).1
  have hR : Rep k (upd T p (.lst vs)) (.lst l) (.ref p) := ⟨p, vs, rfl, upd_same, h2.mono hT⟩
  refine ⟨upd T p (.lst vs), .ref p, hT, h0, ⟨fun b u e => ?_, S.fH, fun a ha => ?_, S.len, fun n a c e1 e2 => ?_, S.cnd, by simpa using S.rlen, fun j w ej => ?_, fun j m ej => ?_⟩, hR⟩
  · by_cases hb : b = p
    · subst hb; rw [upd_same] at e; cases e; exact h1
    · rw [upd_ne hb] at e; exact S.tH _ _ e
  · rw [upd_ne (fun e => by subst e; exact ha h4)]
    exact S.tF a ha
  · obtain ⟨q1, q2, q3, q4⟩ := S.cel n a c e1 e2
    have hne : a ≠ p := fun e => by subst e; exact h5 n e1
    refine ⟨by rw [upd_ne hne]; exact q1, q2, q3, ?_⟩
    cases c with
    | lst l =>
      obtain ⟨vs, r1, r2⟩ := q4
      exact ⟨vs, r1, r2.mono hT⟩
    | fz l =>
      obtain ⟨o, vs, r1, r2⟩ := q4
      exact ⟨o, vs, r1, r2.mono hT⟩
    | gone => exact trivial
  · by_cases hj : i = j
    · subst hj
      rw [List.getElem?_set_self hi] at ej
      cases ej
      exact ⟨_, h0, hR⟩
    · rw [List.getElem?_set_ne hj] at ej
      obtain ⟨v, q1, q2⟩ := S.val j w ej
      exact ⟨v, q1, q2.mono hT (List.prefix_refl _)⟩
  · by_cases hj : i = j
    · subst hj
      rw [List.getElem?_set_self hi] at ej
      cases ej
    · rw [List.getElem?_set_ne hj] at ej
      obtain ⟨q, vs', q1, q2, q3, q4, q5, q6, q7⟩ := S.own j m ej
      have hne : q ≠ p := fun z => by subst z; exact hj (h6 j m ej q1).symm
      refine ⟨q, vs', q1, q2, q3.mono hT, by rw [upd_ne hne]; exact q4, q5, q6, fun j' m' ej' => ?_⟩
      by_cases hj' : i = j'
      · subst hj'
        rw [List.getElem?_set_self hi] at ej'
        cases ej'
      · rw [List.getElem?_set_ne hj'] at ej'
        exact q7 j' m' ej'
theorem Sim.look (S : Sim k T Fr μ s σ H) : ∀ {w : W} {v : V} {d : D}, RepR k T μ σ w v → look s w = some d → Top k T H d v
  | .d x, v, d, h, e => by
    cases e
    exact Rep.top S.tH h
  | .c n, v, d, ⟨a, h1, h2⟩, e => by
    subst h2
    unfold Pc.look at e
    dsimp only at e
    split at e
    · rename_i l hl
      cases e
      obtain ⟨_, _, _, vs, q1, q2⟩ := S.cel n a _ h1 hl
      exact ⟨a, vs, rfl, .inl q1, q2⟩
    · rename_i l hl
      cases e
      obtain ⟨_, _, _, o, vs, q1, q2⟩ := S.cel n a _ h1 hl
      exact ⟨a, vs, rfl, .inr ⟨o, q1⟩, q2⟩
    · cases e
  | .b i, v, d, h, e => by
    have h : σ[i]? = some (some v) := h
    unfold Pc.look at e
    dsimp only at e
    split at e
    · rename_i l hl
      cases e
      obtain ⟨p, vs, q0, q1, q2, _⟩ := S.own i l hl
      rw [q0] at h; cases h
      exact ⟨p, vs, rfl, .inl q1, q2⟩
    · rename_i x hx
      cases e
      obtain ⟨u, q0, q1⟩ := S.val i _ hx
      rw [q0] at h; cases h
      exact Rep.top S.tH q1
    · cases e
theorem Sim.lookL (S : Sim k T Fr μ s σ H) : ∀ {w : W} {v : V} {l : List D}, RepR k T μ σ w v → lookL s w = some l → ∃ a vs, v = .ref a ∧ H a = some (.lst vs) ∧ Reps k T l vs
  | .d x, v, l, h, e => by
    cases x <;> first | (cases e; done) | skip
    cases e
    obtain ⟨a, vs, e1, h1, h2⟩ := h
    exact ⟨a, vs, e1, S.tH _ _ h1, h2⟩
  | .c n, v, l, ⟨a, h1, h2⟩, e => by
    subst h2
    unfold Pc.lookL at e
    dsimp only at e
    split at e
    · rename_i m hl
      cases e
      obtain ⟨_, _, _, vs, q1, q2⟩ := S.cel n a _ h1 hl
      exact ⟨a, vs, rfl, q1, q2⟩
    · cases e
  | .b i, v, l, h, e => by
    have h : σ[i]? = some (some v) := h
    unfold Pc.lookL at e
    dsimp only at e
    split at e
    · rename_i m hl
      cases e
      obtain ⟨p, vs, q0, q1, q2, _⟩ := S.own i _ hl
      rw [q0] at h; cases h
      exact ⟨p, vs, rfl, q1, q2⟩
    · rename_i m hx
      cases e
      obtain ⟨u, q0, q1⟩ := S.val i _ hx
      rw [q0] at h; cases h
      obtain ⟨a, vs, e1, h1, h2⟩ := q1
      exact ⟨a, vs, e1, S.tH _ _ h1, h2⟩
    · cases e
/-- the list of a value that may be changed -/
theorem Sim.getL (S : Sim k T Fr μ s σ H) {l : List D} (h : RepR k T μ σ w v) (e : getL s w = some l) :
    ∃ a vs, v = .ref a ∧ H a = some (.lst vs) ∧ Reps k T l vs ∧ T a = none ∧ Fr a = none ∧
      ∀ l' vs' s', Reps k T l' vs' → putL s w l' = some s' → Sim k T Fr μ s' σ (upd H a (.lst vs')) := by
  have base : ∀ a : Addr, T a = none → Fr a = none → ∀ o : HO, Same T (upd H a o) ∧ Same Fr (upd H a o) := fun a ha hf o =>
    ⟨fun b u z => by rw [upd_ne (ne_of_none z ha)]; exact S.tH _ _ z, fun b u z => by rw [upd_ne (ne_of_none z hf)]; exact S.fH _ _ z⟩
  cases w with
  | d x => cases e
  | c n =>
    obtain ⟨a, h1, rfl⟩ := h
    unfold Pc.getL at e
    dsimp only at e
    split at e
    · rename_i l0 hl
      cases e
      obtain ⟨t1, t2, t3, vs, q1, q2⟩ := S.cel n a _ h1 hl
      refine ⟨a, vs, rfl, q1, q2, t1, t2, fun l' vs' s' r' e' => ?_⟩
      unfold putL at e'
      simp only [hl] at e'
      cases e'
      have hn : n < s.g.length := (List.getElem?_eq_some_iff.mp hl).1
      obtain ⟨b1, b2⟩ := base a t1 t2 (.lst vs')
      refine ⟨b1, b2, S.tF, by simpa using S.len, fun m a' c e1 e2 => ?_, S.cnd, S.rlen, S.val, fun i m e1 => ?_⟩
      · by_cases hm : n = m
        · subst hm
          rw [h1] at e1; cases e1
          rw [List.getElem?_set_self hn] at e2
          cases e2
          exact ⟨t1, t2, by rw [upd_same]; simp, vs', upd_same, r'⟩
        · rw [List.getElem?_set_ne hm] at e2
          obtain ⟨u1, u2, u3, u4⟩ := S.cel m a' c e1 e2
          have hne : a' ≠ a := fun z => by subst z; exact hm (S.cnd _ _ _ h1 e1)
          refine ⟨u1, u2, by rw [upd_ne hne]; exact u3, ?_⟩
          cases c with
          | lst l => obtain ⟨ws, r1, r2⟩ := u4; exact ⟨ws, by rw [upd_ne hne]; exact r1, r2⟩
          | fz l => obtain ⟨o, ws, r1, r2⟩ := u4; exact ⟨o, ws, by rw [upd_ne hne]; exact r1, r2⟩
          | gone => exact trivial
      · obtain ⟨q, ws, u1, u2, u3, u4, u5, u6, u7⟩ := S.own i m e1
        have hne : q ≠ a := fun z => by subst z; exact u6 n h1
        exact ⟨q, ws, u1, by rw [upd_ne hne]; exact u2, u3, u4, u5, u6, u7⟩
    · cases e
  | b i =>
    have h : σ[i]? = some (some v) := h
    unfold Pc.getL at e
    dsimp only at e
    split at e
    · rename_i l0 hl
      cases e
      obtain ⟨p, vs, q0, q1, q2, t1, t2, t3, t4⟩ := S.own i _ hl
      rw [q0] at h; cases h
      refine ⟨p, vs, rfl, q1, q2, t1, t2, fun l' vs' s' r' e' => ?_⟩
      unfold putL at e'
      simp only [hl] at e'
      cases e'
      have hi : i < s.r.length := (List.getElem?_eq_some_iff.mp hl).1
      obtain ⟨b1, b2⟩ := base p t1 t2 (.lst vs')
      have other : ∀ {j : Nat} {m : List D}, (s.r.set i (.own l'))[j]? = some (.own m) → ∃ m', s.r[j]? = some (.own m') := fun {j m} ej => by
        by_cases hj : i = j
        · subst hj; exact ⟨_, hl⟩
        · rw [List.getElem?_set_ne hj] at ej; exact ⟨m, ej⟩
      refine ⟨b1, b2, S.tF, S.len, fun n a' c e1 e2 => ?_, S.cnd, by simpa using S.rlen, fun j w ej => ?_, fun j m ej => ?_⟩
      · obtain ⟨u1, u2, u3, u4⟩ := S.cel n a' c e1 e2
        have hne : a' ≠ p := fun z => by subst z; exact t3 n e1
        refine ⟨u1, u2, by rw [upd_ne hne]; exact u3, ?_⟩
        cases c with
        | lst l => obtain ⟨ws, r1, r2⟩ := u4; exact ⟨ws, by rw [upd_ne hne]; exact r1, r2⟩
        | fz l => obtain ⟨o, ws, r1, r2⟩ := u4; exact ⟨o, ws, by rw [upd_ne hne]; exact r1, r2⟩
        | gone => exact trivial
      · by_cases hj : i = j
        · subst hj; rw [List.getElem?_set_self hi] at ej; cases ej
        · rw [List.getElem?_set_ne hj] at ej; exact S.val j w ej
      · by_cases hj : i = j
        · subst hj
          rw [List.getElem?_set_self hi] at ej
          cases ej
          refine ⟨p, vs', q0, upd_same, r', t1, t2, t3, fun j' m' e1 e2 => ?_⟩
          obtain ⟨m'', e3⟩ := other e1
          exact t4 j' m'' e3 e2
        · rw [List.getElem?_set_ne hj] at ej
          obtain ⟨q, ws, u1, u2, u3, u4, u5, u6, u7⟩ := S.own j m ej
          have hne : q ≠ p := fun z => by subst z; exact hj (t4 j m ej u1).symm
          refine ⟨q, ws, u1, by rw [upd_ne hne]; exact u2, u3, u4, u5, u6, fun j' m' e1 e2 => ?_⟩
          obtain ⟨m'', e3⟩ := other e1
          exact u7 j' m'' e3 e2
    · cases e
/-- a name is stored -/
theorem Sim.setW (S : Sim k T Fr μ s σ H) (i : Nat) (h : RepW k T μ w v) : Sim k T Fr μ { s with r := s.r.set i (.w w) } (σ.set i (some v)) H := by
  refine ⟨S.tH, S.fH, S.tF, S.len, S.cel, S.cnd, by simpa using S.rlen, fun j u ej => ?_, fun j m ej => ?_⟩
  · by_cases hj : i = j
    · subst hj
      have hi : i < s.r.length := by
        have := (List.getElem?_eq_some_iff.mp ej).1
        simpa using this
      rw [List.getElem?_set_self hi] at ej
      cases ej
      exact ⟨v, List.getElem?_set_self (by rw [← S.rlen]; exact hi), h⟩
    · rw [List.getElem?_set_ne hj] at ej
      obtain ⟨v', q1, q2⟩ := S.val j u ej
      exact ⟨v', by rw [List.getElem?_set_ne hj]; exact q1, q2⟩
  · by_cases hj : i = j
    · subst hj
      have hi : i < s.r.length := by
        have := (List.getElem?_eq_some_iff.mp ej).1
        simpa using this
      rw [List.getElem?_set_self hi] at ej
      cases ej
    · rw [List.getElem?_set_ne hj] at ej
      obtain ⟨q, ws, u1, u2, u3, u4, u5, u6, u7⟩ := S.own j m ej
      refine ⟨q, ws, by rw [List.getElem?_set_ne hj]; exact u1, u2, u3, u4, u5, u6, fun j' m' e1 e2 => ?_⟩
      by_cases hj' : i = j'
      · subst hj'
        have hi : i < s.r.length := by
          have := (List.getElem?_eq_some_iff.mp e1).1
          simpa using this
        rw [List.getElem?_set_self hi] at e1
        cases e1
      · rw [List.getElem?_set_ne hj'] at e1 e2
        exact u7 j' m' e1 e2
/-- a list that nothing else knows becomes a name's own -/
theorem Sim.setO (S : Sim k T Fr μ s σ H) (i : Nat) {l : List D} (h : Fresh k T Fr μ s σ H l v) : Sim k T Fr μ { s with r := s.r.set i (.own l) } (σ.set i (some v)) H := by
  obtain ⟨p, vs, rfl, h1, h2, h3, h4, h5, h6⟩ := h
  refine ⟨S.tH, S.fH, S.tF, S.len, S.cel, S.cnd, by simpa using S.rlen, fun j u ej => ?_, fun j m ej => ?_⟩
  · by_cases hj : i = j
    · subst hj
      have hi : i < s.r.length := by
        have := (List.getElem?_eq_some_iff.mp ej).1
        simpa using this
      rw [List.getElem?_set_self hi] at ej
      cases ej
    · rw [List.getElem?_set_ne hj] at ej
      obtain ⟨v', q1, q2⟩ := S.val j u ej
      exact ⟨v', by rw [List.getElem?_set_ne hj]; exact q1, q2⟩
  · by_cases hj : i = j
    · subst hj
      have hi : i < s.r.length := by
        have := (List.getElem?_eq_some_iff.mp ej).1
        simpa using this
      rw [List.getElem?_set_self hi] at ej
      cases ej
      refine ⟨p, vs, List.getElem?_set_self (by rw [← S.rlen]; exact hi), h1, h2, h3, h4, h5, fun j' m' e1 e2 => ?_⟩
      by_cases hj' : i = j'
      · exact hj'.symm
      · rw [List.getElem?_set_ne hj'] at e1 e2
        exact absurd e2 (h6 j' m' e1)
    · rw [List.getElem?_set_ne hj] at ej
      obtain ⟨q, ws, u1, u2, u3, u4, u5, u6, u7⟩ := S.own j m ej
      refine ⟨q, ws, by rw [List.getElem?_set_ne hj]; exact u1, u2, u3, u4, u5, u6, fun j' m' e1 e2 => ?_⟩
      by_cases hj' : i = j'
      · subst hj'
        have hi : i < s.r.length := by
          have := (List.getElem?_eq_some_iff.mp e1).1
          simpa using this
        rw [List.getElem?_set_self (by rw [← S.rlen]; exact hi)] at e2
        cases e2
        exact absurd u1 (h6 j m ej)
      · rw [List.getElem?_set_ne hj'] at e1 e2
        exact u7 j' m' e1 e2
/-- a list that nothing else knows is put under the callers' things for a while -/
theorem Sim.lend (S : Sim k T Fr μ s σ H) (h1 : H p = some o) (h3 : T p = none) (h4 : Fr p = none) (h5 : ∀ n : Nat, μ[n]? ≠ some p) (h6 : ∀ (j : Nat) (m : List D), s.r[j]? = some (.own m) → σ[j]? ≠ some (some (.ref p))) :
    Sim k T (upd Fr p o) μ s σ H := by
  refine ⟨S.tH, fun b u e => ?_, fun a ha => ?_, S.len, fun n a c e1 e2 => ?_, S.cnd, S.rlen, S.val, fun i m e1 => ?_⟩
  · by_cases hb : b = p
    · subst hb; rw [upd_same] at e; cases e; exact h1
    · rw [upd_ne hb] at e; exact S.fH _ _ e
  · by_cases hb : a = p
    · subst hb; exact h3
    · rw [upd_ne hb] at ha; exact S.tF a ha
  · obtain ⟨u1, u2, u3, u4⟩ := S.cel n a c e1 e2
    have hne : a ≠ p := fun z => by subst z; exact h5 n e1
    exact ⟨u1, by rw [upd_ne hne]; exact u2, u3, u4⟩
  · obtain ⟨q, ws, u1, u2, u3, u4, u5, u6, u7⟩ := S.own i m e1
    have hne : q ≠ p := fun z => by subst z; exact h6 i m e1 u1
    exact ⟨q, ws, u1, u2, u3, u4, by rw [upd_ne hne]; exact u5, u6, u7⟩
/-- .. and taken back -/
theorem Sim.back (S : Sim k T (upd Fr p o) μ s σ H) (h4 : Fr p = none) : Sim k T Fr μ s σ H ∧ H p = some o ∧ T p = none ∧ (∀ n : Nat, μ[n]? ≠ some p) ∧ ∀ (j : Nat) (m : List D), s.r[j]? = some (.own m) → σ[j]? ≠ some (some (.ref p)) := by
  have kn : ∀ a, upd Fr p o a = none → Fr a = none := fun a e => by
    by_cases hb : a = p
    · subst hb; exact h4
    · rw [upd_ne hb] at e; exact e
  have np : upd Fr p o p ≠ none := by rw [upd_same]; simp
  refine ⟨⟨S.tH, fun b u e => S.fH _ _ (by rw [upd_ne (ne_of_none e h4)]; exact e), fun a ha => S.tF a fun e => ha (kn a e), S.len, fun n a c e1 e2 => ?_, S.cnd, S.rlen, S.val, fun i m e1 => ?_⟩, S.fH _ _ upd_same, S.tF p np, fun n e => ?_, fun j m e q => ?_⟩
  · obtain ⟨u1, u2, u3, u4⟩ := S.cel n a c e1 e2
    exact ⟨u1, kn a u2, u3, u4⟩
  · obtain ⟨q, ws, u1, u2, u3, u4, u5, u6, u7⟩ := S.own i m e1
    exact ⟨q, ws, u1, u2, u3, u4, kn q u5, u6, u7⟩
  · have hn : n < s.g.length := by rw [← S.len]; exact (List.getElem?_eq_some_iff.mp e).1
    obtain ⟨_, u2, _⟩ := S.cel n p _ e (List.getElem?_eq_getElem hn)
    exact np u2
  · obtain ⟨q', ws, u1, u2, u3, u4, u5, u6, u7⟩ := S.own j m e
    rw [u1] at q
    cases q
    exact np u5
/-- a new shared cell -/
theorem Sim.cell (S : Sim k T Fr μ s σ H) (h : H p = none) {l : List D} {vs : List V} (r : Reps k T l vs) : Sim k T Fr (μ ++ [p]) { s with g := s.g ++ [.lst l] } σ (upd H p (.lst vs)) := by
  have S1 := S.loose (o := .lst vs) h
  have get : ∀ n a, (μ ++ [p])[n]? = some a → μ[n]? = some a ∨ (n = μ.length ∧ a = p) := fun n a e => by
    by_cases hn : n < μ.length
    · rw [List.getElem?_append_left hn] at e; exact .inl e
    · rw [List.getElem?_append_right (by omega)] at e
      obtain ⟨h1, h2⟩ := List.getElem?_eq_some_iff.mp e
      simp at h1 h2
      exact .inr ⟨by omega, h2.symm⟩
  refine ⟨S1.tH, S1.fH, S1.tF, by simp [S.len], fun n a c e1 e2 => ?_, fun m n a e1 e2 => ?_, S1.rlen, fun i w e => ?_, fun i m e => ?_⟩
  · rcases get n a e1 with e1 | ⟨rfl, rfl⟩
    · have hn : n < s.g.length := by rw [← S.len]; exact (List.getElem?_eq_some_iff.mp e1).1
      rw [List.getElem?_append_left hn] at e2
      exact S1.cel n a c e1 e2
    · rw [S.len, List.getElem?_append_right (Nat.le_refl _)] at e2
      simp at e2
      subst e2
      exact ⟨S.tn h, S.fn h, by rw [upd_same]; simp, vs, upd_same, r⟩
  · rcases get m a e1 with q1 | ⟨h1, h2⟩
    · rcases get n a e2 with q2 | ⟨h3, h4⟩
      · exact S.cnd _ _ _ q1 q2
      · subst h4; exact absurd q1 (S.mn h m)
    · rcases get n a e2 with q2 | ⟨h3, h4⟩
      · subst h2; exact absurd q2 (S.mn h n)
      · omega
  · obtain ⟨v, h1, h2⟩ := S1.val i w e
    exact ⟨v, h1, h2.mono (fun _ _ z => z) (List.prefix_append _ _)⟩
  · obtain ⟨q, ws, u1, u2, u3, u4, u5, u6, u7⟩ := S1.own i m e
    refine ⟨q, ws, u1, u2, u3, u4, u5, fun n e2 => ?_, u7⟩
    rcases get n q e2 with q2 | ⟨h3, h4⟩
    · exact u6 n q2
    · subst h4; exact S.on h i m e u1
/-- a list that nothing else knows becomes a shared cell -/
theorem Sim.share (S : Sim k T Fr μ s σ H) {l : List D} {v : V} (f : Fresh k T Fr μ s σ H l v) : ∃ p, v = .ref p ∧ Sim k T Fr (μ ++ [p]) { s with g := s.g ++ [.lst l] } σ H := by
  obtain ⟨p, vs, rfl, h1, h2, h3, h4, h5, h6⟩ := f
  have get : ∀ n a, (μ ++ [p])[n]? = some a → μ[n]? = some a ∨ (n = μ.length ∧ a = p) := fun n a e => by
    by_cases hn : n < μ.length
    · rw [List.getElem?_append_left hn] at e; exact .inl e
    · rw [List.getElem?_append_right (by omega)] at e
      obtain ⟨h1, h2⟩ := List.getElem?_eq_some_iff.mp e
      simp at h1 h2
      exact .inr ⟨by omega, h2.symm⟩
  refine ⟨p, rfl, S.tH, S.fH, S.tF, by simp [S.len], fun n a c e1 e2 => ?_, fun m n a e1 e2 => ?_, S.rlen, fun i w e => ?_, fun i m e => ?_⟩
  · rcases get n a e1 with e1 | ⟨rfl, rfl⟩
    · have hn : n < s.g.length := by rw [← S.len]; exact (List.getElem?_eq_some_iff.mp e1).1
      rw [List.getElem?_append_left hn] at e2
      exact S.cel n a c e1 e2
    · rw [S.len, List.getElem?_append_right (Nat.le_refl _)] at e2
      simp at e2
      subst e2
      exact ⟨h3, h4, by rw [h1]; simp, vs, h1, h2⟩
  · rcases get m a e1 with q1 | ⟨u1, u2⟩
    · rcases get n a e2 with q2 | ⟨u3, u4⟩
      · exact S.cnd _ _ _ q1 q2
      · subst u4; exact absurd q1 (h5 m)
    · rcases get n a e2 with q2 | ⟨u3, u4⟩
      · subst u2; exact absurd q2 (h5 n)
      · omega
  · obtain ⟨v, q1, q2⟩ := S.val i w e
    exact ⟨v, q1, q2.mono (fun _ _ z => z) (List.prefix_append _ _)⟩
  · obtain ⟨q, ws, u1, u2, u3, u4, u5, u6, u7⟩ := S.own i m e
    refine ⟨q, ws, u1, u2, u3, u4, u5, fun n e2 => ?_, u7⟩
    rcases get n q e2 with q2 | ⟨u3, u4⟩
    · exact u6 n q2
    · subst u4; exact h6 i m e u1
end
end Pc

set_option Elab.async false
set_option linter.all false
set_option maxRecDepth 100000
set_option maxHeartbeats 4000000
namespace Pc
open PySem L2
abbrev RpT (α β : Type) := Hp → Hp → List Addr → Ss → St → Hp → α → β → Prop
/-- an exception with its own dict -/
def ERep (k : Kx) (T : Hp) (x : D) (C : Value) (d : Addr) : Prop :=
  ∃ c ns l A vs, x = .obj c ns l ∧ C = .ref A ∧ k.cl c = some A ∧ T d = some (.xd (ns.zip vs)) ∧ ns.length = l.length ∧ Reps k T l vs
def Aft {α β : Type} (k : Kx) (T Fr : Hp) (μ : List Addr) (W : WX) (σ : St) (Rp : RpT α β) (Q : β → Hp → Prop) : Res α → Prop
  | .ok a s' => ∀ T' μ' H' v, Same T T' → μ <+: μ' → Sim k T' Fr μ' s' σ H' → Rp T' Fr μ' s' σ H' a v → Q v H'
  | .exc x s' => ∀ T' μ' H' C d, Same T T' → μ <+: μ' → Sim k T' Fr μ' s' σ H' → ERep k T' x C d → W C (some d) σ H'
  | .stuck => False
/-- the reading of an evaluation -/
def rd {α β : Type} (k : Kx) (W : WX) (Rp : RpT α β) (f : Ss → Res α) (σ : St) (H : Hp) (Q : β → Hp → Prop) : Prop :=
  ∃ T Fr μ s, Sim k T Fr μ s σ H ∧ Aft k T Fr μ W σ Rp Q (f s)
section
variable {α β γ δ : Type} {k : Kx} {T T' Fr : Hp} {μ μ' : List Addr} {W : WX} {σ : St} {s : Ss} {H : Hp} {Rp : RpT α β} {Rq : RpT γ δ} {Q : δ → Hp → Prop} {Q1 : β → Hp → Prop}
theorem Aft.mono {r : Res γ} (h : Aft k T Fr μ W σ Rq Q r) (e : Same T T') (p : μ <+: μ') : Aft k T' Fr μ' W σ Rq Q r := by
  cases r with
  | ok a s' => exact fun T2 μ2 H' v e2 p2 => h T2 μ2 H' v (e.trans e2) (p.trans p2)
  | exc x s' => exact fun T2 μ2 H' C d e2 p2 => h T2 μ2 H' C d (e.trans e2) (p.trans p2)
  | stuck => exact h
/-- one evaluation, then the rest -/
theorem rd_bind {f : Ss → Res α} {g : α → Ss → Res γ} (S : Sim k T Fr μ s σ H) (ha : Aft k T Fr μ W σ Rq Q ((f s).bind g))
    (h : ∀ T' μ' H' v a s', Same T T' → μ <+: μ' → Sim k T' Fr μ' s' σ H' → Rp T' Fr μ' s' σ H' a v → Aft k T' Fr μ' W σ Rq Q (g a s') → Q1 v H') : rd k W Rp f σ H Q1 := by
  refine ⟨T, Fr, μ, s, S, ?_⟩
  cases e : f s with
  | ok a s' =>
    rw [e] at ha
    exact fun T2 μ2 H' v e2 p2 S2 r2 => h T2 μ2 H' v a s' e2 p2 S2 r2 (Aft.mono ha e2 p2)
  | exc x s' =>
    rw [e] at ha
    exact ha
  | stuck =>
    rw [e] at ha
    exact ha.elim
/-- the end: the last evaluation's result is the whole's -/
theorem Aft.of {o : Option α} {Q1 : β → Hp → Prop} (ha : Aft k T Fr μ W σ Rp Q1 (Res.of o s)) : ∃ a, o = some a ∧ Aft k T Fr μ W σ Rp Q1 (.ok a s) := by
  cases o with
  | none => exact ha.elim
  | some a => exact ⟨a, rfl, ha⟩
theorem Aft.here {a : α} {v : β} (ha : Aft k T Fr μ W σ Rp Q1 (.ok a s)) (S : Sim k T Fr μ s σ H) (r : Rp T Fr μ s σ H a v) : Q1 v H :=
  ha T μ H v (fun _ _ e => e) (List.prefix_refl _) S r
end
/-- how results lie -/
def rE (k : Kx) : RpT W V := fun T _ μ _ σ _ w v => RepR k T μ σ w v
def RepRs (k : Kx) (T : Hp) (μ : List Addr) (σ : St) : List W → List V → Prop
  | [], vs => vs = []
  | w :: l, vs => ∃ v r, vs = v :: r ∧ RepR k T μ σ w v ∧ RepRs k T μ σ l r
theorem RepRs.mono {k : Kx} {T T' : Hp} {μ μ' : List Addr} {σ : St} (e : Same T T') (p : μ <+: μ') : ∀ {w : List W} {v : List V}, RepRs k T μ σ w v → RepRs k T' μ' σ w v
  | [], _, h => h
  | w :: l, _, ⟨v, r, e1, h1, h2⟩ => ⟨v, r, e1, h1.mono e p, h2.mono e p⟩
theorem RepRs.ds {k : Kx} {T : Hp} {μ : List Addr} {σ : St} : ∀ {ws : List W} {vs : List V} {ds : List D}, RepRs k T μ σ ws vs → dsOf ws = some ds → Reps k T ds vs
  | [], _, ds, h, e => by
    cases e
    exact h
  | .d x :: l, _, ds, ⟨v, r, e1, h1, h2⟩, e => by
    unfold dsOf at e
    cases q : dsOf l with
    | none => rw [q] at e; cases e
    | some m =>
      rw [q] at e
      cases e
      exact ⟨v, r, e1, h1, h2.ds q⟩
  | .c _ :: l, _, _, _, e => by cases e
  | .b _ :: l, _, _, _, e => by cases e
theorem RepRs.len {k : Kx} {T : Hp} {μ : List Addr} {σ : St} : ∀ {w : List W} {v : List V}, RepRs k T μ σ w v → v.length = w.length
  | [], _, h => by cases (show _ = [] from h); rfl
  | w :: l, _, ⟨v, r, e1, h1, h2⟩ => by subst e1; exact congrArg Nat.succ h2.len
def rL (k : Kx) : RpT (List W) (List V) := fun T _ μ _ σ _ w v => RepRs k T μ σ w v
def rB : RpT Bool Bool := fun _ _ _ _ _ _ a b => a = b
def rO : RpT (Option Int) (Option Int) := fun _ _ _ _ _ _ a b => a = b
def rF (k : Kx) : RpT (List D) V := fun T Fr μ s σ H l v => Fresh k T Fr μ s σ H l v
def rZ : RpT Str Str := fun _ _ _ _ _ _ a b => a = b

structure Tb where
  cl : Nat → Option Addr
  tab : List Fn
  /-- names that the module does not bind -/
  free : Str → Bool
  /-- the module's constants -/
  con : Str → D → Bool
abbrev Tb.k (t : Tb) (X : Cx) : Kx := ⟨X.K, t.cl⟩
structure Rm (n : Nat) (A : Around) : Prop where
  r : Room n A
  g : A.guards = some []
theorem Rm.mono {j n : Nat} {A : Around} (r : Rm n A) (h : j ≤ n) : Rm j A := ⟨r.r.mono h, r.g⟩
theorem Rm.deeper {n : Nat} {A : Around} (r : Rm (n + 1) A) (env : Env) : Rm n (A.deeper env) := ⟨r.r.deeper env, r.g⟩
/-- a def's promise where nothing is being shown (HandS.FnOk, with the guards told) -/
structure FnG (P : Program) (w : World) (K : PySem.W.Frag) (mg : Str → Option Value) (base : Heap) (n : Nat) (f : Addr) (fd : FuncData) (ps : List Str) (sp : Sp) : Prop where
  len : ∀ vs H Q E, sp vs H Q E → vs.length = ps.length
  run : ∀ (A : Around) (outer : List Env) (s : Shared) (H : Hp) (args : Args) (us : List Value) (vs : List V) (Q : VK) (E : XK), Rm n A → Env0 P w K mg base A outer s H → BindsTo s fd args (ps.zip us) →
    Vals vs us → sp vs H Q E → codeAny (model P w) A (.call (.ref f) args) (CR (CX P w) outer P w H s Q E) s
/-- the body of the f-th def at depth n -/
def bodyN (tab : List Fn) : Nat → Fn → List W → List Cl → Cr
  | 0, _, _, _ => .stuck
  | n + 1, fd, as, g => runB (run tab n) fd as g
def RepWs (k : Kx) (T : Hp) (μ : List Addr) : List W → List V → Prop
  | [], vs => vs = []
  | w :: l, vs => ∃ v r, vs = v :: r ∧ RepW k T μ w v ∧ RepWs k T μ l r
def AftC (k : Kx) (T Fr : Hp) (μ : List Addr) (Q : VK) (E : XK) : Cr → Prop
  | .ok w g' => ∀ T' μ' H' v, Same T T' → μ <+: μ' → Sim k T' Fr μ' ⟨g', []⟩ [] H' → RepW k T' μ' w v → Q v H'
  | .exc x g' => ∀ T' μ' H' C d, Same T T' → μ <+: μ' → Sim k T' Fr μ' ⟨g', []⟩ [] H' → ERep k T' x C d → E C (some d) H'
  | .stuck => False
/-- what the f-th def promises at depth n -/
def spF (k : Kx) (tab : List Fn) (n : Nat) (fd : Fn) : Sp := fun vs H Q E =>
  ∃ T Fr μ g as, Sim k T Fr μ ⟨g, []⟩ [] H ∧ as.length = fd.np ∧ RepWs k T μ as vs ∧ AftC k T Fr μ Q E (bodyN tab n fd as g)
/-- how a pattern of calls binds -/
def selV (us ws : List Value) (ds : List Value) : Ar → Nat → Value
  | .p i, _ => us.getD i .none
  | .k i, _ => ws.getD i .none
  | .df _, j => ds.getD j .none
/-- the bound values: places told, defaults from ds by the parameter's number -/
def selVs (us ws ds : List Value) : List Ar → Nat → List Value
  | [], _ => []
  | a :: r, j => selV us ws ds a j :: selVs us ws ds r (j + 1)
/-- the defaults that a pattern takes stand as its data say -/
def DfOk (k : Kx) (ds : List Value) : List Ar → Nat → Prop
  | [], _ => True
  | .df x :: r, j => (∃ v, RelV v (ds.getD j .none) ∧ Rep k (fun _ => none) x v) ∧ DfOk k ds r (j + 1)
  | .p _ :: r, j => DfOk k ds r (j + 1)
  | .k _ :: r, j => DfOk k ds r (j + 1)
def PatOk (k : Kx) (fd : FuncData) (ps : List Str) (q : Pat) : Prop :=
  ∃ ds : List Value, DfOk k ds q.sel 0 ∧ ∀ (s : Shared) (us ws : List Value), k.K.In s.heap → us.length = q.n → ws.length = q.ks.length → BindsTo s fd ⟨us, q.ks.zip ws⟩ (ps.zip (selVs us ws ds q.sel 0))
/-- the f-th def stands, and keeps its promise at depth n -/
structure FnAt (t : Tb) (P : Program) (w : World) (K : PySem.W.Frag) (mg : Str → Option Value) (base : Heap) (n : Nat) (fd : Fn) : Prop where
  ex : ∃ (a : Addr) (fo : FuncData), mg fd.name = some (.ref a) ∧ PySem.W.keepIn K (.ref a) = true ∧ (∀ q ∈ fd.pats, PatOk ⟨K, t.cl⟩ fo (fd.nm.take fd.np) q) ∧
    FnG P w K mg base (3 * n) a fo (fd.nm.take fd.np) (spF ⟨K, t.cl⟩ t.tab n fd)
/-- what a text of the language stands in: the names by slot, the scope, the names whose cells are the block's own -/
structure Mc where
  N : List Str
  sc : Scope
  fn : Str → Bool
/-- a context in which evaluation at depth n may be read; W is wished of what is raised -/
structure Ok (t : Tb) (n : Nat) (M : Mc) (X : Cx) (W : WX) : Prop where
  N : X.N = M.N
  sc : X.env.scope = M.sc
  fn : ∀ y, M.fn y = true → X.fn y = true
  fr : ∀ x, t.free x = true → X.mg x = none
  co : ∀ x d, t.con x d = true → ∃ u v, X.mg x = some u ∧ RelV v u ∧ Rep (t.k X) (fun _ => none) d v
  room : Rm (3 * n + 1) X.A
  nd : X.N.Nodup
  calm : X.calm = true
  tk : Takes X W
  fns : ∀ fd ∈ t.tab, FnAt t X.prog X.w X.K X.mg X.base n fd
abbrev Tb.o (t : Tb) (n : Nat) : Or := run t.tab n
/-- the texts that are read so -/
def SE (t : Tb) (n : Nat) (M : Mc) (e : Ex) (x : Expr) : Prop := ∀ X W, Ok t n M X W → PE X x (rd (t.k X) W (rE (t.k X)) (ev (t.o n) e))
def SEs (t : Tb) (n : Nat) (M : Mc) (e : Exs) (x : List Expr) : Prop := ∀ X W, Ok t n M X W → PA X x (rd (t.k X) W (rL (t.k X)) (evs (t.o n) e))
def SO (t : Tb) (n : Nat) (M : Mc) (e : Exo) (x : Option Expr) : Prop := ∀ X W, Ok t n M X W → PO X x (rd (t.k X) W rO (evo (t.o n) e))
def ST (t : Tb) (n : Nat) (M : Mc) (e : Te) (x : Expr) : Prop := ∀ X W, Ok t n M X W → PT X x (rd (t.k X) W rB (evT (t.o n) e))
def SF (t : Tb) (n : Nat) (M : Mc) (f : Fx) (x : Expr) : Prop := ∀ X W, Ok t n M X W → PE X x (rd (t.k X) W (rF (t.k X)) (evF (t.o n) f))
theorem PE.weak {X : Cx} {e : Expr} {t u : TE} (h : PE X e t) (k : ∀ σ H Q, u σ H Q → t σ H Q) : PE X e u := ⟨fun pins s σ H Q I q => h.run pins s σ H Q I (k σ H Q q)⟩
theorem PT.weak {X : Cx} {e : Expr} {t u : TT} (h : PT X e t) (k : ∀ σ H Q, u σ H Q → t σ H Q) : PT X e u := ⟨fun pins s σ H Q I q => h.run pins s σ H Q I (k σ H Q q)⟩
theorem PA.weak {X : Cx} {e : List Expr} {t u : TA} (h : PA X e t) (k : ∀ σ H Q, u σ H Q → t σ H Q) : PA X e u := ⟨fun p pins s σ H Q I q => h.run p pins s σ H Q I (k σ H Q q)⟩
theorem PO.weak {X : Cx} {e : Option Expr} {t u : TO} (h : PO X e t) (k : ∀ σ H Q, u σ H Q → t σ H Q) : PO X e u := ⟨fun pins s σ H Q I q => h.run pins s σ H Q I (k σ H Q q)⟩
theorem PS.weak {X : Cx} {e : Stmt} {t u : TS} (h : PS X e t) (k : ∀ D σ H, u D σ H → t D σ H) : PS X e u := ⟨fun pins s σ H D I q => h.run pins s σ H D I (k D σ H q)⟩
theorem PSs.weak {X : Cx} {e : List Stmt} {t u : TS} (h : PSs X e t) (k : ∀ D σ H, u D σ H → t D σ H) : PSs X e u := ⟨fun pins s σ H D I q => h.run pins s σ H D I (k D σ H q)⟩

section
variable {t : Tb} {n : Nat} {M : Mc} {X : Cx} {W : WX}
def visB (sc : Scope) (x : Str) : Bool :=
  match sc.names.lookup x with
  | some .local => true
  | some .cell => true
  | some .free => true
  | _ => false
theorem visB_ok {sc : Scope} {x : Str} (h : visB sc x = true) : Vis sc x := by
  unfold visB at h
  split at h
  · exact .inl (by assumption)
  · exact .inr (.inl (by assumption))
  · exact .inr (.inr (by assumption))
  · cases h
def glB (sc : Scope) (x : Str) : Bool :=
  match sc.names.lookup x with
  | some .globalImplicit => true
  | _ => false
theorem glB_ok (O : Ok t n M X W) {x : Str} (h : glB M.sc x = true) : Gl X x := by
  show X.env.scope.names.lookup x = some .globalImplicit
  rw [O.sc]
  unfold glB at h
  split at h
  · assumption
  · cases h
def plainName (x : Str) : Bool := !(x == ("__debug__" : Str)) && !(x == ("__classdict__" : Str)) && !(x == ("__name__" : Str))
theorem plainName_a {x : Str} (h : plainName x = true) : (x == ("__debug__" : Str)) = false := by
  unfold plainName at h
  cases e : (x == ("__debug__" : Str))
  · rfl
  · rw [e] at h; cases h
theorem plainName_b {x : Str} (h : plainName x = true) : (x == ("__classdict__" : Str)) = false := by
  unfold plainName at h
  cases e : (x == ("__classdict__" : Str))
  · rfl
  · rw [e] at h; simp at h
theorem plainName_c {x : Str} (h : plainName x = true) : x ≠ "__name__" := by
  unfold plainName at h
  intro e
  subst e
  simp at h
def nmB (M : Mc) (i : Nat) (x : Str) : Bool := decide (M.N[i]? = some x) && visB M.sc x && plainName x
theorem s_v {i : Nat} {x : Str} {pos : Pos} (h : nmB M i x = true) : SE t n M (.v i) (.Name x pos) := fun X W O => by
  simp only [nmB, Bool.and_eq_true, decide_eq_true_eq] at h
  refine PE.weak (pe_var (i := i) (by rw [O.N]; exact h.1.1) (by rw [O.sc]; exact visB_ok h.1.2) (plainName_a h.2) (plainName_b h.2)) fun σ H Q ⟨T, Fr, μ, s, S, a⟩ => ?_
  unfold ev at a
  split at a
  · rename_i w hw
    obtain ⟨v, q1, q2⟩ := S.val i w hw
    exact ⟨v, q1, a.here S q2.r⟩
  · rename_i l hl
    obtain ⟨T', v, e, q0, S', r⟩ := S.freeze hl
    exact ⟨v, q0, a T' μ H v e (List.prefix_refl _) S' r⟩
  · exact a.elim
theorem s_b {i : Nat} {x : Str} {pos : Pos} (h : nmB M i x = true) : SE t n M (.b i) (.Name x pos) := fun X W O => by
  simp only [nmB, Bool.and_eq_true, decide_eq_true_eq] at h
  refine PE.weak (pe_var (i := i) (by rw [O.N]; exact h.1.1) (by rw [O.sc]; exact visB_ok h.1.2) (plainName_a h.2) (plainName_b h.2)) fun σ H Q ⟨T, Fr, μ, s, S, a⟩ => ?_
  unfold ev at a
  split at a
  · rename_i w hw
    obtain ⟨v, q1, q2⟩ := S.val i w hw
    exact ⟨v, q1, a.here S q2.r⟩
  · rename_i l hl
    obtain ⟨p, vs, q1, _⟩ := S.own i l hl
    exact ⟨_, q1, a.here S q1⟩
  · exact a.elim
def kB : D → Const → Bool
  | .non, .none => true
  | .bl a, .bool b => a == b
  | .int a, .int b => decide (a = b)
  | .str a, .str b => decide (a = b)
  | _, _ => false
theorem s_k {x : D} {c : Const} {j : Nat} {pos : Pos} (h : kB x c = true) : SE t n M (.k x) (.Constant c j pos) := fun X W O => by
  have fin : ∀ (v : V), (∀ T, Rep (t.k X) T x v) → PE X (.Constant c j pos) (tC v) → PE X (.Constant c j pos) (rd (t.k X) W (rE (t.k X)) (ev (t.o n) (.k x))) := fun v hv hp =>
    PE.weak hp fun σ H Q ⟨T, Fr, μ, s, S, a⟩ => a.here S (hv T)
  unfold kB at h
  split at h
  · exact fin .non (fun _ => rfl) pe_non
  · exact fin (.bl _) (fun _ => by rw [beq_iff_eq.mp h]; exact rfl) pe_bl
  · exact fin (.int _) (fun _ => by rw [of_decide_eq_true h]; exact rfl) pe_int
  · exact fin (.str _) (fun _ => by rw [of_decide_eq_true h]; exact rfl) pe_str
  · cases h
theorem s_gk {x : Str} {d : D} {pos : Pos} (h : (glB M.sc x && plainName x && t.con x d) = true) : SE t n M (.gk x d) (.Name x pos) := fun X W O => by
  simp only [Bool.and_eq_true] at h
  obtain ⟨u, v, h1, h2, h3⟩ := O.co x d h.2
  refine PE.weak (pe_glob (v := v) (glB_ok O h.1.1) h1 h2 (plainName_a h.1.2)) fun σ H Q ⟨T, Fr, μ, s, S, a⟩ => a.here S (Rep.mono (fun b o z => by cases z) h3)
end
end Pc

set_option Elab.async false
set_option linter.all false
set_option maxRecDepth 100000
set_option maxHeartbeats 4000000
namespace Pc
open PySem L2
section
variable {t : Tb} {n : Nat} {M : Mc} {X : Cx} {W : WX}
/-- two operands as they stand, one result -/
def rOpD (k : Kx) (f : D → D → Option D) : R2 := fun x y H Q => ∃ T Fr μ s σ p q d, Sim k T Fr μ s σ H ∧ Top k T H p x ∧ Top k T H q y ∧ f p q = some d ∧
  ∀ T' H' v, Same T T' → Sim k T' Fr μ s σ H' → Rep k T' d v → Q v H'
theorem same_refl (T : Hp) : Same T T := fun _ _ e => e
theorem optB_some {α : Type} {b : Bool} {x y : α} (h : optB b x = some y) : b = true ∧ x = y := by
  unfold optB at h
  split at h
  · rename_i hb; cases h; exact ⟨hb, rfl⟩
  · cases h
theorem opR_add : OpR X (binaryOp .Add) (rOpD (t.k X) (opD .add)) := by
  intro pins s σ H x y v u Q I rx ry ⟨T, Fr, μ, s', σ', p, q, d, S, tp, tq, hd, hQ⟩
  unfold opD at hd
  split at hd
  · cases hd
    cases (show x = _ from tp); cases (show y = _ from tq)
    exact op_add pins s σ H _ _ v u Q I rx ry ⟨_, _, rfl, rfl, hQ T H _ (same_refl T) S rfl⟩
  · obtain ⟨hb, e⟩ := optB_some hd
    subst e
    cases (show x = _ from tp); cases (show y = _ from tq)
    exact op_add_str pins s σ H _ _ v u Q I rx ry ⟨_, _, rfl, rfl, of_decide_eq_true hb, hQ T H _ (same_refl T) S rfl⟩
  · obtain ⟨hb, e⟩ := optB_some hd
    subst e
    rename_i l m _
    obtain ⟨a, xs, rfl, h1, h2⟩ := (show ∃ a vs, x = .ref a ∧ SqT X.K T a vs ∧ Reps (t.k X) T l vs from tp)
    obtain ⟨b, ys, rfl, h3, h4⟩ := (show ∃ a vs, y = .ref a ∧ SqT X.K T a vs ∧ Reps (t.k X) T m vs from tq)
    have hz : xs.length + ys.length ≤ sizeLine := by rw [h2.len, h4.len]; exact of_decide_eq_true hb
    refine op_catA pins s σ H _ _ v u Q I rx ry ⟨a, b, xs, ys, rfl, rfl, sqT_same S.tH h1, sqT_same S.tH h3, hz, fun e => ?_, fun _ e => ?_, fun _ _ p hp => ?_⟩
    · subst e
      have hl : l = [] := List.eq_nil_of_length_eq_zero (by rw [← h2.len]; rfl)
      subst hl
      exact hQ T H _ (same_refl T) S ⟨b, ys, rfl, h3, h4⟩
    · subst e
      have hl : m = [] := List.eq_nil_of_length_eq_zero (by rw [← h4.len]; rfl)
      subst hl
      exact hQ T H _ (same_refl T) S ⟨a, xs, rfl, h1, by rw [List.append_nil]; exact h2⟩
    · have hT := upd_none (o := .tup (xs ++ ys)) (S.tn hp)
      exact hQ _ _ _ hT (S.new hp) ⟨p, xs ++ ys, rfl, SqT.of upd_same, (h2.app h4).mono hT⟩
  all_goals first | contradiction | cases hd
theorem opR_sub : OpR X (binaryOp .Sub) (rOpD (t.k X) (opD .sub)) := by
  intro pins s σ H x y v u Q I rx ry ⟨T, Fr, μ, s', σ', p, q, d, S, tp, tq, hd, hQ⟩
  unfold opD at hd
  split at hd <;> first | contradiction | cases hd
  cases (show x = _ from tp); cases (show y = _ from tq)
  exact op_sub pins s σ H _ _ v u Q I rx ry ⟨_, _, rfl, rfl, hQ T H _ (same_refl T) S rfl⟩
theorem opR_mul : OpR X (binaryOp .Mult) (rOpD (t.k X) (opD .mul)) := by
  intro pins s σ H x y v u Q I rx ry ⟨T, Fr, μ, s', σ', p, q, d, S, tp, tq, hd, hQ⟩
  unfold opD at hd
  split at hd <;> first | contradiction | (cases hd; done) | skip
  · obtain ⟨hb, e⟩ := optB_some hd
    subst e
    cases (show x = _ from tp); cases (show y = _ from tq)
    refine op_mul pins s σ H _ _ v u Q I rx ry ⟨_, _, rfl, rfl, ?_, hQ T H _ (same_refl T) S rfl⟩
    simp only [mulOk, Bool.or_eq_true, Bool.and_eq_true, decide_eq_true_eq] at hb
    exact hb
  · rename_i l k _
    obtain ⟨hb, e⟩ := optB_some hd
    subst e
    simp only [Bool.and_eq_true, decide_eq_true_eq, Bool.not_eq_true'] at hb
    obtain ⟨⟨⟨b1, b2⟩, b3⟩, b4⟩ := hb
    obtain ⟨a, xs, rfl, h1, h2⟩ := (show ∃ a vs, x = .ref a ∧ SqT X.K T a vs ∧ Reps (t.k X) T l vs from tp)
    cases (show y = _ from tq)
    have hl := h2.len
    refine op_repT pins s σ H _ _ v u Q I rx ry ⟨a, k, xs, rfl, rfl, sqT_same S.tH h1, fun e => ?_, b2, b3, by rw [hl]; exact b4, fun p hp => ?_⟩
    · subst e
      have hl : l = [] := List.eq_nil_of_length_eq_zero hl.symm
      subst hl
      cases b1
    · have hT := upd_none (o := .tup (List.replicate k.toNat xs).flatten) (S.tn hp)
      exact hQ _ _ _ hT (S.new hp) ⟨p, _, rfl, SqT.of upd_same, (h2.repl _).mono hT⟩
theorem opR_fdiv : OpR X (binaryOp .FloorDiv) (rOpD (t.k X) (opD .fdiv)) := by
  intro pins s σ H x y v u Q I rx ry ⟨T, Fr, μ, s', σ', p, q, d, S, tp, tq, hd, hQ⟩
  unfold opD at hd
  split at hd <;> first | contradiction | (cases hd; done) | skip
  obtain ⟨hb, e⟩ := optB_some hd
  subst e
  cases (show x = _ from tp); cases (show y = _ from tq)
  refine op_fdivN pins s σ H _ _ v u Q I rx ry ⟨_, _, rfl, rfl, ?_, hQ T H _ (same_refl T) S rfl⟩
  simp only [Bool.and_eq_true, decide_eq_true_eq] at hb
  exact hb
theorem opR_mod : OpR X (binaryOp .Mod) (rOpD (t.k X) (opD .mod)) := by
  intro pins s σ H x y v u Q I rx ry ⟨T, Fr, μ, s', σ', p, q, d, S, tp, tq, hd, hQ⟩
  unfold opD at hd
  split at hd <;> first | contradiction | (cases hd; done) | skip
  obtain ⟨hb, e⟩ := optB_some hd
  subst e
  cases (show x = _ from tp); cases (show y = _ from tq)
  refine op_modN pins s σ H _ _ v u Q I rx ry ⟨_, _, rfl, rfl, of_decide_eq_true hb, hQ T H _ (same_refl T) S rfl⟩
theorem opR_pow : OpR X (binaryOp .Pow) (rOpD (t.k X) (opD .pow)) := by
  intro pins s σ H x y v u Q I rx ry ⟨T, Fr, μ, s', σ', p, q, d, S, tp, tq, hd, hQ⟩
  unfold opD at hd
  split at hd <;> first | contradiction | (cases hd; done) | skip
  obtain ⟨hb, e⟩ := optB_some hd
  subst e
  cases (show x = _ from tp); cases (show y = _ from tq)
  refine op_pow pins s σ H _ _ v u Q I rx ry ⟨_, _, rfl, rfl, ?_, hQ T H _ (same_refl T) S rfl⟩
  simp only [Bool.and_eq_true, decide_eq_true_eq] at hb
  exact ⟨hb.1.1, hb.1.2, hb.2⟩
def o2B : O2 → Operator → Bool
  | .add, .Add => true
  | .sub, .Sub => true
  | .mul, .Mult => true
  | .fdiv, .FloorDiv => true
  | .mod, .Mod => true
  | .pow, .Pow => true
  | _, _ => false
theorem opR {f : O2} {op : Operator} (h : o2B f op = true) : OpR X (binaryOp op) (rOpD (t.k X) (opD f)) := by
  unfold o2B at h
  split at h
  · exact opR_add
  · exact opR_sub
  · exact opR_mul
  · exact opR_fdiv
  · exact opR_mod
  · exact opR_pow
  · cases h
theorem map_some {α β : Type} {f : α → β} {o : Option α} {b : β} (h : o.map f = some b) : ∃ a, o = some a ∧ f a = b := by
  cases o with
  | none => cases h
  | some a => exact ⟨a, rfl, Option.some.inj h⟩
theorem s_op {f : O2} {op : Operator} {a b : Ex} {xa xb : Expr} {pos : Pos} (ho : o2B f op = true) (ha : SE t n M a xa) (hb : SE t n M b xb) : SE t n M (.op f a b) (.BinOp xa op xb pos) := fun X W O => by
  refine PE.weak (pe_op (opR (t := t) ho) (ha X W O) (hb X W O)) fun σ H Q ⟨T, Fr, μ, s, S, a⟩ => ?_
  unfold ev at a
  refine rd_bind S a fun T1 μ1 H1 x w1 s1 e1 p1 S1 r1 a => rd_bind S1 a fun T2 μ2 H2 y w2 s2 e2 p2 S2 r2 a => ?_
  split at a
  · rename_i p q hp hq
    obtain ⟨w, hw, a⟩ := Aft.of a
    obtain ⟨d, hd, e⟩ := map_some hw
    subst e
    exact ⟨T2, Fr, μ2, s2, σ, p, q, d, S2, S2.look (r1.mono e2 p2) hp, S2.look r2 hq, hd, fun T' H' v e' S' r' => a T' μ2 H' v e' (List.prefix_refl _) S' r'⟩
  · exact a.elim
theorem s_neg {a : Ex} {xa : Expr} {pos : Pos} (ha : SE t n M a xa) : SE t n M (.neg a) (.UnaryOp .USub xa pos) := fun X W O => by
  refine PE.weak (pe_un un_neg (ha X W O)) fun σ H Q ⟨T, Fr, μ, s, S, a⟩ => ?_
  unfold ev at a
  refine rd_bind S a fun T1 μ1 H1 x w1 s1 e1 p1 S1 r1 a => ?_
  split at a
  · rename_i i
    exact ⟨i, r1, a.here S1 rfl⟩
  · exact a.elim

mutual
theorem Rep.dp {k : Kx} {T : Hp} : ∀ {d : D} {v : V} {p : PyData}, Rep k T d v → D.py d = some p → Dp k.K T v p
  | .non, v, p, h, e => by cases (show v = _ from h); cases (show some _ = some p from e); exact .non
  | .bl b, v, p, h, e => by cases (show v = _ from h); cases (show some _ = some p from e); exact .bl b
  | .int i, v, p, h, e => by cases (show v = _ from h); cases (show some _ = some p from e); exact .int i
  | .str x, v, p, h, e => by cases (show v = _ from h); cases (show some _ = some p from e); exact .str x
  | .tup l, v, p, h, e => by
    obtain ⟨a, vs, rfl, h1, h2⟩ := h
    unfold D.py at e
    obtain ⟨ps, e1, rfl⟩ := map_some e
    exact .tup h1 (Reps.dp h2 e1)
  | .lst l, v, p, h, e => by
    obtain ⟨a, vs, rfl, h1, h2⟩ := h
    unfold D.py at e
    obtain ⟨ps, e1, rfl⟩ := map_some e
    exact .lst (SqL.of h1) (Reps.dp h2 e1)
  | .obj _ _ _, v, p, h, e => by cases (show none = some p from e)
theorem Reps.dp {k : Kx} {T : Hp} : ∀ {l : List D} {vs : List V} {ps : List PyData}, Reps k T l vs → D.pys l = some ps → DpAll k.K T vs ps
  | [], vs, ps, h, e => by cases (show vs = _ from h); cases (show some _ = some ps from e); exact .nil
  | d :: l, vs, ps, h, e => by
    obtain ⟨v, r, rfl, h1, h2⟩ := h
    unfold D.pys at e
    split at e
    · rename_i a b ha hb
      cases e
      exact .cons (Rep.dp h1 ha) (Reps.dp h2 hb)
    · cases e
end
/-- flat data has one value -/
def toV : D → V
  | .non => .non
  | .bl b => .bl b
  | .int i => .int i
  | .str s => .str s
  | _ => .non
theorem Top.dp {k : Kx} {T H : Hp} (e : Same T H) : ∀ {d : D} {v : V} {p : PyData}, Top k T H d v → d.py = some p → Dp k.K H v p
  | .lst l, v, p, h, q => by
    obtain ⟨a, vs, rfl, h1, h2⟩ := h
    unfold D.py at q
    obtain ⟨ps, e1, rfl⟩ := map_some q
    exact .lst (.inl h1) (Reps.dp (h2.mono e) e1)
  | .tup l, v, p, h, q => Rep.dp (Rep.mono e h) q
  | .non, v, p, h, q => Rep.dp (k := k) (T := H) (d := .non) h q
  | .bl _, v, p, h, q => Rep.dp (k := k) (T := H) (d := .bl _) h q
  | .int _, v, p, h, q => Rep.dp (k := k) (T := H) (d := .int _) h q
  | .str _, v, p, h, q => Rep.dp (k := k) (T := H) (d := .str _) h q
  | .obj _ _ _, v, p, h, q => Rep.dp (Rep.mono e h) q
theorem Top.flat {k : Kx} {T H : Hp} : ∀ {d : D} {v : V}, Top k T H d v → d.fl = true → v = toV d
  | .lst l, v, h, q => by cases q
  | .tup l, v, h, q => by cases q
  | .non, v, h, q => h
  | .bl _, v, h, q => h
  | .int _, v, h, q => h
  | .str _, v, h, q => h
  | .obj _ _ _, v, h, q => by cases q
/-- two operands as they stand, a truth -/
def rCmD (k : Kx) (f : D → D → Option Bool) : R2 := fun x y H Q => ∃ T Fr μ s σ p q b, Sim k T Fr μ s σ H ∧ Top k T H p x ∧ Top k T H q y ∧ f p q = some b ∧ Q (.bl b) H
theorem eqG_some {p q : D} {b : Bool} (h : eqG p q = some b) : ∃ a c, p.py = some a ∧ q.py = some c ∧ SeqAt.shaped a = true ∧ SeqAt.shaped c = true ∧ PyData.eqv a c = b := by
  unfold eqG at h
  split at h
  · rename_i a c h1 h2
    obtain ⟨hb, e⟩ := optB_some h
    simp only [Bool.and_eq_true] at hb
    exact ⟨a, c, h1, h2, hb.1, hb.2, e⟩
  · cases h
theorem eqD_some {p q : D} {b : Bool} (h : eqD p q = some b) : (∃ x y, p = .str x ∧ q = .str y ∧ b = decide (x = y)) ∨ ∃ a c, p.py = some a ∧ q.py = some c ∧ SeqAt.shaped a = true ∧ SeqAt.shaped c = true ∧ PyData.eqv a c = b := by
  unfold eqD at h
  split at h
  · cases h; exact .inl ⟨_, _, rfl, rfl, rfl⟩
  · exact .inr (eqG_some h)
theorem str_dec (x y : Str) : decide (V.str x = V.str y) = decide (x = y) := by
  by_cases h : x = y
  · subst h; simp
  · rw [decide_eq_false h, decide_eq_false fun e => h (V.str.inj e)]
theorem cmR_eq (hu : X.A.units + 64 < cLine) : OpR X (compareOp .Eq) (rCmD (t.k X) eqD) := by
  intro pins s σ H x y v u Q I rx ry ⟨T, Fr, μ, s', σ', p, q, b, S, tp, tq, hd, hQ⟩
  rcases eqD_some hd with ⟨a, c, rfl, rfl, rfl⟩ | ⟨a, c, h1, h2, h3, h4, rfl⟩
  · cases (show x = _ from tp); cases (show y = _ from tq)
    exact op_eq pins s σ H _ _ v u Q I rx ry ⟨rfl, by rw [str_dec]; exact hQ⟩
  exact op_eqD hu pins s σ H x y v u Q I rx ry ⟨a, c, tp.dp S.tH h1, tq.dp S.tH h2, h3, h4, hQ⟩
theorem cmR_ne (hu : X.A.units + 64 < cLine) : OpR X (compareOp .NotEq) (rCmD (t.k X) fun x y => (eqD x y).map (!·)) := by
  intro pins s σ H x y v u Q I rx ry ⟨T, Fr, μ, s', σ', p, q, b, S, tp, tq, hd, hQ⟩
  obtain ⟨b', hd2, rfl⟩ := map_some hd
  rcases eqD_some hd2 with ⟨a, c, rfl, rfl, rfl⟩ | ⟨a, c, h1, h2, h3, h4, rfl⟩
  · cases (show x = _ from tp); cases (show y = _ from tq)
    exact op_ne pins s σ H _ _ v u Q I rx ry ⟨rfl, by rw [str_dec]; exact hQ⟩
  exact op_neD hu pins s σ H x y v u Q I rx ry ⟨a, c, tp.dp S.tH h1, tq.dp S.tH h2, h3, h4, hQ⟩
theorem cmR_ord {op : CmpOp} {f : C2} {g : Int → Int → Bool} (hr : OpR X (compareOp op) (rI0 fun i j => .bl (g i j))) (hf : ∀ p q b, cmpD f p q = some b → ∃ i j, p = .int i ∧ q = .int j ∧ b = g i j) : OpR X (compareOp op) (rCmD (t.k X) (cmpD f)) := by
  intro pins s σ H x y v u Q I rx ry ⟨T, Fr, μ, s', σ', p, q, b, S, tp, tq, hd, hQ⟩
  obtain ⟨i, j, rfl, rfl, rfl⟩ := hf p q b hd
  cases (show x = _ from tp); cases (show y = _ from tq)
  exact hr pins s σ H _ _ v u Q I rx ry ⟨i, j, rfl, rfl, hQ⟩
theorem ord_of {f : C2} {g : Int → Int → Bool} (h : ∀ i j, cmpD f (.int i) (.int j) = some (g i j)) (hn : f = .lt ∨ f = .le ∨ f = .gt ∨ f = .ge) : ∀ p q b, cmpD f p q = some b → ∃ i j, p = .int i ∧ q = .int j ∧ b = g i j := by
  intro p q b e
  have key : ∀ p q, (∃ i j, p = D.int i ∧ q = D.int j) ∨ cmpD f p q = none := by
    intro p q
    rcases hn with rfl | rfl | rfl | rfl <;> cases p <;> cases q <;> first | exact .inr rfl | exact .inl ⟨_, _, rfl, rfl⟩
  rcases key p q with ⟨i, j, rfl, rfl⟩ | z
  · rw [h] at e; cases e; exact ⟨i, j, rfl, rfl, rfl⟩
  · rw [z] at e; cases e
theorem Rep.flat {k : Kx} {T : Hp} : ∀ {d : D} {v : V}, Rep k T d v → d.fl = true → v = toV d
  | .non, _, h, _ => h
  | .bl _, _, h, _ => h
  | .int _, _, h, _ => h
  | .str _, _, h, _ => h
  | .tup _, _, _, e => by cases e
  | .lst _, _, _, e => by cases e
  | .obj _ _ _, _, _, e => by cases e
theorem flat_toV : ∀ {d : D}, d.fl = true → flatV (toV d) = true
  | .non, _ => rfl
  | .bl _, _ => rfl
  | .int _, _ => rfl
  | .str _, _ => rfl
  | .tup _, e => by cases e
  | .lst _, e => by cases e
  | .obj _ _ _, e => by cases e
theorem Reps.flat {k : Kx} {T : Hp} : ∀ {l : List D} {vs : List V}, Reps k T l vs → l.all D.fl = true → vs = l.map toV
  | [], _, h, _ => h
  | d :: l, _, h, e => by
    obtain ⟨v, r, rfl, h1, h2⟩ := h
    simp only [List.all_cons, Bool.and_eq_true] at e
    rw [Rep.flat h1 e.1, Reps.flat h2 e.2]; rfl
theorem eqV_toV : ∀ {x y : D}, x.fl = true → y.fl = true → eqV (toV x) (toV y) = eqF x y := by
  intro x y hx hy
  cases x <;> first | (cases hx; done) | skip
  all_goals (cases y <;> first | (cases hy; done) | skip)
  all_goals first | rfl | (simp [eqV, eqF, toV]; done) | skip
theorem in_any {x : D} {l : List D} (hx : x.fl = true) (hl : l.all D.fl = true) : inV (toV x) (l.map toV) = l.any fun y => eqF y x := by
  unfold inV
  rw [List.any_map]
  induction l with
  | nil => rfl
  | cons d l ih =>
    simp only [List.all_cons, Bool.and_eq_true] at hl
    simp only [List.any_cons, Function.comp]
    rw [eqV_toV hl.1 hx]
    exact congrArg _ (ih hl.2)
theorem all_flat {l : List D} (h : l.all D.fl = true) : (l.map toV).all flatV = true := by
  rw [List.all_map]
  rw [List.all_eq_true] at h ⊢
  intro d hd
  exact flat_toV (h d hd)
/-- what stands in an open list or tuple -/
theorem Top.seq {k : Kx} {T H : Hp} (e : Same T H) {l : List D} {v : V} (h : Top k T H (.lst l) v ∨ Top k T H (.tup l) v) : ∃ a vs, v = .ref a ∧ (SqL k.K H a vs ∨ SqT k.K H a vs) ∧ Reps k T l vs := by
  rcases h with h | h
  · obtain ⟨a, vs, e1, h1, h2⟩ := h
    exact ⟨a, vs, e1, .inl (.inl h1), h2⟩
  · obtain ⟨a, vs, e1, h1, h2⟩ := (show Rep k T (.tup l) v from h)
    exact ⟨a, vs, e1, .inr (sqT_same e h1), h2⟩
theorem inD_some {p q : D} {b : Bool} (h : inD p q = some b) : (∃ l, (q = .lst l ∨ q = .tup l) ∧ p.fl = true ∧ l.all D.fl = true ∧ (l.any fun y => eqF y p) = b) ∨
    ∃ a z, p = .str a ∧ q = .str z ∧ (!(Builtin.Str.occurrences z a 0 z.length 1).isEmpty) = b := by
  unfold inD at h
  split at h
  · obtain ⟨hb, e⟩ := optB_some h
    simp only [Bool.and_eq_true] at hb
    exact .inl ⟨_, .inl rfl, hb.1, hb.2, e⟩
  · obtain ⟨hb, e⟩ := optB_some h
    simp only [Bool.and_eq_true] at hb
    exact .inl ⟨_, .inr rfl, hb.1, hb.2, e⟩
  · split at h
    · cases h; exact .inr ⟨_, _, rfl, rfl, rfl⟩
    · cases h
  · cases h
theorem cmR_in : OpR X (compareOp .In) (rCmD (t.k X) inD) := by
  intro pins s σ H x y v u Q I rx ry ⟨T, Fr, μ, s', σ', p, q, b, S, tp, tq, hd, hQ⟩
  rcases inD_some hd with ⟨l, hl, h1, h2, rfl⟩ | ⟨a, z, rfl, rfl, rfl⟩
  · obtain ⟨c, vs, rfl, h3, h4⟩ := Top.seq (k := t.k X) S.tH (l := l) (v := y) (by rcases hl with rfl | rfl; exact .inl tq; exact .inr tq)
    have ex := tp.flat h1
    have ev := h4.flat h2
    subst ex ev
    exact op_in_seq pins s σ H _ _ v u Q I rx ry ⟨c, _, rfl, h3, flat_toV h1, all_flat h2, by rw [in_any h1 h2]; exact hQ⟩
  · cases (show x = _ from tp); cases (show y = _ from tq)
    exact op_in_str pins s σ H _ _ v u Q I rx ry ⟨_, _, rfl, rfl, hQ⟩
theorem cmR_nin : OpR X (compareOp .NotIn) (rCmD (t.k X) fun x y => (inD x y).map (!·)) := by
  intro pins s σ H x y v u Q I rx ry ⟨T, Fr, μ, s', σ', p, q, b, S, tp, tq, hd, hQ⟩
  obtain ⟨b', hd2, rfl⟩ := map_some hd
  rcases inD_some hd2 with ⟨l, hl, h1, h2, rfl⟩ | ⟨a, z, rfl, rfl, rfl⟩
  · obtain ⟨c, vs, rfl, h3, h4⟩ := Top.seq (k := t.k X) S.tH (l := l) (v := y) (by rcases hl with rfl | rfl; exact .inl tq; exact .inr tq)
    have ex := tp.flat h1
    have ev := h4.flat h2
    subst ex ev
    exact op_notIn_seq pins s σ H _ _ v u Q I rx ry ⟨c, _, rfl, h3, flat_toV h1, all_flat h2, by rw [in_any h1 h2]; exact hQ⟩
  · cases (show x = _ from tp); cases (show y = _ from tq)
    exact op_notIn_str pins s σ H _ _ v u Q I rx ry ⟨_, _, rfl, rfl, hQ⟩
theorem non_iff {k : Kx} {T H : Hp} {p : D} {x : V} (h : Top k T H p x) : decide (x = V.non) = (match p with | .non => true | _ => false) := by
  cases p with
  | non => cases (show x = _ from h); rfl
  | bl _ => cases (show x = _ from h); rfl
  | int _ => cases (show x = _ from h); rfl
  | str _ => cases (show x = _ from h); rfl
  | tup _ => obtain ⟨a, vs, rfl, _⟩ := h; rfl
  | lst _ => obtain ⟨a, vs, rfl, _⟩ := h; rfl
  | obj _ _ _ => obtain ⟨a, C, dx, vs, rfl, _⟩ := h; rfl
theorem cmR_is : OpR X (compareOp .Is) (rCmD (t.k X) (cmpD .isn)) := by
  intro pins s σ H x y v u Q I rx ry ⟨T, Fr, μ, s', σ', p, q, b, S, tp, tq, hd, hQ⟩
  cases q with
  | non =>
    cases (show y = _ from tq)
    refine op_isN pins s σ H _ _ v u Q I rx ry ⟨rfl, ?_⟩
    rw [non_iff tp]
    cases p <;> (cases hd; exact hQ)
  | bl c =>
    cases p with
    | bl a =>
      cases (show x = _ from tp)
      cases (show y = _ from tq)
      cases hd
      exact op_is_bl pins s σ H _ _ v u Q I rx ry ⟨a, c, rfl, rfl, hQ⟩
    | _ => cases hd
  | _ => cases p <;> cases hd
theorem cmR_nis : OpR X (compareOp .IsNot) (rCmD (t.k X) (cmpD .nisn)) := by
  intro pins s σ H x y v u Q I rx ry ⟨T, Fr, μ, s', σ', p, q, b, S, tp, tq, hd, hQ⟩
  cases q with
  | non =>
    cases (show y = _ from tq)
    refine op_notN pins s σ H _ _ v u Q I rx ry ⟨rfl, ?_⟩
    rw [non_iff tp]
    cases p <;> (cases hd; exact hQ)
  | bl c =>
    cases p with
    | bl a =>
      cases (show x = _ from tp)
      cases (show y = _ from tq)
      cases hd
      exact op_isnot_bl pins s σ H _ _ v u Q I rx ry ⟨a, c, rfl, rfl, hQ⟩
    | _ => cases hd
  | _ => cases p <;> cases hd
def c2B : C2 → CmpOp → Bool
  | .eq, .Eq => true
  | .ne, .NotEq => true
  | .lt, .Lt => true
  | .le, .LtE => true
  | .gt, .Gt => true
  | .ge, .GtE => true
  | .isn, .Is => true
  | .nisn, .IsNot => true
  | .inn, .In => true
  | .nin, .NotIn => true
  | _, _ => false
theorem cmR {f : C2} {op : CmpOp} (h : c2B f op = true) (hu : X.A.units + 64 < cLine) : OpR X (compareOp op) (rCmD (t.k X) (cmpD f)) := by
  unfold c2B at h
  split at h
  · exact cmR_eq hu
  · exact cmR_ne hu
  · exact cmR_ord op_lt (ord_of (fun _ _ => rfl) (.inl rfl))
  · exact cmR_ord op_le (ord_of (fun _ _ => rfl) (.inr (.inl rfl)))
  · exact cmR_ord op_gt (ord_of (fun _ _ => rfl) (.inr (.inr (.inl rfl))))
  · exact cmR_ord op_ge (ord_of (fun _ _ => rfl) (.inr (.inr (.inr rfl))))
  · exact cmR_is
  · exact cmR_nis
  · exact cmR_in
  · exact cmR_nin
  · cases h
theorem Ok.u64 (O : Ok t n M X W) : X.A.units + 64 < cLine := O.room.r.units
theorem s_cmp {f : C2} {op : CmpOp} {a b : Ex} {xa xb : Expr} {pos : Pos} (ho : c2B f op = true) (hm : behindInMarks op xb = false) (ha : SE t n M a xa) (hb : SE t n M b xb) : SE t n M (.cmp f a b) (.Compare xa [op] [xb] pos) := fun X W O => by
  refine PE.weak (pe_cmpR (cmR (t := t) ho O.u64) (ha X W O) (hb X W O) hm) fun σ H Q ⟨T, Fr, μ, s, S, a⟩ => ?_
  unfold ev at a
  refine rd_bind S a fun T1 μ1 H1 x w1 s1 e1 p1 S1 r1 a => rd_bind S1 a fun T2 μ2 H2 y w2 s2 e2 p2 S2 r2 a => ?_
  split at a
  · rename_i p q hp hq
    obtain ⟨w, hw, a⟩ := Aft.of a
    obtain ⟨d, hd, e⟩ := map_some hw
    subst e
    exact ⟨T2, Fr, μ2, s2, σ, p, q, d, S2, S2.look (r1.mono e2 p2) hp, S2.look r2 hq, hd, a.here S2 rfl⟩
  · exact a.elim
theorem st_cmp {f : C2} {op : CmpOp} {a b : Ex} {xa xb : Expr} {pos : Pos} (ho : c2B f op = true) (hm : behindInMarks op xb = false) (ha : SE t n M a xa) (hb : SE t n M b xb) : ST t n M (.cmp f a b) (.Compare xa [op] [xb] pos) := fun X W O => by
  refine PT.weak (pt_cmpR (cmR (t := t) ho O.u64) (ha X W O) (hb X W O) hm) fun σ H Q ⟨T, Fr, μ, s, S, a⟩ => ?_
  unfold evT at a
  refine rd_bind S a fun T1 μ1 H1 x w1 s1 e1 p1 S1 r1 a => rd_bind S1 a fun T2 μ2 H2 y w2 s2 e2 p2 S2 r2 a => ?_
  split at a
  · rename_i p q hp hq
    obtain ⟨d, hd, a⟩ := Aft.of a
    exact ⟨T2, Fr, μ2, s2, σ, p, q, d, S2, S2.look (r1.mono e2 p2) hp, S2.look r2 hq, hd, d, rfl, a.here S2 rfl⟩
  · exact a.elim
theorem s_cmp2 {f g : C2} {op op' : CmpOp} {a b c : Ex} {xa xb xc : Expr} {pos : Pos} (ho : c2B f op = true) (ho' : c2B g op' = true) (hm : lastMarks [op, op'] [xb, xc] = false) (ha : SE t n M a xa) (hb : SE t n M b xb) (hc : SE t n M c xc) :
    SE t n M (.cmp2 f g a b c) (.Compare xa [op, op'] [xb, xc] pos) := fun X W O => by
  refine PE.weak (pe_chain (cmR (t := t) ho O.u64) (cmR (t := t) ho' O.u64) (ha X W O) (hb X W O) (hc X W O) hm) fun σ H Q ⟨T, Fr, μ, s, S, a⟩ => ?_
  unfold ev at a
  refine rd_bind S a fun T1 μ1 H1 x w1 s1 e1 p1 S1 r1 a => rd_bind S1 a fun T2 μ2 H2 y w2 s2 e2 p2 S2 r2 a => ?_
  split at a
  · rename_i p q hp hq
    split at a
    · rename_i hd
      refine ⟨T2, Fr, μ2, s2, σ, p, q, true, S2, S2.look (r1.mono e2 p2) hp, S2.look r2 hq, hd, true, rfl, ?_⟩
      rw [if_pos rfl]
      refine rd_bind S2 a fun T3 μ3 H3 z w3 s3 e3 p3 S3 r3 a => ?_
      split at a
      · rename_i q' u hq' hu
        obtain ⟨w, hw, a⟩ := Aft.of a
        obtain ⟨d, hd, e⟩ := map_some hw
        subst e
        exact ⟨T3, Fr, μ3, s3, σ, q', u, d, S3, S3.look (r2.mono e3 p3) hq', S3.look r3 hu, hd, a.here S3 rfl⟩
      · exact a.elim
    · rename_i hd
      refine ⟨T2, Fr, μ2, s2, σ, p, q, false, S2, S2.look (r1.mono e2 p2) hp, S2.look r2 hq, hd, false, rfl, ?_⟩
      rw [if_neg Bool.false_ne_true]
      exact a.here S2 rfl
    · exact a.elim
  · exact a.elim
theorem st_cmp2 {f g : C2} {op op' : CmpOp} {a b c : Ex} {xa xb xc : Expr} {pos : Pos} (ho : c2B f op = true) (ho' : c2B g op' = true) (hm : lastMarks [op, op'] [xb, xc] = false) (ha : SE t n M a xa) (hb : SE t n M b xb) (hc : SE t n M c xc) :
    ST t n M (.cmp2 f g a b c) (.Compare xa [op, op'] [xb, xc] pos) := fun X W O => by
  refine PT.weak (pt_chain (cmR (t := t) ho O.u64) (cmR (t := t) ho' O.u64) (ha X W O) (hb X W O) (hc X W O) hm) fun σ H Q ⟨T, Fr, μ, s, S, a⟩ => ?_
  unfold evT at a
  refine rd_bind S a fun T1 μ1 H1 x w1 s1 e1 p1 S1 r1 a => rd_bind S1 a fun T2 μ2 H2 y w2 s2 e2 p2 S2 r2 a => ?_
  split at a
  · rename_i p q hp hq
    split at a
    · rename_i hd
      refine ⟨T2, Fr, μ2, s2, σ, p, q, true, S2, S2.look (r1.mono e2 p2) hp, S2.look r2 hq, hd, true, rfl, ?_⟩
      rw [if_pos rfl]
      refine rd_bind S2 a fun T3 μ3 H3 z w3 s3 e3 p3 S3 r3 a => ?_
      split at a
      · rename_i q' u hq' hu
        obtain ⟨d, hd, a⟩ := Aft.of a
        exact ⟨T3, Fr, μ3, s3, σ, q', u, d, S3, S3.look (r2.mono e3 p3) hq', S3.look r3 hu, hd, d, rfl, a.here S3 rfl⟩
      · exact a.elim
    · rename_i hd
      refine ⟨T2, Fr, μ2, s2, σ, p, q, false, S2, S2.look (r1.mono e2 p2) hp, S2.look r2 hq, hd, false, rfl, ?_⟩
      rw [if_neg Bool.false_ne_true]
      exact ⟨false, rfl, a.here S2 rfl⟩
    · exact a.elim
  · exact a.elim
end
end Pc

set_option Elab.async false
set_option linter.all false
set_option maxRecDepth 100000
set_option maxHeartbeats 4000000
namespace Pc
open PySem L2
section
variable {t : Tb} {n : Nat} {M : Mc} {X : Cx}
theorem Aft.hereE {k : Kx} {T Fr H : Hp} {μ : List Addr} {W : WX} {σ : L2.St} {Q : VK} {s : Ss} {d : D} {v : V} (a : Aft k T Fr μ W σ (rE k) Q (.ok (.d d) s)) (S : Sim k T Fr μ s σ H) (r : Rep k T d v) : Q v H := a.here S r
def SB (t : Tb) (n : Nat) (M : Mc) (an : Bool) (e : Exs) (x : Expr) : Prop := ∀ X W, Ok t n M X W → PE X x (rd (t.k X) W (rE (t.k X)) (evB (t.o n) an e))
def bopB (an : Bool) : BoolOp → Bool
  | .And => an
  | .Or => !an
theorem sb_one {an : Bool} {op : BoolOp} {a : Ex} {xa : Expr} {pos : Pos} (ha : SE t n M a xa) : SB t n M an (.cons a .nil) (.BoolOp op [xa] pos) := fun X W O =>
  PE.weak (pe_one (ha X W O)) fun σ H Q ⟨T, Fr, μ, s, S, a⟩ => ⟨T, Fr, μ, s, S, by unfold evB at a; exact a⟩
theorem sb_cons {an : Bool} {op : BoolOp} {a b : Ex} {r : Exs} {xa xb : Expr} {xs : List Expr} {pos : Pos} (ho : bopB an op = true) (ha : SE t n M a xa) (hr : SB t n M an (.cons b r) (.BoolOp op (xb :: xs) pos)) :
    SB t n M an (.cons a (.cons b r)) (.BoolOp op (xa :: xb :: xs) pos) := fun X W O => by
  cases op with
  | And =>
    have e : an = true := ho
    subst e
    refine PE.weak (pe_and (ha X W O) (hr X W O)) fun σ H Q ⟨T, Fr, μ, s, S, a⟩ => ?_
    unfold evB at a
    refine rd_bind S a fun T1 μ1 H1 x w1 s1 e1 p1 S1 r1 a => ?_
    split at a
    · rename_i c
      refine ⟨c, r1, ?_⟩
      cases c with
      | true => exact ⟨T1, Fr, μ1, s1, S1, a⟩
      | false => exact a.here S1 rfl
    · exact a.elim
  | Or =>
    have e : an = false := by revert ho; cases an <;> simp [bopB]
    subst e
    refine PE.weak (pe_or (ha X W O) (hr X W O)) fun σ H Q ⟨T, Fr, μ, s, S, a⟩ => ?_
    unfold evB at a
    refine rd_bind S a fun T1 μ1 H1 x w1 s1 e1 p1 S1 r1 a => ?_
    split at a
    · rename_i c
      refine ⟨c, r1, ?_⟩
      cases c with
      | true => exact a.here S1 rfl
      | false => exact ⟨T1, Fr, μ1, s1, S1, a⟩
    · exact a.elim
theorem s_bop {an : Bool} {e : Exs} {x : Expr} (h : SB t n M an e x) : SE t n M (.bop an e) x := fun X W O =>
  PE.weak (h X W O) fun σ H Q ⟨T, Fr, μ, s, S, a⟩ => ⟨T, Fr, μ, s, S, by unfold ev at a; exact a⟩
theorem s_not {a : Ex} {xa : Expr} {pos : Pos} (ha : SE t n M a xa) : SE t n M (.not a) (.UnaryOp .Not xa pos) := fun X W O => by
  refine PE.weak (pe_not (ha X W O)) fun σ H Q ⟨T, Fr, μ, s, S, a⟩ => ?_
  unfold ev at a
  refine rd_bind S a fun T1 μ1 H1 x w1 s1 e1 p1 S1 r1 a => ?_
  split at a
  · rename_i b
    exact ⟨b, r1, a.here S1 rfl⟩
  · exact a.elim
theorem s_ite {c : Te} {a b : Ex} {xc xa xb : Expr} {pos : Pos} (hc : ST t n M c xc) (ha : SE t n M a xa) (hb : SE t n M b xb) : SE t n M (.ite c a b) (.IfExp xc xa xb pos) := fun X W O => by
  refine PE.weak (pe_ifExp (hc X W O) (ha X W O) (hb X W O)) fun σ H Q ⟨T, Fr, μ, s, S, a⟩ => ?_
  unfold ev at a
  refine rd_bind S a fun T1 μ1 H1 x w1 s1 e1 p1 S1 r1 a => ?_
  cases (show w1 = x from r1)
  cases x with
  | true =>
    rw [if_pos rfl] at a ⊢
    exact ⟨T1, Fr, μ1, s1, S1, a⟩
  | false =>
    rw [if_neg Bool.false_ne_true] at a ⊢
    exact ⟨T1, Fr, μ1, s1, S1, a⟩
theorem ss_nil : SEs t n M .nil [] := fun X W O => PA.weak pa_nil fun σ H Q ⟨T, Fr, μ, s, S, a⟩ => a.here S rfl
def plainArg : Expr → Bool
  | .Starred _ _ => false
  | _ => true
theorem star_plain {e : Expr} (h : plainArg e = true) (es : List Expr) (env : Env) : starEach (e :: es) env = (false, eval e env) :: starEach es env := by
  cases e <;> first | rfl | cases h
theorem ss_cons {a : Ex} {r : Exs} {xa : Expr} {xs : List Expr} (hp : plainArg xa = true) (ha : SE t n M a xa) (hr : SEs t n M r xs) : SEs t n M (.cons a r) (xa :: xs) := fun X W O => by
  refine PA.weak (pa_cons (ha X W O) (hr X W O) (star_plain hp _ _)) fun σ H Q ⟨T, Fr, μ, s, S, a⟩ => ?_
  unfold evs at a
  refine rd_bind S a fun T1 μ1 H1 x w1 s1 e1 p1 S1 r1 a => rd_bind S1 a fun T2 μ2 H2 ys ws s2 e2 p2 S2 r2 a => ?_
  exact a.here S2 ⟨x, ys, rfl, RepR.mono e2 p2 r1, r2⟩
theorem RepRs.star {k : Kx} {T : Hp} {μ : List Addr} {σ : St} {ws : List W} {ys : List V} (h' : RepRs k T μ σ ws ys) : ∀ {l : List D} {vs : List V}, Reps k T l vs → RepRs k T μ σ (l.map Pc.W.d ++ ws) (vs ++ ys)
  | [], _, h => by cases (show _ = [] from h); exact h'
  | d :: l, _, h => by
    obtain ⟨v, r, rfl, h1, h2⟩ := h
    exact ⟨v, _, rfl, h1, RepRs.star h' h2⟩
theorem ss_star {a : Ex} {r : Exs} {xa : Expr} {p : Pos} {xs : List Expr} (ha : SE t n M a xa) (hr : SEs t n M r xs) : SEs t n M (.star a r) (.Starred xa p :: xs) := fun X W O => by
  refine PA.weak (StX.pa_star (ha X W O) (hr X W O)) fun σ H Q ⟨T, Fr, μ, s, S, a⟩ => ?_
  unfold evs at a
  refine rd_bind S a fun T1 μ1 H1 x w1 s1 e1 p1 S1 r1 a => ?_
  have go : ∀ l, (Rep (t.k X) T1 (.lst l) x ∨ Rep (t.k X) T1 (.tup l) x) → Aft (t.k X) T1 Fr μ1 W σ (rL (t.k X)) Q ((evs (t.o n) r s1).bind fun xs s2 => .ok (l.map Pc.W.d ++ xs) s2) →
      ∃ p xs_1, x = .ref p ∧ (SqT X.K H1 p xs_1 ∨ SqL X.K H1 p xs_1) ∧ rd (t.k X) W (rL (t.k X)) (evs (t.o n) r) σ H1 fun ys H2 => Q (xs_1 ++ ys) H2 := by
    intro l hl a
    obtain ⟨p, vs, rfl, h1, h2⟩ : ∃ p vs, x = .ref p ∧ (SqT X.K H1 p vs ∨ SqL X.K H1 p vs) ∧ Reps (t.k X) T1 l vs := by
      rcases hl with hl | hl
      · obtain ⟨p, vs, e, h1, h2⟩ := hl
        exact ⟨p, vs, e, .inr (SqL.of (S1.tH _ _ h1)), h2⟩
      · obtain ⟨p, vs, e, h1, h2⟩ := hl
        exact ⟨p, vs, e, .inl (sqT_same S1.tH h1), h2⟩
    refine ⟨p, vs, rfl, h1, rd_bind S1 a fun T2 μ2 H2 ys ws s2 e2 p2 S2 r2 a => ?_⟩
    exact a.here S2 (RepRs.star r2 (h2.mono e2))
  split at a
  · exact go _ (.inl r1) a
  · exact go _ (.inr r1) a
  · exact a.elim
theorem s_tup {es : Exs} {xs : List Expr} {j : Nat} {pos : Pos} (h : SEs t n M es xs) : SE t n M (.tup es) (.Tuple xs j pos) := fun X W O => by
  refine PE.weak (pe_tup (h X W O)) fun σ H Q ⟨T, Fr, μ, s, S, a⟩ => ?_
  unfold ev at a
  refine rd_bind S a fun T1 μ1 H1 vs ws s1 e1 p1 S1 r1 a => ?_
  split at a
  · rename_i ds hd
    have rr := RepRs.ds r1 hd
    split at a
    · rename_i hz
      refine ⟨by rw [rr.len]; exact hz, fun p hp => ?_⟩
      exact a _ μ1 _ _ (upd_none (S1.tn hp)) (List.prefix_refl _) (S1.new hp) ⟨p, vs, rfl, SqT.of upd_same, rr.mono (upd_none (S1.tn hp))⟩
    · exact a.elim
  · exact a.elim
theorem s_mk {f : Fx} {x : Expr} (h : SF t n M f x) : SE t n M (.mk f) x := fun X W O => by
  refine PE.weak (h X W O) fun σ H Q ⟨T, Fr, μ, s, S, a⟩ => ?_
  unfold ev at a
  refine rd_bind S a fun T1 μ1 H1 v l s1 e1 p1 S1 r1 a => ?_
  obtain ⟨p, rfl, S2⟩ := S1.share r1
  exact a T1 (μ1 ++ [p]) H1 _ (same_refl _) (List.prefix_append _ _) S2 ⟨p, by rw [← S1.len]; simp, rfl⟩
theorem s_fz {f : Fx} {x : Expr} (h : SF t n M f x) : SE t n M (.fz f) x := fun X W O => by
  refine PE.weak (h X W O) fun σ H Q ⟨T, Fr, μ, s, S, a⟩ => ?_
  unfold ev at a
  refine rd_bind S a fun T1 μ1 H1 v l s1 e1 p1 S1 r1 a => ?_
  obtain ⟨T2, e2, S2, r2⟩ := S1.keep r1
  exact a T2 μ1 H1 v e2 (List.prefix_refl _) S2 r2
theorem sf_disp {es : Exs} {xs : List Expr} {pos : Pos} (h : SEs t n M es xs) : SF t n M (.disp es) (.List xs pos) := fun X W O => by
  refine PE.weak (pe_lst (h X W O)) fun σ H Q ⟨T, Fr, μ, s, S, a⟩ => ?_
  unfold evF at a
  refine rd_bind S a fun T1 μ1 H1 vs ws s1 e1 p1 S1 r1 a => ?_
  split at a
  · rename_i ds hd
    have rr := RepRs.ds r1 hd
    split at a
    · rename_i hz
      refine ⟨by rw [rr.len]; exact hz, fun p hp => ?_⟩
      exact a T1 μ1 _ _ (same_refl _) (List.prefix_refl _) (S1.loose hp) (S1.fresh hp rr)
    · exact a.elim
  · exact a.elim
theorem ixD_eq (n : Nat) (i : Int) : ixD n i = ixN n i := rfl
def plainIxB : Expr → Bool
  | .Slice _ _ _ _ => false
  | _ => true
theorem plainIx_of {e : Expr} (h : plainIxB e = true) : PlainIx e := fun o i => by
  cases e <;> first | rfl | cases h
theorem at_reps {k : Kx} {T : Hp} {l : List D} {vs : List V} {i : Int} {d : D} (r : Reps k T l vs) (h : ((ixD l.length i).bind fun j => l[j]?) = some d) : ∃ v, atI vs i = some v ∧ Rep k T d v := by
  obtain ⟨j, h1, h2⟩ := Option.bind_eq_some_iff.mp h
  obtain ⟨v, h3, h4⟩ := r.get h2
  refine ⟨v, ?_, h4⟩
  unfold atI
  rw [r.len, ← ixD_eq, h1]
  exact h3
theorem s_sub {a i : Ex} {xa xi : Expr} {pos : Pos} (hp : plainIxB xi = true) (ha : SE t n M a xa) (hi : SE t n M i xi) : SE t n M (.sub a i) (.Subscript xa xi pos) := fun X W O => by
  refine PE.weak (pe_ix ix_seq (ha X W O) (hi X W O) (plainIx_of hp)) fun σ H Q ⟨T, Fr, μ, s, S, a⟩ => ?_
  unfold ev at a
  refine rd_bind S a fun T1 μ1 H1 x w1 s1 e1 p1 S1 r1 a => rd_bind S1 a fun T2 μ2 H2 y w2 s2 e2 p2 S2 r2 a => ?_
  split at a
  · rename_i p q hp hq
    obtain ⟨w, hw, a1⟩ := Aft.of a
    clear a
    obtain ⟨d, hd, e⟩ := map_some hw
    subst e
    have tp := S2.look (r1.mono e2 p2) hp
    have tq : Rep (t.k X) T2 q y := by
      cases w2 with
      | d z => cases hq; exact r2
      | c _ => cases hq
      | b _ => cases hq
    unfold subD at hd
    split at hd
    · rename_i l j
      cases (show y = _ from tq)
      obtain ⟨b, vs, rfl, h1, h2⟩ := tp
      obtain ⟨v, h3, h4⟩ := at_reps h2 hd
      exact .inl ⟨b, vs, j, v, rfl, rfl, .inl h1, h3, a1.hereE S2 h4⟩
    · rename_i l j
      cases (show y = _ from tq)
      obtain ⟨b, vs, rfl, h1, h2⟩ := (show Rep (t.k X) T2 (.tup l) x from tp)
      obtain ⟨v, h3, h4⟩ := at_reps h2 hd
      exact .inr (.inl ⟨b, vs, j, v, rfl, rfl, sqT_same S2.tH h1, h3, a1.hereE S2 h4⟩)
    · rename_i z j
      cases (show y = _ from tq); cases (show x = _ from tp)
      split at hd
      · rename_i hz
        obtain ⟨c, h1, rfl⟩ := map_some hd
        exact .inr (.inr ⟨z, j, c, rfl, rfl, hz, h1, a1.here S2 rfl⟩)
      · cases hd
    · cases hd
  · exact a.elim
theorem so_no : SO t n M .no none := fun X W O => PO.weak po_none fun σ H Q ⟨T, Fr, μ, s, S, a⟩ => by unfold evo at a; exact a.here S rfl
theorem so_so {e : Ex} {x : Expr} (h : SE t n M e x) : SO t n M (.so e) (some x) := fun X W O => by
  refine PO.weak (po_some (h X W O)) fun σ H Q ⟨T, Fr, μ, s, S, a⟩ => ?_
  unfold evo at a
  refine rd_bind S a fun T1 μ1 H1 x w1 s1 e1 p1 S1 r1 a => ?_
  split at a
  · rename_i i
    exact ⟨i, r1, a.here S1 rfl⟩
  · exact a.elim
theorem reps_cut {k : Kx} {T : Hp} {l : List D} {vs : List V} (r : Reps k T l vs) (lo hi : Option Int) : Reps k T (cutD l lo hi) (cutV vs lo hi) := by
  unfold cutD cutV
  rw [r.len]
  exact (r.drop _).take _
theorem s_sli {a : Ex} {lo hi : Exo} {xa : Expr} {xl xh : Option Expr} {p2 pos : Pos} (ha : SE t n M a xa) (hl : SO t n M lo xl) (hh : SO t n M hi xh) : SE t n M (.sli a lo hi) (.Subscript xa (.Slice xl xh none p2) pos) := fun X W O => by
  refine PE.weak (pe_slice (SlR.or sl_tupA sl_str) (ha X W O) (hl X W O) (hh X W O)) fun σ H Q ⟨T, Fr, μ, s, S, a⟩ => ?_
  unfold ev at a
  refine rd_bind S a fun T1 μ1 H1 x w1 s1 e1 p1 S1 r1 a => rd_bind S1 a fun T2 μ2 H2 l l' s2 e2 p2 S2 r2 a => rd_bind S2 a fun T3 μ3 H3 h h' s3 e3 p3 S3 r3 a => ?_
  cases (show l' = l from r2); cases (show h' = h from r3)
  split at a
  · rename_i p hp
    obtain ⟨w, hw, a1⟩ := Aft.of a
    clear a
    obtain ⟨d, hd, e⟩ := map_some hw
    subst e
    have tp := S3.look ((r1.mono e2 p2).mono e3 p3) hp
    unfold sliD at hd
    split at hd
    · rename_i m
      cases hd
      obtain ⟨b, vs, rfl, h1, h2⟩ := (show Rep (t.k X) T3 (.tup m) x from tp)
      refine .inl ⟨b, vs, rfl, sqT_same S3.tH h1, fun hw => ?_, fun _ p hp => ?_⟩
      · have e : cutV vs l h = vs := by
          unfold cutV
          rw [hw.1, hw.2]
          simp
        refine a1.here S3 ⟨b, vs, rfl, h1, ?_⟩
        have q := reps_cut h2 l h
        rw [e] at q
        exact q
      · have hT := upd_none (o := .tup (cutV vs l h)) (S3.tn hp)
        exact a1 _ μ3 _ _ hT (List.prefix_refl _) (S3.new hp) ⟨p, _, rfl, SqT.of upd_same, (reps_cut h2 l h).mono hT⟩
    · rename_i z
      obtain ⟨hb, e⟩ := optB_some hd
      subst e
      cases (show x = _ from tp)
      exact .inr ⟨z, rfl, of_decide_eq_true hb, a1.here S3 rfl⟩
    · cases hd
  · exact a.elim
theorem sf_sli {a : Ex} {lo hi : Exo} {xa : Expr} {xl xh : Option Expr} {p2 pos : Pos} (ha : SE t n M a xa) (hl : SO t n M lo xl) (hh : SO t n M hi xh) : SF t n M (.sli a lo hi) (.Subscript xa (.Slice xl xh none p2) pos) := fun X W O => by
  refine PE.weak (pe_slice sl_list (ha X W O) (hl X W O) (hh X W O)) fun σ H Q ⟨T, Fr, μ, s, S, a⟩ => ?_
  unfold evF at a
  refine rd_bind S a fun T1 μ1 H1 x w1 s1 e1 p1 S1 r1 a => rd_bind S1 a fun T2 μ2 H2 l l' s2 e2 p2 S2 r2 a => rd_bind S2 a fun T3 μ3 H3 h h' s3 e3 p3 S3 r3 a => ?_
  cases (show l' = l from r2); cases (show h' = h from r3)
  split at a
  · rename_i m hm
    obtain ⟨b, vs, rfl, h1, h2⟩ := S3.look ((r1.mono e2 p2).mono e3 p3) hm
    refine ⟨b, vs, rfl, .inl h1, fun p hp => ?_⟩
    exact a T3 μ3 _ _ (same_refl _) (List.prefix_refl _) (S3.loose hp) (S3.fresh hp (reps_cut h2 l h))
  · exact a.elim
theorem sf_rev {a : Ex} {xa : Expr} {j : Nat} {p1 p2 p3 pos : Pos} (ha : SE t n M a xa) : SF t n M (.rev a) (.Subscript xa (.Slice none none (some (.UnaryOp .USub (.Constant (.int 1) j p1) p2)) p3) pos) := fun X W O => by
  refine PE.weak (pe_revL (ha X W O)) fun σ H Q ⟨T, Fr, μ, s, S, a⟩ => ?_
  unfold evF at a
  refine rd_bind S a fun T1 μ1 H1 x w1 s1 e1 p1 S1 r1 a => ?_
  split at a
  · rename_i m hm
    obtain ⟨b, vs, rfl, h1, h2⟩ := S1.look r1 hm
    refine ⟨b, vs, rfl, .inl h1, fun p hp => ?_⟩
    exact a T1 μ1 _ _ (same_refl _) (List.prefix_refl _) (S1.loose hp) (S1.fresh hp h2.rev)
  · exact a.elim
/-- a list that stands as a tracked one -/
theorem sf_cat {a b : Ex} {xa xb : Expr} {pos : Pos} (ha : SE t n M a xa) (hb : SE t n M b xb) : SF t n M (.cat a b) (.BinOp xa .Add xb pos) := fun X W O => by
  refine PE.weak (pe_op op_cat (ha X W O) (hb X W O)) fun σ H Q ⟨T, Fr, μ, s, S, a⟩ => ?_
  unfold evF at a
  refine rd_bind S a fun T1 μ1 H1 x w1 s1 e1 p1 S1 r1 a => rd_bind S1 a fun T2 μ2 H2 y w2 s2 e2 p2 S2 r2 a => ?_
  split at a
  · rename_i l m hl hm
    obtain ⟨c, vs, rfl, h1, h2⟩ := S2.lookL (RepR.mono e2 p2 r1) hl
    obtain ⟨c', ws, rfl, h3, h4⟩ := S2.lookL r2 hm
    split at a
    · rename_i hz
      refine ⟨c, c', vs, ws, rfl, rfl, h1, h3, by rw [h2.len, h4.len]; exact hz, fun p hp => ?_⟩
      exact a T2 μ2 _ _ (same_refl _) (List.prefix_refl _) (S2.loose hp) (S2.fresh hp (h2.app h4))
    · exact a.elim
  · exact a.elim
end
end Pc

set_option Elab.async false
set_option linter.all false
set_option maxRecDepth 100000
set_option maxHeartbeats 4000000
namespace Pc
open PySem L2
section
variable {t : Tb} {n : Nat} {M : Mc} {X : Cx}
def Tops (k : Kx) (T H : Hp) : List D → List V → Prop
  | [], vs => vs = []
  | d :: l, vs => ∃ v r, vs = v :: r ∧ Top k T H d v ∧ Tops k T H l r
theorem Sim.looks {k : Kx} {T Fr H : Hp} {μ : List Addr} {s : Ss} {σ : L2.St} (S : Sim k T Fr μ s σ H) : ∀ {ws : List W} {vs : List V} {ds : List D}, RepRs k T μ σ ws vs → looks s ws = some ds → Tops k T H ds vs
  | [], vs, ds, h, e => by cases e; exact h
  | w :: l, vs, ds, ⟨v, r, e1, h1, h2⟩, e => by
    unfold Pc.looks at e
    split at e
    · rename_i a b ha hb
      cases e
      exact ⟨v, r, e1, S.look h1 ha, S.looks h2 hb⟩
    · cases e
theorem Reps.ints {k : Kx} {T : Hp} : ∀ {l : List D} {vs : List V} {ns : List Int}, Reps k T l vs → intsOf l = some ns → vs = ns.map V.int
  | [], vs, ns, h, e => by cases e; exact h
  | d :: l, vs, ns, h, e => by
    obtain ⟨v, r, rfl, h1, h2⟩ := h
    cases d <;> first | (cases e; done) | skip
    obtain ⟨m, e1, rfl⟩ := map_some (show (intsOf l).map _ = _ from e)
    rw [Reps.ints h2 e1]
    exact congrArg (· :: _) h1
theorem Reps.bls {k : Kx} {T : Hp} : ∀ {l : List D} {vs : List V} {ns : List Bool}, Reps k T l vs → blsOf l = some ns → vs = ns.map V.bl
  | [], vs, ns, h, e => by cases e; exact h
  | d :: l, vs, ns, h, e => by
    obtain ⟨v, r, rfl, h1, h2⟩ := h
    cases d <;> first | (cases e; done) | skip
    obtain ⟨m, e1, rfl⟩ := map_some (show (blsOf l).map _ = _ from e)
    rw [Reps.bls h2 e1]
    exact congrArg (· :: _) h1
theorem Reps.strs {k : Kx} {T : Hp} : ∀ {l : List D} {vs : List V} {ns : List Str}, Reps k T l vs → strsOf l = some ns → vs = ns.map V.str
  | [], vs, ns, h, e => by cases e; exact h
  | d :: l, vs, ns, h, e => by
    obtain ⟨v, r, rfl, h1, h2⟩ := h
    cases d <;> first | (cases e; done) | skip
    obtain ⟨m, e1, rfl⟩ := map_some (show (strsOf l).map _ = _ from e)
    rw [Reps.strs h2 e1]
    exact congrArg (· :: _) h1
/-- repr of data -/
theorem call_repr_D (hg : X.A.guards = some []) (hu : X.A.units + 66 < cLine) : CallR X (.builtin "repr") (fun xs H Q => ∃ v d, xs = [v] ∧ Dp X.K H v d ∧ d.depth ≤ 64 ∧ d.hasDict = false ∧ d.showable = true ∧ d.shown.length ≤ sizeLine ∧ Q (.str d.shown) H) := by
  intro pins s σ H xs us Q I r h
  obtain ⟨v, d, rfl, hd, h1, hnd, h2, h3, q⟩ := h
  obtain ⟨u, rfl, ru⟩ := vals1 r
  obtain ⟨as, hr⟩ := Dp.reads I d v u hd ru
  have fin : ∀ tk tk', EP X pins σ Q (.str d.shown tk) { s with toks := tk' } := fun tk tk' => ⟨.str d.shown, H, I.tok tk', ⟨_, rfl⟩, q⟩
  cases hr with
  | none =>
    simp only [PyData.shown] at fin
    exact PySem.P.repr_of_none (fin _ _)
  | bool b =>
    simp only [PyData.shown] at fin
    exact PySem.P.repr_of_bool (fin _ _)
  | int i t =>
    simp only [PyData.shown] at fin
    exact PySem.P.repr_of_int (by simpa [PyData.showable] using h2) (fin _ _)
  | str x t =>
    simp only [PyData.shown] at fin h3
    exact PySem.P.repr_of_str (fin _ _) h3
  | list e1 e2 e3 e4 =>
    refine repr_of_reads' (.list e1 e2 e3 e4) h2 (fun e => by rw [hnd] at e; cases e) hg (by omega) (fun _ _ e => e) (fun h' u tk hk => ?_) h3
    exact ⟨.str _, H, I.kept (t' := tk) hk, ⟨_, rfl⟩, q⟩
  | tuple e1 e2 e3 e4 =>
    refine repr_of_reads' (.tuple e1 e2 e3 e4) h2 (fun e => by rw [hnd] at e; cases e) hg (by omega) (fun _ _ e => e) (fun h' u tk hk => ?_) h3
    exact ⟨.str _, H, I.kept (t' := tk) hk, ⟨_, rfl⟩, q⟩
  | dict _ _ _ _ _ => cases hd
mutual
theorem py_nodict : ∀ {x : D} {d : PyData}, D.py x = some d → d.hasDict = false
  | .non, d, e => by cases e; rfl
  | .bl _, d, e => by cases e; rfl
  | .int _, d, e => by cases e; rfl
  | .str _, d, e => by cases e; rfl
  | .tup l, d, e => by
    unfold D.py at e
    obtain ⟨ps, e1, rfl⟩ := map_some e
    simp only [PyData.hasDict]
    exact pys_nodict e1
  | .lst l, d, e => by
    unfold D.py at e
    obtain ⟨ps, e1, rfl⟩ := map_some e
    simp only [PyData.hasDict]
    exact pys_nodict e1
  | .obj _ _ _, d, e => by cases e
theorem pys_nodict : ∀ {x : List D} {d : List PyData}, D.pys x = some d → PyData.hasDictAll d = false
  | [], d, e => by cases e; rfl
  | x :: l, d, e => by
    unfold D.pys at e
    split at e
    · rename_i a b ha hb
      cases e
      simp only [PyData.hasDictAll, py_nodict ha, pys_nodict hb, Bool.or_self]
    · cases e
end
def rBi (k : Kx) (b : Bi) : List V → Hp → VK → Prop := fun vs H Q => ∃ T Fr μ s σ ds d, Sim k T Fr μ s σ H ∧ Tops k T H ds vs ∧ biD b ds = some d ∧
  ∀ T' H' v, Same T T' → Sim k T' Fr μ s σ H' → Rep k T' d v → Q v H'
def biVal : Bi → Value
  | .len => .builtin "len"
  | .int => .type "int"
  | .str => .type "str"
  | .bool => .type "bool"
  | .abs => .builtin "abs"
  | .all => .builtin "all"
  | .any => .builtin "any"
  | .sum => .builtin "sum"
  | .repr => .builtin "repr"
  | .tuple => .type "tuple"
  | .max2 => .builtin "max"
  | .min2 => .builtin "min"
def biName : Bi → Str
  | .len => "len"
  | .int => "int"
  | .str => "str"
  | .bool => "bool"
  | .abs => "abs"
  | .all => "all"
  | .any => "any"
  | .sum => "sum"
  | .repr => "repr"
  | .tuple => "tuple"
  | .max2 => "max"
  | .min2 => "min"
theorem Tops.one {k : Kx} {T H : Hp} {d : D} {vs : List V} (h : Tops k T H [d] vs) : ∃ v, vs = [v] ∧ Top k T H d v := by
  obtain ⟨v, r, rfl, h1, h2⟩ := h
  cases (show r = [] from h2)
  exact ⟨v, rfl, h1⟩
theorem Tops.two {k : Kx} {T H : Hp} {d e : D} {vs : List V} (h : Tops k T H [d, e] vs) : ∃ v w, vs = [v, w] ∧ Top k T H d v ∧ Top k T H e w := by
  obtain ⟨v, r, rfl, h1, h2⟩ := h
  obtain ⟨w, rfl, h3⟩ := Tops.one h2
  exact ⟨v, w, rfl, h1, h3⟩
section
variable {W : WX}
theorem biR_len : CallR X (.builtin "len") (rBi (t.k X) .len) := by
  intro pins s σ H xs us Q I r ⟨T, Fr, μ, s', σ', ds, d, S, tp, hd, hQ⟩
  unfold biD at hd
  split at hd <;> first | contradiction | (cases hd; done) | skip
  · cases hd
    obtain ⟨v, rfl, h⟩ := tp.one
    obtain ⟨a, vs, rfl, h1, h2⟩ := h
    exact call_len_seq pins s σ H _ us Q I r ⟨a, vs, rfl, .inl (.inl h1), by rw [h2.len]; exact hQ T H _ (same_refl _) S rfl⟩
  · rename_i l _
    cases hd
    obtain ⟨v, rfl, h⟩ := tp.one
    obtain ⟨a, vs, rfl, h1, h2⟩ := (show Rep (t.k X) T (.tup l) v from h)
    exact call_len_seq pins s σ H _ us Q I r ⟨a, vs, rfl, .inr (sqT_same S.tH h1), by rw [h2.len]; exact hQ T H _ (same_refl _) S rfl⟩
  · obtain ⟨hb, e⟩ := optB_some hd
    subst e
    obtain ⟨v, rfl, h⟩ := tp.one
    cases (show v = _ from h)
    exact call_len_str pins s σ H _ us Q I r ⟨_, rfl, of_decide_eq_true hb, hQ T H _ (same_refl _) S rfl⟩
theorem biR_int : CallR X (.type "int") (rBi (t.k X) .int) := by
  intro pins s σ H xs us Q I r ⟨T, Fr, μ, s', σ', ds, d, S, tp, hd, hQ⟩
  unfold biD at hd
  split at hd <;> first | contradiction | (cases hd; done) | skip
  · cases hd
    obtain ⟨v, rfl, h⟩ := tp.one
    cases (show v = _ from h)
    exact call_int1 pins s σ H _ us Q I r (.inl ⟨_, rfl, hQ T H _ (same_refl _) S rfl⟩)
  · cases hd
    obtain ⟨v, rfl, h⟩ := tp.one
    cases (show v = _ from h)
    exact call_int1 pins s σ H _ us Q I r (.inr ⟨_, rfl, hQ T H _ (same_refl _) S rfl⟩)
theorem biR_bool : CallR X (.type "bool") (rBi (t.k X) .bool) := by
  intro pins s σ H xs us Q I r ⟨T, Fr, μ, s', σ', ds, d, S, tp, hd, hQ⟩
  unfold biD at hd
  split at hd <;> first | contradiction | (cases hd; done) | skip
  · cases hd
    obtain ⟨v, rfl, h⟩ := tp.one
    cases (show v = _ from h)
    exact call_bool1 pins s σ H _ us Q I r (.inl ⟨_, rfl, hQ T H _ (same_refl _) S rfl⟩)
  · cases hd
    obtain ⟨v, rfl, h⟩ := tp.one
    cases (show v = _ from h)
    exact call_bool1 pins s σ H _ us Q I r (.inr ⟨_, rfl, hQ T H _ (same_refl _) S rfl⟩)
theorem biR_str : CallR X (.type "str") (rBi (t.k X) .str) := by
  intro pins s σ H xs us Q I r ⟨T, Fr, μ, s', σ', ds, d, S, tp, hd, hQ⟩
  unfold biD at hd
  split at hd <;> first | contradiction | (cases hd; done) | skip
  obtain ⟨hb, e⟩ := optB_some hd
  subst e
  obtain ⟨v, rfl, h⟩ := tp.one
  cases (show v = _ from h)
  exact call_str_int pins s σ H _ us Q I r ⟨_, rfl, of_decide_eq_true hb, hQ T H _ (same_refl _) S rfl⟩
theorem biR_abs : CallR X (.builtin "abs") (rBi (t.k X) .abs) := by
  intro pins s σ H xs us Q I r ⟨T, Fr, μ, s', σ', ds, d, S, tp, hd, hQ⟩
  unfold biD at hd
  split at hd <;> first | contradiction | (cases hd; done) | skip
  cases hd
  obtain ⟨v, rfl, h⟩ := tp.one
  cases (show v = _ from h)
  exact call_abs pins s σ H _ us Q I r ⟨_, rfl, hQ T H _ (same_refl _) S rfl⟩
theorem biR_all (hc : X.calm = true) : CallR X (.builtin "all") (rBi (t.k X) .all) := by
  intro pins s σ H xs us Q I r ⟨T, Fr, μ, s', σ', ds, d, S, tp, hd, hQ⟩
  unfold biD at hd
  split at hd <;> first | contradiction | (cases hd; done) | skip
  obtain ⟨bs, e1, rfl⟩ := map_some hd
  obtain ⟨v, rfl, h⟩ := tp.one
  obtain ⟨a, vs, rfl, h1, h2⟩ := h
  rw [h2.bls e1] at h1
  exact cr_all hc pins s σ H _ us Q I r ⟨a, bs, rfl, .inl h1, hQ T H _ (same_refl _) S rfl⟩
theorem biR_any (hc : X.calm = true) : CallR X (.builtin "any") (rBi (t.k X) .any) := by
  intro pins s σ H xs us Q I r ⟨T, Fr, μ, s', σ', ds, d, S, tp, hd, hQ⟩
  unfold biD at hd
  split at hd <;> first | contradiction | (cases hd; done) | skip
  obtain ⟨bs, e1, rfl⟩ := map_some hd
  obtain ⟨v, rfl, h⟩ := tp.one
  obtain ⟨a, vs, rfl, h1, h2⟩ := h
  rw [h2.bls e1] at h1
  exact cr_any hc pins s σ H _ us Q I r ⟨a, bs, rfl, .inl h1, hQ T H _ (same_refl _) S rfl⟩
theorem biR_sum (hc : X.calm = true) : CallR X (.builtin "sum") (rBi (t.k X) .sum) := by
  intro pins s σ H xs us Q I r ⟨T, Fr, μ, s', σ', ds, d, S, tp, hd, hQ⟩
  unfold biD at hd
  split at hd <;> first | contradiction | (cases hd; done) | skip
  obtain ⟨bs, e1, rfl⟩ := map_some hd
  obtain ⟨v, rfl, h⟩ := tp.one
  obtain ⟨a, vs, rfl, h1, h2⟩ := h
  rw [h2.ints e1] at h1
  exact cr_sum hc pins s σ H _ us Q I r ⟨a, bs, rfl, .inl h1, hQ T H _ (same_refl _) S rfl⟩
theorem biR_repr (hg : X.A.guards = some []) (hu : X.A.units + 66 < cLine) : CallR X (.builtin "repr") (rBi (t.k X) .repr) := by
  intro pins s σ H xs us Q I r ⟨T, Fr, μ, s', σ', ds, d, S, tp, hd, hQ⟩
  unfold biD at hd
  split at hd <;> first | contradiction | (cases hd; done) | skip
  obtain ⟨p, e1, e2⟩ := Option.bind_eq_some_iff.mp hd
  obtain ⟨hb, e⟩ := optB_some e2
  subst e
  simp only [Bool.and_eq_true, decide_eq_true_eq] at hb
  obtain ⟨v, rfl, h⟩ := tp.one
  exact call_repr_D hg hu pins s σ H _ us Q I r ⟨v, p, rfl, h.dp S.tH e1, hb.2, py_nodict e1, hb.1.1, hb.1.2, hQ T H _ (same_refl _) S rfl⟩
theorem biR_tuple : CallR X (.type "tuple") (rBi (t.k X) .tuple) := by
  intro pins s σ H xs us Q I r ⟨T, Fr, μ, s', σ', ds, d, S, tp, hd, hQ⟩
  unfold biD at hd
  split at hd <;> first | contradiction | (cases hd; done) | skip
  · cases hd
    obtain ⟨v, rfl, h⟩ := tp.one
    obtain ⟨a, vs, rfl, h1, h2⟩ := h
    refine call_tuple_of pins s σ H _ us Q I r ⟨a, vs, rfl, .inl ⟨.inl h1, fun p hp => ?_⟩⟩
    have hT := upd_none (o := .tup vs) (S.tn hp)
    exact hQ _ _ _ hT (S.new hp) ⟨p, vs, rfl, SqT.of upd_same, h2.mono hT⟩
  · rename_i l _
    cases hd
    obtain ⟨v, rfl, h⟩ := tp.one
    obtain ⟨a, vs, rfl, h1, h2⟩ := (show Rep (t.k X) T (.tup l) v from h)
    exact call_tuple_of pins s σ H _ us Q I r ⟨a, vs, rfl, .inr ⟨sqT_same S.tH h1, hQ T H _ (same_refl _) S ⟨a, vs, rfl, h1, h2⟩⟩⟩
theorem biR_max2 (hc : X.calm = true) : CallR X (.builtin "max") (rBi (t.k X) .max2) := by
  intro pins s σ H xs us Q I r ⟨T, Fr, μ, s', σ', ds, d, S, tp, hd, hQ⟩
  unfold biD at hd
  split at hd <;> first | contradiction | (cases hd; done) | skip
  cases hd
  obtain ⟨v, w, rfl, h, h'⟩ := tp.two
  cases (show v = _ from h); cases (show w = _ from h')
  exact call_max2 hc pins s σ H _ us Q I r ⟨_, _, rfl, hQ T H _ (same_refl _) S rfl⟩
theorem biR_min2 (hc : X.calm = true) : CallR X (.builtin "min") (rBi (t.k X) .min2) := by
  intro pins s σ H xs us Q I r ⟨T, Fr, μ, s', σ', ds, d, S, tp, hd, hQ⟩
  unfold biD at hd
  split at hd <;> first | contradiction | (cases hd; done) | skip
  cases hd
  obtain ⟨v, w, rfl, h, h'⟩ := tp.two
  cases (show v = _ from h); cases (show w = _ from h')
  exact call_min2 hc pins s σ H _ us Q I r ⟨_, _, rfl, hQ T H _ (same_refl _) S rfl⟩
/-- arguments without stars -/
theorem none_star {es : List Expr} (h : es.all plainArg = true) (pos : Pos) (env : Env) : (backTo pos (starEach es env)).any (·.1) = false := by
  induction es with
  | nil => rfl
  | cons e es ih =>
    simp only [List.all_cons, Bool.and_eq_true] at h
    rw [star_plain h.1]
    show (false || (backTo pos (starEach es env)).any (·.1)) = false
    rw [ih h.2]; rfl
theorem pe_bi {id : String} {ty : String} {x : Str} {p pos : Pos} {v : Value} {e : Expr} {es : List Expr} {r : List V → Hp → VK → Prop} {ta : TA} (hv : v = .builtin id ∨ v = .type ty) (hc : CallR X v r) (O : Ok t n M X W) (hg : glB M.sc x = true) (hn : plainName x = true) (hf : t.free x = true) (hb : bootBuiltins x = some v)
    (hp : (e :: es).all plainArg = true) (ha : PA X (e :: es) ta) : PE X (.Call (.Name x p) (e :: es) [] pos) (tCB r ta) := by
  simp only [List.all_cons, Bool.and_eq_true] at hp
  rcases hv with rfl | rfl
  · exact pe_callB hc (glB_ok O hg) (O.fr _ hf) hb ha (plainName_c hn) (plainName_a hn) (star_plain hp.1 _ _) (none_star hp.2 _ _)
  · exact pe_callTy hc (glB_ok O hg) (O.fr _ hf) hb ha (plainName_c hn) (plainName_a hn) (star_plain hp.1 _ _) (none_star hp.2 _ _)
theorem Ok.u66 (O : Ok t n M X W) : X.A.units + 66 < cLine := by have := O.room.r.un; omega
theorem s_bi {b : Bi} {es : Exs} {e : Expr} {xs : List Expr} {x : Str} {p pos : Pos} (hx : decide (x = biName b) && glB M.sc x && plainName x && t.free x && (e :: xs).all plainArg = true) (ha : SEs t n M es (e :: xs)) : SE t n M (.bi b es) (.Call (.Name x p) (e :: xs) [] pos) := fun X W O => by
  simp only [Bool.and_eq_true, decide_eq_true_eq] at hx
  obtain ⟨⟨⟨⟨hx1, hx2⟩, hx3⟩, hx4⟩, hx5⟩ := hx
  have fin : CallR X (biVal b) (rBi (t.k X) b) → bootBuiltins x = some (biVal b) → PE X (.Call (.Name x p) (e :: xs) [] pos) (rd (t.k X) W (rE (t.k X)) (ev (t.o n) (.bi b es))) := fun hc hb => by
    refine PE.weak (pe_bi (id := match biVal b with | .builtin s => s | _ => "") (ty := match biVal b with | .type s => s | _ => "") (by cases b <;> first | exact .inl rfl | exact .inr rfl) hc O hx2 hx3 hx4 hb hx5 (ha X W O)) fun σ H Q ⟨T, Fr, μ, s, S, a⟩ => ?_
    unfold ev at a
    refine rd_bind S a fun T1 μ1 H1 vs ws s1 e1 p1 S1 r1 a => ?_
    split at a
    · rename_i ds hds
      obtain ⟨w, hw, a1⟩ := Aft.of a
      clear a
      obtain ⟨d, hd, e⟩ := map_some hw
      subst e
      exact ⟨T1, Fr, μ1, s1, σ, ds, d, S1, S1.looks r1 hds, hd, fun T' H' v e' S' r' => a1 T' μ1 H' v e' (List.prefix_refl _) S' r'⟩
    · exact a.elim
  subst hx1
  cases b
  · exact fin biR_len PySem.boot_len
  · exact fin biR_int PyProof.Rows.boot_int
  · exact fin biR_str PyProof.Rows.boot_str
  · exact fin biR_bool PyProof.Rows.boot_bool
  · exact fin biR_abs PyProof.Rows.boot_abs
  · exact fin (biR_all O.calm) PyProof.Rows.boot_all
  · exact fin (biR_any O.calm) PyProof.Rows.boot_any
  · exact fin (biR_sum O.calm) PyProof.Rows.boot_sum
  · exact fin (biR_repr O.room.g O.u66) PyProof.Rows.boot_repr
  · exact fin biR_tuple PyProof.Rows.boot_tuple
  · exact fin (biR_max2 O.calm) PyProof.Rows.boot_max
  · exact fin (biR_min2 O.calm) PyProof.Rows.boot_min
end
end
end Pc

set_option Elab.async false
set_option linter.all false
set_option maxRecDepth 100000
set_option maxHeartbeats 4000000
namespace Pc
open PySem L2
section
variable {t : Tb} {n : Nat} {M : Mc} {X : Cx}
def tyNames : List String := ["int", "bool", "str", "tuple", "list", "dict"]
theorem top_ty {k : Kx} {T H : Hp} {K : PySem.W.Frag} (hK : k.K = K) (e : Same T H) : ∀ {d : D} {v : V}, Top k T H d v → (∀ c ns l, d ≠ .obj c ns l) → TyX K H v (.type (tyD d))
  | .non, v, h, _ => by cases (show v = _ from h); exact .base .non
  | .bl b, v, h, _ => by cases (show v = _ from h); exact .base (.bl b)
  | .int b, v, h, _ => by cases (show v = _ from h); exact .base (.int b)
  | .str b, v, h, _ => by cases (show v = _ from h); exact .base (.str b)
  | .lst l, v, h, _ => by
    obtain ⟨a, vs, rfl, h1, h2⟩ := h
    rcases h1 with h1 | ⟨o, h1⟩
    · exact .base (.lst h1)
    · exact .base (.frz h1)
  | .tup l, v, h, _ => by
    obtain ⟨a, vs, rfl, h1, h2⟩ := (show Rep k T (.tup l) v from h)
    rcases sqT_same e h1 with (h1 | ⟨o, h1⟩) | ⟨o, its, m, h1, h2, _⟩
    · exact .base (.tup h1)
    · exact .fTuple h1
    · rw [hK] at h1; exact .kTuple h1 h2
  | .obj c ns l, v, h, q => absurd rfl (q c ns l)
theorem kit_all (K : PySem.W.Frag) : ∀ a ∈ ["NoneType", "bool", "int", "str", "tuple", "list"], ∀ b ∈ tyNames, PySem.W.kitOne K (.type a) (.type b) = some (if a = "bool" then (b == "bool" || b == "int") else (a == b)) := by
  have h : (["NoneType", "bool", "int", "str", "tuple", "list"].all fun a => tyNames.all fun b => kitB a b == some (if a = "bool" then (b == "bool" || b == "int") else (a == b))) = true := by decide +kernel
  intro a ha b hb
  simp only [List.all_eq_true] at h
  exact kit_ty (beq_iff_eq.mp (h a ha b hb))
theorem isi_kit {K : PySem.W.Frag} {p : D} {ty : String} {b : Bool} (hb : ty ∈ tyNames) (h : isiD p ty = some b) : (∀ c ns l, p ≠ .obj c ns l) ∧ PySem.W.kitOne K (.type (tyD p)) (.type ty) = some b := by
  cases p with
  | obj c ns l => cases h
  | bl x => exact ⟨(fun _ _ _ e => nomatch e), by rw [show tyD (.bl x) = "bool" from rfl, kit_all K _ (by simp) _ hb]; exact h⟩
  | non => exact ⟨(fun _ _ _ e => nomatch e), by rw [show tyD .non = "NoneType" from rfl, kit_all K _ (by simp) _ hb]; exact h⟩
  | int x => exact ⟨(fun _ _ _ e => nomatch e), by rw [show tyD (.int x) = "int" from rfl, kit_all K _ (by simp) _ hb]; exact h⟩
  | str x => exact ⟨(fun _ _ _ e => nomatch e), by rw [show tyD (.str x) = "str" from rfl, kit_all K _ (by simp) _ hb]; exact h⟩
  | tup x => exact ⟨(fun _ _ _ e => nomatch e), by rw [show tyD (.tup x) = "tuple" from rfl, kit_all K _ (by simp) _ hb]; exact h⟩
  | lst x => exact ⟨(fun _ _ _ e => nomatch e), by rw [show tyD (.lst x) = "list" from rfl, kit_all K _ (by simp) _ hb]; exact h⟩
theorem boot_ty : ∀ b ∈ tyNames, bootBuiltins (Str.ofString b) = some (.type b) := by
  intro b hb
  simp only [tyNames, List.mem_cons, List.mem_nil_iff, or_false] at hb
  rcases hb with rfl | rfl | rfl | rfl | rfl | rfl
  · exact PyProof.Rows.boot_int
  · exact PyProof.Rows.boot_bool
  · exact PyProof.Rows.boot_str
  · exact PyProof.Rows.boot_tuple
  · exact PyProof.Rows.boot_list
  · exact PyProof.Rows.boot_dict
theorem s_isi {a : Ex} {ty : String} {xa : Expr} {x y : Str} {p p2 pos : Pos} (hx : decide (x = "isinstance") && glB M.sc x && t.free x && plainArg xa && decide (y = Str.ofString ty) && glB M.sc y && plainName y && t.free y && decide (ty ∈ tyNames) = true) (ha : SE t n M a xa) :
    SE t n M (.isi a ty) (.Call (.Name x p) [xa, .Name y p2] [] pos) := fun X W O => by
  simp only [Bool.and_eq_true, decide_eq_true_eq] at hx
  obtain ⟨⟨⟨⟨⟨⟨⟨⟨hx1, hx2⟩, hx3⟩, hx4⟩, hx5⟩, hx6⟩, hx7⟩, hx8⟩, hx9⟩ := hx
  subst hx1 hx5
  have pb : PE X (.Name (Str.ofString ty) p2) (tC (.ty ty)) := pe_bltn (glB_ok O hx6) (O.fr _ hx8) (boot_ty ty hx9) rfl (plainName_c hx7) (plainName_a hx7)
  refine PE.weak (pe_callB call_isi (glB_ok O hx2) (O.fr _ hx3) PyProof.Rows.boot_isinstance (pa_cons (ha X W O) (pa_cons pb pa_nil) (star_plain hx4 _ _)) (by decide) (by decide) (star_plain hx4 _ _) rfl) fun σ H Q ⟨T, Fr, μ, s, S, a⟩ => ?_
  unfold ev at a
  refine rd_bind S a fun T1 μ1 H1 v w s1 e1 p1 S1 r1 a => ?_
  split at a
  · rename_i d hd
    obtain ⟨w', hw, a1⟩ := Aft.of a
    clear a
    obtain ⟨b, hb, e⟩ := map_some hw
    subst e
    obtain ⟨h1, h2⟩ := isi_kit (K := X.K) hx9 hb
    exact ⟨v, .ty ty, _, _, b, rfl, .ty ty, top_ty (K := X.K) rfl S1.tH (S1.look r1 hd) h1, h2, a1.hereE S1 rfl⟩
  · exact a.elim
def plainBase : Expr → Bool
  | .Call _ _ _ _ => false
  | _ => true
theorem base_plain {o : Expr} (h : plainBase o = true) (name : Str) (env : Env) (w : Sem Value) : attributeBase o name env w = w := by
  cases o <;> first | rfl | cases h
theorem s_join {o a : Ex} {xo xa : Expr} {apos pos : Pos} (hx : plainBase xo && plainArg xa && (apos.endLine == pos.line) = true) (ho : SE t n M o xo) (ha : SE t n M a xa) : SE t n M (.sm .join o a) (.Call (.Attribute xo "join" apos) [xa] [] pos) := fun X W O => by
  simp only [Bool.and_eq_true, decide_eq_true_eq] at hx
  refine PE.weak (pe_join (ho X W O) (ha X W O) (star_plain hx.1.2 _ _) (base_plain hx.1.1 _ _ _) hx.2) fun σ H Q ⟨T, Fr, μ, s, S, a⟩ => ?_
  unfold ev at a
  refine rd_bind S a fun T1 μ1 H1 v w s1 e1 p1 S1 r1 a => ?_
  split at a
  · rename_i z
    refine ⟨⟨z, r1⟩, rd_bind S1 a fun T2 μ2 H2 y w2 s2 e2 p2 S2 r2 a => ?_⟩
    split at a
    · rename_i q hq
      obtain ⟨w', hw, a1⟩ := Aft.of a
      clear a
      obtain ⟨d, hd, e⟩ := map_some hw
      subst e
      have tq := S2.look r2 hq
      have go : ∀ l, (Top (t.k X) T2 H2 (.lst l) y ∨ Top (t.k X) T2 H2 (.tup l) y) → ((strsOf l).bind fun ys => optB (decide ((ys.map (·.length)).sum + ys.length * z.length ≤ 16777216)) (D.str (Txt.join z ys))) = some d →
          ∃ a p, ∃ ys : List Str, v = .str a ∧ [y] = [.ref p] ∧ (SqL X.K H2 p (ys.map V.str) ∨ SqT X.K H2 p (ys.map V.str)) ∧ (ys.map (·.length)).sum + ys.length * a.length ≤ 16777216 ∧ Q (.str (Txt.join a ys)) H2 := by
        intro l hl hd
        obtain ⟨ys, e1, e2⟩ := Option.bind_eq_some_iff.mp hd
        obtain ⟨hb, e⟩ := optB_some e2
        subst e
        obtain ⟨c, vs, rfl, h1, h2⟩ := Top.seq (k := t.k X) S2.tH hl
        rw [h2.strs e1] at h1
        exact ⟨z, c, ys, r1, rfl, h1, of_decide_eq_true hb, a1.hereE S2 rfl⟩
      cases q with
      | lst l => exact go _ (.inl tq) hd
      | tup l => exact go _ (.inr tq) hd
      | _ => cases hd
    · exact a.elim
  · exact a.elim
/-- a part of an f-string -/
def partB : Ex → Expr → Bool
  | .k (.str z), .Constant (.str z') _ _ => decide (z = z')
  | _, _ => false
/-- the part's text -/
def tPt (k : Kx) (W : WX) (f : Ss → Res Pc.W) : TE := rd k W (fun _ _ _ _ _ _ (z : Str) (v : V) => v = .str z) fun s => (f s).bind fun x s1 => match look s1 x with
  | some d => Res.of (fmtD d) s1
  | none => .stuck
theorem pt_lit {z : Str} {j : Nat} {pos : Pos} {W : WX} (hz : z.length ≤ sizeLine) : PE X (.Constant (.str z) j pos) (tPt (t.k X) W (ev (t.o n) (.k (.str z)))) := by
  refine PE.weak pe_str fun σ H Q ⟨T, Fr, μ, s, S, a⟩ => ?_
  have e : fmtD (.str z) = some z := by simp [fmtD, optB, hz]
  unfold ev at a
  simp only [Res.bind, look, e, Res.of] at a
  exact a.here S rfl
theorem pt_fmt {e : Ex} {x : Expr} {pos : Pos} (h : SE t n M e x) {W : WX} (O : Ok t n M X W) : PE X (.FormattedValue x (-1) none pos) (tPt (t.k X) W (ev (t.o n) e)) := by
  refine PE.weak (pe_fmt (h X W O)) fun σ H Q ⟨T, Fr, μ, s, S, a⟩ => ?_
  refine rd_bind S a fun T1 μ1 H1 v w s1 e1 p1 S1 r1 a => ?_
  split at a
  · rename_i d hd
    obtain ⟨z, hz, a1⟩ := Aft.of a
    clear a
    have td := S1.look r1 hd
    unfold fmtD at hz
    split at hz
    · obtain ⟨hb, e⟩ := optB_some hz
      subst e
      exact .inl ⟨_, td, of_decide_eq_true hb, a1.here S1 rfl⟩
    · obtain ⟨hb, e⟩ := optB_some hz
      subst e
      exact .inr ⟨_, td, of_decide_eq_true hb, a1.here S1 rfl⟩
    · cases hz
  · exact a.elim
/-- the parts, each by its text -/
inductive SPs (t : Tb) (n : Nat) (M : Mc) : Exs → List Expr → Prop where
  | nil : SPs t n M .nil []
  | lit {z : Str} {j : Nat} {pos : Pos} {r : Exs} {xs : List Expr} (hz : z.length ≤ sizeLine) (h : SPs t n M r xs) : SPs t n M (.cons (.k (.str z)) r) (.Constant (.str z) j pos :: xs)
  | fmt {e : Ex} {x : Expr} {pos : Pos} {r : Exs} {xs : List Expr} (he : SE t n M e x) (h : SPs t n M r xs) : SPs t n M (.cons e r) (.FormattedValue x (-1) none pos :: xs)
def tsOf (k : Kx) (W : WX) (o : Or) : Exs → List TE
  | .nil => []
  | .cons e r => tPt k W (ev o e) :: tsOf k W o r
  | .star _ r => tsOf k W o r
theorem SPs.pj {W : WX} (O : Ok t n M X W) {es : Exs} {xs : List Expr} (h : SPs t n M es xs) : PJ X xs (tsOf (t.k X) W (t.o n) es) := by
  induction h with
  | nil => exact .nil
  | lit hz h ih => exact .cons (pt_lit hz) ih
  | fmt he h ih => exact .cons (pt_fmt he O) ih
theorem tjs_of {W : WX} {σ : L2.St} {Q : VK} {es : Exs} {xs : List Expr} (h : SPs t n M es xs) : ∀ {T Fr H : Hp} {μ : List Addr} {s : Ss} {acc : Str}, Sim (t.k X) T Fr μ s σ H →
    Aft (t.k X) T Fr μ W σ (rE (t.k X)) Q ((evJ (t.o n) es acc s).bind fun z s1 => .ok (.d (.str z)) s1) → tJs (tsOf (t.k X) W (t.o n) es) acc σ H fun out H1 => Q (.str out) H1 := by
  have step : ∀ {e : Ex} {r : Exs} {T Fr H : Hp} {μ : List Addr} {s : Ss} {acc : Str}, Sim (t.k X) T Fr μ s σ H → Aft (t.k X) T Fr μ W σ (rE (t.k X)) Q ((evJ (t.o n) (.cons e r) acc s).bind fun z s1 => .ok (.d (.str z)) s1) →
      (∀ {T Fr H : Hp} {μ : List Addr} {s : Ss} {acc : Str}, Sim (t.k X) T Fr μ s σ H → Aft (t.k X) T Fr μ W σ (rE (t.k X)) Q ((evJ (t.o n) r acc s).bind fun z s1 => .ok (.d (.str z)) s1) → tJs (tsOf (t.k X) W (t.o n) r) acc σ H fun out H1 => Q (.str out) H1) →
      tJs (tsOf (t.k X) W (t.o n) (.cons e r)) acc σ H fun out H1 => Q (.str out) H1 := by
    intro e r T Fr H μ s acc S a ih
    unfold evJ at a
    cases e0 : ev (t.o n) e s with
    | stuck => rw [e0] at a; exact a.elim
    | exc x s' =>
      rw [e0] at a
      refine ⟨T, Fr, μ, s, S, ?_⟩
      simp only [e0]
      exact a
    | ok w s' =>
      rw [e0] at a
      simp only [Res.bind] at a
      cases e1 : look s' w with
      | none => rw [e1] at a; exact a.elim
      | some d =>
        rw [e1] at a
        simp only [] at a
        cases e2 : fmtD d with
        | none => rw [e2] at a; exact a.elim
        | some z =>
          rw [e2] at a
          simp only [] at a
          by_cases hz : (acc ++ z).length ≤ sizeLine
          · rw [if_pos hz] at a
            refine ⟨T, Fr, μ, s, S, ?_⟩
            simp only [e0, Res.bind, e1, e2, Res.of]
            exact fun T2 μ2 H2 v e' p' S' hv => ⟨z, hv, hz, ih S' (Aft.mono a e' p')⟩
          · rw [if_neg hz] at a; exact a.elim
  induction h with
  | nil =>
    intro T Fr H μ s acc S a
    unfold evJ at a
    exact a.here S rfl
  | lit hz h ih => intro T Fr H μ s acc S a; exact step S a ih
  | fmt he h ih => intro T Fr H μ s acc S a; exact step S a ih
theorem empty_app (z : Str) : Str.empty ++ z = z := PySem.Str.empty_append z
theorem s_fs {es : Exs} {xs : List Expr} {pos : Pos} (h0 : xs ≠ []) (h : SPs t n M es xs) : SE t n M (.fs es) (.JoinedStr xs pos) := fun X W O => by
  have pj := h.pj O
  have tj : ∀ {σ : L2.St} {Q : VK} {T Fr H : Hp} {μ : List Addr} {s : Ss}, Sim (t.k X) T Fr μ s σ H → Aft (t.k X) T Fr μ W σ (rE (t.k X)) Q (ev (t.o n) (.fs es) s) → tJs (tsOf (t.k X) W (t.o n) es) Str.empty σ H fun out H1 => Q (.str out) H1 :=
    fun S a => tjs_of h S (by unfold ev at a; exact a)
  cases h with
  | nil => exact absurd rfl h0
  | @lit z j p r ys hz h =>
    cases h with
    | nil =>
      refine PE.weak (pe_joined1 (pt_lit (t := t) (n := n) (W := W) hz)) fun σ H Q ⟨T, Fr, μ, s, S, a⟩ => ?_
      unfold ev evJ at a
      refine ⟨T, Fr, μ, s, S, ?_⟩
      have e : fmtD (.str z) = some z := by simp [fmtD, optB, hz]
      simp only [ev, Res.bind, look, e, Res.of, empty_app, if_pos hz, evJ] at a ⊢
      exact fun T2 μ2 H2 v e' p' S' hv => by subst hv; exact a T2 μ2 H2 _ e' p' S' rfl
    | lit hz' h' => exact PE.weak (pe_joined pj) fun σ H Q ⟨T, Fr, μ, s, S, a⟩ => tj S a
    | fmt he h' => exact PE.weak (pe_joined pj) fun σ H Q ⟨T, Fr, μ, s, S, a⟩ => tj S a
  | @fmt e x p r ys he h =>
    cases h with
    | nil =>
      refine PE.weak (pe_joined1 (pt_fmt he O)) fun σ H Q ⟨T, Fr, μ, s, S, a⟩ => ?_
      unfold ev evJ at a
      refine ⟨T, Fr, μ, s, S, ?_⟩
      cases e0 : ev (t.o n) e s with
      | stuck => rw [e0] at a; exact a.elim
      | exc x s' =>
        rw [e0] at a
        simp only [e0]
        exact a
      | ok w s' =>
        rw [e0] at a
        simp only [Res.bind] at a
        cases e1 : look s' w with
        | none => rw [e1] at a; exact a.elim
        | some d =>
          rw [e1] at a
          simp only [] at a
          cases e2 : fmtD d with
          | none => rw [e2] at a; exact a.elim
          | some z =>
            rw [e2] at a
            simp only [empty_app] at a
            simp only [e0, Res.bind, e1, e2, Res.of]
            by_cases hz : z.length ≤ sizeLine
            · rw [if_pos hz] at a
              simp only [evJ] at a
              exact fun T2 μ2 H2 v e' p' S' hv => by subst hv; exact a T2 μ2 H2 _ e' p' S' rfl
            · rw [if_neg hz] at a; exact a.elim
    | lit hz' h' => exact PE.weak (pe_joined pj) fun σ H Q ⟨T, Fr, μ, s, S, a⟩ => tj S a
    | fmt he' h' => exact PE.weak (pe_joined pj) fun σ H Q ⟨T, Fr, μ, s, S, a⟩ => tj S a
end
end Pc

set_option Elab.async false
set_option linter.all false
set_option maxRecDepth 100000
set_option maxHeartbeats 4000000
namespace Pc
open PySem L2
section
variable {t : Tb} {n : Nat} {M : Mc} {X : Cx}
theorem dOf_some {w : Pc.W} {d : D} (h : dOf w = some d) : w = .d d := by
  cases w with
  | d x => cases h; rfl
  | c _ => cases h
  | b _ => cases h
theorem sf_rep {a b : Ex} {xa xb : Expr} {pos : Pos} (ha : SE t n M a xa) (hb : SE t n M b xb) : SF t n M (.rep a b) (.BinOp xa .Mult xb pos) := fun X W O => by
  refine PE.weak (pe_op op_rep (ha X W O) (hb X W O)) fun σ H Q ⟨T, Fr, μ, s, S, a⟩ => ?_
  unfold evF at a
  refine rd_bind S a fun T1 μ1 H1 x w1 s1 e1 p1 S1 r1 a => rd_bind S1 a fun T2 μ2 H2 y w2 s2 e2 p2 S2 r2 a => ?_
  split at a
  · rename_i l m hl hm
    obtain ⟨c, vs, rfl, h1, h2⟩ := S2.lookL (RepR.mono e2 p2 r1) hl
    cases dOf_some hm
    cases (show y = _ from r2)
    split at a
    · rename_i hz
      refine ⟨c, m, vs, rfl, rfl, h1, hz.1, hz.2.1, by rw [h2.len]; exact hz.2.2, fun p hp => ?_⟩
      exact a T2 μ2 _ _ (same_refl _) (List.prefix_refl _) (S2.loose hp) (S2.fresh hp (h2.repl _))
    · exact a.elim
  · exact a.elim
theorem sf_cpy {a : Ex} {xa : Expr} {x : Str} {p pos : Pos} (hx : decide (x = "list") && glB M.sc x && t.free x && plainArg xa = true) (ha : SE t n M a xa) : SF t n M (.cpy a) (.Call (.Name x p) [xa] [] pos) := fun X W O => by
  simp only [Bool.and_eq_true, decide_eq_true_eq] at hx
  obtain ⟨⟨⟨hx1, hx2⟩, hx3⟩, hx4⟩ := hx
  subst hx1
  refine PE.weak (pe_callTy call_list_of (glB_ok O hx2) (O.fr _ hx3) PyProof.Rows.boot_list (pa_cons (ha X W O) pa_nil (star_plain hx4 _ _)) (by decide) (by decide) (star_plain hx4 _ _) rfl) fun σ H Q ⟨T, Fr, μ, s, S, a⟩ => ?_
  unfold evF at a
  refine rd_bind S a fun T1 μ1 H1 v w s1 e1 p1 S1 r1 a => ?_
  have go : ∀ l, (Top (t.k X) T1 H1 (.lst l) v ∨ Top (t.k X) T1 H1 (.tup l) v) → Aft (t.k X) T1 Fr μ1 W σ (rF (t.k X)) Q (.ok l s1) → ∃ p ys, [v] = [.ref p] ∧ (SqL X.K H1 p ys ∨ SqT X.K H1 p ys) ∧ ∀ l, H1 l = none → Q (.ref l) (upd H1 l (.lst ys)) := by
    intro l hl a
    obtain ⟨c, vs, rfl, h1, h2⟩ := Top.seq (k := t.k X) S1.tH hl
    refine ⟨c, vs, rfl, h1, fun p hp => ?_⟩
    exact a T1 μ1 _ _ (same_refl _) (List.prefix_refl _) (S1.loose hp) (S1.fresh hp h2)
  split at a
  · rename_i l hl
    exact go l (.inl (S1.look r1 hl)) a
  · rename_i l hl
    exact go l (.inr (S1.look r1 hl)) a
  · exact a.elim
def few1 (e : Expr) : Bool := plainArg e
theorem few_of {e : Expr} (h : plainArg e = true) (pos : Pos) (env : Env) : ((backTo pos (starEach [e] env)).all (fun x => !x.1) && (backToKw pos (keywordEach [] env)).all (fun x => x.1.isSome)
      && decide ([e].length + ([] : List Keyword).length + (if ([] : List Keyword).isEmpty then 0 else 1) < 30)) = true := by
  rw [star_plain h]
  rfl
theorem s_index {o a : Ex} {xo xa : Expr} {apos pos : Pos} (hx : plainBase xo && plainArg xa && (apos.endLine == pos.line) = true) (ho : SE t n M o xo) (ha : SE t n M a xa) : SE t n M (.sm .index o a) (.Call (.Attribute xo "index" apos) [xa] [] pos) := fun X W O => by
  simp only [Bool.and_eq_true, decide_eq_true_eq] at hx
  refine PE.weak (pe_bm PySem.F.plainAttrs_str PySem.F.slot_str_index PySem.F.type_str_index mt_sindex (ho X W O) (pa_cons (ha X W O) pa_nil (star_plain hx.1.2 _ _)) (base_plain hx.1.1 _ _ _) (few_of hx.1.2 _ _) hx.2 (star_plain hx.1.2 _ _) rfl) fun σ H Q ⟨T, Fr, μ, s, S, a⟩ => ?_
  unfold ev at a
  refine rd_bind S a fun T1 μ1 H1 v w s1 e1 p1 S1 r1 a => ?_
  split at a
  · rename_i z
    cases (show v = _ from r1)
    refine ⟨rfl, rd_bind S1 a fun T2 μ2 H2 y w2 s2 e2 p2 S2 r2 a => ?_⟩
    split at a
    · rename_i q hq
      obtain ⟨w', hw, a1⟩ := Aft.of a
      clear a
      obtain ⟨d, hd, e⟩ := map_some hw
      subst e
      have tq := S2.look r2 hq
      cases q with
      | str b =>
        cases (show y = _ from tq)
        cases ho : Builtin.Str.occurrences z b 0 z.length 1 with
        | nil => simp only [smD, ho] at hd; cases hd
        | cons i rest =>
          simp only [smD, ho] at hd
          cases hd
          exact ⟨z, b, i, rest, rfl, rfl, ho, a1.here S2 rfl⟩
      | _ => cases hd
    · exact a.elim
  · exact a.elim
theorem s_app {o a : Ex} {xo xa : Expr} {apos pos : Pos} (hx : plainBase xo && plainArg xa && (apos.endLine == pos.line) = true) (ho : SE t n M o xo) (ha : SE t n M a xa) : SE t n M (.app o a) (.Call (.Attribute xo "append" apos) [xa] [] pos) := fun X W O => by
  simp only [Bool.and_eq_true, decide_eq_true_eq] at hx
  refine PE.weak (pe_bm PySem.F.plainAttrs_list PySem.F.slot_list_append PySem.F.type_list_append mt_append (ho X W O) (pa_cons (ha X W O) pa_nil (star_plain hx.1.2 _ _)) (base_plain hx.1.1 _ _ _) (few_of hx.1.2 _ _) hx.2 (star_plain hx.1.2 _ _) rfl) fun σ H Q ⟨T, Fr, μ, s, S, a⟩ => ?_
  unfold ev at a
  refine rd_bind S a fun T1 μ1 H1 v w s1 e1 p1 S1 r1 a => ?_
  split at a
  · exact a.elim
  · rename_i l0 hl0
    obtain ⟨c, vs, rfl, h1, h2, _⟩ := S1.getL r1 hl0
    refine ⟨.inl ⟨rfl, vs, .of h1⟩, rd_bind S1 a fun T2 μ2 H2 y w2 s2 e2 p2 S2 r2 a => ?_⟩
    split at a
    · rename_i l d hl hd
      obtain ⟨c', vs', e, g1, g2, g3, g4, g5⟩ := S2.getL (RepR.mono e2 p2 r1) hl
      cases e
      cases dOf_some hd
      split at a
      · rename_i hz
        split at a
        · rename_i s3 hs
          exact ⟨c, vs', y, rfl, rfl, g1, by rw [g2.len]; exact hz, a.here (g5 _ _ _ (g2.app (.one r2)) hs) rfl⟩
        · exact a.elim
      · exact a.elim
    · exact a.elim
theorem s_popl {o : Ex} {xo : Expr} {apos pos : Pos} (hx : plainBase xo && (apos.endLine == pos.line) = true) (ho : SE t n M o xo) : SE t n M (.popl o) (.Call (.Attribute xo "pop" apos) [] [] pos) := fun X W O => by
  simp only [Bool.and_eq_true, decide_eq_true_eq] at hx
  refine PE.weak (pe_bm0 PySem.F.plainAttrs_list PySem.F.slot_list_pop PySem.F.type_list_pop mt_pop (ho X W O) (base_plain hx.1 _ _ _) hx.2) fun σ H Q ⟨T, Fr, μ, s, S, a⟩ => ?_
  unfold ev at a
  refine rd_bind S a fun T1 μ1 H1 v w s1 e1 p1 S1 r1 a => ?_
  split at a
  · rename_i l hl
    obtain ⟨c, vs, rfl, g1, g2, g3, g4, g5⟩ := S1.getL r1 hl
    split at a
    · rename_i d hd
      split at a
      · rename_i s3 hs
        rw [List.getLast?_eq_getElem?] at hd
        obtain ⟨v, q1, q2⟩ := g2.get hd
        exact ⟨.inl ⟨rfl, vs, .of g1⟩, c, vs, v, rfl, rfl, g1, by rw [g2.len]; exact q1, a.here (g5 _ _ _ g2.dropLast hs) q2⟩
      · exact a.elim
    · exact a.elim
  · exact a.elim
theorem s_popa {o a : Ex} {xo xa : Expr} {apos pos : Pos} (hx : plainBase xo && plainArg xa && (apos.endLine == pos.line) = true) (ho : SE t n M o xo) (ha : SE t n M a xa) : SE t n M (.popa o a) (.Call (.Attribute xo "pop" apos) [xa] [] pos) := fun X W O => by
  simp only [Bool.and_eq_true, decide_eq_true_eq] at hx
  refine PE.weak (pe_bm PySem.F.plainAttrs_list PySem.F.slot_list_pop PySem.F.type_list_pop mt_popAt (ho X W O) (pa_cons (ha X W O) pa_nil (star_plain hx.1.2 _ _)) (base_plain hx.1.1 _ _ _) (few_of hx.1.2 _ _) hx.2 (star_plain hx.1.2 _ _) rfl) fun σ H Q ⟨T, Fr, μ, s, S, a⟩ => ?_
  unfold ev at a
  refine rd_bind S a fun T1 μ1 H1 v w s1 e1 p1 S1 r1 a => ?_
  split at a
  · exact a.elim
  · rename_i l0 hl0
    obtain ⟨c, vs, rfl, h1, h2, _⟩ := S1.getL r1 hl0
    refine ⟨.inl ⟨rfl, vs, .of h1⟩, rd_bind S1 a fun T2 μ2 H2 y w2 s2 e2 p2 S2 r2 a => ?_⟩
    split at a
    · rename_i l i hl hd
      obtain ⟨c', vs', e, g1, g2, g3, g4, g5⟩ := S2.getL (RepR.mono e2 p2 r1) hl
      cases e
      cases dOf_some hd
      cases (show y = _ from r2)
      split at a
      · rename_i hz
        split at a
        · rename_i d hd
          split at a
          · rename_i s3 hs
            obtain ⟨v, q1, q2⟩ := g2.get hd
            have hk : seqIndex? i vs'.length = some i.toNat := by
              unfold seqIndex?
              have := g2.len
              simp only [show ¬ i < 0 by omega, if_false]
              rw [if_pos (by simp only [Bool.and_eq_true, decide_eq_true_eq]; omega)]
            exact ⟨c, vs', i, i.toNat, v, rfl, rfl, g1, by omega, hz.2.2, hk, q1, a.here (g5 _ _ _ (g2.erase _) hs) q2⟩
          · exact a.elim
        · exact a.elim
      · exact a.elim
    · exact a.elim
theorem Top.tru {k : Kx} {T H : Hp} (e : Same T H) : ∀ {d : D} {v : V} {b : Bool}, Top k T H d v → truD d = some b → TruV k.K v H b
  | .non, _, b, h, hb => by cases (show _ = V.non from h); cases hb; rfl
  | .bl c, _, b, h, hb => by cases (show _ = V.bl c from h); cases hb; rfl
  | .int i, _, b, h, hb => by cases (show _ = V.int i from h); cases hb; rfl
  | .str z, _, b, h, hb => by
    cases (show _ = V.str z from h)
    obtain ⟨h1, h2⟩ := optB_some hb
    refine ⟨of_decide_eq_true h1, ?_⟩
    rw [← h2]
    cases hz : z.length with
    | zero => rfl
    | succ m => simp; omega
  | .lst l, _, b, h, hb => by
    obtain ⟨a, vs, rfl, h1, h2⟩ := h
    cases hb
    exact .inl ⟨vs, .inl h1, by have := h2.len; cases l <;> cases vs <;> simp_all⟩
  | .tup l, _, b, h, hb => by
    obtain ⟨a, vs, rfl, h1, h2⟩ := (show Rep k T (.tup l) _ from h)
    cases hb
    exact .inr (.inl ⟨vs, sqT_same e h1, by have := h2.len; cases l <;> cases vs <;> simp_all⟩)
  | .obj _ _ _, _, b, h, hb => by cases hb
def plainTest : Expr → Bool
  | .UnaryOp .Not _ _ | .BoolOp _ _ _ | .IfExp _ _ _ _ | .Compare _ _ _ _ => false
  | _ => true
theorem test_plain {e : Expr} (h : plainTest e = true) (env : Env) (whole : Sem Value) : PySem.isTrue e env whole = (do let v ← whole; standAt e.pos; holding [v] (truthy v)) := by
  unfold PySem.isTrue
  unfold plainTest at h
  split at h
  · cases h
  · cases h
  · cases h
  · cases h
  · rename_i h1 h2 h3 h4
    split
    · exact absurd rfl (h1 _ _)
    · exact absurd rfl (h2 _ _ _)
    · exact absurd rfl (h3 _ _ _ _)
    · exact absurd rfl (h4 _ _ _ _)
    · rfl
theorem st_e {a : Ex} {xa : Expr} (hp : plainTest xa = true) (ha : SE t n M a xa) : ST t n M (.e a) xa := fun X W O => by
  refine PT.weak (pt_truth (ha X W O) (test_plain hp _)) fun σ H Q ⟨T, Fr, μ, s, S, a⟩ => ?_
  unfold evT at a
  refine rd_bind S a fun T1 μ1 H1 v w s1 e1 p1 S1 r1 a => ?_
  split at a
  · rename_i d hd
    obtain ⟨b, hb, a1⟩ := Aft.of a
    clear a
    exact ⟨b, Top.tru S1.tH (S1.look r1 hd) hb, a1.here S1 rfl⟩
  · exact a.elim
theorem st_not {a : Te} {xa : Expr} {pos : Pos} (ha : ST t n M a xa) : ST t n M (.not a) (.UnaryOp .Not xa pos) := fun X W O => by
  refine PT.weak (pt_not (ha X W O)) fun σ H Q ⟨T, Fr, μ, s, S, a⟩ => ?_
  unfold evT at a
  refine rd_bind S a fun T1 μ1 H1 v w s1 e1 p1 S1 r1 a => ?_
  cases (show w = v from r1)
  exact a.here S1 rfl
def SW (t : Tb) (n : Nat) (M : Mc) (an : Bool) (e : Tes) (x : Expr) : Prop := ∀ X W, Ok t n M X W → PW X x (rd (t.k X) W rB (evTs (t.o n) an e))
theorem PW.weak {X : Cx} {e : Expr} {t u : TT} (h : PW X e t) (k : ∀ σ H Q, u σ H Q → t σ H Q) : PW X e u := ⟨fun w pins s σ H Q I q => h.run w pins s σ H Q I (k σ H Q q)⟩
theorem sw_one {an : Bool} {op : BoolOp} {a : Te} {xa : Expr} {pos : Pos} (ho : bopB an op = true) (ha : ST t n M a xa) : SW t n M an (.cons a .nil) (.BoolOp op [xa] pos) := fun X W O => by
  have go : ∀ σ H Q, rd (t.k X) W rB (evTs (t.o n) an (.cons a .nil)) σ H Q → rd (t.k X) W rB (evT (t.o n) a) σ H Q := by
    intro σ H Q ⟨T, Fr, μ, s, S, a⟩
    unfold evTs at a
    refine rd_bind S a fun T1 μ1 H1 v w s1 e1 p1 S1 r1 a => ?_
    cases (show w = v from r1)
    unfold evTs at a
    split at a
    · rename_i h
      rw [← beq_iff_eq.mp h] at a
      exact a.here S1 rfl
    · exact a.here S1 rfl
  cases op with
  | And => exact PW.weak (pw_and1 (ha X W O)) go
  | Or => exact PW.weak (pw_or1 (ha X W O)) go
theorem sw_cons {an : Bool} {op : BoolOp} {a b : Te} {r : Tes} {xa xb : Expr} {xs : List Expr} {pos : Pos} (ho : bopB an op = true) (ha : ST t n M a xa) (hr : SW t n M an (.cons b r) (.BoolOp op (xb :: xs) pos)) :
    SW t n M an (.cons a (.cons b r)) (.BoolOp op (xa :: xb :: xs) pos) := fun X W O => by
  cases op with
  | And =>
    have e : an = true := ho
    subst e
    refine PW.weak (pw_and (ha X W O) (hr X W O)) fun σ H Q ⟨T, Fr, μ, s, S, a⟩ => ?_
    rw [evTs] at a
    refine rd_bind S a fun T1 μ1 H1 v w s1 e1 p1 S1 r1 a => ?_
    cases (show w = v from r1)
    cases v with
    | true => exact ⟨T1, Fr, μ1, s1, S1, a⟩
    | false => exact a.here S1 rfl
  | Or =>
    have e : an = false := by revert ho; cases an <;> simp [bopB]
    subst e
    refine PW.weak (pw_or (ha X W O) (hr X W O)) fun σ H Q ⟨T, Fr, μ, s, S, a⟩ => ?_
    rw [evTs] at a
    refine rd_bind S a fun T1 μ1 H1 v w s1 e1 p1 S1 r1 a => ?_
    cases (show w = v from r1)
    cases v with
    | true => exact a.here S1 rfl
    | false => exact ⟨T1, Fr, μ1, s1, S1, a⟩
theorem st_bop {an : Bool} {e : Tes} {x : Expr} (h : SW t n M an e x) : ST t n M (.bop an e) x := fun X W O =>
  PT.weak (h X W O).pt fun σ H Q ⟨T, Fr, μ, s, S, a⟩ => ⟨T, Fr, μ, s, S, by unfold evT at a; exact a⟩
end
end Pc

set_option Elab.async false
set_option linter.all false
set_option maxRecDepth 100000
set_option maxHeartbeats 4000000
namespace Pc
open PySem L2 PyProof.Rows
theorem meets_enumT (l : Addr) (items : Array Value) :
    Meets (Builtin.«enumerate.__new__» ⟨[.type "enumerate", .ref l], []⟩) (fun _ R s => s.heap.IsTuple l items ∧
      R (.ok (.ret (.ref (s.heap.push { cls := .type "tuple_iterator", data := .fields #[.ref l, .int 0 0] }).objs.size)))
        { s with heap := (s.heap.push { cls := .type "tuple_iterator", data := .fields #[.ref l, .int 0 0] }).push { cls := .type "enumerate", data := .fields #[.none, .bool false, .ref s.heap.objs.size, rawInt 0, .none, .none] } }) :=
  .of_wp fun prog w A R s h => by
    obtain ⟨hp, g, d, tk, os⟩ := s; obtain ⟨h1, h⟩ := h
    have hsub := sub_enumerate
    have q1 : ∀ {A' : Around} {E : Value → Shared → Prop} {Q : Value → Shared → Prop}, Q (.ref hp.objs.size) ⟨hp.push { cls := .type "tuple_iterator", data := .fields #[.ref l, .int 0 0] }, g, d, tk, os⟩ → wpAny (model prog w) A' (pyIter (.ref l)) Q E ⟨hp, g, d, tk, os⟩ :=
      fun q => (begins_tuple l items).iter prog w _ _ ⟨hp, g, d, tk, os⟩ _ h1 q
    wp_walk using q1
    refine wpAny_stack_any fun st => wpAny_pure ?_
    split
    · rename_i c _ _ _ _ _
      cases (c == Value.type "enumerate")
      · wp_walk using q1
        exact ⟨_, rfl, h⟩
      · wp_walk using q1
        exact ⟨_, rfl, h⟩
    · wp_walk using q1
      exact ⟨_, rfl, h⟩
section
variable {prog : Program} {w : World} {A : Around} {E : Value → Shared → Prop} {s : Shared}
theorem call_enumT {l : Addr} {items : Array Value} {Q : Value → Shared → Prop} (hL : s.heap.IsTuple l items)
    (h : ∀ h', IsEnum h' (s.heap.objs.size + 1) s.heap.objs.size 0 .none → h'.IsTupleIter s.heap.objs.size l 0 → h'.objs.size = s.heap.objs.size + 2 →
      (∀ b o, s.heap.get? b = some o → h'.get? b = some o) → Q (.ref (s.heap.objs.size + 1)) { s with heap := h' }) :
    wpAny (model prog w) A (call (.type "enumerate") [.ref l]) Q E s := by
  refine callType_new F.called_enumerate (by decide) (F.typeCall_enumerate_1 _) (F.newCall_enumerate_1 _) (fun obj => F.args_object_init_2 obj _) F.entry_enumerate_new
    (meets_enumT l items) ⟨hL, ?_⟩
  have hz : (s.heap.push { cls := .type "tuple_iterator", data := .fields #[.ref l, .int 0 0] }).objs.size = s.heap.objs.size + 1 := Heap.size_push ..
  show _ ∧ _
  rw [hz]
  have he : IsEnum ((s.heap.push { cls := .type "tuple_iterator", data := .fields #[.ref l, .int 0 0] }).push { cls := .type "enumerate", data := .fields #[.none, .bool false, .ref s.heap.objs.size, rawInt 0, .none, .none] }) (s.heap.objs.size + 1) s.heap.objs.size 0 .none := by
    have := Heap.get?_push_size (s.heap.push { cls := .type "tuple_iterator", data := .fields #[.ref l, .int 0 0] }) (o := { cls := .type "enumerate", data := .fields #[.none, .bool false, .ref s.heap.objs.size, rawInt 0, .none, .none] }) rfl
    rw [hz] at this; exact this
  refine ⟨⟨_, he, rfl⟩, h _ he ⟨_, Heap.get?_push_of_some _ (Heap.get?_push_size _ rfl), rfl, rfl⟩ (by rw [Heap.size_push, hz]) fun b o x => Heap.get?_push_of_some _ (Heap.get?_push_of_some _ x)⟩
end
/-- the tuple at a, each item in a new pair -/
def IteT (K : PySem.W.Frag) (a : Addr) : L2.It :=
  ⟨fun i H => ∃ (xs : List V) (x : V), SqT K H a xs ∧ xs[i]? = some x, fun i H v H' => ∃ T x, v = .ref T ∧ H T = none ∧ H' = upd H T (.tup [.int (i : Nat), x]) ∧ ∀ xs, SqT K H a xs → xs[i]? = some x, fun i H => ∃ xs : List V, SqT K H a xs ∧ xs.length ≤ i⟩
theorem turn_enumT {P : Program} {w : World} {K : PySem.W.Frag} {elts : List Expr} {kk : Nat} {tpos : Pos} (a e it : Addr) :
    Turn P w K (.Tuple elts kk tpos) (IteT K a) [e, it] e (fun i h => (∃ old, IsEnum h e it ((i : Nat) : Int) old) ∧ h.IsTupleIter it a i ∧ e ≠ it) where
  mem := by simp
  obj := fun i h st b hb => by
    obtain ⟨⟨old, he⟩, ⟨o, ho, hc, hd⟩, _⟩ := st
    have e' : b = e ∨ b = it := by simpa using hb
    rcases e' with z | z
    · rw [z]; exact ⟨_, he, fun v q => nomatch q⟩
    · rw [z]; exact ⟨o, ho, fun v q => by rw [hd] at q; cases q⟩
  keep := fun i h h' st k => let ⟨⟨old, he⟩, hi, hne⟩ := st; ⟨⟨old, k e (by simp) _ he⟩, hi.at fun o q => k it (by simp) o q, hne⟩
  item := by
    intro X hP hw hK hc i pins s σ H E I hf st hg
    subst hP hw hK
    obtain ⟨⟨old, he⟩, hit, hne⟩ := st
    obtain ⟨xs, x, hq, hx⟩ := hg
    obtain ⟨its, rv, p, hz⟩ := I.tuple hq
    obtain ⟨u, hu, ru⟩ := rv.get hx
    have hel : e < s.heap.objs.size := Heap.lt_size he
    have hil : it < s.heap.objs.size := by obtain ⟨_, q, _⟩ := hit; exact Heap.lt_size q
    have p' : s.heap.IsTuple a its.toArray := p
    have hai : a ≠ it := fun z => by
      subst z
      obtain ⟨o, q1, q2, _⟩ := hit
      obtain ⟨o', q3, q4, _⟩ := p'
      rw [q1] at q3
      cases q3
      rw [q2] at q4
      exact absurd q4 (by decide)
    have hae : e ≠ a := fun z => by
      subst z
      obtain ⟨o', q3, q4, _⟩ := p'
      have he' : s.heap.get? e = _ := he
      rw [he'] at q3
      cases q3
      exact absurd (show Value.type "enumerate" = Value.type "tuple" from q4) (by decide)
    have hil' : i < its.toArray.size := by
      have := (List.getElem?_eq_some_iff.mp hu).1
      simpa using this
    have D := Draws.tuple (prog := X.prog) (w := X.w) (A := X.A.in1) (I.ok.hd hc) it a hai its.toArray
    refine wpAny_pyNext_enum_itemD (St := fun i h => h.IsTupleIter it a i ∧ h.IsTuple a its.toArray) D he ⟨hit, p'⟩ hil' hne (by simp [hne, hae]) fun x0 h' tk hx0 ho hit' hT hsz hk => ?_
    have hx1 : x0 = u := by
      have : its.toArray[i]? = some x0 := hx0
      rw [List.getElem?_toArray, hu] at this
      exact (Option.some.inj this).symm
    subst hx1
    refine ⟨_, rfl, wpAny_letOwnedTupleGo_enum (s := { s with heap := h', toks := tk + 1 }) ho fun h'' he' sb => ?_⟩
    have hT2 : h''.get? s.heap.objs.size = some { cls := .type "tuple", data := .seq #[.int i tk, x0] } := (sb.2 _ (Nat.ne_of_gt hel)).trans hT
    have new : ObjOk X.prog X.w (upd H s.heap.objs.size (.tup [.int (i : Nat), x])) h'' s.heap.objs.size (.tup [.int (i : Nat), x]) :=
      ⟨by show 2 ≤ sizeLine; decide, [.int i tk, x0], .cons ⟨_, rfl⟩ (.cons ru .nil), ⟨_, hT2, rfl, _, rfl⟩⟩
    have I1 : Inv X pins σ (upd H s.heap.objs.size (.tup [.int (i : Nat), x])) { s with heap := h'', toks := tk + 1 } :=
      I.turnedNew (ch := [e, it]) (fun b ob hb q => (sb.2 b (fun z => hb (by simp [z]))).trans (hk b ob (fun z => hb (by simp [z])) (fun z => hb (by simp [z])) q)) hf (Nat.le_refl _) new
    refine ⟨.ref s.heap.objs.size, _, I1, rfl, ⟨_, x, rfl, I.hok.fresh (Nat.le_refl _), rfl, fun ys hy => by rw [I.tuple_inj hy hq]; exact hx⟩, ⟨⟨x0, ?_⟩, hit'.1.at fun o q => (sb.2 it (Ne.symm hne)).trans q, hne⟩, fun b hb => ?_⟩
    · have e1 : ((i + 1 : Nat) : Int) = (i : Int) + 1 := by omega
      rw [e1]; exact he'
    · have hb' : b < s.heap.objs.size := by
        have e' : b = e ∨ b = it := by simpa using hb
        rcases e' with z | z
        · rw [z]; exact hel
        · rw [z]; exact hil
      rw [upd_ne (Nat.ne_of_lt hb')]
      exact (hf b hb).1
  done := by
    intro X hP hw hK hc i pins s σ H E I hf st hg
    subst hP hw hK
    obtain ⟨⟨old, he⟩, hit, hne⟩ := st
    obtain ⟨xs, hq, hx⟩ := hg
    obtain ⟨its, rv, p, hz⟩ := I.tuple hq
    obtain ⟨f0, f1, f2, f3, f4, f5⟩ := hf it (by simp)
    have hl := rv.length
    have p' : s.heap.IsTuple a its.toArray := p
    have D : Draws X.prog X.w X.A.in1 it [it, a] i (fun _ _ => False) (fun j h => j = i ∧ h.IsTupleIter it a i ∧ h.IsTuple a its.toArray) :=
      { live := fun _ _ st => let ⟨o, ho, _⟩ := st.2.1; ⟨o, ho⟩
        frame := fun _ _ _ st hk => ⟨st.1, st.2.1.at fun o e => hk it (by simp) o e, st.2.2.at fun o e => hk a (by simp) o e⟩
        item := fun j s Q E hi st hQ => absurd st.1 (Nat.ne_of_lt hi)
        done := fun s Q E st hE => wpAny_nextOf_tuple_end (I.ok.hd hc) st.2.1 st.2.2 (by simp; omega) hE }
    exact wpAny_pyNext_enum_endD D he ⟨rfl, hit, p'⟩ fun h' eb => ⟨rfl, I.turned (t' := s.toks) (fun b o hb q => eb b o hb q) f0 f1 f3 f4 f5⟩
  self := fun A i s Q E st h => let ⟨⟨_, he⟩, _⟩ := st; wpAny_pyIter_enum he h
def iEnumA (K : PySem.W.Frag) (ta : TA) : TI := fun σ H R => ta σ H fun vs H1 => (∃ a xs, vs = [.ref a] ∧ SqL K H1 a xs ∧ R (Ite K a) H1) ∨ ∃ a xs, vs = [.ref a] ∧ SqT K H1 a xs ∧ R (IteT K a) H1
theorem pi_enumA {X : Cx} {e : Expr} {ta : TA} {p pos tpos : Pos} {elts : List Expr} {kk : Nat} (hg : Gl X "enumerate") (hm : X.mg "enumerate" = none) (ha : PA X [e] ta) (hs : starEach [e] X.env = [(false, eval e X.env)] := by rfl) :
    PI X (.Tuple elts kk tpos) (.Call (.Name "enumerate" p) [e] [] pos) (iEnumA X.K ta) := by
  refine ⟨fun pins s σ H R I h => ?_⟩
  refine Call_ (ld_blt I hg hm boot_enumerate (PyProof.Rows.callWith_type1 (thn (ha.run pos pins s σ H _ I h) fun us s1 ⟨vs, H1, I1, r1, q1⟩ => ?_) hs rfl))
  rcases q1 with ⟨a, xs, ex, hq, q⟩ | ⟨a, xs, ex, hq, q⟩
  · subst ex
    cases r1 with
    | cons r rr =>
      cases rr
      cases r
      obtain ⟨its, rv, p', hz⟩ := I1.list hq
      refine call_enumerate_list p'.isList fun h' he hit hsz hk => wpAny_pyIter_enum he ?_
      have I2 : Inv X pins σ H1 { s1 with heap := h' } := I1.kept (t' := s1.toks) hk
      refine ⟨s1.heap.objs.size + 1, [s1.heap.objs.size + 1, s1.heap.objs.size], _, _, H1, rfl, I2, turn_enum a (s1.heap.objs.size + 1) s1.heap.objs.size, ⟨⟨.none, he⟩, hit, Nat.succ_ne_self _⟩, fun b hb => ?_, q⟩
      have e' : b = s1.heap.objs.size + 1 ∨ b = s1.heap.objs.size := by simpa using hb
      have hle : s1.heap.objs.size ≤ b := by
        rcases e' with z | z
        · rw [z]; exact Nat.le_add_right _ _
        · rw [z]; exact Nat.le_refl _
      exact I1.fpOk hle (I1.hok.fresh hle)
  · subst ex
    cases r1 with
    | cons r rr =>
      cases rr
      cases r
      obtain ⟨its, rv, p', hz⟩ := I1.tuple hq
      have p2 : s1.heap.IsTuple a its.toArray := p'
      refine call_enumT p2 fun h' he hit hsz hk => wpAny_pyIter_enum he ?_
      have I2 : Inv X pins σ H1 { s1 with heap := h' } := I1.kept (t' := s1.toks) hk
      refine ⟨s1.heap.objs.size + 1, [s1.heap.objs.size + 1, s1.heap.objs.size], _, _, H1, rfl, I2, turn_enumT a (s1.heap.objs.size + 1) s1.heap.objs.size, ⟨⟨.none, he⟩, hit, Nat.succ_ne_self _⟩, fun b hb => ?_, q⟩
      have e' : b = s1.heap.objs.size + 1 ∨ b = s1.heap.objs.size := by simpa using hb
      have hle : s1.heap.objs.size ≤ b := by
        rcases e' with z | z
        · rw [z]; exact Nat.le_add_right _ _
        · rw [z]; exact Nat.le_refl _
      exact I1.fpOk hle (I1.hok.fresh hle)
end Pc

set_option Elab.async false
set_option linter.all false
set_option maxRecDepth 100000
set_option maxHeartbeats 4000000
namespace Pc
open PySem L2
theorem wipe_get (σ : L2.St) (j : Nat) : ∀ vs : List Nat, (wipe σ vs)[j]? = if j ∈ vs then σ[j]?.map (fun _ => none) else σ[j]?
  | [] => by simp [wipe]
  | v :: vs => by
    have ih := wipe_get σ j vs
    unfold wipe
    by_cases hj : v = j
    · subst hj
      rw [List.getElem?_set_self', ih]
      by_cases hv : v ∈ vs
      · simp [hv]
        cases σ[v]? <;> rfl
      · simp [hv]
        cases σ[v]? <;> rfl
    · rw [List.getElem?_set_ne hj, ih]
      have : (j ∈ v :: vs) ↔ j ∈ vs := by simp [Ne.symm hj]
      simp only [this]
theorem nR_get (r : List Sl) (j : Nat) : ∀ vs : List Nat, (nR r vs)[j]? = if j ∈ vs then r[j]?.map (fun _ => Sl.no) else r[j]?
  | [] => by simp [nR]
  | v :: vs => by
    have ih := nR_get r j vs
    unfold nR
    by_cases hj : v = j
    · subst hj
      rw [List.getElem?_set_self', ih]
      by_cases hv : v ∈ vs
      · simp [hv]
        cases r[v]? <;> rfl
      · simp [hv]
        cases r[v]? <;> rfl
    · rw [List.getElem?_set_ne hj, ih]
      have : (j ∈ v :: vs) ↔ j ∈ vs := by simp [Ne.symm hj]
      simp only [this]
theorem nR_length (r : List Sl) : ∀ vs : List Nat, (nR r vs).length = r.length
  | [] => rfl
  | v :: vs => by unfold nR; rw [List.length_set, nR_length r vs]
theorem backR_length (r0 r : List Sl) : ∀ vs : List Nat, (backR r0 r vs).length = r.length
  | [] => rfl
  | v :: vs => by
    unfold backR
    split
    · rw [List.length_set, backR_length r0 r vs]
    · exact backR_length r0 r vs
theorem backR_get (r0 r : List Sl) (hl : r.length = r0.length) (j : Nat) : ∀ vs : List Nat, (backR r0 r vs)[j]? = if j ∈ vs then r0[j]? else r[j]?
  | [] => by simp [backR]
  | v :: vs => by
    have ih := backR_get r0 r hl j vs
    unfold backR
    by_cases hj : v = j
    · subst hj
      simp only [List.mem_cons, true_or, if_true]
      split
      · rename_i x hx
        have := (List.getElem?_eq_some_iff.mp hx).1
        rw [hx, List.getElem?_set_self (by rw [backR_length, hl]; exact this)]
      · rename_i hx
        rw [ih, hx]
        split
        · rfl
        · exact List.getElem?_eq_none (by rw [hl]; exact List.getElem?_eq_none_iff.mp hx)
    · have : (j ∈ v :: vs) ↔ j ∈ vs := by simp [Ne.symm hj]
      simp only [this]
      split
      · rw [List.getElem?_set_ne hj, ih]
      · exact ih
theorem wipe_wipe {σ : L2.St} {vs vs1 : List Nat} (h : ∀ i ∈ vs1, i ∈ vs) : wipe (wipe σ vs1) vs = wipe σ vs := by
  refine List.ext_getElem? fun j => ?_
  rw [wipe_get, wipe_get, wipe_get]
  by_cases h1 : j ∈ vs
  · simp only [h1, if_true]
    split <;> cases σ[j]? <;> rfl
  · have h2 : j ∉ vs1 := fun z => h1 (h j z)
    simp only [h1, h2, if_false]
theorem nR_nR {r : List Sl} {vs vs1 : List Nat} (h : ∀ i ∈ vs1, i ∈ vs) : nR (nR r vs1) vs = nR r vs := by
  refine List.ext_getElem? fun j => ?_
  rw [nR_get, nR_get, nR_get]
  by_cases h1 : j ∈ vs
  · simp only [h1, if_true]
    split <;> cases r[j]? <;> rfl
  · have h2 : j ∉ vs1 := fun z => h1 (h j z)
    simp only [h1, h2, if_false]
section
variable {k : Kx} {T T' Fr : Hp} {μ μ' : List Addr} {s s' : Ss} {σ : L2.St} {H H' : Hp} {D : Addr} {acc : List Pc.D}
/-- the same state, some names forgotten -/
theorem Sim.drop {r' : List Sl} {σ' : L2.St} (S : Sim k T Fr μ s σ H) (hl : r'.length = σ'.length) (h : ∀ j : Nat, (r'[j]? = s.r[j]? ∧ σ'[j]? = σ[j]?) ∨ r'[j]? = some Sl.no ∨ r'[j]? = none) : Sim k T Fr μ { s with r := r' } σ' H := by
  refine ⟨S.tH, S.fH, S.tF, S.len, S.cel, S.cnd, hl, fun i w e => ?_, fun i l e => ?_⟩
  · rcases h i with ⟨h1, h2⟩ | h1 | h1
    · dsimp only at e
      rw [h1] at e
      obtain ⟨v, q1, q2⟩ := S.val i w e
      exact ⟨v, h2.trans q1, q2⟩
    · dsimp only at e; rw [h1] at e; cases e
    · dsimp only at e; rw [h1] at e; cases e
  · rcases h i with ⟨h1, h2⟩ | h1 | h1
    · dsimp only at e
      rw [h1] at e
      obtain ⟨p, vs, u1, u2, u3, u4, u5, u6, u7⟩ := S.own i l e
      refine ⟨p, vs, h2.trans u1, u2, u3, u4, u5, u6, fun j m e1 e2 => ?_⟩
      rcases h j with ⟨h3, h4⟩ | h3 | h3
      · dsimp only at e1; rw [h3] at e1; rw [h4] at e2; exact u7 j m e1 e2
      · dsimp only at e1; rw [h3] at e1; cases e1
      · dsimp only at e1; rw [h3] at e1; cases e1
    · dsimp only at e; rw [h1] at e; cases e
    · dsimp only at e; rw [h1] at e; cases e
theorem Fresh.drop {r' : List Sl} {σ' : L2.St} {l : List Pc.D} {v : V} (F : Fresh k T Fr μ s σ H l v) (h : ∀ j : Nat, (r'[j]? = s.r[j]? ∧ σ'[j]? = σ[j]?) ∨ r'[j]? = some Sl.no ∨ r'[j]? = none) : Fresh k T Fr μ { s with r := r' } σ' H l v := by
  obtain ⟨p, vs, u1, u2, u3, u4, u5, u6, u7⟩ := F
  refine ⟨p, vs, u1, u2, u3, u4, u5, u6, fun j m e1 e2 => ?_⟩
  rcases h j with ⟨h3, h4⟩ | h3 | h3
  · dsimp only at e1; rw [h3] at e1; rw [h4] at e2; exact u7 j m e1 e2
  · dsimp only at e1; rw [h3] at e1; cases e1
  · dsimp only at e1; rw [h3] at e1; cases e1
/-- the new list beside the state -/
def Lt (k : Kx) (T Fr : Hp) (μ : List Addr) (s : Ss) (σ : L2.St) (H : Hp) (D : Addr) (acc : List Pc.D) : Prop := Sim k T Fr μ s σ H ∧ Fresh k T Fr μ s σ H acc (.ref D)
theorem wipe_case (r : List Sl) (σ : L2.St) (hl : r.length = σ.length) (vs : List Nat) (j : Nat) : ((nR r vs)[j]? = r[j]? ∧ (wipe σ vs)[j]? = σ[j]?) ∨ (nR r vs)[j]? = some Sl.no ∨ (nR r vs)[j]? = none := by
  rw [nR_get, wipe_get]
  by_cases h : j ∈ vs
  · refine .inr ?_
    rw [if_pos h]
    cases r[j]? with
    | none => exact .inr rfl
    | some x => exact .inl rfl
  · rw [if_neg h, if_neg h]
    exact .inl ⟨rfl, rfl⟩
theorem Lt.wipe (L : Lt k T Fr μ s σ H D acc) (vs : List Nat) : Lt k T Fr μ { s with r := nR s.r vs } (L2.wipe σ vs) H D acc :=
  ⟨L.1.drop (by rw [nR_length, wipe_length]; exact L.1.rlen) (wipe_case _ _ L.1.rlen vs), L.2.drop (wipe_case _ _ L.1.rlen vs)⟩
/-- .. the names put back -/
theorem Lt.back {T0 Fr0 H0 : Hp} {μ0 : List Addr} {s0 : Ss} {vs : List Nat} (S0 : Sim k T0 Fr0 μ0 s0 σ H0) (e : Same T0 T) (p : μ0 <+: μ) (hn : noOwn s0.r vs = true) (L : Lt k T Fr μ { s with r := nR s.r vs } (L2.wipe σ vs) H D acc) :
    Sim k T Fr μ { s with r := backR s0.r s.r vs } σ H ∧ Fresh k T Fr μ { s with r := backR s0.r s.r vs } σ H acc (.ref D) := by
  obtain ⟨S, F⟩ := L
  have hl : s.r.length = s0.r.length := by
    have h1 := S.rlen
    rw [nR_length, wipe_length] at h1
    rw [S0.rlen]
    exact h1
  have get := fun j => backR_get s0.r s.r hl j vs
  have no : ∀ j ∈ vs, ∀ m, s0.r[j]? ≠ some (.own m) := fun j hj m e => by
    have := List.all_eq_true.mp hn j hj
    rw [e] at this
    cases this
  have wz : ∀ j, j ∉ vs → (L2.wipe σ vs)[j]? = σ[j]? := fun j hj => by rw [wipe_get, if_neg hj]
  have nz : ∀ j, j ∉ vs → (nR s.r vs)[j]? = s.r[j]? := fun j hj => by rw [nR_get, if_neg hj]
  refine ⟨⟨S.tH, S.fH, S.tF, S.len, S.cel, S.cnd, ?_, fun i w e1 => ?_, fun i l e1 => ?_⟩, ?_⟩
  · show (backR s0.r s.r vs).length = _
    rw [backR_length, hl, S0.rlen]
  · dsimp only at e1
    rw [get] at e1
    by_cases hi : i ∈ vs
    · rw [if_pos hi] at e1
      obtain ⟨v, q1, q2⟩ := S0.val i w e1
      exact ⟨v, q1, q2.mono e p⟩
    · rw [if_neg hi] at e1
      obtain ⟨v, q1, q2⟩ := S.val i w ((nz i hi).trans e1)
      exact ⟨v, (wz i hi).symm.trans q1, q2⟩
  · dsimp only at e1
    rw [get] at e1
    by_cases hi : i ∈ vs
    · rw [if_pos hi] at e1
      exact absurd e1 (no i hi l)
    · rw [if_neg hi] at e1
      obtain ⟨p, ws, u1, u2, u3, u4, u5, u6, u7⟩ := S.own i l ((nz i hi).trans e1)
      refine ⟨p, ws, (wz i hi).symm.trans u1, u2, u3, u4, u5, u6, fun j m e2 e3 => ?_⟩
      dsimp only at e2
      rw [get] at e2
      by_cases hj : j ∈ vs
      · rw [if_pos hj] at e2
        exact absurd e2 (no j hj m)
      · rw [if_neg hj] at e2
        exact u7 j m ((nz j hj).trans e2) ((wz j hj).trans e3)
  · obtain ⟨p, ws, u1, u2, u3, u4, u5, u6, u7⟩ := F
    refine ⟨p, ws, u1, u2, u3, u4, u5, u6, fun j m e2 e3 => ?_⟩
    dsimp only at e2
    rw [get] at e2
    by_cases hj : j ∈ vs
    · rw [if_pos hj] at e2
      exact absurd e2 (no j hj m)
    · rw [if_neg hj] at e2
      exact u7 j m ((nz j hj).trans e2) ((wz j hj).trans e3)
/-- a list that nothing else knows is written -/
theorem Lt.write {acc' : List Pc.D} {vs' : List V} (L : Lt k T Fr μ s σ H D acc) (h : Reps k T acc' vs') : Lt k T Fr μ s σ (upd H D (.lst vs')) D acc' := by
  obtain ⟨S, p, vs, u1, u2, u3, u4, u5, u6, u7⟩ := L
  cases u1
  have ne : ∀ {a : Addr}, a ≠ D → upd H D (.lst vs') a = H a := fun h => upd_ne h
  refine ⟨⟨fun b u e => ?_, fun b u e => ?_, S.tF, S.len, fun n a c e1 e2 => ?_, S.cnd, S.rlen, S.val, fun i m e1 => ?_⟩, D, vs', rfl, upd_same, h, u4, u5, u6, u7⟩
  · rw [ne (fun z => by subst z; rw [u4] at e; cases e)]; exact S.tH _ _ e
  · rw [ne (fun z => by subst z; rw [u5] at e; cases e)]; exact S.fH _ _ e
  · obtain ⟨q1, q2, q3, q4⟩ := S.cel n a c e1 e2
    have ha : a ≠ D := fun z => by subst z; exact u6 n e1
    refine ⟨q1, q2, by rw [ne ha]; exact q3, ?_⟩
    cases c with
    | lst l => obtain ⟨vs, z1, z2⟩ := q4; exact ⟨vs, by rw [ne ha]; exact z1, z2⟩
    | fz l => obtain ⟨o, vs, z1, z2⟩ := q4; exact ⟨o, vs, by rw [ne ha]; exact z1, z2⟩
    | gone => trivial
  · obtain ⟨q, ws, z1, z2, z3, z4, z5, z6, z7⟩ := S.own i m e1
    have hq : q ≠ D := fun z => by subst z; exact u7 i m e1 z1
    exact ⟨q, ws, z1, by rw [ne hq]; exact z2, z3, z4, z5, z6, z7⟩
/-- an evaluation beside the new list, its outcome known -/
theorem rdL {α β : Type} {W : WX} {Rp : RpT α β} {f : Ss → Res α} {Q : β → Hp → Prop} {a : α} (L : Lt k T Fr μ s σ H D acc) (hf : f s = .ok a s')
    (h : ∀ T' μ' H' v, Same T T' → μ <+: μ' → Lt k T' Fr μ' s' σ H' D acc → (∃ Fr', Sim k T' Fr' μ' s' σ H' ∧ Rp T' Fr' μ' s' σ H' a v) → Q v H') : rd k W Rp f σ H Q := by
  obtain ⟨S, p, vs, u1, u2, u3, u4, u5, u6, u7⟩ := L
  cases u1
  refine ⟨T, upd Fr D (.lst vs), μ, s, S.lend u2 u4 u5 u6 u7, ?_⟩
  rw [hf]
  intro T' μ' H' v e1 p1 S1 r1
  obtain ⟨S2, q1, q2, q3, q4⟩ := S1.back u5
  exact h T' μ' H' v e1 p1 ⟨S2, D, vs, rfl, q1, u3.mono e1, q2, u5, q3, q4⟩ ⟨_, S1, r1⟩
end
def tpG : List Nat → TGs
  | [] => gNil
  | i :: l => gCons (gName i) (tpG l)
def tgG (k : Kx) : Tg → TG
  | .nm i => gName i
  | .tp l => gTup k.K l.length (tpG l)
def Tg.ix : Tg → List Nat
  | .nm i => [i]
  | .tp l => l
theorem wipe_set {σ : L2.St} {i : Nat} {v : Option V} {vs : List Nat} (h : i ∈ vs) : wipe (σ.set i v) vs = wipe σ vs := by
  refine List.ext_getElem? fun j => ?_
  rw [wipe_get, wipe_get]
  by_cases hj : j ∈ vs
  · simp only [hj, if_true]
    by_cases hi : i = j
    · subst hi
      rw [List.getElem?_set_self']
      cases σ[i]? <;> rfl
    · rw [List.getElem?_set_ne hi]
  · have hi : i ≠ j := fun z => hj (z ▸ h)
    simp only [hj, if_false]
    exact List.getElem?_set_ne hi
theorem tp_ok {k : Kx} {T Fr H : Hp} {μ : List Addr} : ∀ {l : List Nat} {xs : List Pc.D} {vs : List V} {s : Ss} {σ : L2.St}, Sim k T Fr μ s σ H → Reps k T xs vs → l.length = xs.length →
    ∃ σ', Sim k T Fr μ { s with r := (l.zip xs).foldl (fun r p => r.set p.1 (.w (.d p.2))) s.r } σ' H ∧ (∀ ws, (∀ i ∈ l, i ∈ ws) → wipe σ' ws = wipe σ ws) ∧ ∀ Q : L2.St → Hp → Prop, Q σ' H → tpG l vs σ H Q
  | [], [], vs, s, σ, S, r, _ => by
    cases (show vs = [] from r)
    exact ⟨σ, S, fun _ _ => rfl, fun Q q => ⟨rfl, q⟩⟩
  | i :: l, x :: xs, _, s, σ, S, r, hl => by
    obtain ⟨v, vs, rfl, h1, h2⟩ := r
    obtain ⟨σ', S', hw, hq⟩ := tp_ok (l := l) (xs := xs) (S.setW i (w := .d x) (v := v) h1) h2 (Nat.succ.inj hl)
    exact ⟨σ', S', fun ws hi => (hw ws fun j hj => hi j (List.mem_cons_of_mem _ hj)).trans (wipe_set (hi i List.mem_cons_self)), fun Q q => ⟨v, vs, rfl, hq Q q⟩⟩
theorem tg_ok {k : Kx} {T Fr H : Hp} {μ : List Addr} {s : Ss} {σ : L2.St} {d : Pc.D} {v : V} {r' : List Sl} (S : Sim k T Fr μ s σ H) (hr : Rep k T d v) : ∀ {tg : Tg}, bindG s.r tg d = some r' →
    ∃ σ', Sim k T Fr μ { s with r := r' } σ' H ∧ (∀ ws, (∀ i ∈ tg.ix, i ∈ ws) → wipe σ' ws = wipe σ ws) ∧ ∀ Q : L2.St → Hp → Prop, Q σ' H → tgG k tg v σ H Q
  | .nm i, h => by
    cases h
    exact ⟨_, S.setW i (w := .d d) (v := v) hr, fun ws hi => wipe_set (hi i List.mem_cons_self), fun Q q => q⟩
  | .tp l, h => by
    cases d with
    | tup xs =>
      simp only [bindG] at h
      by_cases hl : l.length = xs.length
      · rw [if_pos hl] at h
        cases h
        obtain ⟨a, vs, rfl, h1, h2⟩ := (show Rep k T (.tup xs) v from hr)
        obtain ⟨σ', S', hw, hq⟩ := tp_ok S h2 hl
        exact ⟨σ', S', hw, fun Q q => ⟨a, vs, rfl, sqT_same S.tH h1, by rw [h2.len, hl], hq Q q⟩⟩
      · rw [if_neg hl] at h
        cases h
    | _ => cases h
section
variable {t : Tb} {n : Nat} {M : Mc} {X : Cx}
def SG (t : Tb) (n : Nat) (M : Mc) (tg : Tg) (x : Expr) : Prop := ∀ X W, Ok t n M X W → PG X x (tgG (t.k X) tg)
def locB (M : Mc) (x : Str) : Bool :=
  match M.sc.names.lookup x with
  | some .local => true
  | some .cell => M.fn x
  | _ => false
theorem locB_ok {W : WX} (O : Ok t n M X W) {x : Str} (h : locB M x = true) : L2.Loc X.env.scope x ∧ (X.fn x = true ∨ X.env.scope.names.lookup x = some .local) := by
  unfold L2.Loc
  rw [O.sc]
  unfold locB at h
  split at h
  · exact ⟨.inl (by assumption), .inr (by assumption)⟩
  · exact ⟨.inr (by assumption), .inl (O.fn _ h)⟩
  · cases h
def tgB (M : Mc) (i : Nat) (x : Str) : Bool := decide (M.N[i]? = some x) && locB M x
theorem sg_nm {i : Nat} {x : Str} {p : Pos} (h : tgB M i x = true) : SG t n M (.nm i) (.Name x p) := fun X W O => by
  simp only [tgB, Bool.and_eq_true, decide_eq_true_eq] at h
  obtain ⟨h1, h2⟩ := locB_ok O h.2
  exact pg_name O.nd (by rw [O.N]; exact h.1) h1 h2
def tpB (M : Mc) : List Nat → List Expr → Bool
  | [], [] => true
  | i :: l, .Name x _ :: es => tgB M i x && tpB M l es
  | _, _ => false
theorem sgs {W : WX} (O : Ok t n M X W) : ∀ {l : List Nat} {es : List Expr}, tpB M l es = true → PGs X es (tpG l) ∧ (assignEach es X.env).length = l.length ∧ (assignEach es X.env).findIdx? (·.1) = none ∧ es.length = l.length
  | [], [], _ => ⟨pgs_nil, rfl, rfl, rfl⟩
  | i :: l, e :: es, h => by
    cases e with
    | Name x p =>
      simp only [tpB, Bool.and_eq_true] at h
      obtain ⟨h1, h2, h3, h4⟩ := sgs O h.2
      refine ⟨pgs_cons (sg_nm h.1 X W O) h1 rfl, ?_, ?_, congrArg Nat.succ h4⟩
      · show (assignEach es X.env).length + 1 = l.length + 1
        rw [h2]
      · show ((false, assign (.Name x p) X.env) :: assignEach es X.env).findIdx? (·.1) = none
        rw [List.findIdx?_cons, h3]
        rfl
    | _ => cases h
  | [], _ :: _, h => by cases h
  | _ :: _, [], h => by cases h
theorem sg_tp {l : List Nat} {es : List Expr} {j : Nat} {p : Pos} (h : tpB M l es = true) : SG t n M (.tp l) (.Tuple es j p) := fun X W O => by
  obtain ⟨h1, h2, h3, _⟩ := sgs O h
  exact pg_tup O.calm h1 h2 h3
structure Yl (k : Kx) (T : Hp) (l : List Pc.D) (J : L2.It) : Prop where
  stop : ∀ i H, Same T H → l.length ≤ i → J.stop i H
  go : ∀ i H, Same T H → i < l.length → J.go i H
  yl : ∀ i d x H H' T1 Fr μ s σ, Same T T1 → Sim k T1 Fr μ s σ H → l[i]? = some d → J.yld i H x H' → ∃ T2, Same T1 T2 ∧ Sim k T2 Fr μ s σ H' ∧ Rep k T2 d x
def rI (k : Kx) : RpT (List Pc.D) L2.It := fun T _ _ _ _ _ l J => Yl k T l J
def SI (t : Tb) (n : Nat) (M : Mc) (i : Pc.It) (tg x : Expr) : Prop := ∀ X W, Ok t n M X W → PI X tg x (rd (t.k X) W (rI (t.k X)) (evI (t.o n) i))
theorem PI.weak {X : Cx} {tg e : Expr} {t u : TI} (h : PI X tg e t) (k : ∀ σ H Q, u σ H Q → t σ H Q) : PI X tg e u := ⟨fun pins s σ H Q I q => h.run pins s σ H Q I (k σ H Q q)⟩
theorem yl_list {k : Kx} {T : Hp} {l : List Pc.D} {vs : List V} {a : Addr} (h1 : T a = some (.lst vs)) (h2 : Reps k T l vs) : Yl k T l (Itl k.K a) := by
  refine ⟨fun i H e hi => ⟨vs, .of (e _ _ h1), by rw [h2.len]; exact hi⟩, fun i H e hi => ?_, fun i d x H H' T1 Fr μ s σ e S hd y => ?_⟩
  · have hi' : i < vs.length := by rw [h2.len]; exact hi
    exact ⟨vs, vs[i], .of (e _ _ h1), List.getElem?_eq_getElem hi'⟩
  · obtain ⟨rfl, y⟩ := y
    obtain ⟨v, q1, q2⟩ := h2.get hd
    have := y vs (.of (S.tH _ _ (e _ _ h1)))
    rw [q1] at this
    cases this
    exact ⟨T1, same_refl _, S, q2.mono e⟩
theorem yl_tup {k : Kx} {T : Hp} {l : List Pc.D} {vs : List V} {a : Addr} (h1 : SqT k.K T a vs) (h2 : Reps k T l vs) : Yl k T l (Itt k.K a) := by
  refine ⟨fun i H e hi => ⟨vs, sqT_same e h1, by rw [h2.len]; exact hi⟩, fun i H e hi => ?_, fun i d x H H' T1 Fr μ s σ e S hd y => ?_⟩
  · have hi' : i < vs.length := by rw [h2.len]; exact hi
    exact ⟨vs, vs[i], sqT_same e h1, List.getElem?_eq_getElem hi'⟩
  · obtain ⟨rfl, y⟩ := y
    obtain ⟨v, q1, q2⟩ := h2.get hd
    have := y vs (sqT_same S.tH (sqT_same e h1))
    rw [q1] at this
    cases this
    exact ⟨T1, same_refl _, S, q2.mono e⟩
theorem yl_str {k : Kx} {T : Hp} {z : Str} : Yl k T (z.cps.toList.map fun c => .str ⟨#[c]⟩) (Its z) := by
  refine ⟨fun i H e hi => ?_, fun i H e hi => ?_, fun i d x H H' T1 Fr μ s σ e S hd y => ?_⟩
  · simpa [Its] using hi
  · simpa [Its] using hi
  · obtain ⟨rfl, c, hc, rfl⟩ := y
    rw [List.getElem?_map, Array.getElem?_toList, hc] at hd
    cases hd
    exact ⟨T1, same_refl _, S, rfl⟩
theorem yl_rng {k : Kx} {T : Hp} {lo : Int} {m : Nat} : Yl k T ((List.range m).map fun i => .int (lo + (i : Nat))) (Itr lo m) := by
  refine ⟨fun i H e hi => by simpa [Itr] using hi, fun i H e hi => by simpa [Itr] using hi, fun i d x H H' T1 Fr μ s σ e S hd y => ?_⟩
  obtain ⟨rfl, rfl⟩ := y
  rw [List.getElem?_map] at hd
  obtain ⟨j, hj, rfl⟩ := Option.map_eq_some_iff.mp hd
  obtain ⟨h1, h2⟩ := List.getElem?_eq_some_iff.mp hj
  simp at h2
  subst h2
  exact ⟨T1, same_refl _, S, rfl⟩
theorem yl_enum {k : Kx} {T : Hp} {l : List Pc.D} {vs : List V} {a : Addr} (h1 : T a = some (.lst vs) ) (h2 : Reps k T l vs) : Yl k T (enD l) (Ite k.K a) := by
  have hen : (enD l).length = l.length := by simp [enD]
  refine ⟨fun i H e hi => ⟨vs, .of (e _ _ h1), by rw [h2.len, ← hen]; exact hi⟩, fun i H e hi => ?_, fun i d x H H' T1 Fr μ s σ e S hd y => ?_⟩
  · have hi' : i < vs.length := by rw [h2.len, ← hen]; exact hi
    exact ⟨vs, vs[i], .of (e _ _ h1), List.getElem?_eq_getElem hi'⟩
  · obtain ⟨p, u, rfl, hp, rfl, y⟩ := y
    unfold enD at hd
    rw [List.getElem?_map, List.getElem?_zipIdx] at hd
    obtain ⟨pr, hj, rfl⟩ := Option.map_eq_some_iff.mp hd
    obtain ⟨z, hz, rfl⟩ := Option.map_eq_some_iff.mp hj
    obtain ⟨v, q1, q2⟩ := h2.get hz
    have := y vs (.of (S.tH _ _ (e _ _ h1)))
    rw [q1] at this
    cases this
    have e2 := upd_none (T := T1) (p := p) (o := .tup [.int (i : Nat), u]) (S.tn hp)
    refine ⟨_, e2, S.new hp, p, _, rfl, SqT.of upd_same, .cons (by simp [Rep]) (.one ((q2.mono e).mono e2))⟩
theorem yl_enumT {k : Kx} {T : Hp} {l : List Pc.D} {vs : List V} {a : Addr} (h1 : SqT k.K T a vs) (h2 : Reps k T l vs) : Yl k T (enD l) (IteT k.K a) := by
  have hen : (enD l).length = l.length := by simp [enD]
  refine ⟨fun i H e hi => ⟨vs, sqT_same e h1, by rw [h2.len, ← hen]; exact hi⟩, fun i H e hi => ?_, fun i d x H H' T1 Fr μ s σ e S hd y => ?_⟩
  · have hi' : i < vs.length := by rw [h2.len, ← hen]; exact hi
    exact ⟨vs, vs[i], sqT_same e h1, List.getElem?_eq_getElem hi'⟩
  · obtain ⟨p, u, rfl, hp, rfl, y⟩ := y
    unfold enD at hd
    rw [List.getElem?_map, List.getElem?_zipIdx] at hd
    obtain ⟨pr, hj, rfl⟩ := Option.map_eq_some_iff.mp hd
    obtain ⟨z, hz, rfl⟩ := Option.map_eq_some_iff.mp hj
    obtain ⟨v, q1, q2⟩ := h2.get hz
    have := y vs (sqT_same S.tH (sqT_same e h1))
    rw [q1] at this
    cases this
    have e2 := upd_none (T := T1) (p := p) (o := .tup [.int (i : Nat), u]) (S.tn hp)
    refine ⟨_, e2, S.new hp, p, _, rfl, SqT.of upd_same, .cons (by simp [Rep]) (.one ((q2.mono e).mono e2))⟩
theorem zp_get {l m : List Pc.D} : ∀ {i : Nat} {d : Pc.D}, (zpD l m)[i]? = some d → ∃ x y, l[i]? = some x ∧ m[i]? = some y ∧ d = .tup [x, y] := by
  induction l generalizing m with
  | nil => intro i d h; simp [zpD] at h
  | cons x l ih =>
    intro i d h
    cases m with
    | nil => simp [zpD] at h
    | cons y m =>
      cases i with
      | zero => simp [zpD] at h; exact ⟨x, y, rfl, rfl, h.symm⟩
      | succ i => exact ih (i := i) (by simpa [zpD] using h)
theorem zp_len {l m : List Pc.D} : (zpD l m).length = min l.length m.length := by
  induction l generalizing m with
  | nil => simp [zpD]
  | cons x l ih =>
    cases m with
    | nil => simp [zpD]
    | cons y m => simp [zpD, ih]
theorem yl_zip {k : Kx} {T : Hp} {l m : List Pc.D} {vs ws : List V} {a b : Addr} (h1 : T a = some (.lst vs)) (h2 : Reps k T l vs) (h3 : T b = some (.lst ws)) (h4 : Reps k T m ws) : Yl k T (zpD l m) (Itz k.K a b) := by
  have hl2 := h2.len
  have hl4 := h4.len
  refine ⟨fun i H e hi => ⟨vs, ws, .of (e _ _ h1), .of (e _ _ h3), ?_⟩, fun i H e hi => ?_, fun i d x H H' T1 Fr μ s σ e S hd y => ?_⟩
  · rw [zp_len] at hi; omega
  · rw [zp_len] at hi
    have hi1 : i < vs.length := by omega
    have hi2 : i < ws.length := by omega
    exact ⟨vs, ws, vs[i], ws[i], .of (e _ _ h1), .of (e _ _ h3), List.getElem?_eq_getElem hi1, List.getElem?_eq_getElem hi2⟩
  · obtain ⟨p, u, w, rfl, hp, rfl, y1, y2⟩ := y
    obtain ⟨z1, z2, hz1, hz2, rfl⟩ := zp_get hd
    obtain ⟨v1, q1, q2⟩ := h2.get hz1
    obtain ⟨v2, q3, q4⟩ := h4.get hz2
    have t1 := y1 vs (.of (S.tH _ _ (e _ _ h1)))
    have t2 := y2 ws (.of (S.tH _ _ (e _ _ h3)))
    rw [q1] at t1
    rw [q3] at t2
    cases t1
    cases t2
    have e2 := upd_none (T := T1) (p := p) (o := .tup [u, w]) (S.tn hp)
    exact ⟨_, e2, S.new hp, p, _, rfl, SqT.of upd_same, .cons ((q2.mono e).mono e2) (.one ((q4.mono e).mono e2))⟩
end
end Pc

set_option Elab.async false
set_option linter.all false
set_option maxRecDepth 100000
set_option maxHeartbeats 4000000
namespace Pc
open PySem L2
section
variable {t : Tb} {n : Nat} {M : Mc} {X : Cx}
theorem rep_top {k : Kx} {T : Hp} {l : List Pc.D} {v : V} (h : Rep k T (.lst l) v) : ∃ a vs, v = .ref a ∧ T a = some (.lst vs) ∧ Reps k T l vs := h
/-- a list, a tuple or a text is walked: which of the three is told ahead -/
inductive Sk where
  | l | t | s
theorem si_lst {a : Ex} {tg xa : Expr} (ha : SE t n M a xa) : (∀ X W, Ok t n M X W → PI X tg xa (rd (t.k X) W (fun T Fr μ s σ H (l : List Pc.D) J => Yl (t.k X) T l J) fun s => (ev (t.o n) a s).bind fun x s1 => match x with
    | .d (.lst m) => .ok m s1
    | _ => .stuck)) := fun X W O => by
  refine PI.weak (pi_list (ha X W O)) fun σ H Q ⟨T, Fr, μ, s, S, a⟩ => ?_
  refine rd_bind S a fun T1 μ1 H1 v w s1 e1 p1 S1 r1 a => ?_
  split at a
  · obtain ⟨b, vs, rfl, h1, h2⟩ := rep_top r1
    exact ⟨b, rfl, ⟨vs, .of (S1.tH _ _ h1)⟩, a.here S1 (yl_list h1 h2)⟩
  · exact a.elim
theorem si_tup {a : Ex} {tg xa : Expr} (ha : SE t n M a xa) : (∀ X W, Ok t n M X W → PI X tg xa (rd (t.k X) W (fun T Fr μ s σ H (l : List Pc.D) J => Yl (t.k X) T l J) fun s => (ev (t.o n) a s).bind fun x s1 => match x with
    | .d (.tup m) => .ok m s1
    | _ => .stuck)) := fun X W O => by
  refine PI.weak (pi_tup (ha X W O)) fun σ H Q ⟨T, Fr, μ, s, S, a⟩ => ?_
  refine rd_bind S a fun T1 μ1 H1 v w s1 e1 p1 S1 r1 a => ?_
  split at a
  · rename_i m
    obtain ⟨b, vs, rfl, h1, h2⟩ := (show Rep _ _ (.tup m) v from r1)
    exact ⟨b, rfl, ⟨vs, sqT_same S1.tH h1⟩, a.here S1 (yl_tup h1 h2)⟩
  · exact a.elim
theorem si_str {a : Ex} {tg xa : Expr} (ha : SE t n M a xa) : (∀ X W, Ok t n M X W → PI X tg xa (rd (t.k X) W (fun T Fr μ s σ H (l : List Pc.D) J => Yl (t.k X) T l J) fun s => (ev (t.o n) a s).bind fun x s1 => match x with
    | .d (.str z) => .ok (z.cps.toList.map fun c => .str ⟨#[c]⟩) s1
    | _ => .stuck)) := fun X W O => by
  refine PI.weak (pi_str (ha X W O)) fun σ H Q ⟨T, Fr, μ, s, S, a⟩ => ?_
  refine rd_bind S a fun T1 μ1 H1 v w s1 e1 p1 S1 r1 a => ?_
  split at a
  · rename_i z
    exact ⟨z, r1, a.here S1 yl_str⟩
  · exact a.elim
/-- which of three ways, the outcome known -/
theorem PI.cases {X : Cx} {tg e : Expr} {t1 t2 t3 u : TI} (h1 : PI X tg e t1) (h2 : PI X tg e t2) (h3 : PI X tg e t3) (k : ∀ σ H Q, u σ H Q → t1 σ H Q ∨ t2 σ H Q ∨ t3 σ H Q) : PI X tg e u :=
  ⟨fun pins s σ H Q I q => by
    rcases k σ H Q q with q | q | q
    · exact h1.run pins s σ H Q I q
    · exact h2.run pins s σ H Q I q
    · exact h3.run pins s σ H Q I q⟩
theorem si_sq {a : Ex} {tg xa : Expr} (ha : SE t n M a xa) : SI t n M (.sq a) tg xa := fun X W O => by
  refine PI.cases (si_lst ha X W O) (si_tup ha X W O) (si_str ha X W O) fun σ H Q ⟨T, Fr, μ, s, S, a⟩ => ?_
  unfold evI at a
  cases e : ev (t.o n) _ s with
  | stuck => rw [e] at a; exact a.elim
  | exc x s' => rw [e] at a; exact .inl ⟨T, Fr, μ, s, S, by dsimp only; rw [e]; exact a⟩
  | ok w s' =>
    rw [e] at a
    simp only [Res.bind] at a
    cases w with
    | d x =>
      simp only [] at a
      cases x with
      | lst l => exact .inl ⟨T, Fr, μ, s, S, by dsimp only; rw [e]; exact a⟩
      | tup l => exact .inr (.inl ⟨T, Fr, μ, s, S, by dsimp only; rw [e]; exact a⟩)
      | str z => exact .inr (.inr ⟨T, Fr, μ, s, S, by dsimp only; rw [e]; exact a⟩)
      | _ => exact a.elim
    | c _ => exact a.elim
    | b _ => exact a.elim
theorem star1 {e : Expr} (h : plainArg e = true) (env : Env) : starEach [e] env = [(false, eval e env)] := star_plain h [] env
theorem star2 {e f : Expr} (h : plainArg e = true) (h2 : plainArg f = true) (env : Env) : starEach [e, f] env = [(false, eval e env), (false, eval f env)] := by rw [star_plain h, star1 h2]
theorem rg_some {lo hi : Int} {l : List Pc.D} (h : rgD lo hi = some l) : (-(2 ^ 62) ≤ lo ∧ lo < 2 ^ 62 ∧ -(2 ^ 62) ≤ hi ∧ hi < 2 ^ 62) ∧ l = (List.range (hi - lo).toNat).map fun i => .int (lo + (i : Nat)) := by
  obtain ⟨h1, h2⟩ := optB_some h
  simp only [Bool.and_eq_true, decide_eq_true_eq] at h1
  exact ⟨⟨h1.1.1.1, h1.1.1.2, h1.1.2, h1.2⟩, h2.symm⟩
theorem si_rg1 {a : Ex} {tg xa : Expr} {p pos : Pos} (hx : glB M.sc "range" && t.free "range" && plainArg xa = true) (ha : SE t n M a xa) : SI t n M (.rg1 a) tg (.Call (.Name "range" p) [xa] [] pos) := fun X W O => by
  simp only [Bool.and_eq_true, decide_eq_true_eq] at hx
  refine PI.weak (pi_range1 (glB_ok O hx.1.1) (O.fr _ hx.1.2) (pa_cons (ha X W O) pa_nil (star_plain hx.2 _ _)) (star1 hx.2 _)) fun σ H Q ⟨T, Fr, μ, s, S, a⟩ => ?_
  unfold evI at a
  refine rd_bind S a fun T1 μ1 H1 v w s1 e1 p1 S1 r1 a => ?_
  split at a
  · rename_i j
    obtain ⟨l, hl, a1⟩ := Aft.of a
    clear a
    obtain ⟨h1, rfl⟩ := rg_some hl
    cases (show v = _ from r1)
    refine ⟨j, rfl, h1.2.2.1, h1.2.2.2, a1.here S1 ?_⟩
    have := yl_rng (k := t.k X) (T := T1) (lo := 0) (m := j.toNat)
    simpa [rI] using this
  · exact a.elim
theorem si_rg2 {a b : Ex} {tg xa xb : Expr} {p pos : Pos} (hx : glB M.sc "range" && t.free "range" && plainArg xa && plainArg xb = true) (ha : SE t n M a xa) (hb : SE t n M b xb) : SI t n M (.rg2 a b) tg (.Call (.Name "range" p) [xa, xb] [] pos) := fun X W O => by
  simp only [Bool.and_eq_true, decide_eq_true_eq] at hx
  obtain ⟨⟨⟨x1, x2⟩, x3⟩, x4⟩ := hx
  refine PI.weak (pi_range2 (glB_ok O x1) (O.fr _ x2) (pa_cons (ha X W O) (pa_cons (hb X W O) pa_nil (star_plain x4 _ _)) (star_plain x3 _ _)) (star2 x3 x4 _) (star1 x4 _)) fun σ H Q ⟨T, Fr, μ, s, S, a⟩ => ?_
  unfold evI at a
  refine rd_bind S a fun T1 μ1 H1 v w s1 e1 p1 S1 r1 a => rd_bind S1 a fun T2 μ2 H2 v2 w2 s2 e2 p2 S2 r2 a => ?_
  split at a
  · rename_i i j _
    obtain ⟨l, hl, a1⟩ := Aft.of a
    clear a
    obtain ⟨h1, rfl⟩ := rg_some hl
    cases (show v = _ from r1)
    cases (show v2 = _ from r2)
    exact ⟨i, j, rfl, h1, a1.here S2 (yl_rng (k := t.k X) (T := T2) (lo := i) (m := (j - i).toNat))⟩
  · exact a.elim
theorem si_en {a : Ex} {elts : List Expr} {kk : Nat} {tp : Pos} {xa : Expr} {p pos : Pos} (hx : glB M.sc "enumerate" && t.free "enumerate" && plainArg xa = true) (ha : SE t n M a xa) : SI t n M (.en a) (.Tuple elts kk tp) (.Call (.Name "enumerate" p) [xa] [] pos) := fun X W O => by
  simp only [Bool.and_eq_true, decide_eq_true_eq] at hx
  refine PI.weak (pi_enumA (glB_ok O hx.1.1) (O.fr _ hx.1.2) (pa_cons (ha X W O) pa_nil (star_plain hx.2 _ _)) (star1 hx.2 _)) fun σ H Q ⟨T, Fr, μ, s, S, a⟩ => ?_
  unfold evI at a
  refine rd_bind S a fun T1 μ1 H1 v w s1 e1 p1 S1 r1 a => ?_
  split at a
  · obtain ⟨b, vs, rfl, h1, h2⟩ := rep_top r1
    exact .inl ⟨b, vs, rfl, .of (S1.tH _ _ h1), a.here S1 (yl_enum h1 h2)⟩
  · obtain ⟨b, vs, rfl, h1, h2⟩ := r1
    exact .inr ⟨b, vs, rfl, sqT_same S1.tH h1, a.here S1 (yl_enumT h1 h2)⟩
  · exact a.elim
theorem si_zp {a b : Ex} {elts : List Expr} {kk : Nat} {tp : Pos} {xa xb : Expr} {p pos : Pos} (hx : glB M.sc "zip" && t.free "zip" && plainArg xa && plainArg xb = true) (ha : SE t n M a xa) (hb : SE t n M b xb) : SI t n M (.zp a b) (.Tuple elts kk tp) (.Call (.Name "zip" p) [xa, xb] [] pos) := fun X W O => by
  simp only [Bool.and_eq_true, decide_eq_true_eq] at hx
  obtain ⟨⟨⟨x1, x2⟩, x3⟩, x4⟩ := hx
  refine PI.weak (RZ.pi_zipA (glB_ok O x1) (O.fr _ x2) (pa_cons (ha X W O) (pa_cons (hb X W O) pa_nil (star_plain x4 _ _)) (star_plain x3 _ _)) (star_plain x3 _ _) (by rw [star1 x4]; rfl)) fun σ H Q ⟨T, Fr, μ, s, S, a⟩ => ?_
  unfold evI at a
  refine rd_bind S a fun T1 μ1 H1 v w s1 e1 p1 S1 r1 a => rd_bind S1 a fun T2 μ2 H2 v2 w2 s2 e2 p2 S2 r2 a => ?_
  split at a
  · obtain ⟨b, vs, rfl, h1, h2⟩ := rep_top (r1.mono e2 p2)
    obtain ⟨c, ws, rfl, h3, h4⟩ := rep_top r2
    exact ⟨b, c, vs, ws, rfl, .inl ⟨.of (S2.tH _ _ h1), .of (S2.tH _ _ h3), a.here S2 (yl_zip h1 h2 h3 h4)⟩⟩
  · exact a.elim
abbrev noW : WX := fun _ _ _ _ => False
def blkSc (sc scope : Scope) : Scope := { scope with names := scope.names.map fun (n, k) => if (k == .free && sc.kind == .function && sc.names.lookup n == some .cell) then (n, .cell) else (n, k) }
def blkM (M : Mc) (scope : Scope) : Mc := ⟨M.N, blkSc M.sc scope, fun x => scope.names.lookup x == some .cell⟩
theorem Ok.blk {W : WX} (O : Ok t n M X W) (s : Shared) (H : Hp) (scope : Scope) (cl : List (Str × Addr)) (C : Addr) (fp : List Addr) : Ok t n (blkM M scope) (X.blk s H scope (compEnvC scope cl C X.env) fp) noW :=
  ⟨O.N, by show relabel scope X.env = blkSc M.sc scope; rw [← O.sc]; rfl, fun _ h => h, O.fr, O.co, O.room, O.nd, O.calm, fun u s' ⟨_, _, _, _, _, _, _, _, _, _, _, _, _, _, _, _, w⟩ => w, O.fns⟩
def STs (t : Tb) (n : Nat) (M : Mc) (ts : Tes) (xs : List Expr) : Prop := ∀ X W, Ok t n M X W → PTs X xs (rd (t.k X) W rB (evTs (t.o n) true ts))
theorem PTs.weak {X : Cx} {e : List Expr} {t u : TT} (h : PTs X e t) (k : ∀ σ H Q, u σ H Q → t σ H Q) : PTs X e u := ⟨fun pins s σ H Q I q => h.run pins s σ H Q I (k σ H Q q)⟩
theorem sts_nil : STs t n M .nil [] := fun X W O => PTs.weak pts_nil fun σ H Q ⟨T, Fr, μ, s, S, a⟩ => by unfold evTs at a; exact a.here S rfl
theorem sts_one {c : Te} {xc : Expr} (h : ST t n M c xc) : STs t n M (.cons c .nil) [xc] := fun X W O => by
  refine PTs.weak (pts_one (h X W O)) fun σ H Q ⟨T, Fr, μ, s, S, a⟩ => ?_
  unfold evTs at a
  refine rd_bind S a fun T1 μ1 H1 v w s1 e1 p1 S1 r1 a => ?_
  cases (show w = v from r1)
  unfold evTs at a
  split at a
  · rename_i h
    rw [← beq_iff_eq.mp h] at a
    exact a.here S1 rfl
  · exact a.here S1 rfl
/-- a loop beside the new list -/
theorem comp_run {k : Kx} {T0 Fr : Hp} {μ0 : List Addr} {l : List Pc.D} {J : L2.It} {f : Pc.D → List Pc.D → Ss → Res (List Pc.D)} {vs : List Nat} {σw : L2.St} {D : Addr} {Post : Hp → Prop} {B : V → Hp → (Hp → Prop) → Prop} {accE : List Pc.D} {sE : Ss} (Y : Yl k T0 l J)
    (step : ∀ d acc s acc' s' T μ H v Nx, Same T0 T → μ0 <+: μ → f d acc s = .ok acc' s' → Rep k T d v → Lt k T Fr μ { s with r := nR s.r vs } σw H D acc →
      (∀ T' μ' H', Same T T' → μ <+: μ' → Lt k T' Fr μ' { s' with r := nR s'.r vs } σw H' D acc' → Nx H') → B v H Nx)
    (post : ∀ T μ H, Same T0 T → μ0 <+: μ → Lt k T Fr μ { sE with r := nR sE.r vs } σw H D accE → Post H) {acc : List Pc.D} {s : Ss} {T : Hp} {μ : List Addr} {H : Hp} (e0 : Same T0 T) (p0 : μ0 <+: μ)
    (L : Lt k T Fr μ { s with r := nR s.r vs } σw H D acc) (h : comp f l acc s = .ok accE sE) :
    ∃ W : Nat → Nat → Hp → Prop, (∃ m, W 0 m H) ∧ ∀ i m H, W i m H → (J.stop i H ∧ Post H) ∨ (J.go i H ∧ ∃ Nx : Hp → Prop, (∀ H', Nx H' → ∃ m', m' < m ∧ W (i + 1) m' H') ∧ ∀ x H', J.yld i H x H' → B x H' Nx) := by
  refine ⟨fun i m H => m = l.length - i ∧ i ≤ l.length ∧ ∃ T μ s acc, Same T0 T ∧ μ0 <+: μ ∧ Lt k T Fr μ { s with r := nR s.r vs } σw H D acc ∧ comp f (l.drop i) acc s = .ok accE sE, ⟨l.length, by simp, Nat.zero_le _, T, μ, s, acc, e0, p0, L, by simpa using h⟩, ?_⟩
  rintro i m H ⟨rfl, hi, T, μ, s, acc, e1, p1, L, h⟩
  by_cases hlt : i < l.length
  · refine .inr ⟨Y.go i H (e1.trans L.1.tH) hlt, fun H' => ∃ T μ s acc, Same T0 T ∧ μ0 <+: μ ∧ Lt k T Fr μ { s with r := nR s.r vs } σw H' D acc ∧ comp f (l.drop (i + 1)) acc s = .ok accE sE,
      fun H' w => ⟨l.length - (i + 1), by omega, rfl, hlt, w⟩, fun x H' y => ?_⟩
    rw [List.drop_eq_getElem_cons hlt] at h
    unfold comp at h
    split at h
    · rename_i acc' s' hf
      -- the source's step beside the lent list
      obtain ⟨S, p, ws, u1, u2, u3, u4, u5, u6, u7⟩ := L
      cases u1
      obtain ⟨T2, e2, S2, r2⟩ := Y.yl i l[i] x H H' T (upd Fr D (.lst ws)) μ _ _ e1 (S.lend u2 u4 u5 u6 u7) (List.getElem?_eq_getElem hlt) y
      obtain ⟨S3, q1, q2, q3, q4⟩ := S2.back u5
      exact step l[i] acc s acc' s' T2 μ H' x _ (e1.trans e2) p1 hf r2 ⟨S3, D, ws, rfl, q1, u3.mono e2, q2, u5, q3, q4⟩ fun T' μ' H'' e3 p3 L' => ⟨T', μ', s', acc', (e1.trans e2).trans e3, p1.trans p3, L', h⟩
    · cases h
  · have e : i = l.length := by omega
    subst e
    rw [List.drop_length] at h
    unfold comp at h
    cases h
    exact .inl ⟨Y.stop _ H (e1.trans L.1.tH) (Nat.le_refl _), post T μ H e1 p1 L⟩
theorem bind_ok {α β : Type} {r : Res α} {g : α → Ss → Res β} {b : β} {s' : Ss} (h : r.bind g = .ok b s') : ∃ a s1, r = .ok a s1 ∧ g a s1 = .ok b s' := by
  cases r with
  | ok a s1 => exact ⟨a, s1, rfl, h⟩
  | exc x s1 => cases h
  | stuck => cases h
/-- the last clause's item -/
theorem elem_ok {W : WX} {k : Kx} {o : Or} {e : Ex} {acc acc' : List Pc.D} {s s' : Ss} {T Fr H : Hp} {μ : List Addr} {σ : L2.St} {D : Addr} {Nx : Hp → Prop} (h : ((ev o e s).bind fun y s5 => addD acc y s5) = .ok acc' s') (L : Lt k T Fr μ s σ H D acc)
    (hN : ∀ T' μ' H', Same T T' → μ <+: μ' → Lt k T' Fr μ' s' σ H' D acc' → Nx H') : rd k W (rE k) (ev o e) σ H fun y H4 => ∃ vs, H4 D = some (.lst vs) ∧ vs.length < sizeLine ∧ Nx (upd H4 D (.lst (vs ++ [y]))) := by
  obtain ⟨y, s5, h1, h2⟩ := bind_ok h
  refine rdL L h1 fun T' μ' H' v e1 p1 L' ⟨_, S', r1⟩ => ?_
  unfold addD at h2
  split at h2
  · rename_i d
    split at h2
    · rename_i hz
      cases h2
      obtain ⟨S, p, vs, u1, u2, u3, u4⟩ := id L'
      cases u1
      exact ⟨vs, u2, by rw [u3.len]; exact hz, hN _ _ _ e1 p1 (L'.write (u3.app (.one r1)))⟩
    · cases h2
  · cases h2
def subB (l vs : List Nat) : Bool := l.all fun i => vs.contains i
theorem subB_ok {l vs : List Nat} (h : subB l vs = true) : ∀ i ∈ l, i ∈ vs := fun i hi => by
  have := List.all_eq_true.mp h i hi
  simpa using this
def foldB : Expr → Bool
  | .Set _ _ _ => false
  | _ => true
theorem fold_of {e : Expr} (h : foldB e = true) (env : Env) (x : Value) : foldedSetIterable e env x = pure x := by
  cases e <;> first | rfl | cases h
theorem comp_noexc {x : Pc.D} {s2 : Ss} {f : Pc.D → List Pc.D → Ss → Res (List Pc.D)} : ∀ {l acc : List Pc.D} {s1 : Ss}, comp f l acc s1 ≠ .exc x s2
  | [], acc, s1, h => by cases h
  | y :: l, acc, s1, h => by
    unfold comp at h
    split at h
    · exact comp_noexc h
    · cases h
/-- one turn of a clause -/
theorem turn_ok {k : Kx} {tg : Tg} {vs : List Nat} {o : Or} {ifs : Tes} {fe : List Pc.D → Ss → Res (List Pc.D)} {d : Pc.D} {acc acc' : List Pc.D} {s s' : Ss} {T Fr H : Hp} {μ : List Addr} {σ : L2.St} {D : Addr} {v : V} {Nx : Hp → Prop} {te : L2.St → Hp → Prop} (x3 : subB tg.ix vs = true)
    (hf : turnC tg vs (evTs o true ifs) fe d acc s = .ok acc' s') (hr : Rep k T d v) (L : Lt k T Fr μ { s with r := nR s.r vs } (wipe σ vs) H D acc)
    (hN : ∀ T' μ' H', Same T T' → μ <+: μ' → Lt k T' Fr μ' { s' with r := nR s'.r vs } (wipe σ vs) H' D acc' → Nx H')
    (he : ∀ s4 σ2 T5 μ5 H5, Same T T5 → μ <+: μ5 → wipe σ2 vs = wipe σ vs → fe acc s4 = .ok acc' s' → Lt k T5 Fr μ5 s4 σ2 H5 D acc → te σ2 H5) :
    tgG k tg v (wipe σ vs) H fun σ2 H2 => wipe σ2 vs = wipe σ vs ∧ rd k noW rB (evTs o true ifs) σ2 H2 fun b H3 => if b = true then te σ2 H3 else Nx H3 := by
  unfold turnC at hf
  split at hf
  · cases hf
  · rename_i r3 hb
    obtain ⟨c, s4, h1, h2⟩ := bind_ok hf
    obtain ⟨S2, F2⟩ := L
    obtain ⟨p, ws, u1, u2, u3, u4, u5, u6, u7⟩ := F2
    cases u1
    obtain ⟨σ2, S3, hw, hq⟩ := tg_ok (S2.lend u2 u4 u5 u6 u7) hr hb
    obtain ⟨S4, q1, q2, q3, q4⟩ := S3.back u5
    have L4 : Lt k T Fr μ { s with r := r3 } σ2 H D acc := ⟨S4, D, ws, rfl, q1, u3, q2, u5, q3, q4⟩
    have hw2 : wipe σ2 vs = wipe σ vs := (hw vs (subB_ok x3)).trans (wipe_wipe fun _ h => h)
    refine hq _ ⟨hw2, rdL L4 h1 fun T5 μ5 H5 b e5 p5 L5 ⟨_, _, rb⟩ => ?_⟩
    cases (show c = b from rb)
    cases c with
    | true =>
      rw [if_pos rfl] at h2 ⊢
      exact he _ _ _ _ _ e5 p5 hw2 h2 L5
    | false =>
      rw [if_neg Bool.false_ne_true] at h2 ⊢
      cases h2
      exact hN T5 μ5 H5 e5 p5 (by have := L5.wipe vs; rw [hw2] at this; exact this)
theorem lc_tr {k : Kx} {W : WX} {o : Or} {tg : Tg} {i : Pc.It} {ifs : Tes} {e : Ex} {vs : List Nat} (x3 : subB tg.ix vs = true) : ∀ σ H Q, rd k W (rF k) (evF o (.lc tg i ifs e vs)) σ H Q →
    tLc (rd k W (rI k) (evI o i)) (tgG k tg) (rd k noW rB (evTs o true ifs)) (rd k noW (rE k) (ev o e)) vs σ H Q := fun σ H Q ⟨T, Fr, μ, s, S, a⟩ => by
  unfold evF at a
  refine rd_bind S a fun T1 μ1 H1 J l s1 e1 p1 S1 Y a => ?_
  split at a
  · rename_i hn
    intro D hD
    cases hc : comp (turnC tg vs (evTs o true ifs) (fun acc s4 => (ev o e s4).bind fun y s5 => addD acc y s5)) l [] s1 with
    | stuck => rw [hc] at a; exact a.elim
    | exc x s2 => exact absurd hc comp_noexc
    | ok accE sE =>
      rw [hc] at a
      have L0 : Lt k T1 Fr μ1 s1 σ (upd H1 D (.lst [])) D [] := ⟨S1.loose hD, S1.fresh hD .nil⟩
      refine comp_run (vs := vs) (B := fun x H' Nx => tgG k tg x (wipe σ vs) H' fun σ2 H2 => wipe σ2 vs = wipe σ vs ∧ rd k noW rB (evTs o true ifs) σ2 H2 fun b H3 =>
        if b = true then rd k noW (rE k) (ev o e) σ2 H3 fun y H4 => ∃ acc, H4 D = some (.lst acc) ∧ acc.length < sizeLine ∧ Nx (upd H4 D (.lst (acc ++ [y]))) else Nx H3) Y ?_ (fun T2 μ2 H2 e2 p2 L2 => ?_) (same_refl _) (List.prefix_refl _) (L0.wipe vs) hc
      · intro d acc s2 acc' s' T2 μ2 H2 v Nx e2 p2 hf hr L2 hN
        refine turn_ok (te := fun σ2 H3 => rd k noW (rE k) (ev o e) σ2 H3 fun y H4 => ∃ acc, H4 D = some (.lst acc) ∧ acc.length < sizeLine ∧ Nx (upd H4 D (.lst (acc ++ [y])))) x3 hf hr L2 hN fun s4 σ2 T5 μ5 H5 e5 p5 hw2 h2 L5 => ?_
        exact elem_ok h2 L5 fun T6 μ6 H6 e6 p6 L6 => hN T6 μ6 H6 (e5.trans e6) (p5.trans p6) (by have := L6.wipe vs; rw [hw2] at this; exact this)
      · obtain ⟨S3, F3⟩ := L2.back S1 e2 p2 hn
        exact a T2 μ2 H2 _ e2 p2 S3 F3
  · exact a.elim
theorem sf_lc {tg : Tg} {i : Pc.It} {ifs : Tes} {e : Ex} {vs : List Nat} {xt xi xe : Expr} {xifs : List Expr} {scope : Scope} {own : List (Str × Nat)} {pos : Pos}
    (hx : decide (vs = own.map (·.2)) && blkC M.N M.sc scope own && subB tg.ix vs && foldB xi = true) (hi : SI t n M i xt xi) (hg : SG t n (blkM M scope) tg xt) (ht : STs t n (blkM M scope) ifs xifs) (he : SE t n (blkM M scope) e xe) :
    SF t n M (.lc tg i ifs e vs) (.ListComp xe [⟨xt, xi, xifs, 0⟩] scope pos) := fun X W O => by
  simp only [Bool.and_eq_true, decide_eq_true_eq] at hx
  obtain ⟨⟨⟨x1, x2⟩, x3⟩, x4⟩ := hx
  subst x1
  have B := fun s H C cl fp => O.blk s H scope cl C fp
  have ok : BlkOk X.N X.env.scope scope own := by rw [O.N, O.sc]; exact blkOk_by x2
  exact PE.weak (pe_lc (g := tgG (t.k X) tg) (tt := rd (t.k X) noW rB (evTs (t.o n) true ifs)) (te := rd (t.k X) noW (rE (t.k X)) (ev (t.o n) e)) O.calm O.nd (hi X W O) ok (fun s H C cl fp => hg _ _ (B s H C cl fp)) (fun s H C cl fp => ht _ _ (B s H C cl fp)) (fun s H C cl fp => he _ _ (B s H C cl fp)) (fold_of x4 _)) (lc_tr x3)
theorem lc2_tr {k : Kx} {W : WX} {o : Or} {tg tg1 : Tg} {i i1 : Pc.It} {ifs ifs1 : Tes} {e : Ex} {vs vs1 : List Nat} (x3 : subB tg.ix vs = true) (x5 : subB tg1.ix vs1 = true) (x6 : subB vs1 vs = true) : ∀ σ H Q, rd k W (rF k) (evF o (.lc2 tg i ifs tg1 i1 ifs1 e vs vs1)) σ H Q →
    tLc2 (rd k W (rI k) (evI o i)) (tgG k tg) (rd k noW rB (evTs o true ifs)) (rd k noW (rI k) (evI o i1)) (tgG k tg1) (rd k noW rB (evTs o true ifs1)) (rd k noW (rE k) (ev o e)) vs vs1 σ H Q := fun σ H Q ⟨T, Fr, μ, s, S, a⟩ => by
  unfold evF at a
  refine rd_bind S a fun T1 μ1 H1 J l s1 e1 p1 S1 Y a => ?_
  split at a
  · rename_i hn
    intro D hD
    cases hc : comp (turnC tg vs (evTs o true ifs) (fun acc s4 => (evI o i1 s4).bind fun l1 s5 => comp (turnC tg1 vs1 (evTs o true ifs1) (fun acc s4 => (ev o e s4).bind fun y s5 => addD acc y s5)) l1 acc s5)) l [] s1 with
    | stuck => rw [hc] at a; exact a.elim
    | exc x s2 => exact absurd hc comp_noexc
    | ok accE sE =>
      rw [hc] at a
      have L0 : Lt k T1 Fr μ1 s1 σ (upd H1 D (.lst [])) D [] := ⟨S1.loose hD, S1.fresh hD .nil⟩
      refine comp_run (vs := vs) (B := fun x H' Nx => tgG k tg x (wipe σ vs) H' fun σ2 H2 => wipe σ2 vs = wipe σ vs ∧ rd k noW rB (evTs o true ifs) σ2 H2 fun b H3 =>
        if b = true then rd k noW (rI k) (evI o i1) σ2 H3 fun J1 H4 => ∃ W1 : Nat → Nat → Hp → Prop, (∃ m, W1 0 m H4) ∧ ∀ j k' H, W1 j k' H →
          (J1.stop j H ∧ Nx H) ∨ (J1.go j H ∧ ∃ Nx1 : Hp → Prop, (∀ H', Nx1 H' → ∃ k'', k'' < k' ∧ W1 (j + 1) k'' H') ∧ ∀ x H', J1.yld j H x H' → tgG k tg1 x (wipe σ2 vs1) H' fun σ3 H5 => wipe σ3 vs1 = wipe σ2 vs1 ∧ rd k noW rB (evTs o true ifs1) σ3 H5 fun b H6 =>
            if b = true then rd k noW (rE k) (ev o e) σ3 H6 fun y H7 => ∃ acc, H7 D = some (.lst acc) ∧ acc.length < sizeLine ∧ Nx1 (upd H7 D (.lst (acc ++ [y]))) else Nx1 H6) else Nx H3) Y ?_ (fun T2 μ2 H2 e2 p2 L2 => ?_) (same_refl _) (List.prefix_refl _) (L0.wipe vs) hc
      · intro d acc s2 acc' s' T2 μ2 H2 v Nx e2 p2 hf hr L2 hN
        refine turn_ok (te := fun σ2 H3 => rd k noW (rI k) (evI o i1) σ2 H3 fun J1 H4 => ∃ W1 : Nat → Nat → Hp → Prop, (∃ m, W1 0 m H4) ∧ ∀ j k' H, W1 j k' H →
          (J1.stop j H ∧ Nx H) ∨ (J1.go j H ∧ ∃ Nx1 : Hp → Prop, (∀ H', Nx1 H' → ∃ k'', k'' < k' ∧ W1 (j + 1) k'' H') ∧ ∀ x H', J1.yld j H x H' → tgG k tg1 x (wipe σ2 vs1) H' fun σ3 H5 => wipe σ3 vs1 = wipe σ2 vs1 ∧ rd k noW rB (evTs o true ifs1) σ3 H5 fun b H6 =>
            if b = true then rd k noW (rE k) (ev o e) σ3 H6 fun y H7 => ∃ acc, H7 D = some (.lst acc) ∧ acc.length < sizeLine ∧ Nx1 (upd H7 D (.lst (acc ++ [y]))) else Nx1 H6)) x3 hf hr L2 hN fun s4 σ2 T5 μ5 H5 e5 p5 hw2 h2 L5 => ?_
        obtain ⟨l1, s5, h3, h4⟩ := bind_ok h2
        refine rdL L5 h3 fun T6 μ6 H6 J1 e6 p6 L6 ⟨_, _, Y1⟩ => ?_
        refine comp_run (vs := vs1) (B := fun x H' Nx1 => tgG k tg1 x (wipe σ2 vs1) H' fun σ3 H5 => wipe σ3 vs1 = wipe σ2 vs1 ∧ rd k noW rB (evTs o true ifs1) σ3 H5 fun b H6 =>
            if b = true then rd k noW (rE k) (ev o e) σ3 H6 fun y H7 => ∃ acc, H7 D = some (.lst acc) ∧ acc.length < sizeLine ∧ Nx1 (upd H7 D (.lst (acc ++ [y]))) else Nx1 H6) Y1 ?_ (fun T7 μ7 H7 e7 p7 L7 => ?_) (same_refl _) (List.prefix_refl _) (L6.wipe vs1) h4
        · intro d acc s2 acc' s' T7 μ7 H7 v Nx1 e7 p7 hf hr L7 hN1
          refine turn_ok (te := fun σ2 H3 => rd k noW (rE k) (ev o e) σ2 H3 fun y H4 => ∃ acc, H4 D = some (.lst acc) ∧ acc.length < sizeLine ∧ Nx1 (upd H4 D (.lst (acc ++ [y])))) x5 hf hr L7 hN1 fun s4 σ3 T8 μ8 H8 e8 p8 hw3 h2 L8 => ?_
          exact elem_ok h2 L8 fun T9 μ9 H9 e9 p9 L9 => hN1 T9 μ9 H9 (e8.trans e9) (p8.trans p9) (by have := L9.wipe vs1; rw [hw3] at this; exact this)
        · refine hN T7 μ7 H7 ((e5.trans e6).trans e7) ((p5.trans p6).trans p7) ?_
          have := L7.wipe vs
          dsimp only at this
          rw [nR_nR (subB_ok x6), wipe_wipe (subB_ok x6), hw2] at this
          exact this
      · obtain ⟨S3, F3⟩ := L2.back S1 e2 p2 hn
        exact a T2 μ2 H2 _ e2 p2 S3 F3
  · exact a.elim
theorem sf_lc2 {tg tg1 : Tg} {i i1 : Pc.It} {ifs ifs1 : Tes} {e : Ex} {vs vs1 : List Nat} {xt xi xt1 xi1 xe : Expr} {xifs xifs1 : List Expr} {scope : Scope} {own : List (Str × Nat)} {pos : Pos}
    (hx : decide (vs = own.map (·.2)) && blkC M.N M.sc scope own && subB tg.ix vs && foldB xi && subB tg1.ix vs1 && subB vs1 vs && foldB xi1 = true) (hi : SI t n M i xt xi) (hg : SG t n (blkM M scope) tg xt) (ht : STs t n (blkM M scope) ifs xifs)
    (hi1 : SI t n (blkM M scope) i1 xt1 xi1) (hg1 : SG t n (blkM M scope) tg1 xt1) (ht1 : STs t n (blkM M scope) ifs1 xifs1) (he : SE t n (blkM M scope) e xe) :
    SF t n M (.lc2 tg i ifs tg1 i1 ifs1 e vs vs1) (.ListComp xe [⟨xt, xi, xifs, 0⟩, ⟨xt1, xi1, xifs1, 0⟩] scope pos) := fun X W O => by
  simp only [Bool.and_eq_true, decide_eq_true_eq] at hx
  obtain ⟨⟨⟨⟨⟨⟨x1, x2⟩, x3⟩, x4⟩, x5⟩, x6⟩, x7⟩ := hx
  subst x1
  have B := fun s H C cl fp => O.blk s H scope cl C fp
  have ok : BlkOk X.N X.env.scope scope own := by rw [O.N, O.sc]; exact blkOk_by x2
  exact PE.weak (pe_lc2 (g := tgG (t.k X) tg) (tt := rd (t.k X) noW rB (evTs (t.o n) true ifs)) (wi1 := rd (t.k X) noW (rI (t.k X)) (evI (t.o n) i1)) (g1 := tgG (t.k X) tg1) (tt1 := rd (t.k X) noW rB (evTs (t.o n) true ifs1)) (te := rd (t.k X) noW (rE (t.k X)) (ev (t.o n) e)) O.calm O.nd (hi X W O) ok
    (subB_ok x6) (fun s H C cl fp => hg _ _ (B s H C cl fp)) (fun s H C cl fp => ht _ _ (B s H C cl fp)) (fun s H C cl fp => hi1 _ _ (B s H C cl fp)) (fun s H C cl fp => hg1 _ _ (B s H C cl fp)) (fun s H C cl fp => ht1 _ _ (B s H C cl fp)) (fun s H C cl fp => he _ _ (B s H C cl fp)) (fold_of x4 _) (fold_of x7)) (lc2_tr x3 x5 x6)
end
end Pc

set_option Elab.async false
set_option linter.all false
set_option maxRecDepth 100000
set_option maxHeartbeats 4000000
namespace Pc
open PySem L2
def EndS (k : Kx) (T : Hp) (μ : List Addr) (D : Ends) (σ : L2.St) (H : Hp) : Fl → Prop
  | .nx => D.nx σ H
  | .rt w => ∀ v, RepW k T μ w v → D.rt v H
  | .bk => D.bk σ H
  | .ct => D.ct σ H
def AftS (k : Kx) (T Fr : Hp) (μ : List Addr) (W : WX) (D : Ends) : Res Fl → Prop
  | .ok c s' => ∀ T' μ' σ' H', Same T T' → μ <+: μ' → Sim k T' Fr μ' s' σ' H' → EndS k T' μ' D σ' H' c
  | .exc x s' => ∀ T' μ' σ' H' C d, Same T T' → μ <+: μ' → Sim k T' Fr μ' s' σ' H' → ERep k T' x C d → W C (some d) σ' H'
  | .stuck => False
def rdS (k : Kx) (W : WX) (f : Ss → Res Fl) (D : Ends) (σ : L2.St) (H : Hp) : Prop := ∃ T Fr μ s, Sim k T Fr μ s σ H ∧ AftS k T Fr μ W D (f s)
section
variable {k : Kx} {T T' Fr : Hp} {μ μ' : List Addr} {W : WX} {D : Ends} {σ : L2.St} {s : Ss} {H : Hp} {α β : Type}
theorem AftS.mono {r : Res Fl} (h : AftS k T Fr μ W D r) (e : Same T T') (p : μ <+: μ') : AftS k T' Fr μ' W D r := by
  cases r with
  | ok a s' => exact fun T2 μ2 σ' H' e2 p2 => h T2 μ2 σ' H' (e.trans e2) (p.trans p2)
  | exc x s' => exact fun T2 μ2 σ' H' C d e2 p2 => h T2 μ2 σ' H' C d (e.trans e2) (p.trans p2)
  | stuck => exact h
theorem rds_bind {Rp : RpT α β} {f : Ss → Res α} {g : α → Ss → Res Fl} {Q1 : β → Hp → Prop} (S : Sim k T Fr μ s σ H) (ha : AftS k T Fr μ W D ((f s).bind g))
    (h : ∀ T' μ' H' v a s', Same T T' → μ <+: μ' → Sim k T' Fr μ' s' σ H' → Rp T' Fr μ' s' σ H' a v → AftS k T' Fr μ' W D (g a s') → Q1 v H') : rd k W Rp f σ H Q1 := by
  refine ⟨T, Fr, μ, s, S, ?_⟩
  cases e : f s with
  | ok a s' =>
    rw [e] at ha
    exact fun T2 μ2 H' v e2 p2 S2 r2 => h T2 μ2 H' v a s' e2 p2 S2 r2 (AftS.mono ha e2 p2)
  | exc x s' =>
    rw [e] at ha
    exact fun T2 μ2 H' C d e2 p2 S2 r2 => ha T2 μ2 σ H' C d e2 p2 S2 r2
  | stuck =>
    rw [e] at ha
    exact ha.elim
theorem AftS.nx (ha : AftS k T Fr μ W D (.ok .nx s)) (S : Sim k T Fr μ s σ H) : D.nx σ H := ha T μ σ H (same_refl _) (List.prefix_refl _) S
theorem AftS.rt {w : Pc.W} {v : V} (ha : AftS k T Fr μ W D (.ok (.rt w) s)) (S : Sim k T Fr μ s σ H) (r : RepW k T μ w v) : D.rt v H := ha T μ σ H (same_refl _) (List.prefix_refl _) S v r
end
section
variable {t : Tb} {n : Nat} {M : Mc} {X : Cx}
def SS (t : Tb) (n : Nat) (M : Mc) (a : Sx) (x : Stmt) : Prop := ∀ X W, Ok t n M X W → PassesOwn (model X.prog X.w) X.A X.env X.xe → PS X x (rdS (t.k X) W (ex1 (t.o n) a))
def SSs (t : Tb) (n : Nat) (M : Mc) (a : Sxs) (x : List Stmt) : Prop := ∀ X W, Ok t n M X W → PassesOwn (model X.prog X.w) X.A X.env X.xe → PSs X x (rdS (t.k X) W (exs (t.o n) a))
theorem not_b {w : Pc.W} (h : ¬ w.isB = true) : w.isB = false := by
  cases e : w.isB
  · rfl
  · exact absurd e h
/-- a list built where its name stands -/
def swD (sc : Scope) (v : Expr) (t : Str) (pos : Pos) : Bool :=
  match v with
  | .ListComp _ _ s _ | .SetComp _ _ s _ | .DictComp _ _ _ s _ => (if sc.kind.isAnnotationScope then ScopeKind.function else sc.kind) == .function && sc.names.lookup t == some .local && pos.line == v.pos.line && !(s.names.any fun (n, k) => n == t && (k == .local || k == .cell))
  | _ => false
theorem sw_eq {W : WX} (O : Ok t n M X W) (v : Expr) (x : Str) (p : Pos) (line : Nat) : swapsWith v (some (.Name x p)) line X.env = pure (swD M.sc v x p) := by
  rw [← O.sc]
  cases v <;> rfl
theorem ss_set {i : Nat} {e : Ex} {x : Str} {p pos : Pos} {xe : Expr} (hx : (tgB M i x && !(swD M.sc xe x p)) = true) (he : SE t n M e xe) : SS t n M (.set i e) (.Assign [.Name x p] xe pos) := fun X W O po => by
  simp only [tgB, Bool.and_eq_true, decide_eq_true_eq, Bool.not_eq_true'] at hx
  obtain ⟨⟨x1, x2⟩, x3⟩ := hx
  obtain ⟨h1, h2⟩ := locB_ok O x2
  refine PS.weak (ps_set O.nd (by rw [O.N]; exact x1) h1 (he X W O) (by rw [sw_eq O, x3]) h2) fun D σ H ⟨T, Fr, μ, s, S, a⟩ => ?_
  unfold ex1 at a
  refine rds_bind S a fun T1 μ1 H1 v w s1 e1 p1 S1 r1 a => ?_
  split at a
  · exact a.elim
  · rename_i hb
    exact a.nx (S1.setW i (RepR.w r1 (not_b hb)))
theorem ss_own {i : Nat} {f : Fx} {x : Str} {p pos : Pos} {xe : Expr} (hx : (tgB M i x && !(swD M.sc xe x p)) = true) (he : SF t n M f xe) : SS t n M (.own i f) (.Assign [.Name x p] xe pos) := fun X W O po => by
  simp only [tgB, Bool.and_eq_true, decide_eq_true_eq, Bool.not_eq_true'] at hx
  obtain ⟨⟨x1, x2⟩, x3⟩ := hx
  obtain ⟨h1, h2⟩ := locB_ok O x2
  refine PS.weak (ps_set O.nd (by rw [O.N]; exact x1) h1 (he X W O) (by rw [sw_eq O, x3]) h2) fun D σ H ⟨T, Fr, μ, s, S, a⟩ => ?_
  unfold ex1 at a
  exact rds_bind S a fun T1 μ1 H1 v w s1 e1 p1 S1 r1 a => a.nx (S1.setO i r1)
theorem ss_ownLc {j : Nat} {x : Str} {p spos : Pos} {tg : Tg} {i : Pc.It} {ifs : Tes} {e : Ex} {vs : List Nat} {xt xi xe : Expr} {xifs : List Expr} {scope : Scope} {own : List (Str × Nat)} {pos : Pos}
    (hx : decide (vs = own.map (·.2)) && blkC M.N M.sc scope own && subB tg.ix vs && foldB xi && decide (M.N[j]? = some x) && decide (M.sc.names.lookup x = some .local) && swD M.sc (.ListComp xe [⟨xt, xi, xifs, 0⟩] scope pos) x p = true) (hi : SI t n M i xt xi) (hg : SG t n (blkM M scope) tg xt) (ht : STs t n (blkM M scope) ifs xifs) (he : SE t n (blkM M scope) e xe) :
    SS t n M (.own j (.lc tg i ifs e vs)) (.Assign [.Name x p] (.ListComp xe [⟨xt, xi, xifs, 0⟩] scope pos) spos) := fun X W O po => by
  simp only [Bool.and_eq_true, decide_eq_true_eq] at hx
  obtain ⟨⟨⟨⟨⟨⟨x1, x2⟩, x3⟩, x4⟩, x5⟩, x6⟩, x7⟩ := hx
  subst x1
  have B := fun s H C cl fp => O.blk s H scope cl C fp
  have ok : BlkOk X.N X.env.scope scope own := by rw [O.N, O.sc]; exact blkOk_by x2
  refine PS.weak (ps_setLc (spos := spos) (g := tgG (t.k X) tg) (tt := rd (t.k X) noW rB (evTs (t.o n) true ifs)) (te := rd (t.k X) noW (rE (t.k X)) (ev (t.o n) e)) O.calm O.nd (by rw [O.N]; exact x5) (by rw [O.sc]; exact x6) (by rw [sw_eq O, x7]) (hi X W O) ok
    (fun s H C cl fp => hg _ _ (B s H C cl fp)) (fun s H C cl fp => ht _ _ (B s H C cl fp)) (fun s H C cl fp => he _ _ (B s H C cl fp)) (fold_of x4 _)) fun D σ H ⟨T, Fr, μ, s, S, a⟩ => ?_
  unfold ex1 at a
  exact lc_tr x3 σ H _ (rds_bind S a fun T1 μ1 H1 v w s1 e1 p1 S1 r1 a => a.nx (S1.setO j r1))
theorem ss_ownLc2 {j : Nat} {x : Str} {p spos : Pos} {tg tg1 : Tg} {i i1 : Pc.It} {ifs ifs1 : Tes} {e : Ex} {vs vs1 : List Nat} {xt xi xt1 xi1 xe : Expr} {xifs xifs1 : List Expr} {scope : Scope} {own : List (Str × Nat)} {pos : Pos}
    (hx : decide (vs = own.map (·.2)) && blkC M.N M.sc scope own && subB tg.ix vs && foldB xi && subB tg1.ix vs1 && subB vs1 vs && foldB xi1 && decide (M.N[j]? = some x) && decide (M.sc.names.lookup x = some .local) && swD M.sc (.ListComp xe [⟨xt, xi, xifs, 0⟩, ⟨xt1, xi1, xifs1, 0⟩] scope pos) x p = true) (hi : SI t n M i xt xi) (hg : SG t n (blkM M scope) tg xt) (ht : STs t n (blkM M scope) ifs xifs)
    (hi1 : SI t n (blkM M scope) i1 xt1 xi1) (hg1 : SG t n (blkM M scope) tg1 xt1) (ht1 : STs t n (blkM M scope) ifs1 xifs1) (he : SE t n (blkM M scope) e xe) :
    SS t n M (.own j (.lc2 tg i ifs tg1 i1 ifs1 e vs vs1)) (.Assign [.Name x p] (.ListComp xe [⟨xt, xi, xifs, 0⟩, ⟨xt1, xi1, xifs1, 0⟩] scope pos) spos) := fun X W O po => by
  simp only [Bool.and_eq_true, decide_eq_true_eq] at hx
  obtain ⟨⟨⟨⟨⟨⟨⟨⟨⟨x1, x2⟩, x3⟩, x4⟩, x5⟩, x6⟩, x7⟩, y1⟩, y2⟩, y3⟩ := hx
  subst x1
  have B := fun s H C cl fp => O.blk s H scope cl C fp
  have ok : BlkOk X.N X.env.scope scope own := by rw [O.N, O.sc]; exact blkOk_by x2
  refine PS.weak (ps_setLc2 (spos := spos) (g := tgG (t.k X) tg) (tt := rd (t.k X) noW rB (evTs (t.o n) true ifs)) (wi1 := rd (t.k X) noW (rI (t.k X)) (evI (t.o n) i1)) (g1 := tgG (t.k X) tg1) (tt1 := rd (t.k X) noW rB (evTs (t.o n) true ifs1)) (te := rd (t.k X) noW (rE (t.k X)) (ev (t.o n) e)) O.calm O.nd (by rw [O.N]; exact y1) (by rw [O.sc]; exact y2) (by rw [sw_eq O, y3]) (hi X W O) ok
    (subB_ok x6) (fun s H C cl fp => hg _ _ (B s H C cl fp)) (fun s H C cl fp => ht _ _ (B s H C cl fp)) (fun s H C cl fp => hi1 _ _ (B s H C cl fp)) (fun s H C cl fp => hg1 _ _ (B s H C cl fp)) (fun s H C cl fp => ht1 _ _ (B s H C cl fp)) (fun s H C cl fp => he _ _ (B s H C cl fp)) (fold_of x4 _) (fold_of x7)) fun D σ H ⟨T, Fr, μ, s, S, a⟩ => ?_
  unfold ex1 at a
  exact lc2_tr x3 x5 x6 σ H _ (rds_bind S a fun T1 μ1 H1 v w s1 e1 p1 S1 r1 a => a.nx (S1.setO j r1))
theorem sss_nil : SSs t n M .nil [] := fun X W O po => PSs.weak pss_nil fun D σ H ⟨T, Fr, μ, s, S, a⟩ => by unfold exs at a; exact a.nx S
theorem sss_cons {a : Sx} {r : Sxs} {x : Stmt} {xs : List Stmt} (h1 : SS t n M a x) (h2 : SSs t n M r xs) : SSs t n M (.cons a r) (x :: xs) := fun X W O po => by
  refine PSs.weak (pss_cons (h1 X W O po) (h2 X W O po)) fun D σ H ⟨T, Fr, μ, s, S, a⟩ => ?_
  unfold exs at a
  refine ⟨T, Fr, μ, s, S, ?_⟩
  cases e : ex1 (t.o n) _ s with
  | stuck => rw [e] at a; exact a.elim
  | exc x s' => rw [e] at a; exact a
  | ok c s' =>
    rw [e] at a
    simp only [Res.bind] at a
    cases c with
    | nx => exact fun T' μ' σ' H' e' p' S' => ⟨T', Fr, μ', s', S', AftS.mono a e' p'⟩
    | rt w => exact a
    | bk => exact a
    | ct => exact a
theorem ss_pas {p : Pos} : SS t n M .pas (.Pass p) := fun X W O po => PS.weak ps_pass fun D σ H ⟨T, Fr, μ, s, S, a⟩ => by unfold ex1 at a; exact a.nx S
theorem ss_brk {p : Pos} : SS t n M .brk (.Break p) := fun X W O po => PS.weak ps_break fun D σ H ⟨T, Fr, μ, s, S, a⟩ => by unfold ex1 at a; exact a T μ σ H (same_refl _) (List.prefix_refl _) S
theorem ss_cnt {p : Pos} : SS t n M .cnt (.Continue p) := fun X W O po => PS.weak ps_continue fun D σ H ⟨T, Fr, μ, s, S, a⟩ => by unfold ex1 at a; exact a T μ σ H (same_refl _) (List.prefix_refl _) S
theorem ss_retn {p : Pos} : SS t n M .retn (.Return none p) := fun X W O po => PS.weak ps_retN fun D σ H ⟨T, Fr, μ, s, S, a⟩ => by unfold ex1 at a; exact a.rt S rfl
theorem ss_ret {e : Ex} {xe : Expr} {p : Pos} (he : SE t n M e xe) : SS t n M (.ret e) (.Return (some xe) p) := fun X W O po => by
  refine PS.weak (ps_ret (he X W O)) fun D σ H ⟨T, Fr, μ, s, S, a⟩ => ?_
  unfold ex1 at a
  refine rds_bind S a fun T1 μ1 H1 v w s1 e1 p1 S1 r1 a => ?_
  split at a
  · exact a.elim
  · rename_i hb
    exact a.rt S1 (RepR.w r1 (not_b hb))
def noComp : Expr → Bool
  | .ListComp _ _ _ _ | .SetComp _ _ _ _ | .DictComp _ _ _ _ _ => false
  | _ => true
theorem sw_none {e : Expr} (h : noComp e = true) (tg : Option Expr) (line : Nat) (env : Env) : swapsWith e tg line env = pure false := by
  cases e <;> first | rfl | cases h
theorem ss_ex {e : Ex} {xe : Expr} {p : Pos} (hx : noComp xe = true) (he : SE t n M e xe) : SS t n M (.ex e) (.Expr xe p) := fun X W O po => by
  refine PS.weak (ps_expr (he X W O) (sw_none hx _ _ _)) fun D σ H ⟨T, Fr, μ, s, S, a⟩ => ?_
  unfold ex1 at a
  exact rds_bind S a fun T1 μ1 H1 v w s1 e1 p1 S1 r1 a => a.nx S1
theorem ss_if {c : Te} {b1 b2 : Sxs} {xc : Expr} {x1 x2 : List Stmt} {p : Pos} (hc : ST t n M c xc) (h1 : SSs t n M b1 x1) (h2 : SSs t n M b2 x2) : SS t n M (.ife c b1 b2) (.If xc x1 x2 p) := fun X W O po => by
  refine PS.weak (ps_if (hc X W O) (h1 X W O po) (h2 X W O po)) fun D σ H ⟨T, Fr, μ, s, S, a⟩ => ?_
  unfold ex1 at a
  refine rds_bind S a fun T1 μ1 H1 v w s1 e1 p1 S1 r1 a => ?_
  cases (show w = v from r1)
  cases v with
  | true => rw [if_pos rfl] at a ⊢; exact ⟨T1, Fr, μ1, s1, S1, a⟩
  | false => rw [if_neg Bool.false_ne_true] at a ⊢; exact ⟨T1, Fr, μ1, s1, S1, a⟩
theorem ss_for {tg : Tg} {i : Pc.It} {b : Sxs} {xt xi : Expr} {xb : List Stmt} {p : Pos} (hx : foldB xi = true) (hi : SI t n M i xt xi) (hg : SG t n M tg xt) (hb : SSs t n M b xb) : SS t n M (.for_ tg i b) (.For xt xi xb [] p) := fun X W O po => by
  refine PS.weak (ps_for po O.calm (hi X W O) (hg X W O) (hb X W O po) (fold_of hx _)) fun D σ H ⟨T, Fr, μ, s, S, a⟩ => ?_
  unfold ex1 at a
  refine rds_bind S a fun T1 μ1 H1 J l s1 e1 p1 S1 Y a => ?_
  generalize hf : (fun (x : Pc.D) (s : Ss) => match bindG s.r tg x with
    | some r => exs (t.o n) b { s with r := r }
    | none => .stuck) = f at a
  refine ⟨fun i m σ H => m = l.length - i ∧ i ≤ l.length ∧ ∃ T μ s, Same T1 T ∧ Sim (t.k X) T Fr μ s σ H ∧ AftS (t.k X) T Fr μ W D (forL f (l.drop i) s), ⟨l.length, by simp, Nat.zero_le _, T1, μ1, s1, same_refl _, S1, by simpa using a⟩, ?_⟩
  rintro i m σ H ⟨rfl, hi, T2, μ2, s2, e2, S2, a⟩
  by_cases hlt : i < l.length
  · refine .inr ⟨Y.go i H (e2.trans S2.tH) hlt, fun σ H => ∃ T μ s, Same T1 T ∧ Sim (t.k X) T Fr μ s σ H ∧ AftS (t.k X) T Fr μ W D (forL f (l.drop (i + 1)) s), fun σ' H' w => ⟨l.length - (i + 1), by omega, rfl, hlt, w⟩, fun x H' y => ?_⟩
    rw [List.drop_eq_getElem_cons hlt] at a
    unfold forL at a
    obtain ⟨T3, e3, S3, r3⟩ := Y.yl i l[i] x H H' T2 Fr μ2 s2 σ e2 S2 (List.getElem?_eq_getElem hlt) y
    have a := AftS.mono a e3 (List.prefix_refl _)
    subst hf
    dsimp only at a
    cases hb : bindG s2.r tg l[i] with
    | none => rw [hb] at a; exact a.elim
    | some r =>
      rw [hb] at a
      dsimp only at a
      obtain ⟨σ4, S4, _, hq⟩ := tg_ok S3 r3 hb
      refine hq _ ⟨T3, Fr, μ2, _, S4, ?_⟩
      cases e : exs (t.o n) b { s2 with r := r } with
      | stuck => rw [e] at a; exact a.elim
      | exc x s' => rw [e] at a; exact a
      | ok c s' =>
        rw [e] at a
        simp only [Res.bind] at a
        cases c with
        | nx => exact fun T' μ' σ' H' e' p' S' => ⟨T', μ', s', (e2.trans e3).trans e', S', AftS.mono a e' p'⟩
        | ct => exact fun T' μ' σ' H' e' p' S' => ⟨T', μ', s', (e2.trans e3).trans e', S', AftS.mono a e' p'⟩
        | bk => exact a
        | rt w => exact a
  · have e : i = l.length := by omega
    subst e
    rw [List.drop_length] at a
    unfold forL at a
    exact .inl ⟨Y.stop _ H (e2.trans S2.tH) (Nat.le_refl _), a.nx S2⟩
theorem ss_whl {m : Nat} {c : Te} {b : Sxs} {xc : Expr} {xb : List Stmt} {p : Pos} (hc : ST t n M c xc) (hb : SSs t n M b xb) : SS t n M (.whl m c b) (.While xc xb [] p) := fun X W O po => by
  refine PS.weak (ps_while po (hc X W O) (hb X W O po)) fun D σ H ⟨T, Fr, μ, s, S, a⟩ => ?_
  unfold ex1 at a
  refine ⟨fun m σ H => ∃ T μ s, Sim (t.k X) T Fr μ s σ H ∧ AftS (t.k X) T Fr μ W D (whlL (evT (t.o n) c) (exs (t.o n) b) m s), ⟨m, T, μ, s, S, a⟩, ?_⟩
  rintro m σ H ⟨T, μ, s, S, a⟩
  cases m with
  | zero => exact a.elim
  | succ m =>
    unfold whlL at a
    refine rds_bind S a fun T1 μ1 H1 v w s1 e1 p1 S1 r1 a => ?_
    cases (show w = v from r1)
    cases v with
    | false => rw [if_neg Bool.false_ne_true] at a ⊢; exact a.nx S1
    | true =>
      rw [if_pos rfl] at a ⊢
      refine ⟨fun σ H => ∃ T μ s, Sim (t.k X) T Fr μ s σ H ∧ AftS (t.k X) T Fr μ W D (whlL (evT (t.o n) c) (exs (t.o n) b) m s), fun σ' H' w => ⟨m, Nat.lt_succ_self m, w⟩, T1, Fr, μ1, s1, S1, ?_⟩
      cases e : exs (t.o n) b s1 with
      | stuck => rw [e] at a; exact a.elim
      | exc x s' => rw [e] at a; exact a
      | ok c s' =>
        rw [e] at a
        simp only [Res.bind] at a
        cases c with
        | nx => exact fun T' μ' σ' H' e' p' S' => ⟨T', μ', s', S', AftS.mono a e' p'⟩
        | ct => exact fun T' μ' σ' H' e' p' S' => ⟨T', μ', s', S', AftS.mono a e' p'⟩
        | bk => exact a
        | rt w => exact a
theorem ss_unp {tg : Tg} {e : Ex} {xt xe : Expr} {p : Pos} (hw : ∀ X W, Ok t n M X W → swapsWithSole [xt] xe p.line X.env = pure false ∧ swappedStores [xt] xe X.env = pure none ∧ (assignEach [xt] X.env).map (·.2) = [assign xt X.env]) (hg : SG t n M tg xt) (he : SE t n M e xe) : SS t n M (.unp tg e) (.Assign [xt] xe p) := fun X W O po => by
  obtain ⟨h1, h2, h3⟩ := hw X W O
  refine PS.weak (ps_asg (he X W O) (hg X W O) h1 h2 h3) fun D σ H ⟨T, Fr, μ, s, S, a⟩ => ?_
  unfold ex1 at a
  refine rds_bind S a fun T1 μ1 H1 v w s1 e1 p1 S1 r1 a => ?_
  split at a
  · rename_i x
    split at a
    · rename_i r hb
      obtain ⟨σ4, S4, _, hq⟩ := tg_ok S1 r1 hb
      exact hq _ (a.nx S4)
    · exact a.elim
  · exact a.elim
theorem ss_sset {c i e : Ex} {xc xi xe : Expr} {p1 p : Pos} (hx : (plainIxB xi && noComp xe) = true) (hc : SE t n M c xc) (hi : SE t n M i xi) (he : SE t n M e xe) : SS t n M (.sset c i e) (.Assign [.Subscript xc xi p1] xe p) := fun X W O po => by
  simp only [Bool.and_eq_true] at hx
  have ha : ∀ v, assign (.Subscript xc xi p1) X.env v = (do
      let ov ← holding [v] (eval xc X.env)
      let iv ← holding [v, ov] (eval xi X.env)
      standAt p1
      holding [v, ov, iv] (setItem ov iv v)
      release [v, ov, iv] []) := fun v => by
    cases xi <;> first | rfl | cases hx.1
  have h1 : (assignEach [.Subscript xc xi p1] X.env).map (·.2) = [assign (.Subscript xc xi p1) X.env] := rfl
  refine PS.weak (ps_asg (he X W O) (pg_sub (hc X W O) (hi X W O) set_list ha) (by unfold swapsWithSole; exact sw_none hx.2 _ _ _) (by cases xe <;> rfl) h1) fun D σ H ⟨T, Fr, μ, s, S, a⟩ => ?_
  unfold ex1 at a
  refine rds_bind S a fun T1 μ1 H1 v w s1 e1 p1 S1 r1 a1 => rds_bind S1 a1 fun T2 μ2 H2 v2 w2 s2 e2 p2 S2 r2 a2 => rds_bind S2 a2 fun T3 μ3 H3 v3 w3 s3 e3 p3 S3 r3 a3 => ?_
  clear a a1 a2
  revert a3
  intro a
  split at a
  · rename_i d l m hd hl hm
    cases dOf_some hd
    cases dOf_some hm
    cases (show v3 = _ from r3)
    obtain ⟨b, vs, rfl, g1, g2, g3, g4, g5⟩ := S3.getL (r2.mono e3 p3) hl
    split at a
    · rename_i j hj
      split at a
      · rename_i s4 hs
        exact ⟨b, vs, m, j, rfl, rfl, g1, by rw [g2.len, ← ixD_eq]; exact hj, a.nx (g5 _ _ _ (g2.set _ ((Rep.mono (e2.trans e3) r1))) hs)⟩
      · exact a.elim
    · exact a.elim
  · exact a.elim
theorem ip_mul (X : Cx) : PIp X .Mult (fun x y H Q => ∃ i j : Int, x = .int i ∧ y = .int j ∧ mulOk i j = true ∧ Q (.int (i * j)) H) := by
  intro pins s σ H x y v u Q I r1 r2 h
  obtain ⟨i, j, rfl, rfl, hm, q⟩ := h
  obtain ⟨t, rfl⟩ := r1
  obtain ⟨t', rfl⟩ := r2
  simp only [mulOk, Bool.or_eq_true, Bool.and_eq_true, decide_eq_true_eq] at hm
  exact PyProof.Rows.imul_int ⟨.int _, H, I.tok _, ⟨_, rfl⟩, q⟩ (show CMul i j from hm).ok
theorem ip_fdiv (X : Cx) : PIp X .FloorDiv (fun x y H Q => ∃ i j : Int, x = .int i ∧ y = .int j ∧ j ≠ 0 ∧ j.natAbs < 1073741824 ∧ Q (.int (i.fdiv j)) H) := by
  intro pins s σ H x y v u Q I r1 r2 h
  obtain ⟨i, j, rfl, rfl, h0, hm, q⟩ := h
  obtain ⟨t, rfl⟩ := r1
  obtain ⟨t', rfl⟩ := r2
  exact PyProof.Rows.ifloordiv_int h0 ⟨.int _, H, I.tok _, ⟨_, rfl⟩, q⟩ (.inl (PyProof.noPylong_small hm))
def rIpD (k : Kx) (f : Pc.D → Pc.D → Option Pc.D) : TIp := fun x y H Q => ∃ p q d, f p q = some d ∧ (∃ i j r : Int, p = .int i ∧ q = .int j ∧ d = .int r ∧ x = .int i ∧ y = .int j ∧ Q (.int r) H)
def augB : O2 → Operator → Bool
  | .add, .Add | .sub, .Sub | .mul, .Mult | .fdiv, .FloorDiv => true
  | _, _ => false
theorem PIp.weak {X : Cx} {op : Operator} {t u : TIp} (h : PIp X op t) (k : ∀ x y H Q, u x y H Q → t x y H Q) : PIp X op u := fun pins s σ H x y v w Q I r1 r2 q => h pins s σ H x y v w Q I r1 r2 (k _ _ _ _ q)
theorem ip_all {X : Cx} {k : Kx} {f : O2} {op : Operator} (h : augB f op = true) : PIp X op (rIpD k (opD f)) := by
  unfold augB at h
  split at h
  · exact PIp.weak ip_add fun x y H Q ⟨p, q, d, hf, i, j, r, e1, e2, e3, e4, e5, q'⟩ => by
      subst e1 e2 e3; cases hf; exact ⟨i, j, e4, e5, q'⟩
  · exact PIp.weak ip_sub fun x y H Q ⟨p, q, d, hf, i, j, r, e1, e2, e3, e4, e5, q'⟩ => by
      subst e1 e2 e3; cases hf; exact ⟨i, j, e4, e5, q'⟩
  · exact PIp.weak (ip_mul X) fun x y H Q ⟨p, q, d, hf, i, j, r, e1, e2, e3, e4, e5, q'⟩ => by
      subst e1 e2 e3
      obtain ⟨h1, h2⟩ := optB_some (show optB (mulOk i j) (Pc.D.int (i * j)) = some (.int r) from hf)
      cases h2
      exact ⟨i, j, e4, e5, h1, q'⟩
  · exact PIp.weak (ip_fdiv X) fun x y H Q ⟨p, q, d, hf, i, j, r, e1, e2, e3, e4, e5, q'⟩ => by
      subst e1 e2 e3
      obtain ⟨h1, h2⟩ := optB_some (show optB (decide (j ≠ 0) && decide (j.natAbs < 1073741824)) (Pc.D.int (i.fdiv j)) = some (.int r) from hf)
      cases h2
      simp only [Bool.and_eq_true, decide_eq_true_eq] at h1
      exact ⟨i, j, e4, e5, h1.1, h1.2, q'⟩
  · cases h
theorem op_int {f : O2} {p q d : Pc.D} (h : opD f p q = some d) {i : Int} (hp : p = .int i) : ∃ j r, q = .int j ∧ d = .int r := by
  subst hp
  cases f <;> cases q <;> simp only [opD] at h <;> first
    | (cases h; done)
    | (cases h; exact ⟨_, _, rfl, rfl⟩)
    | (obtain ⟨_, h2⟩ := optB_some h; exact ⟨_, _, rfl, h2.symm⟩)
theorem ss_aug {i : Nat} {f : O2} {e : Ex} {x : Str} {op : Operator} {p1 p : Pos} {xe : Expr} (hx : augB f op && tgB M i x = true) (he : SE t n M e xe) : SS t n M (.aug i f e) (.AugAssign (.Name x p1) op xe p) := fun X W O po => by
  simp only [tgB, Bool.and_eq_true, decide_eq_true_eq] at hx
  obtain ⟨x0, x1, x2⟩ := hx
  obtain ⟨h1, h2⟩ := locB_ok O x2
  refine PS.weak (ps_aug O.nd (by rw [O.N]; exact x1) h1 (he X W O) (ip_all (k := t.k X) x0) h2) fun D σ H ⟨T, Fr, μ, s, S, a⟩ => ?_
  unfold ex1 at a
  split at a
  · rename_i iv hd
    obtain ⟨v, q1, q2⟩ := S.val i _ hd
    cases (show v = .int iv from q2)
    refine ⟨_, q1, rds_bind S a fun T1 μ1 H1 v w s1 e1 p1 S1 r1 a1 => ?_⟩
    clear a
    revert a1
    intro a
    split at a
    · rename_i y hy
      cases dOf_some hy
      split at a
      · rename_i z hz
        obtain ⟨j, r, rfl, rfl⟩ := op_int hz rfl
        cases (show v = .int j from r1)
        exact ⟨_, _, _, hz, iv, j, r, rfl, rfl, rfl, rfl, rfl, a.nx (S1.setW i (w := .d (.int r)) rfl)⟩
      · exact a.elim
    · exact a.elim
  · exact a.elim
end
end Pc

set_option Elab.async false
set_option linter.all false
set_option maxRecDepth 100000
set_option maxHeartbeats 4000000
namespace Pc
open PySem L2
def OwnsNe (p : Addr) (l : List (Nat × Sl)) (vs : List V) : Prop := ∀ (j i : Nat) (m : List Pc.D), l[j]? = some (i, .own m) → vs[j]? ≠ some (.ref p)
def Rz (k : Kx) (T Fr : Hp) (μ : List Addr) (s : Ss) (σ : L2.St) (H : Hp) : List (Nat × Sl) → List V → Prop
  | [], vs => vs = []
  | (_, .w w) :: l, vs => ∃ v r, vs = v :: r ∧ RepW k T μ w v ∧ Rz k T Fr μ s σ H l r
  | (_, .own m) :: l, vs => ∃ p r, vs = .ref p :: r ∧ Fresh k T Fr μ s σ H m (.ref p) ∧ OwnsNe p l r ∧ Rz k T Fr μ s σ H l r
  | (_, .no) :: _, _ => False
def rRz (k : Kx) : RpT (List (Nat × Sl)) (List V) := fun T Fr μ s σ H l vs => Rz k T Fr μ s σ H l vs
theorem Rz.back {k : Kx} {T Fr H : Hp} {μ : List Addr} {s : Ss} {σ : L2.St} {p : Addr} {o : HO} (h4 : Fr p = none) : ∀ {l : List (Nat × Sl)} {vs : List V}, Rz k T (upd Fr p o) μ s σ H l vs → Rz k T Fr μ s σ H l vs ∧ OwnsNe p l vs
  | [], vs, h => ⟨h, fun j i m e => by simp at e⟩
  | (i, .w w) :: l, vs, h => by
    obtain ⟨v, r, rfl, h1, h2⟩ := h
    obtain ⟨q1, q2⟩ := Rz.back h4 h2
    refine ⟨⟨v, r, rfl, h1, q1⟩, fun j i' m e => ?_⟩
    cases j with
    | zero => simp at e
    | succ j => exact q2 j i' m (by simpa using e)
  | (i, .own m) :: l, vs, h => by
    obtain ⟨q, r, rfl, h1, h2, h3⟩ := h
    obtain ⟨q1, q2⟩ := Rz.back h4 h3
    obtain ⟨q', ws, e, u2, u3, u4, u5, u6, u7⟩ := h1
    cases e
    have hne : q ≠ p := fun z => by subst z; rw [upd_same] at u5; cases u5
    refine ⟨⟨q, r, rfl, ⟨q, ws, rfl, u2, u3, u4, by rw [upd_ne hne] at u5; exact u5, u6, u7⟩, h2, q1⟩, fun j i' m e => ?_⟩
    cases j with
    | zero => exact fun z => hne (by simpa using z)
    | succ j => exact q2 j i' m (by simpa using e)
  | (_, .no) :: _, _, h => h.elim
def setsV : L2.St → List (Nat × Sl) → List V → L2.St
  | σ, (i, _) :: l, v :: vs => setsV (σ.set i (some v)) l vs
  | σ, _, _ => σ
theorem Fresh.setW {k : Kx} {T Fr H : Hp} {μ : List Addr} {s : Ss} {σ : L2.St} {m : List Pc.D} {v u : V} {i : Nat} {w : Pc.W} (F : Fresh k T Fr μ s σ H m v) : Fresh k T Fr μ { s with r := s.r.set i (.w w) } (σ.set i (some u)) H m v := by
  obtain ⟨p, ws, e, u2, u3, u4, u5, u6, u7⟩ := F
  refine ⟨p, ws, e, u2, u3, u4, u5, u6, fun j m' e1 e2 => ?_⟩
  dsimp only at e1
  by_cases hj : i = j
  · subst hj
    rw [List.getElem?_set_self'] at e1
    cases hs : s.r[i]? <;> rw [hs] at e1 <;> cases e1
  · rw [List.getElem?_set_ne hj] at e1 e2
    exact u7 j m' e1 e2
theorem Fresh.setO {k : Kx} {T Fr H : Hp} {μ : List Addr} {s : Ss} {σ : L2.St} {m m2 : List Pc.D} {p q : Addr} {i : Nat} (F : Fresh k T Fr μ s σ H m (.ref q)) (hne : q ≠ p) : Fresh k T Fr μ { s with r := s.r.set i (.own m2) } (σ.set i (some (.ref p))) H m (.ref q) := by
  obtain ⟨q', ws, e, u2, u3, u4, u5, u6, u7⟩ := F
  cases e
  refine ⟨q, ws, rfl, u2, u3, u4, u5, u6, fun j m' e1 e2 => ?_⟩
  dsimp only at e1
  by_cases hj : i = j
  · subst hj
    rw [List.getElem?_set_self'] at e2
    cases hs : σ[i]? with
    | none => rw [hs] at e2; cases e2
    | some z => rw [hs] at e2; cases e2; exact hne rfl
  · rw [List.getElem?_set_ne hj] at e1 e2
    exact u7 j m' e1 e2
theorem Rz.setW {k : Kx} {T Fr H : Hp} {μ : List Addr} {s : Ss} {σ : L2.St} {u : V} {i : Nat} {w : Pc.W} : ∀ {l : List (Nat × Sl)} {vs : List V}, Rz k T Fr μ s σ H l vs → Rz k T Fr μ { s with r := s.r.set i (.w w) } (σ.set i (some u)) H l vs
  | [], _, h => h
  | (_, .w _) :: l, _, h => by
    obtain ⟨v, r, rfl, h1, h2⟩ := h
    exact ⟨v, r, rfl, h1, Rz.setW h2⟩
  | (_, .own _) :: l, _, h => by
    obtain ⟨p, r, rfl, h1, h2, h3⟩ := h
    exact ⟨p, r, rfl, h1.setW, h2, Rz.setW h3⟩
  | (_, .no) :: _, _, h => h.elim
theorem Rz.setO {k : Kx} {T Fr H : Hp} {μ : List Addr} {s : Ss} {σ : L2.St} {p : Addr} {m2 : List Pc.D} {i : Nat} : ∀ {l : List (Nat × Sl)} {vs : List V}, Rz k T Fr μ s σ H l vs → OwnsNe p l vs → Rz k T Fr μ { s with r := s.r.set i (.own m2) } (σ.set i (some (.ref p))) H l vs
  | [], _, h, _ => h
  | (_, .w _) :: l, _, h, hn => by
    obtain ⟨v, r, rfl, h1, h2⟩ := h
    exact ⟨v, r, rfl, h1, Rz.setO h2 fun j i m e => hn (j + 1) i m (by simpa using e)⟩
  | (_, .own _) :: l, _, h, hn => by
    obtain ⟨q, r, rfl, h1, h2, h3⟩ := h
    exact ⟨q, r, rfl, h1.setO fun z => hn 0 _ _ rfl (by simp [z]), h2, Rz.setO h3 fun j i m e => hn (j + 1) i m (by simpa using e)⟩
  | (_, .no) :: _, _, h, _ => h.elim
theorem sets_ok {k : Kx} {T Fr H : Hp} {μ : List Addr} : ∀ {l : List (Nat × Sl)} {vs : List V} {s : Ss} {σ : L2.St}, Sim k T Fr μ s σ H → Rz k T Fr μ s σ H l vs → Sim k T Fr μ { s with r := setsR s.r l } (setsV σ l vs) H
  | [], vs, s, σ, S, h => by
    cases (show vs = [] from h)
    exact S
  | (i, .w w) :: l, _, s, σ, S, h => by
    obtain ⟨v, r, rfl, h1, h2⟩ := h
    have := sets_ok (l := l) (s := { s with r := s.r.set i (.w w) }) (σ := σ.set i (some v)) (S.setW i h1) (Rz.setW h2)
    exact this
  | (i, .own m) :: l, _, s, σ, S, h => by
    obtain ⟨p, r, rfl, h1, h2, h3⟩ := h
    have := sets_ok (l := l) (s := { s with r := s.r.set i (.own m) }) (σ := σ.set i (some (.ref p))) (S.setO i h1) (Rz.setO h3 h2)
    exact this
  | (_, .no) :: _, _, _, _, _, h => h.elim
section
variable {t : Tb} {n : Nat} {M : Mc} {X : Cx}
def SRs (t : Tb) (n : Nat) (M : Mc) (l : List (Nat × Rh)) (xs : List Expr) : Prop := ∀ X W, Ok t n M X W → PA X xs (rd (t.k X) W (rRz (t.k X)) (evR (t.o n) l))
theorem srs_nil : SRs t n M [] [] := fun X W O => PA.weak pa_nil fun σ H Q ⟨T, Fr, μ, s, S, a⟩ => a.here S rfl
theorem srs_ex {i : Nat} {e : Ex} {l : List (Nat × Rh)} {xe : Expr} {xs : List Expr} (hp : plainArg xe = true) (he : SE t n M e xe) (hr : SRs t n M l xs) : SRs t n M ((i, .ex e) :: l) (xe :: xs) := fun X W O => by
  refine PA.weak (pa_cons (he X W O) (hr X W O) (star_plain hp _ _)) fun σ H Q ⟨T, Fr, μ, s, S, a⟩ => ?_
  unfold evR at a
  refine rd_bind S a fun T1 μ1 H1 x w1 s1 e1 p1 S1 r1 a1 => ?_
  clear a
  revert a1
  intro a
  split at a
  · exact a.elim
  · rename_i hb
    refine rd_bind S1 a fun T2 μ2 H2 ys ws s2 e2 p2 S2 r2 a => ?_
    exact a.here S2 ⟨x, ys, rfl, (RepR.w r1 (not_b hb)).mono e2 p2, r2⟩
theorem srs_ow {i : Nat} {f : Fx} {l : List (Nat × Rh)} {xe : Expr} {xs : List Expr} (hp : plainArg xe = true) (he : SF t n M f xe) (hr : SRs t n M l xs) : SRs t n M ((i, .ow f) :: l) (xe :: xs) := fun X W O => by
  refine PA.weak (pa_cons (he X W O) (hr X W O) (star_plain hp _ _)) fun σ H Q ⟨T, Fr, μ, s, S, a⟩ => ?_
  unfold evR at a
  refine rd_bind S a fun T1 μ1 H1 x d s1 e1 p1 S1 r1 a1 => ?_
  clear a
  obtain ⟨p, ws, rfl, u2, u3, u4, u5, u6, u7⟩ := (show Fresh _ _ _ _ _ _ _ _ _ from r1)
  refine ⟨T1, upd Fr p (.lst ws), μ1, s1, S1.lend u2 u4 u5 u6 u7, ?_⟩
  cases e : evR (t.o n) l s1 with
  | stuck => rw [e] at a1; exact a1.elim
  | exc x s' =>
    rw [e] at a1
    exact fun T2 μ2 H2 C dd e2 p2 S2 er => a1 T2 μ2 H2 C dd e2 p2 (S2.back u5).1 er
  | ok xs' s' =>
    rw [e] at a1
    intro T2 μ2 H2 vs e2 p2 S2 rz
    obtain ⟨S3, q1, q2, q3, q4⟩ := S2.back u5
    obtain ⟨z1, z2⟩ := Rz.back u5 rz
    exact a1 T2 μ2 H2 _ e2 p2 S3 ⟨p, vs, rfl, ⟨p, ws, rfl, q1, u3.mono e2, q2, u5, q3, q4⟩, z2, z1⟩
def bkS (sc : Scope) : ScopeKind := if sc.kind.isAnnotationScope then ScopeKind.function else sc.kind
def parC (sc : Scope) (ts vs : List Expr) : Option (Option (List Str)) :=
  if !(ts.length == 2 || ts.length == 3) || vs.length != ts.length || bkS sc != .function then some none else
  if vs.any fun | .Starred .. => true | _ => false then some none else
  let line := (ts.head?.map (·.pos.line)).getD 0
  let names := ts.filterMap fun
    | .Name id pos => if sc.names.lookup id == some .local && pos.line == line then some id else none
    | _ => none
  if names.length != ts.length || names.eraseDups.length != names.length then some none else
  if vs.all (foldedForSure 8) then some none else
  if vs.all (constantsAlone 8) then none else some (some names)
theorem par_eq {W : WX} (O : Ok t n M X W) {ts vs : List Expr} {k1 k2 : Nat} {p1 p2 : Pos} {r : Option (List Str)} (h : parC M.sc ts vs = some r) : swappedStores [.Tuple ts k1 p1] (.Tuple vs k2 p2) X.env = pure r := by
  rw [← O.sc] at h
  unfold parC at h
  show (if !(ts.length == 2 || ts.length == 3) || vs.length != ts.length || X.env.blockKind != .function then pure none else
    if vs.any fun | .Starred .. => true | _ => false then pure none else _ : Sem (Option (List Str))) = _
  split at h
  · rename_i h1
    cases h
    exact if_pos h1
  · rename_i h1
    refine (if_neg h1).trans ?_
    split at h
    · rename_i h2
      cases h
      exact if_pos h2
    · rename_i h2
      refine (if_neg h2).trans ?_
      dsimp only at h
      split at h
      · rename_i h3
        cases h
        exact if_pos h3
      · rename_i h3
        refine (if_neg h3).trans ?_
        split at h
        · rename_i h4
          cases h
          exact if_pos h4
        · rename_i h4
          refine (if_neg h4).trans ?_
          split at h
          · cases h
          · rename_i h5
            cases h
            exact if_neg h5
def locN (M : Mc) (i : Nat) (x : Str) : Bool := decide (M.N[i]? = some x) && decide (M.sc.names.lookup x = some .local)
theorem swTup {vs : List Expr} {k2 : Nat} {p2 : Pos} (tg : Expr) (line : Nat) (env : Env) : swapsWithSole [tg] (.Tuple vs k2 p2) line env = pure false := rfl
theorem rds_bindE {k : Kx} {T Fr H : Hp} {μ : List Addr} {W : WX} {D : Ends} {σ : L2.St} {s : Ss} {α β : Type} {Rp : RpT α β} {f : Ss → Res α} {g : α → Ss → Res Fl} {Q1 : β → Hp → Prop} (S : Sim k T Fr μ s σ H) (ha : AftS k T Fr μ W D ((f s).bind g))
    (h : ∀ T' μ' H' v a s', f s = .ok a s' → Same T T' → μ <+: μ' → Sim k T' Fr μ' s' σ H' → Rp T' Fr μ' s' σ H' a v → AftS k T' Fr μ' W D (g a s') → Q1 v H') : rd k W Rp f σ H Q1 := by
  refine ⟨T, Fr, μ, s, S, ?_⟩
  cases e : f s with
  | ok a s' =>
    rw [e] at ha
    exact fun T2 μ2 H' v e2 p2 S2 r2 => h T2 μ2 H' v a s' e e2 p2 S2 r2 (AftS.mono ha e2 p2)
  | exc x s' =>
    rw [e] at ha
    exact fun T2 μ2 H' C d e2 p2 S2 r2 => ha T2 μ2 σ H' C d e2 p2 S2 r2
  | stuck =>
    rw [e] at ha
    exact ha.elim
theorem evR_ix {o : Or} : ∀ {l : List (Nat × Rh)} {s s' : Ss} {xs : List (Nat × Sl)}, evR o l s = .ok xs s' → xs.map (·.1) = l.map (·.1)
  | [], s, s', xs, h => by cases h; rfl
  | (i, .ex e) :: l, s, s', xs, h => by
    unfold evR at h
    obtain ⟨w, s1, h1, h2⟩ := bind_ok h
    split at h2
    · cases h2
    · obtain ⟨ys, s2, h3, h4⟩ := bind_ok h2
      cases h4
      simp [evR_ix h3]
  | (i, .ow f) :: l, s, s', xs, h => by
    unfold evR at h
    obtain ⟨w, s1, h1, h2⟩ := bind_ok h
    obtain ⟨ys, s2, h3, h4⟩ := bind_ok h2
    cases h4
    simp [evR_ix h3]
theorem Rz.cons {k : Kx} {T Fr H : Hp} {μ : List Addr} {s : Ss} {σ : L2.St} {p : Nat × Sl} {l : List (Nat × Sl)} {vs : List V} (h : Rz k T Fr μ s σ H (p :: l) vs) : ∃ v r, vs = v :: r ∧ Rz k T Fr μ s σ H l r := by
  obtain ⟨i, x⟩ := p
  cases x with
  | no => exact h.elim
  | w w => obtain ⟨v, r, e, _, h2⟩ := h; exact ⟨v, r, e, h2⟩
  | own m => obtain ⟨p, r, e, _, _, h2⟩ := h; exact ⟨_, r, e, h2⟩
theorem map1 {α β : Type} {f : α → β} {l : List α} {b : β} {bs : List β} (h : l.map f = b :: bs) : ∃ a r, l = a :: r ∧ f a = b ∧ r.map f = bs := by
  cases l with
  | nil => cases h
  | cons a r => cases h; exact ⟨a, r, rfl, rfl, rfl⟩
theorem map0 {α β : Type} {f : α → β} {l : List α} (h : l.map f = []) : l = [] := by
  cases l with
  | nil => rfl
  | cons a r => cases h
theorem ss_par2 {i j : Nat} {r1 r2 : Rh} {x y : Str} {a b : Expr} {px py pt pv p : Pos} {kt kv : Nat} (hx : (locN M i x && locN M j y && decide (i ≠ j) && decide (parC M.sc [.Name x px, .Name y py] [a, b] = some (some [x, y]))) = true) (ha : SRs t n M [(i, r1), (j, r2)] [a, b]) :
    SS t n M (.par [(i, r1), (j, r2)]) (.Assign [.Tuple [.Name x px, .Name y py] kt pt] (.Tuple [a, b] kv pv) p) := fun X W O po => by
  simp only [locN, Bool.and_eq_true, decide_eq_true_eq] at hx
  obtain ⟨⟨⟨⟨x1, x2⟩, x3, x4⟩, x5⟩, x6⟩ := hx
  refine PS.weak (ps_par O.calm O.nd (by rw [O.N]; exact x1) (by rw [O.N]; exact x3) x5 (by rw [O.sc]; exact x2) (by rw [O.sc]; exact x4) (ha X W O) (par_eq O x6) (swTup _ _ _)) fun D σ H ⟨T, Fr, μ, s, S, a⟩ => ?_
  unfold ex1 at a
  refine rds_bindE S a fun T1 μ1 H1 vs l s1 e0 e1 p1 S1 rz a1 => ?_
  obtain ⟨⟨i', u1⟩, l1, rfl, q1, hl⟩ := map1 (evR_ix e0)
  obtain ⟨⟨j', u2⟩, l2, rfl, q2, hl⟩ := map1 hl
  cases map0 hl
  cases q1
  cases q2
  have S2 := sets_ok S1 rz
  obtain ⟨v1, vr1, rfl, rz1⟩ := Rz.cons rz
  obtain ⟨v2, vr2, rfl, rz2⟩ := Rz.cons rz1
  cases (show vr2 = [] from rz2)
  exact ⟨v1, v2, rfl, a1.nx S2⟩
theorem ss_par3 {i j l : Nat} {r1 r2 r3 : Rh} {x y z : Str} {a b c : Expr} {px py pz pt pv p : Pos} {kt kv : Nat} (hx : (locN M i x && locN M j y && locN M l z && decide (i ≠ j) && decide (i ≠ l) && decide (j ≠ l) && decide (parC M.sc [.Name x px, .Name y py, .Name z pz] [a, b, c] = some (some [x, y, z]))) = true) (ha : SRs t n M [(i, r1), (j, r2), (l, r3)] [a, b, c]) :
    SS t n M (.par [(i, r1), (j, r2), (l, r3)]) (.Assign [.Tuple [.Name x px, .Name y py, .Name z pz] kt pt] (.Tuple [a, b, c] kv pv) p) := fun X W O po => by
  simp only [locN, Bool.and_eq_true, decide_eq_true_eq] at hx
  obtain ⟨⟨⟨⟨⟨⟨⟨x1, x2⟩, x3, x4⟩, y1, y2⟩, x5⟩, y3⟩, y4⟩, x6⟩ := hx
  refine PS.weak (ps_par3 O.calm O.nd (by rw [O.N]; exact x1) (by rw [O.N]; exact x3) (by rw [O.N]; exact y1) x5 y3 y4 (by rw [O.sc]; exact x2) (by rw [O.sc]; exact x4) (by rw [O.sc]; exact y2) (ha X W O) (par_eq O x6) (swTup _ _ _)) fun D σ H ⟨T, Fr, μ, s, S, a⟩ => ?_
  unfold ex1 at a
  refine rds_bindE S a fun T1 μ1 H1 vs l s1 e0 e1 p1 S1 rz a1 => ?_
  obtain ⟨⟨i', u1⟩, l1, rfl, q1, hl⟩ := map1 (evR_ix e0)
  obtain ⟨⟨j', u2⟩, l2, rfl, q2, hl⟩ := map1 hl
  obtain ⟨⟨j', u3⟩, l3, rfl, q3, hl⟩ := map1 hl
  cases map0 hl
  cases q1
  cases q2
  cases q3
  have S2 := sets_ok S1 rz
  obtain ⟨v1, vr1, rfl, rz1⟩ := Rz.cons rz
  obtain ⟨v2, vr2, rfl, rz2⟩ := Rz.cons rz1
  obtain ⟨v3, vr3, rfl, rz3⟩ := Rz.cons rz2
  cases (show vr3 = [] from rz3)
  exact ⟨v1, v2, v3, rfl, a1.nx S2⟩
/-- a tuple told, taken apart where no stores are swapped -/
theorem ss_unpT {l : List Nat} {e : Ex} {ts vs : List Expr} {kt kv : Nat} {pt pv p : Pos} (hx : (tpB M l ts && decide (parC M.sc ts vs = some none)) = true) (he : SE t n M e (.Tuple vs kv pv)) : SS t n M (.unp (.tp l) e) (.Assign [.Tuple ts kt pt] (.Tuple vs kv pv) p) := by
  simp only [Bool.and_eq_true, decide_eq_true_eq] at hx
  exact ss_unp (fun X W O => ⟨rfl, par_eq O hx.2, rfl⟩) (sg_tp hx.1) he
def noTup : Expr → Bool
  | .Tuple _ _ _ => false
  | _ => true
theorem ss_unpE {l : List Nat} {e : Ex} {ts : List Expr} {xe : Expr} {kt : Nat} {pt p : Pos} (hx : (tpB M l ts && noComp xe && noTup xe) = true) (he : SE t n M e xe) : SS t n M (.unp (.tp l) e) (.Assign [.Tuple ts kt pt] xe p) := by
  simp only [Bool.and_eq_true, decide_eq_true_eq] at hx
  exact ss_unp (fun X W O => ⟨by unfold swapsWithSole; exact sw_none hx.1.2 _ _ _, by have := hx.2; cases xe <;> first | rfl | (cases this), rfl⟩) (sg_tp hx.1.1) he
theorem kw_some {kws : List Keyword} {ks : List Str} (h : kws.map (·.arg) = ks.map some) (pos : Pos) (env : Env) : (backToKw pos (keywordEach kws env)).filterMap (·.1) = ks ∧ (backToKw pos (keywordEach kws env)).all (·.1.isSome) = true ∧ (backToKw pos (keywordEach kws env)).any (·.1.isNone) = false := by
  induction kws generalizing ks with
  | nil => cases map0 h.symm; exact ⟨rfl, rfl, rfl⟩
  | cons q kws ih =>
    obtain ⟨x, ks', rfl, h1, h2⟩ := map1 h.symm
    obtain ⟨i1, i2, i3⟩ := ih h2.symm
    obtain ⟨nm, e, kp⟩ := q
    cases (show some x = nm from h1)
    show List.filterMap (·.1) ((some x, _) :: backToKw pos (keywordEach kws env)) = _ ∧ ((true && (backToKw pos (keywordEach kws env)).all (·.1.isSome)) = true) ∧ (false || (backToKw pos (keywordEach kws env)).any (·.1.isNone)) = false
    rw [i2, i3, List.filterMap_cons, i1]
    exact ⟨rfl, rfl, rfl⟩
def SKs (t : Tb) (n : Nat) (M : Mc) (e : Exs) (x : List Keyword) : Prop := ∀ X W, Ok t n M X W → PK X x (rd (t.k X) W (rL (t.k X)) (evs (t.o n) e))
theorem PK.weak {X : Cx} {e : List Keyword} {t u : TA} (h : PK X e t) (k : ∀ σ H Q, u σ H Q → t σ H Q) : PK X e u := ⟨fun p pins s σ H Q I q => h.run p pins s σ H Q I (k σ H Q q)⟩
theorem sks_nil : SKs t n M .nil [] := fun X W O => PK.weak pk_nil fun σ H Q ⟨T, Fr, μ, s, S, a⟩ => a.here S rfl
theorem sks_cons {a : Ex} {r : Exs} {nm : Option Str} {kp : Pos} {xa : Expr} {xs : List Keyword} (ha : SE t n M a xa) (hr : SKs t n M r xs) : SKs t n M (.cons a r) (⟨nm, xa, kp⟩ :: xs) := fun X W O => by
  refine PK.weak (pk_cons (ha X W O) (hr X W O)) fun σ H Q ⟨T, Fr, μ, s, S, a⟩ => ?_
  unfold evs at a
  refine rd_bind S a fun T1 μ1 H1 x w1 s1 e1 p1 S1 r1 a => rd_bind S1 a fun T2 μ2 H2 ys ws s2 e2 p2 S2 r2 a => ?_
  exact a.here S2 ⟨x, ys, rfl, RepR.mono e2 p2 r1, r2⟩
end
end Pc

set_option Elab.async false
set_option linter.all false
set_option maxRecDepth 100000
set_option maxHeartbeats 4000000
namespace Pc
open PySem L2
open Classical in
/-- the callers' things, with the names' own lists among them -/
noncomputable def lendAll (Fr : Hp) (s : Ss) (σ : L2.St) (H : Hp) : Hp := fun a => if (∃ (i : Nat) (l : List Pc.D), s.r[i]? = some (.own l) ∧ σ[i]? = some (some (.ref a))) then H a else Fr a
theorem Sim.enter {k : Kx} {T Fr H : Hp} {μ : List Addr} {s : Ss} {σ : L2.St} (S : Sim k T Fr μ s σ H) : Sim k T (lendAll Fr s σ H) μ ⟨s.g, []⟩ [] H := by
  have own : ∀ a, (∃ (i : Nat) (l : List Pc.D), s.r[i]? = some (.own l) ∧ σ[i]? = some (some (.ref a))) → T a = none ∧ Fr a = none ∧ ∀ n : Nat, μ[n]? ≠ some a := fun a ⟨i, l, e1, e2⟩ => by
    obtain ⟨p, vs, u1, u2, u3, u4, u5, u6, u7⟩ := S.own i l e1
    rw [u1] at e2
    cases e2
    exact ⟨u4, u5, u6⟩
  refine ⟨S.tH, fun a u e => ?_, fun a ha => ?_, S.len, fun n a c e1 e2 => ?_, S.cnd, rfl, fun i w e => by simp at e, fun i l e => by simp at e⟩
  · unfold lendAll at e
    split at e
    · exact e
    · exact S.fH _ _ e
  · unfold lendAll at ha
    split at ha
    · rename_i h
      exact (own a h).1
    · exact S.tF a ha
  · obtain ⟨u1, u2, u3, u4⟩ := S.cel n a c e1 e2
    refine ⟨u1, ?_, u3, u4⟩
    unfold lendAll
    split
    · rename_i h
      exact absurd e1 ((own a h).2.2 n)
    · exact u2
theorem Sim.leave {k : Kx} {T T' Fr H H' : Hp} {μ μ' : List Addr} {s : Ss} {σ : L2.St} {g' : List Cl} (S : Sim k T Fr μ s σ H) (S' : Sim k T' (lendAll Fr s σ H) μ' ⟨g', []⟩ [] H') (e : Same T T') (p : μ <+: μ') : Sim k T' Fr μ' { s with g := g' } σ H' := by
  have own : ∀ a, (∃ (i : Nat) (l : List Pc.D), s.r[i]? = some (.own l) ∧ σ[i]? = some (some (.ref a))) → T a = none ∧ Fr a = none ∧ H a ≠ none ∧ lendAll Fr s σ H a = H a := fun a h => by
    obtain ⟨i, l, e1, e2⟩ := id h
    obtain ⟨p, vs, u1, u2, u3, u4, u5, u6, u7⟩ := S.own i l e1
    rw [u1] at e2
    cases e2
    refine ⟨u4, u5, by rw [u2]; simp, ?_⟩
    unfold lendAll
    rw [if_pos h]
  have out : ∀ a, ¬ (∃ (i : Nat) (l : List Pc.D), s.r[i]? = some (.own l) ∧ σ[i]? = some (some (.ref a))) → lendAll Fr s σ H a = Fr a := fun a h => by
    unfold lendAll
    rw [if_neg h]
  have notown : ∀ a, Fr a ≠ none → lendAll Fr s σ H a = Fr a := fun a ha => out a fun h => ha (own a h).2.1
  have back : ∀ a, lendAll Fr s σ H a = none → Fr a = none := fun a ha => by
    by_cases h : (∃ (i : Nat) (l : List Pc.D), s.r[i]? = some (.own l) ∧ σ[i]? = some (some (.ref a)))
    · exact (own a h).2.1
    · rw [out a h] at ha; exact ha
  refine ⟨S'.tH, fun a u ea => S'.fH a u (by rw [notown a (by rw [ea]; simp)]; exact ea), fun a ha => S'.tF a (by rw [notown a ha]; exact ha), S'.len, fun n a c e1 e2 => ?_, S'.cnd, S.rlen, fun i w ei => ?_, fun i l ei => ?_⟩
  · obtain ⟨u1, u2, u3, u4⟩ := S'.cel n a c e1 e2
    exact ⟨u1, back a u2, u3, u4⟩
  · obtain ⟨v, q1, q2⟩ := S.val i w ei
    exact ⟨v, q1, q2.mono e p⟩
  · obtain ⟨q, vs, u1, u2, u3, u4, u5, u6, u7⟩ := S.own i l ei
    have hq : ∃ (i : Nat) (l : List Pc.D), s.r[i]? = some (.own l) ∧ σ[i]? = some (some (.ref q)) := ⟨i, l, ei, u1⟩
    obtain ⟨w1, w2, w3, w4⟩ := own q hq
    refine ⟨q, vs, u1, S'.fH q _ (w4.trans u2), u3.mono e, S'.tF q (by rw [w4]; exact w3), u5, fun n en => ?_, u7⟩
    have hn : n < g'.length := by rw [← S'.len]; exact (List.getElem?_eq_some_iff.mp en).1
    obtain ⟨_, z2, _⟩ := S'.cel n q _ en (List.getElem?_eq_getElem hn)
    rw [w4] at z2
    exact w3 z2
/-- the state at a def's entry -/
theorem Sim.begin {k : Kx} {T Fr H : Hp} {μ : List Addr} {g : List Cl} : ∀ {as : List Pc.W} {vs : List V} {m : Nat}, Sim k T Fr μ ⟨g, []⟩ [] H → RepWs k T μ as vs → Sim k T Fr μ ⟨g, as.map Sl.w ++ List.replicate m .no⟩ (vs.map some ++ List.replicate m none) H := by
  intro as vs m S h
  have len : ∀ {as : List Pc.W} {vs : List V}, RepWs k T μ as vs → as.length = vs.length := by
    intro as
    induction as with
    | nil => intro vs h; cases (show vs = [] from h); rfl
    | cons a as ih => intro vs h; obtain ⟨v, r, rfl, _, h2⟩ := h; simp [ih h2]
  have get : ∀ {as : List Pc.W} {vs : List V}, RepWs k T μ as vs → ∀ (i : Nat) (w : Pc.W), as[i]? = some w → ∃ v, vs[i]? = some v ∧ RepW k T μ w v := by
    intro as
    induction as with
    | nil => intro vs h i w e; simp at e
    | cons a as ih =>
      intro vs h i w e
      obtain ⟨v, r, rfl, h1, h2⟩ := h
      cases i with
      | zero => cases e; exact ⟨v, rfl, h1⟩
      | succ i => exact ih h2 i w (by simpa using e)
  have hl := len h
  refine ⟨S.tH, S.fH, S.tF, S.len, S.cel, S.cnd, by simp [hl], fun i w e => ?_, fun i l e => ?_⟩
  · dsimp only at e
    by_cases hi : i < as.length
    · rw [List.getElem?_append_left (by simpa using hi), List.getElem?_map] at e
      obtain ⟨w', hw, e⟩ := Option.map_eq_some_iff.mp e
      cases e
      obtain ⟨v, q1, q2⟩ := get h i w hw
      exact ⟨v, by rw [List.getElem?_append_left (by simpa using (hl ▸ hi)), List.getElem?_map, q1]; rfl, q2⟩
    · rw [List.getElem?_append_right (by simpa using hi), List.getElem?_replicate] at e
      split at e <;> cases e
  · dsimp only at e
    by_cases hi : i < as.length
    · rw [List.getElem?_append_left (by simpa using hi), List.getElem?_map] at e
      obtain ⟨w', hw, e⟩ := Option.map_eq_some_iff.mp e
      cases e
    · rw [List.getElem?_append_right (by simpa using hi), List.getElem?_replicate] at e
      split at e <;> cases e
theorem ws_get {k : Kx} {T : Hp} {μ : List Addr} {σ : L2.St} : ∀ {ws : List Pc.W} {vs : List V} {us : List Value}, RepRs k T μ σ ws vs → Vals vs us → noB ws = true → ∀ i, ∃ v, RelV v (us.getD i .none) ∧ RepW k T μ (ws.getD i (.d .non)) v
  | [], vs, us, h, hv, _, i => by
    cases (show vs = [] from h)
    cases hv
    exact ⟨.non, rfl, rfl⟩
  | w :: ws, _, us, h, hv, hb, i => by
    obtain ⟨v, r, rfl, h1, h2⟩ := h
    cases hv with
    | cons r1 rr =>
      simp only [noB, Bool.and_eq_true, Bool.not_eq_true'] at hb
      cases i with
      | zero => exact ⟨v, r1, RepR.w h1 hb.1⟩
      | succ i => exact ws_get h2 rr hb.2 i
theorem sel_ok {k : Kx} {T : Hp} {μ : List Addr} {σ : L2.St} {ws zs : List Pc.W} {vs xs : List V} {us ys ds : List Value} (h1 : RepRs k T μ σ ws vs) (v1 : Vals vs us) (b1 : noB ws = true) (h2 : RepRs k T μ σ zs xs) (v2 : Vals xs ys) (b2 : noB zs = true) :
    ∀ {sel : List Ar} {j : Nat}, DfOk k ds sel j → ∃ bs, Vals bs (selVs us ys ds sel j) ∧ RepWs k T μ (sel.map (selW ws zs)) bs
  | [], _, _ => ⟨[], .nil, rfl⟩
  | .p i :: r, j, h => by
    obtain ⟨v, q1, q2⟩ := ws_get h1 v1 b1 i
    obtain ⟨bs, q3, q4⟩ := sel_ok h1 v1 b1 h2 v2 b2 (sel := r) (j := j + 1) h
    exact ⟨v :: bs, .cons q1 q3, v, bs, rfl, q2, q4⟩
  | .k i :: r, j, h => by
    obtain ⟨v, q1, q2⟩ := ws_get h2 v2 b2 i
    obtain ⟨bs, q3, q4⟩ := sel_ok h1 v1 b1 h2 v2 b2 (sel := r) (j := j + 1) h
    exact ⟨v :: bs, .cons q1 q3, v, bs, rfl, q2, q4⟩
  | .df x :: r, j, h => by
    obtain ⟨⟨v, q1, q2⟩, h⟩ := h
    obtain ⟨bs, q3, q4⟩ := sel_ok h1 v1 b1 h2 v2 b2 (sel := r) (j := j + 1) h
    exact ⟨v :: bs, .cons q1 q3, v, bs, rfl, Rep.mono (fun b o z => by cases z) q2, q4⟩
theorem RepRs.vlen {k : Kx} {T : Hp} {μ : List Addr} {σ : L2.St} {ws : List Pc.W} {vs : List V} {us : List Value} (h : RepRs k T μ σ ws vs) (v : Vals vs us) : us.length = ws.length := by rw [← v.length, h.len]
section
variable {t : Tb} {n : Nat} {M : Mc} {X : Cx}
/-- the call itself, the arguments told -/
theorem run_call {W : WX} (O : Ok t n M X W) {f p : Nat} {ws zs : List Pc.W} {fd : Fn} {pt : Pat} {a : Addr} {fo : FuncData} (hf : t.tab[f]? = some fd) (hp : fd.pats[p]? = some pt) (hpt : PatOk ⟨X.K, t.cl⟩ fo (fd.nm.take fd.np) pt)
    (F : FnG X.prog X.w X.K X.mg X.base (3 * n) a fo (fd.nm.take fd.np) (spF ⟨X.K, t.cl⟩ t.tab n fd)) {pins : List (Addr × Obj)} {σ : L2.St} {H T Fr : Hp} {μ : List Addr} {s : Ss} {sh : Shared} {vs xs : List V} {us ys : List Value} {Q : VK}
    (I : Inv X pins σ H sh) (S : Sim (t.k X) T Fr μ s σ H) (h1 : RepRs (t.k X) T μ σ ws vs) (v1 : Vals vs us) (h2 : RepRs (t.k X) T μ σ zs xs) (v2 : Vals xs ys)
    (a0 : Aft (t.k X) T Fr μ W σ (rE (t.k X)) Q (match t.o n f p ws zs s.g with
      | .ok w g => if w.isB then .stuck else .ok w { s with g := g }
      | .exc e g => .exc e { s with g := g }
      | .stuck => .stuck)) : wpAny (model X.prog X.w) X.A (call (.ref a) us (pt.ks.zip ys)) (EP X pins σ Q) X.xe sh := by
  cases n with
  | zero => exact a0.elim
  | succ n =>
    have hrun : t.o (n + 1) f p ws zs s.g = (match argsOf fd p ws zs with
      | some as => runB (run t.tab n) fd as s.g
      | none => .stuck) := by
      show (match t.tab[f]? with
        | some fd => _
        | none => _) = _
      rw [hf]
      all_goals rfl
    rw [hrun] at a0
    cases ha : argsOf fd p ws zs with
    | none => rw [ha] at a0; exact a0.elim
    | some as =>
      rw [ha] at a0
      dsimp only at a0
      unfold argsOf at ha
      rw [hp] at ha
      dsimp only at ha
      split at ha
      · rename_i hc
        cases ha
        obtain ⟨l1, l2, l3, b1, b2⟩ := hc
        obtain ⟨ds, hd, hb⟩ := hpt
        obtain ⟨bs, q1, q2⟩ := sel_ok (ds := ds) h1 v1 b1 h2 v2 b2 hd
        have sp : spF ⟨X.K, t.cl⟩ t.tab (n + 1) fd bs H Q (fun C d H => W C d σ H) := by
          refine ⟨T, lendAll Fr s σ H, μ, s.g, _, S.enter, by rw [List.length_map, l3], q2, ?_⟩
          show AftC _ _ _ _ _ _ (runB (run t.tab n) fd _ s.g)
          cases e : runB (run t.tab n) fd (pt.sel.map (selW ws zs)) s.g with
          | stuck => rw [e] at a0; exact a0.elim
          | exc x g' =>
            rw [e] at a0
            exact fun T' μ' H' C d e' p' S' er => a0 T' μ' H' C d e' p' (S.leave S' e' p') er
          | ok w g' =>
            rw [e] at a0
            dsimp only at a0
            split at a0
            · exact a0.elim
            · exact fun T' μ' H' v e' p' S' r' => a0 T' μ' H' v e' p' (S.leave S' e' p') r'.r
        refine wpAny_call (codeAny_mono (F.run X.A X.stack sh H ⟨us, pt.ks.zip ys⟩ _ bs Q (fun C d H => W C d σ H) (O.room.mono (by omega)) I.env0 (hb sh us ys I.kIn ((h1.vlen v1).trans l1) ((h2.vlen v2).trans l2)) q1 sp) fun r s' hq => ?_)
        cases r with
        | error e => exact passAt O.tk σ pins H sh e s' I hq
        | ok fl =>
          cases fl with
          | ret u => exact I.after hq
          | next => exact hq.elim
          | brk => exact hq.elim
          | cont => exact hq.elim
      · cases ha
def patB (t : Tb) (f p : Nat) (x : Str) (ks : List Str) : Bool :=
  match t.tab[f]? with
  | some fd => decide (fd.name = x) && (match fd.pats[p]? with
    | some q => decide (q.ks = ks)
    | none => false)
  | none => false
theorem s_call {f p : Nat} {es kes : Exs} {x : Str} {px pos : Pos} {xs : List Expr} {kws : List Keyword} {ks : List Str} (hx : (patB t f p x ks && glB M.sc x && plainName x && xs.all plainArg && decide (kws.map (·.arg) = ks.map some)) = true) (n1 : xs = [] → es = .nil) (n2 : kws = [] → kes = .nil)
    (he : SEs t n M es xs) (hk : SKs t n M kes kws) : SE t n M (.call f p es kes) (.Call (.Name x px) xs kws pos) := fun X W O => by
  simp only [Bool.and_eq_true, decide_eq_true_eq] at hx
  obtain ⟨⟨⟨⟨x1, x2⟩, x3⟩, x4⟩, x5⟩ := hx
  unfold patB at x1
  split at x1
  · rename_i fd hfd
    simp only [Bool.and_eq_true, decide_eq_true_eq] at x1
    obtain ⟨y1, y2⟩ := x1
    split at y2
    · rename_i pt hpt
      have y2 := of_decide_eq_true y2
      subst y2
      obtain ⟨a, fo, m1, m2, m3, F⟩ := (O.fns fd (List.mem_of_getElem? hfd)).ex
      rw [y1] at m1
      obtain ⟨k1, k2, k3⟩ := kw_some x5 pos X.env
      refine ⟨fun pins sh σ H Q I ⟨T, Fr, μ, s, S, a0⟩ => ?_⟩
      unfold ev at a0
      refine wpAny_Call_Name_kw (ld_glob I (glB_ok O x2) m1 ?_ (plainName_a x3))
      -- behind both argument lists
      have fin : ∀ {pins : List (Addr × Obj)} {H2 T2 : Hp} {μ2 : List Addr} {s2 : Ss} {sh2 : Shared} {us ys : List Value} {vs zs : List V} {ws2 zs2 : List Pc.W}, Inv X pins σ H2 sh2 → Sim (t.k X) T2 Fr μ2 s2 σ H2 → RepRs (t.k X) T2 μ2 σ ws2 vs → Vals vs us → RepRs (t.k X) T2 μ2 σ zs2 zs → Vals zs ys →
          Aft (t.k X) T2 Fr μ2 W σ (rE (t.k X)) Q (match t.o n f p ws2 zs2 s2.g with
            | .ok w g => if w.isB then .stuck else .ok w { s2 with g := g }
            | .exc e g => .exc e { s2 with g := g }
            | .stuck => .stuck) → wpAny (model X.prog X.w) X.A (call (.ref a) ([] ++ us) (((backToKw pos (keywordEach kws X.env)).filterMap (·.1)).zip ys)) (EP X pins σ Q) X.xe sh2 := fun I2 S2 r1 v1 r2 v2 a2 => by
        rw [k1, List.nil_append]
        exact run_call O hfd hpt (m3 _ (List.mem_of_getElem? hpt)) F I2 S2 r1 v1 r2 v2 a2
      have last : ∀ {H1 : Hp} {sh1 : Shared} {us : List Value} {vs : List V}, Inv X pins σ H1 sh1 → Vals vs us → (∃ T1 μ1 ws1 s1, Sim (t.k X) T1 Fr μ1 s1 σ H1 ∧ RepRs (t.k X) T1 μ1 σ ws1 vs ∧ Aft (t.k X) T1 Fr μ1 W σ (rE (t.k X)) Q ((evs (t.o n) kes s1).bind fun zs s2 => match t.o n f p ws1 zs s2.g with
            | .ok w g => if w.isB then .stuck else .ok w { s2 with g := g }
            | .exc e g => .exc e { s2 with g := g }
            | .stuck => .stuck)) → (kws = [] → wpAny (model X.prog X.w) X.A (call (.ref a) us []) (EP X pins σ Q) X.xe sh1) ∧
          wpAny (model X.prog X.w) X.A (evalAll ((backToKw pos (keywordEach kws X.env)).map (·.2))) (fun ys s₂ => X.K.In s₂.heap ∧ wpAny (model X.prog X.w) X.A (call (.ref a) ([] ++ us) (((backToKw pos (keywordEach kws X.env)).filterMap (·.1)).zip ys)) (EP X pins σ Q) X.xe s₂) X.xe sh1 := by
        intro H1 sh1 us vs I1 v1 ⟨T1, μ1, ws1, s1, S1, r1, a1⟩
        refine ⟨fun e => ?_, ?_⟩
        · cases n2 e
          cases e
          have := fin (ys := []) (zs := []) (zs2 := []) I1 S1 r1 v1 rfl .nil a1
          rw [List.nil_append] at this
          exact this
        · refine thn ((hk X W O).run pos pins sh1 σ H1 _ I1 (rd_bind S1 a1 (Q1 := fun zs H2 => ∃ T2 μ2 zs2 s2, Same T1 T2 ∧ μ1 <+: μ2 ∧ Sim (t.k X) T2 Fr μ2 s2 σ H2 ∧ RepRs (t.k X) T2 μ2 σ zs2 zs ∧ Aft (t.k X) T2 Fr μ2 W σ (rE (t.k X)) Q (match t.o n f p ws1 zs2 s2.g with
            | .ok w g => if w.isB then .stuck else .ok w { s2 with g := g }
            | .exc e g => .exc e { s2 with g := g }
            | .stuck => .stuck)) fun T2 μ2 H2 zs zs2 s2 e2 p2 S2 r2 a2 => ⟨T2, μ2, zs2, s2, e2, p2, S2, r2, a2⟩)) fun ys sh2 ⟨zs, H2, I2, v2, T2, μ2, zs2, s2, e2, p2, S2, r2, a2⟩ => ?_
          exact ⟨I2.kIn, fin I2 S2 (r1.mono e2 p2) v1 r2 v2 a2⟩
      cases xs with
      | nil =>
        cases n1 rfl
        obtain ⟨g1, g2⟩ := last I .nil ⟨T, μ, [], s, S, rfl, a0⟩
        cases kws with
        | nil => exact PySem.W.callWith_K0 I.kIn m2 (g1 rfl)
        | cons kw kws => exact PySem.W.callWith_KW0 (h₀ := X.base) I.ok.mod.kin m2 k2 g2 (by rw [k3]; rfl)
      | cons e xs =>
        simp only [List.all_cons, Bool.and_eq_true] at x4
        have hnb := none_star x4.2 pos X.env
        have hna : (backTo pos (starEach (e :: xs) X.env)).any (·.1) = false := none_star (by simp [x4.1]; simpa using x4.2) pos X.env
        have hA := (he X W O).run pos pins sh σ H _ I (rd_bind S a0 (Q1 := fun vs H1 => ∃ T1 μ1 ws1 s1, Sim (t.k X) T1 Fr μ1 s1 σ H1 ∧ RepRs (t.k X) T1 μ1 σ ws1 vs ∧ Aft (t.k X) T1 Fr μ1 W σ (rE (t.k X)) Q ((evs (t.o n) kes s1).bind fun zs s2 => match t.o n f p ws1 zs s2.g with
            | .ok w g => if w.isB then .stuck else .ok w { s2 with g := g }
            | .exc e g => .exc e { s2 with g := g }
            | .stuck => .stuck)) fun T1 μ1 H1 vs ws1 s1 _ _ S1 r1 a1 => ⟨T1, μ1, ws1, s1, S1, r1, a1⟩)
        cases kws with
        | nil => exact PySem.W.callWith_K (h₀ := X.base) I.ok.mod.kin m2 (thn hA fun us s1 ⟨vs, H1, I1, r, q⟩ => ⟨I1.kIn, (last I1 r q).1 rfl⟩) (star_plain x4.1 _ _) hnb
        | cons kw kws => exact PySem.W.callWith_KW (h₀ := X.base) I.ok.mod.kin m2 k2 (thn hA fun us s1 ⟨vs, H1, I1, r, q⟩ => (last I1 r q).2) (by rw [hna, k3]; rfl) (star_plain x4.1 _ _)
    · cases y2
  · cases x1
end
end Pc

set_option Elab.async false
set_option linter.all false
set_option maxRecDepth 100000
set_option maxHeartbeats 4000000
namespace Pc
open PySem L2
/-- what is fixed of a def -/
structure FnSt (t : Tb) (K : PySem.W.Frag) (mg : Str → Option Value) (fd : Fn) : Prop where
  ex : ∃ (a : Addr) (oc : Value) (od : Option Addr) (osl : Array (Option Value)) (name qual : Str) (params : Arguments) (body : List Stmt) (scope : Scope) (dV kV doc pm cdv ct : Value) (an : Option Addr),
    mg fd.name = some (.ref a) ∧ PySem.W.keepIn K (.ref a) = true ∧ K.lookup a = some ⟨oc, od, .func (PySem.W.fnOf name qual params body scope dV kV doc pm an cdv ct), osl⟩ ∧ PySem.W.codeIn K cdv qual = true ∧
    (∀ q ∈ fd.pats, PatOk ⟨K, t.cl⟩ (PySem.W.fnOf name qual params body scope dV kV doc pm an cdv ct) (fd.nm.take fd.np) q) ∧ FnScope fd.nm (fd.nm.take fd.np) scope ∧ fd.np ≤ fd.nm.length ∧ ∀ n, SSs t n ⟨fd.nm, scope, fun _ => true⟩ fd.body body
theorem RepWs.len {k : Kx} {T : Hp} {μ : List Addr} : ∀ {as : List Pc.W} {vs : List V}, RepWs k T μ as vs → vs.length = as.length
  | [], _, h => by cases (show _ = [] from h); rfl
  | _ :: _, _, ⟨_, _, e, _, h⟩ => by subst e; exact congrArg Nat.succ h.len
theorem Sim.bare {k : Kx} {T Fr H : Hp} {μ : List Addr} {s : Ss} {σ : L2.St} (S : Sim k T Fr μ s σ H) : Sim k T Fr μ ⟨s.g, []⟩ [] H :=
  S.drop (r' := []) (σ' := []) rfl fun j => .inr (.inr (by simp))
section
variable {t : Tb} {P : Program} {w : World} {K : PySem.W.Frag} {mg : Str → Option Value} {base : Heap}
theorem body_ok {n : Nat} {fd : Fn} {M : Mc} {X : Cx} {E : XK} {body : List Stmt} {vs : List V} {H : Hp} {Q : VK} (hb : SSs t n M fd.body body) (O : Ok t n M X (fun cls d _ H => E cls d H)) (po : PassesOwn (model X.prog X.w) X.A X.env X.xe)
    (hN : M.N = fd.nm) (h : spF (t.k X) t.tab (n + 1) fd vs H Q E) : ∃ u, PSs X body u ∧ u { nx := fun _ H' => Q .non H', rt := Q } (L2.start fd.nm vs) H := by
  obtain ⟨T, Fr, μ, g, as, S, hl, hr, a⟩ := h
  refine ⟨_, hb X _ O po, T, Fr, μ, ⟨g, startR fd as⟩, ?_, ?_⟩
  · have := S.begin (m := fd.nm.length - as.length) hr
    unfold startR L2.start
    rw [hr.len]
    exact this
  · have a : AftC (t.k X) T Fr μ Q E (runB (run t.tab n) fd as g) := a
    unfold runB at a
    cases e : exs (t.o n) fd.body ⟨g, startR fd as⟩ with
    | stuck => rw [show exs (run t.tab n) fd.body ⟨g, startR fd as⟩ = _ from e] at a; exact a.elim
    | exc x s' =>
      rw [show exs (run t.tab n) fd.body ⟨g, startR fd as⟩ = _ from e] at a
      exact fun T' μ' σ' H' C d e' p' S' er => a T' μ' H' C d e' p' S'.bare er
    | ok c s' =>
      rw [show exs (run t.tab n) fd.body ⟨g, startR fd as⟩ = _ from e] at a
      cases c with
      | nx => exact fun T' μ' σ' H' e' p' S' => a T' μ' H' .non e' p' S'.bare rfl
      | rt w => exact fun T' μ' σ' H' e' p' S' v r' => a T' μ' H' v e' p' S'.bare r'
      | bk => exact a.elim
      | ct => exact a.elim
theorem fns_ok (hf : ∀ x, t.free x = true → mg x = none) (hc : ∀ x d, t.con x d = true → ∃ u v, mg x = some u ∧ RelV v u ∧ Rep ⟨K, t.cl⟩ (fun _ => none) d v) (hs : ∀ fd ∈ t.tab, FnSt t K mg fd) : ∀ n, ∀ fd ∈ t.tab, FnAt t P w K mg base n fd
  | 0, fd, hm => by
    obtain ⟨a, oc, od, osl, name, qual, params, body, scope, dV, kV, doc, pm, cdv, ct, an, m1, m2, m3, m4, m5, m6, m7, m8⟩ := (hs fd hm).ex
    refine ⟨a, _, m1, m2, m5, ⟨fun vs H Q E h => ?_, fun A outer s H args us vs Q E _ _ _ _ h => ?_⟩⟩
    · obtain ⟨T, Fr, μ, g, as, S, hl, hr, q⟩ := h
      exact q.elim
    · obtain ⟨T, Fr, μ, g, as, S, hl, hr, q⟩ := h
      exact q.elim
  | n + 1, fd, hm => by
    obtain ⟨a, oc, od, osl, name, qual, params, body, scope, dV, kV, doc, pm, cdv, ct, an, m1, m2, m3, m4, m5, m6, m7, m8⟩ := (hs fd hm).ex
    have plen : ∀ (vs : List V) H Q E, spF ⟨K, t.cl⟩ t.tab (n + 1) fd vs H Q E → vs.length = (fd.nm.take fd.np).length := fun vs H Q E h => by
      obtain ⟨T, Fr, μ, g, as, S, hl, hr, q⟩ := h
      rw [hr.len, hl, List.length_take]
      omega
    refine ⟨a, _, m1, m2, m5, ⟨plen, fun A outer s H args us vs Q E hr e0 hb rv h => ?_⟩⟩
    have hlen := plen _ _ _ _ h
    have kin : K.In s.heap := e0.mod.kin.keeps fun b o z => (e0.bs b o z).1
    have nlim : s.heap.NoLimit := e0.mod.nolimit.keeps fun b o z => (e0.bs b o z).1
    have kinds : ∀ y ∈ (fd.nm.take fd.np).zip us, scope.names.lookup y.1 = some .local ∨ (scope.names.lookup y.1 = some .cell ∧ ((cellsFrom (s.heap.objs.size + 1) scope.names []).lookup y.1).isSome = true) := by
      rintro ⟨x, v⟩ hy
      rcases m6.par x (List.of_mem_zip hy).1 with z | z
      · exact .inl z
      · exact .inr ⟨z, PySem.W.cellsFrom_some _ _ _ (.inl z)⟩
    refine codeAny_call_function hr.r.depth (kin _ _ m3) rfl m6.co m6.gen rfl (PySem.W.codeRec_of kin m4) (hb _ _ _ _ ?_)
    refine wpAny_newFunctionEnv_cells m6.kind kinds fun env he s1 x => ?_
    subst he
    refine ⟨nlim.keeps x.toInCall.keep, codeAny_func ?_⟩
    have O : Ok t n ⟨fd.nm, scope, fun _ => true⟩ (cxOf (L2.CX P w) P w K mg base fd.nm qual scope a cdv A outer s H E) (fun cls d _ H => E cls d H) :=
      ⟨rfl, rfl, fun _ _ => rfl, hf, hc, ((hr.mono (show 3 * n + 2 + 1 ≤ 3 * (n + 1) by omega)).deeper _).mono (by omega), m6.nd, rfl, takes_of (E := E) rfl rfl rfl rfl, fns_ok hf hc hs n⟩
    obtain ⟨u, hu, hq⟩ := body_ok (m8 n) O (passes_of rfl) rfl h
    have I := inv_start (E := E) (CX := L2.CX P w) (cd := cdv) (f := a) (qual := qual) m6 hr.r.hd e0 hlen rv x
    refine wpAny_mono (hu.run [] s1 (L2.start fd.nm vs) H _ I hq) (fun fl s' z => ?_) fun e s' z => z
    have done : ∀ {σ' : L2.St} {H' : Hp} {v : V} {u : Value}, L2.Inv (cxOf (L2.CX P w) P w K mg base fd.nm qual scope a cdv A outer s H E) [] σ' H' s' → RelV v u → Q v H' → CE outer P w H s Q u s' := fun J r' q' => ⟨_, _, J.os, J.bare, J.base, J.hok, r', q'⟩
    cases fl with
    | ret u => obtain ⟨v, σ', H', J, r', q'⟩ := z; exact done J r' q'
    | next => obtain ⟨σ', H', J, q'⟩ := z; exact done (v := V.non) (u := Value.none) J rfl q'
    | brk => obtain ⟨_, _, _, q'⟩ := z; exact q'.elim
    | cont => obtain ⟨_, _, _, q'⟩ := z; exact q'.elim
end
end Pc

set_option Elab.async false
set_option linter.all false
set_option maxRecDepth 100000
set_option maxHeartbeats 4000000
namespace Pc
open PySem L2
def ksOf (kws : List Keyword) : List Str := kws.filterMap (·.arg)
def Exs.isNil : Exs → Bool
  | .nil => true
  | _ => false
theorem isNil_ok {e : Exs} (h : e.isNil = true) : e = .nil := by
  cases e <;> first | rfl | cases h
def ownOf (M : Mc) (vs : List Nat) : List (Str × Nat) := vs.map fun i => (M.N.getD i Str.empty, i)
def isTup : Expr → Bool
  | .Tuple _ _ _ => true
  | _ => false
def matG (M : Mc) (g : Tg) (x : Expr) : Bool :=
  match g with
  | .nm i => match x with
    | .Name x _ => tgB M i x
    | _ => false
  | .tp l => match x with
    | .Tuple es _ _ => tpB M l es
    | _ => false
mutual
def matE (t : Tb) (M : Mc) : Ex → Expr → Bool
  | .v i, x => match x with
    | .Name x _ => nmB M i x
    | _ => false
  | .b i, x => match x with
    | .Name x _ => nmB M i x
    | _ => false
  | .k d, x => match x with
    | .Constant c _ _ => kB d c
    | _ => false
  | .gk _ d, x => match x with
    | .Name x _ => glB M.sc x && plainName x && t.con x d
    | _ => false
  | .op f a b, x => match x with
    | .BinOp xa op xb _ => o2B f op && matE t M a xa && matE t M b xb
    | _ => false
  | .neg a, x => match x with
    | .UnaryOp .USub xa _ => matE t M a xa
    | _ => false
  | .cmp f a b, x => match x with
    | .Compare xa [op] [xb] _ => c2B f op && !behindInMarks op xb && matE t M a xa && matE t M b xb
    | _ => false
  | .cmp2 f g a b c, x => match x with
    | .Compare xa [op, op'] [xb, xc] _ => c2B f op && c2B g op' && !lastMarks [op, op'] [xb, xc] && matE t M a xa && matE t M b xb && matE t M c xc
    | _ => false
  | .bop an es, x => match x with
    | .BoolOp op xs _ => bopB an op && matB t M es xs
    | _ => false
  | .not a, x => match x with
    | .UnaryOp .Not xa _ => matE t M a xa
    | _ => false
  | .ite c a b, x => match x with
    | .IfExp xc xa xb _ => matT t M c xc && matE t M a xa && matE t M b xb
    | _ => false
  | .tup es, x => match x with
    | .Tuple xs _ _ => matA t M es xs
    | _ => false
  | .fz f, x => matF t M f x
  | .mk f, x => matF t M f x
  | .sub a i, x => match x with
    | .Subscript xa xi _ => plainIxB xi && matE t M a xa && matE t M i xi
    | _ => false
  | .sli a lo hi, x => match x with
    | .Subscript xa (.Slice xl xh none _) _ => matE t M a xa && matO t M lo xl && matO t M hi xh
    | _ => false
  | .call f p es kes, x => match x with
    | .Call (.Name x _) xs kws _ => (patB t f p x (ksOf kws) && glB M.sc x && plainName x && xs.all plainArg && decide (kws.map (·.arg) = (ksOf kws).map some)) && (!xs.isEmpty || es.isNil) && (!kws.isEmpty || kes.isNil) && matA t M es xs && matK t M kes kws
    | _ => false
  | .bi b es, x => match x with
    | .Call (.Name x _) (e :: xs) [] _ => (decide (x = biName b) && glB M.sc x && plainName x && t.free x && (e :: xs).all plainArg) && matA t M es (e :: xs)
    | _ => false
  | .isi a ty, x => match x with
    | .Call (.Name x _) [xa, .Name y _] [] _ => (decide (x = "isinstance") && glB M.sc x && t.free x && plainArg xa && decide (y = Str.ofString ty) && glB M.sc y && plainName y && t.free y && decide (ty ∈ tyNames)) && matE t M a xa
    | _ => false
  | .sm m o a, x => match x with
    | .Call (.Attribute xo nm apos) [xa] [] pos => (plainBase xo && plainArg xa && (apos.endLine == pos.line)) && (match m with | .join => decide (nm = "join") | .index => decide (nm = "index")) && matE t M o xo && matE t M a xa
    | _ => false
  | .fs ps, x => match x with
    | .JoinedStr xs _ => !xs.isEmpty && matP t M ps xs
    | _ => false
  | .app o a, x => match x with
    | .Call (.Attribute xo nm apos) [xa] [] pos => (plainBase xo && plainArg xa && (apos.endLine == pos.line)) && decide (nm = "append") && matE t M o xo && matE t M a xa
    | _ => false
  | .popl o, x => match x with
    | .Call (.Attribute xo nm apos) [] [] pos => (plainBase xo && (apos.endLine == pos.line)) && decide (nm = "pop") && matE t M o xo
    | _ => false
  | .popa o a, x => match x with
    | .Call (.Attribute xo nm apos) [xa] [] pos => (plainBase xo && plainArg xa && (apos.endLine == pos.line)) && decide (nm = "pop") && matE t M o xo && matE t M a xa
    | _ => false
def matO (t : Tb) (M : Mc) : Exo → Option Expr → Bool
  | .no, x => match x with
    | none => true
    | _ => false
  | .so e, x => match x with
    | some x => matE t M e x
    | _ => false
def matA (t : Tb) (M : Mc) : Exs → List Expr → Bool
  | .nil, xs => match xs with
    | [] => true
    | _ => false
  | .cons e r, xs => match xs with
    | x :: xs => plainArg x && matE t M e x && matA t M r xs
    | _ => false
  | .star e r, xs => match xs with
    | .Starred x _ :: xs => matE t M e x && matA t M r xs
    | _ => false
def matB (t : Tb) (M : Mc) : Exs → List Expr → Bool
  | .cons e r, xs => match xs with
    | x :: xs => matE t M e x && (if r.isNil then xs.isEmpty else matB t M r xs)
    | _ => false
  | _, _ => false
def matK (t : Tb) (M : Mc) : Exs → List Keyword → Bool
  | .nil, xs => match xs with
    | [] => true
    | _ => false
  | .cons e r, xs => match xs with
    | x :: xs => matE t M e x.value && matK t M r xs
    | _ => false
  | _, _ => false
def matP (t : Tb) (M : Mc) : Exs → List Expr → Bool
  | .nil, xs => match xs with
    | [] => true
    | _ => false
  | .cons e r, xs => match xs with
    | .Constant (.str z) _ _ :: xs => (match e with | .k (.str z') => decide (z' = z) | _ => false) && decide (z.length ≤ sizeLine) && matP t M r xs
    | .FormattedValue x c none _ :: xs => decide (c = -1) && matE t M e x && matP t M r xs
    | _ => false
  | _, _ => false
def matT (t : Tb) (M : Mc) : Te → Expr → Bool
  | .e a, x => plainTest x && matE t M a x
  | .not a, x => match x with
    | .UnaryOp .Not xa _ => matT t M a xa
    | _ => false
  | .bop an ts, x => match x with
    | .BoolOp op xs _ => bopB an op && matW t M ts xs
    | _ => false
  | .cmp f a b, x => match x with
    | .Compare xa [op] [xb] _ => c2B f op && !behindInMarks op xb && matE t M a xa && matE t M b xb
    | _ => false
  | .cmp2 f g a b c, x => match x with
    | .Compare xa [op, op'] [xb, xc] _ => c2B f op && c2B g op' && !lastMarks [op, op'] [xb, xc] && matE t M a xa && matE t M b xb && matE t M c xc
    | _ => false
def matW (t : Tb) (M : Mc) : Tes → List Expr → Bool
  | .cons e r, xs => match xs with
    | x :: xs => matT t M e x && (match r with | .nil => xs.isEmpty | _ => matW t M r xs)
    | _ => false
  | _, _ => false
def matTs (t : Tb) (M : Mc) : Tes → List Expr → Bool
  | .nil, xs => match xs with
    | [] => true
    | _ => false
  | .cons e r, xs => match xs with
    | [x] => matT t M e x && (match r with | .nil => true | _ => false)
    | _ => false
def matF (t : Tb) (M : Mc) : Fx → Expr → Bool
  | .disp es, x => match x with
    | .List xs _ => matA t M es xs
    | _ => false
  | .cat a b, x => match x with
    | .BinOp xa .Add xb _ => matE t M a xa && matE t M b xb
    | _ => false
  | .rep a b, x => match x with
    | .BinOp xa .Mult xb _ => matE t M a xa && matE t M b xb
    | _ => false
  | .cpy a, x => match x with
    | .Call (.Name x _) [xa] [] _ => (decide (x = "list") && glB M.sc x && t.free x && plainArg xa) && matE t M a xa
    | _ => false
  | .sli a lo hi, x => match x with
    | .Subscript xa (.Slice xl xh none _) _ => matE t M a xa && matO t M lo xl && matO t M hi xh
    | _ => false
  | .rev a, x => match x with
    | .Subscript xa (.Slice none none (some (.UnaryOp .USub (.Constant (.int k) _ _) _)) _) _ => decide (k = 1) && matE t M a xa
    | _ => false
  | .lc tg i ifs e vs, x => match x with
    | .ListComp xe [⟨xt, xi, xifs, k⟩] scope _ => decide (k = 0) && (decide (vs = (ownOf M vs).map (·.2)) && blkC M.N M.sc scope (ownOf M vs) && subB tg.ix vs && foldB xi) && matG (blkM M scope) tg xt && matI t M i xt xi && matTs t (blkM M scope) ifs xifs && matE t (blkM M scope) e xe
    | _ => false
  | .lc2 tg i ifs tg1 i1 ifs1 e vs vs1, x => match x with
    | .ListComp xe [⟨xt, xi, xifs, k⟩, ⟨xt1, xi1, xifs1, k1⟩] scope _ => decide (k = 0) && decide (k1 = 0) && (decide (vs = (ownOf M vs).map (·.2)) && blkC M.N M.sc scope (ownOf M vs) && subB tg.ix vs && foldB xi && subB tg1.ix vs1 && subB vs1 vs && foldB xi1) && matG (blkM M scope) tg xt && matG (blkM M scope) tg1 xt1 && matI t M i xt xi && matTs t (blkM M scope) ifs xifs &&
        matI t (blkM M scope) i1 xt1 xi1 && matTs t (blkM M scope) ifs1 xifs1 && matE t (blkM M scope) e xe
    | _ => false
def matI (t : Tb) (M : Mc) : It → Expr → Expr → Bool
  | .sq e, _, x => matE t M e x
  | .rg1 a, _, x => match x with
    | .Call (.Name x _) [xa] [] _ => decide (x = "range") && (glB M.sc "range" && t.free "range" && plainArg xa) && matE t M a xa
    | _ => false
  | .rg2 a b, _, x => match x with
    | .Call (.Name x _) [xa, xb] [] _ => decide (x = "range") && (glB M.sc "range" && t.free "range" && plainArg xa && plainArg xb) && matE t M a xa && matE t M b xb
    | _ => false
  | .en a, xt, x => match x with
    | .Call (.Name x _) [xa] [] _ => isTup xt && decide (x = "enumerate") && (glB M.sc "enumerate" && t.free "enumerate" && plainArg xa) && matE t M a xa
    | _ => false
  | .zp a b, xt, x => match x with
    | .Call (.Name x _) [xa, xb] [] _ => isTup xt && decide (x = "zip") && (glB M.sc "zip" && t.free "zip" && plainArg xa && plainArg xb) && matE t M a xa && matE t M b xb
    | _ => false
end
theorem dd {a b : Bool} (h : (a && b) = true) : (a && decide (b = true)) = true := by
  cases a <;> cases b <;> first | rfl | cases h
section
variable {t : Tb} {n : Nat}
theorem matG_ok {M : Mc} {g : Tg} {x : Expr} (h : matG M g x = true) : SG t n M g x := by
  unfold matG at h
  split at h
  · split at h
    · exact sg_nm h
    · cases h
  · split at h
    · exact sg_tp h
    · cases h
mutual
theorem matE_ok : ∀ {M : Mc} (e : Ex) {x : Expr}, matE t M e x = true → SE t n M e x
  | M, .v i, x, h => by
    unfold matE at h
    split at h
    · exact s_v h
    · cases h
  | M, .b i, x, h => by
    unfold matE at h
    split at h
    · exact s_b h
    · cases h
  | M, .k d, x, h => by
    unfold matE at h
    split at h
    · exact s_k h
    · cases h
  | M, .gk y d, x, h => by
    unfold matE at h
    split at h
    · exact s_gk h
    · cases h
  | M, .op f a b, x, h => by
    unfold matE at h
    split at h
    · simp only [Bool.and_eq_true] at h
      exact s_op h.1.1 (matE_ok a h.1.2) (matE_ok b h.2)
    · cases h
  | M, .neg a, x, h => by
    unfold matE at h
    split at h
    · exact s_neg (matE_ok a h)
    · cases h
  | M, .cmp f a b, x, h => by
    unfold matE at h
    split at h
    · simp only [Bool.and_eq_true, Bool.not_eq_true'] at h
      exact s_cmp h.1.1.1 h.1.1.2 (matE_ok a h.1.2) (matE_ok b h.2)
    · cases h
  | M, .cmp2 f g a b c, x, h => by
    unfold matE at h
    split at h
    · simp only [Bool.and_eq_true, Bool.not_eq_true'] at h
      obtain ⟨⟨⟨⟨⟨h1, h2⟩, h3⟩, h4⟩, h5⟩, h6⟩ := h
      exact s_cmp2 h1 h2 h3 (matE_ok a h4) (matE_ok b h5) (matE_ok c h6)
    · cases h
  | M, .bop an es, x, h => by
    unfold matE at h
    split at h
    · simp only [Bool.and_eq_true] at h
      exact s_bop (matB_ok es h.1 h.2)
    · cases h
  | M, .not a, x, h => by
    unfold matE at h
    split at h
    · exact s_not (matE_ok a h)
    · cases h
  | M, .ite c a b, x, h => by
    unfold matE at h
    split at h
    · simp only [Bool.and_eq_true] at h
      exact s_ite (matT_ok c h.1.1) (matE_ok a h.1.2) (matE_ok b h.2)
    · cases h
  | M, .tup es, x, h => by
    unfold matE at h
    split at h
    · exact s_tup (matA_ok es h)
    · cases h
  | M, .fz f, x, h => by
    unfold matE at h
    exact s_fz (matF_ok f h)
  | M, .mk f, x, h => by
    unfold matE at h
    exact s_mk (matF_ok f h)
  | M, .sub a i, x, h => by
    unfold matE at h
    split at h
    · simp only [Bool.and_eq_true] at h
      exact s_sub h.1.1 (matE_ok a h.1.2) (matE_ok i h.2)
    · cases h
  | M, .sli a lo hi, x, h => by
    unfold matE at h
    split at h
    · simp only [Bool.and_eq_true] at h
      exact s_sli (matE_ok a h.1.1) (matO_ok lo h.1.2) (matO_ok hi h.2)
    · cases h
  | M, .call f p es kes, x, h => by
    unfold matE at h
    split at h
    · rename_i x _ xs kws _
      rw [Bool.and_eq_true, Bool.and_eq_true, Bool.and_eq_true, Bool.and_eq_true] at h
      obtain ⟨⟨⟨⟨h1, h2⟩, h3⟩, h4⟩, h5⟩ := h
      refine s_call h1 (fun e => ?_) (fun e => ?_) (matA_ok es h4) (matK_ok kes h5)
      · subst e
        simpa using isNil_ok (by simpa using h2)
      · subst e
        simpa using isNil_ok (by simpa using h3)
    · cases h
  | M, .bi b es, x, h => by
    unfold matE at h
    split at h
    · rw [Bool.and_eq_true] at h
      exact s_bi (dd h.1) (matA_ok es h.2)
    · cases h
  | M, .isi a ty, x, h => by
    unfold matE at h
    split at h
    · rw [Bool.and_eq_true] at h
      exact s_isi (dd h.1) (matE_ok a h.2)
    · cases h
  | M, .sm m o a, x, h => by
    unfold matE at h
    split at h
    · rw [Bool.and_eq_true, Bool.and_eq_true, Bool.and_eq_true] at h
      obtain ⟨⟨⟨h1, h2⟩, h3⟩, h4⟩ := h
      cases m with
      | join =>
        have e := of_decide_eq_true h2
        subst e
        exact s_join (dd h1) (matE_ok o h3) (matE_ok a h4)
      | index =>
        have e := of_decide_eq_true h2
        subst e
        exact s_index (dd h1) (matE_ok o h3) (matE_ok a h4)
    · cases h
  | M, .fs ps, x, h => by
    unfold matE at h
    split at h
    · simp only [Bool.and_eq_true, Bool.not_eq_true'] at h
      exact s_fs (by rintro rfl; cases h.1) (matP_ok ps h.2)
    · cases h
  | M, .app o a, x, h => by
    unfold matE at h
    split at h
    · rw [Bool.and_eq_true, Bool.and_eq_true, Bool.and_eq_true] at h
      obtain ⟨⟨⟨h1, h2⟩, h3⟩, h4⟩ := h
      have e := of_decide_eq_true h2
      subst e
      exact s_app (dd h1) (matE_ok o h3) (matE_ok a h4)
    · cases h
  | M, .popl o, x, h => by
    unfold matE at h
    split at h
    · rw [Bool.and_eq_true, Bool.and_eq_true] at h
      obtain ⟨⟨h1, h2⟩, h3⟩ := h
      have e := of_decide_eq_true h2
      subst e
      exact s_popl (dd h1) (matE_ok o h3)
    · cases h
  | M, .popa o a, x, h => by
    unfold matE at h
    split at h
    · rw [Bool.and_eq_true, Bool.and_eq_true, Bool.and_eq_true] at h
      obtain ⟨⟨⟨h1, h2⟩, h3⟩, h4⟩ := h
      have e := of_decide_eq_true h2
      subst e
      exact s_popa (dd h1) (matE_ok o h3) (matE_ok a h4)
    · cases h
theorem matO_ok : ∀ {M : Mc} (e : Exo) {x : Option Expr}, matO t M e x = true → SO t n M e x
  | M, .no, x, h => by
    unfold matO at h
    split at h
    · exact so_no
    · cases h
  | M, .so e, x, h => by
    unfold matO at h
    split at h
    · exact so_so (matE_ok e h)
    · cases h
theorem matA_ok : ∀ {M : Mc} (e : Exs) {x : List Expr}, matA t M e x = true → SEs t n M e x
  | M, .nil, x, h => by
    unfold matA at h
    split at h
    · exact ss_nil
    · cases h
  | M, .cons e r, x, h => by
    unfold matA at h
    split at h
    · simp only [Bool.and_eq_true] at h
      exact ss_cons h.1.1 (matE_ok e h.1.2) (matA_ok r h.2)
    · cases h
  | M, .star e r, x, h => by
    unfold matA at h
    split at h
    · simp only [Bool.and_eq_true] at h
      exact ss_star (matE_ok e h.1) (matA_ok r h.2)
    · cases h
theorem matB_ok : ∀ {M : Mc} (e : Exs) {an : Bool} {op : BoolOp} {x : List Expr} {pos : Pos}, bopB an op = true → matB t M e x = true → SB t n M an e (.BoolOp op x pos)
  | M, .nil, an, op, x, pos, ho, h => by unfold matB at h; cases h
  | M, .star _ _, an, op, x, pos, ho, h => by unfold matB at h; cases h
  | M, .cons e r, an, op, x, pos, ho, h => by
    unfold matB at h
    split at h
    · rename_i x xs
      rw [Bool.and_eq_true] at h
      split at h
      · rename_i hr
        have h2 := h.2
        cases xs with
        | nil =>
          rw [isNil_ok hr]
          exact sb_one (matE_ok e h.1)
        | cons _ _ => cases h2
      · have ih := matB_ok r (an := an) (op := op) (pos := pos) ho h.2
        cases r with
        | nil => rename_i hr; exact absurd rfl hr
        | star _ _ => have h2 := h.2; unfold matB at h2; cases h2
        | cons b r =>
          cases xs with
          | nil => have h2 := h.2; unfold matB at h2; cases h2
          | cons xb xs => exact sb_cons ho (matE_ok e h.1) ih
    · cases h
theorem matK_ok : ∀ {M : Mc} (e : Exs) {x : List Keyword}, matK t M e x = true → SKs t n M e x
  | M, .nil, x, h => by
    unfold matK at h
    split at h
    · exact sks_nil
    · cases h
  | M, .star _ _, x, h => by unfold matK at h; cases h
  | M, .cons e r, x, h => by
    unfold matK at h
    split at h
    · rename_i x xs
      obtain ⟨nm, xv, kp⟩ := x
      simp only [Bool.and_eq_true] at h
      exact sks_cons (matE_ok e h.1) (matK_ok r h.2)
    · cases h
theorem matP_ok : ∀ {M : Mc} (e : Exs) {x : List Expr}, matP t M e x = true → SPs t n M e x
  | M, .nil, x, h => by
    unfold matP at h
    split at h
    · exact .nil
    · cases h
  | M, .star _ _, x, h => by unfold matP at h; cases h
  | M, .cons e r, x, h => by
    unfold matP at h
    split at h
    · rw [Bool.and_eq_true, Bool.and_eq_true] at h
      obtain ⟨⟨h1, h2⟩, h3⟩ := h
      split at h1
      · have e := of_decide_eq_true h1
        subst e
        exact .lit (of_decide_eq_true h2) (matP_ok r h3)
      · cases h1
    · rw [Bool.and_eq_true, Bool.and_eq_true] at h
      obtain ⟨⟨h1, h2⟩, h3⟩ := h
      have e := of_decide_eq_true h1
      subst e
      exact .fmt (matE_ok _ h2) (matP_ok r h3)
    · cases h
theorem matT_ok : ∀ {M : Mc} (e : Te) {x : Expr}, matT t M e x = true → ST t n M e x
  | M, .e a, x, h => by
    unfold matT at h
    rw [Bool.and_eq_true] at h
    exact st_e h.1 (matE_ok a h.2)
  | M, .not a, x, h => by
    unfold matT at h
    split at h
    · exact st_not (matT_ok a h)
    · cases h
  | M, .bop an ts, x, h => by
    unfold matT at h
    split at h
    · simp only [Bool.and_eq_true] at h
      exact st_bop (matW_ok ts h.1 h.2)
    · cases h
  | M, .cmp f a b, x, h => by
    unfold matT at h
    split at h
    · simp only [Bool.and_eq_true, Bool.not_eq_true'] at h
      exact st_cmp h.1.1.1 h.1.1.2 (matE_ok a h.1.2) (matE_ok b h.2)
    · cases h
  | M, .cmp2 f g a b c, x, h => by
    unfold matT at h
    split at h
    · simp only [Bool.and_eq_true, Bool.not_eq_true'] at h
      obtain ⟨⟨⟨⟨⟨h1, h2⟩, h3⟩, h4⟩, h5⟩, h6⟩ := h
      exact st_cmp2 h1 h2 h3 (matE_ok a h4) (matE_ok b h5) (matE_ok c h6)
    · cases h
theorem matW_ok : ∀ {M : Mc} (e : Tes) {an : Bool} {op : BoolOp} {x : List Expr} {pos : Pos}, bopB an op = true → matW t M e x = true → SW t n M an e (.BoolOp op x pos)
  | M, .nil, an, op, x, pos, ho, h => by unfold matW at h; cases h
  | M, .cons e .nil, an, op, x, pos, ho, h => by
    unfold matW at h
    split at h
    · rename_i x xs
      rw [Bool.and_eq_true] at h
      have h2 := h.2
      cases xs with
      | nil => exact sw_one ho (matT_ok e h.1)
      | cons _ _ => cases h2
    · cases h
  | M, .cons e (.cons b r), an, op, x, pos, ho, h => by
    unfold matW at h
    split at h
    · rename_i x xs
      rw [Bool.and_eq_true] at h
      have h2 := h.2
      cases xs with
      | nil => unfold matW at h2; cases h2
      | cons xb xs => exact sw_cons ho (matT_ok e h.1) (matW_ok (.cons b r) ho h2)
    · cases h
theorem matTs_ok : ∀ {M : Mc} (e : Tes) {x : List Expr}, matTs t M e x = true → STs t n M e x
  | M, .nil, x, h => by
    unfold matTs at h
    split at h
    · exact sts_nil
    · cases h
  | M, .cons e r, x, h => by
    unfold matTs at h
    split at h
    · rw [Bool.and_eq_true] at h
      have h2 := h.2
      cases r with
      | nil => exact sts_one (matT_ok e h.1)
      | cons _ _ => cases h2
    · cases h
theorem matF_ok : ∀ {M : Mc} (e : Fx) {x : Expr}, matF t M e x = true → SF t n M e x
  | M, .disp es, x, h => by
    unfold matF at h
    split at h
    · exact sf_disp (matA_ok es h)
    · cases h
  | M, .cat a b, x, h => by
    unfold matF at h
    split at h
    · rw [Bool.and_eq_true] at h
      exact sf_cat (matE_ok a h.1) (matE_ok b h.2)
    · cases h
  | M, .rep a b, x, h => by
    unfold matF at h
    split at h
    · rw [Bool.and_eq_true] at h
      exact sf_rep (matE_ok a h.1) (matE_ok b h.2)
    · cases h
  | M, .cpy a, x, h => by
    unfold matF at h
    split at h
    · rw [Bool.and_eq_true] at h
      exact sf_cpy (dd h.1) (matE_ok a h.2)
    · cases h
  | M, .sli a lo hi, x, h => by
    unfold matF at h
    split at h
    · simp only [Bool.and_eq_true] at h
      exact sf_sli (matE_ok a h.1.1) (matO_ok lo h.1.2) (matO_ok hi h.2)
    · cases h
  | M, .rev a, x, h => by
    unfold matF at h
    split at h
    · rw [Bool.and_eq_true] at h
      have e := of_decide_eq_true h.1
      subst e
      exact sf_rev (matE_ok a h.2)
    · cases h
  | M, .lc tg i ifs e vs, x, h => by
    unfold matF at h
    split at h
    · rw [Bool.and_eq_true, Bool.and_eq_true, Bool.and_eq_true, Bool.and_eq_true, Bool.and_eq_true] at h
      obtain ⟨⟨⟨⟨⟨h0, h1⟩, h2⟩, h3⟩, h4⟩, h5⟩ := h
      have e0 := of_decide_eq_true h0
      subst e0
      exact sf_lc (own := ownOf M vs) (dd h1) (matI_ok i h3) (matG_ok h2) (matTs_ok ifs h4) (matE_ok e h5)
    · cases h
  | M, .lc2 tg i ifs tg1 i1 ifs1 e vs vs1, x, h => by
    unfold matF at h
    split at h
    · rw [Bool.and_eq_true, Bool.and_eq_true, Bool.and_eq_true, Bool.and_eq_true, Bool.and_eq_true, Bool.and_eq_true, Bool.and_eq_true, Bool.and_eq_true, Bool.and_eq_true] at h
      obtain ⟨⟨⟨⟨⟨⟨⟨⟨⟨h0, h0'⟩, h1⟩, h2⟩, h3⟩, h4⟩, h5⟩, h6⟩, h7⟩, h8⟩ := h
      have e0 := of_decide_eq_true h0
      have e1 := of_decide_eq_true h0'
      subst e0 e1
      exact sf_lc2 (own := ownOf M vs) (dd h1) (matI_ok i h4) (matG_ok h2) (matTs_ok ifs h5) (matI_ok i1 h6) (matG_ok h3) (matTs_ok ifs1 h7) (matE_ok e h8)
    · cases h
theorem matI_ok : ∀ {M : Mc} (e : It) {xt x : Expr}, matI t M e xt x = true → SI t n M e xt x
  | M, .sq e, xt, x, h => by
    unfold matI at h
    exact si_sq (matE_ok e h)
  | M, .rg1 a, xt, x, h => by
    unfold matI at h
    split at h
    · rw [Bool.and_eq_true, Bool.and_eq_true] at h
      have e := of_decide_eq_true h.1.1
      subst e
      exact si_rg1 (dd h.1.2) (matE_ok a h.2)
    · cases h
  | M, .rg2 a b, xt, x, h => by
    unfold matI at h
    split at h
    · rw [Bool.and_eq_true, Bool.and_eq_true, Bool.and_eq_true] at h
      have e := of_decide_eq_true h.1.1.1
      subst e
      exact si_rg2 (dd h.1.1.2) (matE_ok a h.1.2) (matE_ok b h.2)
    · cases h
  | M, .en a, xt, x, h => by
    unfold matI at h
    split at h
    · rw [Bool.and_eq_true, Bool.and_eq_true, Bool.and_eq_true] at h
      have e := of_decide_eq_true h.1.1.2
      subst e
      cases xt with
      | Tuple => exact si_en (dd h.1.2) (matE_ok a h.2)
      | _ => exact absurd h.1.1.1 (by simp [isTup])
    · cases h
  | M, .zp a b, xt, x, h => by
    unfold matI at h
    split at h
    · rw [Bool.and_eq_true, Bool.and_eq_true, Bool.and_eq_true, Bool.and_eq_true] at h
      have e := of_decide_eq_true h.1.1.1.2
      subst e
      cases xt with
      | Tuple => exact si_zp (dd h.1.1.2) (matE_ok a h.1.2) (matE_ok b h.2)
      | _ => exact absurd h.1.1.1.1 (by simp [isTup])
    · cases h
end
end
end Pc

set_option Elab.async false
set_option linter.all false
set_option maxRecDepth 100000
set_option maxHeartbeats 4000000
namespace Pc
open PySem L2
def matR (t : Tb) (M : Mc) : List (Nat × Rh) → List Expr → Bool
  | [], [] => true
  | (_, .ex e) :: l, x :: xs => plainArg x && matE t M e x && matR t M l xs
  | (_, .ow f) :: l, x :: xs => plainArg x && matF t M f x && matR t M l xs
  | _, _ => false
def matPar (t : Tb) (M : Mc) (l : List (Nat × Rh)) (ts vs : List Expr) : Bool :=
  match l, ts, vs with
  | [(i, _), (j, _)], [.Name x px, .Name y py], [a, b] => (locN M i x && locN M j y && decide (i ≠ j) && decide (parC M.sc [.Name x px, .Name y py] [a, b] = some (some [x, y]))) && matR t M l vs
  | [(i, _), (j, _), (k, _)], [.Name x px, .Name y py, .Name z pz], [a, b, c] => (locN M i x && locN M j y && locN M k z && decide (i ≠ j) && decide (i ≠ k) && decide (j ≠ k) && decide (parC M.sc [.Name x px, .Name y py, .Name z pz] [a, b, c] = some (some [x, y, z]))) && matR t M l vs
  | _, _, _ => false
def matOwn (t : Tb) (M : Mc) (j : Nat) (f : Fx) (x : Str) (p : Pos) (xe : Expr) : Bool :=
  if swD M.sc xe x p then match f with
    | .lc tg i ifs e vs => match xe with
      | .ListComp xe [⟨xt, xi, xifs, k⟩] scope pos => decide (k = 0) && (decide (vs = (ownOf M vs).map (·.2)) && blkC M.N M.sc scope (ownOf M vs) && subB tg.ix vs && foldB xi && decide (M.N[j]? = some x) && decide (M.sc.names.lookup x = some .local) && swD M.sc (.ListComp xe [⟨xt, xi, xifs, 0⟩] scope pos) x p) &&
          matG (blkM M scope) tg xt && matI t M i xt xi && matTs t (blkM M scope) ifs xifs && matE t (blkM M scope) e xe
      | _ => false
    | .lc2 tg i ifs tg1 i1 ifs1 e vs vs1 => match xe with
      | .ListComp xe [⟨xt, xi, xifs, k⟩, ⟨xt1, xi1, xifs1, k1⟩] scope pos => decide (k = 0) && decide (k1 = 0) && (decide (vs = (ownOf M vs).map (·.2)) && blkC M.N M.sc scope (ownOf M vs) && subB tg.ix vs && foldB xi && subB tg1.ix vs1 && subB vs1 vs && foldB xi1 && decide (M.N[j]? = some x) && decide (M.sc.names.lookup x = some .local) &&
          swD M.sc (.ListComp xe [⟨xt, xi, xifs, 0⟩, ⟨xt1, xi1, xifs1, 0⟩] scope pos) x p) && matG (blkM M scope) tg xt && matG (blkM M scope) tg1 xt1 && matI t M i xt xi && matTs t (blkM M scope) ifs xifs && matI t (blkM M scope) i1 xt1 xi1 && matTs t (blkM M scope) ifs1 xifs1 && matE t (blkM M scope) e xe
      | _ => false
    | _ => false
  else tgB M j x && matF t M f xe
mutual
def matS (t : Tb) (M : Mc) : Sx → Stmt → Bool
  | .set i e, x => match x with
    | .Assign [.Name x p] xe _ => (tgB M i x && !(swD M.sc xe x p)) && matE t M e xe
    | _ => false
  | .own i f, x => match x with
    | .Assign [.Name x p] xe _ => matOwn t M i f x p xe
    | _ => false
  | .par l, x => match x with
    | .Assign [.Tuple ts _ _] (.Tuple vs _ _) _ => matPar t M l ts vs
    | _ => false
  | .unp tg e, x => match tg with
    | .tp l => match x with
      | .Assign [.Tuple ts _ _] xe _ => (match xe with
        | .Tuple vs k p => (tpB M l ts && decide (parC M.sc ts vs = some none)) && matE t M e (.Tuple vs k p)
        | xe => (tpB M l ts && noComp xe && noTup xe) && matE t M e xe)
      | _ => false
    | _ => false
  | .sset c i e, x => match x with
    | .Assign [.Subscript xc xi _] xe _ => (plainIxB xi && noComp xe) && matE t M c xc && matE t M i xi && matE t M e xe
    | _ => false
  | .aug i f e, x => match x with
    | .AugAssign (.Name x _) op xe _ => (augB f op && tgB M i x) && matE t M e xe
    | _ => false
  | .ex e, x => match x with
    | .Expr xe _ => noComp xe && matE t M e xe
    | _ => false
  | .ret e, x => match x with
    | .Return (some xe) _ => matE t M e xe
    | _ => false
  | .retn, x => match x with
    | .Return none _ => true
    | _ => false
  | .ife c a b, x => match x with
    | .If xc xa xb _ => matT t M c xc && matSs t M a xa && matSs t M b xb
    | _ => false
  | .for_ tg i b, x => match x with
    | .For xt xi xb [] _ => foldB xi && matG M tg xt && matI t M i xt xi && matSs t M b xb
    | _ => false
  | .whl _ c b, x => match x with
    | .While xc xb [] _ => matT t M c xc && matSs t M b xb
    | _ => false
  | .brk, x => match x with
    | .Break _ => true
    | _ => false
  | .cnt, x => match x with
    | .Continue _ => true
    | _ => false
  | .pas, x => match x with
    | .Pass _ => true
    | _ => false
def matSs (t : Tb) (M : Mc) : Sxs → List Stmt → Bool
  | .nil, xs => match xs with
    | [] => true
    | _ => false
  | .cons a r, xs => match xs with
    | x :: xs => matS t M a x && matSs t M r xs
    | _ => false
end
section
variable {t : Tb} {n : Nat}
theorem matR_ok {M : Mc} : ∀ {l : List (Nat × Rh)} {xs : List Expr}, matR t M l xs = true → SRs t n M l xs
  | [], [], _ => srs_nil
  | (_, .ex e) :: l, x :: xs, h => by
    simp only [matR, Bool.and_eq_true] at h
    exact srs_ex h.1.1 (matE_ok e h.1.2) (matR_ok h.2)
  | (_, .ow f) :: l, x :: xs, h => by
    simp only [matR, Bool.and_eq_true] at h
    exact srs_ow h.1.1 (matF_ok f h.1.2) (matR_ok h.2)
  | [], _ :: _, h => by cases h
  | (_, .ex _) :: _, [], h => by cases h
  | (_, .ow _) :: _, [], h => by cases h
theorem matPar_ok {M : Mc} {l : List (Nat × Rh)} {ts vs : List Expr} {k1 k2 : Nat} {p1 p2 p : Pos} (h : matPar t M l ts vs = true) : SS t n M (.par l) (.Assign [.Tuple ts k1 p1] (.Tuple vs k2 p2) p) := by
  unfold matPar at h
  split at h
  · rw [Bool.and_eq_true] at h
    exact ss_par2 h.1 (matR_ok h.2)
  · rw [Bool.and_eq_true] at h
    exact ss_par3 h.1 (matR_ok h.2)
  · cases h
theorem matOwn_ok {M : Mc} {j : Nat} {f : Fx} {x : Str} {p spos : Pos} {xe : Expr} (h : matOwn t M j f x p xe = true) : SS t n M (.own j f) (.Assign [.Name x p] xe spos) := by
  unfold matOwn at h
  by_cases hs : swD M.sc xe x p = true
  · rw [if_pos hs] at h
    split at h
    · split at h
      · rw [Bool.and_eq_true, Bool.and_eq_true, Bool.and_eq_true, Bool.and_eq_true, Bool.and_eq_true] at h
        obtain ⟨⟨⟨⟨⟨h0, h1⟩, h2⟩, h3⟩, h4⟩, h5⟩ := h
        have e0 := of_decide_eq_true h0
        subst e0
        exact ss_ownLc (own := ownOf M _) (dd h1) (matI_ok _ h3) (matG_ok h2) (matTs_ok _ h4) (matE_ok _ h5)
      · cases h
    · split at h
      · rw [Bool.and_eq_true, Bool.and_eq_true, Bool.and_eq_true, Bool.and_eq_true, Bool.and_eq_true, Bool.and_eq_true, Bool.and_eq_true, Bool.and_eq_true, Bool.and_eq_true] at h
        obtain ⟨⟨⟨⟨⟨⟨⟨⟨⟨h0, h0'⟩, h1⟩, h2⟩, h3⟩, h4⟩, h5⟩, h6⟩, h7⟩, h8⟩ := h
        have e0 := of_decide_eq_true h0
        have e1 := of_decide_eq_true h0'
        subst e0 e1
        exact ss_ownLc2 (own := ownOf M _) (dd h1) (matI_ok _ h4) (matG_ok h2) (matTs_ok _ h5) (matI_ok _ h6) (matG_ok h3) (matTs_ok _ h7) (matE_ok _ h8)
      · cases h
    · cases h
  · rw [if_neg hs, Bool.and_eq_true] at h
    refine ss_own ?_ (matF_ok f h.2)
    rw [h.1]
    cases e : swD M.sc xe x p with
    | true => exact absurd e hs
    | false => rfl
mutual
theorem matS_ok : ∀ {M : Mc} (a : Sx) {x : Stmt}, matS t M a x = true → SS t n M a x
  | M, .set i e, x, h => by
    unfold matS at h
    split at h
    · rw [Bool.and_eq_true] at h
      exact ss_set h.1 (matE_ok e h.2)
    · cases h
  | M, .own i f, x, h => by
    unfold matS at h
    split at h
    · exact matOwn_ok h
    · cases h
  | M, .par l, x, h => by
    unfold matS at h
    split at h
    · exact matPar_ok h
    · cases h
  | M, .unp tg e, x, h => by
    unfold matS at h
    split at h
    · split at h
      · split at h
        · rw [Bool.and_eq_true] at h
          exact ss_unpT h.1 (matE_ok e h.2)
        · rw [Bool.and_eq_true] at h
          exact ss_unpE h.1 (matE_ok e h.2)
      · cases h
    · cases h
  | M, .sset c i e, x, h => by
    unfold matS at h
    split at h
    · rw [Bool.and_eq_true, Bool.and_eq_true, Bool.and_eq_true] at h
      exact ss_sset h.1.1.1 (matE_ok c h.1.1.2) (matE_ok i h.1.2) (matE_ok e h.2)
    · cases h
  | M, .aug i f e, x, h => by
    unfold matS at h
    split at h
    · rw [Bool.and_eq_true] at h
      exact ss_aug (dd h.1) (matE_ok e h.2)
    · cases h
  | M, .ex e, x, h => by
    unfold matS at h
    split at h
    · rw [Bool.and_eq_true] at h
      exact ss_ex h.1 (matE_ok e h.2)
    · cases h
  | M, .ret e, x, h => by
    unfold matS at h
    split at h
    · exact ss_ret (matE_ok e h)
    · cases h
  | M, .retn, x, h => by
    unfold matS at h
    split at h
    · exact ss_retn
    · cases h
  | M, .ife c a b, x, h => by
    unfold matS at h
    split at h
    · rw [Bool.and_eq_true, Bool.and_eq_true] at h
      exact ss_if (matT_ok c h.1.1) (matSs_ok a h.1.2) (matSs_ok b h.2)
    · cases h
  | M, .for_ tg i b, x, h => by
    unfold matS at h
    split at h
    · rw [Bool.and_eq_true, Bool.and_eq_true, Bool.and_eq_true] at h
      exact ss_for h.1.1.1 (matI_ok i h.1.2) (matG_ok h.1.1.2) (matSs_ok b h.2)
    · cases h
  | M, .whl m c b, x, h => by
    unfold matS at h
    split at h
    · rw [Bool.and_eq_true] at h
      exact ss_whl (matT_ok c h.1) (matSs_ok b h.2)
    · cases h
  | M, .brk, x, h => by
    unfold matS at h
    split at h
    · exact ss_brk
    · cases h
  | M, .cnt, x, h => by
    unfold matS at h
    split at h
    · exact ss_cnt
    · cases h
  | M, .pas, x, h => by
    unfold matS at h
    split at h
    · exact ss_pas
    · cases h
theorem matSs_ok : ∀ {M : Mc} (a : Sxs) {x : List Stmt}, matSs t M a x = true → SSs t n M a x
  | M, .nil, x, h => by
    unfold matSs at h
    split at h
    · exact sss_nil
    · cases h
  | M, .cons a r, x, h => by
    unfold matSs at h
    split at h
    · rw [Bool.and_eq_true] at h
      exact sss_cons (matS_ok a h.1) (matSs_ok r h.2)
    · cases h
end
end
end Pc

set_option Elab.async false
set_option linter.all false
set_option maxRecDepth 100000
set_option maxHeartbeats 4000000
namespace Pc
open PySem L2
def noLst (K : PySem.W.Frag) : Bool := K.all fun p => match p.2.cls with
  | .type n => n != "list"
  | _ => true
theorem noLst_ok : ∀ {K : PySem.W.Frag}, noLst K = true → ∀ {a : Addr} {o : Obj}, K.lookup a = some o → o.cls ≠ .type "list"
  | [], _, a, o, e => by cases e
  | (b, u) :: r, h, a, o, e => by
    have h' : (match u.cls with | .type n => n != "list" | _ => true) = true ∧ noLst r = true := by
      have : ((match u.cls with | .type n => n != "list" | _ => true) && noLst r) = true := h
      simpa using this
    cases q : (a == b) with
    | true =>
      have e' : some u = some o := by
        have : (match (a == b) with | true => some u | false => List.lookup a r) = some o := e
        rw [q] at this
        exact this
      cases e'
      intro z
      rw [z] at h'
      exact absurd h'.1 (by decide)
    | false =>
      have e' : List.lookup a r = some o := by
        have : (match (a == b) with | true => some u | false => List.lookup a r) = some o := e
        rw [q] at this
        exact this
      exact noLst_ok h'.2 e'
mutual
/-- a constant's data -/
def dV (K : PySem.W.Frag) : D → Value → Bool
  | .non, u => match u with
    | .none => true
    | _ => false
  | .bl b, u => match u with
    | .bool c => b == c
    | _ => false
  | .int i, u => match u with
    | .int j _ => decide (i = j)
    | _ => false
  | .str x, u => match u with
    | .str y _ => decide (x = y)
    | _ => false
  | .tup l, u => match u with
    | .ref a => match K.lookup a with
      | some ⟨.type c, _, .seq its _, _⟩ => decide (c = "tuple") && decide (its.size ≤ sizeLine) && dVs K l its.toList
      | _ => false
    | _ => false
  | .lst _, _ => false
  | .obj _ _ _, _ => false
def dVs (K : PySem.W.Frag) : List D → List Value → Bool
  | [], us => us.isEmpty
  | d :: l, us => match us with
    | u :: us => dV K d u && dVs K l us
    | [] => false
end
mutual
theorem dV_ok {K : PySem.W.Frag} {cl : Nat → Option Addr} {T : Hp} : ∀ {d : D} {u : Value}, dV K d u = true → ∃ v, RelV v u ∧ Rep ⟨K, cl⟩ T d v
  | .non, u, h => by
    unfold dV at h
    split at h
    · exact ⟨.non, rfl, rfl⟩
    · cases h
  | .bl b, u, h => by
    unfold dV at h
    split at h
    · rw [beq_iff_eq.mp h]
      exact ⟨.bl _, rfl, rfl⟩
    · cases h
  | .int i, u, h => by
    unfold dV at h
    split at h
    · rw [of_decide_eq_true h]
      exact ⟨.int _, ⟨_, rfl⟩, rfl⟩
    · cases h
  | .str i, u, h => by
    unfold dV at h
    split at h
    · rw [of_decide_eq_true h]
      exact ⟨.str _, ⟨_, rfl⟩, rfl⟩
    · cases h
  | .tup l, u, h => by
    unfold dV at h
    split at h
    · rename_i a
      split at h
      · rename_i c dd its nn sl hk
        rw [Bool.and_eq_true, Bool.and_eq_true] at h
        obtain ⟨⟨h1, h2⟩, h3⟩ := h
        obtain ⟨vs, q1, q2⟩ := dVs_ok h3
        exact ⟨.ref a, rfl, a, vs, rfl, .inr ⟨_, its, nn, hk, congrArg Value.type (of_decide_eq_true h1), rfl, of_decide_eq_true h2, q1⟩, q2⟩
      · cases h
    · cases h
  | .lst _, u, h => by unfold dV at h; cases h
  | .obj _ _ _, u, h => by unfold dV at h; cases h
theorem dVs_ok {K : PySem.W.Frag} {cl : Nat → Option Addr} {T : Hp} : ∀ {l : List D} {us : List Value}, dVs K l us = true → ∃ vs, Vals vs us ∧ Reps ⟨K, cl⟩ T l vs
  | [], us, h => by
    unfold dVs at h
    cases us with
    | nil => exact ⟨[], .nil, rfl⟩
    | cons _ _ => cases h
  | d :: l, us, h => by
    unfold dVs at h
    split at h
    · rw [Bool.and_eq_true] at h
      obtain ⟨v, q1, q2⟩ := dV_ok h.1
      obtain ⟨vs, q3, q4⟩ := dVs_ok h.2
      exact ⟨v :: vs, .cons q1 q3, v, vs, rfl, q2, q4⟩
    · cases h
end
def conB (K : PySem.W.Frag) (q : Str × D) : Bool := match PySem.W.nsIn K mainGlobals q.1 with
  | some (some u) => dV K q.2 u
  | _ => false
abbrev AlP : Type := He.AlD × Bool
def obsP (n : Nat) (fa : List He.Fa) (fn : List He.DefD) (con : List (Str × D)) (g : Addr → Option Obj) : AlP := (He.obsD fa fn (He.frG g (He.asD g n)), noLst (He.frG g (He.asD g n)) && con.all (conB (He.frG g (He.asD g n))))
structure SaysP (fa : List He.Fa) (fn : List He.DefD) (con : List (Str × D)) (K : PySem.W.Frag) : Prop where
  d : He.SaysD fa fn K
  l : noLst K = true
  c : con.all (conB K) = true
def hookP (n : Nat) (fa : List He.Fa) (fn : List He.DefD) (con : List (Str × D)) : PySem.W.Hook where
  α := AlP
  obs := fun s => obsP n fa fn con s.heap.get?
  val := fun _ => (He.valD fn, true)
  says := fun _ h => ∃ K : PySem.W.Frag, K.In h ∧ SaysP fa fn con K
  of := fun _ _ e => ⟨_, He.frG_in, by
    have h1 := congrArg Prod.fst e
    have h2 := congrArg Prod.snd e
    have h3 := Bool.and_eq_true_iff.mp (show (noLst _ && con.all (conB _)) = true from h2)
    exact ⟨h1, h3.1, h3.2⟩⟩
  keeps := fun _ _ _ ⟨K, hK, c⟩ k => ⟨K, PySem.W.Frag.In.keeps hK k, c⟩
theorem obsP_eq {n : Nat} {fa : List He.Fa} {fn : List He.DefD} {con : List (Str × D)} {g : Addr → Option Obj} {s : Shared} (h : ∀ a, g a = s.heap.get? a) : obsP n fa fn con g = (hookP n fa fn con).obs s := by
  rw [show g = s.heap.get? from funext h]
  rfl
/-- the end that is wished -/
def EndsW (s₁ : Shared) (r : Result) (s' : Shared) : Prop := r = .ok (.ret (.bool true)) ∧ OldK s₁.heap s'.heap ∧ s'.os = s₁.os ∧ PyProof.Rows.AllBare s'.gens
def frzO (vs : List Value) : Obj := { cls := .type "list", data := .seq vs.toArray }
def Hs (a : Addr) (vs : List Value) (ns : List Int) : Hp := fun b => if b = a then some (.frz (frzO vs) (.lst (ns.map V.int))) else none
theorem Hs_at {a : Addr} {vs : List Value} {ns : List Int} : Hs a vs ns a = some (.frz (frzO vs) (.lst (ns.map V.int))) := if_pos rfl
theorem Hs_no {a b : Addr} {vs : List Value} {ns : List Int} (h : b ≠ a) : Hs a vs ns b = none := if_neg h
theorem Hs_of {a b : Addr} {u : HO} {vs : List Value} {ns : List Int} (h : Hs a vs ns b = some u) : b = a ∧ u = .frz (frzO vs) (.lst (ns.map V.int)) := by
  by_cases e : b = a
  · subst e
    rw [Hs_at] at h
    exact ⟨rfl, (Option.some.inj h).symm⟩
  · rw [Hs_no e] at h
    cases h
theorem enterG {P : Program} {w : World} {K : PySem.W.Frag} {mg mb : Str → Option Value} {k : Nat} {fa a : Addr} {x : Str} {sp : Sp} {s₁ : Shared} {vs : List Value} {ns : List Int}
    (KX : K.In s₁.heap) (hK : K.lookup a = none) (g1 : s₁.heap.Ns mainGlobals mg) (g2 : s₁.heap.Ns builtinsNs mb) (g3 : ∀ y : Str, y ≠ "__name__" → mb y = bootBuiltins y) (g4 : s₁.heap.NoLimit) (g5 : s₁.gens = #[])
    (ha : s₁.heap.get? a = some (frzO vs)) (hi : PyProof.Rows.IntsAre vs ns) (hl : ns.length ≤ sizeLine) (hr : Rm k callerA) (F : ∀ base : Heap, K.In base → base.Ns mainGlobals mg → ∃ fd : FuncData, BindsTo s₁ fd ⟨[.ref a], []⟩ [(x, .ref a)] ∧ FnG P w K mg base k fa fd [x] sp)
    (hsp : sp [.ref a] (Hs a vs ns) (fun v _ => v = .bl true) fun _ _ _ => False) : codeAny (model P w) callerA (.call (.ref fa) ⟨[.ref a], []⟩) (EndsW s₁) s₁ := by
  have rel := vals_ints hi
  have keepB : ∀ {b : Addr} {o : Obj}, s₁.heap.get? b = some o → b ≠ a → (hidT s₁.heap (Hs a vs ns)).get? b = some o := fun q hb => hidT_get q (Hs_no hb)
  have notA : ∀ {b : Addr} {o : Obj} {es : Array DictEntry} {ep : Nat}, s₁.heap.get? b = some o → o.data = .dict es ep → b ≠ a := fun {b o es ep} q hd hb => by
    subst hb
    rw [ha] at q
    cases q
    have z : Data.seq vs.toArray _ = Data.dict es ep := hd
    cases z
  have nsB : ∀ {b : Addr} {m : Str → Option Value}, s₁.heap.Ns b m → (hidT s₁.heap (Hs a vs ns)).Ns b m := fun {b m} ⟨o, es, ep, q, hd, hm⟩ => ⟨o, es, ep, keepB q (notA q hd), hd, hm⟩
  have kinB : K.In (hidT s₁.heap (Hs a vs ns)) := fun b o q => keepB (KX b o q) fun hb => by
    subst hb
    rw [hK] at q
    cases q
  obtain ⟨mc, l1, l2⟩ := g4
  have md : Mod K mg (hidT s₁.heap (Hs a vs ns)) := ⟨kinB, nsB g1, ⟨mb, nsB g2, g3⟩, ⟨mc, nsB l1, l2⟩⟩
  have hok : HOk P w (Hs a vs ns) s₁.heap := fun b u q => by
    obtain ⟨rfl, rfl⟩ := Hs_of q
    exact ⟨ha, by rw [List.length_map]; exact hl, vs, _, rel, ha⟩
  have en : Env0 P w K mg (hidT s₁.heap (Hs a vs ns)) callerA [] s₁ (Hs a vs ns) :=
    ⟨rfl, md, fun b o q => of_hidT q, Nat.le_of_eq (hidT_size _ _), trivial, fun b hb => (by cases hb), hok, .of_eq g5⟩
  obtain ⟨fd, hbind, F⟩ := F _ kinB (nsB g1)
  refine codeAny_mono (F.run callerA [] s₁ _ ⟨[.ref a], []⟩ [.ref a] [.ref a] _ _ hr en hbind (.cons rfl .nil) hsp) fun r s' h => ?_
  cases r with
  | error e =>
    obtain ⟨_, _, _, _, _, _, _, _, _, _, _, _, z⟩ := (show L2.CX P w [] _ s₁ (fun _ _ _ => False) e s' from h)
    exact z.elim
  | ok fl =>
    cases fl with
    | next => exact h.elim
    | brk => exact h.elim
    | cont => exact h.elim
    | ret u =>
      obtain ⟨v, H', z1, z2, z3, z4, z5, rfl⟩ := (show CE [] P w _ s₁ _ u s' from h)
      cases (show u = Value.bool true from z5)
      refine ⟨rfl, OldK.of_keep fun b o q => ?_, z1, z2⟩
      by_cases hb : b = a
      · subst hb
        obtain ⟨y1, _⟩ := z4 b _ (z3.frzs b _ _ Hs_at)
        rw [ha] at q
        cases q
        exact y1
      · exact z3.keep b o q (Hs_no hb) (by intro z; cases z) (by simp)
/-- a law, from what its def computes -/
theorem walk_G {l : PySem.W.OpenLaw} {n m : Nat} {q : Program} {loose : List Str} {XP : (Str → Option Value) → Heap → Prop} {YP : World → Heap → Prop} {d : DefRec} {x : Str} {fd : Fn}
    (hn : l.most = some n) (hn2 : n ≤ sizeLine) (hdf : d.params.defaults = []) (hr : Rm (3 * m) callerA)
    (F : ∀ (w : World) (mg : Str → Option Value) (fa : Addr) (h : Heap), YP w h → h.Ns mainGlobals mg → mg d.name = some (.ref fa) →
      ∃ (K : PySem.W.Frag) (t : Tb), K.In h ∧ noLst K = true ∧ fd.np = 1 ∧ fd.nm.take fd.np = [x] ∧ (⟨1, [], [.p 0]⟩ : Pat) ∈ fd.pats ∧ mg fd.name = some (.ref fa) ∧
        (∀ ns : List Int, ns.length ≤ n → ∃ g', bodyN t.tab m fd [.c 0] [.fz (ns.map D.int)] = .ok (.d (.bl true)) g') ∧
        ∀ base : Heap, K.In base → base.Ns mainGlobals mg → FnAt t l.prog w K mg base m fd) : PySem.W.WalkO q loose XP YP l.row.toRowW d [] (fun f vs => PySem.call f vs) := by
  refine Att.attach_call hn hdf fun w s₀ s₁ mg mb fa o pm cd doc a vs ns G Y ho hd hcd hmg hobj hints hlen hg => ?_
  obtain ⟨K, t, KX, hnl, hnp, hx, hpat, hnm, hlaw, hF⟩ := F w mg fa _ Y G.T.g hmg
  have hK : K.lookup a = none := by
    cases e : K.lookup a with
    | none => rfl
    | some u =>
      have h1 := KX a u e
      rw [hobj] at h1
      cases h1
      exact absurd rfl (noLst_ok hnl e)
  refine enterG KX hK G.T.g G.T.b G.T.builtins G.T.nolimit hg hobj hints (Nat.le_trans hlen hn2) hr (sp := spF ⟨K, t.cl⟩ t.tab m fd) (x := x) (fun base b1 b2 => ?_) ?_
  · obtain ⟨a', fo, m1, m2, m3, m4⟩ := (hF base b1 b2).ex
    rw [hnm] at m1
    cases m1
    rw [hx] at m3 m4
    obtain ⟨ds, _, hb⟩ := m3 _ hpat
    exact ⟨fo, hb s₁ [.ref a] [] KX rfl rfl, m4⟩
  obtain ⟨g', hg'⟩ := hlaw ns hlen
  refine ⟨fun _ => none, fun _ => none, [a], [.fz (ns.map D.int)], [.c 0], ?_, hnp.symm, ⟨.ref a, [], rfl, ⟨a, rfl, rfl⟩, rfl⟩, ?_⟩
  · refine ⟨fun b u e => (by cases e), fun b u e => (by cases e), fun b hb => absurd rfl hb, rfl, fun j b c e1 e2 => ?_, fun j1 j2 b e1 e2 => ?_, rfl, fun j w e => (by cases j <;> cases e), fun j l e => (by cases j <;> cases e)⟩
    · cases j with
      | zero =>
        cases e1
        cases e2
        refine ⟨rfl, rfl, by rw [Hs_at]; simp, _, _, Hs_at, ?_⟩
        have : ∀ l : List Int, Reps ⟨K, t.cl⟩ (fun _ => none) (l.map D.int) (l.map V.int) := by
          intro l
          induction l with
          | nil => rfl
          | cons z l ih => exact ⟨.int z, _, rfl, rfl, ih⟩
        exact this ns
      | succ j => simp at e1
    · cases j1 with
      | zero =>
        cases j2 with
        | zero => rfl
        | succ j => simp at e2
      | succ j => simp at e1
  · rw [hg']
    exact fun T' μ' H' v _ _ _ r => r
end Pc

set_option Elab.async false
set_option linter.all false
set_option maxRecDepth 100000
set_option maxHeartbeats 4000000
namespace Pc
open PySem L2
mutual
def D.beq : D → D → Bool
  | .non, y => match y with
    | .non => true
    | _ => false
  | .bl a, y => match y with
    | .bl b => a == b
    | _ => false
  | .int a, y => match y with
    | .int b => decide (a = b)
    | _ => false
  | .str a, y => match y with
    | .str b => decide (a = b)
    | _ => false
  | .tup l, y => match y with
    | .tup m => D.beqs l m
    | _ => false
  | .lst _, _ => false
  | .obj _ _ _, _ => false
def D.beqs : List D → List D → Bool
  | [], m => m.isEmpty
  | x :: l, m => match m with
    | y :: m => D.beq x y && D.beqs l m
    | [] => false
end
mutual
theorem beq_ok : ∀ {x y : D}, D.beq x y = true → x = y
  | .non, y, h => by unfold D.beq at h; split at h <;> first | rfl | cases h
  | .bl a, y, h => by
    unfold D.beq at h
    split at h
    · rw [beq_iff_eq.mp h]
    · cases h
  | .int a, y, h => by
    unfold D.beq at h
    split at h
    · rw [of_decide_eq_true h]
    · cases h
  | .str a, y, h => by
    unfold D.beq at h
    split at h
    · rw [of_decide_eq_true h]
    · cases h
  | .tup l, y, h => by
    unfold D.beq at h
    split at h
    · rw [beqs_ok h]
    · cases h
  | .lst _, y, h => by unfold D.beq at h; cases h
  | .obj _ _ _, y, h => by unfold D.beq at h; cases h
theorem beqs_ok : ∀ {l m : List D}, D.beqs l m = true → l = m
  | [], m, h => by
    unfold D.beqs at h
    cases m with
    | nil => rfl
    | cons _ _ => cases h
  | x :: l, m, h => by
    unfold D.beqs at h
    split at h
    · rw [Bool.and_eq_true] at h
      rw [beq_ok h.1, beqs_ok h.2]
    · cases h
end
/-- the tables of a law -/
def mkT (tab : List Fn) (fr : List Str) (con : List (Str × D)) : Tb := ⟨fun _ => none, tab, fun x => fr.contains x, fun x d => con.any fun q => decide (q.1 = x) && D.beq q.2 d⟩
section
variable {K : PySem.W.Frag} {h : Heap} {mg : Str → Option Value} {tab : List Fn} {fr : List Str} {con : List (Str × D)} {fa : List He.Fa} {fn : List He.DefD}
theorem free_mk (X : K.In h) (G : h.Ns mainGlobals mg) (c : SaysP (fr.map He.Fa.free ++ fa) fn con K) : ∀ x, (mkT tab fr con).free x = true → mg x = none := fun x hx => by
  have hx : x ∈ fr := by simpa [mkT] using hx
  have h1 := (He.ba (show ((_ : Bool) && _) = true from congrArg (fun z : He.AlD => z.1) c.d)).1
  have h2 := List.all_eq_true.mp h1 (.free x) (List.mem_append_left _ (List.mem_map.mpr ⟨x, hx, rfl⟩))
  exact He.free_ok X G h2
theorem con_mk (X : K.In h) (G : h.Ns mainGlobals mg) (c : SaysP fa fn con K) : ∀ x d, (mkT tab fr con).con x d = true → ∃ u v, mg x = some u ∧ RelV v u ∧ Rep ⟨K, (mkT tab fr con).cl⟩ (fun _ => none) d v := fun x d hx => by
  obtain ⟨q, hq, h1⟩ := List.any_eq_true.mp (show con.any _ = true from hx)
  rw [Bool.and_eq_true] at h1
  have e1 := of_decide_eq_true h1.1
  have e2 := beq_ok h1.2
  subst e1 e2
  have h2 := List.all_eq_true.mp c.c q hq
  unfold conB at h2
  split at h2
  · rename_i u hu
    obtain ⟨v, r1, r2⟩ := dV_ok (cl := (mkT tab fr con).cl) (T := fun _ => none) h2
    exact ⟨u, v, PySem.W.mg_of X G hu, r1, r2⟩
  · cases h2
end
section
variable {k : Kx} {x qual : Str} {params : Arguments} {body : List Stmt} {scope : Scope} {dvs : List V} {kws : List (Str × V)} {f : Addr} {fd : FuncData} {ps ks : List Str} {n : Nat} {sel : List Ar}
def noDf (l : List Ar) : Bool := l.all fun a => match a with
  | .df _ => false
  | _ => true
theorem df_no {ds : List Value} : ∀ {l : List Ar} {j : Nat}, noDf l = true → DfOk k ds l j
  | [], _, _ => trivial
  | .p _ :: l, j, h => df_no (l := l) (j := j + 1) (by simpa [noDf] using h)
  | .k _ :: l, j, h => df_no (l := l) (j := j + 1) (by simpa [noDf] using h)
  | .df _ :: l, j, h => by simp [noDf] at h
/-- no defaults at all -/
theorem pat_n (F : FunD k.K x qual params body scope [] kws f fd) (hs : noDf sel = true)
    (h : ∀ (kV doc pm : Value) (an : Option Addr) (cdv ct : Value) (us ws : List Value), us.length = n → ws.length = ks.length → bindArgs (PySem.W.fnOf x qual params body scope .none kV doc pm an cdv ct) ⟨us, ks.zip ws⟩ = pure (ps.zip (selVs us ws [] sel 0))) : PatOk k fd ps ⟨n, ks, sel⟩ := by
  obtain ⟨oc, od, dV, kV, doc, pm, an, cdv, ct, osl, rfl, lk, hcd, hD, hK⟩ := F.ex
  rcases hD with ⟨_, rfl⟩ | ⟨e, _⟩
  · exact ⟨[], df_no hs, fun s us ws _ l1 l2 => .of_eq (h kV doc pm an cdv ct us ws l1 l2)⟩
  · exact absurd rfl e
/-- keyword-only defaults, some of them (ms) taken -/
theorem pat_k (F : FunD k.K x qual params body scope [] kws f fd) (hk : kws ≠ []) (ms : List (Str × V)) (hms : ∀ q ∈ ms, q ∈ kws) (pl : List Value → List Value) (hd : ∀ mv, Vals (ms.map (·.2)) mv → DfOk k (pl mv) sel 0)
    (h : ∀ (D : Addr) (doc pm : Value) (an : Option Addr) (cdv ct : Value) (us ws mv : List Value), us.length = n → ws.length = ks.length → mv.length = ms.length →
      KwChain D ((ms.map (·.1)).zip mv) (bindArgs (PySem.W.fnOf x qual params body scope .none (.ref D) doc pm an cdv ct) ⟨us, ks.zip ws⟩) (ps.zip (selVs us ws (pl mv) sel 0))) : PatOk k fd ps ⟨n, ks, sel⟩ := by
  obtain ⟨oc, od, dV, kV, doc, pm, an, cdv, ct, osl, rfl, lk, hcd, hD, hK⟩ := F.ex
  rcases hD with ⟨_, rfl⟩ | ⟨e, _⟩
  · rcases hK with e | ⟨D, rfl, hq⟩
    · exact absurd e hk
    · obtain ⟨mv, hl, rk, hks⟩ := kwd_vals (ms := ms) fun q hm => hq q (hms q hm)
      exact ⟨pl mv, hd mv rk, fun s us ws X l1 l2 => BindsTo.of_looks fun M => KwChain.looks X hks (h D doc pm an cdv ct us ws mv l1 l2 hl)⟩
  · exact absurd rfl e
end
/-- a def's fixed facts -/
theorem fnst_of {t : Tb} {K : PySem.W.Frag} {mg : Str → Option Value} {x qual : Str} {params : Arguments} {body : List Stmt} {scope : Scope} {dvs : List V} {kws : List (Str × V)} {f : Addr} {fo : FuncData} {fd : Fn} (F : FunD K x qual params body scope dvs kws f fo)
    (hg : mg fd.name = some (.ref f)) (hp : ∀ q ∈ fd.pats, PatOk ⟨K, t.cl⟩ fo (fd.nm.take fd.np) q) (S : FnScope fd.nm (fd.nm.take fd.np) scope) (hn : fd.np ≤ fd.nm.length) (hm : matSs t ⟨fd.nm, scope, fun _ => true⟩ fd.body body = true) : FnSt t K mg fd := by
  obtain ⟨oc, od, dV, kV, doc, pm, an, cdv, ct, osl, rfl, lk, hcd, hD, hK⟩ := F.ex
  exact ⟨f, oc, od, osl, x, qual, params, body, scope, dV, kV, doc, pm, cdv, ct, an, hg, F.kp, lk, hcd, hp, S, hn, fun n => matSs_ok fd.body hm⟩
/-- the scope of a def, checked -/
def scB (N ps : List Str) (sc : Scope) : Bool := (match sc.kind with | .function => true | _ => false) && !sc.isCoroutine && !sc.isGenerator && decide N.Nodup && decide (N.take ps.length = ps) &&
  (ps.all fun x => match sc.names.lookup x with | some .local => true | some .cell => true | _ => false) && sc.names.all fun y => match y.2 with | .free => false | _ => true
theorem scB_ok {N ps : List Str} {sc : Scope} (h : scB N ps sc = true) : FnScope N ps sc := by
  unfold scB at h
  simp only [Bool.and_eq_true, Bool.not_eq_true', decide_eq_true_eq] at h
  obtain ⟨⟨⟨⟨⟨⟨h1, h2⟩, h3⟩, h4⟩, h5⟩, h6⟩, h7⟩ := h
  refine ⟨?_, h2, h3, h4, h5, fun x hx => ?_, fun y hy e => ?_⟩
  · split at h1
    · assumption
    · cases h1
  · have := List.all_eq_true.mp h6 x hx
    split at this
    · exact .inl (by assumption)
    · exact .inr (by assumption)
    · cases this
  · have := List.all_eq_true.mp h7 y hy
    rw [e] at this
    cases this
end Pc

set_option Elab.async false
set_option linter.all false
set_option maxRecDepth 100000
set_option maxHeartbeats 0
namespace Gk14
open PySem L2 Pc
abbrev prog : Program := PySem.Challenge.pw_partloops_k14_conditions_hold
def top (i : Nat) : Stmt := prog.main.body.getD i (.Pass ⟨0, 0, 0, 0⟩)
def f_split_number : Fn := ⟨"split_number", 1, ["number", "found", "rest", "low", "many"], [⟨1, [], [.p 0]⟩],
    (.cons (.par [(1, .ow (.disp .nil)), (2, .ex (.v 0)), (3, .ex (.k (.int 2)))])
    (.cons (.whl 100000 (.cmp .le (.op .mul (.v 3) (.v 3)) (.v 2))
    (.cons (.set 4 (.k (.int 0)))
    (.cons (.whl 100000 (.cmp .eq (.op .mod (.v 2) (.v 3)) (.k (.int 0)))
    (.cons (.aug 2 .fdiv (.v 3))
    (.cons (.aug 4 .add (.k (.int 1)))
    .nil)))
    (.cons (.ife (.cmp .gt (.v 4) (.k (.int 0)))
    (.cons (.ex (.app (.b 1) (.tup (.cons (.v 3) (.cons (.v 4) .nil)))))
    .nil)
    .nil)
    (.cons (.aug 3 .add (.k (.int 1)))
    .nil)))))
    (.cons (.ife (.cmp .gt (.v 2) (.k (.int 1)))
    (.cons (.ex (.app (.b 1) (.tup (.cons (.v 2) (.cons (.k (.int 1)) .nil)))))
    .nil)
    .nil)
    (.cons (.ret (.v 1))
    .nil))))⟩
def f_greatest_common : Fn := ⟨"greatest_common", 2, ["one", "other"], [⟨2, [], [.p 0, .p 1]⟩],
    (.cons (.par [(0, .ex (.bi .abs (.cons (.v 0) .nil))), (1, .ex (.bi .abs (.cons (.v 1) .nil)))])
    (.cons (.whl 100000 (.cmp .ne (.v 1) (.k (.int 0)))
    (.cons (.par [(0, .ex (.v 1)), (1, .ex (.op .mod (.v 0) (.v 1)))])
    .nil))
    (.cons (.ret (.v 0))
    .nil)))⟩
def f_spot : Fn := ⟨"spot", 1, ["letter"], [⟨1, [], [.p 0]⟩],
    (.cons (.ret (.ite (.cmp .eq (.v 0) (.k (.str "n"))) (.k (.int 0)) (.op .add (.sm .index (.gk "LETTERS" (.str "abc")) (.v 0)) (.k (.int 1)))))
    .nil)⟩
def f_term_worth : Fn := ⟨"term_worth", 3, ["term", "sources", "numbers", "place", "one", "other", "common"], [⟨3, [], [.p 0, .p 1, .p 2]⟩],
    (.cons (.ife (.e (.isi (.v 0) "str"))
    (.cons (.ret (.sub (.v 2) (.call 2 0 (.cons (.v 0) .nil) .nil)))
    .nil)
    .nil)
    (.cons (.ife (.cmp .eq (.sub (.v 0) (.k (.int 0))) (.k (.str "co")))
    (.cons (.set 3 (.call 2 0 (.cons (.sub (.v 0) (.k (.int 1))) .nil) .nil))
    (.cons (.ret (.op .fdiv (.sub (.v 2) (.call 2 0 (.cons (.sub (.v 1) (.op .sub (.v 3) (.k (.int 1)))) .nil) .nil)) (.sub (.v 2) (.v 3))))
    .nil))
    .nil)
    (.cons (.par [(4, .ex (.call 3 0 (.cons (.sub (.v 0) (.k (.int 1))) (.cons (.v 1) (.cons (.v 2) .nil))) .nil)), (5, .ex (.call 3 0 (.cons (.sub (.v 0) (.k (.int 2))) (.cons (.v 1) (.cons (.v 2) .nil))) .nil))])
    (.cons (.set 6 (.call 1 0 (.cons (.v 4) (.cons (.v 5) .nil)) .nil))
    (.cons (.ret (.ite (.cmp .eq (.sub (.v 0) (.k (.int 0))) (.k (.str "gcd"))) (.v 6) (.op .mul (.op .fdiv (.v 4) (.v 6)) (.v 5))))
    .nil)))))⟩
def f_list_atoms : Fn := ⟨"list_atoms", 1, ["condition", "part", "atom"], [⟨1, [], [.p 0]⟩],
    (.cons (.ife (.cmp .isn (.v 0) (.k .non))
    (.cons (.ret (.fz (.disp .nil)))
    .nil)
    .nil)
    (.cons (.ife (.bop false (.cons (.cmp .eq (.sub (.v 0) (.k (.int 0))) (.k (.str "not"))) (.cons (.cmp .inn (.sub (.v 0) (.k (.int 0))) (.gk "JOINED" (.tup [(.str "and"), (.str "or")]))) .nil)))
    (.cons (.ret (.fz (.lc2 (.nm 1) (.sq (.sli (.v 0) (.so (.k (.int 1))) .no)) .nil (.nm 2) (.sq (.call 4 0 (.cons (.v 1) .nil) .nil)) .nil (.v 2) [1, 2] [2])))
    .nil)
    .nil)
    (.cons (.ret (.fz (.disp (.cons (.v 0) .nil))))
    .nil)))⟩
def f_is_free_number : Fn := ⟨"is_free_number", 1, ["number", "prime", "many"], [⟨1, [], [.p 0]⟩],
    (.cons (.ret (.bi .all (.cons (.fz (.lc (.tp [1, 2]) (.sq (.call 0 0 (.cons (.v 0) .nil) .nil)) .nil (.cmp .eq (.v 2) (.k (.int 1))) [1, 2])) .nil)))
    .nil)⟩
def f_atom_holds : Fn := ⟨"atom_holds", 3, ["atom", "sources", "numbers", "one", "other"], [⟨3, [], [.p 0, .p 1, .p 2]⟩],
    (.cons (.ife (.cmp .eq (.sub (.v 0) (.k (.int 0))) (.k (.str "unitary")))
    (.cons (.par [(3, .ex (.call 3 0 (.cons (.sub (.v 0) (.k (.int 1))) (.cons (.v 1) (.cons (.v 2) .nil))) .nil)), (4, .ex (.call 3 0 (.cons (.tup (.cons (.k (.str "co")) (.cons (.sub (.v 0) (.k (.int 1))) .nil))) (.cons (.v 1) (.cons (.v 2) .nil))) .nil))])
    (.cons (.ret (.call 7 0 (.cons (.v 3) (.cons (.v 4) .nil)) .nil))
    .nil))
    .nil)
    (.cons (.set 3 (.call 3 0 (.cons (.sub (.v 0) (.k (.int 1))) (.cons (.v 1) (.cons (.v 2) .nil))) .nil))
    (.cons (.ife (.cmp .eq (.sub (.v 0) (.k (.int 0))) (.k (.str "one")))
    (.cons (.ret (.cmp .eq (.v 3) (.k (.int 1))))
    .nil)
    .nil)
    (.cons (.ife (.cmp .eq (.sub (.v 0) (.k (.int 0))) (.k (.str "free")))
    (.cons (.ret (.call 5 0 (.cons (.v 3) .nil) .nil))
    .nil)
    .nil)
    (.cons (.set 4 (.call 3 0 (.cons (.sub (.v 0) (.k (.int 2))) (.cons (.v 1) (.cons (.v 2) .nil))) .nil))
    (.cons (.ife (.cmp .eq (.sub (.v 0) (.k (.int 0))) (.k (.str "same")))
    (.cons (.ret (.cmp .eq (.v 3) (.v 4)))
    .nil)
    .nil)
    (.cons (.ret (.ite (.cmp .eq (.sub (.v 0) (.k (.int 0))) (.k (.str "divides"))) (.cmp .eq (.op .mod (.v 4) (.v 3)) (.k (.int 0))) (.call 7 0 (.cons (.v 3) (.cons (.v 4) .nil)) .nil)))
    .nil)))))))⟩
def f_are_coprime : Fn := ⟨"are_coprime", 2, ["one", "other"], [⟨2, [], [.p 0, .p 1]⟩],
    (.cons (.whl 100000 (.cmp .ne (.v 1) (.k (.int 0)))
    (.cons (.par [(0, .ex (.v 1)), (1, .ex (.op .mod (.v 0) (.v 1)))])
    .nil))
    (.cons (.ret (.cmp .eq (.v 0) (.k (.int 1))))
    .nil))⟩
def f_truth : Fn := ⟨"truth", 2, ["condition", "told", "parts", "part"], [⟨2, [], [.p 0, .p 1]⟩],
    (.cons (.ife (.cmp .eq (.sub (.v 0) (.k (.int 0))) (.k (.str "not")))
    (.cons (.ret (.not (.call 8 0 (.cons (.sub (.v 0) (.k (.int 1))) (.cons (.v 1) .nil)) .nil)))
    .nil)
    .nil)
    (.cons (.ife (.cmp .inn (.sub (.v 0) (.k (.int 0))) (.gk "JOINED" (.tup [(.str "and"), (.str "or")])))
    (.cons (.own 2 (.lc (.nm 3) (.sq (.sli (.v 0) (.so (.k (.int 1))) .no)) .nil (.call 8 0 (.cons (.v 3) (.cons (.v 1) .nil)) .nil) [3]))
    (.cons (.ret (.ite (.cmp .eq (.sub (.v 0) (.k (.int 0))) (.k (.str "and"))) (.bi .all (.cons (.v 2) .nil)) (.bi .any (.cons (.v 2) .nil))))
    .nil))
    .nil)
    (.cons (.ret (.popa (.b 1) (.k (.int 0))))
    .nil)))⟩
def f_holds : Fn := ⟨"holds", 3, ["condition", "sources", "numbers", "atom"], [⟨3, [], [.p 0, .p 1, .p 2]⟩, ⟨0, ["numbers", "condition", "sources"], [.k 1, .k 2, .k 0]⟩],
    (.cons (.ife (.cmp .isn (.v 0) (.k .non))
    (.cons (.ret (.k (.bl true)))
    .nil)
    .nil)
    (.cons (.ret (.call 8 0 (.cons (.v 0) (.cons (.mk (.lc (.nm 3) (.sq (.call 4 0 (.cons (.v 0) .nil) .nil)) .nil (.call 6 0 (.cons (.v 3) (.cons (.v 1) (.cons (.v 2) .nil))) .nil) [3])) .nil)) .nil))
    .nil))⟩
def f__law_bag : Fn := ⟨"_law_bag", 1, ["_law_script", "_law_mark", "_law_cell"], [⟨1, [], [.p 0]⟩],
    (.cons (.set 1 (.k (.int 10049)))
    (.cons (.for_ (.nm 2) (.sq (.fz (.sli (.v 0) .no (.so (.k (.int 63))))))
    (.cons (.set 1 (.op .mod (.bi .int (.cons (.op .add (.op .add (.op .mul (.v 1) (.k (.int 52567))) (.op .mod (.bi .int (.cons (.v 2) .nil)) (.k (.int 2147483549)))) (.k (.int 29))) .nil)) (.k (.int 2147483579))))
    .nil))
    (.cons (.ret (.mk (.disp (.cons (.fz (.cpy (.fz (.sli (.v 0) .no (.so (.k (.int 63))))))) (.cons (.k (.int 0)) (.cons (.k (.int 0)) (.cons (.v 1) (.cons (.k (.int 0)) .nil))))))))
    .nil)))⟩
def f__law_draw : Fn := ⟨"_law_draw", 2, ["_law_bag_here", "_law_most", "_law_cell", "_law_digit", "_law_base", "_law_late"], [⟨2, [], [.p 0, .p 1]⟩],
    (.cons (.ife (.bop true (.cons (.cmp .lt (.sub (.b 0) (.k (.int 2))) (.v 1)) (.cons (.cmp .lt (.sub (.b 0) (.k (.int 1))) (.bi .len (.cons (.sub (.b 0) (.k (.int 0))) .nil))) .nil)))
    (.cons (.set 2 (.sub (.sub (.b 0) (.k (.int 0))) (.sub (.b 0) (.k (.int 1)))))
    (.cons (.sset (.b 0) (.k (.int 1)) (.op .add (.sub (.b 0) (.k (.int 1))) (.k (.int 1))))
    (.cons (.sset (.b 0) (.k (.int 3)) (.op .mod (.bi .int (.cons (.op .add (.op .add (.op .mul (.sub (.b 0) (.k (.int 3))) (.k (.int 41017))) (.op .mod (.bi .int (.cons (.v 2) .nil)) (.k (.int 2147483563)))) (.k (.int 37))) .nil)) (.k (.int 2147483629))))
    (.cons (.sset (.b 0) (.k (.int 2)) (.ite (.cmp .ge (.v 2) (.op .pow (.k (.int 10)) (.k (.int 18)))) (.v 2) (.k (.int 0))))
    .nil))))
    .nil)
    (.cons (.ife (.cmp .ge (.sub (.b 0) (.k (.int 2))) (.v 1))
    (.cons (.set 3 (.op .mod (.bi .int (.cons (.sub (.b 0) (.k (.int 2))) .nil)) (.v 1)))
    (.cons (.sset (.b 0) (.k (.int 2)) (.op .fdiv (.sub (.b 0) (.k (.int 2))) (.v 1)))
    (.cons (.ret (.v 3))
    .nil)))
    .nil)
    (.cons (.sset (.b 0) (.k (.int 4)) (.op .add (.sub (.b 0) (.k (.int 4))) (.k (.int 1))))
    (.cons (.set 4 (.op .mod (.bi .int (.cons (.op .add (.sub (.b 0) (.k (.int 3))) (.op .mul (.sub (.b 0) (.k (.int 4))) (.k (.int 7907)))) .nil)) (.k (.int 2147483587))))
    (.cons (.set 5 (.op .mul (.op .mod (.bi .int (.cons (.op .mul (.v 4) (.v 4)) .nil)) (.k (.int 2147483549))) (.op .add (.op .mod (.bi .int (.cons (.v 4) .nil)) (.k (.int 40009))) (.k (.int 11)))))
    (.cons (.sset (.b 0) (.k (.int 3)) (.op .mod (.bi .int (.cons (.op .add (.op .add (.v 5) (.op .mul (.k (.int 29009)) (.v 4))) (.k (.int 617))) .nil)) (.k (.int 2147483629))))
    (.cons (.ret (.op .mod (.bi .int (.cons (.op .add (.op .fdiv (.sub (.b 0) (.k (.int 3))) (.k (.int 73))) (.op .mul (.op .mod (.bi .int (.cons (.sub (.b 0) (.k (.int 3))) .nil)) (.k (.int 9007))) (.k (.int 53)))) .nil)) (.v 1)))
    .nil)))))))⟩
def f__law_any : Fn := ⟨"_law_any", 2, ["_law_bag_here", "_law_some"], [⟨2, [], [.p 0, .p 1]⟩],
    (.cons (.ret (.sub (.v 1) (.call 11 0 (.cons (.v 0) (.cons (.bi .len (.cons (.v 1) .nil)) .nil)) .nil)))
    .nil)⟩
def f__law_same : Fn := ⟨"_law_same", 2, ["_law_found", "_law_due"], [⟨2, [], [.p 0, .p 1]⟩],
    (.cons (.ret (.cmp .eq (.bi .repr (.cons (.v 0) .nil)) (.bi .repr (.cons (.v 1) .nil))))
    .nil)⟩
def f__law_split : Fn := ⟨"_law_split", 1, ["_law_size", "_law_found", "_law_rest", "_law_low", "_law_times"], [⟨1, [], [.p 0]⟩],
    (.cons (.par [(1, .ow (.disp .nil)), (2, .ex (.v 0))])
    (.cons (.for_ (.nm 3) (.rg2 (.k (.int 2)) (.op .add (.v 0) (.k (.int 1))))
    (.cons (.set 4 (.k (.int 0)))
    (.cons (.whl 100000 (.cmp .eq (.op .mod (.bi .int (.cons (.v 2) .nil)) (.v 3)) (.k (.int 0)))
    (.cons (.set 2 (.op .fdiv (.v 2) (.v 3)))
    (.cons (.set 4 (.op .add (.v 4) (.k (.int 1))))
    .nil)))
    (.cons (.ife (.cmp .gt (.v 4) (.k (.int 0)))
    (.cons (.ex (.app (.b 1) (.tup (.cons (.v 3) (.cons (.v 4) .nil)))))
    .nil)
    .nil)
    (.cons (.ife (.cmp .eq (.v 2) (.k (.int 1)))
    (.cons .brk
    .nil)
    .nil)
    .nil)))))
    (.cons (.ret (.v 1))
    .nil)))⟩
def f__law_divs : Fn := ⟨"_law_divs", 1, ["_law_size", "_law_low"], [⟨1, [], [.p 0]⟩],
    (.cons (.ret (.fz (.lc (.nm 1) (.rg2 (.k (.int 1)) (.op .add (.v 0) (.k (.int 1)))) (.cons (.cmp .eq (.op .mod (.bi .int (.cons (.v 0) .nil)) (.v 1)) (.k (.int 0))) .nil) (.v 1) [1])))
    .nil)⟩
def f__law_gcd : Fn := ⟨"_law_gcd", 2, ["_law_left", "_law_right"], [⟨2, [], [.p 0, .p 1]⟩],
    (.cons (.whl 100000 (.cmp .ne (.v 1) (.k (.int 0)))
    (.cons (.par [(0, .ex (.v 1)), (1, .ex (.op .mod (.bi .int (.cons (.v 0) .nil)) (.v 1)))])
    .nil))
    (.cons (.ret (.v 0))
    .nil))⟩
def f__law_spot : Fn := ⟨"_law_spot", 1, ["_law_letter"], [⟨1, [], [.p 0]⟩],
    (.cons (.ret (.sm .index (.k (.str "nabc")) (.v 0)))
    .nil)⟩
def f__law_term : Fn := ⟨"_law_term", 3, ["_law_word", "_law_heads_here", "_law_nums", "_law_place", "_law_left", "_law_right", "_law_common"], [⟨3, [], [.p 0, .p 1, .p 2]⟩],
    (.cons (.ife (.e (.isi (.v 0) "str"))
    (.cons (.ret (.sub (.v 2) (.call 17 0 (.cons (.v 0) .nil) .nil)))
    .nil)
    .nil)
    (.cons (.ife (.cmp .eq (.sub (.v 0) (.k (.int 0))) (.k (.str "co")))
    (.cons (.set 3 (.call 17 0 (.cons (.sub (.v 0) (.k (.int 1))) .nil) .nil))
    (.cons (.ret (.op .fdiv (.sub (.v 2) (.call 17 0 (.cons (.sub (.v 1) (.op .sub (.v 3) (.k (.int 1)))) .nil) .nil)) (.sub (.v 2) (.v 3))))
    .nil))
    .nil)
    (.cons (.par [(4, .ex (.call 18 0 (.cons (.sub (.v 0) (.k (.int 1))) (.cons (.v 1) (.cons (.v 2) .nil))) .nil)), (5, .ex (.call 18 0 (.cons (.sub (.v 0) (.k (.int 2))) (.cons (.v 1) (.cons (.v 2) .nil))) .nil))])
    (.cons (.set 6 (.call 16 0 (.cons (.v 4) (.cons (.v 5) .nil)) .nil))
    (.cons (.ret (.ite (.cmp .eq (.sub (.v 0) (.k (.int 0))) (.k (.str "gcd"))) (.v 6) (.op .fdiv (.op .mul (.v 4) (.v 5)) (.v 6))))
    .nil)))))⟩
def f__law_is_free : Fn := ⟨"_law_is_free", 1, ["_law_size", "_law_low", "_law_times"], [⟨1, [], [.p 0]⟩],
    (.cons (.ret (.bi .all (.cons (.fz (.lc (.tp [1, 2]) (.sq (.call 14 0 (.cons (.v 0) .nil) .nil)) .nil (.cmp .eq (.v 2) (.k (.int 1))) [1, 2])) .nil)))
    .nil)⟩
def f__law_atom : Fn := ⟨"_law_atom", 3, ["_law_atom_here", "_law_heads_here", "_law_nums", "_law_left", "_law_right"], [⟨3, [], [.p 0, .p 1, .p 2]⟩],
    (.cons (.ife (.cmp .eq (.sub (.v 0) (.k (.int 0))) (.k (.str "unitary")))
    (.cons (.par [(3, .ex (.call 18 0 (.cons (.sub (.v 0) (.k (.int 1))) (.cons (.v 1) (.cons (.v 2) .nil))) .nil)), (4, .ex (.call 18 0 (.cons (.tup (.cons (.k (.str "co")) (.cons (.sub (.v 0) (.k (.int 1))) .nil))) (.cons (.v 1) (.cons (.v 2) .nil))) .nil))])
    (.cons (.ret (.cmp .eq (.call 16 0 (.cons (.v 3) (.cons (.v 4) .nil)) .nil) (.k (.int 1))))
    .nil))
    .nil)
    (.cons (.set 3 (.call 18 0 (.cons (.sub (.v 0) (.k (.int 1))) (.cons (.v 1) (.cons (.v 2) .nil))) .nil))
    (.cons (.ife (.cmp .eq (.sub (.v 0) (.k (.int 0))) (.k (.str "one")))
    (.cons (.ret (.cmp .eq (.v 3) (.k (.int 1))))
    .nil)
    .nil)
    (.cons (.ife (.cmp .eq (.sub (.v 0) (.k (.int 0))) (.k (.str "free")))
    (.cons (.ret (.call 19 0 (.cons (.v 3) .nil) .nil))
    .nil)
    .nil)
    (.cons (.set 4 (.call 18 0 (.cons (.sub (.v 0) (.k (.int 2))) (.cons (.v 1) (.cons (.v 2) .nil))) .nil))
    (.cons (.ife (.cmp .eq (.sub (.v 0) (.k (.int 0))) (.k (.str "coprime")))
    (.cons (.ret (.cmp .eq (.call 16 0 (.cons (.v 3) (.cons (.v 4) .nil)) .nil) (.k (.int 1))))
    .nil)
    .nil)
    (.cons (.ret (.ite (.cmp .eq (.sub (.v 0) (.k (.int 0))) (.k (.str "same"))) (.cmp .eq (.v 3) (.v 4)) (.cmp .eq (.op .mod (.bi .int (.cons (.v 4) .nil)) (.v 3)) (.k (.int 0)))))
    .nil)))))))⟩
def f__law_truth : Fn := ⟨"_law_truth", 3, ["_law_test_here", "_law_heads_here", "_law_nums", "_law_parts", "_law_part"], [⟨3, [], [.p 0, .p 1, .p 2]⟩],
    (.cons (.ife (.cmp .isn (.v 0) (.k .non))
    (.cons (.ret (.k (.bl true)))
    .nil)
    .nil)
    (.cons (.ife (.cmp .eq (.sub (.v 0) (.k (.int 0))) (.k (.str "not")))
    (.cons (.ret (.not (.call 21 0 (.cons (.sub (.v 0) (.k (.int 1))) (.cons (.v 1) (.cons (.v 2) .nil))) .nil)))
    .nil)
    .nil)
    (.cons (.ife (.cmp .inn (.sub (.v 0) (.k (.int 0))) (.tup (.cons (.k (.str "and")) (.cons (.k (.str "or")) .nil))))
    (.cons (.own 3 (.lc (.nm 4) (.sq (.sli (.v 0) (.so (.k (.int 1))) .no)) .nil (.call 21 0 (.cons (.v 4) (.cons (.v 1) (.cons (.v 2) .nil))) .nil) [4]))
    (.cons (.ret (.ite (.cmp .eq (.sub (.v 0) (.k (.int 0))) (.k (.str "and"))) (.bi .all (.cons (.v 3) .nil)) (.bi .any (.cons (.v 3) .nil))))
    .nil))
    .nil)
    (.cons (.ret (.call 20 0 (.cons (.v 0) (.cons (.v 1) (.cons (.v 2) .nil))) .nil))
    .nil))))⟩
def f__law_heads : Fn := ⟨"_law_heads", 2, ["_law_bag_here", "_law_most", "_law_found", "_law_at"], [⟨2, [], [.p 0, .p 1]⟩],
    (.cons (.set 2 (.tup .nil))
    (.cons (.for_ (.nm 3) (.rg1 (.call 11 0 (.cons (.v 0) (.cons (.op .add (.v 1) (.k (.int 1))) .nil)) .nil))
    (.cons (.set 2 (.op .add (.v 2) (.tup (.cons (.call 12 0 (.cons (.v 0) (.cons (.sli (.k (.str "nabc")) .no (.so (.op .add (.v 3) (.k (.int 1))))) .nil)) .nil) .nil))))
    .nil))
    (.cons (.ret (.v 2))
    .nil)))⟩
def f__law_plain : Fn := ⟨"_law_plain", 3, ["_law_bag_here", "_law_loops_z", "_law_deep"], [⟨3, [], [.p 0, .p 1, .p 2]⟩],
    (.cons (.ife (.bop false (.cons (.cmp .eq (.v 2) (.k (.int 1))) (.cons (.cmp .gt (.call 11 0 (.cons (.v 0) (.cons (.k (.int 3)) .nil)) .nil) (.k (.int 0))) .nil)))
    (.cons (.ret (.call 12 0 (.cons (.v 0) (.cons (.sli (.k (.str "nabc")) .no (.so (.op .add (.v 1) (.k (.int 1))))) .nil)) .nil))
    .nil)
    .nil)
    (.cons (.ret (.tup (.cons (.call 12 0 (.cons (.v 0) (.cons (.fz (.disp (.cons (.k (.str "gcd")) (.cons (.k (.str "lcm")) .nil)))) .nil)) .nil) (.cons (.call 23 0 (.cons (.v 0) (.cons (.v 1) (.cons (.op .sub (.v 2) (.k (.int 1))) .nil))) .nil) (.cons (.call 23 0 (.cons (.v 0) (.cons (.v 1) (.cons (.op .sub (.v 2) (.k (.int 1))) .nil))) .nil) .nil)))))
    .nil))⟩
def f__law_any_term : Fn := ⟨"_law_any_term", 2, ["_law_bag_here", "_law_loops_z"], [⟨2, [], [.p 0, .p 1]⟩],
    (.cons (.ife (.bop true (.cons (.cmp .gt (.v 1) (.k (.int 0))) (.cons (.cmp .eq (.call 11 0 (.cons (.v 0) (.cons (.k (.int 3)) .nil)) .nil) (.k (.int 0))) .nil)))
    (.cons (.ret (.tup (.cons (.k (.str "co")) (.cons (.call 12 0 (.cons (.v 0) (.cons (.sli (.k (.str "abc")) .no (.so (.v 1))) .nil)) .nil) .nil))))
    .nil)
    .nil)
    (.cons (.ret (.call 23 0 (.cons (.v 0) (.cons (.v 1) (.cons (.k (.int 3)) .nil))) .nil))
    .nil))⟩
def f__law_one_atom : Fn := ⟨"_law_one_atom", 2, ["_law_bag_here", "_law_loops_z", "_law_word"], [⟨2, [], [.p 0, .p 1]⟩],
    (.cons (.set 2 (.call 12 0 (.cons (.v 0) (.cons (.fz (.disp (.cons (.k (.str "one")) (.cons (.k (.str "free")) (.cons (.k (.str "coprime")) (.cons (.k (.str "divides")) (.cons (.k (.str "same")) (.cons (.k (.str "unitary")) .nil)))))))) .nil)) .nil))
    (.cons (.ife (.bop true (.cons (.cmp .eq (.v 2) (.k (.str "unitary"))) (.cons (.cmp .gt (.v 1) (.k (.int 0))) .nil)))
    (.cons (.ret (.tup (.cons (.v 2) (.cons (.call 12 0 (.cons (.v 0) (.cons (.sli (.k (.str "abc")) .no (.so (.v 1))) .nil)) .nil) .nil))))
    .nil)
    .nil)
    (.cons (.ife (.cmp .inn (.v 2) (.tup (.cons (.k (.str "one")) (.cons (.k (.str "free")) (.cons (.k (.str "unitary")) .nil)))))
    (.cons (.ret (.tup (.cons (.ite (.cmp .eq (.v 2) (.k (.str "unitary"))) (.k (.str "free")) (.v 2)) (.cons (.call 24 0 (.cons (.v 0) (.cons (.v 1) .nil)) .nil) .nil))))
    .nil)
    .nil)
    (.cons (.ret (.tup (.cons (.v 2) (.cons (.call 23 0 (.cons (.v 0) (.cons (.v 1) (.cons (.k (.int 2)) .nil))) .nil) (.cons (.call 23 0 (.cons (.v 0) (.cons (.v 1) (.cons (.k (.int 2)) .nil))) .nil) .nil)))))
    .nil))))⟩
def f__law_test : Fn := ⟨"_law_test", 4, ["_law_bag_here", "_law_loops_z", "_law_atoms_z", "_law_deep", "_law_way", "_law_word", "_law_rest"], [⟨4, [], [.p 0, .p 1, .p 2, .p 3]⟩],
    (.cons (.set 4 (.call 11 0 (.cons (.v 0) (.cons (.k (.int 5)) .nil)) .nil))
    (.cons (.ife (.bop false (.cons (.cmp .eq (.v 3) (.k (.int 1))) (.cons (.cmp .lt (.v 4) (.k (.int 2))) .nil)))
    (.cons (.ret (.call 25 0 (.cons (.v 0) (.cons (.v 1) .nil)) .nil))
    .nil)
    .nil)
    (.cons (.ife (.bop false (.cons (.cmp .eq (.v 4) (.k (.int 2))) (.cons (.cmp .eq (.v 2) (.k (.int 1))) .nil)))
    (.cons (.ret (.tup (.cons (.k (.str "not")) (.cons (.call 26 0 (.cons (.v 0) (.cons (.v 1) (.cons (.v 2) (.cons (.op .sub (.v 3) (.k (.int 1))) .nil)))) .nil) .nil))))
    .nil)
    .nil)
    (.cons (.par [(5, .ex (.call 12 0 (.cons (.v 0) (.cons (.fz (.disp (.cons (.k (.str "and")) (.cons (.k (.str "or")) .nil)))) .nil)) .nil)), (6, .ex (.op .fdiv (.v 2) (.k (.int 2))))])
    (.cons (.ife (.bop true (.cons (.cmp .gt (.v 2) (.k (.int 2))) (.cons (.cmp .eq (.v 4) (.k (.int 3))) .nil)))
    (.cons (.ret (.tup (.cons (.v 5) (.cons (.call 25 0 (.cons (.v 0) (.cons (.v 1) .nil)) .nil) (.cons (.call 25 0 (.cons (.v 0) (.cons (.v 1) .nil)) .nil) (.cons (.call 26 0 (.cons (.v 0) (.cons (.v 1) (.cons (.op .sub (.v 2) (.k (.int 2))) (.cons (.op .sub (.v 3) (.k (.int 1))) .nil)))) .nil) .nil))))))
    .nil)
    .nil)
    (.cons (.ret (.tup (.cons (.v 5) (.cons (.call 26 0 (.cons (.v 0) (.cons (.v 1) (.cons (.v 6) (.cons (.op .sub (.v 3) (.k (.int 1))) .nil)))) .nil) (.cons (.call 26 0 (.cons (.v 0) (.cons (.v 1) (.cons (.op .sub (.v 2) (.v 6)) (.cons (.op .sub (.v 3) (.k (.int 1))) .nil)))) .nil) .nil)))))
    .nil))))))⟩
def f_law : Fn := ⟨"law", 1, ["_law_script", "_law_bag_here", "_law_turn", "_law_heads_here", "_law_size", "_law_nums", "_law_head", "_law_step", "_law_test_here", "_law_due", "_law_told"], [⟨1, [], [.p 0]⟩],
    (.cons (.set 1 (.call 10 0 (.cons (.v 0) .nil) .nil))
    (.cons (.for_ (.nm 2) (.rg1 (.k (.int 6)))
    (.cons (.par [(3, .ex (.call 22 0 (.cons (.v 1) (.cons (.k (.int 3)) .nil)) .nil)), (4, .ex (.call 12 0 (.cons (.v 1) (.cons (.fz (.disp (.cons (.k (.int 1)) (.cons (.k (.int 2)) (.cons (.k (.int 12)) (.cons (.k (.int 72)) (.cons (.k (.int 30)) (.cons (.k (.int 16)) (.cons (.op .add (.k (.int 1)) (.call 11 0 (.cons (.v 1) (.cons (.k (.int 72)) .nil)) .nil)) .nil))))))))) .nil)) .nil))])
    (.cons (.set 5 (.tup (.cons (.v 4) .nil)))
    (.cons (.for_ (.nm 6) (.sq (.v 3))
    (.cons (.set 5 (.op .add (.v 5) (.tup (.cons (.call 12 0 (.cons (.v 1) (.cons (.call 15 0 (.cons (.sub (.v 5) (.call 17 0 (.cons (.v 6) .nil) .nil)) .nil) .nil) .nil)) .nil) .nil))))
    .nil))
    (.cons (.for_ (.nm 7) (.rg1 (.k (.int 3)))
    (.cons (.set 8 (.call 26 0 (.cons (.v 1) (.cons (.bi .len (.cons (.v 3) .nil)) (.cons (.op .add (.k (.int 1)) (.call 11 0 (.cons (.v 1) (.cons (.k (.int 4)) .nil)) .nil)) (.cons (.k (.int 4)) .nil)))) .nil))
    (.cons (.set 9 (.call 21 0 (.cons (.v 8) (.cons (.v 3) (.cons (.v 5) .nil))) .nil))
    (.cons (.ife (.not (.e (.call 13 0 (.cons (.fz (.disp (.cons (.call 9 0 (.cons (.v 8) (.cons (.v 3) (.cons (.v 5) .nil))) .nil) (.cons (.call 9 1 .nil (.cons (.v 5) (.cons (.v 8) (.cons (.v 3) .nil)))) .nil)))) (.cons (.fz (.disp (.cons (.v 9) (.cons (.v 9) .nil)))) .nil)) .nil)))
    (.cons (.ret (.k (.bl false)))
    .nil)
    .nil)
    (.cons (.ife (.not (.e (.call 13 0 (.cons (.call 9 0 (.cons (.tup (.cons (.k (.str "not")) (.cons (.v 8) .nil))) (.cons (.v 3) (.cons (.v 5) .nil))) .nil) (.cons (.not (.v 9)) .nil)) .nil)))
    (.cons (.ret (.k (.bl false)))
    .nil)
    .nil)
    .nil)))))
    (.cons (.ife (.cmp .nisn (.call 9 0 (.cons (.k .non) (.cons (.v 3) (.cons (.v 5) .nil))) .nil) (.k (.bl true)))
    (.cons (.ret (.k (.bl false)))
    .nil)
    .nil)
    .nil))))))
    (.cons (.own 10 (.disp (.cons (.call 9 0 (.cons (.tup (.cons (.k (.str "unitary")) (.cons (.k (.str "a")) .nil))) (.cons (.tup (.cons (.k (.str "n")) .nil)) (.cons (.tup (.cons (.k (.int 12)) (.cons (.k (.int 4)) .nil))) .nil))) .nil) (.cons (.call 9 0 (.cons (.tup (.cons (.k (.str "unitary")) (.cons (.k (.str "a")) .nil))) (.cons (.tup (.cons (.k (.str "n")) .nil)) (.cons (.tup (.cons (.k (.int 12)) (.cons (.k (.int 2)) .nil))) .nil))) .nil) (.cons (.call 9 0 (.cons (.tup (.cons (.k (.str "divides")) (.cons (.k (.str "n")) (.cons (.k (.str "a")) .nil)))) (.cons (.tup (.cons (.k (.str "n")) .nil)) (.cons (.tup (.cons (.k (.int 6)) (.cons (.k (.int 6)) .nil))) .nil))) .nil) .nil)))))
    (.cons (.ret (.call 13 0 (.cons (.v 10) (.cons (.fz (.disp (.cons (.k (.bl true)) (.cons (.k (.bl false)) (.cons (.k (.bl true)) .nil))))) .nil)) .nil))
    .nil))))⟩
def tab : List Fn := [f_split_number, f_greatest_common, f_spot, f_term_worth, f_list_atoms, f_is_free_number, f_atom_holds, f_are_coprime, f_truth, f_holds, f__law_bag, f__law_draw, f__law_any, f__law_same, f__law_split, f__law_divs, f__law_gcd, f__law_spot, f__law_term, f__law_is_free, f__law_atom, f__law_truth, f__law_heads, f__law_plain, f__law_any_term, f__law_one_atom, f__law_test, f_law]
theorem t_split_number : tab[0]? = some f_split_number := rfl
theorem t_greatest_common : tab[1]? = some f_greatest_common := rfl
theorem t_spot : tab[2]? = some f_spot := rfl
theorem t_term_worth : tab[3]? = some f_term_worth := rfl
theorem t_list_atoms : tab[4]? = some f_list_atoms := rfl
theorem t_is_free_number : tab[5]? = some f_is_free_number := rfl
theorem t_atom_holds : tab[6]? = some f_atom_holds := rfl
theorem t_are_coprime : tab[7]? = some f_are_coprime := rfl
theorem t_truth : tab[8]? = some f_truth := rfl
theorem t_holds : tab[9]? = some f_holds := rfl
theorem t__law_bag : tab[10]? = some f__law_bag := rfl
theorem t__law_draw : tab[11]? = some f__law_draw := rfl
theorem t__law_any : tab[12]? = some f__law_any := rfl
theorem t__law_same : tab[13]? = some f__law_same := rfl
theorem t__law_split : tab[14]? = some f__law_split := rfl
theorem t__law_divs : tab[15]? = some f__law_divs := rfl
theorem t__law_gcd : tab[16]? = some f__law_gcd := rfl
theorem t__law_spot : tab[17]? = some f__law_spot := rfl
theorem t__law_term : tab[18]? = some f__law_term := rfl
theorem t__law_is_free : tab[19]? = some f__law_is_free := rfl
theorem t__law_atom : tab[20]? = some f__law_atom := rfl
theorem t__law_truth : tab[21]? = some f__law_truth := rfl
theorem t__law_heads : tab[22]? = some f__law_heads := rfl
theorem t__law_plain : tab[23]? = some f__law_plain := rfl
theorem t__law_any_term : tab[24]? = some f__law_any_term := rfl
theorem t__law_one_atom : tab[25]? = some f__law_one_atom := rfl
theorem t__law_test : tab[26]? = some f__law_test := rfl
theorem t_law : tab[27]? = some f_law := rfl
def frees : List Str := ["abs", "all", "any", "int", "isinstance", "len", "list", "range", "repr", "str"]
def con : List (Str × D) := [("LETTERS", (.str "abc")), ("JOINED", (.tup [(.str "and"), (.str "or")]))]
def tb : Tb := mkT tab frees con
theorem m_split_number : matSs tb ⟨f_split_number.nm, defScope (top 1), fun _ => true⟩ f_split_number.body (defBody (top 1)) = true := by decide +kernel
theorem s_split_number : scB f_split_number.nm (f_split_number.nm.take f_split_number.np) (defScope (top 1)) = true := by decide +kernel
theorem m_greatest_common : matSs tb ⟨f_greatest_common.nm, defScope (top 2), fun _ => true⟩ f_greatest_common.body (defBody (top 2)) = true := by decide +kernel
theorem s_greatest_common : scB f_greatest_common.nm (f_greatest_common.nm.take f_greatest_common.np) (defScope (top 2)) = true := by decide +kernel
theorem m_spot : matSs tb ⟨f_spot.nm, defScope (top 5), fun _ => true⟩ f_spot.body (defBody (top 5)) = true := by decide +kernel
theorem s_spot : scB f_spot.nm (f_spot.nm.take f_spot.np) (defScope (top 5)) = true := by decide +kernel
theorem m_term_worth : matSs tb ⟨f_term_worth.nm, defScope (top 6), fun _ => true⟩ f_term_worth.body (defBody (top 6)) = true := by decide +kernel
theorem s_term_worth : scB f_term_worth.nm (f_term_worth.nm.take f_term_worth.np) (defScope (top 6)) = true := by decide +kernel
theorem m_list_atoms : matSs tb ⟨f_list_atoms.nm, defScope (top 9), fun _ => true⟩ f_list_atoms.body (defBody (top 9)) = true := by decide +kernel
theorem s_list_atoms : scB f_list_atoms.nm (f_list_atoms.nm.take f_list_atoms.np) (defScope (top 9)) = true := by decide +kernel
theorem m_is_free_number : matSs tb ⟨f_is_free_number.nm, defScope (top 10), fun _ => true⟩ f_is_free_number.body (defBody (top 10)) = true := by decide +kernel
theorem s_is_free_number : scB f_is_free_number.nm (f_is_free_number.nm.take f_is_free_number.np) (defScope (top 10)) = true := by decide +kernel
theorem m_atom_holds : matSs tb ⟨f_atom_holds.nm, defScope (top 11), fun _ => true⟩ f_atom_holds.body (defBody (top 11)) = true := by decide +kernel
theorem s_atom_holds : scB f_atom_holds.nm (f_atom_holds.nm.take f_atom_holds.np) (defScope (top 11)) = true := by decide +kernel
theorem m_are_coprime : matSs tb ⟨f_are_coprime.nm, defScope (top 12), fun _ => true⟩ f_are_coprime.body (defBody (top 12)) = true := by decide +kernel
theorem s_are_coprime : scB f_are_coprime.nm (f_are_coprime.nm.take f_are_coprime.np) (defScope (top 12)) = true := by decide +kernel
theorem m_truth : matSs tb ⟨f_truth.nm, defScope (top 13), fun _ => true⟩ f_truth.body (defBody (top 13)) = true := by decide +kernel
theorem s_truth : scB f_truth.nm (f_truth.nm.take f_truth.np) (defScope (top 13)) = true := by decide +kernel
theorem m_holds : matSs tb ⟨f_holds.nm, defScope (top 14), fun _ => true⟩ f_holds.body (defBody (top 14)) = true := by decide +kernel
theorem s_holds : scB f_holds.nm (f_holds.nm.take f_holds.np) (defScope (top 14)) = true := by decide +kernel
theorem m__law_bag : matSs tb ⟨f__law_bag.nm, defScope (top 16), fun _ => true⟩ f__law_bag.body (defBody (top 16)) = true := by decide +kernel
theorem s__law_bag : scB f__law_bag.nm (f__law_bag.nm.take f__law_bag.np) (defScope (top 16)) = true := by decide +kernel
theorem m__law_draw : matSs tb ⟨f__law_draw.nm, defScope (top 17), fun _ => true⟩ f__law_draw.body (defBody (top 17)) = true := by decide +kernel
theorem s__law_draw : scB f__law_draw.nm (f__law_draw.nm.take f__law_draw.np) (defScope (top 17)) = true := by decide +kernel
theorem m__law_any : matSs tb ⟨f__law_any.nm, defScope (top 18), fun _ => true⟩ f__law_any.body (defBody (top 18)) = true := by decide +kernel
theorem s__law_any : scB f__law_any.nm (f__law_any.nm.take f__law_any.np) (defScope (top 18)) = true := by decide +kernel
theorem m__law_same : matSs tb ⟨f__law_same.nm, defScope (top 19), fun _ => true⟩ f__law_same.body (defBody (top 19)) = true := by decide +kernel
theorem s__law_same : scB f__law_same.nm (f__law_same.nm.take f__law_same.np) (defScope (top 19)) = true := by decide +kernel
theorem m__law_split : matSs tb ⟨f__law_split.nm, defScope (top 20), fun _ => true⟩ f__law_split.body (defBody (top 20)) = true := by decide +kernel
theorem s__law_split : scB f__law_split.nm (f__law_split.nm.take f__law_split.np) (defScope (top 20)) = true := by decide +kernel
theorem m__law_divs : matSs tb ⟨f__law_divs.nm, defScope (top 21), fun _ => true⟩ f__law_divs.body (defBody (top 21)) = true := by decide +kernel
theorem s__law_divs : scB f__law_divs.nm (f__law_divs.nm.take f__law_divs.np) (defScope (top 21)) = true := by decide +kernel
theorem m__law_gcd : matSs tb ⟨f__law_gcd.nm, defScope (top 22), fun _ => true⟩ f__law_gcd.body (defBody (top 22)) = true := by decide +kernel
theorem s__law_gcd : scB f__law_gcd.nm (f__law_gcd.nm.take f__law_gcd.np) (defScope (top 22)) = true := by decide +kernel
theorem m__law_spot : matSs tb ⟨f__law_spot.nm, defScope (top 23), fun _ => true⟩ f__law_spot.body (defBody (top 23)) = true := by decide +kernel
theorem s__law_spot : scB f__law_spot.nm (f__law_spot.nm.take f__law_spot.np) (defScope (top 23)) = true := by decide +kernel
theorem m__law_term : matSs tb ⟨f__law_term.nm, defScope (top 24), fun _ => true⟩ f__law_term.body (defBody (top 24)) = true := by decide +kernel
theorem s__law_term : scB f__law_term.nm (f__law_term.nm.take f__law_term.np) (defScope (top 24)) = true := by decide +kernel
theorem m__law_is_free : matSs tb ⟨f__law_is_free.nm, defScope (top 25), fun _ => true⟩ f__law_is_free.body (defBody (top 25)) = true := by decide +kernel
theorem s__law_is_free : scB f__law_is_free.nm (f__law_is_free.nm.take f__law_is_free.np) (defScope (top 25)) = true := by decide +kernel
theorem m__law_atom : matSs tb ⟨f__law_atom.nm, defScope (top 26), fun _ => true⟩ f__law_atom.body (defBody (top 26)) = true := by decide +kernel
theorem s__law_atom : scB f__law_atom.nm (f__law_atom.nm.take f__law_atom.np) (defScope (top 26)) = true := by decide +kernel
theorem m__law_truth : matSs tb ⟨f__law_truth.nm, defScope (top 27), fun _ => true⟩ f__law_truth.body (defBody (top 27)) = true := by decide +kernel
theorem s__law_truth : scB f__law_truth.nm (f__law_truth.nm.take f__law_truth.np) (defScope (top 27)) = true := by decide +kernel
theorem m__law_heads : matSs tb ⟨f__law_heads.nm, defScope (top 28), fun _ => true⟩ f__law_heads.body (defBody (top 28)) = true := by decide +kernel
theorem s__law_heads : scB f__law_heads.nm (f__law_heads.nm.take f__law_heads.np) (defScope (top 28)) = true := by decide +kernel
theorem m__law_plain : matSs tb ⟨f__law_plain.nm, defScope (top 29), fun _ => true⟩ f__law_plain.body (defBody (top 29)) = true := by decide +kernel
theorem s__law_plain : scB f__law_plain.nm (f__law_plain.nm.take f__law_plain.np) (defScope (top 29)) = true := by decide +kernel
theorem m__law_any_term : matSs tb ⟨f__law_any_term.nm, defScope (top 30), fun _ => true⟩ f__law_any_term.body (defBody (top 30)) = true := by decide +kernel
theorem s__law_any_term : scB f__law_any_term.nm (f__law_any_term.nm.take f__law_any_term.np) (defScope (top 30)) = true := by decide +kernel
theorem m__law_one_atom : matSs tb ⟨f__law_one_atom.nm, defScope (top 31), fun _ => true⟩ f__law_one_atom.body (defBody (top 31)) = true := by decide +kernel
theorem s__law_one_atom : scB f__law_one_atom.nm (f__law_one_atom.nm.take f__law_one_atom.np) (defScope (top 31)) = true := by decide +kernel
theorem m__law_test : matSs tb ⟨f__law_test.nm, defScope (top 32), fun _ => true⟩ f__law_test.body (defBody (top 32)) = true := by decide +kernel
theorem s__law_test : scB f__law_test.nm (f__law_test.nm.take f__law_test.np) (defScope (top 32)) = true := by decide +kernel
theorem m_law : matSs tb ⟨f_law.nm, defScope (top 33), fun _ => true⟩ f_law.body (defBody (top 33)) = true := by decide +kernel
theorem s_law : scB f_law.nm (f_law.nm.take f_law.np) (defScope (top 33)) = true := by decide +kernel
theorem p_split_number {k : Kx} {a : Addr} {fo : FuncData} (F : FunD k.K "split_number" "split_number" (defArgs (top 1)) (defBody (top 1)) (defScope (top 1)) [] [] a fo) : ∀ q ∈ f_split_number.pats, PatOk k fo (f_split_number.nm.take f_split_number.np) q := by
  intro q hq
  simp only [f_split_number, List.mem_cons, List.mem_nil_iff, or_false] at hq
  subst hq
  exact pat_n F rfl fun _ _ _ _ _ _ us ws h1 h2 => match us, ws, h1, h2 with | [_], [], _, _ => rfl
theorem p_greatest_common {k : Kx} {a : Addr} {fo : FuncData} (F : FunD k.K "greatest_common" "greatest_common" (defArgs (top 2)) (defBody (top 2)) (defScope (top 2)) [] [] a fo) : ∀ q ∈ f_greatest_common.pats, PatOk k fo (f_greatest_common.nm.take f_greatest_common.np) q := by
  intro q hq
  simp only [f_greatest_common, List.mem_cons, List.mem_nil_iff, or_false] at hq
  subst hq
  exact pat_n F rfl fun _ _ _ _ _ _ us ws h1 h2 => match us, ws, h1, h2 with | [_, _], [], _, _ => rfl
theorem p_spot {k : Kx} {a : Addr} {fo : FuncData} (F : FunD k.K "spot" "spot" (defArgs (top 5)) (defBody (top 5)) (defScope (top 5)) [] [] a fo) : ∀ q ∈ f_spot.pats, PatOk k fo (f_spot.nm.take f_spot.np) q := by
  intro q hq
  simp only [f_spot, List.mem_cons, List.mem_nil_iff, or_false] at hq
  subst hq
  exact pat_n F rfl fun _ _ _ _ _ _ us ws h1 h2 => match us, ws, h1, h2 with | [_], [], _, _ => rfl
theorem p_term_worth {k : Kx} {a : Addr} {fo : FuncData} (F : FunD k.K "term_worth" "term_worth" (defArgs (top 6)) (defBody (top 6)) (defScope (top 6)) [] [] a fo) : ∀ q ∈ f_term_worth.pats, PatOk k fo (f_term_worth.nm.take f_term_worth.np) q := by
  intro q hq
  simp only [f_term_worth, List.mem_cons, List.mem_nil_iff, or_false] at hq
  subst hq
  exact pat_n F rfl fun _ _ _ _ _ _ us ws h1 h2 => match us, ws, h1, h2 with | [_, _, _], [], _, _ => rfl
theorem p_list_atoms {k : Kx} {a : Addr} {fo : FuncData} (F : FunD k.K "list_atoms" "list_atoms" (defArgs (top 9)) (defBody (top 9)) (defScope (top 9)) [] [] a fo) : ∀ q ∈ f_list_atoms.pats, PatOk k fo (f_list_atoms.nm.take f_list_atoms.np) q := by
  intro q hq
  simp only [f_list_atoms, List.mem_cons, List.mem_nil_iff, or_false] at hq
  subst hq
  exact pat_n F rfl fun _ _ _ _ _ _ us ws h1 h2 => match us, ws, h1, h2 with | [_], [], _, _ => rfl
theorem p_is_free_number {k : Kx} {a : Addr} {fo : FuncData} (F : FunD k.K "is_free_number" "is_free_number" (defArgs (top 10)) (defBody (top 10)) (defScope (top 10)) [] [] a fo) : ∀ q ∈ f_is_free_number.pats, PatOk k fo (f_is_free_number.nm.take f_is_free_number.np) q := by
  intro q hq
  simp only [f_is_free_number, List.mem_cons, List.mem_nil_iff, or_false] at hq
  subst hq
  exact pat_n F rfl fun _ _ _ _ _ _ us ws h1 h2 => match us, ws, h1, h2 with | [_], [], _, _ => rfl
theorem p_atom_holds {k : Kx} {a : Addr} {fo : FuncData} (F : FunD k.K "atom_holds" "atom_holds" (defArgs (top 11)) (defBody (top 11)) (defScope (top 11)) [] [] a fo) : ∀ q ∈ f_atom_holds.pats, PatOk k fo (f_atom_holds.nm.take f_atom_holds.np) q := by
  intro q hq
  simp only [f_atom_holds, List.mem_cons, List.mem_nil_iff, or_false] at hq
  subst hq
  exact pat_n F rfl fun _ _ _ _ _ _ us ws h1 h2 => match us, ws, h1, h2 with | [_, _, _], [], _, _ => rfl
theorem p_are_coprime {k : Kx} {a : Addr} {fo : FuncData} (F : FunD k.K "are_coprime" "are_coprime" (defArgs (top 12)) (defBody (top 12)) (defScope (top 12)) [] [] a fo) : ∀ q ∈ f_are_coprime.pats, PatOk k fo (f_are_coprime.nm.take f_are_coprime.np) q := by
  intro q hq
  simp only [f_are_coprime, List.mem_cons, List.mem_nil_iff, or_false] at hq
  subst hq
  exact pat_n F rfl fun _ _ _ _ _ _ us ws h1 h2 => match us, ws, h1, h2 with | [_, _], [], _, _ => rfl
theorem p_truth {k : Kx} {a : Addr} {fo : FuncData} (F : FunD k.K "truth" "truth" (defArgs (top 13)) (defBody (top 13)) (defScope (top 13)) [] [] a fo) : ∀ q ∈ f_truth.pats, PatOk k fo (f_truth.nm.take f_truth.np) q := by
  intro q hq
  simp only [f_truth, List.mem_cons, List.mem_nil_iff, or_false] at hq
  subst hq
  exact pat_n F rfl fun _ _ _ _ _ _ us ws h1 h2 => match us, ws, h1, h2 with | [_, _], [], _, _ => rfl
theorem p_holds {k : Kx} {a : Addr} {fo : FuncData} (F : FunD k.K "holds" "holds" (defArgs (top 14)) (defBody (top 14)) (defScope (top 14)) [] [] a fo) : ∀ q ∈ f_holds.pats, PatOk k fo (f_holds.nm.take f_holds.np) q := by
  intro q hq
  simp only [f_holds, List.mem_cons, List.mem_nil_iff, or_false] at hq
  rcases hq with rfl | rfl
  · exact pat_n F rfl fun _ _ _ _ _ _ us ws h1 h2 => match us, ws, h1, h2 with | [_, _, _], [], _, _ => rfl
  · exact pat_n F rfl fun _ _ _ _ _ _ us ws h1 h2 => match us, ws, h1, h2 with | [], [_, _, _], _, _ => rfl
theorem p__law_bag {k : Kx} {a : Addr} {fo : FuncData} (F : FunD k.K "_law_bag" "_law_bag" (defArgs (top 16)) (defBody (top 16)) (defScope (top 16)) [] [] a fo) : ∀ q ∈ f__law_bag.pats, PatOk k fo (f__law_bag.nm.take f__law_bag.np) q := by
  intro q hq
  simp only [f__law_bag, List.mem_cons, List.mem_nil_iff, or_false] at hq
  subst hq
  exact pat_n F rfl fun _ _ _ _ _ _ us ws h1 h2 => match us, ws, h1, h2 with | [_], [], _, _ => rfl
theorem p__law_draw {k : Kx} {a : Addr} {fo : FuncData} (F : FunD k.K "_law_draw" "_law_draw" (defArgs (top 17)) (defBody (top 17)) (defScope (top 17)) [] [] a fo) : ∀ q ∈ f__law_draw.pats, PatOk k fo (f__law_draw.nm.take f__law_draw.np) q := by
  intro q hq
  simp only [f__law_draw, List.mem_cons, List.mem_nil_iff, or_false] at hq
  subst hq
  exact pat_n F rfl fun _ _ _ _ _ _ us ws h1 h2 => match us, ws, h1, h2 with | [_, _], [], _, _ => rfl
theorem p__law_any {k : Kx} {a : Addr} {fo : FuncData} (F : FunD k.K "_law_any" "_law_any" (defArgs (top 18)) (defBody (top 18)) (defScope (top 18)) [] [] a fo) : ∀ q ∈ f__law_any.pats, PatOk k fo (f__law_any.nm.take f__law_any.np) q := by
  intro q hq
  simp only [f__law_any, List.mem_cons, List.mem_nil_iff, or_false] at hq
  subst hq
  exact pat_n F rfl fun _ _ _ _ _ _ us ws h1 h2 => match us, ws, h1, h2 with | [_, _], [], _, _ => rfl
theorem p__law_same {k : Kx} {a : Addr} {fo : FuncData} (F : FunD k.K "_law_same" "_law_same" (defArgs (top 19)) (defBody (top 19)) (defScope (top 19)) [] [] a fo) : ∀ q ∈ f__law_same.pats, PatOk k fo (f__law_same.nm.take f__law_same.np) q := by
  intro q hq
  simp only [f__law_same, List.mem_cons, List.mem_nil_iff, or_false] at hq
  subst hq
  exact pat_n F rfl fun _ _ _ _ _ _ us ws h1 h2 => match us, ws, h1, h2 with | [_, _], [], _, _ => rfl
theorem p__law_split {k : Kx} {a : Addr} {fo : FuncData} (F : FunD k.K "_law_split" "_law_split" (defArgs (top 20)) (defBody (top 20)) (defScope (top 20)) [] [] a fo) : ∀ q ∈ f__law_split.pats, PatOk k fo (f__law_split.nm.take f__law_split.np) q := by
  intro q hq
  simp only [f__law_split, List.mem_cons, List.mem_nil_iff, or_false] at hq
  subst hq
  exact pat_n F rfl fun _ _ _ _ _ _ us ws h1 h2 => match us, ws, h1, h2 with | [_], [], _, _ => rfl
theorem p__law_divs {k : Kx} {a : Addr} {fo : FuncData} (F : FunD k.K "_law_divs" "_law_divs" (defArgs (top 21)) (defBody (top 21)) (defScope (top 21)) [] [] a fo) : ∀ q ∈ f__law_divs.pats, PatOk k fo (f__law_divs.nm.take f__law_divs.np) q := by
  intro q hq
  simp only [f__law_divs, List.mem_cons, List.mem_nil_iff, or_false] at hq
  subst hq
  exact pat_n F rfl fun _ _ _ _ _ _ us ws h1 h2 => match us, ws, h1, h2 with | [_], [], _, _ => rfl
theorem p__law_gcd {k : Kx} {a : Addr} {fo : FuncData} (F : FunD k.K "_law_gcd" "_law_gcd" (defArgs (top 22)) (defBody (top 22)) (defScope (top 22)) [] [] a fo) : ∀ q ∈ f__law_gcd.pats, PatOk k fo (f__law_gcd.nm.take f__law_gcd.np) q := by
  intro q hq
  simp only [f__law_gcd, List.mem_cons, List.mem_nil_iff, or_false] at hq
  subst hq
  exact pat_n F rfl fun _ _ _ _ _ _ us ws h1 h2 => match us, ws, h1, h2 with | [_, _], [], _, _ => rfl
theorem p__law_spot {k : Kx} {a : Addr} {fo : FuncData} (F : FunD k.K "_law_spot" "_law_spot" (defArgs (top 23)) (defBody (top 23)) (defScope (top 23)) [] [] a fo) : ∀ q ∈ f__law_spot.pats, PatOk k fo (f__law_spot.nm.take f__law_spot.np) q := by
  intro q hq
  simp only [f__law_spot, List.mem_cons, List.mem_nil_iff, or_false] at hq
  subst hq
  exact pat_n F rfl fun _ _ _ _ _ _ us ws h1 h2 => match us, ws, h1, h2 with | [_], [], _, _ => rfl
theorem p__law_term {k : Kx} {a : Addr} {fo : FuncData} (F : FunD k.K "_law_term" "_law_term" (defArgs (top 24)) (defBody (top 24)) (defScope (top 24)) [] [] a fo) : ∀ q ∈ f__law_term.pats, PatOk k fo (f__law_term.nm.take f__law_term.np) q := by
  intro q hq
  simp only [f__law_term, List.mem_cons, List.mem_nil_iff, or_false] at hq
  subst hq
  exact pat_n F rfl fun _ _ _ _ _ _ us ws h1 h2 => match us, ws, h1, h2 with | [_, _, _], [], _, _ => rfl
theorem p__law_is_free {k : Kx} {a : Addr} {fo : FuncData} (F : FunD k.K "_law_is_free" "_law_is_free" (defArgs (top 25)) (defBody (top 25)) (defScope (top 25)) [] [] a fo) : ∀ q ∈ f__law_is_free.pats, PatOk k fo (f__law_is_free.nm.take f__law_is_free.np) q := by
  intro q hq
  simp only [f__law_is_free, List.mem_cons, List.mem_nil_iff, or_false] at hq
  subst hq
  exact pat_n F rfl fun _ _ _ _ _ _ us ws h1 h2 => match us, ws, h1, h2 with | [_], [], _, _ => rfl
theorem p__law_atom {k : Kx} {a : Addr} {fo : FuncData} (F : FunD k.K "_law_atom" "_law_atom" (defArgs (top 26)) (defBody (top 26)) (defScope (top 26)) [] [] a fo) : ∀ q ∈ f__law_atom.pats, PatOk k fo (f__law_atom.nm.take f__law_atom.np) q := by
  intro q hq
  simp only [f__law_atom, List.mem_cons, List.mem_nil_iff, or_false] at hq
  subst hq
  exact pat_n F rfl fun _ _ _ _ _ _ us ws h1 h2 => match us, ws, h1, h2 with | [_, _, _], [], _, _ => rfl
theorem p__law_truth {k : Kx} {a : Addr} {fo : FuncData} (F : FunD k.K "_law_truth" "_law_truth" (defArgs (top 27)) (defBody (top 27)) (defScope (top 27)) [] [] a fo) : ∀ q ∈ f__law_truth.pats, PatOk k fo (f__law_truth.nm.take f__law_truth.np) q := by
  intro q hq
  simp only [f__law_truth, List.mem_cons, List.mem_nil_iff, or_false] at hq
  subst hq
  exact pat_n F rfl fun _ _ _ _ _ _ us ws h1 h2 => match us, ws, h1, h2 with | [_, _, _], [], _, _ => rfl
theorem p__law_heads {k : Kx} {a : Addr} {fo : FuncData} (F : FunD k.K "_law_heads" "_law_heads" (defArgs (top 28)) (defBody (top 28)) (defScope (top 28)) [] [] a fo) : ∀ q ∈ f__law_heads.pats, PatOk k fo (f__law_heads.nm.take f__law_heads.np) q := by
  intro q hq
  simp only [f__law_heads, List.mem_cons, List.mem_nil_iff, or_false] at hq
  subst hq
  exact pat_n F rfl fun _ _ _ _ _ _ us ws h1 h2 => match us, ws, h1, h2 with | [_, _], [], _, _ => rfl
theorem p__law_plain {k : Kx} {a : Addr} {fo : FuncData} (F : FunD k.K "_law_plain" "_law_plain" (defArgs (top 29)) (defBody (top 29)) (defScope (top 29)) [] [] a fo) : ∀ q ∈ f__law_plain.pats, PatOk k fo (f__law_plain.nm.take f__law_plain.np) q := by
  intro q hq
  simp only [f__law_plain, List.mem_cons, List.mem_nil_iff, or_false] at hq
  subst hq
  exact pat_n F rfl fun _ _ _ _ _ _ us ws h1 h2 => match us, ws, h1, h2 with | [_, _, _], [], _, _ => rfl
theorem p__law_any_term {k : Kx} {a : Addr} {fo : FuncData} (F : FunD k.K "_law_any_term" "_law_any_term" (defArgs (top 30)) (defBody (top 30)) (defScope (top 30)) [] [] a fo) : ∀ q ∈ f__law_any_term.pats, PatOk k fo (f__law_any_term.nm.take f__law_any_term.np) q := by
  intro q hq
  simp only [f__law_any_term, List.mem_cons, List.mem_nil_iff, or_false] at hq
  subst hq
  exact pat_n F rfl fun _ _ _ _ _ _ us ws h1 h2 => match us, ws, h1, h2 with | [_, _], [], _, _ => rfl
theorem p__law_one_atom {k : Kx} {a : Addr} {fo : FuncData} (F : FunD k.K "_law_one_atom" "_law_one_atom" (defArgs (top 31)) (defBody (top 31)) (defScope (top 31)) [] [] a fo) : ∀ q ∈ f__law_one_atom.pats, PatOk k fo (f__law_one_atom.nm.take f__law_one_atom.np) q := by
  intro q hq
  simp only [f__law_one_atom, List.mem_cons, List.mem_nil_iff, or_false] at hq
  subst hq
  exact pat_n F rfl fun _ _ _ _ _ _ us ws h1 h2 => match us, ws, h1, h2 with | [_, _], [], _, _ => rfl
theorem p__law_test {k : Kx} {a : Addr} {fo : FuncData} (F : FunD k.K "_law_test" "_law_test" (defArgs (top 32)) (defBody (top 32)) (defScope (top 32)) [] [] a fo) : ∀ q ∈ f__law_test.pats, PatOk k fo (f__law_test.nm.take f__law_test.np) q := by
  intro q hq
  simp only [f__law_test, List.mem_cons, List.mem_nil_iff, or_false] at hq
  subst hq
  exact pat_n F rfl fun _ _ _ _ _ _ us ws h1 h2 => match us, ws, h1, h2 with | [_, _, _, _], [], _, _ => rfl
theorem p_law {k : Kx} {a : Addr} {fo : FuncData} (F : FunD k.K "law" "law" (defArgs (top 33)) (defBody (top 33)) (defScope (top 33)) [] [] a fo) : ∀ q ∈ f_law.pats, PatOk k fo (f_law.nm.take f_law.np) q := by
  intro q hq
  simp only [f_law, List.mem_cons, List.mem_nil_iff, or_false] at hq
  subst hq
  exact pat_n F rfl fun _ _ _ _ _ _ us ws h1 h2 => match us, ws, h1, h2 with | [_], [], _, _ => rfl
def d_split_number : He.DefD := ⟨("split_number", none), "split_number", "split_number", defArgs (top 1), defBody (top 1), defScope (top 1), [], []⟩
def d_greatest_common : He.DefD := ⟨("greatest_common", none), "greatest_common", "greatest_common", defArgs (top 2), defBody (top 2), defScope (top 2), [], []⟩
def d_spot : He.DefD := ⟨("spot", none), "spot", "spot", defArgs (top 5), defBody (top 5), defScope (top 5), [], []⟩
def d_term_worth : He.DefD := ⟨("term_worth", none), "term_worth", "term_worth", defArgs (top 6), defBody (top 6), defScope (top 6), [], []⟩
def d_list_atoms : He.DefD := ⟨("list_atoms", none), "list_atoms", "list_atoms", defArgs (top 9), defBody (top 9), defScope (top 9), [], []⟩
def d_is_free_number : He.DefD := ⟨("is_free_number", none), "is_free_number", "is_free_number", defArgs (top 10), defBody (top 10), defScope (top 10), [], []⟩
def d_atom_holds : He.DefD := ⟨("atom_holds", none), "atom_holds", "atom_holds", defArgs (top 11), defBody (top 11), defScope (top 11), [], []⟩
def d_are_coprime : He.DefD := ⟨("are_coprime", none), "are_coprime", "are_coprime", defArgs (top 12), defBody (top 12), defScope (top 12), [], []⟩
def d_truth : He.DefD := ⟨("truth", none), "truth", "truth", defArgs (top 13), defBody (top 13), defScope (top 13), [], []⟩
def d_holds : He.DefD := ⟨("holds", none), "holds", "holds", defArgs (top 14), defBody (top 14), defScope (top 14), [], []⟩
def d__law_bag : He.DefD := ⟨("_law_bag", none), "_law_bag", "_law_bag", defArgs (top 16), defBody (top 16), defScope (top 16), [], []⟩
def d__law_draw : He.DefD := ⟨("_law_draw", none), "_law_draw", "_law_draw", defArgs (top 17), defBody (top 17), defScope (top 17), [], []⟩
def d__law_any : He.DefD := ⟨("_law_any", none), "_law_any", "_law_any", defArgs (top 18), defBody (top 18), defScope (top 18), [], []⟩
def d__law_same : He.DefD := ⟨("_law_same", none), "_law_same", "_law_same", defArgs (top 19), defBody (top 19), defScope (top 19), [], []⟩
def d__law_split : He.DefD := ⟨("_law_split", none), "_law_split", "_law_split", defArgs (top 20), defBody (top 20), defScope (top 20), [], []⟩
def d__law_divs : He.DefD := ⟨("_law_divs", none), "_law_divs", "_law_divs", defArgs (top 21), defBody (top 21), defScope (top 21), [], []⟩
def d__law_gcd : He.DefD := ⟨("_law_gcd", none), "_law_gcd", "_law_gcd", defArgs (top 22), defBody (top 22), defScope (top 22), [], []⟩
def d__law_spot : He.DefD := ⟨("_law_spot", none), "_law_spot", "_law_spot", defArgs (top 23), defBody (top 23), defScope (top 23), [], []⟩
def d__law_term : He.DefD := ⟨("_law_term", none), "_law_term", "_law_term", defArgs (top 24), defBody (top 24), defScope (top 24), [], []⟩
def d__law_is_free : He.DefD := ⟨("_law_is_free", none), "_law_is_free", "_law_is_free", defArgs (top 25), defBody (top 25), defScope (top 25), [], []⟩
def d__law_atom : He.DefD := ⟨("_law_atom", none), "_law_atom", "_law_atom", defArgs (top 26), defBody (top 26), defScope (top 26), [], []⟩
def d__law_truth : He.DefD := ⟨("_law_truth", none), "_law_truth", "_law_truth", defArgs (top 27), defBody (top 27), defScope (top 27), [], []⟩
def d__law_heads : He.DefD := ⟨("_law_heads", none), "_law_heads", "_law_heads", defArgs (top 28), defBody (top 28), defScope (top 28), [], []⟩
def d__law_plain : He.DefD := ⟨("_law_plain", none), "_law_plain", "_law_plain", defArgs (top 29), defBody (top 29), defScope (top 29), [], []⟩
def d__law_any_term : He.DefD := ⟨("_law_any_term", none), "_law_any_term", "_law_any_term", defArgs (top 30), defBody (top 30), defScope (top 30), [], []⟩
def d__law_one_atom : He.DefD := ⟨("_law_one_atom", none), "_law_one_atom", "_law_one_atom", defArgs (top 31), defBody (top 31), defScope (top 31), [], []⟩
def d__law_test : He.DefD := ⟨("_law_test", none), "_law_test", "_law_test", defArgs (top 32), defBody (top 32), defScope (top 32), [], []⟩
def d_law : He.DefD := ⟨("law", none), "law", "law", defArgs (top 33), defBody (top 33), defScope (top 33), [], []⟩
def fn : List He.DefD := [d_split_number, d_greatest_common, d_spot, d_term_worth, d_list_atoms, d_is_free_number, d_atom_holds, d_are_coprime, d_truth, d_holds, d__law_bag, d__law_draw, d__law_any, d__law_same, d__law_split, d__law_divs, d__law_gcd, d__law_spot, d__law_term, d__law_is_free, d__law_atom, d__law_truth, d__law_heads, d__law_plain, d__law_any_term, d__law_one_atom, d__law_test, d_law]
def fa : List He.Fa := frees.map He.Fa.free ++ [.glo "split_number", .glo "greatest_common", .glo "spot", .glo "term_worth", .glo "list_atoms", .glo "is_free_number", .glo "atom_holds", .glo "are_coprime", .glo "truth", .glo "holds", .glo "_law_bag", .glo "_law_draw", .glo "_law_any", .glo "_law_same", .glo "_law_split", .glo "_law_divs", .glo "_law_gcd", .glo "_law_spot", .glo "_law_term", .glo "_law_is_free", .glo "_law_atom", .glo "_law_truth", .glo "_law_heads", .glo "_law_plain", .glo "_law_any_term", .glo "_law_one_atom", .glo "_law_test", .glo "law"]
abbrev R : PySem.W.OpenRow := PySem.W.OpenLaw.row PySem.Challenge.rw_partloops_k14_conditions_hold
abbrev hk : PySem.W.Hook := hookP 4 fa fn con
def ob (s : PySem.W.SharedT) : AlP := obsP 4 fa fn con (HandSHeadRun.getT s)
theorem ob_eq (s : PySem.W.SharedT) : ob s = hk.obs s.abs := obsP_eq (HandSHeadRun.getT_eq s)
def loose : List Str := [("LETTERS" : Str), ("JOINED" : Str), ("split_number" : Str), ("greatest_common" : Str), ("spot" : Str), ("term_worth" : Str), ("list_atoms" : Str), ("is_free_number" : Str), ("atom_holds" : Str), ("are_coprime" : Str), ("truth" : Str), ("holds" : Str), ("_law_bag" : Str), ("_law_draw" : Str), ("_law_any" : Str), ("_law_same" : Str), ("_law_split" : Str), ("_law_divs" : Str), ("_law_gcd" : Str), ("_law_spot" : Str), ("_law_term" : Str), ("_law_is_free" : Str), ("_law_atom" : Str), ("_law_truth" : Str), ("_law_heads" : Str), ("_law_plain" : Str), ("_law_any_term" : Str), ("_law_one_atom" : Str), ("_law_test" : Str)]
theorem run (w : World) : HandSHeadRun.RunEq R (PySem.W.view R.prog [33]) hk ob 4000 loose w := by
  intro os
  kernel_rfl
theorem stands {P : Program} {w : World} {K : PySem.W.Frag} {h : Heap} {mg : Str → Option Value} {base : Heap} (X : K.In h) (G : h.Ns mainGlobals mg) (c : SaysP fa fn con K) : ∀ n, ∀ fd ∈ tb.tab, FnAt tb P w K mg base n fd := by
  refine fns_ok (free_mk X G c) (con_mk X G c) fun fd hfd => ?_
  simp only [tb, mkT, tab, List.mem_cons, List.mem_nil_iff, or_false] at hfd
  rcases hfd with rfl | rfl | rfl | rfl | rfl | rfl | rfl | rfl | rfl | rfl | rfl | rfl | rfl | rfl | rfl | rfl | rfl | rfl | rfl | rfl | rfl | rfl | rfl | rfl | rfl | rfl | rfl | rfl
  · obtain ⟨fo, F⟩ := c.d.def_ 0 (d := d_split_number) rfl
    exact fnst_of F (He.glo_ok X G (c.d.fact 10 (f := .glo "split_number") rfl)) (p_split_number F) (scB_ok s_split_number) (by decide) m_split_number
  · obtain ⟨fo, F⟩ := c.d.def_ 1 (d := d_greatest_common) rfl
    exact fnst_of F (He.glo_ok X G (c.d.fact 11 (f := .glo "greatest_common") rfl)) (p_greatest_common F) (scB_ok s_greatest_common) (by decide) m_greatest_common
  · obtain ⟨fo, F⟩ := c.d.def_ 2 (d := d_spot) rfl
    exact fnst_of F (He.glo_ok X G (c.d.fact 12 (f := .glo "spot") rfl)) (p_spot F) (scB_ok s_spot) (by decide) m_spot
  · obtain ⟨fo, F⟩ := c.d.def_ 3 (d := d_term_worth) rfl
    exact fnst_of F (He.glo_ok X G (c.d.fact 13 (f := .glo "term_worth") rfl)) (p_term_worth F) (scB_ok s_term_worth) (by decide) m_term_worth
  · obtain ⟨fo, F⟩ := c.d.def_ 4 (d := d_list_atoms) rfl
    exact fnst_of F (He.glo_ok X G (c.d.fact 14 (f := .glo "list_atoms") rfl)) (p_list_atoms F) (scB_ok s_list_atoms) (by decide) m_list_atoms
  · obtain ⟨fo, F⟩ := c.d.def_ 5 (d := d_is_free_number) rfl
    exact fnst_of F (He.glo_ok X G (c.d.fact 15 (f := .glo "is_free_number") rfl)) (p_is_free_number F) (scB_ok s_is_free_number) (by decide) m_is_free_number
  · obtain ⟨fo, F⟩ := c.d.def_ 6 (d := d_atom_holds) rfl
    exact fnst_of F (He.glo_ok X G (c.d.fact 16 (f := .glo "atom_holds") rfl)) (p_atom_holds F) (scB_ok s_atom_holds) (by decide) m_atom_holds
  · obtain ⟨fo, F⟩ := c.d.def_ 7 (d := d_are_coprime) rfl
    exact fnst_of F (He.glo_ok X G (c.d.fact 17 (f := .glo "are_coprime") rfl)) (p_are_coprime F) (scB_ok s_are_coprime) (by decide) m_are_coprime
  · obtain ⟨fo, F⟩ := c.d.def_ 8 (d := d_truth) rfl
    exact fnst_of F (He.glo_ok X G (c.d.fact 18 (f := .glo "truth") rfl)) (p_truth F) (scB_ok s_truth) (by decide) m_truth
  · obtain ⟨fo, F⟩ := c.d.def_ 9 (d := d_holds) rfl
    exact fnst_of F (He.glo_ok X G (c.d.fact 19 (f := .glo "holds") rfl)) (p_holds F) (scB_ok s_holds) (by decide) m_holds
  · obtain ⟨fo, F⟩ := c.d.def_ 10 (d := d__law_bag) rfl
    exact fnst_of F (He.glo_ok X G (c.d.fact 20 (f := .glo "_law_bag") rfl)) (p__law_bag F) (scB_ok s__law_bag) (by decide) m__law_bag
  · obtain ⟨fo, F⟩ := c.d.def_ 11 (d := d__law_draw) rfl
    exact fnst_of F (He.glo_ok X G (c.d.fact 21 (f := .glo "_law_draw") rfl)) (p__law_draw F) (scB_ok s__law_draw) (by decide) m__law_draw
  · obtain ⟨fo, F⟩ := c.d.def_ 12 (d := d__law_any) rfl
    exact fnst_of F (He.glo_ok X G (c.d.fact 22 (f := .glo "_law_any") rfl)) (p__law_any F) (scB_ok s__law_any) (by decide) m__law_any
  · obtain ⟨fo, F⟩ := c.d.def_ 13 (d := d__law_same) rfl
    exact fnst_of F (He.glo_ok X G (c.d.fact 23 (f := .glo "_law_same") rfl)) (p__law_same F) (scB_ok s__law_same) (by decide) m__law_same
  · obtain ⟨fo, F⟩ := c.d.def_ 14 (d := d__law_split) rfl
    exact fnst_of F (He.glo_ok X G (c.d.fact 24 (f := .glo "_law_split") rfl)) (p__law_split F) (scB_ok s__law_split) (by decide) m__law_split
  · obtain ⟨fo, F⟩ := c.d.def_ 15 (d := d__law_divs) rfl
    exact fnst_of F (He.glo_ok X G (c.d.fact 25 (f := .glo "_law_divs") rfl)) (p__law_divs F) (scB_ok s__law_divs) (by decide) m__law_divs
  · obtain ⟨fo, F⟩ := c.d.def_ 16 (d := d__law_gcd) rfl
    exact fnst_of F (He.glo_ok X G (c.d.fact 26 (f := .glo "_law_gcd") rfl)) (p__law_gcd F) (scB_ok s__law_gcd) (by decide) m__law_gcd
  · obtain ⟨fo, F⟩ := c.d.def_ 17 (d := d__law_spot) rfl
    exact fnst_of F (He.glo_ok X G (c.d.fact 27 (f := .glo "_law_spot") rfl)) (p__law_spot F) (scB_ok s__law_spot) (by decide) m__law_spot
  · obtain ⟨fo, F⟩ := c.d.def_ 18 (d := d__law_term) rfl
    exact fnst_of F (He.glo_ok X G (c.d.fact 28 (f := .glo "_law_term") rfl)) (p__law_term F) (scB_ok s__law_term) (by decide) m__law_term
  · obtain ⟨fo, F⟩ := c.d.def_ 19 (d := d__law_is_free) rfl
    exact fnst_of F (He.glo_ok X G (c.d.fact 29 (f := .glo "_law_is_free") rfl)) (p__law_is_free F) (scB_ok s__law_is_free) (by decide) m__law_is_free
  · obtain ⟨fo, F⟩ := c.d.def_ 20 (d := d__law_atom) rfl
    exact fnst_of F (He.glo_ok X G (c.d.fact 30 (f := .glo "_law_atom") rfl)) (p__law_atom F) (scB_ok s__law_atom) (by decide) m__law_atom
  · obtain ⟨fo, F⟩ := c.d.def_ 21 (d := d__law_truth) rfl
    exact fnst_of F (He.glo_ok X G (c.d.fact 31 (f := .glo "_law_truth") rfl)) (p__law_truth F) (scB_ok s__law_truth) (by decide) m__law_truth
  · obtain ⟨fo, F⟩ := c.d.def_ 22 (d := d__law_heads) rfl
    exact fnst_of F (He.glo_ok X G (c.d.fact 32 (f := .glo "_law_heads") rfl)) (p__law_heads F) (scB_ok s__law_heads) (by decide) m__law_heads
  · obtain ⟨fo, F⟩ := c.d.def_ 23 (d := d__law_plain) rfl
    exact fnst_of F (He.glo_ok X G (c.d.fact 33 (f := .glo "_law_plain") rfl)) (p__law_plain F) (scB_ok s__law_plain) (by decide) m__law_plain
  · obtain ⟨fo, F⟩ := c.d.def_ 24 (d := d__law_any_term) rfl
    exact fnst_of F (He.glo_ok X G (c.d.fact 34 (f := .glo "_law_any_term") rfl)) (p__law_any_term F) (scB_ok s__law_any_term) (by decide) m__law_any_term
  · obtain ⟨fo, F⟩ := c.d.def_ 25 (d := d__law_one_atom) rfl
    exact fnst_of F (He.glo_ok X G (c.d.fact 35 (f := .glo "_law_one_atom") rfl)) (p__law_one_atom F) (scB_ok s__law_one_atom) (by decide) m__law_one_atom
  · obtain ⟨fo, F⟩ := c.d.def_ 26 (d := d__law_test) rfl
    exact fnst_of F (He.glo_ok X G (c.d.fact 36 (f := .glo "_law_test") rfl)) (p__law_test F) (scB_ok s__law_test) (by decide) m__law_test
  · obtain ⟨fo, F⟩ := c.d.def_ 27 (d := d_law) rfl
    exact fnst_of F (He.glo_ok X G (c.d.fact 37 (f := .glo "law") rfl)) (p_law F) (scB_ok s_law) (by decide) m_law
end Gk14

set_option Elab.async false
set_option linter.all false
set_option maxRecDepth 100000
set_option maxHeartbeats 4000000
namespace Pc
open PySem
def Res.wp {α : Type} (r : Res α) (Q : α → Ss → Prop) : Prop := match r with
  | .ok a s => Q a s
  | _ => False
def Cr.wp (r : Cr) (Q : W → List Cl → Prop) : Prop := match r with
  | .ok w g => Q w g
  | _ => False
section
variable {α β : Type} {r : Res α} {f : α → Ss → Res β} {Q : β → Ss → Prop} {s : Ss} {o : Or}
theorem wp_bind : (r.bind f).wp Q = r.wp fun a s => (f a s).wp Q := by cases r <;> rfl
theorem wp_ok {a : β} : (Res.ok a s).wp Q = Q a s := rfl
theorem wp_ite {c : Bool} {x y : Res β} : (if c = true then x else y).wp Q = if c = true then x.wp Q else y.wp Q := by cases c <;> rfl
theorem wp_iteP {c : Prop} [Decidable c] {x y : Res β} : (if c then x else y).wp Q = if c then x.wp Q else y.wp Q := by split <;> rfl
theorem wp_mono {Q' : β → Ss → Prop} {r : Res β} (h : r.wp Q) (k : ∀ a s, Q a s → Q' a s) : r.wp Q' := by
  cases r with
  | ok a s => exact k a s h
  | exc _ _ => exact h
  | stuck => exact h
theorem cwp_mono {r : Cr} {Q Q' : W → List Cl → Prop} (h : r.wp Q) (k : ∀ a s, Q a s → Q' a s) : r.wp Q' := by
  cases r with
  | ok a s => exact k a s h
  | exc _ _ => exact h
  | stuck => exact h
/-- a call -/
theorem wp_call {f p : Nat} {es kes : Exs} {Q : W → Ss → Prop} : (ev o (.call f p es kes) s).wp Q = (evs o es s).wp fun ws s1 => (evs o kes s1).wp fun zs s2 => (o f p ws zs s2.g).wp fun w g => w.isB = false ∧ Q w { s2 with g := g } := by
  rw [ev, wp_bind]
  congr 1
  funext ws s1
  rw [wp_bind]
  congr 1
  funext zs s2
  cases o f p ws zs s2.g with
  | ok w g =>
    show Res.wp (if w.isB = true then .stuck else .ok w { s2 with g := g }) Q = _
    cases h : w.isB <;> simp [Res.wp, Cr.wp, h]
  | exc _ _ => rfl
  | stuck => rfl
def endW (Q : W → List Cl → Prop) : Fl → Ss → Prop
  | .rt w, s => Q w s.g
  | .nx, s => Q (.d .non) s.g
  | _, _ => False
theorem run_wp {tab : List Fn} {n f p : Nat} {ws zs as : List W} {g : List Cl} {fd : Fn} {Q : W → List Cl → Prop} (h1 : tab[f]? = some fd) (h2 : argsOf fd p ws zs = some as) (h : (exs (run tab n) fd.body ⟨g, startR fd as⟩).wp (endW Q)) :
    (run tab (n + 1) f p ws zs g).wp Q := by
  unfold run
  rw [h1]
  dsimp only
  rw [h2]
  dsimp only
  unfold runB
  cases e : exs (run tab n) fd.body ⟨g, startR fd as⟩ with
  | ok c s =>
    rw [e] at h
    cases c <;> exact h
  | exc _ _ => rw [e] at h; exact h.elim
  | stuck => rw [e] at h; exact h.elim
end
theorem of_ok {α : Type} {a : α} {s : Ss} : Res.of (some a) s = .ok a s := rfl
end Pc

set_option Elab.async false
set_option linter.all false
set_option maxRecDepth 100000
set_option maxHeartbeats 4000000
namespace Pc
open PySem
def opt {α β : Type} (x : Option α) (f : α → Res β) : Res β := match x with
  | some a => f a
  | none => .stuck
def cnd {β : Type} (c : Bool) (a b : Res β) : Res β := match c with
  | true => a
  | false => b
def asD {β : Type} (w : W) (f : D → Res β) : Res β := match w with
  | .d x => f x
  | _ => .stuck
def asI {β : Type} (w : W) (f : Int → Res β) : Res β := match w with
  | .d (.int x) => f x
  | _ => .stuck
def asB {β : Type} (w : W) (f : Bool → Res β) : Res β := match w with
  | .d (.bl x) => f x
  | _ => .stuck
def asS {β : Type} (w : W) (f : Str → Res β) : Res β := match w with
  | .d (.str x) => f x
  | _ => .stuck
def asL {β : Type} (w : W) (f : List D → Res β) : Res β := match w with
  | .d (.lst x) => f x
  | _ => .stuck
def asLD {β : Type} (w : D) (f : List D → Res β) : Res β := match w with
  | .lst x => f x
  | _ => .stuck
def asLT {β : Type} (w : D) (f : List D → Res β) : Res β := match w with
  | .lst x => f x
  | .tup x => f x
  | _ => .stuck
def nB {β : Type} (w : W) (f : Res β) : Res β := match w with
  | .b _ => .stuck
  | _ => f
def slV (g : List Cl) (r : List Sl) (i : Nat) (x : Option Sl) : Res W := match x with
  | some (.w x) => .ok x ⟨g, r⟩
  | some (.own l) => .ok (.d (.lst l)) ⟨g, r.set i (.w (.d (.lst l)))⟩
  | _ => .stuck
def slB (g : List Cl) (r : List Sl) (i : Nat) (x : Option Sl) : Res W := match x with
  | some (.w x) => .ok x ⟨g, r⟩
  | some (.own l) => .ok (.b i) ⟨g, r⟩
  | _ => .stuck
def lkC (x : Option Cl) : Option D := match x with
  | some (.lst l) => some (.lst l)
  | some (.fz l) => some (.lst l)
  | _ => none
def lkB (x : Option Sl) : Option D := match x with
  | some (.own l) => some (.lst l)
  | some (.w (.d x)) => some x
  | _ => none
def llC (x : Option Cl) : Option (List D) := match x with
  | some (.lst l) => some l
  | _ => none
def llB (x : Option Sl) : Option (List D) := match x with
  | some (.own l) => some l
  | some (.w (.d (.lst l))) => some l
  | _ => none
def glB' (x : Option Sl) : Option (List D) := match x with
  | some (.own l) => some l
  | _ => none
def cbind {β : Type} (r : Cr) (f : W → List Cl → Res β) (e : D → List Cl → Res β) : Res β := match r with
  | .ok w g => nB w (f w g)
  | .exc x g => e x g
  | .stuck => .stuck
def fin (r : Res Fl) : Cr := match r with
  | .ok (.rt w) s => .ok w s.g
  | .ok .nx s => .ok (.d .non) s.g
  | .exc e s => .exc e s.g
  | _ => .stuck
section cg
variable {α β : Type}
theorem b_ok {a : α} {s : Ss} {f : α → Ss → Res β} : (Res.ok a s).bind f = f a s := rfl
theorem b_exc {a : D} {s : Ss} {f : α → Ss → Res β} : (Res.exc a s).bind f = .exc a s := rfl
theorem opt_some {a : α} {f : α → Res β} : opt (some a) f = f a := rfl
theorem cnd_t {a b : Res β} : cnd true a b = a := rfl
theorem cnd_f {a b : Res β} : cnd false a b = b := rfl
theorem asD_d {x : D} {f : D → Res β} : asD (.d x) f = f x := rfl
theorem asI_i {x : Int} {f : Int → Res β} : asI (.d (.int x)) f = f x := rfl
theorem asB_b {x : Bool} {f : Bool → Res β} : asB (.d (.bl x)) f = f x := rfl
theorem asS_s {x : Str} {f : Str → Res β} : asS (.d (.str x)) f = f x := rfl
theorem asL_l {x : List D} {f : List D → Res β} : asL (.d (.lst x)) f = f x := rfl
theorem asLD_l {x : List D} {f : List D → Res β} : asLD (.lst x) f = f x := rfl
theorem asLT_l {x : List D} {f : List D → Res β} : asLT (.lst x) f = f x := rfl
theorem asLT_t {x : List D} {f : List D → Res β} : asLT (.tup x) f = f x := rfl
theorem nB_d {x : D} {f : Res β} : nB (.d x) f = f := rfl
theorem nB_c {x : Nat} {f : Res β} : nB (.c x) f = f := rfl
theorem cb_ok {w : W} {g : List Cl} {f : W → List Cl → Res β} {e : D → List Cl → Res β} : cbind (.ok w g) f e = nB w (f w g) := rfl
theorem cb_exc {w : D} {g : List Cl} {f : W → List Cl → Res β} {e : D → List Cl → Res β} : cbind (.exc w g) f e = e w g := rfl
@[simp] theorem slV_w {g : List Cl} {r : List Sl} {i : Nat} {x : W} : slV g r i (some (.w x)) = .ok x ⟨g, r⟩ := rfl
@[simp] theorem slV_o {g : List Cl} {r : List Sl} {i : Nat} {l : List D} : slV g r i (some (.own l)) = .ok (.d (.lst l)) ⟨g, r.set i (.w (.d (.lst l)))⟩ := rfl
@[simp] theorem slB_w {g : List Cl} {r : List Sl} {i : Nat} {x : W} : slB g r i (some (.w x)) = .ok x ⟨g, r⟩ := rfl
@[simp] theorem slB_o {g : List Cl} {r : List Sl} {i : Nat} {l : List D} : slB g r i (some (.own l)) = .ok (.b i) ⟨g, r⟩ := rfl
@[simp] theorem lkC_l {l : List D} : lkC (some (.lst l)) = some (.lst l) := rfl
@[simp] theorem lkC_f {l : List D} : lkC (some (.fz l)) = some (.lst l) := rfl
@[simp] theorem lkB_o {l : List D} : lkB (some (.own l)) = some (.lst l) := rfl
@[simp] theorem lkB_w {x : D} : lkB (some (.w (.d x))) = some x := rfl
@[simp] theorem llC_l {l : List D} : llC (some (.lst l)) = some l := rfl
@[simp] theorem llB_o {l : List D} : llB (some (.own l)) = some l := rfl
@[simp] theorem llB_w {l : List D} : llB (some (.w (.d (.lst l)))) = some l := rfl
@[simp] theorem glB_o {l : List D} : glB' (some (.own l)) = some l := rfl
@[simp] theorem fin_rt {w : W} {s : Ss} : fin (.ok (.rt w) s) = .ok w s.g := rfl
@[simp] theorem fin_nx {s : Ss} : fin (.ok .nx s) = .ok (.d .non) s.g := rfl
@[simp] theorem fin_exc {x : D} {s : Ss} : fin (.exc x s) = .exc x s.g := rfl
theorem wp_cnd {c : Bool} {a b : Res β} {Q : β → Ss → Prop} (h1 : c = true → a.wp Q) (h2 : c = false → b.wp Q) : (cnd c a b).wp Q := by
  cases c
  · exact h2 rfl
  · exact h1 rfl
theorem wp_cndT {c : Bool} {a b : Res β} {Q : β → Ss → Prop} (h1 : c = true) (h : a.wp Q) : (cnd c a b).wp Q := by subst h1; exact h
theorem wp_cndF {c : Bool} {a b : Res β} {Q : β → Ss → Prop} (h1 : c = false) (h : b.wp Q) : (cnd c a b).wp Q := by subst h1; exact h
theorem wp_cb {r : Cr} {f : W → List Cl → Res β} {e : D → List Cl → Res β} {Q : β → Ss → Prop} {R : W → List Cl → Prop} (h : r.wp R) (k : ∀ w g, R w g → (nB w (f w g)).wp Q) : (cbind r f e).wp Q := by
  cases r with
  | ok w g => exact k w g h
  | exc _ _ => exact h.elim
  | stuck => exact h.elim
/-- a call that hands back data -/
theorem wp_cbD {r : Cr} {f : W → List Cl → Res β} {e : D → List Cl → Res β} {Q : β → Ss → Prop} {R : W → List Cl → Prop} (h : r.wp R) (k : ∀ w g, R w g → ∃ x, w = .d x ∧ (f (.d x) g).wp Q) : (cbind r f e).wp Q :=
  wp_cb h fun w g hw => by
    obtain ⟨x, rfl, q⟩ := k w g hw
    exact q
theorem wp_fin {r : Res Fl} {Q : W → List Cl → Prop} : (fin r).wp Q = r.wp (endW Q) := by
  cases r with
  | ok c s => cases c <;> rfl
  | exc _ _ => rfl
  | stuck => rfl
theorem wp_iff {a : α} {s : Ss} {Q : α → Ss → Prop} : (Res.ok a s).wp Q = Q a s := rfl
theorem cwp_ok {a : W} {g : List Cl} {Q : W → List Cl → Prop} : (Cr.ok a g).wp Q = Q a g := rfl
@[simp] theorem endW_rt {Q : W → List Cl → Prop} {w : W} {s : Ss} : endW Q (.rt w) s = Q w s.g := rfl
@[simp] theorem endW_nx {Q : W → List Cl → Prop} {s : Ss} : endW Q .nx s = Q (.d .non) s.g := rfl
theorem eq_wp {r : Cr} {d : W} {g : List Cl} (h : r.wp fun w g' => w = d ∧ g' = g) : r = .ok d g := by
  cases r with
  | ok w g' => obtain ⟨rfl, rfl⟩ := h; rfl
  | exc _ _ => exact h.elim
  | stuck => exact h.elim
theorem wp_eq {r : Cr} {Q : W → List Cl → Prop} (h : r.wp Q) : ∃ w g, r = .ok w g ∧ Q w g := by
  cases r with
  | ok w g' => exact ⟨w, g', rfl, h⟩
  | exc _ _ => exact h.elim
  | stuck => exact h.elim
theorem res_eq {r : Res α} {Q : α → Ss → Prop} (h : r.wp Q) : ∃ w g, r = .ok w g ∧ Q w g := by
  cases r with
  | ok w g' => exact ⟨w, g', rfl, h⟩
  | exc _ _ => exact h.elim
  | stuck => exact h.elim
theorem of_opt {x : Option α} {s : Ss} : Res.of x s = opt x fun a => .ok a s := by cases x <;> rfl
theorem ite_cnd {c : Prop} [Decidable c] {a b : Res β} : (if c then a else b) = cnd (decide c) a b := by
  by_cases h : c
  · rw [if_pos h, decide_eq_true h]; rfl
  · rw [if_neg h, decide_eq_false h]; rfl
theorem iteb_cnd {c : Bool} {a b : Res β} : (if c = true then a else b) = cnd c a b := by cases c <;> rfl
theorem opt_map {γ : Type} {x : Option α} {h : α → γ} {f : γ → Res β} : opt (x.map h) f = opt x fun a => f (h a) := by cases x <;> rfl
end cg
section
variable {g : List Cl} {r : List Sl} {s : Ss}
@[simp] theorem lk_d {x : D} : look s (.d x) = some x := rfl
@[simp] theorem lk_c {n : Nat} : look s (.c n) = lkC s.g[n]? := by
  unfold look lkC
  dsimp only
  all_goals
    cases s.g[n]? with
    | none => rfl
    | some c => cases c <;> rfl
@[simp] theorem lk_b {n : Nat} : look s (.b n) = lkB s.r[n]? := by
  unfold look lkB
  dsimp only
  all_goals
    cases s.r[n]? with
    | none => rfl
    | some c => cases c with
      | no => rfl
      | own _ => rfl
      | w x => cases x <;> rfl
@[simp] theorem ll_d {x : List D} : lookL s (.d (.lst x)) = some x := rfl
@[simp] theorem ll_c {n : Nat} : lookL s (.c n) = llC s.g[n]? := by
  unfold lookL llC
  dsimp only
  all_goals
    cases s.g[n]? with
    | none => rfl
    | some c => cases c <;> rfl
@[simp] theorem ll_b {n : Nat} : lookL s (.b n) = llB s.r[n]? := by
  unfold lookL llB
  dsimp only
  all_goals
    cases s.r[n]? with
    | none => rfl
    | some c => cases c with
      | no => rfl
      | own _ => rfl
      | w x => cases x with
        | d y => cases y <;> rfl
        | c _ => rfl
        | b _ => rfl
@[simp] theorem gl_c {n : Nat} : getL s (.c n) = llC s.g[n]? := by
  unfold getL llC
  dsimp only
  all_goals
    cases s.g[n]? with
    | none => rfl
    | some c => cases c <;> rfl
@[simp] theorem gl_b {n : Nat} : getL s (.b n) = glB' s.r[n]? := by
  unfold getL glB'
  dsimp only
  all_goals
    cases s.r[n]? with
    | none => rfl
    | some c => cases c <;> rfl
def ptC (s : Ss) (n : Nat) (l : List D) (x : Option Cl) : Option Ss := match x with
  | some (.lst _) => some { s with g := s.g.set n (.lst l) }
  | _ => none
def ptB (s : Ss) (n : Nat) (l : List D) (x : Option Sl) : Option Ss := match x with
  | some (.own _) => some { s with r := s.r.set n (.own l) }
  | _ => none
@[simp] theorem pt_c {n : Nat} {l : List D} : putL s (.c n) l = ptC s n l s.g[n]? := by
  unfold putL ptC
  dsimp only
  all_goals
    cases s.g[n]? with
    | none => rfl
    | some c => cases c <;> rfl
@[simp] theorem pt_b {n : Nat} {l : List D} : putL s (.b n) l = ptB s n l s.r[n]? := by
  unfold putL ptB
  dsimp only
  all_goals
    cases s.r[n]? with
    | none => rfl
    | some c => cases c <;> rfl
@[simp] theorem ptC_l {n : Nat} {l m : List D} : ptC s n l (some (.lst m)) = some ⟨s.g.set n (.lst l), s.r⟩ := rfl
@[simp] theorem ptB_o {n : Nat} {l m : List D} : ptB s n l (some (.own m)) = some ⟨s.g, s.r.set n (.own l)⟩ := rfl
@[simp] theorem dOf_d {x : D} : dOf (.d x) = some x := rfl
@[simp] theorem dsOf_nil : dsOf [] = some [] := rfl
def optM {α β : Type} (x : Option α) (f : α → Option β) : Option β := match x with
  | some a => f a
  | none => none
@[simp] theorem optM_some {α β : Type} {a : α} {f : α → Option β} : optM (some a) f = f a := rfl
@[simp] theorem dsOf_cons {x : D} {l : List W} : dsOf (.d x :: l) = optM (dsOf l) fun m => some (x :: m) := by
  show (dsOf l).map _ = _
  cases dsOf l <;> rfl
@[simp] theorem lks_nil : looks s [] = some [] := rfl
@[simp] theorem lks_cons {w : W} {l : List W} : looks s (w :: l) = optM (look s w) fun a => optM (looks s l) fun b => some (a :: b) := by
  show (match look s w, looks s l with | some a, some b => some (a :: b) | _, _ => none) = _
  cases look s w <;> cases looks s l <;> rfl
end
section
variable {o : Or} {s : Ss}
theorem q_v0 {g : List Cl} {r : List Sl} {i : Nat} : ev o (.v i) ⟨g, r⟩ = slV g r i r[i]? := by
  rw [ev]
  unfold slV
  dsimp only
  all_goals
    cases r[i]? with
    | none => rfl
    | some c => cases c <;> rfl
theorem q_b0 {g : List Cl} {r : List Sl} {i : Nat} : ev o (.b i) ⟨g, r⟩ = slB g r i r[i]? := by
  rw [ev]
  unfold slB
  dsimp only
  all_goals
    cases r[i]? with
    | none => rfl
    | some c => cases c <;> rfl
theorem q_k0 {x : D} : ev o (.k x) s = .ok (.d x) s := by rw [ev]
theorem q_gk0 {n : Str} {x : D} : ev o (.gk n x) s = .ok (.d x) s := by rw [ev]
theorem two_opt {β : Type} {x y : Option D} {f : D → D → Res β} : (match x, y with | some p, some q => f p q | _, _ => .stuck) = opt x fun p => opt y fun q => f p q := by cases x <;> cases y <;> rfl
theorem q_op0 {f : O2} {a b : Ex} : ev o (.op f a b) s = (ev o a s).bind fun x s1 => (ev o b s1).bind fun y s2 => opt (look s2 x) fun p => opt (look s2 y) fun q => opt (opD f p q) fun d => .ok (.d d) s2 := by
  rw [ev]
  refine congrArg (Res.bind _) (funext fun x => funext fun s1 => ?_)
  refine congrArg (Res.bind _) (funext fun y => funext fun s2 => ?_)
  cases look s2 x <;> cases look s2 y <;> try rfl
  show Res.of _ _ = _
  rw [of_opt, opt_map]
  rfl
theorem q_neg0 {a : Ex} : ev o (.neg a) s = (ev o a s).bind fun x s1 => asI x fun i => .ok (.d (.int (-i))) s1 := by
  rw [ev]
  refine congrArg (Res.bind _) (funext fun x => funext fun s1 => ?_)
  cases x with
  | d x => cases x <;> rfl
  | c _ => rfl
  | b _ => rfl
theorem q_cmp0 {f : C2} {a b : Ex} : ev o (.cmp f a b) s = (ev o a s).bind fun x s1 => (ev o b s1).bind fun y s2 => opt (look s2 x) fun p => opt (look s2 y) fun q => opt (cmpD f p q) fun d => .ok (.d (.bl d)) s2 := by
  rw [ev]
  refine congrArg (Res.bind _) (funext fun x => funext fun s1 => ?_)
  refine congrArg (Res.bind _) (funext fun y => funext fun s2 => ?_)
  cases look s2 x <;> cases look s2 y <;> try rfl
  show Res.of _ _ = _
  rw [of_opt, opt_map]
  rfl
theorem q_cmp20 {f g : C2} {a b c : Ex} : ev o (.cmp2 f g a b c) s = (ev o a s).bind fun x s1 => (ev o b s1).bind fun y s2 => opt (look s2 x) fun p => opt (look s2 y) fun q => opt (cmpD f p q) fun d =>
    cnd d ((ev o c s2).bind fun z s3 => opt (look s3 y) fun q' => opt (look s3 z) fun u => opt (cmpD g q' u) fun d => .ok (.d (.bl d)) s3) (.ok (.d (.bl false)) s2) := by
  rw [ev]
  refine congrArg (Res.bind _) (funext fun x => funext fun s1 => ?_)
  refine congrArg (Res.bind _) (funext fun y => funext fun s2 => ?_)
  cases look s2 x with
  | none => rfl
  | some p => cases look s2 y with
    | none => rfl
    | some q =>
      dsimp only [opt]
      cases cmpD f p q with
      | none => rfl
      | some d => cases d with
        | false => rfl
        | true =>
          dsimp only [cnd]
          refine congrArg (Res.bind _) (funext fun z => funext fun s3 => ?_)
          cases look s3 y <;> cases look s3 z <;> try rfl
          show Res.of _ _ = _
          rw [of_opt, opt_map]
          rfl
theorem q_bop10 {an : Bool} {e : Ex} : ev o (.bop an (.cons e .nil)) s = ev o e s := by rw [ev, evB]
theorem q_bop0 {an : Bool} {e e' : Ex} {r : Exs} : ev o (.bop an (.cons e (.cons e' r))) s = (ev o e s).bind fun x s1 => asB x fun c => cnd (c == an) (ev o (.bop an (.cons e' r)) s1) (.ok (.d (.bl c)) s1) := by
  rw [ev, evB]
  refine congrArg (Res.bind _) (funext fun x => funext fun s1 => ?_)
  cases x with
  | d x => cases x <;> try rfl
           show (if _ then _ else _) = _
           rw [iteb_cnd]
           rw [ev]
           rfl
  | c _ => rfl
  | b _ => rfl
theorem q_not0 {a : Ex} : ev o (.not a) s = (ev o a s).bind fun x s1 => asB x fun c => .ok (.d (.bl (!c))) s1 := by
  rw [ev]
  refine congrArg (Res.bind _) (funext fun x => funext fun s1 => ?_)
  cases x with
  | d x => cases x <;> rfl
  | c _ => rfl
  | b _ => rfl
theorem q_ite0 {t : Te} {a b : Ex} : ev o (.ite t a b) s = (evT o t s).bind fun c s1 => cnd c (ev o a s1) (ev o b s1) := by
  rw [ev]
  refine congrArg (Res.bind _) (funext fun x => funext fun s1 => ?_)
  rw [iteb_cnd]
theorem q_tup0 {es : Exs} : ev o (.tup es) s = (evs o es s).bind fun ws s1 => opt (dsOf ws) fun ds => cnd (decide (ds.length ≤ sizeLine)) (.ok (.d (.tup ds)) s1) .stuck := by
  rw [ev]
  refine congrArg (Res.bind _) (funext fun x => funext fun s1 => ?_)
  cases dsOf x with
  | none => rfl
  | some ds => show (if _ then _ else _) = _; rw [ite_cnd]; rfl
theorem q_fz0 {f : Fx} : ev o (.fz f) s = (evF o f s).bind fun l s1 => .ok (.d (.lst l)) s1 := by rw [ev]
theorem q_mk0 {f : Fx} : ev o (.mk f) s = (evF o f s).bind fun l s1 => .ok (.c s1.g.length) ⟨s1.g ++ [.lst l], s1.r⟩ := by rw [ev]
theorem q_sub0 {a i : Ex} : ev o (.sub a i) s = (ev o a s).bind fun x s1 => (ev o i s1).bind fun y s2 => opt (look s2 x) fun p => asD y fun q => opt (subD p q) fun d => .ok (.d d) s2 := by
  rw [ev]
  refine congrArg (Res.bind _) (funext fun x => funext fun s1 => ?_)
  refine congrArg (Res.bind _) (funext fun y => funext fun s2 => ?_)
  cases look s2 x with
  | none => cases y <;> rfl
  | some p => cases y with
    | d q => show Res.of _ _ = _; rw [of_opt, opt_map]; rfl
    | c _ => rfl
    | b _ => rfl
theorem q_sli0 {a : Ex} {lo hi : Exo} : ev o (.sli a lo hi) s = (ev o a s).bind fun x s1 => (evo o lo s1).bind fun l s2 => (evo o hi s2).bind fun h s3 => opt (look s3 x) fun p => opt (sliD p l h) fun d => .ok (.d d) s3 := by
  rw [ev]
  refine congrArg (Res.bind _) (funext fun x => funext fun s1 => ?_)
  refine congrArg (Res.bind _) (funext fun l => funext fun s2 => ?_)
  refine congrArg (Res.bind _) (funext fun h => funext fun s3 => ?_)
  cases look s3 x with
  | none => rfl
  | some p => show Res.of _ _ = _; rw [of_opt, opt_map]; rfl
theorem q_call0 {f p : Nat} {es kes : Exs} : ev o (.call f p es kes) s = (evs o es s).bind fun ws s1 => (evs o kes s1).bind fun zs s2 => cbind (o f p ws zs s2.g) (fun w g => .ok w ⟨g, s2.r⟩) (fun e g => .exc e ⟨g, s2.r⟩) := by
  rw [ev]
  refine congrArg (Res.bind _) (funext fun x => funext fun s1 => ?_)
  refine congrArg (Res.bind _) (funext fun zs => funext fun s2 => ?_)
  cases o f p x zs s2.g with
  | ok w g => cases w <;> rfl
  | exc _ _ => rfl
  | stuck => rfl
theorem q_bi0 {b : Bi} {es : Exs} : ev o (.bi b es) s = (evs o es s).bind fun ws s1 => opt (looks s1 ws) fun ds => opt (biD b ds) fun d => .ok (.d d) s1 := by
  rw [ev]
  refine congrArg (Res.bind _) (funext fun x => funext fun s1 => ?_)
  cases looks s1 x with
  | none => rfl
  | some p => show Res.of _ _ = _; rw [of_opt, opt_map]; rfl
theorem q_isi0 {a : Ex} {t : String} : ev o (.isi a t) s = (ev o a s).bind fun x s1 => opt (look s1 x) fun p => opt (isiD p t) fun d => .ok (.d (.bl d)) s1 := by
  rw [ev]
  refine congrArg (Res.bind _) (funext fun x => funext fun s1 => ?_)
  cases look s1 x with
  | none => rfl
  | some p => show Res.of _ _ = _; rw [of_opt, opt_map]; rfl
theorem q_sm0 {m : Sm} {x a : Ex} : ev o (.sm m x a) s = (ev o x s).bind fun x s1 => asS x fun z => (ev o a s1).bind fun y s2 => opt (look s2 y) fun q => opt (smD m z q) fun d => .ok (.d d) s2 := by
  rw [ev]
  refine congrArg (Res.bind _) (funext fun x => funext fun s1 => ?_)
  cases x with
  | d x =>
    cases x <;> try rfl
    dsimp only [asS]
    refine congrArg (Res.bind _) (funext fun y => funext fun s2 => ?_)
    cases look s2 y with
    | none => rfl
    | some p => show Res.of _ _ = _; rw [of_opt, opt_map]; rfl
  | c _ => rfl
  | b _ => rfl
theorem q_fs0 {ps : Exs} : ev o (.fs ps) s = (evJ o ps Str.empty s).bind fun z s1 => .ok (.d (.str z)) s1 := by rw [ev]
theorem q_app0 {c e : Ex} : ev o (.app c e) s = (ev o c s).bind fun x s1 => opt (getL s1 x) fun _ => (ev o e s1).bind fun y s2 => opt (getL s2 x) fun l => asD y fun d =>
    cnd (decide (l.length < sizeLine)) (opt (putL s2 x (l ++ [d])) fun s3 => .ok (.d .non) s3) .stuck := by
  rw [ev]
  refine congrArg (Res.bind _) (funext fun x => funext fun s1 => ?_)
  cases getL s1 x with
  | none => rfl
  | some _ =>
    dsimp only [opt]
    refine congrArg (Res.bind _) (funext fun y => funext fun s2 => ?_)
    cases getL s2 x with
    | none => cases y <;> rfl
    | some l => cases y with
      | d d =>
        show (if _ then _ else _) = _
        rw [ite_cnd]
        dsimp only [asD]
        congr 1
        cases putL s2 x (l ++ [d]) <;> rfl
      | c _ => rfl
      | b _ => rfl
theorem q_popl0 {c : Ex} : ev o (.popl c) s = (ev o c s).bind fun x s1 => opt (getL s1 x) fun l => opt l.getLast? fun d => opt (putL s1 x l.dropLast) fun s3 => .ok (.d d) s3 := by
  rw [ev]
  refine congrArg (Res.bind _) (funext fun x => funext fun s1 => ?_)
  cases getL s1 x with
  | none => rfl
  | some l =>
    dsimp only [opt]
    cases l.getLast? with
    | none => rfl
    | some d =>
      dsimp only
      cases putL s1 x l.dropLast <;> rfl
theorem q_popa0 {c i : Ex} : ev o (.popa c i) s = (ev o c s).bind fun x s1 => opt (getL s1 x) fun _ => (ev o i s1).bind fun y s2 => opt (getL s2 x) fun l => asI y fun i =>
    cnd (decide (0 ≤ i ∧ i < l.length ∧ i < 2 ^ 63)) (opt l[i.toNat]? fun d => opt (putL s2 x (l.eraseIdx i.toNat)) fun s3 => .ok (.d d) s3) .stuck := by
  rw [ev]
  refine congrArg (Res.bind _) (funext fun x => funext fun s1 => ?_)
  cases getL s1 x with
  | none => rfl
  | some _ =>
    dsimp only [opt]
    refine congrArg (Res.bind _) (funext fun y => funext fun s2 => ?_)
    cases getL s2 x with
    | none => cases y with
      | d q => cases q <;> rfl
      | c _ => rfl
      | b _ => rfl
    | some l => cases y with
      | d q =>
        cases q <;> try rfl
        show (if _ then _ else _) = _
        rw [ite_cnd]
        dsimp only [asI]
        congr 1
        rename_i i
        cases l[i.toNat]? with
        | none => rfl
        | some d =>
          dsimp only
          cases putL s2 x (l.eraseIdx i.toNat) <;> rfl
      | c _ => rfl
      | b _ => rfl
theorem q_no0 : evo o .no s = .ok none s := by rw [evo]
theorem q_so0 {e : Ex} : evo o (.so e) s = (ev o e s).bind fun x s1 => asI x fun i => .ok (some i) s1 := by
  rw [evo]
  refine congrArg (Res.bind _) (funext fun x => funext fun s1 => ?_)
  cases x with
  | d x => cases x <;> rfl
  | c _ => rfl
  | b _ => rfl
theorem q_nil0 : evs o .nil s = .ok [] s := by rw [evs]
theorem q_cons0 {e : Ex} {r : Exs} : evs o (.cons e r) s = (ev o e s).bind fun x s1 => (evs o r s1).bind fun xs s2 => .ok (x :: xs) s2 := by rw [evs]
theorem q_star0 {e : Ex} {r : Exs} : evs o (.star e r) s = (ev o e s).bind fun x s1 => asD x fun q => asLT q fun l => (evs o r s1).bind fun xs s2 => .ok (l.map W.d ++ xs) s2 := by
  rw [evs]
  refine congrArg (Res.bind _) (funext fun x => funext fun s1 => ?_)
  cases x with
  | d x => cases x <;> rfl
  | c _ => rfl
  | b _ => rfl
theorem q_jnil0 {z : Str} : evJ o .nil z s = .ok z s := by rw [evJ]
theorem q_jcons0 {e : Ex} {r : Exs} {z : Str} : evJ o (.cons e r) z s = (ev o e s).bind fun x s1 => opt (look s1 x) fun d => opt (fmtD d) fun t => cnd (decide ((z ++ t).length ≤ sizeLine)) (evJ o r (z ++ t) s1) .stuck := by
  rw [evJ]
  refine congrArg (Res.bind _) (funext fun x => funext fun s1 => ?_)
  cases look s1 x with
  | none => rfl
  | some d =>
    dsimp only [opt]
    cases fmtD d with
    | none => rfl
    | some t => show (if _ then _ else _) = _; rw [ite_cnd]
theorem q_te0 {x : Ex} : evT o (.e x) s = (ev o x s).bind fun w s1 => opt (look s1 w) fun d => opt (truD d) fun b => .ok b s1 := by
  rw [evT]
  refine congrArg (Res.bind _) (funext fun x => funext fun s1 => ?_)
  cases look s1 x with
  | none => rfl
  | some p => show Res.of _ _ = _; rw [of_opt]; rfl
theorem q_tnot0 {t : Te} : evT o (.not t) s = (evT o t s).bind fun c s1 => .ok (!c) s1 := by rw [evT]
theorem q_tbop0 {an : Bool} {ts : Tes} : evT o (.bop an ts) s = evTs o an ts s := by rw [evT]
theorem q_tsnil0 {an : Bool} : evTs o an .nil s = .ok an s := by rw [evTs]
theorem q_tscons0 {an : Bool} {t : Te} {r : Tes} : evTs o an (.cons t r) s = (evT o t s).bind fun c s1 => cnd (c == an) (evTs o an r s1) (.ok c s1) := by
  rw [evTs]
  refine congrArg (Res.bind _) (funext fun x => funext fun s1 => ?_)
  rw [iteb_cnd]
theorem q_tcmp0 {f : C2} {a b : Ex} : evT o (.cmp f a b) s = (ev o a s).bind fun x s1 => (ev o b s1).bind fun y s2 => opt (look s2 x) fun p => opt (look s2 y) fun q => opt (cmpD f p q) fun d => .ok d s2 := by
  rw [evT]
  refine congrArg (Res.bind _) (funext fun x => funext fun s1 => ?_)
  refine congrArg (Res.bind _) (funext fun y => funext fun s2 => ?_)
  cases look s2 x with
  | none => cases look s2 y <;> rfl
  | some p => cases look s2 y with
    | none => rfl
    | some q =>
      show Res.of (cmpD f p q) s2 = opt (cmpD f p q) fun d => .ok d s2
      exact of_opt
theorem q_tcmp20 {f g : C2} {a b c : Ex} : evT o (.cmp2 f g a b c) s = (ev o a s).bind fun x s1 => (ev o b s1).bind fun y s2 => opt (look s2 x) fun p => opt (look s2 y) fun q => opt (cmpD f p q) fun d =>
    cnd d ((ev o c s2).bind fun z s3 => opt (look s3 y) fun q' => opt (look s3 z) fun u => opt (cmpD g q' u) fun d => .ok d s3) (.ok false s2) := by
  rw [evT]
  refine congrArg (Res.bind _) (funext fun x => funext fun s1 => ?_)
  refine congrArg (Res.bind _) (funext fun y => funext fun s2 => ?_)
  cases look s2 x with
  | none => rfl
  | some p => cases look s2 y with
    | none => rfl
    | some q =>
      dsimp only [opt]
      cases cmpD f p q with
      | none => rfl
      | some d => cases d with
        | false => rfl
        | true =>
          dsimp only [cnd]
          refine congrArg (Res.bind _) (funext fun z => funext fun s3 => ?_)
          cases look s3 y with
          | none => cases look s3 z <;> rfl
          | some p => cases look s3 z with
            | none => rfl
            | some q => exact of_opt
theorem q_disp0 {es : Exs} : evF o (.disp es) s = (evs o es s).bind fun ws s1 => opt (dsOf ws) fun ds => cnd (decide (ds.length ≤ sizeLine)) (.ok ds s1) .stuck := by
  rw [evF]
  refine congrArg (Res.bind _) (funext fun x => funext fun s1 => ?_)
  cases dsOf x with
  | none => rfl
  | some ds => show (if _ then _ else _) = _; rw [ite_cnd]; rfl
theorem q_cat0 {a b : Ex} : evF o (.cat a b) s = (ev o a s).bind fun x s1 => (ev o b s1).bind fun y s2 => opt (lookL s2 x) fun l => opt (lookL s2 y) fun m => cnd (decide (l.length + m.length ≤ sizeLine)) (.ok (l ++ m) s2) .stuck := by
  rw [evF]
  refine congrArg (Res.bind _) (funext fun x => funext fun s1 => ?_)
  refine congrArg (Res.bind _) (funext fun y => funext fun s2 => ?_)
  cases lookL s2 x <;> cases lookL s2 y <;> try rfl
  show (if _ then _ else _) = _
  rw [ite_cnd]
  rfl
theorem q_rep0 {a b : Ex} : evF o (.rep a b) s = (ev o a s).bind fun x s1 => (ev o b s1).bind fun y s2 => opt (lookL s2 x) fun l => asI y fun k =>
    cnd (decide (-(2 ^ 63) ≤ k ∧ k < 2 ^ 63 ∧ l.length * k.toNat ≤ sizeLine)) (.ok (List.replicate k.toNat l).flatten s2) .stuck := by
  rw [evF]
  refine congrArg (Res.bind _) (funext fun x => funext fun s1 => ?_)
  refine congrArg (Res.bind _) (funext fun y => funext fun s2 => ?_)
  cases lookL s2 x with
  | none => cases y with
    | d q => cases q <;> rfl
    | c _ => rfl
    | b _ => rfl
  | some l => cases y with
    | d q =>
      cases q <;> try rfl
      show (if _ then _ else _) = _
      rw [ite_cnd]
      rfl
    | c _ => rfl
    | b _ => rfl
theorem q_cpy0 {a : Ex} : evF o (.cpy a) s = (ev o a s).bind fun x s1 => opt (look s1 x) fun q => asLT q fun l => .ok l s1 := by
  rw [evF]
  refine congrArg (Res.bind _) (funext fun x => funext fun s1 => ?_)
  cases look s1 x with
  | none => rfl
  | some q => cases q <;> rfl
theorem q_fsli0 {a : Ex} {lo hi : Exo} : evF o (.sli a lo hi) s = (ev o a s).bind fun x s1 => (evo o lo s1).bind fun l s2 => (evo o hi s2).bind fun h s3 => opt (look s3 x) fun q => asLD q fun m => .ok (cutD m l h) s3 := by
  rw [evF]
  refine congrArg (Res.bind _) (funext fun x => funext fun s1 => ?_)
  refine congrArg (Res.bind _) (funext fun l => funext fun s2 => ?_)
  refine congrArg (Res.bind _) (funext fun h => funext fun s3 => ?_)
  cases look s3 x with
  | none => rfl
  | some q => cases q <;> rfl
theorem q_rev0 {a : Ex} : evF o (.rev a) s = (ev o a s).bind fun x s1 => opt (look s1 x) fun q => asLD q fun m => .ok m.reverse s1 := by
  rw [evF]
  refine congrArg (Res.bind _) (funext fun x => funext fun s1 => ?_)
  cases look s1 x with
  | none => rfl
  | some q => cases q <;> rfl
/-- the block of a comprehension, and what it leaves -/
def lcE (o : Or) (ifs : Tes) (e : Ex) (acc : List D) (s : Ss) : Res (List D) := (evTs o true ifs s).bind fun c s4 => cnd c ((ev o e s4).bind fun y s5 => addD acc y s5) (.ok acc s4)
def lcT (o : Or) (t : Tg) (ifs : Tes) (e : Ex) (vs : List Nat) (x : D) (acc : List D) (s : Ss) : Res (List D) := opt (bindG (nR s.r vs) t x) fun r3 => lcE o ifs e acc ⟨s.g, r3⟩
def lcT2 (o : Or) (t : Tg) (ifs : Tes) (t1 : Tg) (i1 : It) (ifs1 : Tes) (e : Ex) (vs vs1 : List Nat) (x : D) (acc : List D) (s : Ss) : Res (List D) := opt (bindG (nR s.r vs) t x) fun r3 => (evTs o true ifs ⟨s.g, r3⟩).bind fun c s4 =>
  cnd c ((evI o i1 s4).bind fun l1 s5 => comp (lcT o t1 ifs1 e vs1) l1 acc s5) (.ok acc s4)
theorem turn_lc {t : Tg} {vs : List Nat} {ifs : Tes} {e : Ex} : turnC t vs (evTs o true ifs) (fun acc s4 => (ev o e s4).bind fun y s5 => addD acc y s5) = lcT o t ifs e vs := by
  funext x acc s
  unfold turnC lcT lcE
  cases bindG (nR s.r vs) t x with
  | none => rfl
  | some r3 =>
    dsimp only [opt]
    refine congrArg (Res.bind _) (funext fun c => funext fun s4 => ?_)
    rw [iteb_cnd]
theorem q_lc0 {t : Tg} {i : It} {ifs : Tes} {e : Ex} {vs : List Nat} : evF o (.lc t i ifs e vs) s = (evI o i s).bind fun l s1 => cnd (noOwn s1.r vs) ((comp (lcT o t ifs e vs) l [] s1).bind fun acc s2 => .ok acc ⟨s2.g, backR s1.r s2.r vs⟩) .stuck := by
  rw [evF, turn_lc]
  refine congrArg (Res.bind _) (funext fun l => funext fun s1 => ?_)
  rw [iteb_cnd]
theorem q_lc20 {t t1 : Tg} {i i1 : It} {ifs ifs1 : Tes} {e : Ex} {vs vs1 : List Nat} : evF o (.lc2 t i ifs t1 i1 ifs1 e vs vs1) s = (evI o i s).bind fun l s1 => cnd (noOwn s1.r vs) ((comp (lcT2 o t ifs t1 i1 ifs1 e vs vs1) l [] s1).bind fun acc s2 => .ok acc ⟨s2.g, backR s1.r s2.r vs⟩) .stuck := by
  rw [evF, turn_lc]
  refine congrArg (Res.bind _) (funext fun l => funext fun s1 => ?_)
  rw [iteb_cnd]
  congr 2
  congr 1
  funext x acc s
  unfold turnC lcT2
  cases bindG (nR s.r vs) t x with
  | none => rfl
  | some r3 =>
    dsimp only [opt]
    refine congrArg (Res.bind _) (funext fun c => funext fun s4 => ?_)
    rw [iteb_cnd]
theorem q_cnil0 {f : D → List D → Ss → Res (List D)} {acc : List D} : comp f [] acc s = .ok acc s := rfl
theorem q_cconsE {f : D → List D → Ss → Res (List D)} {acc l : List D} {x : D} (hf : ∀ e s', f x acc s ≠ .exc e s') : comp f (x :: l) acc s = (f x acc s).bind fun acc' s' => comp f l acc' s' := by
  show (match f x acc s with | .ok acc' s' => comp f l acc' s' | _ => .stuck) = _
  cases h : f x acc s with
  | ok _ _ => rfl
  | exc e s' => exact absurd h (hf e s')
  | stuck => rfl
theorem q_isq0 {e : Ex} : evI o (.sq e) s = (ev o e s).bind fun x s1 => asD x fun d => opt (itemsD d) fun l => .ok l s1 := by
  rw [evI]
  refine congrArg (Res.bind _) (funext fun x => funext fun s1 => ?_)
  cases x with
  | d x => show Res.of _ _ = _; rw [of_opt]; rfl
  | c _ => rfl
  | b _ => rfl
theorem q_irg10 {e : Ex} : evI o (.rg1 e) s = (ev o e s).bind fun x s1 => asI x fun j => opt (rgD 0 j) fun l => .ok l s1 := by
  rw [evI]
  refine congrArg (Res.bind _) (funext fun x => funext fun s1 => ?_)
  cases x with
  | d x =>
    cases x <;> first | rfl | exact of_opt
  | c _ => rfl
  | b _ => rfl
theorem q_irg20 {a b : Ex} : evI o (.rg2 a b) s = (ev o a s).bind fun x s1 => (ev o b s1).bind fun y s2 => asI x fun i => asI y fun j => opt (rgD i j) fun l => .ok l s2 := by
  rw [evI]
  refine congrArg (Res.bind _) (funext fun x => funext fun s1 => ?_)
  refine congrArg (Res.bind _) (funext fun y => funext fun s2 => ?_)
  cases x with
  | d x =>
    cases x <;> cases y <;> try rfl
    rename_i q
    cases q <;> first | rfl | exact of_opt
  | c _ => rfl
  | b _ => rfl
theorem q_ien0 {e : Ex} : evI o (.en e) s = (ev o e s).bind fun x s1 => asD x fun d => asLT d fun l => .ok (enD l) s1 := by
  rw [evI]
  refine congrArg (Res.bind _) (funext fun x => funext fun s1 => ?_)
  cases x with
  | d x => cases x <;> rfl
  | c _ => rfl
  | b _ => rfl
theorem q_izp0 {a b : Ex} : evI o (.zp a b) s = (ev o a s).bind fun x s1 => (ev o b s1).bind fun y s2 => asL x fun l => asL y fun m => .ok (zpD l m) s2 := by
  rw [evI]
  refine congrArg (Res.bind _) (funext fun x => funext fun s1 => ?_)
  refine congrArg (Res.bind _) (funext fun y => funext fun s2 => ?_)
  cases x with
  | d x =>
    cases x <;> cases y <;> try rfl
    rename_i q
    cases q <;> rfl
  | c _ => rfl
  | b _ => rfl
def sqF (o : Or) (r : Sxs) (c : Fl) (s : Ss) : Res Fl := match c with
  | .nx => exs o r s
  | c => .ok c s
@[simp] theorem sqF_nx {r : Sxs} : sqF o r .nx s = exs o r s := rfl
@[simp] theorem sqF_rt {r : Sxs} {w : W} : sqF o r (.rt w) s = .ok (.rt w) s := rfl
@[simp] theorem sqF_bk {r : Sxs} : sqF o r .bk s = .ok .bk s := rfl
@[simp] theorem sqF_ct {r : Sxs} : sqF o r .ct s = .ok .ct s := rfl
theorem q_snil0 : exs o .nil s = .ok .nx s := by rw [exs]
theorem q_scons0 {a : Sx} {r : Sxs} : exs o (.cons a r) s = (ex1 o a s).bind fun c s1 => sqF o r c s1 := by
  rw [exs]
  refine congrArg (Res.bind _) (funext fun c => funext fun s1 => ?_)
  cases c <;> rfl
theorem isB_nB {β : Type} {w : W} {a : Res β} : (if w.isB = true then .stuck else a) = nB w a := by cases w <;> rfl
theorem q_set0 {i : Nat} {e : Ex} : ex1 o (.set i e) s = (ev o e s).bind fun w s1 => nB w (.ok .nx ⟨s1.g, s1.r.set i (.w w)⟩) := by
  rw [ex1]
  refine congrArg (Res.bind _) (funext fun c => funext fun s1 => ?_)
  rw [isB_nB]
theorem q_own0 {i : Nat} {f : Fx} : ex1 o (.own i f) s = (evF o f s).bind fun l s1 => .ok .nx ⟨s1.g, s1.r.set i (.own l)⟩ := by rw [ex1]
theorem q_par0 {l : List (Nat × Rh)} : ex1 o (.par l) s = (evR o l s).bind fun xs s1 => .ok .nx ⟨s1.g, setsR s1.r xs⟩ := by rw [ex1]
theorem q_rnil0 : evR o [] s = .ok [] s := rfl
theorem q_rex0 {i : Nat} {e : Ex} {l : List (Nat × Rh)} : evR o ((i, .ex e) :: l) s = (ev o e s).bind fun w s1 => nB w ((evR o l s1).bind fun xs s2 => .ok ((i, .w w) :: xs) s2) := by
  show (ev o e s).bind _ = _
  refine congrArg (Res.bind _) (funext fun c => funext fun s1 => ?_)
  rw [isB_nB]
theorem q_row0 {i : Nat} {f : Fx} {l : List (Nat × Rh)} : evR o ((i, .ow f) :: l) s = (evF o f s).bind fun d s1 => (evR o l s1).bind fun xs s2 => .ok ((i, .own d) :: xs) s2 := rfl
@[simp] theorem sets_nil {r : List Sl} : setsR r [] = r := rfl
@[simp] theorem sets_cons {r : List Sl} {i : Nat} {x : Sl} {l : List (Nat × Sl)} : setsR r ((i, x) :: l) = setsR (r.set i x) l := rfl
theorem q_unp0 {t : Tg} {e : Ex} : ex1 o (.unp t e) s = (ev o e s).bind fun w s1 => asD w fun x => opt (bindG s1.r t x) fun r => .ok .nx ⟨s1.g, r⟩ := by
  rw [ex1]
  refine congrArg (Res.bind _) (funext fun w => funext fun s1 => ?_)
  cases w with
  | d x =>
    dsimp only [asD]
    cases bindG s1.r t x <;> rfl
  | c _ => rfl
  | b _ => rfl
theorem q_sset0 {c i e : Ex} : ex1 o (.sset c i e) s = (ev o e s).bind fun v s1 => (ev o c s1).bind fun w s2 => (ev o i s2).bind fun k s3 => asD v fun d => opt (getL s3 w) fun l => asI k fun n => opt (ixD l.length n) fun j => opt (putL s3 w (l.set j d)) fun s4 => .ok .nx s4 := by
  rw [ex1]
  refine congrArg (Res.bind _) (funext fun v => funext fun s1 => ?_)
  refine congrArg (Res.bind _) (funext fun w => funext fun s2 => ?_)
  refine congrArg (Res.bind _) (funext fun k => funext fun s3 => ?_)
  cases v with
  | d x =>
    dsimp only [asD, dOf]
    cases getL s3 w with
    | none => cases k with
      | d q => cases q <;> rfl
      | c _ => rfl
      | b _ => rfl
    | some l =>
      cases k with
      | d q =>
        cases q <;> try rfl
        dsimp only [asI, opt]
        rename_i n
        cases ixD l.length n with
        | none => rfl
        | some j =>
          dsimp only
          cases putL s3 w (l.set j x) <;> rfl
      | c _ => rfl
      | b _ => rfl
  | c _ => rfl
  | b _ => rfl
def agS {β : Type} (x : Option Sl) (f : Int → Res β) : Res β := match x with
  | some (.w (.d (.int x))) => f x
  | _ => .stuck
theorem agS_i {β : Type} {x : Int} {f : Int → Res β} : agS (some (.w (.d (.int x)))) f = f x := rfl
theorem q_aug0 {i : Nat} {f : O2} {e : Ex} : ex1 o (.aug i f e) s = agS s.r[i]? fun x => (ev o e s).bind fun w s1 => asD w fun y => opt (opD f (.int x) y) fun z => .ok .nx ⟨s1.g, s1.r.set i (.w (.d z))⟩ := by
  rw [ex1]
  cases s.r[i]? with
  | none => rfl
  | some q => cases q with
    | no => rfl
    | own _ => rfl
    | w x => cases x with
      | d x =>
        cases x <;> try rfl
        dsimp only [agS]
        refine congrArg (Res.bind _) (funext fun w => funext fun s1 => ?_)
        cases w with
        | d y =>
          dsimp only [asD, dOf]
          rename_i x
          cases opD f (.int x) y <;> rfl
        | c _ => rfl
        | b _ => rfl
      | c _ => rfl
      | b _ => rfl
theorem q_ex0 {e : Ex} : ex1 o (.ex e) s = (ev o e s).bind fun _ s1 => .ok .nx s1 := by rw [ex1]
theorem q_ret0 {e : Ex} : ex1 o (.ret e) s = (ev o e s).bind fun w s1 => nB w (.ok (.rt w) s1) := by
  rw [ex1]
  refine congrArg (Res.bind _) (funext fun w => funext fun s1 => ?_)
  rw [isB_nB]
theorem q_retn0 : ex1 o .retn s = .ok (.rt (.d .non)) s := by rw [ex1]
theorem q_ife0 {t : Te} {a b : Sxs} : ex1 o (.ife t a b) s = (evT o t s).bind fun c s1 => cnd c (exs o a s1) (exs o b s1) := by
  rw [ex1]
  refine congrArg (Res.bind _) (funext fun w => funext fun s1 => ?_)
  rw [iteb_cnd]
def forB (o : Or) (t : Tg) (b : Sxs) (x : D) (s : Ss) : Res Fl := opt (bindG s.r t x) fun r => exs o b ⟨s.g, r⟩
theorem q_for0 {t : Tg} {i : It} {b : Sxs} : ex1 o (.for_ t i b) s = (evI o i s).bind fun l s1 => forL (forB o t b) l s1 := by
  rw [ex1]
  refine congrArg (Res.bind _) (funext fun l => funext fun s1 => ?_)
  refine congrArg (fun z => forL z l s1) (funext fun x => funext fun s => ?_)
  unfold forB
  cases bindG s.r t x <;> rfl
theorem q_whl0 {n : Nat} {t : Te} {b : Sxs} : ex1 o (.whl n t b) s = whlL (evT o t) (exs o b) n s := by rw [ex1]
theorem q_brk0 : ex1 o .brk s = .ok .bk s := by rw [ex1]
theorem q_cnt0 : ex1 o .cnt s = .ok .ct s := by rw [ex1]
theorem q_pas0 : ex1 o .pas s = .ok .nx s := by rw [ex1]
def fsF (f : D → Ss → Res Fl) (l : List D) (c : Fl) (s : Ss) : Res Fl := match c with
  | .nx | .ct => forL f l s
  | .bk => .ok .nx s
  | .rt w => .ok (.rt w) s
@[simp] theorem fsF_nx {f : D → Ss → Res Fl} {l : List D} : fsF f l .nx s = forL f l s := rfl
@[simp] theorem fsF_ct {f : D → Ss → Res Fl} {l : List D} : fsF f l .ct s = forL f l s := rfl
@[simp] theorem fsF_bk {f : D → Ss → Res Fl} {l : List D} : fsF f l .bk s = .ok .nx s := rfl
@[simp] theorem fsF_rt {f : D → Ss → Res Fl} {l : List D} {w : W} : fsF f l (.rt w) s = .ok (.rt w) s := rfl
theorem q_fnil0 {f : D → Ss → Res Fl} : forL f [] s = .ok .nx s := rfl
theorem q_fcons0 {f : D → Ss → Res Fl} {x : D} {l : List D} : forL f (x :: l) s = (f x s).bind fun c s' => fsF f l c s' := by
  show (f x s).bind _ = _
  refine congrArg (Res.bind _) (funext fun c => funext fun s1 => ?_)
  cases c <;> rfl
theorem q_run {tab : List Fn} {n f p : Nat} {ws zs as : List W} {g : List Cl} {fd : Fn} (h1 : tab[f]? = some fd) (h2 : argsOf fd p ws zs = some as) : run tab (n + 1) f p ws zs g = fin (exs (run tab n) fd.body ⟨g, startR fd as⟩) := by
  have h : run tab (n + 1) f p ws zs g = runB (run tab n) fd as g := by
    rw [run]
    simp only [h1, h2]
  rw [h]
  unfold runB
  cases exs (run tab n) fd.body ⟨g, startR fd as⟩ with
  | ok c s => cases c <;> rfl
  | exc _ _ => rfl
  | stuck => rfl
end

class KF (α β : Type) where f : α → Ss → Res β
class K1 (α β : Type) where f : α → Res β
class KP (β : Type) where
  t : Res β
  e : Res β
class K0 (β : Type) where t : Res β
class KC (β : Type) where
  f : W → List Cl → Res β
  e : D → List Cl → Res β
class KQ (α : Type) where q : α → Ss → Prop
class KR where q : W → List Cl → Prop
section
variable {α β : Type}
def bd (x : Res α) [k : KF α β] : Res β := x.bind k.f
def opt' (x : Option α) [k : K1 α β] : Res β := opt x k.f
def cnd' (c : Bool) [k : KP β] : Res β := cnd c k.t k.e
def asD' (w : W) [k : K1 D β] : Res β := asD w k.f
def asI' (w : W) [k : K1 Int β] : Res β := asI w k.f
def asB' (w : W) [k : K1 Bool β] : Res β := asB w k.f
def asS' (w : W) [k : K1 Str β] : Res β := asS w k.f
def asL' (w : W) [k : K1 (List D) β] : Res β := asL w k.f
def asLD' (w : D) [k : K1 (List D) β] : Res β := asLD w k.f
def asLT' (w : D) [k : K1 (List D) β] : Res β := asLT w k.f
def agS' (w : Option Sl) [k : K1 Int β] : Res β := agS w k.f
def nB' (w : W) [k : K0 β] : Res β := nB w k.t
def cbind' (r : Cr) [k : KC β] : Res β := cbind r k.f k.e
@[irreducible] def wq (r : Res α) [k : KQ α] : Prop := r.wp k.q
@[irreducible] def wc (r : Cr) [k : KR] : Prop := r.wp k.q
theorem wq_def {r : Res α} {k : KQ α} : wq r (k := k) = r.wp k.q := by unfold wq; rfl
theorem wc_def {r : Cr} {k : KR} : wc r (k := k) = r.wp k.q := by unfold wc; rfl
variable {a : α} {s : Ss} {g : List Cl} {w : W} {x : D} {i : Int} {c : Bool} {z : Str} {l : List D}
@[simp] theorem bd_ok [k : KF α β] : bd (Res.ok a s) (k := k) = k.f a s := rfl
@[simp] theorem bd_exc [k : KF α β] : bd (Res.exc (α := α) x s) (k := k) = .exc x s := rfl
@[simp] theorem opt_some' [k : K1 α β] : opt' (some a) (k := k) = k.f a := rfl
@[simp] theorem cnd_t' [k : KP β] : cnd' true (k := k) = k.t := rfl
@[simp] theorem cnd_f' [k : KP β] : cnd' false (k := k) = k.e := rfl
@[simp] theorem asD_d' [k : K1 D β] : asD' (.d x) (k := k) = k.f x := rfl
@[simp] theorem asI_i' [k : K1 Int β] : asI' (.d (.int i)) (k := k) = k.f i := rfl
@[simp] theorem asB_b' [k : K1 Bool β] : asB' (.d (.bl c)) (k := k) = k.f c := rfl
@[simp] theorem asS_s' [k : K1 Str β] : asS' (.d (.str z)) (k := k) = k.f z := rfl
@[simp] theorem asL_l' [k : K1 (List D) β] : asL' (.d (.lst l)) (k := k) = k.f l := rfl
@[simp] theorem asLD_l' [k : K1 (List D) β] : asLD' (.lst l) (k := k) = k.f l := rfl
@[simp] theorem asLT_l' [k : K1 (List D) β] : asLT' (.lst l) (k := k) = k.f l := rfl
@[simp] theorem asLT_t' [k : K1 (List D) β] : asLT' (.tup l) (k := k) = k.f l := rfl
@[simp] theorem agS_i' [k : K1 Int β] : agS' (some (.w (.d (.int i)))) (k := k) = k.f i := rfl
@[simp] theorem nB_d' [k : K0 β] : nB' (.d x) (k := k) = k.t := rfl
@[simp] theorem nB_c' {n : Nat} [k : K0 β] : nB' (.c n) (k := k) = k.t := rfl
@[simp] theorem cb_ok' [k : KC β] : cbind' (.ok w g) (k := k) = nB' w (k := ⟨k.f w g⟩) := rfl
@[simp] theorem cb_exc' [k : KC β] : cbind' (.exc x g) (k := k) = k.e x g := rfl
@[simp] theorem wq_ok [k : KQ α] : wq (Res.ok a s) (k := k) = k.q a s := by rw [wq_def]; rfl
@[simp] theorem wc_ok [k : KR] : wc (Cr.ok w g) (k := k) = k.q w g := by rw [wc_def]; rfl
@[simp] theorem wq_bd {X : Res α} {k : KF α β} {q : KQ β} : wq (bd X (k := k)) (k := q) = wq X (k := ⟨fun a s => wq (k.f a s) (k := q)⟩) := by
  rw [wq_def, wq_def]
  cases X
  · show Res.wp (k.f _ _) q.q = wq (k.f _ _) (k := q)
    rw [wq_def]
  · rfl
  · rfl
@[simp] theorem wc_fin {r : Res Fl} {q : KR} : wc (fin r) (k := q) = wq r (k := ⟨fun c s => endW q.q c s⟩) := by
  rw [wc_def, wq_def]
  cases r with
  | ok c s => cases c <;> rfl
  | exc _ _ => rfl
  | stuck => rfl
theorem wq_cnd {k : KP β} {q : KQ β} (h1 : c = true → wq k.t (k := q)) (h2 : c = false → wq k.e (k := q)) : wq (cnd' c (k := k)) (k := q) := by
  cases c
  · exact h2 rfl
  · exact h1 rfl
theorem wq_cndT {k : KP β} {q : KQ β} (h : c = true) (h1 : wq k.t (k := q)) : wq (cnd' c (k := k)) (k := q) := by subst h; exact h1
theorem wq_cndF {k : KP β} {q : KQ β} (h : c = false) (h1 : wq k.e (k := q)) : wq (cnd' c (k := k)) (k := q) := by subst h; exact h1
theorem wq_cb {r : Cr} {k : KC β} {q : KQ β} {R : W → List Cl → Prop} (h : r.wp R) (h2 : ∀ w g, R w g → wq (nB' w (k := ⟨k.f w g⟩)) (k := q)) : wq (cbind' r (k := k)) (k := q) := by
  cases r with
  | ok w g => rw [cb_ok']; exact h2 w g h
  | exc _ _ => exact h.elim
  | stuck => exact h.elim
theorem wq_mono {r : Res α} {Q : α → Ss → Prop} {q : KQ α} (h : r.wp Q) (h2 : ∀ a s, Q a s → q.q a s) : wq r (k := q) := by rw [wq_def]; exact wp_mono h h2
theorem wc_mono {r : Cr} {Q : W → List Cl → Prop} {q : KR} (h : r.wp Q) (h2 : ∀ a s, Q a s → q.q a s) : wc r (k := q) := by rw [wc_def]; exact cwp_mono h h2
class PQ where p : Prop
/-- what is wanted at the end, left as it stands -/
@[irreducible] def hold [k : PQ] : Prop := k.p
theorem hold_e {p : Prop} : hold (k := ⟨p⟩) = p := by unfold hold; rfl
theorem hold_d {p : Prop} : hold (k := ⟨p⟩) ↔ p := by rw [hold_e]
theorem hold_i {p : Prop} (h : p) : hold (k := ⟨p⟩) := hold_d.mpr h
theorem of_wc {r : Cr} {Q : W → List Cl → Prop} (h : wc r (k := ⟨fun w g => hold (k := ⟨Q w g⟩)⟩)) : r.wp Q := by
  rw [wc_def] at h
  exact cwp_mono h fun a s z => (hold_d (p := Q a s)).mp z
theorem of_wq {r : Res α} {Q : α → Ss → Prop} (h : wq r (k := ⟨fun w g => hold (k := ⟨Q w g⟩)⟩)) : r.wp Q := by
  rw [wq_def] at h
  exact wp_mono h fun a s z => (hold_d (p := Q a s)).mp z
theorem wc_eq {r : Cr} {w : W} {g : List Cl} (h : wc r (k := ⟨fun w' g' => w' = w ∧ g' = g⟩)) : r = .ok w g := by rw [wc_def] at h; exact eq_wp h
end
section
variable {o : Or} {s : Ss}
@[simp ↓] theorem q_v {g : List Cl} {r : List Sl} {i : Nat} : ev o (.v i) ⟨g, r⟩ = slV g r i r[i]? := q_v0
@[simp ↓] theorem q_b {g : List Cl} {r : List Sl} {i : Nat} : ev o (.b i) ⟨g, r⟩ = slB g r i r[i]? := q_b0
@[simp ↓] theorem q_k {x : D} : ev o (.k x) s = .ok (.d x) s := q_k0
@[simp ↓] theorem q_gk {n : Str} {x : D} : ev o (.gk n x) s = .ok (.d x) s := q_gk0
@[simp ↓] theorem q_op {f : O2} {a b : Ex} : ev o (.op f a b) s = bd (ev o a s) (k := ⟨fun x s1 => bd (ev o b s1) (k := ⟨fun y s2 => opt' (look s2 x) (k := ⟨fun p => opt' (look s2 y) (k := ⟨fun q => opt' (opD f p q) (k := ⟨fun d => .ok (.d d) s2⟩)⟩)⟩)⟩)⟩) := q_op0
@[simp ↓] theorem q_neg {a : Ex} : ev o (.neg a) s = bd (ev o a s) (k := ⟨fun x s1 => asI' x (k := ⟨fun i => .ok (.d (.int (-i))) s1⟩)⟩) := q_neg0
@[simp ↓] theorem q_cmp {f : C2} {a b : Ex} : ev o (.cmp f a b) s = bd (ev o a s) (k := ⟨fun x s1 => bd (ev o b s1) (k := ⟨fun y s2 => opt' (look s2 x) (k := ⟨fun p => opt' (look s2 y) (k := ⟨fun q => opt' (cmpD f p q) (k := ⟨fun d => .ok (.d (.bl d)) s2⟩)⟩)⟩)⟩)⟩) := q_cmp0
@[simp ↓] theorem q_cmp2 {f g : C2} {a b c : Ex} : ev o (.cmp2 f g a b c) s = bd (ev o a s) (k := ⟨fun x s1 => bd (ev o b s1) (k := ⟨fun y s2 => opt' (look s2 x) (k := ⟨fun p => opt' (look s2 y) (k := ⟨fun q => opt' (cmpD f p q) (k := ⟨fun d => cnd' d (k := ⟨(bd (ev o c s2) (k := ⟨fun z s3 => opt' (look s3 y) (k := ⟨fun q' => opt' (look s3 z) (k := ⟨fun u => opt' (cmpD g q' u) (k := ⟨fun d => .ok (.d (.bl d)) s3⟩)⟩)⟩)⟩)), (.ok (.d (.bl false)) s2)⟩)⟩)⟩)⟩)⟩)⟩) := q_cmp20
@[simp ↓] theorem q_bop1 {an : Bool} {e : Ex} : ev o (.bop an (.cons e .nil)) s = ev o e s := q_bop10
@[simp ↓] theorem q_bop {an : Bool} {e e' : Ex} {r : Exs} : ev o (.bop an (.cons e (.cons e' r))) s = bd (ev o e s) (k := ⟨fun x s1 => asB' x (k := ⟨fun c => cnd' (c == an) (k := ⟨(ev o (.bop an (.cons e' r)) s1), (.ok (.d (.bl c)) s1)⟩)⟩)⟩) := q_bop0
@[simp ↓] theorem q_not {a : Ex} : ev o (.not a) s = bd (ev o a s) (k := ⟨fun x s1 => asB' x (k := ⟨fun c => .ok (.d (.bl (!c))) s1⟩)⟩) := q_not0
@[simp ↓] theorem q_ite {t : Te} {a b : Ex} : ev o (.ite t a b) s = bd (evT o t s) (k := ⟨fun c s1 => cnd' c (k := ⟨(ev o a s1), (ev o b s1)⟩)⟩) := q_ite0
@[simp ↓] theorem q_tup {es : Exs} : ev o (.tup es) s = bd (evs o es s) (k := ⟨fun ws s1 => opt' (dsOf ws) (k := ⟨fun ds => cnd' (decide (ds.length ≤ sizeLine)) (k := ⟨(.ok (.d (.tup ds)) s1), .stuck⟩)⟩)⟩) := q_tup0
@[simp ↓] theorem q_fz {f : Fx} : ev o (.fz f) s = bd (evF o f s) (k := ⟨fun l s1 => .ok (.d (.lst l)) s1⟩) := q_fz0
@[simp ↓] theorem q_mk {f : Fx} : ev o (.mk f) s = bd (evF o f s) (k := ⟨fun l s1 => .ok (.c s1.g.length) ⟨s1.g ++ [.lst l], s1.r⟩⟩) := q_mk0
@[simp ↓] theorem q_sub {a i : Ex} : ev o (.sub a i) s = bd (ev o a s) (k := ⟨fun x s1 => bd (ev o i s1) (k := ⟨fun y s2 => opt' (look s2 x) (k := ⟨fun p => asD' y (k := ⟨fun q => opt' (subD p q) (k := ⟨fun d => .ok (.d d) s2⟩)⟩)⟩)⟩)⟩) := q_sub0
@[simp ↓] theorem q_sli {a : Ex} {lo hi : Exo} : ev o (.sli a lo hi) s = bd (ev o a s) (k := ⟨fun x s1 => bd (evo o lo s1) (k := ⟨fun l s2 => bd (evo o hi s2) (k := ⟨fun h s3 => opt' (look s3 x) (k := ⟨fun p => opt' (sliD p l h) (k := ⟨fun d => .ok (.d d) s3⟩)⟩)⟩)⟩)⟩) := q_sli0
@[simp ↓] theorem q_call {f p : Nat} {es kes : Exs} : ev o (.call f p es kes) s = bd (evs o es s) (k := ⟨fun ws s1 => bd (evs o kes s1) (k := ⟨fun zs s2 => cbind' (o f p ws zs s2.g) (k := ⟨(fun w g => .ok w ⟨g, s2.r⟩), (fun e g => .exc e ⟨g, s2.r⟩)⟩)⟩)⟩) := q_call0
@[simp ↓] theorem q_bi {b : Bi} {es : Exs} : ev o (.bi b es) s = bd (evs o es s) (k := ⟨fun ws s1 => opt' (looks s1 ws) (k := ⟨fun ds => opt' (biD b ds) (k := ⟨fun d => .ok (.d d) s1⟩)⟩)⟩) := q_bi0
@[simp ↓] theorem q_isi {a : Ex} {t : String} : ev o (.isi a t) s = bd (ev o a s) (k := ⟨fun x s1 => opt' (look s1 x) (k := ⟨fun p => opt' (isiD p t) (k := ⟨fun d => .ok (.d (.bl d)) s1⟩)⟩)⟩) := q_isi0
@[simp ↓] theorem q_sm {m : Sm} {x a : Ex} : ev o (.sm m x a) s = bd (ev o x s) (k := ⟨fun x s1 => asS' x (k := ⟨fun z => bd (ev o a s1) (k := ⟨fun y s2 => opt' (look s2 y) (k := ⟨fun q => opt' (smD m z q) (k := ⟨fun d => .ok (.d d) s2⟩)⟩)⟩)⟩)⟩) := q_sm0
@[simp ↓] theorem q_fs {ps : Exs} : ev o (.fs ps) s = bd (evJ o ps Str.empty s) (k := ⟨fun z s1 => .ok (.d (.str z)) s1⟩) := q_fs0
@[simp ↓] theorem q_app {c e : Ex} : ev o (.app c e) s = bd (ev o c s) (k := ⟨fun x s1 => opt' (getL s1 x) (k := ⟨fun _ => bd (ev o e s1) (k := ⟨fun y s2 => opt' (getL s2 x) (k := ⟨fun l => asD' y (k := ⟨fun d => cnd' (decide (l.length < sizeLine)) (k := ⟨(opt' (putL s2 x (l ++ [d])) (k := ⟨fun s3 => .ok (.d .non) s3⟩)), .stuck⟩)⟩)⟩)⟩)⟩)⟩) := q_app0
@[simp ↓] theorem q_popl {c : Ex} : ev o (.popl c) s = bd (ev o c s) (k := ⟨fun x s1 => opt' (getL s1 x) (k := ⟨fun l => opt' l.getLast? (k := ⟨fun d => opt' (putL s1 x l.dropLast) (k := ⟨fun s3 => .ok (.d d) s3⟩)⟩)⟩)⟩) := q_popl0
@[simp ↓] theorem q_popa {c i : Ex} : ev o (.popa c i) s = bd (ev o c s) (k := ⟨fun x s1 => opt' (getL s1 x) (k := ⟨fun _ => bd (ev o i s1) (k := ⟨fun y s2 => opt' (getL s2 x) (k := ⟨fun l => asI' y (k := ⟨fun i => cnd' (decide (0 ≤ i ∧ i < l.length ∧ i < 2 ^ 63)) (k := ⟨(opt' l[i.toNat]? (k := ⟨fun d => opt' (putL s2 x (l.eraseIdx i.toNat)) (k := ⟨fun s3 => .ok (.d d) s3⟩)⟩)), .stuck⟩)⟩)⟩)⟩)⟩)⟩) := q_popa0
@[simp ↓] theorem q_no : evo o .no s = .ok none s := q_no0
@[simp ↓] theorem q_so {e : Ex} : evo o (.so e) s = bd (ev o e s) (k := ⟨fun x s1 => asI' x (k := ⟨fun i => .ok (some i) s1⟩)⟩) := q_so0
@[simp ↓] theorem q_nil : evs o .nil s = .ok [] s := q_nil0
@[simp ↓] theorem q_cons {e : Ex} {r : Exs} : evs o (.cons e r) s = bd (ev o e s) (k := ⟨fun x s1 => bd (evs o r s1) (k := ⟨fun xs s2 => .ok (x :: xs) s2⟩)⟩) := q_cons0
@[simp ↓] theorem q_star {e : Ex} {r : Exs} : evs o (.star e r) s = bd (ev o e s) (k := ⟨fun x s1 => asD' x (k := ⟨fun q => asLT' q (k := ⟨fun l => bd (evs o r s1) (k := ⟨fun xs s2 => .ok (l.map W.d ++ xs) s2⟩)⟩)⟩)⟩) := q_star0
@[simp ↓] theorem q_jnil {z : Str} : evJ o .nil z s = .ok z s := q_jnil0
@[simp ↓] theorem q_jcons {e : Ex} {r : Exs} {z : Str} : evJ o (.cons e r) z s = bd (ev o e s) (k := ⟨fun x s1 => opt' (look s1 x) (k := ⟨fun d => opt' (fmtD d) (k := ⟨fun t => cnd' (decide ((z ++ t).length ≤ sizeLine)) (k := ⟨(evJ o r (z ++ t) s1), .stuck⟩)⟩)⟩)⟩) := q_jcons0
@[simp ↓] theorem q_te {x : Ex} : evT o (.e x) s = bd (ev o x s) (k := ⟨fun w s1 => opt' (look s1 w) (k := ⟨fun d => opt' (truD d) (k := ⟨fun b => .ok b s1⟩)⟩)⟩) := q_te0
@[simp ↓] theorem q_tnot {t : Te} : evT o (.not t) s = bd (evT o t s) (k := ⟨fun c s1 => .ok (!c) s1⟩) := q_tnot0
@[simp ↓] theorem q_tbop {an : Bool} {ts : Tes} : evT o (.bop an ts) s = evTs o an ts s := q_tbop0
@[simp ↓] theorem q_tsnil {an : Bool} : evTs o an .nil s = .ok an s := q_tsnil0
@[simp ↓] theorem q_tscons {an : Bool} {t : Te} {r : Tes} : evTs o an (.cons t r) s = bd (evT o t s) (k := ⟨fun c s1 => cnd' (c == an) (k := ⟨(evTs o an r s1), (.ok c s1)⟩)⟩) := q_tscons0
@[simp ↓] theorem q_tcmp {f : C2} {a b : Ex} : evT o (.cmp f a b) s = bd (ev o a s) (k := ⟨fun x s1 => bd (ev o b s1) (k := ⟨fun y s2 => opt' (look s2 x) (k := ⟨fun p => opt' (look s2 y) (k := ⟨fun q => opt' (cmpD f p q) (k := ⟨fun d => .ok d s2⟩)⟩)⟩)⟩)⟩) := q_tcmp0
@[simp ↓] theorem q_tcmp2 {f g : C2} {a b c : Ex} : evT o (.cmp2 f g a b c) s = bd (ev o a s) (k := ⟨fun x s1 => bd (ev o b s1) (k := ⟨fun y s2 => opt' (look s2 x) (k := ⟨fun p => opt' (look s2 y) (k := ⟨fun q => opt' (cmpD f p q) (k := ⟨fun d => cnd' d (k := ⟨(bd (ev o c s2) (k := ⟨fun z s3 => opt' (look s3 y) (k := ⟨fun q' => opt' (look s3 z) (k := ⟨fun u => opt' (cmpD g q' u) (k := ⟨fun d => .ok d s3⟩)⟩)⟩)⟩)), (.ok false s2)⟩)⟩)⟩)⟩)⟩)⟩) := q_tcmp20
@[simp ↓] theorem q_disp {es : Exs} : evF o (.disp es) s = bd (evs o es s) (k := ⟨fun ws s1 => opt' (dsOf ws) (k := ⟨fun ds => cnd' (decide (ds.length ≤ sizeLine)) (k := ⟨(.ok ds s1), .stuck⟩)⟩)⟩) := q_disp0
@[simp ↓] theorem q_cat {a b : Ex} : evF o (.cat a b) s = bd (ev o a s) (k := ⟨fun x s1 => bd (ev o b s1) (k := ⟨fun y s2 => opt' (lookL s2 x) (k := ⟨fun l => opt' (lookL s2 y) (k := ⟨fun m => cnd' (decide (l.length + m.length ≤ sizeLine)) (k := ⟨(.ok (l ++ m) s2), .stuck⟩)⟩)⟩)⟩)⟩) := q_cat0
@[simp ↓] theorem q_rep {a b : Ex} : evF o (.rep a b) s = bd (ev o a s) (k := ⟨fun x s1 => bd (ev o b s1) (k := ⟨fun y s2 => opt' (lookL s2 x) (k := ⟨fun l => asI' y (k := ⟨fun k => cnd' (decide (-(2 ^ 63) ≤ k ∧ k < 2 ^ 63 ∧ l.length * k.toNat ≤ sizeLine)) (k := ⟨(.ok (List.replicate k.toNat l).flatten s2), .stuck⟩)⟩)⟩)⟩)⟩) := q_rep0
@[simp ↓] theorem q_cpy {a : Ex} : evF o (.cpy a) s = bd (ev o a s) (k := ⟨fun x s1 => opt' (look s1 x) (k := ⟨fun q => asLT' q (k := ⟨fun l => .ok l s1⟩)⟩)⟩) := q_cpy0
@[simp ↓] theorem q_fsli {a : Ex} {lo hi : Exo} : evF o (.sli a lo hi) s = bd (ev o a s) (k := ⟨fun x s1 => bd (evo o lo s1) (k := ⟨fun l s2 => bd (evo o hi s2) (k := ⟨fun h s3 => opt' (look s3 x) (k := ⟨fun q => asLD' q (k := ⟨fun m => .ok (cutD m l h) s3⟩)⟩)⟩)⟩)⟩) := q_fsli0
@[simp ↓] theorem q_rev {a : Ex} : evF o (.rev a) s = bd (ev o a s) (k := ⟨fun x s1 => opt' (look s1 x) (k := ⟨fun q => asLD' q (k := ⟨fun m => .ok m.reverse s1⟩)⟩)⟩) := q_rev0
@[simp ↓] theorem q_lc {t : Tg} {i : It} {ifs : Tes} {e : Ex} {vs : List Nat} : evF o (.lc t i ifs e vs) s = bd (evI o i s) (k := ⟨fun l s1 => cnd' (noOwn s1.r vs) (k := ⟨(bd (comp (lcT o t ifs e vs) l [] s1) (k := ⟨fun acc s2 => .ok acc ⟨s2.g, backR s1.r s2.r vs⟩⟩)), .stuck⟩)⟩) := q_lc0
@[simp ↓] theorem q_lc2 {t t1 : Tg} {i i1 : It} {ifs ifs1 : Tes} {e : Ex} {vs vs1 : List Nat} : evF o (.lc2 t i ifs t1 i1 ifs1 e vs vs1) s = bd (evI o i s) (k := ⟨fun l s1 => cnd' (noOwn s1.r vs) (k := ⟨(bd (comp (lcT2 o t ifs t1 i1 ifs1 e vs vs1) l [] s1) (k := ⟨fun acc s2 => .ok acc ⟨s2.g, backR s1.r s2.r vs⟩⟩)), .stuck⟩)⟩) := q_lc20
@[simp ↓] theorem q_cnil {f : D → List D → Ss → Res (List D)} {acc : List D} : comp f [] acc s = .ok acc s := q_cnil0
@[simp ↓] theorem q_isq {e : Ex} : evI o (.sq e) s = bd (ev o e s) (k := ⟨fun x s1 => asD' x (k := ⟨fun d => opt' (itemsD d) (k := ⟨fun l => .ok l s1⟩)⟩)⟩) := q_isq0
@[simp ↓] theorem q_irg1 {e : Ex} : evI o (.rg1 e) s = bd (ev o e s) (k := ⟨fun x s1 => asI' x (k := ⟨fun j => opt' (rgD 0 j) (k := ⟨fun l => .ok l s1⟩)⟩)⟩) := q_irg10
@[simp ↓] theorem q_irg2 {a b : Ex} : evI o (.rg2 a b) s = bd (ev o a s) (k := ⟨fun x s1 => bd (ev o b s1) (k := ⟨fun y s2 => asI' x (k := ⟨fun i => asI' y (k := ⟨fun j => opt' (rgD i j) (k := ⟨fun l => .ok l s2⟩)⟩)⟩)⟩)⟩) := q_irg20
@[simp ↓] theorem q_ien {e : Ex} : evI o (.en e) s = bd (ev o e s) (k := ⟨fun x s1 => asD' x (k := ⟨fun d => asLT' d (k := ⟨fun l => .ok (enD l) s1⟩)⟩)⟩) := q_ien0
@[simp ↓] theorem q_izp {a b : Ex} : evI o (.zp a b) s = bd (ev o a s) (k := ⟨fun x s1 => bd (ev o b s1) (k := ⟨fun y s2 => asL' x (k := ⟨fun l => asL' y (k := ⟨fun m => .ok (zpD l m) s2⟩)⟩)⟩)⟩) := q_izp0
@[simp ↓] theorem q_snil : exs o .nil s = .ok .nx s := q_snil0
@[simp ↓] theorem q_scons {a : Sx} {r : Sxs} : exs o (.cons a r) s = bd (ex1 o a s) (k := ⟨fun c s1 => sqF o r c s1⟩) := q_scons0
@[simp ↓] theorem q_set {i : Nat} {e : Ex} : ex1 o (.set i e) s = bd (ev o e s) (k := ⟨fun w s1 => nB' w (k := ⟨(.ok .nx ⟨s1.g, s1.r.set i (.w w)⟩)⟩)⟩) := q_set0
@[simp ↓] theorem q_own {i : Nat} {f : Fx} : ex1 o (.own i f) s = bd (evF o f s) (k := ⟨fun l s1 => .ok .nx ⟨s1.g, s1.r.set i (.own l)⟩⟩) := q_own0
@[simp ↓] theorem q_par {l : List (Nat × Rh)} : ex1 o (.par l) s = bd (evR o l s) (k := ⟨fun xs s1 => .ok .nx ⟨s1.g, setsR s1.r xs⟩⟩) := q_par0
@[simp ↓] theorem q_rnil : evR o [] s = .ok [] s := q_rnil0
@[simp ↓] theorem q_rex {i : Nat} {e : Ex} {l : List (Nat × Rh)} : evR o ((i, .ex e) :: l) s = bd (ev o e s) (k := ⟨fun w s1 => nB' w (k := ⟨(bd (evR o l s1) (k := ⟨fun xs s2 => .ok ((i, .w w) :: xs) s2⟩))⟩)⟩) := q_rex0
@[simp ↓] theorem q_row {i : Nat} {f : Fx} {l : List (Nat × Rh)} : evR o ((i, .ow f) :: l) s = bd (evF o f s) (k := ⟨fun d s1 => bd (evR o l s1) (k := ⟨fun xs s2 => .ok ((i, .own d) :: xs) s2⟩)⟩) := q_row0
@[simp ↓] theorem q_unp {t : Tg} {e : Ex} : ex1 o (.unp t e) s = bd (ev o e s) (k := ⟨fun w s1 => asD' w (k := ⟨fun x => opt' (bindG s1.r t x) (k := ⟨fun r => .ok .nx ⟨s1.g, r⟩⟩)⟩)⟩) := q_unp0
@[simp ↓] theorem q_sset {c i e : Ex} : ex1 o (.sset c i e) s = bd (ev o e s) (k := ⟨fun v s1 => bd (ev o c s1) (k := ⟨fun w s2 => bd (ev o i s2) (k := ⟨fun k s3 => asD' v (k := ⟨fun d => opt' (getL s3 w) (k := ⟨fun l => asI' k (k := ⟨fun n => opt' (ixD l.length n) (k := ⟨fun j => opt' (putL s3 w (l.set j d)) (k := ⟨fun s4 => .ok .nx s4⟩)⟩)⟩)⟩)⟩)⟩)⟩)⟩) := q_sset0
@[simp ↓] theorem q_aug {i : Nat} {f : O2} {e : Ex} : ex1 o (.aug i f e) s = agS' s.r[i]? (k := ⟨fun x => bd (ev o e s) (k := ⟨fun w s1 => asD' w (k := ⟨fun y => opt' (opD f (.int x) y) (k := ⟨fun z => .ok .nx ⟨s1.g, s1.r.set i (.w (.d z))⟩⟩)⟩)⟩)⟩) := q_aug0
@[simp ↓] theorem q_ex {e : Ex} : ex1 o (.ex e) s = bd (ev o e s) (k := ⟨fun _ s1 => .ok .nx s1⟩) := q_ex0
@[simp ↓] theorem q_ret {e : Ex} : ex1 o (.ret e) s = bd (ev o e s) (k := ⟨fun w s1 => nB' w (k := ⟨(.ok (.rt w) s1)⟩)⟩) := q_ret0
@[simp ↓] theorem q_retn : ex1 o .retn s = .ok (.rt (.d .non)) s := q_retn0
@[simp ↓] theorem q_ife {t : Te} {a b : Sxs} : ex1 o (.ife t a b) s = bd (evT o t s) (k := ⟨fun c s1 => cnd' c (k := ⟨(exs o a s1), (exs o b s1)⟩)⟩) := q_ife0
@[simp ↓] theorem q_for {t : Tg} {i : It} {b : Sxs} : ex1 o (.for_ t i b) s = bd (evI o i s) (k := ⟨fun l s1 => forL (forB o t b) l s1⟩) := q_for0
@[simp ↓] theorem q_whl {n : Nat} {t : Te} {b : Sxs} : ex1 o (.whl n t b) s = whlL (evT o t) (exs o b) n s := q_whl0
@[simp ↓] theorem q_brk : ex1 o .brk s = .ok .bk s := q_brk0
@[simp ↓] theorem q_cnt : ex1 o .cnt s = .ok .ct s := q_cnt0
@[simp ↓] theorem q_pas : ex1 o .pas s = .ok .nx s := q_pas0
@[simp ↓] theorem q_fnil {f : D → Ss → Res Fl} : forL f [] s = .ok .nx s := q_fnil0
theorem q_fcons {f : D → Ss → Res Fl} {x : D} {l : List D} : forL f (x :: l) s = bd (f x s) (k := ⟨fun c s' => fsF f l c s'⟩) := q_fcons0
@[simp ↓] theorem q_lcE {ifs : Tes} {e : Ex} {acc : List D} : lcE o ifs e acc s = bd (evTs o true ifs s) (k := ⟨fun c s4 => cnd' c (k := ⟨bd (ev o e s4) (k := ⟨fun y s5 => addD acc y s5⟩), .ok acc s4⟩)⟩) := rfl
@[simp ↓] theorem q_lcT {t : Tg} {ifs : Tes} {e : Ex} {vs : List Nat} {x : D} {acc : List D} : lcT o t ifs e vs x acc s = opt' (bindG (nR s.r vs) t x) (k := ⟨fun r3 => lcE o ifs e acc ⟨s.g, r3⟩⟩) := rfl
@[simp ↓] theorem q_lcT2 {t : Tg} {ifs : Tes} {t1 : Tg} {i1 : It} {ifs1 : Tes} {e : Ex} {vs vs1 : List Nat} {x : D} {acc : List D} : lcT2 o t ifs t1 i1 ifs1 e vs vs1 x acc s = opt' (bindG (nR s.r vs) t x) (k := ⟨fun r3 => bd (evTs o true ifs ⟨s.g, r3⟩) (k := ⟨fun c s4 => cnd' c (k := ⟨bd (evI o i1 s4) (k := ⟨fun l1 s5 => comp (lcT o t1 ifs1 e vs1) l1 acc s5⟩), .ok acc s4⟩)⟩)⟩) := rfl
@[simp ↓] theorem q_forB {t : Tg} {b : Sxs} {x : D} : forB o t b x s = opt' (bindG s.r t x) (k := ⟨fun r => exs o b ⟨s.g, r⟩⟩) := rfl
@[simp ↓] theorem q_addD {acc : List D} {d : D} : addD acc (.d d) s = cnd' (decide (acc.length < sizeLine)) (k := ⟨.ok (acc ++ [d]) s, .stuck⟩) := by
  show (if _ then _ else _) = _
  rw [ite_cnd]
  rfl
def cmpF (x : Res (List D)) (f : D → List D → Ss → Res (List D)) (l : List D) : Res (List D) := match x with
  | .ok acc s => comp f l acc s
  | _ => .stuck
@[simp ↓] theorem q_ccons {f : D → List D → Ss → Res (List D)} {x : D} {l acc : List D} : comp f (x :: l) acc s = cmpF (f x acc s) f l := by
  show (match f x acc s with | .ok acc' s' => comp f l acc' s' | _ => .stuck) = _
  unfold cmpF
  cases f x acc s <;> rfl
@[simp] theorem cmpF_ok {f : D → List D → Ss → Res (List D)} {l acc : List D} : cmpF (.ok acc s) f l = comp f l acc s := rfl
@[simp] theorem wq_cmp {X : Res (List D)} {f : D → List D → Ss → Res (List D)} {l : List D} {q : KQ (List D)} : wq (cmpF X f l) (k := q) = wq X (k := ⟨fun acc s => wq (comp f l acc s) (k := q)⟩) := by
  rw [wq_def, wq_def]
  cases X
  · show Res.wp (comp f l _ _) q.q = wq (comp f l _ _) (k := q)
    rw [wq_def]
  · rfl
  · rfl
/-- a comprehension, by what each item adds -/
theorem comp_flat {f : D → List D → Ss → Res (List D)} (I : Ss → Prop) (h : D → List D) : ∀ {l acc : List D} {s : Ss}, acc.length + (l.flatMap h).length ≤ 16777216 → I s →
    (∀ x ∈ l, ∀ (acc : List D) (s : Ss), I s → acc.length + (h x).length ≤ 16777216 → (f x acc s).wp fun acc' s' => acc' = acc ++ h x ∧ I s') → (comp f l acc s).wp fun acc' s' => acc' = acc ++ l.flatMap h ∧ I s'
  | [], acc, s, _, hi, _ => ⟨by simp, hi⟩
  | x :: l, acc, s, hl, hi, H => by
    rw [List.flatMap_cons, List.length_append] at hl
    have h1 := H x (List.mem_cons_self ..) acc s hi (by omega)
    show Res.wp (match f x acc s with | .ok acc' s' => comp f l acc' s' | _ => .stuck) _
    cases e : f x acc s with
    | ok acc' s' =>
      rw [e] at h1
      obtain ⟨rfl, hi'⟩ := h1
      have h2 := comp_flat I h (l := l) (acc := acc ++ h x) (s := s') (by rw [List.length_append]; omega) hi' fun y hy => H y (List.mem_cons_of_mem _ hy)
      rw [List.append_assoc, ← List.flatMap_cons] at h2
      exact h2
    | exc _ _ => rw [e] at h1; exact h1.elim
    | stuck => rw [e] at h1; exact h1.elim
/-- a loop that runs through -/
theorem for_inv {f : D → Ss → Res Fl} (I : List D → Ss → Prop) : ∀ {l : List D} {s : Ss}, I l s → (∀ x l s, I (x :: l) s → (f x s).wp fun c s' => (c = .nx ∨ c = .ct) ∧ I l s') → (forL f l s).wp fun c s' => c = .nx ∧ I [] s'
  | [], s, hi, _ => ⟨rfl, hi⟩
  | x :: l, s, hi, H => by
    have h1 := H x l s hi
    show Res.wp ((f x s).bind _) _
    cases e : f x s with
    | ok c s' =>
      rw [e] at h1
      obtain ⟨hc, hi'⟩ := h1
      rcases hc with rfl | rfl
      · exact for_inv I hi' H
      · exact for_inv I hi' H
    | exc _ _ => rw [e] at h1; exact h1.elim
    | stuck => rw [e] at h1; exact h1.elim
/-- a loop by what it wants of its end, whatever ends it -/
theorem for_w {f : D → Ss → Res Fl} {Q : Fl → Ss → Prop} (I : List D → Ss → Prop) : ∀ {l : List D} {s : Ss}, I l s → (∀ s, I [] s → Q .nx s) →
    (∀ x l s, I (x :: l) s → (f x s).wp fun c s' => match c with | .nx | .ct => I l s' | .bk => Q .nx s' | .rt w => Q (.rt w) s') → (forL f l s).wp Q
  | [], s, hi, h0, _ => h0 s hi
  | x :: l, s, hi, h0, H => by
    have h1 := H x l s hi
    show Res.wp ((f x s).bind _) _
    cases e : f x s with
    | ok c s' =>
      rw [e] at h1
      cases c with
      | nx => exact for_w I h1 h0 H
      | ct => exact for_w I h1 h0 H
      | bk => exact h1
      | rt w => exact h1
    | exc _ _ => rw [e] at h1; exact h1.elim
    | stuck => rw [e] at h1; exact h1.elim
/-- a while by a measure -/
theorem whl_w {t : Ss → Res Bool} {f : Ss → Res Fl} {Q : Fl → Ss → Prop} (I : Ss → Prop) (m : Ss → Nat) : ∀ {n : Nat} {s : Ss}, I s → m s < n →
    (∀ s, I s → (t s).wp fun c s1 => if c = true then (f s1).wp (fun c s2 => match c with | .nx | .ct => I s2 ∧ m s2 < m s | .bk => Q .nx s2 | .rt w => Q (.rt w) s2) else Q .nx s1) → (whlL t f n s).wp Q
  | 0, s, _, hm, _ => absurd hm (Nat.not_lt_zero _)
  | n + 1, s, hi, hm, H => by
    have h1 := H s hi
    show Res.wp ((t s).bind _) _
    cases e : t s with
    | ok c s1 =>
      rw [e] at h1
      have h1 : if c = true then _ else _ := h1
      show Res.wp (if c = true then _ else _) _
      split
      · rename_i hc
        rw [if_pos hc] at h1
        cases e2 : f s1 with
        | ok c2 s2 =>
          rw [e2] at h1
          cases c2 with
          | nx => exact whl_w I m h1.1 (by have := h1.2; omega) H
          | ct => exact whl_w I m h1.1 (by have := h1.2; omega) H
          | bk => exact h1
          | rt w => exact h1
        | exc _ _ => rw [e2] at h1; exact h1.elim
        | stuck => rw [e2] at h1; exact h1.elim
      · rename_i hc
        rw [if_neg hc] at h1
        exact h1
    | exc _ _ => rw [e] at h1; exact h1.elim
    | stuck => rw [e] at h1; exact h1.elim
end
end Pc

set_option Elab.async false
set_option linter.all false
set_option maxRecDepth 100000
set_option maxHeartbeats 4000000
namespace Pc
open PySem
open L2 (cutS)
@[simp] theorem szl : sizeLine = 16777216 := PySem.sizeLine_eq
/-- the text of a number, and whether it may be told -/
def istr (i : Int) : Str := Str.ofString (toString i)
def iok (i : Int) : Bool := decide (i.natAbs.log2 < 1920)
def inS (z b : Str) : Bool := !(Builtin.Str.occurrences b z 0 b.length 1).isEmpty
section
variable {i j : Int} {a b z : Str} {l m : List D} {x y p q : D}
@[simp] theorem o_add : opD .add (.int i) (.int j) = some (.int (i + j)) := rfl
@[simp] theorem o_sub : opD .sub (.int i) (.int j) = some (.int (i - j)) := rfl
@[simp] theorem o_mul : opD .mul (.int i) (.int j) = optB (decide ((-18446744073709551616 < i ∧ i < 18446744073709551616) ∨ (-18446744073709551616 < j ∧ j < 18446744073709551616))) (.int (i * j)) := by
  have : mulOk i j = decide ((-18446744073709551616 < i ∧ i < 18446744073709551616) ∨ (-18446744073709551616 < j ∧ j < 18446744073709551616)) := by
    unfold mulOk
    have e : (2 : Int) ^ 64 = 18446744073709551616 := by decide
    rw [e, Bool.eq_iff_iff]
    simp
  rw [← this]
  rfl
@[simp] theorem o_mod (h : 0 < j) : opD .mod (.int i) (.int j) = some (.int (i % j)) := by
  have : j ≠ 0 := by omega
  simp [opD, optB, this, Int.fmod_eq_emod_of_nonneg i (by omega : 0 ≤ j)]
@[simp] theorem o_fdiv (h : 0 < j) (h2 : j < 1073741824) : opD .fdiv (.int i) (.int j) = some (.int (i / j)) := by
  have h3 : j ≠ 0 := by omega
  have h4 : j.natAbs < 1073741824 := by omega
  simp [opD, optB, h3, h4, Int.fdiv_eq_ediv_of_nonneg i (by omega : 0 ≤ j)]
@[simp] theorem o_adds : opD .add (.str a) (.str b) = optB (decide (a.length + b.length ≤ 16777216)) (.str (a ++ b)) := by
  rw [← szl]
  rfl
@[simp] theorem o_addt : opD .add (.tup l) (.tup m) = optB (decide (l.length + m.length ≤ 16777216)) (.tup (l ++ m)) := by
  rw [← szl]
  rfl
@[simp] theorem optB_t {α : Type} {x : α} : optB true x = some x := rfl
@[simp] theorem k_lt : cmpD .lt (.int i) (.int j) = some (decide (i < j)) := rfl
@[simp] theorem k_le : cmpD .le (.int i) (.int j) = some (decide (i ≤ j)) := rfl
@[simp] theorem k_gt : cmpD .gt (.int i) (.int j) = some (decide (j < i)) := rfl
@[simp] theorem k_ge : cmpD .ge (.int i) (.int j) = some (decide (j ≤ i)) := rfl
@[simp] theorem k_eqi : cmpD .eq (.int i) (.int j) = some (decide (i = j)) := by
  show eqG (.int i) (.int j) = _
  unfold eqG
  show optB (SeqAt.shaped (.int i) && SeqAt.shaped (.int j)) (PyData.eqv (.int i) (.int j)) = _
  have h1 : SeqAt.shaped (.int i) = true := rfl
  have h2 : SeqAt.shaped (.int j) = true := rfl
  rw [h1, h2]
  refine congrArg some ?_
  by_cases e : i = j
  · subst e; simp [PyData.eqv]
  · simp [PyData.eqv, e]
@[simp] theorem k_nei : cmpD .ne (.int i) (.int j) = some (!decide (i = j)) := by
  have h : cmpD .eq (.int i) (.int j) = some (decide (i = j)) := k_eqi
  show (eqD (.int i) (.int j)).map (!·) = _
  rw [show eqD (.int i) (.int j) = some (decide (i = j)) from h]
  rfl
@[simp] theorem k_eqs : cmpD .eq (.str a) (.str b) = some (decide (a = b)) := rfl
@[simp] theorem k_nes : cmpD .ne (.str a) (.str b) = some (!decide (a = b)) := rfl
@[simp] theorem k_eqb {a b : Bool} : cmpD .eq (.bl a) (.bl b) = some (decide (a = b)) := by
  cases a <;> cases b <;> rfl
@[simp] theorem k_isn0 : cmpD .isn .non .non = some true := rfl
@[simp] theorem k_isn1 : cmpD .isn (.int i) .non = some false := rfl
@[simp] theorem k_isn2 {a : Bool} : cmpD .isn (.bl a) .non = some false := rfl
@[simp] theorem k_isn3 : cmpD .isn (.str a) .non = some false := rfl
@[simp] theorem k_isn4 : cmpD .isn (.tup l) .non = some false := rfl
@[simp] theorem k_isn5 : cmpD .isn (.lst l) .non = some false := rfl
@[simp] theorem k_nisn0 : cmpD .nisn .non .non = some false := rfl
@[simp] theorem k_nisn1 : cmpD .nisn (.int i) .non = some true := rfl
@[simp] theorem k_nisn3 : cmpD .nisn (.str a) .non = some true := rfl
@[simp] theorem k_nisn4 : cmpD .nisn (.tup l) .non = some true := rfl
@[simp] theorem k_isbl {a b : Bool} : cmpD .isn (.bl a) (.bl b) = some (decide (a = b)) := rfl
@[simp] theorem k_nisbl {a b : Bool} : cmpD .nisn (.bl a) (.bl b) = some (!decide (a = b)) := rfl
@[simp] theorem k_inss : cmpD .inn (.str a) (.str b) = some (inS a b) := rfl
@[simp] theorem k_ninss : cmpD .nin (.str a) (.str b) = some (!inS a b) := rfl
@[simp] theorem k_inl : cmpD .inn x (.lst l) = optB (x.fl && l.all D.fl) (l.any fun y => eqF y x) := rfl
@[simp] theorem k_int : cmpD .inn x (.tup l) = optB (x.fl && l.all D.fl) (l.any fun y => eqF y x) := rfl
theorem optB_map {α γ : Type} {b : Bool} {x : α} {f : α → γ} : (optB b x).map f = optB b (f x) := by cases b <;> rfl
@[simp] theorem k_nint : cmpD .nin x (.tup l) = optB (x.fl && l.all D.fl) (!l.any fun y => eqF y x) := optB_map
@[simp] theorem k_ninl : cmpD .nin x (.lst l) = optB (x.fl && l.all D.fl) (!l.any fun y => eqF y x) := optB_map
@[simp] theorem ef_ss : eqF (.str a) (.str b) = (a == b) := rfl
@[simp] theorem ef_ii : eqF (.int i) (.int j) = (i == j) := rfl
@[simp] theorem ef_si : eqF (.str a) (.int j) = false := rfl
@[simp] theorem ef_is : eqF (.int j) (.str a) = false := rfl
@[simp] theorem ef_ns : eqF .non (.str a) = false := rfl
@[simp] theorem ef_sn : eqF (.str a) .non = false := rfl
@[simp] theorem ef_sb {b : Bool} : eqF (.str a) (.bl b) = false := rfl
@[simp] theorem ef_in : eqF (.int i) .non = false := rfl
@[simp] theorem ef_ib {b : Bool} : eqF (.int i) (.bl b) = (i == (if b then 1 else 0)) := rfl
@[simp] theorem fl_n : D.fl .non = true := rfl
@[simp] theorem fl_b {b : Bool} : D.fl (.bl b) = true := rfl
@[simp] theorem fl_i : D.fl (.int i) = true := rfl
@[simp] theorem fl_s : D.fl (.str a) = true := rfl
@[simp] theorem tr_n : truD .non = some false := rfl
@[simp] theorem tr_b {b : Bool} : truD (.bl b) = some b := rfl
@[simp] theorem tr_i : truD (.int i) = some (i != 0) := rfl
@[simp] theorem tr_t0 : truD (.tup []) = some false := rfl
@[simp] theorem tr_t : truD (.tup (x :: l)) = some true := rfl
@[simp] theorem tr_l0 : truD (.lst []) = some false := rfl
@[simp] theorem tr_l : truD (.lst (x :: l)) = some true := rfl
@[simp] theorem is_n {t : String} : isiD .non t = some ("NoneType" == t) := rfl
@[simp] theorem is_b {b : Bool} {t : String} : isiD (.bl b) t = some (t == "bool" || t == "int") := rfl
@[simp] theorem is_i {t : String} : isiD (.int i) t = some ("int" == t) := rfl
@[simp] theorem is_s {t : String} : isiD (.str a) t = some ("str" == t) := rfl
@[simp] theorem is_t {t : String} : isiD (.tup l) t = some ("tuple" == t) := rfl
@[simp] theorem is_l {t : String} : isiD (.lst l) t = some ("list" == t) := rfl
end
/-! names of kinds -/
section
@[simp] theorem n_ss : ("str" == "str") = true := by decide
@[simp] theorem n_st : ("str" == "tuple") = false := by decide
@[simp] theorem n_si : ("str" == "int") = false := by decide
@[simp] theorem n_sb : ("str" == "bool") = false := by decide
@[simp] theorem n_sl : ("str" == "list") = false := by decide
@[simp] theorem n_ts : ("tuple" == "str") = false := by decide
@[simp] theorem n_tt : ("tuple" == "tuple") = true := by decide
@[simp] theorem n_ti : ("tuple" == "int") = false := by decide
@[simp] theorem n_tb : ("tuple" == "bool") = false := by decide
@[simp] theorem n_tl : ("tuple" == "list") = false := by decide
@[simp] theorem n_is : ("int" == "str") = false := by decide
@[simp] theorem n_it : ("int" == "tuple") = false := by decide
@[simp] theorem n_ii : ("int" == "int") = true := by decide
@[simp] theorem n_ib : ("int" == "bool") = false := by decide
@[simp] theorem n_il : ("int" == "list") = false := by decide
@[simp] theorem n_bs : ("bool" == "str") = false := by decide
@[simp] theorem n_bt : ("bool" == "tuple") = false := by decide
@[simp] theorem n_bb : ("bool" == "bool") = true := by decide
@[simp] theorem n_bi : ("bool" == "int") = false := by decide
@[simp] theorem n_bl : ("bool" == "list") = false := by decide
@[simp] theorem n_ls : ("list" == "str") = false := by decide
@[simp] theorem n_lt : ("list" == "tuple") = false := by decide
@[simp] theorem n_li : ("list" == "int") = false := by decide
@[simp] theorem n_lb : ("list" == "bool") = false := by decide
@[simp] theorem n_ll : ("list" == "list") = true := by decide
@[simp] theorem n_ns : ("NoneType" == "str") = false := by decide
@[simp] theorem n_nt : ("NoneType" == "tuple") = false := by decide
@[simp] theorem n_ni : ("NoneType" == "int") = false := by decide
@[simp] theorem n_nb : ("NoneType" == "bool") = false := by decide
@[simp] theorem n_nl : ("NoneType" == "list") = false := by decide
end
/-! items, slices, built-ins -/
section
variable {i j : Int} {a b z : Str} {l m : List D} {x y u v w p q : D}
@[simp] theorem st_0 : subD (.tup (x :: l)) (.int 0) = some x := by
  show (if (0 : Int) ≤ 0 then if (0 : Int) < ((l.length + 1 : Nat) : Int) then some (Int.toNat 0) else none else _ : Option Nat).bind _ = _
  rw [if_pos (by decide), if_pos (by omega)]; rfl
@[simp] theorem st_1 : subD (.tup (x :: y :: l)) (.int 1) = some y := by
  show (if (0 : Int) ≤ 1 then if (1 : Int) < ((l.length + 1 + 1 : Nat) : Int) then some (Int.toNat 1) else none else _ : Option Nat).bind _ = _
  rw [if_pos (by decide), if_pos (by omega)]; rfl
@[simp] theorem st_2 : subD (.tup (x :: y :: u :: l)) (.int 2) = some u := by
  show (if (0 : Int) ≤ 2 then if (2 : Int) < ((l.length + 1 + 1 + 1 : Nat) : Int) then some (Int.toNat 2) else none else _ : Option Nat).bind _ = _
  rw [if_pos (by decide), if_pos (by omega)]; rfl
@[simp] theorem st_3 : subD (.tup (x :: y :: u :: v :: l)) (.int 3) = some v := by
  show (if (0 : Int) ≤ 3 then if (3 : Int) < ((l.length + 1 + 1 + 1 + 1 : Nat) : Int) then some (Int.toNat 3) else none else _ : Option Nat).bind _ = _
  rw [if_pos (by decide), if_pos (by omega)]; rfl
@[simp] theorem sl_0 : subD (.lst (x :: l)) (.int 0) = some x := st_0
@[simp] theorem sl_1 : subD (.lst (x :: y :: l)) (.int 1) = some y := st_1
@[simp] theorem sl_2 : subD (.lst (x :: y :: u :: l)) (.int 2) = some u := st_2
@[simp] theorem sl_3 : subD (.lst (x :: y :: u :: v :: l)) (.int 3) = some v := st_3
@[simp] theorem sl_4 : subD (.lst (x :: y :: u :: v :: w :: l)) (.int 4) = some w := by
  show (if (0 : Int) ≤ 4 then if (4 : Int) < ((l.length + 1 + 1 + 1 + 1 + 1 : Nat) : Int) then some (Int.toNat 4) else none else _ : Option Nat).bind _ = _
  rw [if_pos (by decide), if_pos (by omega)]; rfl
theorem ix_ok {n : Nat} (h0 : 0 ≤ i) (h1 : i < (n : Int)) : ixD n i = some i.toNat := by
  unfold ixD
  rw [if_pos h0, if_pos h1]
theorem s_lget (h0 : 0 ≤ i) (h1 : i < (l.length : Int)) : subD (.lst l) (.int i) = some (l.getD i.toNat .non) := by
  show (ixD l.length i).bind _ = _
  rw [ix_ok h0 h1]
  have h2 : i.toNat < l.length := by omega
  show l[i.toNat]? = _
  rw [List.getD_eq_getElem?_getD, List.getElem?_eq_getElem h2]; rfl
theorem s_tget (h0 : 0 ≤ i) (h1 : i < (l.length : Int)) : subD (.tup l) (.int i) = some (l.getD i.toNat .non) := s_lget h0 h1
theorem getD_mem {n : Nat} (h : n < l.length) : l.getD n .non ∈ l := by
  rw [List.getD_eq_getElem?_getD, List.getElem?_eq_getElem h]
  exact List.getElem_mem h
theorem s_sget (hz : z.length ≤ 16777216) (h0 : 0 ≤ i) (h1 : i < (z.length : Int)) : ∃ c ∈ z.cps.toList, subD (.str z) (.int i) = some (.str ⟨#[c]⟩) := by
  have h2 : i.toNat < z.cps.toList.length := by rw [Array.length_toList]; show _ < z.length; omega
  refine ⟨z.cps.toList[i.toNat], List.getElem_mem _, ?_⟩
  show (if z.length ≤ sizeLine then ((ixD z.cps.toList.length i).bind fun j => z.cps.toList[j]?).map fun c => D.str ⟨#[c]⟩ else none) = _
  rw [if_pos (by rw [szl]; exact hz), ix_ok h0 (by rw [Array.length_toList]; exact h1)]
  simp only [Option.bind_some, List.getElem?_eq_getElem h2, Option.map_some]
@[simp] theorem sli_t {lo hi : Option Int} : sliD (.tup l) lo hi = some (.tup (cutD l lo hi)) := rfl
@[simp] theorem sli_s {lo hi : Option Int} : sliD (.str z) lo hi = optB (decide (z.length ≤ 16777216)) (.str (cutS z lo hi)) := by
  rw [← szl]
  rfl
@[simp] theorem ix5_0 : ixD 5 0 = some 0 := rfl
@[simp] theorem ix5_1 : ixD 5 1 = some 1 := rfl
@[simp] theorem ix5_2 : ixD 5 2 = some 2 := rfl
@[simp] theorem ix5_3 : ixD 5 3 = some 3 := rfl
@[simp] theorem ix5_4 : ixD 5 4 = some 4 := rfl
@[simp] theorem b_lenl : biD .len [.lst l] = some (.int l.length) := rfl
@[simp] theorem b_lent : biD .len [.tup l] = some (.int l.length) := rfl
@[simp] theorem b_lens : biD .len [.str z] = optB (decide (z.length ≤ 16777216)) (.int z.length) := by
  rw [← szl]
  rfl
@[simp] theorem b_inti : biD .int [.int i] = some (.int i) := rfl
@[simp] theorem b_intb {b : Bool} : biD .int [.bl b] = some (.int (if b then 1 else 0)) := rfl
@[simp] theorem b_tupl : biD .tuple [.lst l] = some (.tup l) := rfl
@[simp] theorem b_tupt : biD .tuple [.tup l] = some (.tup l) := rfl
@[simp] theorem b_str : biD .str [.int i] = optB (iok i) (.str (istr i)) := rfl
@[simp] theorem b_abs : biD .abs [.int i] = some (.int (if i < 0 then -i else i)) := rfl
theorem blsOf_map : ∀ l : List Bool, blsOf (l.map D.bl) = some l
  | [] => rfl
  | a :: l => by rw [List.map_cons, blsOf, blsOf_map l]; rfl
theorem intsOf_map : ∀ l : List Int, intsOf (l.map D.int) = some l
  | [] => rfl
  | a :: l => by rw [List.map_cons, intsOf, intsOf_map l]; rfl
theorem strsOf_map : ∀ l : List Str, strsOf (l.map D.str) = some l
  | [] => rfl
  | a :: l => by rw [List.map_cons, strsOf, strsOf_map l]; rfl
@[simp] theorem b_all {l : List Bool} : biD .all [.lst (l.map D.bl)] = some (.bl (l.all id)) := by
  show (blsOf _).map _ = _
  rw [blsOf_map]; rfl
@[simp] theorem b_any' {l : List Bool} : biD .any [.lst (l.map D.bl)] = some (.bl (l.any id)) := by
  show (blsOf _).map _ = _
  rw [blsOf_map]; rfl
theorem b_sum {l : List Int} : biD .sum [.lst (l.map D.int)] = some (.int l.sum) := by
  show (intsOf _).map _ = _
  rw [intsOf_map]; rfl
@[simp] theorem f_s : fmtD (.str z) = optB (decide (z.length ≤ 16777216)) z := by
  rw [← szl]
  rfl
@[simp] theorem f_i : fmtD (.int i) = optB (iok i) (istr i) := rfl
@[simp] theorem it_l : itemsD (.lst l) = some l := rfl
@[simp] theorem it_t : itemsD (.tup l) = some l := rfl
@[simp] theorem it_s : itemsD (.str z) = some (z.cps.toList.map fun c => .str ⟨#[c]⟩) := rfl
@[simp] theorem rg_ok {lo hi : Int} : rgD lo hi = optB (decide (-4611686018427387904 ≤ lo ∧ lo < 4611686018427387904 ∧ -4611686018427387904 ≤ hi ∧ hi < 4611686018427387904)) ((List.range (hi - lo).toNat).map fun i => D.int (lo + (i : Nat))) := by
  unfold rgD
  have e : (2 : Int) ^ 62 = 4611686018427387904 := by decide
  rw [e]
  congr 1
  rw [Bool.eq_iff_iff]
  simp
  omega
end
/-! binding -/
section
variable {r : List Sl} {x y u v : D} {i j k : Nat}
@[simp] theorem bg_nm : bindG r (.nm i) x = some (r.set i (.w (.d x))) := rfl
@[simp] theorem bg_2 : bindG r (.tp [i, j]) (.tup [x, y]) = some ((r.set i (.w (.d x))).set j (.w (.d y))) := rfl
@[simp] theorem bg_3 : bindG r (.tp [i, j, k]) (.tup [x, y, u]) = some (((r.set i (.w (.d x))).set j (.w (.d y))).set k (.w (.d u))) := rfl
@[simp] theorem nR_nil : nR r [] = r := rfl
@[simp] theorem nR_cons {vs : List Nat} : nR r (i :: vs) = (nR r vs).set i .no := rfl
def noS (x : Option Sl) : Bool := match x with
  | some (.own _) => false
  | _ => true
@[simp] theorem noOwn_nil : noOwn r [] = true := rfl
@[simp] theorem noOwn_cons {vs : List Nat} : noOwn r (i :: vs) = (noS r[i]? && noOwn r vs) := by
  unfold noOwn noS
  rw [List.all_cons]
  all_goals congr 1
@[simp] theorem noS_w {x : W} : noS (some (.w x)) = true := rfl
@[simp] theorem noS_n : noS (some .no) = true := rfl
@[simp] theorem noS_0 : noS none = true := rfl
def bakS (x : Option Sl) (i : Nat) (r : List Sl) : List Sl := match x with
  | some x => r.set i x
  | none => r
@[simp] theorem bakS_s {x : Sl} {i : Nat} : bakS (some x) i r = r.set i x := rfl
@[simp] theorem backR_nil {r0 : List Sl} : backR r0 r [] = r := rfl
@[simp] theorem backR_cons {r0 : List Sl} {vs : List Nat} : backR r0 r (i :: vs) = bakS r0[i]? i (backR r0 r vs) := by
  unfold bakS
  rw [backR]
  all_goals (cases r0[i]? <;> rfl)
end
@[simp] theorem beq_tt : (true == true) = true := rfl
@[simp] theorem beq_ff : (false == false) = true := rfl
@[simp] theorem beq_tf : (true == false) = false := rfl
@[simp] theorem beq_ft : (false == true) = false := rfl
@[simp] theorem beq_bt {b : Bool} : (b == true) = b := by cases b <;> rfl
@[simp] theorem beq_bf {b : Bool} : (b == false) = !b := by cases b <;> rfl
@[simp] theorem s_lgetI {l : List Int} {i : Int} (h0 : 0 ≤ i) (h1 : i < (l.length : Int)) : subD (.lst (l.map D.int)) (.int i) = some (.int (l.getD i.toNat 0)) := by
  rw [s_lget h0 (by rw [List.length_map]; exact h1)]
  have h2 : i.toNat < l.length := by omega
  rw [List.getD_eq_getElem?_getD, List.getD_eq_getElem?_getD, List.getElem?_map, List.getElem?_eq_getElem h2]
  rfl
section
variable {β : Type} {p : Prop} [Decidable p] {k : KP β} {q : KQ β}
theorem wq_dt (h : p) (h1 : wq k.t (k := q)) : wq (cnd' (decide p) (k := k)) (k := q) := wq_cndT (decide_eq_true h) h1
theorem wq_df (h : ¬p) (h1 : wq k.e (k := q)) : wq (cnd' (decide p) (k := k)) (k := q) := wq_cndF (decide_eq_false h) h1
theorem wq_d (h1 : p → wq k.t (k := q)) (h2 : ¬p → wq k.e (k := q)) : wq (cnd' (decide p) (k := k)) (k := q) := wq_cnd (fun h => h1 (of_decide_eq_true h)) (fun h => h2 (of_decide_eq_false h))
theorem wq_nt (h : ¬p) (h1 : wq k.t (k := q)) : wq (cnd' (!decide p) (k := k)) (k := q) := wq_cndT (by rw [decide_eq_false h]; rfl) h1
theorem wq_nf (h : p) (h1 : wq k.e (k := q)) : wq (cnd' (!decide p) (k := k)) (k := q) := wq_cndF (by rw [decide_eq_true h]; rfl) h1
theorem wq_n (h1 : ¬p → wq k.t (k := q)) (h2 : p → wq k.e (k := q)) : wq (cnd' (!decide p) (k := k)) (k := q) := wq_cnd (fun h => h1 fun hp => by rw [decide_eq_true hp] at h; cases h) (fun h => h2 (by cases e : decide p with | true => exact of_decide_eq_true e | false => rw [e] at h; cases h))
end
@[simp] theorem gz_ok {α : Type} {a : α} {l : List α} : (a :: l)[0]? = some a := rfl
@[simp] theorem gs_ok {α : Type} {a : α} {l : List α} {i : Nat} : (a :: l)[i + 1]? = l[i]? := rfl
@[simp] theorem gn_ok {α : Type} {i : Nat} : ([] : List α)[i]? = none := rfl
theorem s_lmem {l : List D} {i : Int} (h0 : 0 ≤ i) (h1 : i < (l.length : Int)) : ∃ x ∈ l, subD (.lst l) (.int i) = some x := ⟨_, getD_mem (by omega), s_lget h0 h1⟩
theorem s_tmem {l : List D} {i : Int} (h0 : 0 ≤ i) (h1 : i < (l.length : Int)) : ∃ x ∈ l, subD (.tup l) (.int i) = some x := ⟨_, getD_mem (by omega), s_tget h0 h1⟩
@[simp] theorem blsOf_nil : blsOf [] = some [] := rfl
@[simp] theorem blsOf_cons {a : Bool} {l : List D} : blsOf (.bl a :: l) = optM (blsOf l) fun m => some (a :: m) := by
  rw [blsOf]
  cases blsOf l <;> rfl
@[simp] theorem b_all2 {l : List D} : biD .all [.lst l] = optM (blsOf l) fun m => some (.bl (m.all id)) := by
  show (blsOf l).map _ = _
  cases blsOf l <;> rfl
@[simp] theorem b_any2 {l : List D} : biD .any [.lst l] = optM (blsOf l) fun m => some (.bl (m.any id)) := by
  show (blsOf l).map _ = _
  cases blsOf l <;> rfl
@[simp] theorem str_e {a : Str} : Str.empty ++ a = a := by
  obtain ⟨a⟩ := a
  show (⟨#[] ++ a⟩ : Str) = _
  simp
@[simp] theorem str_len {a b : Str} : (a ++ b).length = a.length + b.length := PySem.strLen_append a b
@[simp] theorem enD_eq {l : List D} : enD l = l.zipIdx.map fun p => .tup [.int p.2, p.1] := rfl
@[simp] theorem so_len (s : String) : (Str.ofString s).length = s.toList.length := PyProof.Rows.ofString_length s
@[simp] theorem so_inj {a b : String} : (Str.ofString a = Str.ofString b) ↔ a = b := by
  constructor
  · intro h
    rw [Str.ofString_eq_toList, Str.ofString_eq_toList] at h
    injection h with h
    injection h with h
    have : Function.Injective Char.toNat := fun x y h => Char.ext (UInt32.toNat_inj.mp h)
    have := (List.map_inj_right (f := Char.toNat) fun x y h => this h).mp h
    exact String.toList_inj.mp this
  · rintro rfl; rfl
@[simp] theorem opt_optB {α β : Type} {b : Bool} {x : α} [k : K1 α β] : opt' (optB b x) (k := k) = cnd' b (k := ⟨k.f x, .stuck⟩) := by cases b <;> rfl
@[simp] theorem o_pow {i j : Int} : opD .pow (.int i) (.int j) = optB (decide (0 ≤ j ∧ j ≤ 1000000 ∧ i.natAbs < 18446744073709551616)) (.int (i ^ j.toNat)) := by
  show optB (_ && _ && _) _ = _
  congr 1
  rw [Bool.eq_iff_iff]
  simp [and_assoc]
@[simp] theorem ci_1 {n : Nat} : ((n : Int) = 1) ↔ n = 1 := by omega
@[simp] theorem ci_2 {n : Nat} : ((n : Int) = 2) ↔ n = 2 := by omega
@[simp] theorem ci_3 {n : Nat} : ((n : Int) = 3) ↔ n = 3 := by omega
@[simp] theorem ci_4 {n : Nat} : ((n : Int) = 4) ↔ n = 4 := by omega
@[simp] theorem o_mult {l : List D} {k : Int} : opD .mul (.tup l) (.int k) = optB (!l.isEmpty && decide (2 ≤ k) && decide (k ≤ 1000) && decide (l.length ≤ 1000)) (.tup (List.replicate k.toNat l).flatten) := rfl
@[simp] theorem so_beq {a b : String} : (Str.ofString a == Str.ofString b) = decide (a = b) := by
  by_cases h : a = b
  · subst h; simp
  · rw [decide_eq_false h]
    exact beq_eq_false_iff_ne.mpr fun e => h (so_inj.mp e)
end Pc

set_option Elab.async false
set_option linter.all false
set_option maxRecDepth 100000
set_option maxHeartbeats 4000000
namespace Pc
open PySem
open L2 (cutS)
def b_draw : Sxs :=
    (.cons (.ife (.bop true (.cons (.cmp .lt (.sub (.b 0) (.k (.int 2))) (.v 1)) (.cons (.cmp .lt (.sub (.b 0) (.k (.int 1))) (.bi .len (.cons (.sub (.b 0) (.k (.int 0))) .nil))) .nil)))
    (.cons (.set 2 (.sub (.sub (.b 0) (.k (.int 0))) (.sub (.b 0) (.k (.int 1)))))
    (.cons (.sset (.b 0) (.k (.int 1)) (.op .add (.sub (.b 0) (.k (.int 1))) (.k (.int 1))))
    (.cons (.sset (.b 0) (.k (.int 3)) (.op .mod (.bi .int (.cons (.op .add (.op .add (.op .mul (.sub (.b 0) (.k (.int 3))) (.k (.int 41017))) (.op .mod (.bi .int (.cons (.v 2) .nil)) (.k (.int 2147483563)))) (.k (.int 37))) .nil)) (.k (.int 2147483629))))
    (.cons (.sset (.b 0) (.k (.int 2)) (.ite (.cmp .ge (.v 2) (.op .pow (.k (.int 10)) (.k (.int 18)))) (.v 2) (.k (.int 0))))
    .nil))))
    .nil)
    (.cons (.ife (.cmp .ge (.sub (.b 0) (.k (.int 2))) (.v 1))
    (.cons (.set 3 (.op .mod (.bi .int (.cons (.sub (.b 0) (.k (.int 2))) .nil)) (.v 1)))
    (.cons (.sset (.b 0) (.k (.int 2)) (.op .fdiv (.sub (.b 0) (.k (.int 2))) (.v 1)))
    (.cons (.ret (.v 3))
    .nil)))
    .nil)
    (.cons (.sset (.b 0) (.k (.int 4)) (.op .add (.sub (.b 0) (.k (.int 4))) (.k (.int 1))))
    (.cons (.set 4 (.op .mod (.bi .int (.cons (.op .add (.sub (.b 0) (.k (.int 3))) (.op .mul (.sub (.b 0) (.k (.int 4))) (.k (.int 7907)))) .nil)) (.k (.int 2147483587))))
    (.cons (.set 5 (.op .mul (.op .mod (.bi .int (.cons (.op .mul (.v 4) (.v 4)) .nil)) (.k (.int 2147483549))) (.op .add (.op .mod (.bi .int (.cons (.v 4) .nil)) (.k (.int 40009))) (.k (.int 11)))))
    (.cons (.sset (.b 0) (.k (.int 3)) (.op .mod (.bi .int (.cons (.op .add (.op .add (.v 5) (.op .mul (.k (.int 29009)) (.v 4))) (.k (.int 617))) .nil)) (.k (.int 2147483629))))
    (.cons (.ret (.op .mod (.bi .int (.cons (.op .add (.op .fdiv (.sub (.b 0) (.k (.int 3))) (.k (.int 73))) (.op .mul (.op .mod (.bi .int (.cons (.sub (.b 0) (.k (.int 3))) .nil)) (.k (.int 9007))) (.k (.int 53)))) .nil)) (.v 1)))
    .nil)))))))
def b_bag : Sxs :=
    (.cons (.set 1 (.k (.int 10049)))
    (.cons (.for_ (.nm 2) (.sq (.fz (.sli (.v 0) .no (.so (.k (.int 63))))))
    (.cons (.set 1 (.op .mod (.bi .int (.cons (.op .add (.op .add (.op .mul (.v 1) (.k (.int 52567))) (.op .mod (.bi .int (.cons (.v 2) .nil)) (.k (.int 2147483549)))) (.k (.int 29))) .nil)) (.k (.int 2147483579))))
    .nil))
    (.cons (.ret (.mk (.disp (.cons (.fz (.cpy (.fz (.sli (.v 0) .no (.so (.k (.int 63))))))) (.cons (.k (.int 0)) (.cons (.k (.int 0)) (.cons (.v 1) (.cons (.k (.int 0)) .nil))))))))
    .nil)))
/-- a bag of draws -/
def BagOk (l : List D) : Prop := ∃ (xs : List Int) (i c m t : Int), l = [.lst (xs.map D.int), .int i, .int c, .int m, .int t] ∧ 0 ≤ i
def IsDraw (fd : Fn) : Prop := fd.np = 2 ∧ fd.nm.length = 6 ∧ fd.pats[0]? = some ⟨2, [], [.p 0, .p 1]⟩ ∧ fd.body = b_draw
theorem mb {a b : Int} (h : 0 < b) (h2 : b ≤ 2 ^ 40) : -(2 ^ 64) < a.fmod b ∧ a.fmod b < 2 ^ 64 := by
  have h3 := Int.fmod_nonneg_of_pos a h
  have h4 := Int.fmod_lt_of_pos a h
  omega
theorem mb2 {a b c : Int} (h : 0 < b) (h2 : b ≤ 2 ^ 40) (h3 : 0 ≤ c ∧ c ≤ 2 ^ 40) : -(2 ^ 64) < a.fmod b + c ∧ a.fmod b + c < 2 ^ 64 := by
  have h3 := Int.fmod_nonneg_of_pos a h
  have h4 := Int.fmod_lt_of_pos a h
  omega
local macro_rules | `(tactic| walk_at "pc") => `(tactic| simp -implicitDefEqProofs (disch := first | omega | decide))
local macro_rules | `(tactic| walk_at "ps") => `(tactic| first
  | with_reducible refine wq_dt (by omega) ?_ | with_reducible refine wq_df (by omega) ?_ | with_reducible refine wq_d (fun h => ?_) (fun h => ?_)
  | with_reducible refine wq_nt (by omega) ?_ | with_reducible refine wq_nf (by omega) ?_ | with_reducible refine wq_n (fun h => ?_) (fun h => ?_)
  | with_reducible refine wq_cndT (by simp only [Bool.and_eq_true, Bool.or_eq_true, decide_eq_true_eq, Bool.not_eq_true', decide_eq_false_iff_not]; omega) ?_
  | with_reducible refine wq_cndF (by simp only [Bool.and_eq_false_iff, Bool.or_eq_false_iff, decide_eq_true_eq, Bool.not_eq_false', decide_eq_false_iff_not]; omega) ?_
  | (with_reducible refine wq_cnd ?_ ?_ <;> (intro h; try simp only [h])))
local macro_rules | `(tactic| walk_at "pp") => `(tactic| (repeat' (first | walk_at "pc" | walk_at "ps")))

theorem draw_wp {tab : List Fn} {n f : Nat} {fd : Fn} (h1 : tab[f]? = some fd) (h2 : IsDraw fd) {S l : List D} {ex : List Cl} {most : Int} (hb : BagOk l) (hm : 1 ≤ most) (hm2 : most < 1073741824) :
    (run tab (n + 1) f 0 [.c 1, .d (.int most)] [] (.fz S :: .lst l :: ex)).wp fun w g => ∃ d l', w = .d (.int d) ∧ 0 ≤ d ∧ d < most ∧ BagOk l' ∧ g = .fz S :: .lst l' :: ex := by
  obtain ⟨xs, i, c, m, t, rfl, hi⟩ := hb
  obtain ⟨q1, q2, q3, q4⟩ := h2
  refine of_wc ?_
  rw [q_run (as := [.c 1, .d (.int most)]) h1 (by unfold argsOf; rw [q3]; simp [q1, noB, W.isB, selW]), q4]
  unfold startR
  rw [q2]
  show wc (fin (exs (run tab n) b_draw ⟨.fz S :: .lst [.lst (xs.map D.int), .int i, .int c, .int m, .int t] :: ex, [.w (.c 1), .w (.d (.int most)), .no, .no, .no, .no]⟩)) (k := ⟨_⟩)
  unfold b_draw
  walk_at "pp"
  all_goals refine hold_i ?_
  all_goals exact ⟨_, _, rfl, Int.emod_nonneg _ (by omega), Int.emod_lt_of_pos _ (by omega), ⟨xs, _, _, _, _, rfl, by omega⟩, rfl⟩
def b_any (d : Nat) : Sxs := (.cons (.ret (.sub (.v 1) (.call d 0 (.cons (.v 0) (.cons (.bi .len (.cons (.v 1) .nil)) .nil)) .nil))) .nil)
def IsAny (d : Nat) (fd : Fn) : Prop := fd.np = 2 ∧ fd.nm.length = 2 ∧ fd.pats[0]? = some ⟨2, [], [.p 0, .p 1]⟩ ∧ fd.body = b_any d
def b_same : Sxs := (.cons (.ret (.cmp .eq (.bi .repr (.cons (.v 0) .nil)) (.bi .repr (.cons (.v 1) .nil)))) .nil)
def IsSame (fd : Fn) : Prop := fd.np = 2 ∧ fd.nm.length = 2 ∧ fd.pats[0]? = some ⟨2, [], [.p 0, .p 1]⟩ ∧ fd.body = b_same
def IsBag (fd : Fn) : Prop := fd.np = 1 ∧ fd.nm.length = 3 ∧ fd.pats[0]? = some ⟨1, [], [.p 0]⟩ ∧ fd.body = b_bag
theorem cut_map {α β : Type} (f : α → β) (l : List α) (lo hi : Option Int) : cutD (l.map f) lo hi = (cutD l lo hi).map f := by
  unfold cutD
  rw [List.length_map, ← List.map_drop, ← List.map_take]
theorem any_wp {tab : List Fn} {n f d : Nat} {fd fa : Fn} (h1 : tab[d]? = some fd) (h2 : IsDraw fd) (h3 : tab[f]? = some fa) (h4 : IsAny d fa) {S b l : List D} {ex : List Cl} (hb : BagOk b) (hm : 1 ≤ l.length) (hm2 : l.length < 1073741824) :
    (run tab (n + 2) f 0 [.c 1, .d (.lst l)] [] (.fz S :: .lst b :: ex)).wp fun w g => ∃ x b', x ∈ l ∧ w = .d x ∧ BagOk b' ∧ g = .fz S :: .lst b' :: ex := by
  obtain ⟨q1, q2, q3, q4⟩ := h4
  refine of_wc ?_
  rw [q_run (as := [.c 1, .d (.lst l)]) h3 (by unfold argsOf; rw [q3]; simp [q1, noB, W.isB, selW]), q4]
  unfold startR
  rw [q2]
  show wc (fin (exs (run tab (n + 1)) (b_any d) ⟨.fz S :: .lst b :: ex, [.w (.c 1), .w (.d (.lst l))]⟩)) (k := ⟨_⟩)
  unfold b_any
  walk_at "pp"
  refine wq_cb (draw_wp h1 h2 hb (most := (l.length : Nat)) (by omega) (by omega)) ?_
  rintro w g ⟨i, b', rfl, h5, h6, hb', rfl⟩
  walk_at "pc"
  obtain ⟨x, hx, e⟩ := s_lmem h5 h6
  rw [e]
  walk_at "pc"
  refine hold_i ?_
  exact ⟨_, b', hx, rfl, hb', rfl⟩
theorem anyT_wp {tab : List Fn} {n f d : Nat} {fd fa : Fn} (h1 : tab[d]? = some fd) (h2 : IsDraw fd) (h3 : tab[f]? = some fa) (h4 : IsAny d fa) {S b l : List D} {ex : List Cl} (hb : BagOk b) (hm : 1 ≤ l.length) (hm2 : l.length < 1073741824) :
    (run tab (n + 2) f 0 [.c 1, .d (.tup l)] [] (.fz S :: .lst b :: ex)).wp fun w g => ∃ x b', x ∈ l ∧ w = .d x ∧ BagOk b' ∧ g = .fz S :: .lst b' :: ex := by
  obtain ⟨q1, q2, q3, q4⟩ := h4
  refine of_wc ?_
  rw [q_run (as := [.c 1, .d (.tup l)]) h3 (by unfold argsOf; rw [q3]; simp [q1, noB, W.isB, selW]), q4]
  unfold startR
  rw [q2]
  show wc (fin (exs (run tab (n + 1)) (b_any d) ⟨.fz S :: .lst b :: ex, [.w (.c 1), .w (.d (.tup l))]⟩)) (k := ⟨_⟩)
  unfold b_any
  walk_at "pp"
  refine wq_cb (draw_wp h1 h2 hb (most := (l.length : Nat)) (by omega) (by omega)) ?_
  rintro w g ⟨i, b', rfl, h5, h6, hb', rfl⟩
  walk_at "pc"
  obtain ⟨x, hx, e⟩ := s_tmem h5 h6
  rw [e]
  walk_at "pc"
  refine hold_i ?_
  exact ⟨_, b', hx, rfl, hb', rfl⟩
theorem anyS_wp {tab : List Fn} {n f d : Nat} {fd fa : Fn} (h1 : tab[d]? = some fd) (h2 : IsDraw fd) (h3 : tab[f]? = some fa) (h4 : IsAny d fa) {S b : List D} {ex : List Cl} {z : Str} (hb : BagOk b) (hm : 1 ≤ z.length) (hm2 : z.length < 1000) :
    (run tab (n + 2) f 0 [.c 1, .d (.str z)] [] (.fz S :: .lst b :: ex)).wp fun w g => ∃ c b', c ∈ z.cps.toList ∧ w = .d (.str ⟨#[c]⟩) ∧ BagOk b' ∧ g = .fz S :: .lst b' :: ex := by
  obtain ⟨q1, q2, q3, q4⟩ := h4
  refine of_wc ?_
  rw [q_run (as := [.c 1, .d (.str z)]) h3 (by unfold argsOf; rw [q3]; simp [q1, noB, W.isB, selW]), q4]
  unfold startR
  rw [q2]
  show wc (fin (exs (run tab (n + 1)) (b_any d) ⟨.fz S :: .lst b :: ex, [.w (.c 1), .w (.d (.str z))]⟩)) (k := ⟨_⟩)
  unfold b_any
  walk_at "pp"
  refine wq_cb (draw_wp h1 h2 hb (most := (z.length : Nat)) (by omega) (by omega)) ?_
  rintro w g ⟨i, b', rfl, h5, h6, hb', rfl⟩
  walk_at "pc"
  obtain ⟨c, hc, e⟩ := s_sget (z := z) (by omega) h5 h6
  rw [e]
  walk_at "pc"
  refine hold_i ?_
  exact ⟨_, b', hc, rfl, hb', rfl⟩
theorem bag_wp {tab : List Fn} {n f : Nat} {fd : Fn} (h1 : tab[f]? = some fd) (h2 : IsBag fd) {ns : List Int} :
    (run tab (n + 1) f 0 [.c 0] [] [.fz (ns.map D.int)]).wp fun w g => w = .c 1 ∧ ∃ b, BagOk b ∧ g = [.fz (ns.map D.int), .lst b] := by
  obtain ⟨q1, q2, q3, q4⟩ := h2
  refine of_wc ?_
  rw [q_run (as := [.c 0]) h1 (by unfold argsOf; rw [q3]; simp [q1, noB, W.isB, selW]), q4]
  unfold startR
  rw [q2]
  show wc (fin (exs (run tab n) b_bag ⟨[.fz (ns.map D.int)], [.w (.c 0), .no, .no]⟩)) (k := ⟨_⟩)
  unfold b_bag
  walk_at "pc"
  refine wq_mono (for_inv (fun l s => (∃ xs : List Int, l = xs.map D.int) ∧ ∃ m v, s = ⟨[.fz (ns.map D.int)], [.w (.c 0), .w (.d (.int m)), v]⟩) ⟨⟨_, cut_map _ _ _ _⟩, _, _, rfl⟩ ?_) ?_
  · rintro x r s ⟨⟨xs, e⟩, m, v, rfl⟩
    cases xs with
    | nil => cases e
    | cons y xs =>
      cases e
      refine of_wq ?_
      walk_at "pc"
      refine hold_i ?_
      exact ⟨.inl rfl, ⟨xs, rfl⟩, _, _, rfl⟩
  · rintro c s ⟨rfl, _, m, v, rfl⟩
    walk_at "pp"
    refine hold_i ?_
    exact ⟨rfl, _, ⟨_, _, _, _, _, by rw [cut_map], by omega⟩, rfl⟩

theorem hex_le (c w : Nat) (h : c < 256) : (Nat.toDigits 16 c).length ≤ 2 := by
  have : ∀ c < 256, (Nat.toDigits 16 c).length ≤ 2 := by decide +kernel
  exact this c h
open PySem.Builtin.Str in
theorem reprChar_le (q c : Nat) (h : c < 256) : (reprChar q c).length ≤ 4 := by
  have hh := hex_le c 2 h
  unfold reprChar
  repeat' split
  all_goals simp
  all_goals omega
def asc (z : Str) : Bool := z.cps.toList.all fun c => decide (c < 256)
theorem foldl_len {f : Nat → List Nat} : ∀ (l : List Nat) (n : Nat), (∀ c ∈ l, (f c).length ≤ 4) → l.foldl (fun n c => n + (f c).length) n ≤ n + 4 * l.length
  | [], n, _ => by simp
  | c :: l, n, h => by
    have h1 := h c (List.mem_cons_self ..)
    have h2 := foldl_len l (n + (f c).length) fun d hd => h d (List.mem_cons_of_mem _ hd)
    rw [List.foldl_cons, List.length_cons]
    omega
theorem reprText_le {z : Str} (h : asc z = true) : (PySem.reprText z).length ≤ 2 + 4 * z.length := by
  rw [← PySem.reprLen_eq, ← Array.foldl_toList]
  refine Nat.le_trans (foldl_len z.cps.toList 2 fun c hc => reprChar_le _ _ ?_) ?_
  · exact of_decide_eq_true (List.all_eq_true.mp h c hc)
  · rw [Array.length_toList]
    exact Nat.le_refl _
theorem listText_le : ∀ ts : List Str, (PySem.listText ts).length ≤ 2 + piled ts
  | [] => by decide
  | t :: r => by
    have h := textFrom_length_pos r 1 (("[" : Str) ++ (if (0 : Nat) > 0 then ", " else "" : String) ++ t) (Nat.succ_pos 0)
    have e : ((("[" : Str) ++ (if (0 : Nat) > 0 then ", " else "" : String) ++ t)).length = 1 + t.length := by
      rw [strLen_append, strLen_append]; rfl
    have e2 : (PySem.listText (t :: r)).length = (textFrom 1 (("[" : Str) ++ (if (0 : Nat) > 0 then ", " else "" : String) ++ t) r).length + 1 := by
      show (textFrom 1 (("[" : Str) ++ (if (0 : Nat) > 0 then ", " else "" : String) ++ t) r ++ ("]" : Str)).length = _
      rw [strLen_append]; rfl
    rw [e2, h, e, piled_cons]
    omega
theorem tupleText_le (ts : List Str) : (tupleText ts).length ≤ 3 + piled ts := by
  unfold tupleText
  rw [strLen_append, strLen_append]
  have h1 : (("(" : Str)).length = 1 := by decide
  have h2 : (((if (ts.length == 1) = true then ",)" else ")" : String) : Str)).length ≤ 2 := by split <;> decide
  have h3 : (Str.join ", " ts).length ≤ piled ts := by
    cases ts with
    | nil => decide
    | cons t r =>
      have := join_length_add (t :: r) (by simp)
      omega
  omega
mutual
/-- how long the text of data may be -/
def D.sz : D → Nat
  | .non => 4
  | .bl _ => 5
  | .int _ => 1921
  | .str z => 2 + 4 * z.length
  | .tup l => 3 + D.szs l
  | .lst l => 2 + D.szs l
  | .obj _ _ _ => 0
def D.szs : List D → Nat
  | [] => 0
  | x :: l => D.sz x + 2 + D.szs l
end
mutual
/-- data whose text is told -/
def D.sh : D → Bool
  | .non => true
  | .bl _ => true
  | .int i => iok i
  | .str z => asc z
  | .tup l => D.shs l
  | .lst l => D.shs l
  | .obj _ _ _ => false
def D.shs : List D → Bool
  | [] => true
  | x :: l => D.sh x && D.shs l
end
mutual
def D.dp : D → Nat
  | .tup l => D.dps l + 1
  | .lst l => D.dps l + 1
  | _ => 0
def D.dps : List D → Nat
  | [] => 0
  | x :: l => max (D.dp x) (D.dps l)
end
mutual
def D.pd : D → PyData
  | .non => .none
  | .bl b => .bool b
  | .int i => .int i
  | .str s => .str s
  | .tup l => .tuple (D.pds l)
  | .lst l => .list (D.pds l)
  | .obj _ _ _ => .none
def D.pds : List D → List PyData
  | [] => []
  | x :: l => D.pd x :: D.pds l
end
mutual
theorem py_pd : ∀ {d : D}, d.sh = true → d.py = some d.pd
  | .non, _ => rfl
  | .bl _, _ => rfl
  | .int _, _ => rfl
  | .str _, _ => rfl
  | .tup l, h => by
    rw [D.py, pys_pd (l := l) (by rw [D.sh] at h; exact h), D.pd]; rfl
  | .lst l, h => by
    rw [D.py, pys_pd (l := l) (by rw [D.sh] at h; exact h), D.pd]; rfl
  | .obj _ _ _, h => by rw [D.sh] at h; cases h
theorem pys_pd : ∀ {l : List D}, D.shs l = true → D.pys l = some (D.pds l)
  | [], _ => rfl
  | x :: l, h => by
    rw [D.shs, Bool.and_eq_true] at h
    rw [D.pys, py_pd h.1, pys_pd h.2, D.pds]
end
mutual
theorem pd_shown : ∀ {d : D}, d.sh = true → d.pd.showable = true ∧ d.pd.shown.length ≤ d.sz
  | .non, _ => ⟨rfl, by rw [D.sz]; decide⟩
  | .bl b, _ => ⟨rfl, by rw [D.sz]; cases b <;> decide⟩
  | .int i, h => by
    rw [D.sh] at h
    refine ⟨h, ?_⟩
    rw [D.sz]
    exact PyProof.Rows.int_text_len_1921 (of_decide_eq_true (show decide _ = true from h))
  | .str z, h => by
    rw [D.sh] at h
    refine ⟨rfl, ?_⟩
    rw [D.sz]
    exact reprText_le h
  | .tup l, h => by
    rw [D.sh] at h
    obtain ⟨h1, h2⟩ := pds_shown h
    refine ⟨by rw [D.pd, PyData.showable]; exact h1, ?_⟩
    rw [D.sz, D.pd, PyData.shown]
    refine Nat.le_trans (tupleText_le _) ?_
    omega
  | .lst l, h => by
    rw [D.sh] at h
    obtain ⟨h1, h2⟩ := pds_shown h
    refine ⟨by rw [D.pd, PyData.showable]; exact h1, ?_⟩
    rw [D.sz, D.pd, PyData.shown]
    refine Nat.le_trans (listText_le _) ?_
    omega
  | .obj _ _ _, h => by rw [D.sh] at h; cases h
theorem pds_shown : ∀ {l : List D}, D.shs l = true → PyData.showableAll (D.pds l) = true ∧ piled (PyData.shownAll (D.pds l)) ≤ D.szs l
  | [], _ => ⟨rfl, Nat.le_refl _⟩
  | x :: l, h => by
    rw [D.shs, Bool.and_eq_true] at h
    obtain ⟨a1, a2⟩ := pd_shown h.1
    obtain ⟨b1, b2⟩ := pds_shown h.2
    refine ⟨by rw [D.pds, PyData.showableAll, a1, b1]; rfl, ?_⟩
    rw [D.pds, PyData.shownAll, piled_cons, D.szs]
    omega
end
mutual
theorem pd_depth : ∀ (d : D), d.pd.depth ≤ d.dp
  | .non => Nat.le_refl _
  | .bl _ => Nat.le_refl _
  | .int _ => Nat.le_refl _
  | .str _ => Nat.le_refl _
  | .tup l => by rw [D.pd, PyData.depth, D.dp]; exact Nat.succ_le_succ (pds_depth l)
  | .lst l => by rw [D.pd, PyData.depth, D.dp]; exact Nat.succ_le_succ (pds_depth l)
  | .obj _ _ _ => Nat.zero_le _
theorem pds_depth : ∀ (l : List D), PyData.depthAll (D.pds l) ≤ D.dps l
  | [] => Nat.le_refl _
  | x :: l => by
    rw [D.pds, PyData.depthAll, D.dps]
    have := pd_depth x
    have := pds_depth l
    omega
end
theorem b_repr {d : D} (h : d.sh = true) (h2 : d.sz ≤ 16777216) (h3 : d.dp ≤ 64) : biD .repr [d] = some (.str d.pd.shown) := by
  obtain ⟨h4, h5⟩ := pd_shown h
  have h6 := pd_depth d
  show d.py.bind _ = _
  rw [py_pd h]
  show optB (_ && _ && _) _ = _
  rw [h4, decide_eq_true (show d.pd.shown.length ≤ sizeLine by rw [szl]; omega), decide_eq_true (show d.pd.depth ≤ 64 by omega)]
  rfl
theorem same_eq {tab : List Fn} {n f : Nat} {fd : Fn} (h1 : tab[f]? = some fd) (h2 : IsSame fd) {d : D} {g : List Cl} (h : d.sh = true) (h3 : d.sz ≤ 16777216) (h4 : d.dp ≤ 64) :
    run tab (n + 1) f 0 [.d d, .d d] [] g = .ok (.d (.bl true)) g := by
  obtain ⟨q1, q2, q3, q4⟩ := h2
  refine wc_eq ?_
  rw [q_run (as := [.d d, .d d]) h1 (by unfold argsOf; rw [q3]; simp [q1, noB, W.isB, selW]), q4]
  unfold startR
  rw [q2]
  show wc (fin (exs (run tab n) b_same ⟨g, [.w (.d d), .w (.d d)]⟩)) (k := ⟨_⟩)
  unfold b_same
  walk_at "pc"
  rw [b_repr h h3 h4]
  walk_at "pc"
  rw [b_repr h h3 h4]
  walk_at "pc"
@[simp] theorem asc_app {a b : Str} : asc (a ++ b) = (asc a && asc b) := by
  unfold asc
  show ((a.cps ++ b.cps).toList.all _) = _
  rw [Array.toList_append, List.all_append]
@[simp] theorem so_asc (s : String) : asc (Str.ofString s) = s.toList.all fun c => decide (c.toNat < 256) := by
  rw [Str.ofString_eq_toList]
  simp [asc]
  rfl
end Pc

set_option Elab.async false
set_option linter.all false
set_option maxRecDepth 100000
set_option maxHeartbeats 4000000
namespace Pc
open PySem
open L2 (cutS)
/-- data without objects, of little length -/
inductive Tm : D → Prop where
  | non : Tm .non
  | bl (b : Bool) : Tm (.bl b)
  | int (i : Int) : Tm (.int i)
  | str (z : Str) (h : z.length ≤ 1000) : Tm (.str z)
  | tup (l : List D) (h : l.length ≤ 1000) (hl : ∀ x ∈ l, Tm x) : Tm (.tup l)
  | lst (l : List D) (h : l.length ≤ 1000) (hl : ∀ x ∈ l, Tm x) : Tm (.lst l)
theorem inS_one (b : Str) (c : Nat) : inS ⟨#[c]⟩ b = decide (c ∈ b.cps.toList) := PySem.StrLaws.found_one b c
theorem one_of {z : Str} (h : z.length = 1) : ∃ c, z = ⟨#[c]⟩ := by
  obtain ⟨a⟩ := z
  have h' : a.size = 1 := h
  obtain ⟨l⟩ := a
  match l, h' with
  | [c], _ => exact ⟨c, rfl⟩
theorem str_one (a b : Nat) : decide ((⟨#[a]⟩ : Str) = ⟨#[b]⟩) = decide (a = b) := by
  by_cases h : a = b
  · subst h; simp
  · have : (⟨#[a]⟩ : Str) ≠ ⟨#[b]⟩ := fun e => h (by injection e with e; injection e with e; injection e)
    simp [h, this]
theorem cut_le {z : Str} {lo hi : Option Int} {n : Nat} (h : z.length ≤ n) : (cutS z lo hi).length ≤ n := Nat.le_trans (L2.cutS_length z lo hi) h
/-- the letters that may stand there -/
def lets (k : Nat) : Str := cutS (Str.ofString "nabc") none (some ((k : Int) + 1))
def earlyB (k : Nat) : D → Bool
  | .str z => decide (z.length = 1) && inS z (lets k)
  | _ => false
theorem early_eq {k : Nat} (hk : k ≤ 3) {z : Str} (hz : z.length = 1) : (decide (z = Str.ofString "n") || inS z (cutS (Str.ofString "abc") none (some (k : Int)))) = inS z (lets k) := by
  obtain ⟨c, rfl⟩ := one_of hz
  unfold lets
  rw [inS_one, inS_one, show Str.ofString "n" = ⟨#[110]⟩ from rfl, str_one]
  match k, hk with
  | 0, _ =>
    rw [show (cutS (Str.ofString "abc") none (some ((0 : Nat) : Int))).cps.toList = [] from rfl, show (cutS (Str.ofString "nabc") none (some (((0 : Nat) : Int) + 1))).cps.toList = [110] from rfl]
    simp
  | 1, _ =>
    rw [show (cutS (Str.ofString "abc") none (some ((1 : Nat) : Int))).cps.toList = [97] from rfl, show (cutS (Str.ofString "nabc") none (some (((1 : Nat) : Int) + 1))).cps.toList = [110, 97] from rfl]
    simp
  | 2, _ =>
    rw [show (cutS (Str.ofString "abc") none (some ((2 : Nat) : Int))).cps.toList = [97, 98] from rfl, show (cutS (Str.ofString "nabc") none (some (((2 : Nat) : Int) + 1))).cps.toList = [110, 97, 98] from rfl]
    simp
  | 3, _ =>
    rw [show (cutS (Str.ofString "abc") none (some ((3 : Nat) : Int))).cps.toList = [97, 98, 99] from rfl, show (cutS (Str.ofString "nabc") none (some (((3 : Nat) : Int) + 1))).cps.toList = [110, 97, 98, 99] from rfl]
    simp
theorem abc_eq {k : Nat} (hk : k ≤ 3) {z : Str} (hz : z.length = 1) : (inS z (lets k) && !decide (z = Str.ofString "n")) = inS z (cutS (Str.ofString "abc") none (some (k : Int))) := by
  obtain ⟨c, rfl⟩ := one_of hz
  unfold lets
  rw [inS_one, inS_one, show Str.ofString "n" = ⟨#[110]⟩ from rfl, str_one]
  match k, hk with
  | 0, _ =>
    rw [show (cutS (Str.ofString "abc") none (some ((0 : Nat) : Int))).cps.toList = [] from rfl, show (cutS (Str.ofString "nabc") none (some (((0 : Nat) : Int) + 1))).cps.toList = [110] from rfl]
    simp
  | 1, _ =>
    rw [show (cutS (Str.ofString "abc") none (some ((1 : Nat) : Int))).cps.toList = [97] from rfl, show (cutS (Str.ofString "nabc") none (some (((1 : Nat) : Int) + 1))).cps.toList = [110, 97] from rfl]
    rw [Bool.eq_iff_iff]
    simp
    omega
  | 2, _ =>
    rw [show (cutS (Str.ofString "abc") none (some ((2 : Nat) : Int))).cps.toList = [97, 98] from rfl, show (cutS (Str.ofString "nabc") none (some (((2 : Nat) : Int) + 1))).cps.toList = [110, 97, 98] from rfl]
    rw [Bool.eq_iff_iff]
    simp
    omega
  | 3, _ =>
    rw [show (cutS (Str.ofString "abc") none (some ((3 : Nat) : Int))).cps.toList = [97, 98, 99] from rfl, show (cutS (Str.ofString "nabc") none (some (((3 : Nat) : Int) + 1))).cps.toList = [110, 97, 98, 99] from rfl]
    rw [Bool.eq_iff_iff]
    simp
    omega
def letterB (k : Nat) : D → Bool
  | .str z => decide (z.length = 1) && inS z (cutS (Str.ofString "abc") none (some (k : Int)))
  | _ => false
def wordB (l : List D) : D → Bool
  | .str z => l.any fun y => eqF y (.str z)
  | _ => false
theorem cut_sub {α : Type} {l : List α} {lo hi : Option Int} : ∀ x ∈ cutD l lo hi, x ∈ l := fun x hx => List.mem_of_mem_drop (List.mem_of_mem_take hx)
theorem cut_len {α : Type} {l : List α} {lo hi : Option Int} : (cutD l lo hi).length ≤ l.length := by
  unfold cutD
  rw [List.length_take, List.length_drop]
  omega
theorem Tm.cut {l : List D} {lo hi : Option Int} (h : Tm (.tup l)) : Tm (.tup (cutD l lo hi)) := by
  cases h with
  | tup _ h1 h2 => exact .tup _ (Nat.le_trans cut_len h1) fun x hx => h2 x (cut_sub x hx)
theorem Tm.app {l m : List D} (h : Tm (.tup l)) (hn : l.length + m.length ≤ 1000) (hm : ∀ x ∈ m, Tm x) : Tm (.tup (l ++ m)) := by
  cases h with
  | tup _ h1 h2 =>
    refine .tup _ (by rw [List.length_append]; omega) fun x hx => ?_
    rcases List.mem_append.mp hx with h | h
    · exact h2 x h
    · exact hm x h
mutual
/-- decided for written data -/
def tmB : D → Bool
  | .non => true
  | .bl _ => true
  | .int _ => true
  | .str z => decide (z.length ≤ 1000)
  | .tup l => decide (l.length ≤ 1000) && tmBs l
  | .lst l => decide (l.length ≤ 1000) && tmBs l
  | .obj _ _ _ => false
def tmBs : List D → Bool
  | [] => true
  | x :: l => tmB x && tmBs l
end
mutual
theorem tmB_ok : ∀ {d : D}, tmB d = true → Tm d
  | .non, _ => .non
  | .bl _, _ => .bl _
  | .int _, _ => .int _
  | .str z, h => .str z (by rw [tmB] at h; exact of_decide_eq_true h)
  | .tup l, h => by
    rw [tmB, Bool.and_eq_true] at h
    exact .tup l (of_decide_eq_true h.1) (tmBs_ok h.2)
  | .lst l, h => by
    rw [tmB, Bool.and_eq_true] at h
    exact .lst l (of_decide_eq_true h.1) (tmBs_ok h.2)
  | .obj _ _ _, h => by rw [tmB] at h; cases h
theorem tmBs_ok : ∀ {l : List D}, tmBs l = true → ∀ x ∈ l, Tm x
  | [], _, x, hx => by cases hx
  | y :: l, h, x, hx => by
    rw [tmBs, Bool.and_eq_true] at h
    have h1 := tmB_ok h.1
    have h2 := tmBs_ok h.2
    rcases List.mem_cons.mp hx with e | hx
    · rw [e]; exact h1
    · exact h2 x hx
end
theorem wc_run {tab : List Fn} {n f p : Nat} {ws zs as : List W} {g : List Cl} {fd : Fn} {q : KR} (h1 : tab[f]? = some fd) (h2 : argsOf fd p ws zs = some as) (h : wc (fin (exs (run tab n) fd.body ⟨g, startR fd as⟩)) (k := q)) : wc (run tab (n + 1) f p ws zs g) (k := q) := by
  rw [q_run h1 h2]
  exact h
theorem comp_map {α : Type} {f : D → List D → Ss → Res (List D)} (I : Ss → Prop) (e : α → D) (h : α → D) {l : List α} {acc : List D} {s : Ss} (hl : acc.length + l.length ≤ 16777216) (hi : I s)
    (H : ∀ x ∈ l, ∀ (acc : List D) (s : Ss), I s → acc.length < 16777216 → (f (e x) acc s).wp fun acc' s' => acc' = acc ++ [h x] ∧ I s') : (comp f (l.map e) acc s).wp fun acc' s' => acc' = acc ++ l.map h ∧ I s' := by
  induction l generalizing acc s with
  | nil => exact ⟨by simp, hi⟩
  | cons x l ih =>
    have h1 := H x (List.mem_cons_self ..) acc s hi (by simp at hl; omega)
    show Res.wp (match f (e x) acc s with | .ok acc' s' => comp f (l.map e) acc' s' | _ => .stuck) _
    cases e1 : f (e x) acc s with
    | ok acc' s' =>
      rw [e1] at h1
      obtain ⟨rfl, hi'⟩ := h1
      have h2 := ih (acc := acc ++ [h x]) (s := s') (by simp at hl ⊢; omega) hi' fun y hy => H y (List.mem_cons_of_mem _ hy)
      rw [List.append_assoc] at h2
      exact h2
    | exc _ _ => rw [e1] at h1; exact h1.elim
    | stuck => rw [e1] at h1; exact h1.elim
@[simp] theorem blsOf_mapf {α : Type} {b : α → Bool} : ∀ l : List α, blsOf (l.map fun x => D.bl (b x)) = some (l.map b)
  | [] => rfl
  | a :: l => by
    show (blsOf _).map _ = _
    rw [blsOf_mapf l]; rfl
theorem runB_fin {o : Or} {fd : Fn} {ws : List W} {g : List Cl} : runB o fd ws g = fin (exs o fd.body ⟨g, startR fd ws⟩) := by
  unfold runB
  cases exs o fd.body ⟨g, startR fd ws⟩ with
  | ok c s => cases c <;> rfl
  | exc _ _ => rfl
  | stuck => rfl
theorem intsOf_mapf {α : Type} {b : α → Int} : ∀ l : List α, intsOf (l.map fun x => D.int (b x)) = some (l.map b)
  | [] => rfl
  | a :: l => by
    show (intsOf _).map _ = _
    rw [intsOf_mapf l]; rfl
@[simp] theorem b_summ {α : Type} {b : α → Int} {l : List α} : biD .sum [.lst (l.map fun x => D.int (b x))] = some (.int (l.map b).sum) := by
  show (intsOf _).map _ = _
  rw [intsOf_mapf]; rfl
theorem istr_asc (i : Int) : asc (istr i) = true := by
  unfold istr
  rw [so_asc, List.all_eq_true]
  intro c hc
  refine decide_eq_true ?_
  rcases PyProof.Rows.int_sign i c hc with h | h
  · have h1 : c.val ≤ 57 := by
      simp only [Char.isDigit, Bool.and_eq_true, decide_eq_true_eq] at h
      exact h.2
    have h2 : c.toNat ≤ 57 := by
      have := UInt32.le_iff_toNat_le.mp h1
      exact this
    omega
  · subst h; decide
theorem iok_small {i : Int} (h : i.natAbs < 2 ^ 200) : iok i = true := by
  refine decide_eq_true ?_
  by_cases h0 : i.natAbs = 0
  · rw [h0]; decide
  · exact Nat.lt_trans ((Nat.log2_lt h0).mpr h) (by decide)
theorem iok_lit {i : Int} (h1 : -1000000000000 ≤ i) (h2 : i ≤ 1000000000000) : iok i = true := iok_small (Nat.lt_of_le_of_lt (show i.natAbs ≤ 1000000000000 by omega) (by decide))
theorem istr_len {i : Int} (h : iok i = true) : (istr i).length ≤ 1921 := PyProof.Rows.int_text_len_1921 (of_decide_eq_true h)
/-- a loop that runs through, by the place -/
theorem for_ix {f : D → Ss → Res Fl} (I : Nat → Ss → Prop) {l : List D} {s : Ss} (h0 : I 0 s) (H : ∀ i x s, l[i]? = some x → I i s → (f x s).wp fun c s' => (c = .nx ∨ c = .ct) ∧ I (i + 1) s') :
    (forL f l s).wp fun c s' => c = .nx ∧ I l.length s' := by
  refine wp_mono (for_inv (fun r s => ∃ i, r = l.drop i ∧ i ≤ l.length ∧ I i s) (s := s) ⟨0, by simp, Nat.zero_le _, h0⟩ ?_) ?_
  · rintro x r s ⟨i, hr, hi, h⟩
    have hx : l[i]? = some x := by
      have := congrArg List.head? hr
      rw [List.head?_drop] at this
      exact this.symm
    have hlt : i < l.length := (List.getElem?_eq_some_iff.mp hx).1
    have ht : r = l.drop (i + 1) := by
      have := congrArg List.tail hr
      rw [List.tail_drop] at this
      exact this
    exact wp_mono (H i x s hx h) fun c s' ⟨a, b⟩ => ⟨a, i + 1, ht, hlt, b⟩
  · rintro c s' ⟨hc, i, hr, hi, h⟩
    have : l.length ≤ i := List.drop_eq_nil_iff.mp hr.symm
    have e : i = l.length := by omega
    subst e
    exact ⟨hc, h⟩
end Pc

set_option Elab.async false
set_option linter.all false
set_option maxRecDepth 100000
set_option maxHeartbeats 4000000
namespace Pc
open PySem
open L2 (cutS)
def gl : List D := [.str "gcd", .str "lcm"]
def plainB (k : Nat) : Nat → D → Bool
  | 0, _ => false
  | d + 1, v => match v with
    | .str z => earlyB k (.str z)
    | .tup [h, x, y] => wordB gl h && (plainB k d x && plainB k d y)
    | _ => false
def coB (k : Nat) : D → Bool
  | .tup [h, x] => wordB [.str "co"] h && letterB k x
  | _ => false
def termB (k : Nat) (p : Bool) (v : D) : Bool := plainB k 3 v || (!p && coB k v)
def textS : D → Str
  | .str z => z
  | .tup [.str _, .str z] => ("co " : Str) ++ z
  | .tup [.str h, x, y] => h ++ ("(" : Str) ++ textS x ++ (", " : Str) ++ textS y ++ (")" : Str)
  | _ => Str.empty
def tl : Nat → Nat
  | 0 => 1
  | d + 1 => 2 * tl d + 7
theorem early_len {k : Nat} {z : Str} (h : earlyB k (.str z) = true) : z.length = 1 := by
  simp [earlyB] at h
  exact h.1
theorem early_asc {k : Nat} (hk : k ≤ 3) {z : Str} (h : earlyB k (.str z) = true) : asc z = true := by
  have hl := early_len h
  simp only [earlyB, Bool.and_eq_true] at h
  obtain ⟨c, rfl⟩ := one_of hl
  have h2 := h.2
  rw [inS_one] at h2
  have h3 := of_decide_eq_true h2
  have h4 : c ∈ (Str.ofString "nabc").cps.toList := by
    unfold lets L2.cutS at h3
    exact List.mem_of_mem_drop (List.mem_of_mem_take (by simpa using h3))
  have h5 : ∀ c ∈ (Str.ofString "nabc").cps.toList, c < 256 := by decide
  have := h5 c h4
  simp [asc, this]
theorem word_cases {l : List D} {h : D} (e : wordB l h = true) : ∃ z, h = .str z ∧ .str z ∈ l := by
  cases h with
  | str z =>
    simp only [wordB, List.any_eq_true] at e
    obtain ⟨y, hy, e⟩ := e
    cases y with
    | str w => rw [ef_ss, beq_iff_eq] at e; subst e; exact ⟨_, rfl, hy⟩
    | _ => cases e
  | _ => cases e
theorem plain_ind {k : Nat} {P : Nat → D → Prop} (h1 : ∀ d z, earlyB k (.str z) = true → P (d + 1) (.str z))
    (h2 : ∀ d (h : Str) x y, (h = Str.ofString "gcd" ∨ h = Str.ofString "lcm") → plainB k d x = true → plainB k d y = true → P d x → P d y → P (d + 1) (.tup [.str h, x, y])) : ∀ {d : Nat} {v : D}, plainB k d v = true → P d v
  | 0, v, h => by rw [plainB] at h; cases h
  | d + 1, v, h => by
    cases v with
    | str z => rw [plainB] at h; exact h1 d z h
    | tup l =>
      match l, h with
      | [w, x, y], h =>
        rw [plainB, Bool.and_eq_true, Bool.and_eq_true] at h
        obtain ⟨z, rfl, hz⟩ := word_cases h.1
        refine h2 d z x y ?_ h.2.1 h.2.2 (plain_ind h1 h2 h.2.1) (plain_ind h1 h2 h.2.2)
        simpa [gl] using hz
      | [], h => rw [plainB] at h; cases h; all_goals simp
      | [_], h => rw [plainB] at h; cases h; all_goals simp
      | [_, _], h => rw [plainB] at h; cases h; all_goals simp
      | _ :: _ :: _ :: _ :: _, h => rw [plainB] at h; cases h; all_goals simp
    | _ => rw [plainB] at h; cases h; all_goals simp
structure Pl (k d : Nat) (v : D) : Prop where
  b : plainB k d v = true
  len : (textS v).length ≤ tl d
  as : asc (textS v) = true
  tm : Tm v
theorem plain_pl {k d : Nat} (hk : k ≤ 3) {v : D} (h : plainB k d v = true) : Pl k d v := by
  refine plain_ind (P := fun d v => plainB k d v = true → Pl k d v) ?_ ?_ h h
  · intro d z hz hp
    have := early_len hz
    exact ⟨hp, by simp [textS, this, tl], by simpa [textS] using early_asc hk hz, .str z (by omega)⟩
  · intro d h x y hh hx hy px py hp
    obtain ⟨_, x2, x3, x4⟩ := px hx
    obtain ⟨_, y2, y3, y4⟩ := py hy
    have e : textS (.tup [.str h, x, y]) = h ++ ("(" : Str) ++ textS x ++ (", " : Str) ++ textS y ++ (")" : Str) := by rw [textS]
    have l1 : (Str.ofString "gcd").length = 3 := by decide
    have l2 : (Str.ofString "lcm").length = 3 := by decide
    have l3 : (Str.ofString "(").length = 1 := by decide
    have l4 : (Str.ofString ")").length = 1 := by decide
    have l5 : (Str.ofString ", ").length = 2 := by decide
    have a1 : asc (Str.ofString "gcd") = true := by decide
    have a2 : asc (Str.ofString "lcm") = true := by decide
    have a3 : asc (Str.ofString "(") = true := by decide
    have a4 : asc (Str.ofString ")") = true := by decide
    have a5 : asc (Str.ofString ", ") = true := by decide
    refine ⟨hp, ?_, ?_, .tup _ (by simp) ?_⟩
    · rw [e]
      rcases hh with rfl | rfl <;> simp [tl, l1, l2, l3, l4, l5] <;> omega
    · rw [e]
      rcases hh with rfl | rfl <;> simp [a1, a2, a3, a4, a5, x3, y3]
    · intro w hw
      simp only [List.mem_cons, List.mem_nil_iff, or_false] at hw
      rcases hw with rfl | rfl | rfl
      · refine .str _ ?_
        rcases hh with rfl | rfl
        · rw [l1]; decide
        · rw [l2]; decide
      · exact x4
      · exact y4
theorem tl_le : ∀ {d : Nat}, d ≤ 3 → tl d ≤ 64
  | 0, _ => by decide
  | 1, _ => by decide
  | 2, _ => by decide
  | 3, _ => by decide
theorem co_cases {k : Nat} {v : D} (h : coB k v = true) : ∃ z, v = .tup [.str "co", .str z] ∧ letterB k (.str z) = true := by
  cases v with
  | tup l =>
    match l, h with
    | [w, x], h =>
      rw [coB, Bool.and_eq_true] at h
      obtain ⟨z, rfl, hz⟩ := word_cases h.1
      have hz : z = Str.ofString "co" := by simpa using hz
      subst hz
      cases x with
      | str z => exact ⟨z, rfl, h.2⟩
      | _ => exact absurd h.2 (by simp [letterB])
    | [], h => simp [coB] at h
    | [_], h => simp [coB] at h
    | _ :: _ :: _ :: _, h => simp [coB] at h
  | _ => simp [coB] at h
theorem letter_early {k : Nat} (hk : k ≤ 3) {z : Str} (h : letterB k (.str z) = true) : earlyB k (.str z) = true := by
  simp only [letterB, Bool.and_eq_true, decide_eq_true_eq] at h
  have e := abc_eq hk h.1
  rw [h.2, Bool.and_eq_true] at e
  simp [earlyB, h.1, e.1]
structure Te' (k : Nat) (v : D) : Prop where
  b : plainB k 3 v = true ∨ coB k v = true
  len : (textS v).length ≤ 64
  as : asc (textS v) = true
  tm : Tm v
theorem term_te {k : Nat} (hk : k ≤ 3) {v : D} (h : plainB k 3 v = true ∨ coB k v = true) : Te' k v := by
  rcases id h with h1 | h1
  · obtain ⟨h1, h2, h3, h4⟩ := plain_pl hk h1
    exact ⟨h, Nat.le_trans h2 (by decide), h3, h4⟩
  · obtain ⟨z, rfl, hz⟩ := co_cases h1
    have h1 := letter_early hk hz
    have h2 := early_len h1
    have h3 := early_asc hk h1
    refine ⟨h, ?_, ?_, .tup _ (by simp) ?_⟩
    · rw [textS]
      simp [h2]
    · rw [textS]
      simp [h3]
    · intro w hw
      simp only [List.mem_cons, List.mem_nil_iff, or_false] at hw
      rcases hw with rfl | rfl
      · exact .str _ (by simp)
      · exact .str _ (by omega)
theorem lets_len {k : Nat} (hk : k ≤ 3) : 1 ≤ (lets k).length ∧ (lets k).length < 1000 := by
  match k, hk with
  | 0, _ => decide
  | 1, _ => decide
  | 2, _ => decide
  | 3, _ => decide
theorem lets_early {k c : Nat} (h : c ∈ (lets k).cps.toList) : earlyB k (.str ⟨#[c]⟩) = true := by
  simp only [earlyB, Bool.and_eq_true, decide_eq_true_eq]
  exact ⟨rfl, by rw [inS_one]; exact decide_eq_true h⟩
theorem abc_len {k : Nat} (hk : k ≤ 3) (h0 : 0 < k) : 1 ≤ (cutS (Str.ofString "abc") none (some (k : Int))).length ∧ (cutS (Str.ofString "abc") none (some (k : Int))).length < 1000 := by
  match k, hk, h0 with
  | 1, _, _ => decide
  | 2, _, _ => decide
  | 3, _, _ => decide
def spotN : D → Nat
  | .str z => if z = "n" then 0 else if z = "a" then 1 else if z = "b" then 2 else 3
  | _ => 0
theorem early_cases {k : Nat} (hk : k ≤ 3) {z : Str} (h : earlyB k (.str z) = true) : z = "n" ∨ (z = "a" ∧ 1 ≤ k) ∨ (z = "b" ∧ 2 ≤ k) ∨ (z = "c" ∧ 3 ≤ k) := by
  have hl := early_len h
  simp only [earlyB, Bool.and_eq_true] at h
  obtain ⟨c, rfl⟩ := one_of hl
  have h2 := h.2
  rw [inS_one] at h2
  have h3 := of_decide_eq_true h2
  match k, hk with
  | 0, _ =>
    rw [show (lets 0).cps.toList = [110] from rfl] at h3
    simp at h3
    subst h3
    exact .inl rfl
  | 1, _ =>
    rw [show (lets 1).cps.toList = [110, 97] from rfl] at h3
    simp at h3
    rcases h3 with rfl | rfl
    · exact .inl rfl
    · exact .inr (.inl ⟨rfl, by decide⟩)
  | 2, _ =>
    rw [show (lets 2).cps.toList = [110, 97, 98] from rfl] at h3
    simp at h3
    rcases h3 with rfl | rfl | rfl
    · exact .inl rfl
    · exact .inr (.inl ⟨rfl, by decide⟩)
    · exact .inr (.inr (.inl ⟨rfl, by decide⟩))
  | 3, _ =>
    rw [show (lets 3).cps.toList = [110, 97, 98, 99] from rfl] at h3
    simp at h3
    rcases h3 with rfl | rfl | rfl | rfl
    · exact .inl rfl
    · exact .inr (.inl ⟨rfl, by decide⟩)
    · exact .inr (.inr (.inl ⟨rfl, by decide⟩))
    · exact .inr (.inr (.inr ⟨rfl, by decide⟩))
theorem ix_a : smD .index (Str.ofString "abc") (.str "a") = some (.int 0) := by kernel_rfl
theorem ix_b : smD .index (Str.ofString "abc") (.str "b") = some (.int 1) := by kernel_rfl
theorem ix_c : smD .index (Str.ofString "abc") (.str "c") = some (.int 2) := by kernel_rfl
theorem jx_n : smD .index (Str.ofString "nabc") (.str "n") = some (.int 0) := by kernel_rfl
theorem jx_a : smD .index (Str.ofString "nabc") (.str "a") = some (.int 1) := by kernel_rfl
theorem jx_b : smD .index (Str.ofString "nabc") (.str "b") = some (.int 2) := by kernel_rfl
theorem jx_c : smD .index (Str.ofString "nabc") (.str "c") = some (.int 3) := by kernel_rfl
theorem abs_nat (a : Nat) : (if (a : Int) < 0 then -(a : Int) else a) = a := by
  rw [if_neg (by omega)]
def mS (i : Nat) (s : Ss) : Nat := match s.r[i]? with
  | some (.w (.d (.int y))) => y.toNat
  | _ => 0
theorem s_tgetN {l : List Nat} {i : Int} (h0 : 0 ≤ i) (h1 : i < (l.length : Int)) : subD (.tup (l.map fun x : Nat => D.int x)) (.int i) = some (.int (l.getD i.toNat 0 : Nat)) := by
  rw [s_tget h0 (by rw [List.length_map]; exact h1)]
  have h2 : i.toNat < l.length := by omega
  rw [List.getD_eq_getElem?_getD, List.getD_eq_getElem?_getD, List.getElem?_map, List.getElem?_eq_getElem h2]
  rfl
def termV (nums : List Nat) : D → Nat
  | .str z => nums.getD (spotN (.str z)) 0
  | .tup [.str h, x, y] => if h = "gcd" then Nat.gcd (termV nums x) (termV nums y) else Nat.lcm (termV nums x) (termV nums y)
  | _ => 0
abbrev nD (nums : List Nat) : List D := nums.map fun x : Nat => D.int x
structure NOk (m k : Nat) (nums : List Nat) : Prop where
  m1 : 1 ≤ m
  m2 : m ≤ 72
  len : nums.length = k + 1
  dv : ∀ x ∈ nums, 1 ≤ x ∧ x ∣ m
theorem spot_lt {k : Nat} (hk : k ≤ 3) {z : Str} (h : earlyB k (.str z) = true) : spotN (.str z) ≤ k := by
  rcases early_cases hk h with rfl | ⟨rfl, _⟩ | ⟨rfl, _⟩ | ⟨rfl, _⟩ <;> simp [spotN] <;> omega
theorem nget {m k : Nat} {nums : List Nat} (N : NOk m k nums) {i : Nat} (h : i ≤ k) : 1 ≤ nums.getD i 0 ∧ nums.getD i 0 ∣ m := by
  have h2 : i < nums.length := by rw [N.len]; omega
  refine N.dv _ ?_
  rw [List.getD_eq_getElem?_getD, List.getElem?_eq_getElem h2]
  exact List.getElem_mem h2
theorem termV_ok {m k d : Nat} (hk : k ≤ 3) {nums : List Nat} (N : NOk m k nums) {v : D} (h : plainB k d v = true) : 1 ≤ termV nums v ∧ termV nums v ∣ m := by
  refine plain_ind (P := fun _ v => 1 ≤ termV nums v ∧ termV nums v ∣ m) ?_ ?_ h
  · intro d z hz
    exact nget N (spot_lt hk hz)
  · intro d h x y hh _ _ hx hy
    rw [termV]
    split
    · exact ⟨Nat.gcd_pos_of_pos_left _ hx.1, Nat.dvd_trans (Nat.gcd_dvd_left _ _) hx.2⟩
    · exact ⟨Nat.lcm_pos hx.1 hy.1, Nat.lcm_dvd hx.2 hy.2⟩
theorem le72 {m x : Nat} (h1 : 1 ≤ m) (h2 : m ≤ 72) (h : x ∣ m) : x ≤ 72 := Nat.le_trans (Nat.le_of_dvd h1 h) h2
theorem lcm1 (a b : Nat) : a / Nat.gcd a b * b = Nat.lcm a b := by
  unfold Nat.lcm
  obtain ⟨c, hc⟩ := Nat.gcd_dvd_left a b
  by_cases hg : Nat.gcd a b = 0
  · rw [hg]; simp
  · generalize Nat.gcd a b = g at hc hg
    subst hc
    rw [Nat.mul_div_cancel_left c (by omega), Nat.mul_assoc, Nat.mul_div_cancel_left _ (by omega)]
structure HOk (k : Nat) (hs : List D) (nums : List Nat) : Prop where
  len : hs.length = k
  src : ∀ i, i < k → ∃ z, hs[i]? = some (.str z) ∧ earlyB i (.str z) = true ∧ nums.getD (i + 1) 0 ∣ nums.getD (spotN (.str z)) 0
def coV (hs : List D) (nums : List Nat) (z : D) : Nat := nums.getD (spotN (hs.getD (spotN z - 1) .non)) 0 / nums.getD (spotN z) 0
theorem letter_pos {k : Nat} (hk : k ≤ 3) {z : Str} (h : letterB k (.str z) = true) : 1 ≤ spotN (.str z) ∧ spotN (.str z) ≤ k := by
  have he := letter_early hk h
  refine ⟨?_, spot_lt hk he⟩
  rcases early_cases hk he with rfl | ⟨rfl, _⟩ | ⟨rfl, _⟩ | ⟨rfl, _⟩
  · have : letterB k (.str "n") = false := by match k, hk with | 0, _ => kernel_rfl | 1, _ => kernel_rfl | 2, _ => kernel_rfl | 3, _ => kernel_rfl
    rw [this] at h
    cases h
  all_goals simp [spotN]
def dvs (x : Nat) : List Nat := ((List.range x).map (· + 1)).filter fun d => x % d == 0
theorem dvs_mem {x d : Nat} (h : d ∈ dvs x) : 1 ≤ d ∧ d ∣ x := by
  obtain ⟨h1, h2⟩ := List.mem_filter.mp h
  obtain ⟨i, _, rfl⟩ := List.mem_map.mp h1
  exact ⟨by omega, Nat.dvd_of_mod_eq_zero (by simpa using h2)⟩
theorem dvs_ne {x : Nat} (h : 1 ≤ x) : 1 ≤ (dvs x).length := by
  have : 1 ∈ dvs x := List.mem_filter.mpr ⟨List.mem_map.mpr ⟨0, List.mem_range.mpr h, rfl⟩, by simp [Nat.mod_one]⟩
  exact List.length_pos_of_mem this
theorem dvs_len {x : Nat} : (dvs x).length ≤ x := by
  have := List.length_filter_le (fun d => x % d == 0) ((List.range x).map (· + 1))
  simpa [dvs] using this
end Pc

set_option Elab.async false
set_option linter.all false
set_option maxRecDepth 100000
set_option maxHeartbeats 4000000
namespace Gk14
open PySem L2 Pc
local macro_rules | `(tactic| walk_at "pc") => `(tactic| simp -implicitDefEqProofs (disch := first | omega | decide))
local macro_rules | `(tactic| walk_at "ps") => `(tactic| first
  | with_reducible refine wq_dt (by omega) ?_ | with_reducible refine wq_df (by omega) ?_ | with_reducible refine wq_d (fun h => ?_) (fun h => ?_)
  | with_reducible refine wq_nt (by omega) ?_ | with_reducible refine wq_nf (by omega) ?_ | with_reducible refine wq_n (fun h => ?_) (fun h => ?_)
  | with_reducible refine wq_cndT (by simp only [Bool.and_eq_true, Bool.or_eq_true, decide_eq_true_eq, Bool.not_eq_true', decide_eq_false_iff_not]; omega) ?_
  | with_reducible refine wq_cndF (by simp only [Bool.and_eq_false_iff, Bool.or_eq_false_iff, decide_eq_true_eq, Bool.not_eq_false', decide_eq_false_iff_not]; omega) ?_
  | (with_reducible refine wq_cnd ?_ ?_ <;> (intro h; try simp only [h])))
local macro_rules | `(tactic| walk_at "pp") => `(tactic| (repeat' (first | walk_at "pc" | walk_at "ps")))
local macro_rules | `(tactic| walk_at "pa") => `(tactic| (repeat' (first | simp -implicitDefEqProofs (disch := first | omega | decide) [*] | walk_at "ps")))

theorem spot_ok {n k : Nat} (hk : k ≤ 3) {z : Str} {g : List Cl} (h : earlyB k (.str z) = true) : Pc.run tab (n + 1) 2 0 [.d (.str z)] [] g = .ok (.d (.int (spotN (.str z)))) g := by
  refine wc_eq ?_
  refine wc_run (as := [.d (.str z)]) t_spot (by rfl) ?_
  show wc (fin (exs (Pc.run tab _) f_spot.body ⟨_, [.w (.d (.str z))]⟩)) (k := ⟨_⟩)
  unfold f_spot
  walk_at "pc"
  rcases early_cases hk h with rfl | ⟨rfl, _⟩ | ⟨rfl, _⟩ | ⟨rfl, _⟩
  all_goals simp [spotN, ix_a, ix_b, ix_c]
theorem spot_ok' {n k : Nat} (hk : k ≤ 3) {z : Str} {g : List Cl} (h : earlyB k (.str z) = true) : Pc.run tab (n + 1) 17 0 [.d (.str z)] [] g = .ok (.d (.int (spotN (.str z)))) g := by
  refine wc_eq ?_
  refine wc_run (as := [.d (.str z)]) t__law_spot (by rfl) ?_
  show wc (fin (exs (Pc.run tab _) f__law_spot.body ⟨_, [.w (.d (.str z))]⟩)) (k := ⟨_⟩)
  unfold f__law_spot
  walk_at "pc"
  rcases early_cases hk h with rfl | ⟨rfl, _⟩ | ⟨rfl, _⟩ | ⟨rfl, _⟩
  all_goals simp [spotN, jx_n, jx_a, jx_b, jx_c]
theorem gcd_ok {n : Nat} {a b : Nat} (hb : b < 100000) {g : List Cl} : Pc.run tab (n + 1) 1 0 [.d (.int a), .d (.int b)] [] g = .ok (.d (.int (Nat.gcd a b))) g := by
  refine wc_eq ?_
  refine wc_run (as := [.d (.int a), .d (.int b)]) t_greatest_common (by rfl) ?_
  show wc (fin (exs (Pc.run tab _) f_greatest_common.body ⟨_, [.w (.d (.int a)), .w (.d (.int b))]⟩)) (k := ⟨_⟩)
  unfold f_greatest_common
  walk_at "pc"
  rw [abs_nat, abs_nat]
  refine wq_mono (whl_w (Q := fun c s => c = .nx ∧ ∃ y, s = ⟨g, [.w (.d (.int (Nat.gcd a b))), y]⟩) (fun s => ∃ x y : Nat, s = ⟨g, [.w (.d (.int x)), .w (.d (.int y))]⟩ ∧ Nat.gcd x y = Nat.gcd a b) (mS 1) ⟨a, b, rfl, rfl⟩ (by simpa [mS] using hb) ?_) ?_
  · rintro s ⟨x, y, rfl, he⟩
    refine of_wq ?_
    simp -implicitDefEqProofs
    refine hold_i ?_
    by_cases h : y = 0
    · subst h
      simp at he
      simp [he]
    · simp [h]
      refine of_wq ?_
      walk_at "pp"
      refine hold_i ⟨⟨y, x % y, rfl, ?_⟩, ?_⟩
      · rw [← he, Nat.gcd_comm x y, Nat.gcd_rec y x, Nat.gcd_comm]
      · simp only [mS]
        have := Nat.mod_lt x (show 0 < y by omega)
        simp
        omega
  · rintro c s ⟨rfl, y, rfl⟩
    walk_at "pp"
theorem gcd_ok' {n : Nat} {a b : Nat} (hb : b < 100000) {g : List Cl} : Pc.run tab (n + 1) 16 0 [.d (.int a), .d (.int b)] [] g = .ok (.d (.int (Nat.gcd a b))) g := by
  refine wc_eq ?_
  refine wc_run (as := [.d (.int a), .d (.int b)]) t__law_gcd (by rfl) ?_
  show wc (fin (exs (Pc.run tab _) f__law_gcd.body ⟨_, [.w (.d (.int a)), .w (.d (.int b))]⟩)) (k := ⟨_⟩)
  unfold f__law_gcd
  walk_at "pc"
  refine wq_mono (whl_w (Q := fun c s => c = .nx ∧ ∃ y, s = ⟨g, [.w (.d (.int (Nat.gcd a b))), y]⟩) (fun s => ∃ x y : Nat, s = ⟨g, [.w (.d (.int x)), .w (.d (.int y))]⟩ ∧ Nat.gcd x y = Nat.gcd a b) (mS 1) ⟨a, b, rfl, rfl⟩ (by simpa [mS] using hb) ?_) ?_
  · rintro s ⟨x, y, rfl, he⟩
    refine of_wq ?_
    simp -implicitDefEqProofs
    refine hold_i ?_
    by_cases h : y = 0
    · subst h
      simp at he
      simp [he]
    · simp [h]
      refine of_wq ?_
      walk_at "pp"
      refine hold_i ⟨⟨y, x % y, rfl, ?_⟩, ?_⟩
      · rw [← he, Nat.gcd_comm x y, Nat.gcd_rec y x, Nat.gcd_comm]
      · simp only [mS]
        have := Nat.mod_lt x (show 0 < y by omega)
        simp
        omega
  · rintro c s ⟨rfl, y, rfl⟩
    walk_at "pp"
theorem isd : IsDraw f__law_draw := ⟨rfl, rfl, rfl, rfl⟩
theorem isa : IsAny 11 f__law_any := ⟨rfl, rfl, rfl, rfl⟩
theorem isb : IsBag f__law_bag := ⟨rfl, rfl, rfl, rfl⟩
theorem iss : IsSame f__law_same := ⟨rfl, rfl, rfl, rfl⟩
abbrev GB (S b : List D) (ex : List Cl) : List Cl := .fz S :: .lst b :: ex
theorem dr {ex : List Cl} {n : Nat} {S l : List D} {most : Int} (hb : BagOk l) (hm : 1 ≤ most) (hm2 : most < 1073741824) :
    (Pc.run tab (n + 1) 11 0 [.c 1, .d (.int most)] [] (GB S l ex)).wp fun w g => ∃ d l', w = .d (.int d) ∧ 0 ≤ d ∧ d < most ∧ BagOk l' ∧ g = GB S l' ex := draw_wp t__law_draw isd hb hm hm2
theorem an {ex : List Cl} {n : Nat} {S b l : List D} (hb : BagOk b) (hm : 1 ≤ l.length) (hm2 : l.length < 1073741824) :
    (Pc.run tab (n + 2) 12 0 [.c 1, .d (.lst l)] [] (GB S b ex)).wp fun w g => ∃ x b', x ∈ l ∧ w = .d x ∧ BagOk b' ∧ g = GB S b' ex := any_wp t__law_draw isd t__law_any isa hb hm hm2
theorem anS {ex : List Cl} {n : Nat} {S b : List D} {z : Str} (hb : BagOk b) (hm : 1 ≤ z.length) (hm2 : z.length < 1000) :
    (Pc.run tab (n + 2) 12 0 [.c 1, .d (.str z)] [] (GB S b ex)).wp fun w g => ∃ c b', c ∈ z.cps.toList ∧ w = .d (.str ⟨#[c]⟩) ∧ BagOk b' ∧ g = GB S b' ex := anyS_wp t__law_draw isd t__law_any isa hb hm hm2
theorem same {n : Nat} {d : D} {g : List Cl} (h : d.sh = true) (h3 : d.sz ≤ 16777216) (h4 : d.dp ≤ 64) : Pc.run tab (n + 1) 13 0 [.d d, .d d] [] g = .ok (.d (.bl true)) g := same_eq t__law_same iss h h3 h4
theorem plain_dr {ex : List Cl} {k : Nat} (hk : k ≤ 3) {S : List D} : ∀ {d n : Nat} {b : List D} (hb : BagOk b), (Pc.run tab (n + d + 3) 23 0 [.c 1, .d (.int k), .d (.int (d + 1 : Nat))] [] (GB S b ex)).wp fun w g => ∃ v b', w = .d v ∧ plainB k (d + 1) v = true ∧ BagOk b' ∧ g = GB S b' ex
  | 0, n, b, hb => by
    refine of_wc ?_
    refine wc_run (as := [.c 1, .d (.int k), .d (.int (0 + 1 : Nat))]) t__law_plain (by rfl) ?_
    show wc (fin (exs (Pc.run tab _) f__law_plain.body ⟨_, [.w (.c 1), .w (.d (.int k)), .w (.d (.int (0 + 1 : Nat)))]⟩)) (k := ⟨_⟩)
    unfold f__law_plain
    walk_at "pc"
    walk_at "pp"
    refine wq_cb (anS (z := lets k) hb (lets_len hk).1 (lets_len hk).2) ?_
    rintro w g ⟨c, b, hc, rfl, hb, rfl⟩
    walk_at "pp"
    refine hold_i ⟨_, _, rfl, ?_, hb, rfl⟩
    rw [plainB]
    exact lets_early hc
  | d + 1, n, b, hb => by
    refine of_wc ?_
    refine wc_run (as := [.c 1, .d (.int k), .d (.int (d + 1 + 1 : Nat))]) t__law_plain (by rfl) ?_
    show wc (fin (exs (Pc.run tab _) f__law_plain.body ⟨_, [.w (.c 1), .w (.d (.int k)), .w (.d (.int (d + 1 + 1 : Nat)))]⟩)) (k := ⟨_⟩)
    unfold f__law_plain
    walk_at "pc"
    walk_at "pp"
    refine wq_cb (dr hb (by decide) (by decide)) ?_
    rintro w g ⟨x, b, rfl, h1, h2, hb, rfl⟩
    walk_at "pp"
    · refine wq_cb (an hb (by simp) (by simp)) ?_
      rintro w g ⟨h, b, hh, rfl, hb, rfl⟩
      walk_at "pp"
      refine wq_cb (plain_dr hk (d := d) (n := n) hb) ?_
      rintro w g ⟨v1, b, rfl, p1, hb, rfl⟩
      walk_at "pp"
      refine wq_cb (plain_dr hk (d := d) (n := n) hb) ?_
      rintro w g ⟨v2, b, rfl, p2, hb, rfl⟩
      walk_at "pp"
      refine hold_i ⟨_, _, rfl, ?_, hb, rfl⟩
      simp at hh
      show (wordB gl h && (plainB k (d + 1) v1 && plainB k (d + 1) v2)) = true
      rw [p1, p2]
      rcases hh with rfl | rfl <;> decide
    · refine wq_cb (anS (z := lets k) hb (lets_len hk).1 (lets_len hk).2) ?_
      rintro w g ⟨c, b, hc, rfl, hb, rfl⟩
      walk_at "pp"
      refine hold_i ⟨_, _, rfl, ?_, hb, rfl⟩
      rw [plainB]
      exact lets_early hc
theorem plain3_dr {ex : List Cl} {k n : Nat} (hk : k ≤ 3) {S b : List D} (hb : BagOk b) : (Pc.run tab (n + 5) 23 0 [.c 1, .d (.int k), .d (.int 3)] [] (GB S b ex)).wp fun w g => ∃ v b', w = .d v ∧ plainB k 3 v = true ∧ BagOk b' ∧ g = GB S b' ex := plain_dr hk (d := 2) (n := n) hb
theorem term_dr {ex : List Cl} {k n : Nat} (hk : k ≤ 3) {S b : List D} (hb : BagOk b) : (Pc.run tab (n + 6) 24 0 [.c 1, .d (.int k)] [] (GB S b ex)).wp fun w g => ∃ v b', w = .d v ∧ Te' k v ∧ BagOk b' ∧ g = GB S b' ex := by
  refine of_wc ?_
  refine wc_run (as := [.c 1, .d (.int k)]) t__law_any_term (by rfl) ?_
  show wc (fin (exs (Pc.run tab _) f__law_any_term.body ⟨_, [.w (.c 1), .w (.d (.int k))]⟩)) (k := ⟨_⟩)
  unfold f__law_any_term
  walk_at "pc"
  walk_at "pp"
  · refine wq_cb (dr hb (by decide) (by decide)) ?_
    rintro w g ⟨x, b, rfl, h1, h2, hb, rfl⟩
    walk_at "pp"
    · refine wq_cb (anS (z := cutS (Str.ofString "abc") none (some (k : Int))) hb (abc_len hk (by omega)).1 (abc_len hk (by omega)).2) ?_
      rintro w g ⟨c, b, hc, rfl, hb, rfl⟩
      walk_at "pp"
      refine hold_i ⟨_, _, rfl, term_te hk (.inr ?_), hb, rfl⟩
      simp only [coB, wordB, letterB, inS_one]
      simp [hc]
      rfl
    · refine wq_cb (plain3_dr hk hb) ?_
      rintro w g ⟨v, b, rfl, hv, hb, rfl⟩
      walk_at "pp"
      exact hold_i ⟨_, _, rfl, term_te hk (.inl hv), hb, rfl⟩
  · refine wq_cb (plain3_dr hk hb) ?_
    rintro w g ⟨v, b, rfl, hv, hb, rfl⟩
    walk_at "pp"
    exact hold_i ⟨_, _, rfl, term_te hk (.inl hv), hb, rfl⟩
end Gk14

set_option Elab.async false
set_option linter.all false
set_option maxRecDepth 100000
set_option maxHeartbeats 4000000
namespace Gk14
open PySem L2 Pc
local macro_rules | `(tactic| walk_at "pc") => `(tactic| simp -implicitDefEqProofs (disch := first | omega | decide))
local macro_rules | `(tactic| walk_at "ps") => `(tactic| first
  | with_reducible refine wq_dt (by omega) ?_ | with_reducible refine wq_df (by omega) ?_ | with_reducible refine wq_d (fun h => ?_) (fun h => ?_)
  | with_reducible refine wq_nt (by omega) ?_ | with_reducible refine wq_nf (by omega) ?_ | with_reducible refine wq_n (fun h => ?_) (fun h => ?_)
  | with_reducible refine wq_cndT (by simp only [Bool.and_eq_true, Bool.or_eq_true, decide_eq_true_eq, Bool.not_eq_true', decide_eq_false_iff_not]; omega) ?_
  | with_reducible refine wq_cndF (by simp only [Bool.and_eq_false_iff, Bool.or_eq_false_iff, decide_eq_true_eq, Bool.not_eq_false', decide_eq_false_iff_not]; omega) ?_
  | (with_reducible refine wq_cnd ?_ ?_ <;> (intro h; try simp only [h])))
local macro_rules | `(tactic| walk_at "pp") => `(tactic| (repeat' (first | walk_at "pc" | walk_at "ps")))
local macro_rules | `(tactic| walk_at "pa") => `(tactic| (repeat' (first | simp -implicitDefEqProofs (disch := first | omega | decide) [*] | walk_at "ps")))

theorem worth_ok {m k d n : Nat} (hk : k ≤ 3) {nums : List Nat} (N : NOk m k nums) {v S : D} {g : List Cl} (h : plainB k d v = true) : Pc.run tab (n + d + 1) 3 0 [.d v, .d S, .d (.tup (nD nums))] [] g = .ok (.d (.int (termV nums v : Nat))) g := by
  refine plain_ind (P := fun d v => plainB k d v = true → ∀ n, Pc.run tab (n + d + 1) 3 0 [.d v, .d S, .d (.tup (nD nums))] [] g = .ok (.d (.int (termV nums v : Nat))) g) ?_ ?_ h h n
  · intro d z hz _ n
    have e := spot_ok (n := n + d) hk hz (g := g)
    have hs := spot_lt hk hz
    have e2 := s_tgetN (l := nums) (i := (spotN (.str z) : Nat)) (by omega) (by rw [N.len]; omega)
    refine wc_eq ?_
    refine wc_run (as := [.d (.str z), .d S, .d (.tup (nD nums))]) t_term_worth (by rfl) ?_
    show wc (fin (exs (Pc.run tab _) f_term_worth.body ⟨_, [.w (.d (.str z)), .w (.d S), .w (.d (.tup (nD nums))), .no, .no, .no, .no]⟩)) (k := ⟨_⟩)
    unfold f_term_worth
    walk_at "pc"
    rw [show n + (d + 1) = n + d + 1 from rfl, e]
    simp -implicitDefEqProofs
    rw [e2]
    simp [termV]
  · intro d h x y hh hx hy px py _ n
    have e1 := px hx n
    have e2 := py hy n
    obtain ⟨a1, a2⟩ := termV_ok hk N hx
    obtain ⟨b1, b2⟩ := termV_ok hk N hy
    have a3 := le72 N.m1 N.m2 a2
    have b3 := le72 N.m1 N.m2 b2
    have e3 := gcd_ok (n := n + d) (a := termV nums x) (b := termV nums y) (by omega) (g := g)
    have g1 : 1 ≤ Nat.gcd (termV nums x) (termV nums y) := Nat.gcd_pos_of_pos_left _ a1
    have g2 : Nat.gcd (termV nums x) (termV nums y) ≤ termV nums x := Nat.gcd_le_left _ a1
    have l1 := lcm1 (termV nums x) (termV nums y)
    have l2 : ((termV nums x : Nat) : Int) / ((Nat.gcd (termV nums x) (termV nums y) : Nat) : Int) * ((termV nums y : Nat) : Int) = (Nat.lcm (termV nums x) (termV nums y) : Nat) := by rw [← l1]; rfl
    have l3 : 0 ≤ ((termV nums x : Nat) : Int) / ((Nat.gcd (termV nums x) (termV nums y) : Nat) : Int) := Int.natCast_nonneg (termV nums x / _)
    have et : termV nums (.tup [.str h, x, y]) = if h = "gcd" then Nat.gcd (termV nums x) (termV nums y) else Nat.lcm (termV nums x) (termV nums y) := by rw [termV]
    refine wc_eq ?_
    refine wc_run (as := [.d (.tup [.str h, x, y]), .d S, .d (.tup (nD nums))]) t_term_worth (by rfl) ?_
    show wc (fin (exs (Pc.run tab _) f_term_worth.body ⟨_, [.w (.d (.tup [.str h, x, y])), .w (.d S), .w (.d (.tup (nD nums))), .no, .no, .no, .no]⟩)) (k := ⟨_⟩)
    unfold f_term_worth
    walk_at "pc"
    rw [et]
    have e1' : Pc.run tab (n + (d + 1)) 3 0 [.d x, .d S, .d (.tup (nD nums))] [] g = _ := e1
    have e2' : Pc.run tab (n + (d + 1)) 3 0 [.d y, .d S, .d (.tup (nD nums))] [] g = _ := e2
    have e3' : Pc.run tab (n + (d + 1)) 1 0 [.d (.int (termV nums x : Nat)), .d (.int (termV nums y : Nat))] [] g = _ := e3
    generalize termV nums x = X at *
    generalize termV nums y = Y at *
    generalize Nat.gcd X Y = G at *
    rcases hh with rfl | rfl
    · walk_at "pp"
      rw [e1']
      walk_at "pp"
      rw [e2']
      walk_at "pp"
      rw [e3']
      walk_at "pp"
    · walk_at "pp"
      rw [e1']
      walk_at "pp"
      rw [e2']
      walk_at "pp"
      rw [e3']
      walk_at "pp"
      rw [l2]
theorem worth_ok' {m k d n : Nat} (hk : k ≤ 3) {nums : List Nat} (N : NOk m k nums) {v S : D} {g : List Cl} (h : plainB k d v = true) : Pc.run tab (n + d + 1) 18 0 [.d v, .d S, .d (.tup (nD nums))] [] g = .ok (.d (.int (termV nums v : Nat))) g := by
  refine plain_ind (P := fun d v => plainB k d v = true → ∀ n, Pc.run tab (n + d + 1) 18 0 [.d v, .d S, .d (.tup (nD nums))] [] g = .ok (.d (.int (termV nums v : Nat))) g) ?_ ?_ h h n
  · intro d z hz _ n
    have e := spot_ok' (n := n + d) hk hz (g := g)
    have hs := spot_lt hk hz
    have e2 := s_tgetN (l := nums) (i := (spotN (.str z) : Nat)) (by omega) (by rw [N.len]; omega)
    refine wc_eq ?_
    refine wc_run (as := [.d (.str z), .d S, .d (.tup (nD nums))]) t__law_term (by rfl) ?_
    show wc (fin (exs (Pc.run tab _) f__law_term.body ⟨_, [.w (.d (.str z)), .w (.d S), .w (.d (.tup (nD nums))), .no, .no, .no, .no]⟩)) (k := ⟨_⟩)
    unfold f__law_term
    walk_at "pc"
    rw [show n + (d + 1) = n + d + 1 from rfl, e]
    simp -implicitDefEqProofs
    rw [e2]
    simp [termV]
  · intro d h x y hh hx hy px py _ n
    have e1 := px hx n
    have e2 := py hy n
    obtain ⟨a1, a2⟩ := termV_ok hk N hx
    obtain ⟨b1, b2⟩ := termV_ok hk N hy
    have a3 := le72 N.m1 N.m2 a2
    have b3 := le72 N.m1 N.m2 b2
    have e3 := gcd_ok' (n := n + d) (a := termV nums x) (b := termV nums y) (by omega) (g := g)
    have g1 : 1 ≤ Nat.gcd (termV nums x) (termV nums y) := Nat.gcd_pos_of_pos_left _ a1
    have g2 : Nat.gcd (termV nums x) (termV nums y) ≤ termV nums x := Nat.gcd_le_left _ a1
    have l2 : ((termV nums x : Nat) : Int) * ((termV nums y : Nat) : Int) / ((Nat.gcd (termV nums x) (termV nums y) : Nat) : Int) = (Nat.lcm (termV nums x) (termV nums y) : Nat) := rfl
    have et : termV nums (.tup [.str h, x, y]) = if h = "gcd" then Nat.gcd (termV nums x) (termV nums y) else Nat.lcm (termV nums x) (termV nums y) := by rw [termV]
    refine wc_eq ?_
    refine wc_run (as := [.d (.tup [.str h, x, y]), .d S, .d (.tup (nD nums))]) t__law_term (by rfl) ?_
    show wc (fin (exs (Pc.run tab _) f__law_term.body ⟨_, [.w (.d (.tup [.str h, x, y])), .w (.d S), .w (.d (.tup (nD nums))), .no, .no, .no, .no]⟩)) (k := ⟨_⟩)
    unfold f__law_term
    walk_at "pc"
    rw [et]
    have e1' : Pc.run tab (n + (d + 1)) 18 0 [.d x, .d S, .d (.tup (nD nums))] [] g = _ := e1
    have e2' : Pc.run tab (n + (d + 1)) 18 0 [.d y, .d S, .d (.tup (nD nums))] [] g = _ := e2
    have e3' : Pc.run tab (n + (d + 1)) 16 0 [.d (.int (termV nums x : Nat)), .d (.int (termV nums y : Nat))] [] g = _ := e3
    generalize termV nums x = X at *
    generalize termV nums y = Y at *
    generalize Nat.gcd X Y = G at *
    rcases hh with rfl | rfl
    · walk_at "pp"
      rw [e1']
      walk_at "pp"
      rw [e2']
      walk_at "pp"
      rw [e3']
      walk_at "pp"
    · walk_at "pp"
      rw [e1']
      walk_at "pp"
      rw [e2']
      walk_at "pp"
      rw [e3']
      walk_at "pp"
      rw [l2]
/-- the sources: letters ahead, each loop number a divisor of its source's -/
def valV (hs : List D) (nums : List Nat) : D → Nat
  | .tup [_, z] => coV hs nums z
  | v => termV nums v
theorem co_worth {m k n : Nat} (hk : k ≤ 3) {nums : List Nat} {hs : List D} (N : NOk m k nums) (H : HOk k hs nums) {z : Str} (h : letterB k (.str z) = true) {g : List Cl} :
    (1 ≤ coV hs nums (.str z) ∧ coV hs nums (.str z) ∣ m) ∧ Pc.run tab (n + 2) 3 0 [.d (.tup [.str "co", .str z]), .d (.tup hs), .d (.tup (nD nums))] [] g = .ok (.d (.int (coV hs nums (.str z) : Nat))) g ∧
    Pc.run tab (n + 2) 18 0 [.d (.tup [.str "co", .str z]), .d (.tup hs), .d (.tup (nD nums))] [] g = .ok (.d (.int (coV hs nums (.str z) : Nat))) g := by
  obtain ⟨p1, p2⟩ := letter_pos hk h
  have he := letter_early hk h
  have e1 := fun g => spot_ok (n := n) hk he (g := g)
  have e1' := fun g => spot_ok' (n := n) hk he (g := g)
  generalize hp : spotN (.str z) = p at *
  obtain ⟨y, hy, hye, hd⟩ := H.src (p - 1) (by omega)
  have hj := spot_lt (k := p - 1) (by omega) hye
  have e2 := fun g => spot_ok (n := n) (k := p - 1) (by omega) hye (g := g)
  have e2' := fun g => spot_ok' (n := n) (k := p - 1) (by omega) hye (g := g)
  have hg : hs.getD (p - 1) .non = .str y := by rw [List.getD_eq_getElem?_getD, hy]; rfl
  have s1 : subD (.tup hs) (.int ((p : Int) - 1)) = some (.str y) := by
    rw [s_tget (by omega) (by rw [H.len]; omega), show ((p : Int) - 1).toNat = p - 1 by omega, hg]
  have c : coV hs nums (.str z) = nums.getD (spotN (.str y)) 0 / nums.getD p 0 := by
    unfold coV
    rw [hp, hg]
  rw [c]
  generalize spotN (.str y) = j at *
  have n1 := nget N (i := p) (by omega)
  have n2 := nget N (i := j) (by omega)
  rw [show p - 1 + 1 = p by omega] at hd
  have s2 := s_tgetN (l := nums) (i := (j : Int)) (by omega) (by rw [N.len]; omega)
  have s3 := s_tgetN (l := nums) (i := (p : Int)) (by omega) (by rw [N.len]; omega)
  rw [Int.toNat_natCast] at s2 s3
  have b1 := le72 N.m1 N.m2 n1.2
  generalize nums.getD p 0 = P at *
  generalize nums.getD j 0 = J at *
  refine ⟨⟨?_, ?_⟩, ?_, ?_⟩
  · exact Nat.div_pos (Nat.le_of_dvd n2.1 hd) n1.1
  · exact Nat.dvd_trans (Nat.div_dvd_of_dvd hd) n2.2
  · refine wc_eq ?_
    refine wc_run (as := [.d (.tup [.str "co", .str z]), .d (.tup hs), .d (.tup (nD nums))]) t_term_worth (by rfl) ?_
    show wc (fin (exs (Pc.run tab _) f_term_worth.body ⟨_, [.w (.d (.tup [.str "co", .str z])), .w (.d (.tup hs)), .w (.d (.tup (nD nums))), .no, .no, .no, .no]⟩)) (k := ⟨_⟩)
    unfold f_term_worth
    walk_at "pc"
    simp -implicitDefEqProofs [e1]
    rw [s1]
    simp -implicitDefEqProofs [e2]
    rw [s2]
    simp -implicitDefEqProofs
    rw [s3]
    walk_at "pp"
  · refine wc_eq ?_
    refine wc_run (as := [.d (.tup [.str "co", .str z]), .d (.tup hs), .d (.tup (nD nums))]) t__law_term (by rfl) ?_
    show wc (fin (exs (Pc.run tab _) f__law_term.body ⟨_, [.w (.d (.tup [.str "co", .str z])), .w (.d (.tup hs)), .w (.d (.tup (nD nums))), .no, .no, .no, .no]⟩)) (k := ⟨_⟩)
    unfold f__law_term
    walk_at "pc"
    simp -implicitDefEqProofs [e1']
    rw [s1]
    simp -implicitDefEqProofs [e2']
    rw [s2]
    simp -implicitDefEqProofs
    rw [s3]
    walk_at "pp"
theorem val_ok {m k n : Nat} (hk : k ≤ 3) {nums : List Nat} {hs : List D} (N : NOk m k nums) (H : HOk k hs nums) {v : D} (h : Te' k v) : ∃ V : Nat, 1 ≤ V ∧ V ≤ 72 ∧
    ∀ g, Pc.run tab (n + 4) 3 0 [.d v, .d (.tup hs), .d (.tup (nD nums))] [] g = .ok (.d (.int V)) g ∧
    Pc.run tab (n + 4) 18 0 [.d v, .d (.tup hs), .d (.tup (nD nums))] [] g = .ok (.d (.int V)) g := by
  rcases h.b with h | h
  · obtain ⟨h1, h2⟩ := termV_ok hk N h
    exact ⟨termV nums v, h1, le72 N.m1 N.m2 h2, fun g => ⟨worth_ok (n := n) hk N h, worth_ok' (n := n) hk N h⟩⟩
  · obtain ⟨z, rfl, hz⟩ := co_cases h
    have a := fun g => co_worth (n := n + 2) hk N H hz (g := g)
    exact ⟨_, (a []).1.1, le72 N.m1 N.m2 (a []).1.2, fun g => ⟨(a g).2.1, (a g).2.2⟩⟩
end Gk14

set_option Elab.async false
set_option linter.all false
set_option maxRecDepth 100000
set_option maxHeartbeats 4000000
namespace Gk14
open PySem L2 Pc
local macro_rules | `(tactic| walk_at "pc") => `(tactic| simp -implicitDefEqProofs (disch := first | omega | decide))
local macro_rules | `(tactic| walk_at "ps") => `(tactic| first
  | with_reducible refine wq_dt (by omega) ?_ | with_reducible refine wq_df (by omega) ?_ | with_reducible refine wq_d (fun h => ?_) (fun h => ?_)
  | with_reducible refine wq_nt (by omega) ?_ | with_reducible refine wq_nf (by omega) ?_ | with_reducible refine wq_n (fun h => ?_) (fun h => ?_)
  | with_reducible refine wq_cndT (by simp only [Bool.and_eq_true, Bool.or_eq_true, decide_eq_true_eq, Bool.not_eq_true', decide_eq_false_iff_not]; omega) ?_
  | with_reducible refine wq_cndF (by simp only [Bool.and_eq_false_iff, Bool.or_eq_false_iff, decide_eq_true_eq, Bool.not_eq_false', decide_eq_false_iff_not]; omega) ?_
  | (with_reducible refine wq_cnd ?_ ?_ <;> (intro h; try simp only [h])))
local macro_rules | `(tactic| walk_at "pp") => `(tactic| (repeat' (first | walk_at "pc" | walk_at "ps")))
local macro_rules | `(tactic| walk_at "pa") => `(tactic| (repeat' (first | simp -implicitDefEqProofs (disch := first | omega | decide) [*] | walk_at "ps")))

def spl : Nat → List (Nat × Nat)
  | 1 => []
  | 2 => [(2, 1)]
  | 3 => [(3, 1)]
  | 4 => [(2, 2)]
  | 5 => [(5, 1)]
  | 6 => [(2, 1), (3, 1)]
  | 7 => [(7, 1)]
  | 8 => [(2, 3)]
  | 9 => [(3, 2)]
  | 10 => [(2, 1), (5, 1)]
  | 11 => [(11, 1)]
  | 12 => [(2, 2), (3, 1)]
  | 13 => [(13, 1)]
  | 14 => [(2, 1), (7, 1)]
  | 15 => [(3, 1), (5, 1)]
  | 16 => [(2, 4)]
  | 17 => [(17, 1)]
  | 18 => [(2, 1), (3, 2)]
  | 19 => [(19, 1)]
  | 20 => [(2, 2), (5, 1)]
  | 21 => [(3, 1), (7, 1)]
  | 22 => [(2, 1), (11, 1)]
  | 23 => [(23, 1)]
  | 24 => [(2, 3), (3, 1)]
  | 25 => [(5, 2)]
  | 26 => [(2, 1), (13, 1)]
  | 27 => [(3, 3)]
  | 28 => [(2, 2), (7, 1)]
  | 29 => [(29, 1)]
  | 30 => [(2, 1), (3, 1), (5, 1)]
  | 31 => [(31, 1)]
  | 32 => [(2, 5)]
  | 33 => [(3, 1), (11, 1)]
  | 34 => [(2, 1), (17, 1)]
  | 35 => [(5, 1), (7, 1)]
  | 36 => [(2, 2), (3, 2)]
  | 37 => [(37, 1)]
  | 38 => [(2, 1), (19, 1)]
  | 39 => [(3, 1), (13, 1)]
  | 40 => [(2, 3), (5, 1)]
  | 41 => [(41, 1)]
  | 42 => [(2, 1), (3, 1), (7, 1)]
  | 43 => [(43, 1)]
  | 44 => [(2, 2), (11, 1)]
  | 45 => [(3, 2), (5, 1)]
  | 46 => [(2, 1), (23, 1)]
  | 47 => [(47, 1)]
  | 48 => [(2, 4), (3, 1)]
  | 49 => [(7, 2)]
  | 50 => [(2, 1), (5, 2)]
  | 51 => [(3, 1), (17, 1)]
  | 52 => [(2, 2), (13, 1)]
  | 53 => [(53, 1)]
  | 54 => [(2, 1), (3, 3)]
  | 55 => [(5, 1), (11, 1)]
  | 56 => [(2, 3), (7, 1)]
  | 57 => [(3, 1), (19, 1)]
  | 58 => [(2, 1), (29, 1)]
  | 59 => [(59, 1)]
  | 60 => [(2, 2), (3, 1), (5, 1)]
  | 61 => [(61, 1)]
  | 62 => [(2, 1), (31, 1)]
  | 63 => [(3, 2), (7, 1)]
  | 64 => [(2, 6)]
  | 65 => [(5, 1), (13, 1)]
  | 66 => [(2, 1), (3, 1), (11, 1)]
  | 67 => [(67, 1)]
  | 68 => [(2, 2), (17, 1)]
  | 69 => [(3, 1), (23, 1)]
  | 70 => [(2, 1), (5, 1), (7, 1)]
  | 71 => [(71, 1)]
  | 72 => [(2, 3), (3, 2)]
  | _ => []
def spD (x : Nat) : List D := (spl x).map fun p => .tup [.int p.1, .int p.2]
theorem split_ok {n : Nat} {g : List Cl} : ∀ {x : Nat}, 1 ≤ x → x ≤ 72 → Pc.run tab (n + 1) 0 0 [.d (.int x)] [] g = .ok (.d (.lst (spD x))) g
  | 1, _, _ => by kernel_rfl
  | 2, _, _ => by kernel_rfl
  | 3, _, _ => by kernel_rfl
  | 4, _, _ => by kernel_rfl
  | 5, _, _ => by kernel_rfl
  | 6, _, _ => by kernel_rfl
  | 7, _, _ => by kernel_rfl
  | 8, _, _ => by kernel_rfl
  | 9, _, _ => by kernel_rfl
  | 10, _, _ => by kernel_rfl
  | 11, _, _ => by kernel_rfl
  | 12, _, _ => by kernel_rfl
  | 13, _, _ => by kernel_rfl
  | 14, _, _ => by kernel_rfl
  | 15, _, _ => by kernel_rfl
  | 16, _, _ => by kernel_rfl
  | 17, _, _ => by kernel_rfl
  | 18, _, _ => by kernel_rfl
  | 19, _, _ => by kernel_rfl
  | 20, _, _ => by kernel_rfl
  | 21, _, _ => by kernel_rfl
  | 22, _, _ => by kernel_rfl
  | 23, _, _ => by kernel_rfl
  | 24, _, _ => by kernel_rfl
  | 25, _, _ => by kernel_rfl
  | 26, _, _ => by kernel_rfl
  | 27, _, _ => by kernel_rfl
  | 28, _, _ => by kernel_rfl
  | 29, _, _ => by kernel_rfl
  | 30, _, _ => by kernel_rfl
  | 31, _, _ => by kernel_rfl
  | 32, _, _ => by kernel_rfl
  | 33, _, _ => by kernel_rfl
  | 34, _, _ => by kernel_rfl
  | 35, _, _ => by kernel_rfl
  | 36, _, _ => by kernel_rfl
  | 37, _, _ => by kernel_rfl
  | 38, _, _ => by kernel_rfl
  | 39, _, _ => by kernel_rfl
  | 40, _, _ => by kernel_rfl
  | 41, _, _ => by kernel_rfl
  | 42, _, _ => by kernel_rfl
  | 43, _, _ => by kernel_rfl
  | 44, _, _ => by kernel_rfl
  | 45, _, _ => by kernel_rfl
  | 46, _, _ => by kernel_rfl
  | 47, _, _ => by kernel_rfl
  | 48, _, _ => by kernel_rfl
  | 49, _, _ => by kernel_rfl
  | 50, _, _ => by kernel_rfl
  | 51, _, _ => by kernel_rfl
  | 52, _, _ => by kernel_rfl
  | 53, _, _ => by kernel_rfl
  | 54, _, _ => by kernel_rfl
  | 55, _, _ => by kernel_rfl
  | 56, _, _ => by kernel_rfl
  | 57, _, _ => by kernel_rfl
  | 58, _, _ => by kernel_rfl
  | 59, _, _ => by kernel_rfl
  | 60, _, _ => by kernel_rfl
  | 61, _, _ => by kernel_rfl
  | 62, _, _ => by kernel_rfl
  | 63, _, _ => by kernel_rfl
  | 64, _, _ => by kernel_rfl
  | 65, _, _ => by kernel_rfl
  | 66, _, _ => by kernel_rfl
  | 67, _, _ => by kernel_rfl
  | 68, _, _ => by kernel_rfl
  | 69, _, _ => by kernel_rfl
  | 70, _, _ => by kernel_rfl
  | 71, _, _ => by kernel_rfl
  | 72, _, _ => by kernel_rfl
  | 0, h, _ => absurd h (by decide)
  | x + 73, _, h => absurd h (by omega)
theorem split_ok' {n : Nat} {g : List Cl} : ∀ {x : Nat}, 1 ≤ x → x ≤ 72 → Pc.run tab (n + 1) 14 0 [.d (.int x)] [] g = .ok (.d (.lst (spD x))) g
  | 1, _, _ => by kernel_rfl
  | 2, _, _ => by kernel_rfl
  | 3, _, _ => by kernel_rfl
  | 4, _, _ => by kernel_rfl
  | 5, _, _ => by kernel_rfl
  | 6, _, _ => by kernel_rfl
  | 7, _, _ => by kernel_rfl
  | 8, _, _ => by kernel_rfl
  | 9, _, _ => by kernel_rfl
  | 10, _, _ => by kernel_rfl
  | 11, _, _ => by kernel_rfl
  | 12, _, _ => by kernel_rfl
  | 13, _, _ => by kernel_rfl
  | 14, _, _ => by kernel_rfl
  | 15, _, _ => by kernel_rfl
  | 16, _, _ => by kernel_rfl
  | 17, _, _ => by kernel_rfl
  | 18, _, _ => by kernel_rfl
  | 19, _, _ => by kernel_rfl
  | 20, _, _ => by kernel_rfl
  | 21, _, _ => by kernel_rfl
  | 22, _, _ => by kernel_rfl
  | 23, _, _ => by kernel_rfl
  | 24, _, _ => by kernel_rfl
  | 25, _, _ => by kernel_rfl
  | 26, _, _ => by kernel_rfl
  | 27, _, _ => by kernel_rfl
  | 28, _, _ => by kernel_rfl
  | 29, _, _ => by kernel_rfl
  | 30, _, _ => by kernel_rfl
  | 31, _, _ => by kernel_rfl
  | 32, _, _ => by kernel_rfl
  | 33, _, _ => by kernel_rfl
  | 34, _, _ => by kernel_rfl
  | 35, _, _ => by kernel_rfl
  | 36, _, _ => by kernel_rfl
  | 37, _, _ => by kernel_rfl
  | 38, _, _ => by kernel_rfl
  | 39, _, _ => by kernel_rfl
  | 40, _, _ => by kernel_rfl
  | 41, _, _ => by kernel_rfl
  | 42, _, _ => by kernel_rfl
  | 43, _, _ => by kernel_rfl
  | 44, _, _ => by kernel_rfl
  | 45, _, _ => by kernel_rfl
  | 46, _, _ => by kernel_rfl
  | 47, _, _ => by kernel_rfl
  | 48, _, _ => by kernel_rfl
  | 49, _, _ => by kernel_rfl
  | 50, _, _ => by kernel_rfl
  | 51, _, _ => by kernel_rfl
  | 52, _, _ => by kernel_rfl
  | 53, _, _ => by kernel_rfl
  | 54, _, _ => by kernel_rfl
  | 55, _, _ => by kernel_rfl
  | 56, _, _ => by kernel_rfl
  | 57, _, _ => by kernel_rfl
  | 58, _, _ => by kernel_rfl
  | 59, _, _ => by kernel_rfl
  | 60, _, _ => by kernel_rfl
  | 61, _, _ => by kernel_rfl
  | 62, _, _ => by kernel_rfl
  | 63, _, _ => by kernel_rfl
  | 64, _, _ => by kernel_rfl
  | 65, _, _ => by kernel_rfl
  | 66, _, _ => by kernel_rfl
  | 67, _, _ => by kernel_rfl
  | 68, _, _ => by kernel_rfl
  | 69, _, _ => by kernel_rfl
  | 70, _, _ => by kernel_rfl
  | 71, _, _ => by kernel_rfl
  | 72, _, _ => by kernel_rfl
  | 0, h, _ => absurd h (by decide)
  | x + 73, _, h => absurd h (by omega)
end Gk14

set_option Elab.async false
set_option linter.all false
set_option maxRecDepth 100000
set_option maxHeartbeats 4000000
namespace Pc
open PySem
inductive Tr
  | at (v : D) | nt (t : Tr) | j2 (b : Bool) (x y : Tr) | j3 (b : Bool) (x y z : Tr)
def jw : Bool → Str
  | true => "and"
  | false => "or"
namespace Tr
def toD : Tr → D
  | .at v => v
  | .nt t => .tup [.str "not", t.toD]
  | .j2 b x y => .tup [.str (jw b), x.toD, y.toD]
  | .j3 b x y z => .tup [.str (jw b), x.toD, y.toD, z.toD]
def ats : Tr → List D
  | .at v => [v]
  | .nt t => t.ats
  | .j2 _ x y => x.ats ++ y.ats
  | .j3 _ x y z => x.ats ++ (y.ats ++ z.ats)
def val (f : D → Bool) : Tr → Bool
  | .at v => f v
  | .nt t => !t.val f
  | .j2 true x y => x.val f && y.val f
  | .j2 false x y => x.val f || y.val f
  | .j3 true x y z => x.val f && (y.val f && z.val f)
  | .j3 false x y z => x.val f || (y.val f || z.val f)
def dep : Tr → Nat
  | .at _ => 1
  | .nt t => t.dep + 1
  | .j2 _ x y => max x.dep y.dep + 1
  | .j3 _ x y z => max x.dep (max y.dep z.dep) + 1
def Ok (P : D → Prop) : Tr → Prop
  | .at v => P v
  | .nt t => t.Ok P
  | .j2 _ x y => x.Ok P ∧ y.Ok P
  | .j3 _ x y z => x.Ok P ∧ y.Ok P ∧ z.Ok P
theorem ok_ats {P : D → Prop} : ∀ {t : Tr}, t.Ok P → ∀ v ∈ t.ats, P v
  | .at v, h, w, hw => by simp [ats] at hw; subst hw; exact h
  | .nt t, h, w, hw => ok_ats (t := t) h w hw
  | .j2 _ x y, h, w, hw => by
    rcases List.mem_append.mp hw with e | e
    · exact ok_ats h.1 w e
    · exact ok_ats h.2 w e
  | .j3 _ x y z, h, w, hw => by
    rcases List.mem_append.mp hw with e | e
    · exact ok_ats h.1 w e
    · rcases List.mem_append.mp e with e | e
      · exact ok_ats h.2.1 w e
      · exact ok_ats h.2.2 w e
end Tr
inductive Atm (k : Nat) : D → Prop
  | one (t : D) : Te' k t → Atm k (.tup [.str "one", t])
  | free (t : D) : Te' k t → Atm k (.tup [.str "free", t])
  | two (w : Str) (x y : D) : (w = "coprime" ∨ w = "divides" ∨ w = "same") → plainB k 2 x = true → plainB k 2 y = true → Atm k (.tup [.str w, x, y])
  | uni (z : Str) : letterB k (.str z) = true → Atm k (.tup [.str "unitary", .str z])
/-- the head word of a tuple is none of the joining ones -/
def headB : D → Prop
  | .tup (.str w :: _ :: _) => w ≠ "not" ∧ w ≠ "and" ∧ w ≠ "or"
  | _ => False
theorem Atm.head {k : Nat} {v : D} (h : Atm k v) : headB v := by
  cases h with
  | two w x y hw => rcases hw with rfl | rfl | rfl <;> (refine ⟨?_, ?_, ?_⟩ <;> decide)
  | _ => refine ⟨?_, ?_, ?_⟩ <;> decide
theorem headB.cases {v : D} (h : headB v) : ∃ w x l, v = .tup (.str w :: x :: l) ∧ w ≠ "not" ∧ w ≠ "and" ∧ w ≠ "or" := by
  match v, h with
  | .tup (.str w :: x :: l), h => exact ⟨w, x, l, rfl, h⟩
theorem comp_c {f : D → List D → Ss → Res (List D)} {x : D} {l acc : List D} {s : Ss} {Q : List D → Ss → Prop} (h : (f x acc s).wp fun acc' s' => (comp f l acc' s').wp Q) : (comp f (x :: l) acc s).wp Q := by
  show Res.wp (match f x acc s with | .ok acc' s' => comp f l acc' s' | _ => .stuck) _
  cases e1 : f x acc s with
  | ok acc' s' => rw [e1] at h; exact h
  | exc _ _ => rw [e1] at h; exact h.elim
  | stuck => rw [e1] at h; exact h.elim
theorem comp_n {f : D → List D → Ss → Res (List D)} {acc : List D} {s : Ss} {Q : List D → Ss → Prop} (h : Q acc s) : (comp f [] acc s).wp Q := h
/-- a comprehension with two loops: each turn of the outer one appends a list -/
theorem comp_flatE {α : Type} {f : D → List D → Ss → Res (List D)} (I : Ss → Prop) (e : α → D) (h : α → List D) : ∀ {l : List α} {acc : List D} {s : Ss}, acc.length + (l.flatMap h).length ≤ 16777216 → I s →
    (∀ x ∈ l, ∀ (acc : List D) (s : Ss), I s → acc.length + (h x).length ≤ 16777216 → (f (e x) acc s).wp fun acc' s' => acc' = acc ++ h x ∧ I s') → (comp f (l.map e) acc s).wp fun acc' s' => acc' = acc ++ l.flatMap h ∧ I s'
  | [], acc, s, hl, hi, H => comp_n ⟨by simp, hi⟩
  | x :: l, acc, s, hl, hi, H => by
    simp only [List.flatMap_cons, List.length_append] at hl
    have h1 := H x (List.mem_cons_self ..) acc s hi (by omega)
    refine comp_c ?_
    cases e1 : f (e x) acc s with
    | ok acc' s' =>
      rw [e1] at h1
      obtain ⟨rfl, hi'⟩ := h1
      have h2 := comp_flatE I e h (l := l) (acc := acc ++ h x) (s := s') (by rw [List.length_append]; omega) hi' fun y hy => H y (List.mem_cons_of_mem _ hy)
      rw [List.append_assoc] at h2
      exact h2
    | exc _ _ => rw [e1] at h1; exact h1.elim
    | stuck => rw [e1] at h1; exact h1.elim
@[simp] theorem cutD_1 {α : Type} {x : α} {l : List α} : cutD (x :: l) (some 1) none = l := by
  unfold cutD
  have h1 : HT.sIx (x :: l).length 0 (some 1) = 1 := by simp [HT.sIx]; try omega
  have h2 : HT.sIx (x :: l).length (x :: l).length none = l.length + 1 := by simp [HT.sIx]
  rw [h1, h2]
  simp
def freeN (x : Nat) : Bool := x % 4 != 0 && (x % 9 != 0 && (x % 25 != 0 && x % 49 != 0))
end Pc

set_option Elab.async false
set_option linter.all false
set_option maxRecDepth 100000
set_option maxHeartbeats 4000000
namespace Gk14
open PySem L2 Pc
local macro_rules | `(tactic| walk_at "pc") => `(tactic| simp -implicitDefEqProofs (disch := first | omega | decide))
local macro_rules | `(tactic| walk_at "ps") => `(tactic| first
  | with_reducible refine wq_dt (by omega) ?_ | with_reducible refine wq_df (by omega) ?_ | with_reducible refine wq_d (fun h => ?_) (fun h => ?_)
  | with_reducible refine wq_nt (by omega) ?_ | with_reducible refine wq_nf (by omega) ?_ | with_reducible refine wq_n (fun h => ?_) (fun h => ?_)
  | with_reducible refine wq_cndT (by simp only [Bool.and_eq_true, Bool.or_eq_true, decide_eq_true_eq, Bool.not_eq_true', decide_eq_false_iff_not]; omega) ?_
  | with_reducible refine wq_cndF (by simp only [Bool.and_eq_false_iff, Bool.or_eq_false_iff, decide_eq_true_eq, Bool.not_eq_false', decide_eq_false_iff_not]; omega) ?_
  | (with_reducible refine wq_cnd ?_ ?_ <;> (intro h; try simp only [h])))
local macro_rules | `(tactic| walk_at "pp") => `(tactic| (repeat' (first | walk_at "pc" | walk_at "ps")))
local macro_rules | `(tactic| walk_at "pa") => `(tactic| (repeat' (first | simp -implicitDefEqProofs (disch := first | omega | decide) [*] | walk_at "ps")))

theorem ats_in {n : Nat} {g : List Cl} {r0 y z : Sl} {l acc : List D} (hl : acc.length + l.length ≤ 16777216) : (comp (lcT (Pc.run tab n) (.nm 2) .nil (.v 2) [2]) l acc ⟨g, [r0, y, z]⟩).wp fun acc' s' => acc' = acc ++ l ∧ ∃ y z, s' = ⟨g, [r0, y, z]⟩ := by
  have h := comp_flat (f := lcT (Pc.run tab n) (.nm 2) .nil (.v 2) [2]) (l := l) (acc := acc) (s := ⟨g, [r0, y, z]⟩) (fun s => ∃ y z, s = ⟨g, [r0, y, z]⟩) (fun d => [d]) (by simpa using hl) ⟨_, _, rfl⟩ ?_
  · simpa using h
  · rintro x hx acc s ⟨y, z, rfl⟩ hacc
    simp at hacc
    refine of_wq ?_
    walk_at "pp"
    exact hold_i ⟨rfl, _, _, rfl⟩
theorem ats_ok {n : Nat} {P : D → Prop} (hP : ∀ v, P v → headB v) : ∀ {t : Tr} {m : Nat} {g : List Cl}, t.Ok P → t.dep ≤ m → t.ats.length ≤ 1000 → Pc.run tab (n + m + 1) 4 0 [.d t.toD] [] g = .ok (.d (.lst t.ats)) g
  | .at v, m, g, h, hm, hl => by
    obtain ⟨w, x, l, rfl, h1, h2, h3⟩ := (hP v h).cases
    have b1 : (Str.ofString "not" == w) = false := beq_eq_false_iff_ne.mpr (Ne.symm h1)
    have b2 : (Str.ofString "and" == w) = false := beq_eq_false_iff_ne.mpr (Ne.symm h2)
    have b3 : (Str.ofString "or" == w) = false := beq_eq_false_iff_ne.mpr (Ne.symm h3)
    simp only [Tr.toD, Tr.ats] at hl ⊢
    refine wc_eq ?_
    refine wc_run (as := [.d (.tup (.str w :: x :: l))]) t_list_atoms (by rfl) ?_
    show wc (fin (exs (Pc.run tab _) f_list_atoms.body ⟨_, [.w (.d (.tup (.str w :: x :: l))), .no, .no]⟩)) (k := ⟨_⟩)
    unfold f_list_atoms
    walk_at "pc"
    walk_at "pa"
  | .nt t, m + 1, g, h, hm, hl => by
    have e : ∀ g, Pc.run tab (n + (m + 1)) 4 0 [.d t.toD] [] g = .ok (.d (.lst t.ats)) g := fun g => ats_ok (n := n) hP (t := t) (m := m) (g := g) h (by simp [Tr.dep] at hm; omega) hl
    simp only [Tr.toD, Tr.ats] at hl ⊢
    refine wc_eq ?_
    refine wc_run (as := [.d (.tup [.str "not", t.toD])]) t_list_atoms (by rfl) ?_
    show wc (fin (exs (Pc.run tab _) f_list_atoms.body ⟨_, [.w (.d (.tup [.str "not", t.toD])), .no, .no]⟩)) (k := ⟨_⟩)
    unfold f_list_atoms
    walk_at "pc"
    rw [e]
    walk_at "pc"
    refine wq_mono (ats_in (by first | omega | (simp; omega))) ?_
    rintro acc s ⟨rfl, y, z, rfl⟩
    walk_at "pp"
  | .j2 b x y, m + 1, g, h, hm, hl => by
    simp only [Tr.dep] at hm
    simp only [Tr.ats, List.length_append] at hl
    have e1 : ∀ g, Pc.run tab (n + (m + 1)) 4 0 [.d x.toD] [] g = .ok (.d (.lst x.ats)) g := fun g => ats_ok (n := n) hP (t := x) (m := m) (g := g) h.1 (by omega) (by omega)
    have e2 : ∀ g, Pc.run tab (n + (m + 1)) 4 0 [.d y.toD] [] g = .ok (.d (.lst y.ats)) g := fun g => ats_ok (n := n) hP (t := y) (m := m) (g := g) h.2 (by omega) (by omega)
    simp only [Tr.toD, Tr.ats]
    cases b
    all_goals simp only [jw]
    · refine wc_eq ?_
      refine wc_run (as := [.d (.tup [.str "or", x.toD, y.toD])]) t_list_atoms (by rfl) ?_
      show wc (fin (exs (Pc.run tab _) f_list_atoms.body ⟨_, [.w (.d (.tup [.str "or", x.toD, y.toD])), .no, .no]⟩)) (k := ⟨_⟩)
      unfold f_list_atoms
      walk_at "pc"
      rw [e1]
      walk_at "pc"
      refine wq_mono (ats_in (by first | omega | (simp; omega))) ?_
      rintro acc s ⟨rfl, _, _, rfl⟩
      walk_at "pc"
      rw [e2]
      walk_at "pc"
      refine wq_mono (ats_in (by first | omega | (simp; omega))) ?_
      rintro acc s ⟨rfl, _, _, rfl⟩
      walk_at "pp"
    · refine wc_eq ?_
      refine wc_run (as := [.d (.tup [.str "and", x.toD, y.toD])]) t_list_atoms (by rfl) ?_
      show wc (fin (exs (Pc.run tab _) f_list_atoms.body ⟨_, [.w (.d (.tup [.str "and", x.toD, y.toD])), .no, .no]⟩)) (k := ⟨_⟩)
      unfold f_list_atoms
      walk_at "pc"
      rw [e1]
      walk_at "pc"
      refine wq_mono (ats_in (by first | omega | (simp; omega))) ?_
      rintro acc s ⟨rfl, _, _, rfl⟩
      walk_at "pc"
      rw [e2]
      walk_at "pc"
      refine wq_mono (ats_in (by first | omega | (simp; omega))) ?_
      rintro acc s ⟨rfl, _, _, rfl⟩
      walk_at "pp"
  | .j3 b x y z, m + 1, g, h, hm, hl => by
    simp only [Tr.dep] at hm
    simp only [Tr.ats, List.length_append] at hl
    have e1 : ∀ g, Pc.run tab (n + (m + 1)) 4 0 [.d x.toD] [] g = .ok (.d (.lst x.ats)) g := fun g => ats_ok (n := n) hP (t := x) (m := m) (g := g) h.1 (by omega) (by omega)
    have e2 : ∀ g, Pc.run tab (n + (m + 1)) 4 0 [.d y.toD] [] g = .ok (.d (.lst y.ats)) g := fun g => ats_ok (n := n) hP (t := y) (m := m) (g := g) h.2.1 (by omega) (by omega)
    have e3 : ∀ g, Pc.run tab (n + (m + 1)) 4 0 [.d z.toD] [] g = .ok (.d (.lst z.ats)) g := fun g => ats_ok (n := n) hP (t := z) (m := m) (g := g) h.2.2 (by omega) (by omega)
    simp only [Tr.toD, Tr.ats]
    cases b
    all_goals simp only [jw]
    · refine wc_eq ?_
      refine wc_run (as := [.d (.tup [.str "or", x.toD, y.toD, z.toD])]) t_list_atoms (by rfl) ?_
      show wc (fin (exs (Pc.run tab _) f_list_atoms.body ⟨_, [.w (.d (.tup [.str "or", x.toD, y.toD, z.toD])), .no, .no]⟩)) (k := ⟨_⟩)
      unfold f_list_atoms
      walk_at "pc"
      rw [e1]
      walk_at "pc"
      refine wq_mono (ats_in (by first | omega | (simp; omega))) ?_
      rintro acc s ⟨rfl, _, _, rfl⟩
      walk_at "pc"
      rw [e2]
      walk_at "pc"
      refine wq_mono (ats_in (by first | omega | (simp; omega))) ?_
      rintro acc s ⟨rfl, _, _, rfl⟩
      walk_at "pc"
      rw [e3]
      walk_at "pc"
      refine wq_mono (ats_in (by first | omega | (simp; omega))) ?_
      rintro acc s ⟨rfl, _, _, rfl⟩
      walk_at "pp"
    · refine wc_eq ?_
      refine wc_run (as := [.d (.tup [.str "and", x.toD, y.toD, z.toD])]) t_list_atoms (by rfl) ?_
      show wc (fin (exs (Pc.run tab _) f_list_atoms.body ⟨_, [.w (.d (.tup [.str "and", x.toD, y.toD, z.toD])), .no, .no]⟩)) (k := ⟨_⟩)
      unfold f_list_atoms
      walk_at "pc"
      rw [e1]
      walk_at "pc"
      refine wq_mono (ats_in (by first | omega | (simp; omega))) ?_
      rintro acc s ⟨rfl, _, _, rfl⟩
      walk_at "pc"
      rw [e2]
      walk_at "pc"
      refine wq_mono (ats_in (by first | omega | (simp; omega))) ?_
      rintro acc s ⟨rfl, _, _, rfl⟩
      walk_at "pc"
      rw [e3]
      walk_at "pc"
      refine wq_mono (ats_in (by first | omega | (simp; omega))) ?_
      rintro acc s ⟨rfl, _, _, rfl⟩
      walk_at "pp"
  | .nt _, 0, _, _, hm, _ => by simp [Tr.dep] at hm
  | .j2 _ _ _, 0, _, _, hm, _ => by simp [Tr.dep] at hm
  | .j3 _ _ _ _, 0, _, _, hm, _ => by simp [Tr.dep] at hm
end Gk14

set_option Elab.async false
set_option linter.all false
set_option maxRecDepth 100000
set_option maxHeartbeats 4000000
namespace Gk14
open PySem L2 Pc
local macro_rules | `(tactic| walk_at "pc") => `(tactic| simp -implicitDefEqProofs (disch := first | omega | decide))
local macro_rules | `(tactic| walk_at "ps") => `(tactic| first
  | with_reducible refine wq_dt (by omega) ?_ | with_reducible refine wq_df (by omega) ?_ | with_reducible refine wq_d (fun h => ?_) (fun h => ?_)
  | with_reducible refine wq_nt (by omega) ?_ | with_reducible refine wq_nf (by omega) ?_ | with_reducible refine wq_n (fun h => ?_) (fun h => ?_)
  | with_reducible refine wq_cndT (by simp only [Bool.and_eq_true, Bool.or_eq_true, decide_eq_true_eq, Bool.not_eq_true', decide_eq_false_iff_not]; omega) ?_
  | with_reducible refine wq_cndF (by simp only [Bool.and_eq_false_iff, Bool.or_eq_false_iff, decide_eq_true_eq, Bool.not_eq_false', decide_eq_false_iff_not]; omega) ?_
  | (with_reducible refine wq_cnd ?_ ?_ <;> (intro h; try simp only [h])))
local macro_rules | `(tactic| walk_at "pp") => `(tactic| (repeat' (first | walk_at "pc" | walk_at "ps")))
local macro_rules | `(tactic| walk_at "pa") => `(tactic| (repeat' (first | simp -implicitDefEqProofs (disch := first | omega | decide) [*] | walk_at "ps")))

theorem divs_ok {n : Nat} {g : List Cl} : ∀ {x : Nat}, 1 ≤ x → x ≤ 72 → Pc.run tab (n + 1) 15 0 [.d (.int x)] [] g = .ok (.d (.lst ((dvs x).map fun y : Nat => D.int y))) g
  | 1, _, _ => by kernel_rfl
  | 2, _, _ => by kernel_rfl
  | 3, _, _ => by kernel_rfl
  | 4, _, _ => by kernel_rfl
  | 5, _, _ => by kernel_rfl
  | 6, _, _ => by kernel_rfl
  | 7, _, _ => by kernel_rfl
  | 8, _, _ => by kernel_rfl
  | 9, _, _ => by kernel_rfl
  | 10, _, _ => by kernel_rfl
  | 11, _, _ => by kernel_rfl
  | 12, _, _ => by kernel_rfl
  | 13, _, _ => by kernel_rfl
  | 14, _, _ => by kernel_rfl
  | 15, _, _ => by kernel_rfl
  | 16, _, _ => by kernel_rfl
  | 17, _, _ => by kernel_rfl
  | 18, _, _ => by kernel_rfl
  | 19, _, _ => by kernel_rfl
  | 20, _, _ => by kernel_rfl
  | 21, _, _ => by kernel_rfl
  | 22, _, _ => by kernel_rfl
  | 23, _, _ => by kernel_rfl
  | 24, _, _ => by kernel_rfl
  | 25, _, _ => by kernel_rfl
  | 26, _, _ => by kernel_rfl
  | 27, _, _ => by kernel_rfl
  | 28, _, _ => by kernel_rfl
  | 29, _, _ => by kernel_rfl
  | 30, _, _ => by kernel_rfl
  | 31, _, _ => by kernel_rfl
  | 32, _, _ => by kernel_rfl
  | 33, _, _ => by kernel_rfl
  | 34, _, _ => by kernel_rfl
  | 35, _, _ => by kernel_rfl
  | 36, _, _ => by kernel_rfl
  | 37, _, _ => by kernel_rfl
  | 38, _, _ => by kernel_rfl
  | 39, _, _ => by kernel_rfl
  | 40, _, _ => by kernel_rfl
  | 41, _, _ => by kernel_rfl
  | 42, _, _ => by kernel_rfl
  | 43, _, _ => by kernel_rfl
  | 44, _, _ => by kernel_rfl
  | 45, _, _ => by kernel_rfl
  | 46, _, _ => by kernel_rfl
  | 47, _, _ => by kernel_rfl
  | 48, _, _ => by kernel_rfl
  | 49, _, _ => by kernel_rfl
  | 50, _, _ => by kernel_rfl
  | 51, _, _ => by kernel_rfl
  | 52, _, _ => by kernel_rfl
  | 53, _, _ => by kernel_rfl
  | 54, _, _ => by kernel_rfl
  | 55, _, _ => by kernel_rfl
  | 56, _, _ => by kernel_rfl
  | 57, _, _ => by kernel_rfl
  | 58, _, _ => by kernel_rfl
  | 59, _, _ => by kernel_rfl
  | 60, _, _ => by kernel_rfl
  | 61, _, _ => by kernel_rfl
  | 62, _, _ => by kernel_rfl
  | 63, _, _ => by kernel_rfl
  | 64, _, _ => by kernel_rfl
  | 65, _, _ => by kernel_rfl
  | 66, _, _ => by kernel_rfl
  | 67, _, _ => by kernel_rfl
  | 68, _, _ => by kernel_rfl
  | 69, _, _ => by kernel_rfl
  | 70, _, _ => by kernel_rfl
  | 71, _, _ => by kernel_rfl
  | 72, _, _ => by kernel_rfl
  | 0, h, _ => absurd h (by decide)
  | x + 73, _, h => absurd h (by omega)
end Gk14

set_option Elab.async false
set_option linter.all false
set_option maxRecDepth 100000
set_option maxHeartbeats 4000000
namespace Gk14
open PySem L2 Pc
local macro_rules | `(tactic| walk_at "pc") => `(tactic| simp -implicitDefEqProofs (disch := first | omega | decide))
local macro_rules | `(tactic| walk_at "ps") => `(tactic| first
  | with_reducible refine wq_dt (by omega) ?_ | with_reducible refine wq_df (by omega) ?_ | with_reducible refine wq_d (fun h => ?_) (fun h => ?_)
  | with_reducible refine wq_nt (by omega) ?_ | with_reducible refine wq_nf (by omega) ?_ | with_reducible refine wq_n (fun h => ?_) (fun h => ?_)
  | with_reducible refine wq_cndT (by simp only [Bool.and_eq_true, Bool.or_eq_true, decide_eq_true_eq, Bool.not_eq_true', decide_eq_false_iff_not]; omega) ?_
  | with_reducible refine wq_cndF (by simp only [Bool.and_eq_false_iff, Bool.or_eq_false_iff, decide_eq_true_eq, Bool.not_eq_false', decide_eq_false_iff_not]; omega) ?_
  | (with_reducible refine wq_cnd ?_ ?_ <;> (intro h; try simp only [h])))
local macro_rules | `(tactic| walk_at "pp") => `(tactic| (repeat' (first | walk_at "pc" | walk_at "ps")))
local macro_rules | `(tactic| walk_at "pa") => `(tactic| (repeat' (first | simp -implicitDefEqProofs (disch := first | omega | decide) [*] | walk_at "ps")))

theorem coprime_ok {n : Nat} {a b : Nat} (hb : b < 100000) {g : List Cl} : Pc.run tab (n + 1) 7 0 [.d (.int a), .d (.int b)] [] g = .ok (.d (.bl (decide (Nat.gcd a b = 1)))) g := by
  refine wc_eq ?_
  refine wc_run (as := [.d (.int a), .d (.int b)]) t_are_coprime (by rfl) ?_
  show wc (fin (exs (Pc.run tab _) f_are_coprime.body ⟨_, [.w (.d (.int a)), .w (.d (.int b))]⟩)) (k := ⟨_⟩)
  unfold f_are_coprime
  walk_at "pc"
  refine wq_mono (whl_w (Q := fun c s => c = .nx ∧ ∃ y, s = ⟨g, [.w (.d (.int (Nat.gcd a b))), y]⟩) (fun s => ∃ x y : Nat, s = ⟨g, [.w (.d (.int x)), .w (.d (.int y))]⟩ ∧ Nat.gcd x y = Nat.gcd a b) (mS 1) ⟨a, b, rfl, rfl⟩ (by simpa [mS] using hb) ?_) ?_
  · rintro s ⟨x, y, rfl, he⟩
    refine of_wq ?_
    simp -implicitDefEqProofs
    refine hold_i ?_
    by_cases h : y = 0
    · subst h
      simp at he
      simp [he]
    · simp [h]
      refine of_wq ?_
      walk_at "pp"
      refine hold_i ⟨⟨y, x % y, rfl, ?_⟩, ?_⟩
      · rw [← he, Nat.gcd_comm x y, Nat.gcd_rec y x, Nat.gcd_comm]
      · simp only [mS]
        have := Nat.mod_lt x (show 0 < y by omega)
        simp
        omega
  · rintro c s ⟨rfl, y, rfl⟩
    walk_at "pp"
theorem free_ok {n : Nat} {g : List Cl} : ∀ {x : Nat}, 1 ≤ x → x ≤ 72 → Pc.run tab (n + 2) 5 0 [.d (.int x)] [] g = .ok (.d (.bl (freeN x))) g
  | 1, _, _ => by kernel_rfl
  | 2, _, _ => by kernel_rfl
  | 3, _, _ => by kernel_rfl
  | 4, _, _ => by kernel_rfl
  | 5, _, _ => by kernel_rfl
  | 6, _, _ => by kernel_rfl
  | 7, _, _ => by kernel_rfl
  | 8, _, _ => by kernel_rfl
  | 9, _, _ => by kernel_rfl
  | 10, _, _ => by kernel_rfl
  | 11, _, _ => by kernel_rfl
  | 12, _, _ => by kernel_rfl
  | 13, _, _ => by kernel_rfl
  | 14, _, _ => by kernel_rfl
  | 15, _, _ => by kernel_rfl
  | 16, _, _ => by kernel_rfl
  | 17, _, _ => by kernel_rfl
  | 18, _, _ => by kernel_rfl
  | 19, _, _ => by kernel_rfl
  | 20, _, _ => by kernel_rfl
  | 21, _, _ => by kernel_rfl
  | 22, _, _ => by kernel_rfl
  | 23, _, _ => by kernel_rfl
  | 24, _, _ => by kernel_rfl
  | 25, _, _ => by kernel_rfl
  | 26, _, _ => by kernel_rfl
  | 27, _, _ => by kernel_rfl
  | 28, _, _ => by kernel_rfl
  | 29, _, _ => by kernel_rfl
  | 30, _, _ => by kernel_rfl
  | 31, _, _ => by kernel_rfl
  | 32, _, _ => by kernel_rfl
  | 33, _, _ => by kernel_rfl
  | 34, _, _ => by kernel_rfl
  | 35, _, _ => by kernel_rfl
  | 36, _, _ => by kernel_rfl
  | 37, _, _ => by kernel_rfl
  | 38, _, _ => by kernel_rfl
  | 39, _, _ => by kernel_rfl
  | 40, _, _ => by kernel_rfl
  | 41, _, _ => by kernel_rfl
  | 42, _, _ => by kernel_rfl
  | 43, _, _ => by kernel_rfl
  | 44, _, _ => by kernel_rfl
  | 45, _, _ => by kernel_rfl
  | 46, _, _ => by kernel_rfl
  | 47, _, _ => by kernel_rfl
  | 48, _, _ => by kernel_rfl
  | 49, _, _ => by kernel_rfl
  | 50, _, _ => by kernel_rfl
  | 51, _, _ => by kernel_rfl
  | 52, _, _ => by kernel_rfl
  | 53, _, _ => by kernel_rfl
  | 54, _, _ => by kernel_rfl
  | 55, _, _ => by kernel_rfl
  | 56, _, _ => by kernel_rfl
  | 57, _, _ => by kernel_rfl
  | 58, _, _ => by kernel_rfl
  | 59, _, _ => by kernel_rfl
  | 60, _, _ => by kernel_rfl
  | 61, _, _ => by kernel_rfl
  | 62, _, _ => by kernel_rfl
  | 63, _, _ => by kernel_rfl
  | 64, _, _ => by kernel_rfl
  | 65, _, _ => by kernel_rfl
  | 66, _, _ => by kernel_rfl
  | 67, _, _ => by kernel_rfl
  | 68, _, _ => by kernel_rfl
  | 69, _, _ => by kernel_rfl
  | 70, _, _ => by kernel_rfl
  | 71, _, _ => by kernel_rfl
  | 72, _, _ => by kernel_rfl
  | 0, h, _ => absurd h (by decide)
  | x + 73, _, h => absurd h (by omega)
theorem free_ok' {n : Nat} {g : List Cl} : ∀ {x : Nat}, 1 ≤ x → x ≤ 72 → Pc.run tab (n + 2) 19 0 [.d (.int x)] [] g = .ok (.d (.bl (freeN x))) g
  | 1, _, _ => by kernel_rfl
  | 2, _, _ => by kernel_rfl
  | 3, _, _ => by kernel_rfl
  | 4, _, _ => by kernel_rfl
  | 5, _, _ => by kernel_rfl
  | 6, _, _ => by kernel_rfl
  | 7, _, _ => by kernel_rfl
  | 8, _, _ => by kernel_rfl
  | 9, _, _ => by kernel_rfl
  | 10, _, _ => by kernel_rfl
  | 11, _, _ => by kernel_rfl
  | 12, _, _ => by kernel_rfl
  | 13, _, _ => by kernel_rfl
  | 14, _, _ => by kernel_rfl
  | 15, _, _ => by kernel_rfl
  | 16, _, _ => by kernel_rfl
  | 17, _, _ => by kernel_rfl
  | 18, _, _ => by kernel_rfl
  | 19, _, _ => by kernel_rfl
  | 20, _, _ => by kernel_rfl
  | 21, _, _ => by kernel_rfl
  | 22, _, _ => by kernel_rfl
  | 23, _, _ => by kernel_rfl
  | 24, _, _ => by kernel_rfl
  | 25, _, _ => by kernel_rfl
  | 26, _, _ => by kernel_rfl
  | 27, _, _ => by kernel_rfl
  | 28, _, _ => by kernel_rfl
  | 29, _, _ => by kernel_rfl
  | 30, _, _ => by kernel_rfl
  | 31, _, _ => by kernel_rfl
  | 32, _, _ => by kernel_rfl
  | 33, _, _ => by kernel_rfl
  | 34, _, _ => by kernel_rfl
  | 35, _, _ => by kernel_rfl
  | 36, _, _ => by kernel_rfl
  | 37, _, _ => by kernel_rfl
  | 38, _, _ => by kernel_rfl
  | 39, _, _ => by kernel_rfl
  | 40, _, _ => by kernel_rfl
  | 41, _, _ => by kernel_rfl
  | 42, _, _ => by kernel_rfl
  | 43, _, _ => by kernel_rfl
  | 44, _, _ => by kernel_rfl
  | 45, _, _ => by kernel_rfl
  | 46, _, _ => by kernel_rfl
  | 47, _, _ => by kernel_rfl
  | 48, _, _ => by kernel_rfl
  | 49, _, _ => by kernel_rfl
  | 50, _, _ => by kernel_rfl
  | 51, _, _ => by kernel_rfl
  | 52, _, _ => by kernel_rfl
  | 53, _, _ => by kernel_rfl
  | 54, _, _ => by kernel_rfl
  | 55, _, _ => by kernel_rfl
  | 56, _, _ => by kernel_rfl
  | 57, _, _ => by kernel_rfl
  | 58, _, _ => by kernel_rfl
  | 59, _, _ => by kernel_rfl
  | 60, _, _ => by kernel_rfl
  | 61, _, _ => by kernel_rfl
  | 62, _, _ => by kernel_rfl
  | 63, _, _ => by kernel_rfl
  | 64, _, _ => by kernel_rfl
  | 65, _, _ => by kernel_rfl
  | 66, _, _ => by kernel_rfl
  | 67, _, _ => by kernel_rfl
  | 68, _, _ => by kernel_rfl
  | 69, _, _ => by kernel_rfl
  | 70, _, _ => by kernel_rfl
  | 71, _, _ => by kernel_rfl
  | 72, _, _ => by kernel_rfl
  | 0, h, _ => absurd h (by decide)
  | x + 73, _, h => absurd h (by omega)
end Gk14

set_option Elab.async false
set_option linter.all false
set_option maxRecDepth 100000
set_option maxHeartbeats 4000000
namespace Gk14
open PySem L2 Pc
local macro_rules | `(tactic| walk_at "pc") => `(tactic| simp -implicitDefEqProofs (disch := first | omega | decide))
local macro_rules | `(tactic| walk_at "ps") => `(tactic| first
  | with_reducible refine wq_dt (by omega) ?_ | with_reducible refine wq_df (by omega) ?_ | with_reducible refine wq_d (fun h => ?_) (fun h => ?_)
  | with_reducible refine wq_nt (by omega) ?_ | with_reducible refine wq_nf (by omega) ?_ | with_reducible refine wq_n (fun h => ?_) (fun h => ?_)
  | with_reducible refine wq_cndT (by simp only [Bool.and_eq_true, Bool.or_eq_true, decide_eq_true_eq, Bool.not_eq_true', decide_eq_false_iff_not]; omega) ?_
  | with_reducible refine wq_cndF (by simp only [Bool.and_eq_false_iff, Bool.or_eq_false_iff, decide_eq_true_eq, Bool.not_eq_false', decide_eq_false_iff_not]; omega) ?_
  | (with_reducible refine wq_cnd ?_ ?_ <;> (intro h; try simp only [h])))
local macro_rules | `(tactic| walk_at "pp") => `(tactic| (repeat' (first | walk_at "pc" | walk_at "ps")))
local macro_rules | `(tactic| walk_at "pa") => `(tactic| (repeat' (first | simp -implicitDefEqProofs (disch := first | omega | decide) [*] | walk_at "ps")))

theorem dec1 (x : Nat) : decide ((x : Int) = 1) = decide (x = 1) := by
  by_cases h : x = 1
  · subst h; rfl
  · rw [decide_eq_false h, decide_eq_false (by omega)]
theorem letter_plain {k : Nat} (hk : k ≤ 3) {z : Str} (h : letterB k (.str z) = true) : plainB k 1 (.str z) = true := by
  rw [plainB]; exact letter_early hk h
theorem val_ok2 {m k : Nat} (hk : k ≤ 3) {nums : List Nat} {hs : List D} (N : NOk m k nums) (H : HOk k hs nums) {v : D} (h : Te' k v) : ∃ V : Nat, 1 ≤ V ∧ V ≤ 72 ∧
    ∀ n g, Pc.run tab (n + 4) 3 0 [.d v, .d (.tup hs), .d (.tup (nD nums))] [] g = .ok (.d (.int V)) g ∧
    Pc.run tab (n + 4) 18 0 [.d v, .d (.tup hs), .d (.tup (nD nums))] [] g = .ok (.d (.int V)) g := by
  rcases h.b with h | h
  · obtain ⟨h1, h2⟩ := termV_ok hk N h
    exact ⟨termV nums v, h1, le72 N.m1 N.m2 h2, fun n g => ⟨worth_ok (n := n) hk N h, worth_ok' (n := n) hk N h⟩⟩
  · obtain ⟨z, rfl, hz⟩ := co_cases h
    have a := fun n g => co_worth (n := n + 2) hk N H hz (g := g)
    exact ⟨_, (a 0 []).1.1, le72 N.m1 N.m2 (a 0 []).1.2, fun n g => ⟨(a n g).2.1, (a n g).2.2⟩⟩
theorem atom_ok {m k : Nat} (hk : k ≤ 3) {nums : List Nat} {hs : List D} (N : NOk m k nums) (H : HOk k hs nums) {v : D} (h : Atm k v) : ∃ B : Bool, ∀ n g,
    Pc.run tab (n + 6) 6 0 [.d v, .d (.tup hs), .d (.tup (nD nums))] [] g = .ok (.d (.bl B)) g ∧ Pc.run tab (n + 6) 20 0 [.d v, .d (.tup hs), .d (.tup (nD nums))] [] g = .ok (.d (.bl B)) g := by
  cases h with
  | one t ht =>
    obtain ⟨V, v1, v2, hV⟩ := val_ok2 hk N H ht
    refine ⟨decide (V = 1), fun n g => ⟨?_, ?_⟩⟩
    · refine wc_eq ?_
      refine wc_run (as := [.d (.tup [.str "one", t]), .d (.tup hs), .d (.tup (nD nums))]) t_atom_holds (by rfl) ?_
      show wc (fin (exs (Pc.run tab _) f_atom_holds.body ⟨_, [.w (.d (.tup [.str "one", t])), .w (.d (.tup hs)), .w (.d (.tup (nD nums))), .no, .no]⟩)) (k := ⟨_⟩)
      unfold f_atom_holds
      walk_at "pc"
      rw [(hV (n + 1) _).1]
      walk_at "pp"
      all_goals simp [dec1]
    · refine wc_eq ?_
      refine wc_run (as := [.d (.tup [.str "one", t]), .d (.tup hs), .d (.tup (nD nums))]) t__law_atom (by rfl) ?_
      show wc (fin (exs (Pc.run tab _) f__law_atom.body ⟨_, [.w (.d (.tup [.str "one", t])), .w (.d (.tup hs)), .w (.d (.tup (nD nums))), .no, .no]⟩)) (k := ⟨_⟩)
      unfold f__law_atom
      walk_at "pc"
      rw [(hV (n + 1) _).2]
      walk_at "pp"
      all_goals simp [dec1]
  | free t ht =>
    obtain ⟨V, v1, v2, hV⟩ := val_ok2 hk N H ht
    have f1 := fun n g => free_ok (n := n + 3) v1 v2 (g := g)
    have f2 := fun n g => free_ok' (n := n + 3) v1 v2 (g := g)
    refine ⟨freeN V, fun n g => ⟨?_, ?_⟩⟩
    · refine wc_eq ?_
      refine wc_run (as := [.d (.tup [.str "free", t]), .d (.tup hs), .d (.tup (nD nums))]) t_atom_holds (by rfl) ?_
      show wc (fin (exs (Pc.run tab _) f_atom_holds.body ⟨_, [.w (.d (.tup [.str "free", t])), .w (.d (.tup hs)), .w (.d (.tup (nD nums))), .no, .no]⟩)) (k := ⟨_⟩)
      unfold f_atom_holds
      walk_at "pc"
      rw [(hV (n + 1) _).1]
      walk_at "pp"
      rw [f1 n]
      walk_at "pp"
    · refine wc_eq ?_
      refine wc_run (as := [.d (.tup [.str "free", t]), .d (.tup hs), .d (.tup (nD nums))]) t__law_atom (by rfl) ?_
      show wc (fin (exs (Pc.run tab _) f__law_atom.body ⟨_, [.w (.d (.tup [.str "free", t])), .w (.d (.tup hs)), .w (.d (.tup (nD nums))), .no, .no]⟩)) (k := ⟨_⟩)
      unfold f__law_atom
      walk_at "pc"
      rw [(hV (n + 1) _).2]
      walk_at "pp"
      rw [f2 n]
      walk_at "pp"
  | two w x y hw hx hy =>
    obtain ⟨a1, a2⟩ := termV_ok hk N hx
    obtain ⟨b1, b2⟩ := termV_ok hk N hy
    have a3 := le72 N.m1 N.m2 a2
    have b3 := le72 N.m1 N.m2 b2
    have e1 := fun n g => worth_ok (n := n + 2) hk N hx (S := .tup hs) (g := g)
    have e2 := fun n g => worth_ok (n := n + 2) hk N hy (S := .tup hs) (g := g)
    have e1' := fun n g => worth_ok' (n := n + 2) hk N hx (S := .tup hs) (g := g)
    have e2' := fun n g => worth_ok' (n := n + 2) hk N hy (S := .tup hs) (g := g)
    generalize termV nums x = X at *
    generalize termV nums y = Y at *
    have g1 := fun n g => coprime_ok (n := n + 4) (a := X) (b := Y) (by omega) (g := g)
    have g2 := fun n g => gcd_ok' (n := n + 4) (a := X) (b := Y) (by omega) (g := g)
    rcases hw with rfl | rfl | rfl
    · refine ⟨decide (Nat.gcd X Y = 1), fun n g => ⟨?_, ?_⟩⟩
      · refine wc_eq ?_
        refine wc_run (as := [.d (.tup [.str "coprime", x, y]), .d (.tup hs), .d (.tup (nD nums))]) t_atom_holds (by rfl) ?_
        show wc (fin (exs (Pc.run tab _) f_atom_holds.body ⟨_, [.w (.d (.tup [.str "coprime", x, y])), .w (.d (.tup hs)), .w (.d (.tup (nD nums))), .no, .no]⟩)) (k := ⟨_⟩)
        unfold f_atom_holds
        walk_at "pc"
        rw [e1 n]
        walk_at "pp"
        rw [e2 n]
        walk_at "pp"
        rw [g1 n]
        walk_at "pp"
      · refine wc_eq ?_
        refine wc_run (as := [.d (.tup [.str "coprime", x, y]), .d (.tup hs), .d (.tup (nD nums))]) t__law_atom (by rfl) ?_
        show wc (fin (exs (Pc.run tab _) f__law_atom.body ⟨_, [.w (.d (.tup [.str "coprime", x, y])), .w (.d (.tup hs)), .w (.d (.tup (nD nums))), .no, .no]⟩)) (k := ⟨_⟩)
        unfold f__law_atom
        walk_at "pc"
        rw [e1' n]
        walk_at "pp"
        rw [e2' n]
        walk_at "pp"
        rw [g2 n]
        walk_at "pp"
        all_goals simp [dec1]
    · refine ⟨decide ((Y : Int) % (X : Int) = 0), fun n g => ⟨?_, ?_⟩⟩
      · refine wc_eq ?_
        refine wc_run (as := [.d (.tup [.str "divides", x, y]), .d (.tup hs), .d (.tup (nD nums))]) t_atom_holds (by rfl) ?_
        show wc (fin (exs (Pc.run tab _) f_atom_holds.body ⟨_, [.w (.d (.tup [.str "divides", x, y])), .w (.d (.tup hs)), .w (.d (.tup (nD nums))), .no, .no]⟩)) (k := ⟨_⟩)
        unfold f_atom_holds
        walk_at "pc"
        rw [e1 n]
        walk_at "pp"
        rw [e2 n]
        walk_at "pp"
      · refine wc_eq ?_
        refine wc_run (as := [.d (.tup [.str "divides", x, y]), .d (.tup hs), .d (.tup (nD nums))]) t__law_atom (by rfl) ?_
        show wc (fin (exs (Pc.run tab _) f__law_atom.body ⟨_, [.w (.d (.tup [.str "divides", x, y])), .w (.d (.tup hs)), .w (.d (.tup (nD nums))), .no, .no]⟩)) (k := ⟨_⟩)
        unfold f__law_atom
        walk_at "pc"
        rw [e1' n]
        walk_at "pp"
        rw [e2' n]
        walk_at "pp"
    · refine ⟨decide ((X : Int) = (Y : Int)), fun n g => ⟨?_, ?_⟩⟩
      · refine wc_eq ?_
        refine wc_run (as := [.d (.tup [.str "same", x, y]), .d (.tup hs), .d (.tup (nD nums))]) t_atom_holds (by rfl) ?_
        show wc (fin (exs (Pc.run tab _) f_atom_holds.body ⟨_, [.w (.d (.tup [.str "same", x, y])), .w (.d (.tup hs)), .w (.d (.tup (nD nums))), .no, .no]⟩)) (k := ⟨_⟩)
        unfold f_atom_holds
        walk_at "pc"
        rw [e1 n]
        walk_at "pp"
        rw [e2 n]
        walk_at "pp"
      · refine wc_eq ?_
        refine wc_run (as := [.d (.tup [.str "same", x, y]), .d (.tup hs), .d (.tup (nD nums))]) t__law_atom (by rfl) ?_
        show wc (fin (exs (Pc.run tab _) f__law_atom.body ⟨_, [.w (.d (.tup [.str "same", x, y])), .w (.d (.tup hs)), .w (.d (.tup (nD nums))), .no, .no]⟩)) (k := ⟨_⟩)
        unfold f__law_atom
        walk_at "pc"
        rw [e1' n]
        walk_at "pp"
        rw [e2' n]
        walk_at "pp"
  | uni z hz =>
    have hp := letter_plain hk hz
    obtain ⟨a1, a2⟩ := termV_ok hk N hp
    have a3 := le72 N.m1 N.m2 a2
    have e1 := fun n g => worth_ok (n := n + 3) hk N hp (S := .tup hs) (g := g)
    have e1' := fun n g => worth_ok' (n := n + 3) hk N hp (S := .tup hs) (g := g)
    have c := fun n g => co_worth (n := n + 3) hk N H hz (g := g)
    have c3 := le72 N.m1 N.m2 (c 0 []).1.2
    have c1 := fun n g => (c n g).2.1
    have c2 := fun n g => (c n g).2.2
    generalize termV nums (.str z) = X at *
    generalize coV hs nums (.str z) = Y at *
    have g1 := fun n g => coprime_ok (n := n + 4) (a := X) (b := Y) (by omega) (g := g)
    have g2 := fun n g => gcd_ok' (n := n + 4) (a := X) (b := Y) (by omega) (g := g)
    refine ⟨decide (Nat.gcd X Y = 1), fun n g => ⟨?_, ?_⟩⟩
    · refine wc_eq ?_
      refine wc_run (as := [.d (.tup [.str "unitary", .str z]), .d (.tup hs), .d (.tup (nD nums))]) t_atom_holds (by rfl) ?_
      show wc (fin (exs (Pc.run tab _) f_atom_holds.body ⟨_, [.w (.d (.tup [.str "unitary", .str z])), .w (.d (.tup hs)), .w (.d (.tup (nD nums))), .no, .no]⟩)) (k := ⟨_⟩)
      unfold f_atom_holds
      walk_at "pc"
      rw [e1 n]
      walk_at "pp"
      rw [c1 n]
      walk_at "pp"
      rw [g1 n]
      walk_at "pp"
    · refine wc_eq ?_
      refine wc_run (as := [.d (.tup [.str "unitary", .str z]), .d (.tup hs), .d (.tup (nD nums))]) t__law_atom (by rfl) ?_
      show wc (fin (exs (Pc.run tab _) f__law_atom.body ⟨_, [.w (.d (.tup [.str "unitary", .str z])), .w (.d (.tup hs)), .w (.d (.tup (nD nums))), .no, .no]⟩)) (k := ⟨_⟩)
      unfold f__law_atom
      walk_at "pc"
      rw [e1' n]
      walk_at "pp"
      rw [c2 n]
      walk_at "pp"
      rw [g2 n]
      walk_at "pp"
      all_goals simp [dec1]
end Gk14

set_option Elab.async false
set_option linter.all false
set_option maxRecDepth 100000
set_option maxHeartbeats 4000000
namespace Gk14
open PySem L2 Pc
local macro_rules | `(tactic| walk_at "pc") => `(tactic| simp -implicitDefEqProofs (disch := first | omega | decide))
local macro_rules | `(tactic| walk_at "ps") => `(tactic| first
  | with_reducible refine wq_dt (by omega) ?_ | with_reducible refine wq_df (by omega) ?_ | with_reducible refine wq_d (fun h => ?_) (fun h => ?_)
  | with_reducible refine wq_nt (by omega) ?_ | with_reducible refine wq_nf (by omega) ?_ | with_reducible refine wq_n (fun h => ?_) (fun h => ?_)
  | with_reducible refine wq_cndT (by simp only [Bool.and_eq_true, Bool.or_eq_true, decide_eq_true_eq, Bool.not_eq_true', decide_eq_false_iff_not]; omega) ?_
  | with_reducible refine wq_cndF (by simp only [Bool.and_eq_false_iff, Bool.or_eq_false_iff, decide_eq_true_eq, Bool.not_eq_false', decide_eq_false_iff_not]; omega) ?_
  | (with_reducible refine wq_cnd ?_ ?_ <;> (intro h; try simp only [h])))
local macro_rules | `(tactic| walk_at "pp") => `(tactic| (repeat' (first | walk_at "pc" | walk_at "ps")))
local macro_rules | `(tactic| walk_at "pa") => `(tactic| (repeat' (first | simp -implicitDefEqProofs (disch := first | omega | decide) [*] | walk_at "ps")))

@[simp] theorem cat_get {g : List Cl} {c : Cl} : (g ++ [c])[g.length]? = some c := by simp
@[simp] theorem cat_set {g : List Cl} {c d : Cl} : (g ++ [c]).set g.length d = g ++ [d] := by
  rw [List.set_append_right _ _ (Nat.le_refl _)]; simp
theorem truth_ok {n : Nat} {f : D → Bool} {P : D → Prop} (hP : ∀ v, P v → headB v) : ∀ {t : Tr} {m : Nat} {g : List Cl} {rest : List D}, t.Ok P → t.dep ≤ m →
    Pc.run tab (n + m + 1) 8 0 [.d t.toD, .c g.length] [] (g ++ [.lst (t.ats.map (fun v => D.bl (f v)) ++ rest)]) = .ok (.d (.bl (t.val f))) (g ++ [.lst rest])
  | .at v, m, g, rest, h, hm => by
    obtain ⟨w, x, l, rfl, h1, h2, h3⟩ := (hP v h).cases
    have b1 : (Str.ofString "not" == w) = false := beq_eq_false_iff_ne.mpr (Ne.symm h1)
    have b2 : (Str.ofString "and" == w) = false := beq_eq_false_iff_ne.mpr (Ne.symm h2)
    have b3 : (Str.ofString "or" == w) = false := beq_eq_false_iff_ne.mpr (Ne.symm h3)
    simp only [Tr.toD, Tr.ats, Tr.val, List.map_cons, List.map_nil, List.cons_append, List.nil_append]
    refine wc_eq ?_
    refine wc_run (as := [.d (.tup (.str w :: x :: l)), .c g.length]) t_truth (by rfl) ?_
    show wc (fin (exs (Pc.run tab _) f_truth.body ⟨_, [.w (.d (.tup (.str w :: x :: l))), .w (.c g.length), .no, .no]⟩)) (k := ⟨_⟩)
    unfold f_truth
    walk_at "pc"
    walk_at "pa"
  | .nt t, m + 1, g, rest, h, hm => by
    have e : Pc.run tab (n + (m + 1)) 8 0 [.d t.toD, .c g.length] [] (g ++ [.lst (t.ats.map (fun v => D.bl (f v)) ++ rest)]) = _ := truth_ok (n := n) (f := f) hP (t := t) (m := m) (g := g) (rest := rest) h (by simp [Tr.dep] at hm; omega)
    simp only [Tr.toD, Tr.ats, Tr.val]
    refine wc_eq ?_
    refine wc_run (as := [.d (.tup [.str "not", t.toD]), .c g.length]) t_truth (by rfl) ?_
    show wc (fin (exs (Pc.run tab _) f_truth.body ⟨_, [.w (.d (.tup [.str "not", t.toD])), .w (.c g.length), .no, .no]⟩)) (k := ⟨_⟩)
    unfold f_truth
    walk_at "pc"
    rw [e]
    walk_at "pp"
  | .j2 b x y, m + 1, g, rest, h, hm => by
    simp only [Tr.dep] at hm
    have e1 : ∀ rest, Pc.run tab (n + (m + 1)) 8 0 [.d x.toD, .c g.length] [] (g ++ [.lst (x.ats.map (fun v => D.bl (f v)) ++ rest)]) = _ := fun rest => truth_ok (n := n) (f := f) hP (t := x) (m := m) (g := g) (rest := rest) h.1 (by omega)
    have e2 : ∀ rest, Pc.run tab (n + (m + 1)) 8 0 [.d y.toD, .c g.length] [] (g ++ [.lst (y.ats.map (fun v => D.bl (f v)) ++ rest)]) = _ := fun rest => truth_ok (n := n) (f := f) hP (t := y) (m := m) (g := g) (rest := rest) h.2 (by omega)
    simp only [Tr.toD, Tr.ats, List.map_append, List.append_assoc]
    cases b
    all_goals simp only [jw, Tr.val]
    · refine wc_eq ?_
      refine wc_run (as := [.d (.tup [.str "or", x.toD, y.toD]), .c g.length]) t_truth (by rfl) ?_
      show wc (fin (exs (Pc.run tab _) f_truth.body ⟨_, [.w (.d (.tup [.str "or", x.toD, y.toD])), .w (.c g.length), .no, .no]⟩)) (k := ⟨_⟩)
      unfold f_truth
      walk_at "pc"
      rw [e1]
      walk_at "pp"
      rw [e2]
      walk_at "pp"
    · refine wc_eq ?_
      refine wc_run (as := [.d (.tup [.str "and", x.toD, y.toD]), .c g.length]) t_truth (by rfl) ?_
      show wc (fin (exs (Pc.run tab _) f_truth.body ⟨_, [.w (.d (.tup [.str "and", x.toD, y.toD])), .w (.c g.length), .no, .no]⟩)) (k := ⟨_⟩)
      unfold f_truth
      walk_at "pc"
      rw [e1]
      walk_at "pp"
      rw [e2]
      walk_at "pp"
  | .j3 b x y z, m + 1, g, rest, h, hm => by
    simp only [Tr.dep] at hm
    have e1 : ∀ rest, Pc.run tab (n + (m + 1)) 8 0 [.d x.toD, .c g.length] [] (g ++ [.lst (x.ats.map (fun v => D.bl (f v)) ++ rest)]) = _ := fun rest => truth_ok (n := n) (f := f) hP (t := x) (m := m) (g := g) (rest := rest) h.1 (by omega)
    have e2 : ∀ rest, Pc.run tab (n + (m + 1)) 8 0 [.d y.toD, .c g.length] [] (g ++ [.lst (y.ats.map (fun v => D.bl (f v)) ++ rest)]) = _ := fun rest => truth_ok (n := n) (f := f) hP (t := y) (m := m) (g := g) (rest := rest) h.2.1 (by omega)
    have e3 : ∀ rest, Pc.run tab (n + (m + 1)) 8 0 [.d z.toD, .c g.length] [] (g ++ [.lst (z.ats.map (fun v => D.bl (f v)) ++ rest)]) = _ := fun rest => truth_ok (n := n) (f := f) hP (t := z) (m := m) (g := g) (rest := rest) h.2.2 (by omega)
    simp only [Tr.toD, Tr.ats, List.map_append, List.append_assoc]
    cases b
    all_goals simp only [jw, Tr.val]
    · refine wc_eq ?_
      refine wc_run (as := [.d (.tup [.str "or", x.toD, y.toD, z.toD]), .c g.length]) t_truth (by rfl) ?_
      show wc (fin (exs (Pc.run tab _) f_truth.body ⟨_, [.w (.d (.tup [.str "or", x.toD, y.toD, z.toD])), .w (.c g.length), .no, .no]⟩)) (k := ⟨_⟩)
      unfold f_truth
      walk_at "pc"
      rw [e1]
      walk_at "pp"
      rw [e2]
      walk_at "pp"
      rw [e3]
      walk_at "pp"
    · refine wc_eq ?_
      refine wc_run (as := [.d (.tup [.str "and", x.toD, y.toD, z.toD]), .c g.length]) t_truth (by rfl) ?_
      show wc (fin (exs (Pc.run tab _) f_truth.body ⟨_, [.w (.d (.tup [.str "and", x.toD, y.toD, z.toD])), .w (.c g.length), .no, .no]⟩)) (k := ⟨_⟩)
      unfold f_truth
      walk_at "pc"
      rw [e1]
      walk_at "pp"
      rw [e2]
      walk_at "pp"
      rw [e3]
      walk_at "pp"
  | .nt _, 0, _, _, _, hm => by simp [Tr.dep] at hm
  | .j2 _ _ _, 0, _, _, _, hm => by simp [Tr.dep] at hm
  | .j3 _ _ _ _, 0, _, _, _, hm => by simp [Tr.dep] at hm
end Gk14

set_option Elab.async false
set_option linter.all false
set_option maxRecDepth 100000
set_option maxHeartbeats 4000000
namespace Gk14
open PySem L2 Pc
local macro_rules | `(tactic| walk_at "pc") => `(tactic| simp -implicitDefEqProofs (disch := first | omega | decide))
local macro_rules | `(tactic| walk_at "ps") => `(tactic| first
  | with_reducible refine wq_dt (by omega) ?_ | with_reducible refine wq_df (by omega) ?_ | with_reducible refine wq_d (fun h => ?_) (fun h => ?_)
  | with_reducible refine wq_nt (by omega) ?_ | with_reducible refine wq_nf (by omega) ?_ | with_reducible refine wq_n (fun h => ?_) (fun h => ?_)
  | with_reducible refine wq_cndT (by simp only [Bool.and_eq_true, Bool.or_eq_true, decide_eq_true_eq, Bool.not_eq_true', decide_eq_false_iff_not]; omega) ?_
  | with_reducible refine wq_cndF (by simp only [Bool.and_eq_false_iff, Bool.or_eq_false_iff, decide_eq_true_eq, Bool.not_eq_false', decide_eq_false_iff_not]; omega) ?_
  | (with_reducible refine wq_cnd ?_ ?_ <;> (intro h; try simp only [h])))
local macro_rules | `(tactic| walk_at "pp") => `(tactic| (repeat' (first | walk_at "pc" | walk_at "ps")))
local macro_rules | `(tactic| walk_at "pa") => `(tactic| (repeat' (first | simp -implicitDefEqProofs (disch := first | omega | decide) [*] | walk_at "ps")))

theorem tr_tup {P : D → Prop} (hP : ∀ v, P v → headB v) : ∀ {t : Tr}, t.Ok P → ∃ l, t.toD = .tup l
  | .at v, h => by obtain ⟨w, x, l, rfl, _⟩ := (hP v h).cases; exact ⟨_, rfl⟩
  | .nt t, h => ⟨_, rfl⟩
  | .j2 _ _ _, h => ⟨_, rfl⟩
  | .j3 _ _ _ _, h => ⟨_, rfl⟩
theorem as_in {n : Nat} {F : D → Bool} {S N r0 : D} {z : Sl} {g : List Cl} {l : List D} (hl : l.length ≤ 1000) (hF : ∀ v ∈ l, ∀ g, Pc.run tab (n) 6 0 [.d v, .d S, .d N] [] g = .ok (.d (.bl (F v))) g) :
    (comp (lcT (Pc.run tab n) (.nm 3) .nil (.call 6 0 (.cons (.v 3) (.cons (.v 1) (.cons (.v 2) .nil))) .nil) [3]) l [] ⟨g, [.w (.d r0), .w (.d S), .w (.d N), z]⟩).wp fun acc s' => acc = l.map (fun v => D.bl (F v)) ∧ ∃ z, s' = ⟨g, [.w (.d r0), .w (.d S), .w (.d N), z]⟩ := by
  have h := comp_map (f := lcT (Pc.run tab n) (.nm 3) .nil (.call 6 0 (.cons (.v 3) (.cons (.v 1) (.cons (.v 2) .nil))) .nil) [3]) (l := l) (acc := []) (s := ⟨g, [.w (.d r0), .w (.d S), .w (.d N), z]⟩) (fun s => ∃ z, s = ⟨g, [.w (.d r0), .w (.d S), .w (.d N), z]⟩) id (fun v => D.bl (F v)) (by simp; omega) ⟨_, rfl⟩ ?_
  · simpa using h
  · rintro x hx acc s ⟨z, rfl⟩ hacc
    have e := hF x hx
    refine of_wq ?_
    simp only [id]
    walk_at "pc"
    rw [e]
    walk_at "pp"
    exact hold_i ⟨rfl, _, rfl⟩
theorem holds_ok {n : Nat} {P : D → Prop} (hP : ∀ v, P v → headB v) {F : D → Bool} {t : Tr} (h : t.Ok P) (hd : t.dep ≤ 5) (hl : t.ats.length ≤ 1000) {S N : D} {g : List Cl} (hF : ∀ v, P v → ∀ g, Pc.run tab (n + 12) 6 0 [.d v, .d S, .d N] [] g = .ok (.d (.bl (F v))) g) :
    Pc.run tab (n + 13) 9 0 [.d t.toD, .d S, .d N] [] g = .ok (.d (.bl (t.val F))) (g ++ [.lst []]) := by
  have e1 : ∀ g, Pc.run tab (n + 12) 4 0 [.d t.toD] [] g = .ok (.d (.lst t.ats)) g := fun g => ats_ok (n := n + 6) hP (t := t) (m := 5) (g := g) h hd hl
  have e2 : Pc.run tab (n + 12) 8 0 [.d t.toD, .c g.length] [] (g ++ [.lst (t.ats.map fun v => D.bl (F v))]) = .ok (.d (.bl (t.val F))) (g ++ [.lst []]) := by
    have := truth_ok (n := n + 6) (f := F) hP (t := t) (m := 5) (g := g) (rest := []) h hd
    rw [List.append_nil] at this
    exact this
  obtain ⟨l, hl2⟩ := tr_tup hP h
  refine wc_eq ?_
  refine wc_run (as := [.d t.toD, .d S, .d N]) t_holds (by rfl) ?_
  show wc (fin (exs (Pc.run tab _) f_holds.body ⟨_, [.w (.d t.toD), .w (.d S), .w (.d N), .no]⟩)) (k := ⟨_⟩)
  unfold f_holds
  walk_at "pc"
  rw [hl2]
  walk_at "pc"
  rw [← hl2, e1]
  walk_at "pc"
  refine wq_mono (as_in hl fun v hv => hF v (Tr.ok_ats h v hv)) ?_
  rintro acc s ⟨rfl, z, rfl⟩
  walk_at "pc"
  rw [e2]
  walk_at "pp"
theorem lt_ok {n : Nat} {P : D → Prop} (hP : ∀ v, P v → headB v) {F : D → Bool} {S N : D} (hF : ∀ v, P v → ∀ n g, Pc.run tab (n + 6) 20 0 [.d v, .d S, .d N] [] g = .ok (.d (.bl (F v))) g) : ∀ {t : Tr} {m : Nat} {g : List Cl}, t.Ok P → t.dep ≤ m →
    Pc.run tab (n + m + 7) 21 0 [.d t.toD, .d S, .d N] [] g = .ok (.d (.bl (t.val F))) g
  | .at v, m, g, h, hm => by
    have e := fun g => hF v h (n + m) g
    obtain ⟨w, x, l, rfl, h1, h2, h3⟩ := (hP v h).cases
    have b1 : (Str.ofString "not" == w) = false := beq_eq_false_iff_ne.mpr (Ne.symm h1)
    have b2 : (Str.ofString "and" == w) = false := beq_eq_false_iff_ne.mpr (Ne.symm h2)
    have b3 : (Str.ofString "or" == w) = false := beq_eq_false_iff_ne.mpr (Ne.symm h3)
    simp only [Tr.toD, Tr.val]
    refine wc_eq ?_
    refine wc_run (as := [.d (.tup (.str w :: x :: l)), .d S, .d N]) t__law_truth (by rfl) ?_
    show wc (fin (exs (Pc.run tab _) f__law_truth.body ⟨_, [.w (.d (.tup (.str w :: x :: l))), .w (.d S), .w (.d N), .no, .no]⟩)) (k := ⟨_⟩)
    unfold f__law_truth
    walk_at "pc"
    walk_at "pa"
  | .nt t, m + 1, g, h, hm => by
    have e : ∀ g, Pc.run tab (n + (m + 1) + 6) 21 0 [.d t.toD, .d S, .d N] [] g = .ok (.d (.bl (t.val F))) g := fun g => by
      have := lt_ok (n := n) (F := F) hP hF (t := t) (m := m) (g := g) h (by simp [Tr.dep] at hm; omega)
      rw [show n + m + 7 = n + (m + 1) + 6 by omega] at this
      exact this
    simp only [Tr.toD, Tr.val]
    refine wc_eq ?_
    refine wc_run (as := [.d (.tup [.str "not", t.toD]), .d S, .d N]) t__law_truth (by rfl) ?_
    show wc (fin (exs (Pc.run tab _) f__law_truth.body ⟨_, [.w (.d (.tup [.str "not", t.toD])), .w (.d S), .w (.d N), .no, .no]⟩)) (k := ⟨_⟩)
    unfold f__law_truth
    walk_at "pc"
    rw [e]
    walk_at "pp"
  | .j2 b x y, m + 1, g, h, hm => by
    simp only [Tr.dep] at hm
    have e1 : ∀ g, Pc.run tab (n + (m + 1) + 6) 21 0 [.d x.toD, .d S, .d N] [] g = .ok (.d (.bl (x.val F))) g := fun g => by
      have := lt_ok (n := n) (F := F) hP hF (t := x) (m := m) (g := g) h.1 (by omega)
      rw [show n + m + 7 = n + (m + 1) + 6 by omega] at this
      exact this
    have e2 : ∀ g, Pc.run tab (n + (m + 1) + 6) 21 0 [.d y.toD, .d S, .d N] [] g = .ok (.d (.bl (y.val F))) g := fun g => by
      have := lt_ok (n := n) (F := F) hP hF (t := y) (m := m) (g := g) h.2 (by omega)
      rw [show n + m + 7 = n + (m + 1) + 6 by omega] at this
      exact this
    simp only [Tr.toD]
    cases b
    all_goals simp only [jw, Tr.val]
    · refine wc_eq ?_
      refine wc_run (as := [.d (.tup [.str "or", x.toD, y.toD]), .d S, .d N]) t__law_truth (by rfl) ?_
      show wc (fin (exs (Pc.run tab _) f__law_truth.body ⟨_, [.w (.d (.tup [.str "or", x.toD, y.toD])), .w (.d S), .w (.d N), .no, .no]⟩)) (k := ⟨_⟩)
      unfold f__law_truth
      walk_at "pc"
      rw [e1]
      walk_at "pp"
      rw [e2]
      walk_at "pp"
    · refine wc_eq ?_
      refine wc_run (as := [.d (.tup [.str "and", x.toD, y.toD]), .d S, .d N]) t__law_truth (by rfl) ?_
      show wc (fin (exs (Pc.run tab _) f__law_truth.body ⟨_, [.w (.d (.tup [.str "and", x.toD, y.toD])), .w (.d S), .w (.d N), .no, .no]⟩)) (k := ⟨_⟩)
      unfold f__law_truth
      walk_at "pc"
      rw [e1]
      walk_at "pp"
      rw [e2]
      walk_at "pp"
  | .j3 b x y z, m + 1, g, h, hm => by
    simp only [Tr.dep] at hm
    have e1 : ∀ g, Pc.run tab (n + (m + 1) + 6) 21 0 [.d x.toD, .d S, .d N] [] g = .ok (.d (.bl (x.val F))) g := fun g => by
      have := lt_ok (n := n) (F := F) hP hF (t := x) (m := m) (g := g) h.1 (by omega)
      rw [show n + m + 7 = n + (m + 1) + 6 by omega] at this
      exact this
    have e2 : ∀ g, Pc.run tab (n + (m + 1) + 6) 21 0 [.d y.toD, .d S, .d N] [] g = .ok (.d (.bl (y.val F))) g := fun g => by
      have := lt_ok (n := n) (F := F) hP hF (t := y) (m := m) (g := g) h.2.1 (by omega)
      rw [show n + m + 7 = n + (m + 1) + 6 by omega] at this
      exact this
    have e3 : ∀ g, Pc.run tab (n + (m + 1) + 6) 21 0 [.d z.toD, .d S, .d N] [] g = .ok (.d (.bl (z.val F))) g := fun g => by
      have := lt_ok (n := n) (F := F) hP hF (t := z) (m := m) (g := g) h.2.2 (by omega)
      rw [show n + m + 7 = n + (m + 1) + 6 by omega] at this
      exact this
    simp only [Tr.toD]
    cases b
    all_goals simp only [jw, Tr.val]
    · refine wc_eq ?_
      refine wc_run (as := [.d (.tup [.str "or", x.toD, y.toD, z.toD]), .d S, .d N]) t__law_truth (by rfl) ?_
      show wc (fin (exs (Pc.run tab _) f__law_truth.body ⟨_, [.w (.d (.tup [.str "or", x.toD, y.toD, z.toD])), .w (.d S), .w (.d N), .no, .no]⟩)) (k := ⟨_⟩)
      unfold f__law_truth
      walk_at "pc"
      rw [e1]
      walk_at "pp"
      rw [e2]
      walk_at "pp"
      rw [e3]
      walk_at "pp"
    · refine wc_eq ?_
      refine wc_run (as := [.d (.tup [.str "and", x.toD, y.toD, z.toD]), .d S, .d N]) t__law_truth (by rfl) ?_
      show wc (fin (exs (Pc.run tab _) f__law_truth.body ⟨_, [.w (.d (.tup [.str "and", x.toD, y.toD, z.toD])), .w (.d S), .w (.d N), .no, .no]⟩)) (k := ⟨_⟩)
      unfold f__law_truth
      walk_at "pc"
      rw [e1]
      walk_at "pp"
      rw [e2]
      walk_at "pp"
      rw [e3]
      walk_at "pp"
  | .nt _, 0, _, _, hm => by simp [Tr.dep] at hm
  | .j2 _ _ _, 0, _, _, hm => by simp [Tr.dep] at hm
  | .j3 _ _ _ _, 0, _, _, hm => by simp [Tr.dep] at hm
end Gk14

set_option Elab.async false
set_option linter.all false
set_option maxRecDepth 100000
set_option maxHeartbeats 4000000
namespace Gk14
open PySem L2 Pc
local macro_rules | `(tactic| walk_at "pc") => `(tactic| simp -implicitDefEqProofs (disch := first | omega | decide))
local macro_rules | `(tactic| walk_at "ps") => `(tactic| first
  | with_reducible refine wq_dt (by omega) ?_ | with_reducible refine wq_df (by omega) ?_ | with_reducible refine wq_d (fun h => ?_) (fun h => ?_)
  | with_reducible refine wq_nt (by omega) ?_ | with_reducible refine wq_nf (by omega) ?_ | with_reducible refine wq_n (fun h => ?_) (fun h => ?_)
  | with_reducible refine wq_cndT (by simp only [Bool.and_eq_true, Bool.or_eq_true, decide_eq_true_eq, Bool.not_eq_true', decide_eq_false_iff_not]; omega) ?_
  | with_reducible refine wq_cndF (by simp only [Bool.and_eq_false_iff, Bool.or_eq_false_iff, decide_eq_true_eq, Bool.not_eq_false', decide_eq_false_iff_not]; omega) ?_
  | (with_reducible refine wq_cnd ?_ ?_ <;> (intro h; try simp only [h])))
local macro_rules | `(tactic| walk_at "pp") => `(tactic| (repeat' (first | walk_at "pc" | walk_at "ps")))
local macro_rules | `(tactic| walk_at "pa") => `(tactic| (repeat' (first | simp -implicitDefEqProofs (disch := first | omega | decide) [*] | walk_at "ps")))

theorem atom_dr {ex : List Cl} {k n : Nat} (hk : k ≤ 3) {S b : List D} (hb : BagOk b) : (Pc.run tab (n + 7) 25 0 [.c 1, .d (.int k)] [] (GB S b ex)).wp fun w g => ∃ v b', w = .d v ∧ Atm k v ∧ BagOk b' ∧ g = GB S b' ex := by
  refine of_wc ?_
  refine wc_run (as := [.c 1, .d (.int k)]) t__law_one_atom (by rfl) ?_
  show wc (fin (exs (Pc.run tab _) f__law_one_atom.body ⟨_, [.w (.c 1), .w (.d (.int k)), .no]⟩)) (k := ⟨_⟩)
  unfold f__law_one_atom
  walk_at "pc"
  refine wq_cb (an (n := n + 4) hb (by simp) (by simp)) ?_
  rintro w g ⟨w0, b, hw, rfl, hb, rfl⟩
  walk_at "pp"
  simp only [List.mem_cons, List.mem_nil_iff, or_false] at hw
  rcases hw with rfl | rfl | rfl | rfl | rfl | rfl
  · walk_at "pp"
    refine wq_cb (term_dr (n := n) hk hb) ?_
    rintro w g ⟨t, b, rfl, ht, hb, rfl⟩
    walk_at "pp"
    exact hold_i ⟨_, _, rfl, .one t ht, hb, rfl⟩
  · walk_at "pp"
    refine wq_cb (term_dr (n := n) hk hb) ?_
    rintro w g ⟨t, b, rfl, ht, hb, rfl⟩
    walk_at "pp"
    exact hold_i ⟨_, _, rfl, .free t ht, hb, rfl⟩
  · walk_at "pp"
    refine wq_cb (plain_dr hk (d := 1) (n := n + 2) hb) ?_
    rintro w g ⟨x, b, rfl, hx, hb, rfl⟩
    walk_at "pp"
    refine wq_cb (plain_dr hk (d := 1) (n := n + 2) hb) ?_
    rintro w g ⟨y, b, rfl, hy, hb, rfl⟩
    walk_at "pp"
    exact hold_i ⟨_, _, rfl, .two _ x y (.inl rfl) hx hy, hb, rfl⟩
  · walk_at "pp"
    refine wq_cb (plain_dr hk (d := 1) (n := n + 2) hb) ?_
    rintro w g ⟨x, b, rfl, hx, hb, rfl⟩
    walk_at "pp"
    refine wq_cb (plain_dr hk (d := 1) (n := n + 2) hb) ?_
    rintro w g ⟨y, b, rfl, hy, hb, rfl⟩
    walk_at "pp"
    exact hold_i ⟨_, _, rfl, .two _ x y (.inr (.inl rfl)) hx hy, hb, rfl⟩
  · walk_at "pp"
    refine wq_cb (plain_dr hk (d := 1) (n := n + 2) hb) ?_
    rintro w g ⟨x, b, rfl, hx, hb, rfl⟩
    walk_at "pp"
    refine wq_cb (plain_dr hk (d := 1) (n := n + 2) hb) ?_
    rintro w g ⟨y, b, rfl, hy, hb, rfl⟩
    walk_at "pp"
    exact hold_i ⟨_, _, rfl, .two _ x y (.inr (.inr rfl)) hx hy, hb, rfl⟩
  · walk_at "pp"
    · refine wq_cb (anS (z := cutS (Str.ofString "abc") none (some (k : Int))) hb (abc_len hk (by omega)).1 (abc_len hk (by omega)).2) ?_
      rintro w g ⟨c, b, hc, rfl, hb, rfl⟩
      walk_at "pp"
      refine hold_i ⟨_, _, rfl, .uni _ ?_, hb, rfl⟩
      simp only [letterB, inS_one]
      simp [hc]
      rfl
    · refine wq_cb (term_dr (n := n) hk hb) ?_
      rintro w g ⟨t, b, rfl, ht, hb, rfl⟩
      walk_at "pp"
      exact hold_i ⟨_, _, rfl, .free t ht, hb, rfl⟩
theorem test_dr {ex : List Cl} {k : Nat} (hk : k ≤ 3) {S : List D} : ∀ {d n a : Nat} {b : List D} (h1 : 1 ≤ a) (h2 : a ≤ 4) (hb : BagOk b), (Pc.run tab (n + d + 8) 26 0 [.c 1, .d (.int k), .d (.int a), .d (.int (d + 1 : Nat))] [] (GB S b ex)).wp fun w g =>
    ∃ (t : Tr) (b' : List D), w = .d t.toD ∧ t.Ok (Atm k) ∧ t.dep ≤ d + 1 ∧ t.ats.length ≤ a ∧ BagOk b' ∧ g = GB S b' ex
  | 0, n, a, b, h1, h2, hb => by
    refine of_wc ?_
    refine wc_run (as := [.c 1, .d (.int k), .d (.int a), .d (.int (0 + 1 : Nat))]) t__law_test (by rfl) ?_
    show wc (fin (exs (Pc.run tab _) f__law_test.body ⟨_, [.w (.c 1), .w (.d (.int k)), .w (.d (.int a)), .w (.d (.int (0 + 1 : Nat))), .no, .no, .no]⟩)) (k := ⟨_⟩)
    unfold f__law_test
    walk_at "pc"
    refine wq_cb (dr hb (by decide) (by decide)) ?_
    rintro w g ⟨x, b, rfl, h3, h4, hb, rfl⟩
    walk_at "pp"
    refine wq_cb (atom_dr (n := n) hk hb) ?_
    rintro w g ⟨v, b, rfl, hv, hb, rfl⟩
    walk_at "pp"
    exact hold_i ⟨.at v, _, rfl, hv, Nat.le_refl _, by simp [Tr.ats]; omega, hb, rfl⟩
  | d + 1, n, a, b, h1, h2, hb => by
    refine of_wc ?_
    refine wc_run (as := [.c 1, .d (.int k), .d (.int a), .d (.int (d + 1 + 1 : Nat))]) t__law_test (by rfl) ?_
    show wc (fin (exs (Pc.run tab _) f__law_test.body ⟨_, [.w (.c 1), .w (.d (.int k)), .w (.d (.int a)), .w (.d (.int (d + 1 + 1 : Nat))), .no, .no, .no]⟩)) (k := ⟨_⟩)
    unfold f__law_test
    walk_at "pc"
    refine wq_cb (dr hb (by decide) (by decide)) ?_
    rintro w g ⟨x, b, rfl, h3, h4, hb, rfl⟩
    by_cases c1 : x < 2
    · walk_at "pp"
      refine wq_cb (atom_dr (n := n + d + 1) hk hb) ?_
      rintro w g ⟨v, b, rfl, hv, hb, rfl⟩
      walk_at "pp"
      exact hold_i ⟨.at v, _, rfl, hv, by simp [Tr.dep], by simp [Tr.ats]; omega, hb, rfl⟩
    · have rec' : ∀ (a : Nat) (b : List D), 1 ≤ a → a ≤ 4 → BagOk b → (Pc.run tab (n + (d + 1) + 7) 26 0 [.c 1, .d (.int k), .d (.int a), .d (.int ((d : Int) + 1))] [] (GB S b ex)).wp fun w g =>
          ∃ (t : Tr) (b' : List D), w = .d t.toD ∧ t.Ok (Atm k) ∧ t.dep ≤ d + 1 ∧ t.ats.length ≤ a ∧ BagOk b' ∧ g = GB S b' ex := fun a b h1 h2 hb => test_dr hk (d := d) (n := n) h1 h2 hb
      walk_at "pp"
      · refine wq_cb (an (n := n + d + 6) hb (by simp) (by simp)) ?_
        rintro w g ⟨w0, b, hw, rfl, hb, rfl⟩
        obtain ⟨j, rfl⟩ : ∃ j, w0 = .str (jw j) := by
          simp only [List.mem_cons, List.mem_nil_iff, or_false] at hw
          rcases hw with rfl | rfl
          · exact ⟨true, rfl⟩
          · exact ⟨false, rfl⟩
        by_cases c3 : a > 2 ∧ x = 3
        · obtain ⟨c3, c4⟩ := c3
          subst c4
          obtain ⟨e, rfl⟩ : ∃ e : Nat, a = e + 2 := ⟨a - 2, by omega⟩
          walk_at "pp"
          refine wq_cb (atom_dr (n := n + d + 1) hk hb) ?_
          rintro w g ⟨v1, b, rfl, hv1, hb, rfl⟩
          walk_at "pp"
          refine wq_cb (atom_dr (n := n + d + 1) hk hb) ?_
          rintro w g ⟨v2, b, rfl, hv2, hb, rfl⟩
          walk_at "pp"
          refine wq_cb (rec' e _ (by omega) (by omega) hb) ?_
          rintro w g ⟨t, b, rfl, t1, t2, t3, hb, rfl⟩
          walk_at "pp"
          exact hold_i ⟨.j3 j (.at v1) (.at v2) t, _, rfl, ⟨hv1, hv2, t1⟩, by simp only [Tr.dep]; omega, by simp [Tr.ats]; omega, hb, rfl⟩
        · have c5 : (a : Int) > 2 → x ≠ 3 := fun q e => c3 ⟨by omega, e⟩
          obtain ⟨p, q, rfl, hp, hq⟩ : ∃ p q : Nat, a = p + q ∧ p = a / 2 ∧ 1 ≤ q := ⟨a / 2, a - a / 2, by omega, rfl, by omega⟩
          have e1 : ((p + q : Nat) : Int) / 2 = (p : Int) := by omega
          have e2 : ((p + q : Nat) : Int) - (p : Int) = (q : Int) := by omega
          have e3 : ((p : Int) + (q : Int)) / 2 = (p : Int) := by omega
          have e4 : ((p : Int) + (q : Int)) - (p : Int) = (q : Int) := by omega
          walk_at "pp"
          all_goals first | (exfalso; omega) | skip
          all_goals
            try rw [e1]
            try rw [e3]
            refine wq_cb (rec' p _ (by omega) (by omega) hb) ?_
            rintro w g ⟨t, b, rfl, t1, t2, t3, hb, rfl⟩
            walk_at "pp"
            try rw [e1]
            try rw [e3]
            try rw [e2]
            try rw [e4]
            refine wq_cb (rec' q _ (by omega) (by omega) hb) ?_
            rintro w g ⟨u, b, rfl, u1, u2, u3, hb, rfl⟩
            walk_at "pp"
            exact hold_i ⟨.j2 j t u, _, rfl, ⟨t1, u1⟩, by simp only [Tr.dep]; omega, by simp [Tr.ats]; omega, hb, rfl⟩
      all_goals
        refine wq_cb (rec' a _ (by omega) (by omega) hb) ?_
        rintro w g ⟨t, b, rfl, t1, t2, t3, hb, rfl⟩
        walk_at "pp"
        exact hold_i ⟨.nt t, _, rfl, t1, by simp only [Tr.dep]; omega, t3, hb, rfl⟩
end Gk14

set_option Elab.async false
set_option linter.all false
set_option maxRecDepth 100000
set_option maxHeartbeats 4000000
namespace Gk14
open PySem L2 Pc
local macro_rules | `(tactic| walk_at "pc") => `(tactic| simp -implicitDefEqProofs (disch := first | omega | decide))
local macro_rules | `(tactic| walk_at "ps") => `(tactic| first
  | with_reducible refine wq_dt (by omega) ?_ | with_reducible refine wq_df (by omega) ?_ | with_reducible refine wq_d (fun h => ?_) (fun h => ?_)
  | with_reducible refine wq_nt (by omega) ?_ | with_reducible refine wq_nf (by omega) ?_ | with_reducible refine wq_n (fun h => ?_) (fun h => ?_)
  | with_reducible refine wq_cndT (by simp only [Bool.and_eq_true, Bool.or_eq_true, decide_eq_true_eq, Bool.not_eq_true', decide_eq_false_iff_not]; omega) ?_
  | with_reducible refine wq_cndF (by simp only [Bool.and_eq_false_iff, Bool.or_eq_false_iff, decide_eq_true_eq, Bool.not_eq_false', decide_eq_false_iff_not]; omega) ?_
  | (with_reducible refine wq_cnd ?_ ?_ <;> (intro h; try simp only [h])))
local macro_rules | `(tactic| walk_at "pp") => `(tactic| (repeat' (first | walk_at "pc" | walk_at "ps")))
local macro_rules | `(tactic| walk_at "pa") => `(tactic| (repeat' (first | simp -implicitDefEqProofs (disch := first | omega | decide) [*] | walk_at "ps")))

/-- sources drawn: letters ahead -/
def HdOk (l : List D) : Prop := ∀ i, i < l.length → ∃ z, l[i]? = some (.str z) ∧ earlyB i (.str z) = true
theorem heads_dr {ex : List Cl} {n : Nat} {S b : List D} (hb : BagOk b) : (Pc.run tab (n + 3) 22 0 [.c 1, .d (.int 3)] [] (GB S b ex)).wp fun w g => ∃ l b', w = .d (.tup l) ∧ l.length ≤ 3 ∧ HdOk l ∧ BagOk b' ∧ g = GB S b' ex := by
  refine of_wc ?_
  refine wc_run (as := [.c 1, .d (.int 3)]) t__law_heads (by rfl) ?_
  show wc (fin (exs (Pc.run tab _) f__law_heads.body ⟨_, [.w (.c 1), .w (.d (.int 3)), .no, .no]⟩)) (k := ⟨_⟩)
  unfold f__law_heads
  walk_at "pc"
  refine wq_cb (dr hb (by decide) (by decide)) ?_
  rintro w g ⟨x, b, rfl, h1, h2, hb, rfl⟩
  walk_at "pp"
  refine wq_mono (for_ix (fun i s => ∃ acc b y, s = ⟨GB S b ex, [.w (.c 1), .w (.d (.int 3)), .w (.d (.tup acc)), y]⟩ ∧ BagOk b ∧ acc.length = i ∧ HdOk acc)
    ⟨[], b, _, rfl, hb, rfl, fun i hi => by simp at hi⟩ ?_) ?_
  · rintro i y s hy ⟨acc, b, z, rfl, hb, hl, hd⟩
    rw [List.getElem?_map] at hy
    obtain ⟨j, hj, rfl⟩ := Option.map_eq_some_iff.mp hy
    obtain ⟨h3, h4⟩ := List.getElem?_eq_some_iff.mp hj
    simp at h3 h4
    subst h4
    refine of_wq ?_
    walk_at "pp"
    refine wq_cb (anS (z := lets i) hb (lets_len (by omega)).1 (lets_len (by omega)).2) ?_
    rintro w g ⟨c, b, hc, rfl, hb, rfl⟩
    walk_at "pp"
    refine hold_i ⟨.inl rfl, _, _, _, rfl, hb, by simp [hl], fun j hj => ?_⟩
    simp at hj
    by_cases h : j < acc.length
    · obtain ⟨z, q1, q2⟩ := hd j h
      exact ⟨z, by rw [List.getElem?_append_left h]; exact q1, q2⟩
    · have : j = i := by omega
      subst this
      exact ⟨⟨#[c]⟩, by rw [List.getElem?_append_right (by omega), hl]; simp, lets_early hc⟩
  · rintro c s ⟨rfl, acc, b, z, rfl, hb, hl, hd⟩
    walk_at "pp"
    refine hold_i ⟨_, _, rfl, ?_, hd, hb, rfl⟩
    simp at hl
    omega
theorem sameb {n : Nat} {g : List Cl} {a : Bool} : Pc.run tab (n + 1) 13 0 [.d (.bl a), .d (.bl a)] [] g = .ok (.d (.bl true)) g :=
  same (by simp [D.sh]) (by simp [D.sz]) (by simp [D.dp])
theorem sameb2 {n : Nat} {g : List Cl} {a : Bool} : Pc.run tab (n + 1) 13 0 [.d (.lst [.bl a, .bl a]), .d (.lst [.bl a, .bl a])] [] g = .ok (.d (.bl true)) g :=
  same (by simp [D.sh, D.shs]) (by simp [D.sz, D.szs]) (by simp [D.dp, D.dps])
theorem holds_kw {n : Nat} {a b c : D} {g : List Cl} : Pc.run tab (n + 1) 9 1 [] [.d a, .d b, .d c] g = Pc.run tab (n + 1) 9 0 [.d b, .d c, .d a] [] g := rfl
theorem holds_no {n : Nat} {a b : D} {g : List Cl} : Pc.run tab (n + 1) 9 0 [.d .non, .d a, .d b] [] g = .ok (.d (.bl true)) g := by
  refine wc_eq ?_
  refine wc_run (as := [.d .non, .d a, .d b]) t_holds (by rfl) ?_
  show wc (fin (exs (Pc.run tab _) f_holds.body ⟨_, [.w (.d .non), .w (.d a), .w (.d b), .no]⟩)) (k := ⟨_⟩)
  unfold f_holds
  walk_at "pc"
theorem law_ok {ns : List Int} : (fin (exs (Pc.run tab 19) f_law.body ⟨[.fz (ns.map D.int)], startR f_law [.c 0]⟩)).wp fun w g => w = .d (.bl true) := by
  refine of_wc ?_
  show wc (fin (exs (Pc.run tab 19) f_law.body ⟨[.fz (ns.map D.int)], [.w (.c 0), .no, .no, .no, .no, .no, .no, .no, .no, .no, .no]⟩)) (k := ⟨_⟩)
  unfold f_law
  walk_at "pc"
  refine wq_cb (bag_wp (n := 18) t__law_bag isb) ?_
  rintro w g ⟨rfl, b, hb, rfl⟩
  walk_at "pp"
  refine wq_mono (for_inv (fun _ s => ∃ b ex x2 x3 x4 x5 x6 x7 x8 x9 x10, s = ⟨GB (ns.map D.int) b ex, [.w (.c 0), .w (.c 1), x2, x3, x4, x5, x6, x7, x8, x9, x10]⟩ ∧ BagOk b)
    ⟨b, [], _, _, _, _, _, _, _, _, _, rfl, hb⟩ ?_) ?_
  · rintro y l s ⟨b, ex, x2, x3, x4, x5, x6, x7, x8, x9, x10, rfl, hb⟩
    refine of_wq ?_
    walk_at "pp"
    refine wq_cb (heads_dr (n := 16) hb) ?_
    rintro w g ⟨hs, b, rfl, hl, hd, hb, rfl⟩
    walk_at "pp"
    refine wq_cb (dr (n := 18) hb (by decide) (by decide)) ?_
    rintro w g ⟨m0, b, rfl, h1, h2, hb, rfl⟩
    walk_at "pp"
    refine wq_cb (an (n := 17) hb (by simp) (by simp)) ?_
    rintro w g ⟨m1, b, hm, rfl, hb, rfl⟩
    obtain ⟨m, rfl, m1, m2⟩ : ∃ m : Nat, m1 = .int m ∧ 1 ≤ m ∧ m ≤ 72 := by
      simp only [List.mem_cons, List.mem_nil_iff, or_false] at hm
      rcases hm with rfl | rfl | rfl | rfl | rfl | rfl | rfl
      · exact ⟨1, rfl, by decide, by decide⟩
      · exact ⟨2, rfl, by decide, by decide⟩
      · exact ⟨12, rfl, by decide, by decide⟩
      · exact ⟨72, rfl, by decide, by decide⟩
      · exact ⟨30, rfl, by decide, by decide⟩
      · exact ⟨16, rfl, by decide, by decide⟩
      · exact ⟨(1 + m0).toNat, by congr 1; omega, by omega, by omega⟩
    walk_at "pp"
    refine wq_mono (for_ix (fun i s => ∃ nums b x2 x6 x7 x8 x9 x10, s = ⟨GB (ns.map D.int) b ex, [.w (.c 0), .w (.c 1), x2, .w (.d (.tup hs)), .w (.d (.int m)), .w (.d (.tup (nD nums))), x6, x7, x8, x9, x10]⟩ ∧ BagOk b ∧ NOk m i nums ∧
        ∀ j, j < i → ∃ z, hs[j]? = some (.str z) ∧ earlyB j (.str z) = true ∧ nums.getD (j + 1) 0 ∣ nums.getD (spotN (.str z)) 0)
      ⟨[m], b, _, _, _, _, _, _, rfl, hb, ⟨m1, m2, rfl, by simp; exact m1⟩, fun i hi => by omega⟩ ?_) ?_
    · rintro i y s hy ⟨nums, b, x2, x6, x7, x8, x9, x10, rfl, hb, N, H⟩
      have hi := (List.getElem?_eq_some_iff.mp hy).1
      obtain ⟨z, hz, he⟩ := hd i hi
      rw [hz] at hy
      cases hy
      have e := fun g => spot_ok' (n := 18) (k := i) (by omega) he (g := g)
      have hs' := spot_lt (k := i) (by omega) he
      obtain ⟨p1, p2⟩ := nget N hs'
      have e2 := s_tgetN (l := nums) (i := (spotN (.str z) : Nat)) (by omega) (by rw [N.len]; omega)
      rw [Int.toNat_natCast] at e2
      have p3 := le72 m1 m2 p2
      have e3 := fun g => divs_ok (n := 18) p1 p3 (g := g)
      have hlen := N.len
      generalize hP : nums.getD (spotN (.str z)) 0 = P at p1 p2 p3 e2 e3
      refine of_wq ?_
      walk_at "pc"
      rw [e]
      walk_at "pc"
      rw [e2]
      walk_at "pc"
      rw [e3]
      walk_at "pc"
      refine wq_cb (an (n := 17) hb (by simpa using dvs_ne p1) (by have := dvs_len (x := P); simp; omega)) ?_
      rintro w g ⟨v, b, hv, rfl, hb, rfl⟩
      obtain ⟨q, hq, rfl⟩ := List.mem_map.mp hv
      obtain ⟨q1, q2⟩ := dvs_mem hq
      walk_at "pp"
      have app : ∀ j, j ≤ i → (nums ++ [q]).getD j 0 = nums.getD j 0 := fun j hj => by
        rw [List.getD_eq_getElem?_getD, List.getD_eq_getElem?_getD, List.getElem?_append_left (by omega)]
      have app2 : (nums ++ [q]).getD (i + 1) 0 = q := by
        rw [List.getD_eq_getElem?_getD, List.getElem?_append_right (by omega), N.len]; simp
      refine hold_i ⟨.inl rfl, nums ++ [q], b, x2, .w (.d (.str z)), x7, x8, x9, x10, by simp [nD], hb, ⟨m1, m2, by simp [hlen], ?_⟩, ?_⟩
      · intro x hx
        rcases List.mem_append.mp hx with h | h
        · exact N.dv x h
        · simp at h
          subst h
          exact ⟨q1, Nat.dvd_trans q2 p2⟩
      · intro j hj
        by_cases h : j < i
        · obtain ⟨z', a1, a2, a3⟩ := H j h
          have := spot_lt (k := j) (by omega) a2
          exact ⟨z', a1, a2, by rw [app _ (by omega), app _ (by omega)]; exact a3⟩
        · have : j = i := by omega
          subst this
          exact ⟨z, hz, he, by rw [app2, app _ hs', hP]; exact q2⟩
    · rintro c s ⟨rfl, nums, b, x2, x6, x7, x8, x9, x10, rfl, hb, N, H⟩
      have HH : HOk hs.length hs nums := ⟨rfl, H⟩
      obtain ⟨F, hF⟩ := Classical.axiomOfChoice (r := fun (v : D) (B : Bool) => Atm hs.length v → ∀ n g, Pc.run tab (n + 6) 6 0 [.d v, .d (.tup hs), .d (.tup (nD nums))] [] g = .ok (.d (.bl B)) g ∧ Pc.run tab (n + 6) 20 0 [.d v, .d (.tup hs), .d (.tup (nD nums))] [] g = .ok (.d (.bl B)) g) fun v => by
        by_cases hv : Atm hs.length v
        · obtain ⟨B, hB⟩ := atom_ok hl N HH hv
          exact ⟨B, fun _ => hB⟩
        · exact ⟨true, fun z => absurd z hv⟩
      have hP : ∀ v, Atm hs.length v → headB v := fun v hv => hv.head
      walk_at "pp"
      refine wq_mono (for_inv (fun _ s => ∃ b ex x2 x6 x7 x8 x9 x10, s = ⟨GB (ns.map D.int) b ex, [.w (.c 0), .w (.c 1), x2, .w (.d (.tup hs)), .w (.d (.int m)), .w (.d (.tup (nD nums))), x6, x7, x8, x9, x10]⟩ ∧ BagOk b)
        ⟨b, ex, _, _, _, _, _, _, rfl, hb⟩ ?_) ?_
      · rintro y l s ⟨b, ex, x2, x6, x7, x8, x9, x10, rfl, hb⟩
        refine of_wq ?_
        walk_at "pp"
        refine wq_cb (dr (n := 18) hb (by decide) (by decide)) ?_
        rintro w g ⟨d, b, rfl, d1, d2, hb, rfl⟩
        obtain ⟨a, rfl⟩ : ∃ a : Nat, d = (a : Int) := ⟨d.toNat, by omega⟩
        walk_at "pp"
        have e1 : (1 : Int) + (a : Int) = ((a + 1 : Nat) : Int) := by omega
        rw [e1]
        refine wq_cb (test_dr (k := hs.length) (d := 3) (n := 8) (a := a + 1) hl (by omega) (by omega) hb) ?_
        rintro w g ⟨t, b, rfl, t1, t2, t3, hb, rfl⟩
        have l1 := fun g => lt_ok (n := 8) (F := F) hP (S := .tup hs) (N := .tup (nD nums)) (fun v hv n g => (hF v hv n g).2) (t := t) (m := 4) (g := g) t1 t2
        have h1 := fun g => holds_ok (n := 6) hP (F := F) (t := t) t1 (by omega) (by omega) (S := .tup hs) (N := .tup (nD nums)) (g := g) (fun v hv g => (hF v hv 12 g).1)
        have h2 := fun g => holds_ok (n := 6) hP (F := F) (t := .nt t) t1 (by simp only [Tr.dep]; omega) (by simp only [Tr.ats]; omega) (S := .tup hs) (N := .tup (nD nums)) (g := g) (fun v hv g => (hF v hv 12 g).1)
        simp only [Tr.toD, Tr.val] at h2
        walk_at "pp"
        rw [l1]
        walk_at "pp"
        rw [h1]
        walk_at "pp"
        rw [holds_kw, h1]
        walk_at "pp"
        rw [sameb2]
        walk_at "pp"
        rw [h2]
        walk_at "pp"
        rw [sameb]
        walk_at "pp"
        exact hold_i ⟨.inl rfl, _, _, _, _, _, _, _, _, rfl, hb⟩
      · rintro c s ⟨rfl, b, ex, x2, x6, x7, x8, x9, x10, rfl, hb⟩
        walk_at "pp"
        rw [holds_no]
        walk_at "pp"
        exact hold_i ⟨.inl rfl, _, _, _, _, _, _, _, _, _, _, _, rfl, hb⟩
  · rintro c s ⟨rfl, b, ex, x2, x3, x4, x5, x6, x7, x8, x9, x10, rfl, hb⟩
    have q1 : ∀ g, Pc.run tab (18) 6 0 [.d (.tup [.str "unitary", .str "a"]), .d (.tup [.str "n"]), .d (.tup [.int 12, .int 4])] [] g = .ok (.d (.bl true)) g := fun g => by kernel_rfl
    have q2 : ∀ g, Pc.run tab (18) 6 0 [.d (.tup [.str "unitary", .str "a"]), .d (.tup [.str "n"]), .d (.tup [.int 12, .int 2])] [] g = .ok (.d (.bl false)) g := fun g => by kernel_rfl
    have q3 : ∀ g, Pc.run tab (18) 6 0 [.d (.tup [.str "divides", .str "n", .str "a"]), .d (.tup [.str "n"]), .d (.tup [.int 6, .int 6])] [] g = .ok (.d (.bl true)) g := fun g => by kernel_rfl
    have c1 : ∀ g, Pc.run tab (19) 9 0 [.d (.tup [.str "unitary", .str "a"]), .d (.tup [.str "n"]), .d (.tup [.int 12, .int 4])] [] g = .ok (.d (.bl true)) (g ++ [.lst []]) := fun g => holds_ok (n := 6) (P := fun v => v = .tup [.str "unitary", .str "a"]) (fun v hv => by subst hv; refine ⟨?_, ?_, ?_⟩ <;> decide) (F := fun _ => true) (t := .at (.tup [.str "unitary", .str "a"])) rfl (by decide) (by decide) (fun v hv g => by subst hv; exact q1 g)
    have c2 : ∀ g, Pc.run tab (19) 9 0 [.d (.tup [.str "unitary", .str "a"]), .d (.tup [.str "n"]), .d (.tup [.int 12, .int 2])] [] g = .ok (.d (.bl false)) (g ++ [.lst []]) := fun g => holds_ok (n := 6) (P := fun v => v = .tup [.str "unitary", .str "a"]) (fun v hv => by subst hv; refine ⟨?_, ?_, ?_⟩ <;> decide) (F := fun _ => false) (t := .at (.tup [.str "unitary", .str "a"])) rfl (by decide) (by decide) (fun v hv g => by subst hv; exact q2 g)
    have c3 : ∀ g, Pc.run tab (19) 9 0 [.d (.tup [.str "divides", .str "n", .str "a"]), .d (.tup [.str "n"]), .d (.tup [.int 6, .int 6])] [] g = .ok (.d (.bl true)) (g ++ [.lst []]) := fun g => holds_ok (n := 6) (P := fun v => v = .tup [.str "divides", .str "n", .str "a"]) (fun v hv => by subst hv; refine ⟨?_, ?_, ?_⟩ <;> decide) (F := fun _ => true) (t := .at (.tup [.str "divides", .str "n", .str "a"])) rfl (by decide) (by decide) (fun v hv g => by subst hv; exact q3 g)
    have c4 : ∀ g, Pc.run tab (19) 13 0 [.d (.lst [.bl true, .bl false, .bl true]), .d (.lst [.bl true, .bl false, .bl true])] [] g = .ok (.d (.bl true)) g := fun g => same (n := 18) (by decide +kernel) (by decide +kernel) (by decide +kernel)
    walk_at "pp"
    rw [c1]
    walk_at "pp"
    rw [c2]
    walk_at "pp"
    rw [c3]
    walk_at "pp"
    rw [c4]
    walk_at "pp"
    exact hold_i rfl
end Gk14

set_option Elab.async false
set_option linter.all false
set_option maxRecDepth 100000
set_option maxHeartbeats 0
namespace Gk14
open PySem L2 Pc
theorem law_true (ns : List Int) (h : ns.length ≤ 63) : ∃ g', bodyN tb.tab 20 f_law [.c 0] [.fz (ns.map D.int)] = .ok (.d (.bl true)) g' := by
  have h1 : bodyN tb.tab 20 f_law [.c 0] [.fz (ns.map D.int)] = fin (exs (Pc.run tab 19) f_law.body ⟨[.fz (ns.map D.int)], startR f_law [.c 0]⟩) := runB_fin
  rw [h1]
  obtain ⟨w, g, e, rfl⟩ := wp_eq (law_ok (ns := ns))
  exact ⟨g, e⟩
end Gk14
open PySem PySem.W PySem.Calls PyProof.Rows
theorem PySem.Challenge.cw_partloops_k14_conditions_hold_holds : PySem.Challenge.rw_partloops_k14_conditions_hold.Holds := by
  w_on; o_law
  refine HandSHeadRun.head_any (r := OpenLaw.row PySem.Challenge.rw_partloops_k14_conditions_hold) (q := view (OpenLaw.row PySem.Challenge.rw_partloops_k14_conditions_hold).prog [33]) (H := Gk14.hk) (ob := Gk14.ob) (M := 4000) (loose := Gk14.loose) (d := HandSHeadRun.topDef (OpenLaw.row PySem.Challenge.rw_partloops_k14_conditions_hold).prog 33) (kwd := []) Gk14.ob_eq
    (by kernel_rfl) (fun s => by kernel_rfl) Gk14.run (by kernel_rfl) (by kernel_rfl) (by kernel_rfl) (by rfl) (by first | assumption | decide +kernel) (by decide +kernel) ⟨rfl, rfl, rfl, rfl, rfl, by decide +kernel⟩ ?hw ?hc
  case hw => w_witness2
  case hc =>
    refine Pc.walk_G (l := PySem.Challenge.rw_partloops_k14_conditions_hold) (n := 63) (m := 20) (x := "_law_script") (fd := Gk14.f_law) rfl (by decide) (by kernel_rfl) ⟨⟨rfl, by decide, by decide⟩, rfl⟩ ?F
    intro w mg fa h Y G hmg0
    obtain ⟨K, KX, c⟩ := Y
    have hmg : mg ("law" : PySem.Str) = some (.ref fa) := by
      have e : (HandSHeadRun.topDef (OpenLaw.row PySem.Challenge.rw_partloops_k14_conditions_hold).prog 33).name = ("law" : PySem.Str) := by kernel_rfl
      rw [← e]
      exact hmg0
    exact ⟨K, Gk14.tb, KX, c.l, rfl, rfl, List.Mem.head _, hmg, Gk14.law_true, fun base b1 b2 => Gk14.stands b1 b2 c 20 _ (by simp [Gk14.tb, Pc.mkT, Gk14.tab])⟩

