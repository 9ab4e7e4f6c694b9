import PyProof.Rows.All
import Wide.All
import OpenK.AllK
import Wide.FinOn
import HandS.ForMost
import HandS.ForExc
import HandS.Star
import HandS.Deep
import HandS.FStr
import HandS.IsInst
import HandS.TupAny
import HandS.Wide
import HandS.Flow
import HandS.Style
import HandS.Conv
import HandS.Zip
import HandS.Replace
import HandS.Defaults
import HandS.TupMul
import HandS.HeadHook1
import KE.KExcSuper
import KE.KExcInit
import HandS.ExcInit
import HandS.ExcField
import HandS.ExcOwn
import HandS.ExcIs
import KE.KExcIs
import HandS.Property
import HandS.HeadHook2
import HandS.ClsMeth
import HandS.TupLe
import HandS.Small
import HandS.CallRecv
import KE.GoesMore
import KE.GoesEnum
import KE.KOpsOwn
import HandS.MakeKw
import HandS.More
import HandS.SlotsOwn
import PyProof.Rows.Range3
import PyProof.FactsAll.int_3
import HandS.Dict
import KE.KSuper
import KE.KStateDown
import Lean
import HandS.Ends
import HandS.Words
import HandS.WordsExc
import HandS.Head0
import HandS.Head1
import HandS.Head2
import HandS.HeadEnd
import PySem.Challenge.RW_partloops_k05_errors_told
set_option Elab.async false
set_option linter.all false
set_option maxRecDepth 100000
namespace Pc
open PySem L2

/-- the built-in bases of own exceptions -/
inductive Xb | v | l | i
deriving DecidableEq
/-- an own exception class: its name, the field that it takes, the parameter's name, its built-in base -/
structure Xd where
  name : Str
  fld : Option Str
  par : Str
  base : Xb
deriving DecidableEq
/-- isinstance of an exception: the class asked for, own or built in; the classes that it may have; those that answer True -/
structure Xk where
  y : Str
  own : Bool
  all : List Str
  yes : List Str
deriving DecidableEq
/-- data -/
inductive D where
  | non | bl (b : Bool) | int (i : Int) | str (s : Str)
  | tup (l : List D) | lst (l : List D) | obj (c : Nat) (ns : List Str) (l : List D)
  | exn (x f : Str) (v : D)
/-- a value: data, a shared cell, a name's own list -/
inductive W where
  | d (x : D) | c (n : Nat) | b (i : Nat)
/-- what a name holds -/
inductive Sl where
  | no | w (x : W) | own (l : List D)
/-- a shared cell: a list, the script, an own object that changes -/
inductive Cl where
  | lst (l : List D) | fz (l : List D) | gone | obj (c : Nat) (fs : List (Str × D))
structure Ss where
  g : List Cl
  r : List Sl
inductive Res (α : Type) where
  | ok (a : α) (s : Ss) | exc (x : D) (s : Ss) | stuck
def Res.bind {α β : Type} (x : Res α) (f : α → Ss → Res β) : Res β :=
  match x with
  | .ok a s => f a s
  | .exc e s => .exc e s
  | .stuck => .stuck

inductive O2 where
  | add | sub | mul | fdiv | mod | pow
  deriving DecidableEq
inductive C2 where
  | eq | ne | lt | le | gt | ge | isn | nisn | inn | nin
  deriving DecidableEq
/-- built-in functions of one value (or two) -/
inductive Bi where
  | len | int | str | bool | abs | all | any | sum | repr | tuple | max2 | min2
  deriving DecidableEq
/-- methods of texts -/
inductive Sm where
  | join | index
  deriving DecidableEq
inductive Tg where
  | nm (i : Nat) | tp (l : List Nat)
/-- operators of one own object -/
inductive U1 where
  | neg | inv | not
  deriving DecidableEq
/-- by class: the function, its pattern -/
abbrev Dps := List (Nat × Nat × Nat)
mutual
inductive Ex where
  | v (i : Nat) | b (i : Nat) | k (x : D) | gk (n : Str) (x : D)
  | op (o : O2) (a b : Ex) | neg (a : Ex) | cmp (o : C2) (a b : Ex) | cmp2 (o p : C2) (a b c : Ex)
  | bop (an : Bool) (es : Exs) | not (a : Ex) | ite (t : Te) (a b : Ex)
  | tup (es : Exs) | fz (f : Fx) | mk (f : Fx)
  | sub (a i : Ex) | sli (a : Ex) (lo hi : Exo)
  | call (f p : Nat) (es kes : Exs)
  | bi (b : Bi) (es : Exs) | isi (a : Ex) (t : String) | sm (m : Sm) (o a : Ex)
  | fs (ps : Exs)
  | app (c e : Ex) | popl (c : Ex) | popa (c i : Ex)
  | fld (e : Ex) (f : Str) (cs : List Nat) | met (e : Ex) (m : Str) (ds : Dps) (es kes : Exs) | prp (e : Ex) (f : Str) (ds : Dps)
  | new (c f p : Nat) (fro : Bool) (es kes : Exs)
  | opo (o : O2) (ds rs : Dps) (a b : Ex) | cmo (o : C2) (ds : Dps) (a b : Ex) | uno (u : U1) (ds : Dps) (a : Ex) | bio (b : Bi) (ds : Dps) (a : Ex)
  | isc (a : Ex) (cs : List Nat) (tys : List String) | lix (c e : Ex) | dct | stk
  | xmk (q : Xd) (kw : Bool) (es kes : Exs) | xfld (a : Ex) (f : Str) (all : List Xd) | xis (a : Ex) (k : Xk)
inductive Exo where
  | no | so (e : Ex)
inductive Exs where
  | nil | cons (e : Ex) (r : Exs) | star (e : Ex) (r : Exs)
inductive Te where
  | eo (ds : Dps) (x : Ex) | e (x : Ex) | not (t : Te) | bop (an : Bool) (ts : Tes) | cmp (o : C2) (a b : Ex) | cmp2 (o p : C2) (a b c : Ex) | cm (x : Ex)
inductive Tes where
  | nil | cons (t : Te) (r : Tes)
inductive Fx where
  | disp (es : Exs) | cat (a b : Ex) | rep (a n : Ex) | cpy (a : Ex) | sli (a : Ex) (lo hi : Exo) | rev (a : Ex)
  | lc (t : Tg) (i : It) (ifs : Tes) (e : Ex) (vs : List Nat)
  | lc2 (t : Tg) (i : It) (ifs : Tes) (t1 : Tg) (i1 : It) (ifs1 : Tes) (e : Ex) (vs vs1 : List Nat)
inductive It where
  | sq (e : Ex) | rg1 (a : Ex) | rg2 (a b : Ex) | en (e : Ex) | zp (a b : Ex)
end
inductive Rh where
  | ex (e : Ex) | ow (f : Fx)
mutual
inductive Sx where
  | set (i : Nat) (e : Ex) | own (i : Nat) (f : Fx) | par (l : List (Nat × Rh)) | unp (t : Tg) (e : Ex)
  | sset (c i e : Ex) | aug (i : Nat) (o : O2) (e : Ex) | ex (e : Ex) | ret (e : Ex) | retn
  | fset (c : Ex) (f : Str) (e : Ex) (cs : List Nat) | sup (f : Nat) (cs : List Nat) | stk
  | ife (t : Te) (a b : Sxs) | for_ (t : Tg) (i : It) (b : Sxs) | whl (n : Nat) (t : Te) (b : Sxs)
  | brk | cnt | pas
inductive Sxs where
  | nil | cons (s : Sx) (r : Sxs)
end

def W.isB : W → Bool
  | .b _ => true
  | _ => false
/-- the data of a value -/
def look (s : Ss) : W → Option D
  | .d x => some x
  | .c n => match s.g[n]? with
    | some (.lst l) => some (.lst l)
    | some (.fz l) => some (.lst l)
    | _ => none
  | .b i => match s.r[i]? with
    | some (.own l) => some (.lst l)
    | some (.w (.d x)) => some x
    | _ => none
/-- a list that is not the script -/
def lookL (s : Ss) : W → Option (List D)
  | .d (.lst l) => some l
  | .d _ => none
  | .c n => match s.g[n]? with
    | some (.lst l) => some l
    | _ => none
  | .b i => match s.r[i]? with
    | some (.own l) => some l
    | some (.w (.d (.lst l))) => some l
    | _ => none
mutual
def D.py : D → Option PyData
  | .non => some .none
  | .bl b => some (.bool b)
  | .int i => some (.int i)
  | .str s => some (.str s)
  | .tup l => (D.pys l).map .tuple
  | .lst l => (D.pys l).map .list
  | .obj _ _ _ => none
  | .exn _ _ _ => none
def D.pys : List D → Option (List PyData)
  | [] => some []
  | x :: l => match D.py x, D.pys l with
    | some a, some b => some (a :: b)
    | _, _ => none
end
def D.fl : D → Bool
  | .non | .bl _ | .int _ | .str _ => true
  | _ => false
def intsOf : List D → Option (List Int)
  | [] => some []
  | .int i :: l => (intsOf l).map (i :: ·)
  | _ => none
def blsOf : List D → Option (List Bool)
  | [] => some []
  | .bl i :: l => (blsOf l).map (i :: ·)
  | _ => none
def strsOf : List D → Option (List Str)
  | [] => some []
  | .str i :: l => (strsOf l).map (i :: ·)
  | _ => none
def optB {α : Type} (b : Bool) (x : α) : Option α := if b then some x else none
/-- a product the machine bears -/
def mulOk (i j : Int) : Bool := (decide (-(2 ^ 64) < i) && decide (i < 2 ^ 64)) || (decide (-(2 ^ 64) < j) && decide (j < 2 ^ 64))
def opD : O2 → D → D → Option D
  | .add, .int i, .int j => some (.int (i + j))
  | .add, .str a, .str b => optB (decide (a.length + b.length ≤ sizeLine)) (.str (a ++ b))
  | .add, .tup a, .tup b => optB (decide (a.length + b.length ≤ sizeLine)) (.tup (a ++ b))
  | .sub, .int i, .int j => some (.int (i - j))
  | .mul, .int i, .int j => optB (mulOk i j) (.int (i * j))
  | .mul, .tup l, .int k => optB (!l.isEmpty && decide (2 ≤ k) && decide (k ≤ 1000) && decide (l.length ≤ 1000)) (.tup (List.replicate k.toNat l).flatten)
  | .fdiv, .int i, .int j => optB (decide (j ≠ 0) && decide (j.natAbs < 1073741824)) (.int (i.fdiv j))
  | .mod, .int i, .int j => optB (decide (j ≠ 0)) (.int (i.fmod j))
  | .pow, .int i, .int j => optB (decide (0 ≤ j) && decide (j ≤ 1000000) && decide (i.natAbs < 2 ^ 64)) (.int (i ^ j.toNat))
  | _, _, _ => none
def eqG (x y : D) : Option Bool :=
  match x.py, y.py with
  | some a, some b => optB (SeqAt.shaped a && SeqAt.shaped b) (PyData.eqv a b)
  | _, _ => none
def eqD : D → D → Option Bool
  | .str a, .str b => some (decide (a = b))
  | x, y => eqG x y
def eqF : D → D → Bool
  | .non, .non => true
  | .bl a, .bl b => a == b
  | .bl a, .int j => (if a then 1 else 0) == j
  | .int i, .bl b => i == (if b then 1 else 0)
  | .int i, .int j => i == j
  | .str a, .str b => a == b
  | _, _ => false
def inD (x : D) : D → Option Bool
  | .lst l | .tup l => optB (x.fl && l.all D.fl) (l.any fun y => eqF y x)
  | .str b => match x with
    | .str a => some (!(Builtin.Str.occurrences b a 0 b.length 1).isEmpty)
    | _ => none
  | _ => none
def cmpD : C2 → D → D → Option Bool
  | .eq, x, y => eqD x y
  | .ne, x, y => (eqD x y).map (!·)
  | .lt, .int i, .int j => some (decide (i < j))
  | .le, .int i, .int j => some (decide (i ≤ j))
  | .gt, .int i, .int j => some (decide (j < i))
  | .ge, .int i, .int j => some (decide (j ≤ i))
  | .isn, .bl a, .bl b => some (decide (a = b))
  | .nisn, .bl a, .bl b => some (!decide (a = b))
  | .isn, x, .non => match x with
    | .non => some true
    | _ => some false
  | .nisn, x, .non => match x with
    | .non => some false
    | _ => some true
  | .inn, x, y => inD x y
  | .nin, x, y => (inD x y).map (!·)
  | _, _, _ => none
/-- the truth of data -/
def truD : D → Option Bool
  | .non => some false
  | .bl b => some b
  | .int i => some (i != 0)
  | .str s => optB (decide (s.length ≤ sizeLine)) (s.length != 0)
  | .tup l | .lst l => some (!l.isEmpty)
  | .obj _ _ _ => none
  | .exn _ _ _ => none
def ixD (n : Nat) (i : Int) : Option Nat := if 0 ≤ i then (if i < n then some i.toNat else none) else if -(n : Int) ≤ i then some (i + n).toNat else none
def subD : D → D → Option D
  | .lst l, .int i | .tup l, .int i => (ixD l.length i).bind fun j => l[j]?
  | .str z, .int i => if z.length ≤ sizeLine then ((ixD z.cps.toList.length i).bind fun j => z.cps.toList[j]?).map fun c => .str ⟨#[c]⟩ else none
  | _, _ => none
/-- a slice's ends -/
def partI : D → Option (Option Int)
  | .non => some none
  | .int i => some (some i)
  | _ => none
def cutD {α : Type} (xs : List α) (lo hi : Option Int) : List α := (xs.drop (HT.sIx xs.length 0 lo)).take (HT.sIx xs.length xs.length hi - HT.sIx xs.length 0 lo)
def sliD (x : D) (lo hi : Option Int) : Option D :=
  match x with
  | .tup l => some (.tup (cutD l lo hi))
  | .str z => optB (decide (z.length ≤ sizeLine)) (.str (cutS z lo hi))
  | _ => none
def tyD : D → String
  | .non => "NoneType"
  | .bl _ => "bool"
  | .int _ => "int"
  | .str _ => "str"
  | .tup _ => "tuple"
  | .lst _ => "list"
  | .obj _ _ _ => "object"
  | .exn _ _ _ => "object"
/-- no object -/
def D.noO : D → Bool
  | .obj _ _ _ => false
  | .exn _ _ _ => false
  | _ => true
/-- the first place of an equal item -/
def lixD (l : List D) (q : D) : Option Nat := match D.pys l, q.py with
  | some ds, some d => if SeqAt.shaped (.list ds) && SeqAt.shaped d then ds.findIdx? (fun z => PyData.eqv z d) else none
  | _, _ => none
def isiD (x : D) (t : String) : Option Bool :=
  match x with
  | .obj _ _ _ => none
  | .exn _ _ _ => none
  | .bl _ => some (t == "bool" || t == "int")
  | x => some (tyD x == t)
/-- the largest of a list -/
def mxL : List Int → Option Int
  | [] => none
  | x :: r => some (r.foldl (fun m y => if y > m then y else m) x)
def biD : Bi → List D → Option D
  | .len, [.lst l] | .len, [.tup l] => some (.int l.length)
  | .len, [.str z] => optB (decide (z.length ≤ sizeLine)) (.int z.length)
  | .int, [.int i] => some (.int i)
  | .int, [.bl b] => some (.int (if b then 1 else 0))
  | .str, [.int i] => optB (decide (i.natAbs.log2 < 1920)) (.str (toString i))
  | .bool, [.int i] => some (.bl (i != 0))
  | .bool, [.bl b] => some (.bl b)
  | .bool, [.lst l] => some (.bl (!l.isEmpty))
  | .abs, [.int i] => some (.int (if i < 0 then -i else i))
  | .all, [.lst l] => (blsOf l).map fun bs => .bl (bs.all id)
  | .any, [.lst l] => (blsOf l).map fun bs => .bl (bs.any id)
  | .sum, [.lst l] => (intsOf l).map fun ns => .int ns.sum
  | .repr, [x] => x.py.bind fun d => optB (d.showable && decide (d.shown.length ≤ sizeLine) && decide (d.depth ≤ 64)) (.str d.shown)
  | .tuple, [.lst l] | .tuple, [.tup l] => some (.tup l)
  | .max2, [.int i, .int j] => some (.int (if j > i then j else i))
  | .max2, [.lst l] => (intsOf l).bind fun ns => (mxL ns).map D.int
  | .min2, [.int i, .int j] => some (.int (if j < i then j else i))
  | _, _ => none
def smD : Sm → Str → D → Option D
  | .join, a, .lst l | .join, a, .tup l => (strsOf l).bind fun ys => optB (decide ((ys.map (·.length)).sum + ys.length * a.length ≤ 16777216)) (.str (Txt.join a ys))
  | .index, a, .str b => match Builtin.Str.occurrences a b 0 a.length 1 with
    | i :: _ => some (.int (i : Nat))
    | [] => none
  | _, _, _ => none
/-- the text of an f-string's part -/
def fmtD : D → Option Str
  | .str z => optB (decide (z.length ≤ sizeLine)) z
  | .int i => optB (decide (i.natAbs.log2 < 1920)) (toString i)
  | _ => none
/-- the items of what is walked -/
def itemsD : D → Option (List D)
  | .lst l | .tup l => some l
  | .str z => some (z.cps.toList.map fun c => .str ⟨#[c]⟩)
  | _ => none
def rgD (lo hi : Int) : Option (List D) :=
  optB (decide (-(2 ^ 62) ≤ lo) && decide (lo < 2 ^ 62) && decide (-(2 ^ 62) ≤ hi) && decide (hi < 2 ^ 62)) ((List.range (hi - lo).toNat).map fun i => .int (lo + (i : Nat)))
def enD (l : List D) : List D := l.zipIdx.map fun p => .tup [.int p.2, p.1]
def zpD : List D → List D → List D
  | x :: l, y :: m => .tup [x, y] :: zpD l m
  | _, _ => []
def dOf : W → Option D
  | .d x => some x
  | _ => none
def dsOf : List W → Option (List D)
  | [] => some []
  | .d x :: l => (dsOf l).map (x :: ·)
  | _ => none
def looks (s : Ss) : List W → Option (List D)
  | [] => some []
  | w :: l => match look s w, looks s l with
    | some a, some b => some (a :: b)
    | _, _ => none
def Res.of {α : Type} (o : Option α) (s : Ss) : Res α :=
  match o with
  | some a => .ok a s
  | none => .stuck
def bindG (r : List Sl) : Tg → D → Option (List Sl)
  | .nm i, x => some (r.set i (.w (.d x)))
  | .tp l, .tup xs => if l.length = xs.length then some ((l.zip xs).foldl (fun r p => r.set p.1 (.w (.d p.2))) r) else none
  | _, _ => none
/-- the slots of a comprehension's names emptied; none of them an owned list; put back -/
def nR (r : List Sl) : List Nat → List Sl
  | [] => r
  | v :: vs => (nR r vs).set v .no
def noOwn (r : List Sl) (vs : List Nat) : Bool := vs.all fun i => match r[i]? with | some (.own _) => false | _ => true
def backR (r0 r : List Sl) : List Nat → List Sl
  | [] => r
  | v :: vs => match r0[v]? with
    | some x => (backR r0 r vs).set v x
    | none => backR r0 r vs
/-- a list changed -/
def putL (s : Ss) (w : W) (l : List D) : Option Ss :=
  match w with
  | .c n => match s.g[n]? with
    | some (.lst _) => some { s with g := s.g.set n (.lst l) }
    | _ => none
  | .b i => match s.r[i]? with
    | some (.own _) => some { s with r := s.r.set i (.own l) }
    | _ => none
  | _ => none
def getL (s : Ss) (w : W) : Option (List D) :=
  match w with
  | .c n => match s.g[n]? with
    | some (.lst l) => some l
    | _ => none
  | .b i => match s.r[i]? with
    | some (.own l) => some l
    | _ => none
  | _ => none

/-- the class of an own object, the names of its attributes -/
def clsW (s : Ss) : W → Option (Nat × List Str)
  | .d (.obj c ns _) => some (c, ns)
  | .c n => match s.g[n]? with
    | some (.obj c fs) => some (c, fs.map (·.1))
    | _ => none
  | _ => none
def fldW (s : Ss) (f : Str) (cs : List Nat) : W → Option D
  | .d (.obj c ns l) => if cs.contains c then (ns.zip l).lookup f else none
  | .c n => match s.g[n]? with
    | some (.obj c fs) => if cs.contains c then fs.lookup f else none
    | _ => none
  | _ => none
def putD (f : Str) (v : D) : List (Str × D) → List (Str × D)
  | [] => [(f, v)]
  | (g, x) :: r => if g = f then (g, v) :: r else (g, x) :: putD f v r
def psetW (s : Ss) (f : Str) (v : D) (cs : List Nat) : W → Option Ss
  | .c n => match s.g[n]? with
    | some (.obj c fs) => if cs.contains c && decide (fs.length < 1000) then some { s with g := s.g.set n (.obj c (putD f v fs)) } else none
    | _ => none
  | _ => none
/-- what two values are, by operators: an own object; data -/
inductive Ow where
  | o (c : Nat) | r (c : Nat) | d (p q : D) | no
def owOf (s : Ss) (x y : W) : Ow :=
  match clsW s x with
  | some (c, _) => .o c
  | none => match clsW s y with
    | some (c, _) => .r c
    | none => match look s x, look s y with
      | some p, some q => .d p q
      | _, _ => .no
/-- kinds of data that stand to the right of an own object's operator -/
def tyW (s : Ss) (y : W) : Option String :=
  match look s y with
  | some d => if d.noO then some (tyD d) else none
  | none => none
inductive Cr where
  | ok (w : W) (g : List Cl) | exc (x : D) (g : List Cl) | stuck
abbrev Or := Nat → Nat → List W → List W → List Cl → Cr
def comp (f : D → List D → Ss → Res (List D)) : List D → List D → Ss → Res (List D)
  | [], acc, s => .ok acc s
  | x :: l, acc, s => match f x acc s with
    | .ok acc' s' => comp f l acc' s'
    | _ => .stuck
def addD (acc : List D) (y : W) (s : Ss) : Res (List D) :=
  match y with
  | .d d => if acc.length < sizeLine then .ok (acc ++ [d]) s else .stuck
  | _ => .stuck
def turnC (t : Tg) (vs : List Nat) (ft : Ss → Res Bool) (fe : List D → Ss → Res (List D)) (x : D) (acc : List D) (s : Ss) : Res (List D) :=
  match bindG (nR s.r vs) t x with
  | none => .stuck
  | some r3 => (ft { s with r := r3 }).bind fun c s4 => if c then fe acc s4 else .ok acc s4
/-- a call -/
def callR (o : Or) (f p : Nat) (ws zs : List W) (s : Ss) : Res W :=
  match o f p ws zs s.g with
  | .ok w g => if w.isB then .stuck else .ok w { s with g := g }
  | .exc e g => .exc e { s with g := g }
  | .stuck => .stuck
def dispR (o : Or) (ds : Dps) (c : Nat) (ws zs : List W) (s : Ss) : Res W :=
  match ds.lookup c with
  | some (f, p) => callR o f p ws zs s
  | none => .stuck
/-- no exception -/
def noX {α : Type} : Res α → Res α
  | .exc _ _ => .stuck
  | r => r
/-- behind __init__: the object, frozen or not -/
def newD (n : Nat) (fro : Bool) (s : Ss) : Res W :=
  if fro then match s.g[n]? with
    | some (.obj c fs) => if s.g.length = n + 1 then .ok (.d (.obj c (fs.map (·.1)) (fs.map (·.2)))) { s with g := s.g.take n } else .stuck
    | _ => .stuck
  else .ok (.c n) s
def newR (o : Or) (c f p : Nat) (fro : Bool) (ws zs : List W) (s : Ss) : Res W :=
  match o f p (.c s.g.length :: ws) zs (s.g ++ [.obj c []]) with
  | .ok (.d .non) g => newD s.g.length fro { s with g := g }
  | .exc e g => .exc e { s with g := g }
  | _ => .stuck
def metR (o : Or) (m : Str) (ds : Dps) (x : W) (k : Nat → Nat → Res W) (s : Ss) : Res W :=
  match clsW s x with
  | some (c, ns) => if ns.contains m then .stuck else match ds.lookup c with
    | some (f, p) => k f p
    | none => .stuck
  | none => .stuck
def opoR (o : Or) (f : O2) (ds rs : Dps) (x y : W) (s : Ss) : Res W :=
  match owOf s x y with
  | .o c => match clsW s y with
    | some (c', _) => if c' = c then dispR o ds c [x, y] [] s else .stuck
    | none => if tyW s y = some "int" then dispR o ds c [x, y] [] s else .stuck
  | .r c => if tyW s x = some "int" then dispR o rs c [y, x] [] s else .stuck
  | .d p q => Res.of ((opD f p q).map W.d) s
  | .no => .stuck
def isBl : W → Option Bool
  | .d (.bl b) => some b
  | _ => none
def cmoR (o : Or) (f : C2) (ds : Dps) (x y : W) (s : Ss) : Res W :=
  match owOf s x y with
  | .o c => match clsW s y with
    | some (c', _) => if ds.any (fun q => q.1 == c') then (dispR o ds c [x, y] [] s).bind fun w s1 => Res.of ((isBl w).map fun b => W.d (.bl (if f = .ne then !b else b))) s1 else .stuck
    | none => if (tyW s y).isSome then (dispR o ds c [x, y] [] s).bind fun w s1 => Res.of ((isBl w).map fun b => W.d (.bl (if f = .ne then !b else b))) s1 else .stuck
  | .d p q => Res.of ((cmpD f p q).map fun b => W.d (.bl b)) s
  | _ => .stuck
def negD : W → Option W
  | .d (.int i) => some (.d (.int (-i)))
  | _ => none
def bioR (o : Or) (b : Bi) (ds : Dps) (x : W) (s : Ss) : Res W :=
  match clsW s x with
  | some (c, _) => (dispR o ds c [x] [] s).bind fun w s1 => match w with
    | .d (.bl k) => if b = .bool then .ok (.d (.bl k)) s1 else .stuck
    | .d (.str z) => if b = .repr then .ok (.d (.str z)) s1 else .stuck
    | .d (.int i) => if b = .len ∧ 0 ≤ i ∧ i < 2 ^ 62 then .ok (.d (.int i)) s1 else .stuck
    | _ => .stuck
  | none => match look s x with
    | some d => Res.of ((biD b [d]).map W.d) s
    | none => .stuck
def truR (o : Or) (ds : Dps) (x : W) (s : Ss) : Res Bool :=
  match clsW s x with
  | some (c, _) => (dispR o ds c [x] [] s).bind fun w s1 => Res.of (isBl w) s1
  | none => match look s x with
    | some d => Res.of (truD d) s
    | none => .stuck
def unoR (o : Or) (u : U1) (ds : Dps) (x : W) (s : Ss) : Res W :=
  if u = .not then (truR o ds x s).bind fun b s1 => .ok (.d (.bl !b)) s1
  else match clsW s x with
  | some (c, _) => dispR o ds c [x] [] s
  | none => if u = .neg then Res.of (negD x) s else .stuck
def iscR (cs : List Nat) (tys : List String) (x : W) (s : Ss) : Option Bool :=
  match clsW s x with
  | some (c, _) => some (cs.contains c)
  | none => match look s x with
    | some (.obj _ _ _) => none
    | some (.exn _ _ _) => none
    | some (.bl _) => some (tys.contains "bool" || tys.contains "int")
    | some d => some (tys.contains (tyD d))
    | none => none
/-- an exception is made -/
def xmkR (q : Xd) (kw : Bool) (ws zs : List W) (s : Ss) : Res W := match kw, q.fld, ws, zs with
  | false, none, [], [] => .ok (.d (.exn q.name "" .non)) s
  | false, some f, [.d d], [] => .ok (.d (.exn q.name f d)) s
  | true, some f, [], [.d d] => .ok (.d (.exn q.name f d)) s
  | _, _, _, _ => .stuck
def xfldD (f : Str) (all : List Xd) (x : W) : Option D := match x with
  | .d (.exn n g v) => if all.any (fun q => decide (q.name = n) && (decide (f = "code") || decide (q.fld = some f))) then (if f = "code" then some (.str n) else if f = g then some v else none) else none
  | _ => none
def xisD (all yes : List Str) (x : W) : Option Bool := match x with
  | .d (.exn n _ _) => if all.contains n then some (yes.contains n) else none
  | _ => none
mutual
def ev (o : Or) : Ex → Ss → Res W
  | .v i, s => match s.r[i]? with
    | some (.w x) => .ok x s
    | some (.own l) => .ok (.d (.lst l)) { s with r := s.r.set i (.w (.d (.lst l))) }
    | _ => .stuck
  | .b i, s => match s.r[i]? with
    | some (.w x) => .ok x s
    | some (.own _) => .ok (.b i) s
    | _ => .stuck
  | .k x, s => .ok (.d x) s
  | .gk _ x, s => .ok (.d x) s
  | .op f a b, s => (ev o a s).bind fun x s1 => (ev o b s1).bind fun y s2 => match look s2 x, look s2 y with
    | some p, some q => Res.of ((opD f p q).map W.d) s2
    | _, _ => .stuck
  | .neg a, s => (ev o a s).bind fun x s1 => match x with
    | .d (.int i) => .ok (.d (.int (-i))) s1
    | _ => .stuck
  | .cmp f a b, s => (ev o a s).bind fun x s1 => (ev o b s1).bind fun y s2 => match look s2 x, look s2 y with
    | some p, some q => Res.of ((cmpD f p q).map fun b => W.d (.bl b)) s2
    | _, _ => .stuck
  | .cmp2 f g a b c, s => (ev o a s).bind fun x s1 => (ev o b s1).bind fun y s2 => match look s2 x, look s2 y with
    | some p, some q => match cmpD f p q with
      | some true => (ev o c s2).bind fun z s3 => match look s3 y, look s3 z with
        | some q', some u => Res.of ((cmpD g q' u).map fun b => W.d (.bl b)) s3
        | _, _ => .stuck
      | some false => .ok (.d (.bl false)) s2
      | none => .stuck
    | _, _ => .stuck
  | .bop an es, s => evB o an es s
  | .not a, s => (ev o a s).bind fun x s1 => match x with
    | .d (.bl b) => .ok (.d (.bl (!b))) s1
    | _ => .stuck
  | .ite t a b, s => (evT o t s).bind fun c s1 => if c then ev o a s1 else ev o b s1
  | .tup es, s => (evs o es s).bind fun ws s1 => match dsOf ws with
    | some ds => if ds.length ≤ sizeLine then .ok (.d (.tup ds)) s1 else .stuck
    | none => .stuck
  | .fz f, s => (evF o f s).bind fun l s1 => .ok (.d (.lst l)) s1
  | .mk f, s => (evF o f s).bind fun l s1 => .ok (.c s1.g.length) { s1 with g := s1.g ++ [.lst l] }
  | .sub a i, s => (ev o a s).bind fun x s1 => (ev o i s1).bind fun y s2 => match look s2 x, dOf y with
    | some p, some q => Res.of ((subD p q).map W.d) s2
    | _, _ => .stuck
  | .sli a lo hi, s => (ev o a s).bind fun x s1 => (evo o lo s1).bind fun l s2 => (evo o hi s2).bind fun h s3 => match look s3 x with
    | some p => Res.of ((sliD p l h).map W.d) s3
    | none => .stuck
  | .call f p es kes, s => (evs o es s).bind fun ws s1 => (evs o kes s1).bind fun zs s2 => match o f p ws zs s2.g with
    | .ok w g => if w.isB then .stuck else .ok w { s2 with g := g }
    | .exc e g => .exc e { s2 with g := g }
    | .stuck => .stuck
  | .bi b es, s => (evs o es s).bind fun ws s1 => match looks s1 ws with
    | some ds => Res.of ((biD b ds).map W.d) s1
    | none => .stuck
  | .isi a t, s => (ev o a s).bind fun x s1 => match look s1 x with
    | some p => Res.of ((isiD p t).map fun b => W.d (.bl b)) s1
    | none => .stuck
  | .sm m x a, s => (ev o x s).bind fun x s1 => match x with
    | .d (.str z) => (ev o a s1).bind fun y s2 => match look s2 y with
      | some q => Res.of ((smD m z q).map W.d) s2
      | none => .stuck
    | _ => .stuck
  | .fs ps, s => (evJ o ps Str.empty s).bind fun z s1 => .ok (.d (.str z)) s1
  | .app c e, s => (ev o c s).bind fun x s1 => match getL s1 x with
    | none => .stuck
    | some _ => (ev o e s1).bind fun y s2 => match getL s2 x, dOf y with
      | some l, some d => if l.length < sizeLine then (match putL s2 x (l ++ [d]) with | some s3 => .ok (.d .non) s3 | none => .stuck) else .stuck
      | _, _ => .stuck
  | .popl c, s => (ev o c s).bind fun x s1 => match getL s1 x with
    | some l => match l.getLast? with
      | some d => (match putL s1 x l.dropLast with | some s3 => .ok (.d d) s3 | none => .stuck)
      | none => .stuck
    | none => .stuck
  | .popa c i, s => (ev o c s).bind fun x s1 => match getL s1 x with
    | none => .stuck
    | some _ => (ev o i s1).bind fun y s2 => match getL s2 x, dOf y with
      | some l, some (.int i) => if 0 ≤ i ∧ i < l.length ∧ i < 2 ^ 63 then (match l[i.toNat]? with
        | some d => (match putL s2 x (l.eraseIdx i.toNat) with | some s3 => .ok (.d d) s3 | none => .stuck)
        | none => .stuck) else .stuck
      | _, _ => .stuck
  | .fld e f cs, s => (ev o e s).bind fun x s1 => Res.of ((fldW s1 f cs x).map W.d) s1
  | .met e m ds es kes, s => (ev o e s).bind fun x s1 => metR o m ds x (fun f p => (evs o es s1).bind fun ws s2 => (evs o kes s2).bind fun zs s3 => callR o f p (x :: ws) zs s3) s1
  | .prp e f ds, s => (ev o e s).bind fun x s1 => match clsW s1 x with
    | some (c, _) => noX (dispR o ds c [x] [] s1)
    | none => .stuck
  | .new c f p fro es kes, s => (evs o es s).bind fun ws s1 => (evs o kes s1).bind fun zs s2 => newR o c f p fro ws zs s2
  | .opo f ds rs a b, s => (ev o a s).bind fun x s1 => (ev o b s1).bind fun y s2 => opoR o f ds rs x y s2
  | .cmo f ds a b, s => (ev o a s).bind fun x s1 => (ev o b s1).bind fun y s2 => cmoR o f ds x y s2
  | .uno u ds a, s => (ev o a s).bind fun x s1 => unoR o u ds x s1
  | .bio b ds a, s => (ev o a s).bind fun x s1 => bioR o b ds x s1
  | .isc a cs tys, s => (ev o a s).bind fun x s1 => Res.of ((iscR cs tys x s1).map fun b => W.d (.bl b)) s1
  | .xmk q kw es kes, s => (evs o es s).bind fun ws s1 => (evs o kes s1).bind fun zs s2 => xmkR q kw ws zs s2
  | .xfld a f all, s => (ev o a s).bind fun x s1 => Res.of ((xfldD f all x).map W.d) s1
  | .xis a k, s => (ev o a s).bind fun x s1 => Res.of ((xisD k.all k.yes x).map fun b => W.d (.bl b)) s1
  | .lix c e, s => (ev o c s).bind fun x s1 => match lookL s1 x with
    | none => .stuck
    | some _ => (ev o e s1).bind fun y s2 => match look s2 x, look s2 y with
      | some (.lst l), some q => Res.of ((lixD l q).map fun j : Nat => W.d (.int j)) s2
      | _, _ => .stuck
  | .dct, s => .ok (.c s.g.length) { s with g := s.g ++ [.gone] }
  | .stk, _ => .stuck
def evo (o : Or) : Exo → Ss → Res (Option Int)
  | .no, s => .ok none s
  | .so e, s => (ev o e s).bind fun x s1 => match x with
    | .d (.int i) => .ok (some i) s1
    | _ => .stuck
def evs (o : Or) : Exs → Ss → Res (List W)
  | .nil, s => .ok [] s
  | .cons e r, s => (ev o e s).bind fun x s1 => (evs o r s1).bind fun xs s2 => .ok (x :: xs) s2
  | .star e r, s => (ev o e s).bind fun x s1 => match x with
    | .d (.lst l) | .d (.tup l) => (evs o r s1).bind fun xs s2 => .ok (l.map W.d ++ xs) s2
    | _ => .stuck
def evB (o : Or) (an : Bool) : Exs → Ss → Res W
  | .cons e .nil, s => ev o e s
  | .cons e (.cons e' r), s => (ev o e s).bind fun x s1 => match x with
    | .d (.bl c) => if c == an then evB o an (.cons e' r) s1 else .ok (.d (.bl c)) s1
    | _ => .stuck
  | _, _ => .stuck
def evJ (o : Or) : Exs → Str → Ss → Res Str
  | .nil, z, s => .ok z s
  | .cons e r, z, s => (ev o e s).bind fun x s1 => match look s1 x with
    | some d => match fmtD d with
      | some t => if (z ++ t).length ≤ sizeLine then evJ o r (z ++ t) s1 else .stuck
      | none => .stuck
    | none => .stuck
  | .star _ _, _, _ => .stuck
def evT (o : Or) : Te → Ss → Res Bool
  | .cm x, s => (ev o x s).bind fun w s1 => match w with
    | .d (.bl k) => .ok k s1
    | _ => .stuck
  | .eo ds x, s => (ev o x s).bind fun w s1 => truR o ds w s1
  | .e x, s => (ev o x s).bind fun w s1 => match look s1 w with
    | some d => Res.of (truD d) s1
    | none => .stuck
  | .not t, s => (evT o t s).bind fun c s1 => .ok (!c) s1
  | .bop an ts, s => evTs o an ts s
  | .cmp f a b, s => (ev o a s).bind fun x s1 => (ev o b s1).bind fun y s2 => match look s2 x, look s2 y with
    | some p, some q => Res.of (cmpD f p q) s2
    | _, _ => .stuck
  | .cmp2 f g a b c, s => (ev o a s).bind fun x s1 => (ev o b s1).bind fun y s2 => match look s2 x, look s2 y with
    | some p, some q => match cmpD f p q with
      | some true => (ev o c s2).bind fun z s3 => match look s3 y, look s3 z with
        | some q', some u => Res.of (cmpD g q' u) s3
        | _, _ => .stuck
      | some false => .ok false s2
      | none => .stuck
    | _, _ => .stuck
def evTs (o : Or) (an : Bool) : Tes → Ss → Res Bool
  | .nil, s => .ok an s
  | .cons t r, s => (evT o t s).bind fun c s1 => if c == an then evTs o an r s1 else .ok c s1
def evF (o : Or) : Fx → Ss → Res (List D)
  | .disp es, s => (evs o es s).bind fun ws s1 => match dsOf ws with
    | some ds => if ds.length ≤ sizeLine then .ok ds s1 else .stuck
    | none => .stuck
  | .cat a b, s => (ev o a s).bind fun x s1 => (ev o b s1).bind fun y s2 => match lookL s2 x, lookL s2 y with
    | some l, some m => if l.length + m.length ≤ sizeLine then .ok (l ++ m) s2 else .stuck
    | _, _ => .stuck
  | .rep a n, s => (ev o a s).bind fun x s1 => (ev o n s1).bind fun y s2 => match lookL s2 x, dOf y with
    | some l, some (.int k) => if -(2 ^ 63) ≤ k ∧ k < 2 ^ 63 ∧ l.length * k.toNat ≤ sizeLine then .ok (List.replicate k.toNat l).flatten s2 else .stuck
    | _, _ => .stuck
  | .cpy a, s => (ev o a s).bind fun x s1 => match look s1 x with
    | some (.lst l) | some (.tup l) => .ok l s1
    | _ => .stuck
  | .sli a lo hi, s => (ev o a s).bind fun x s1 => (evo o lo s1).bind fun l s2 => (evo o hi s2).bind fun h s3 => match look s3 x with
    | some (.lst m) => .ok (cutD m l h) s3
    | _ => .stuck
  | .rev a, s => (ev o a s).bind fun x s1 => match look s1 x with
    | some (.lst l) => .ok l.reverse s1
    | _ => .stuck
  | .lc t i ifs e vs, s => (evI o i s).bind fun l s1 => if noOwn s1.r vs then (comp (turnC t vs (evTs o true ifs) (fun acc s4 => (ev o e s4).bind fun y s5 => addD acc y s5)) l [] s1).bind fun acc s2 => .ok acc { s2 with r := backR s1.r s2.r vs } else .stuck
  | .lc2 t i ifs t1 i1 ifs1 e vs vs1, s => (evI o i s).bind fun l s1 => if noOwn s1.r vs then (comp (turnC t vs (evTs o true ifs) (fun acc s4 => (evI o i1 s4).bind fun l1 s5 =>
      comp (turnC t1 vs1 (evTs o true ifs1) (fun acc s4 => (ev o e s4).bind fun y s5 => addD acc y s5)) l1 acc s5)) l [] s1).bind fun acc s2 => .ok acc { s2 with r := backR s1.r s2.r vs } else .stuck
def evI (o : Or) : It → Ss → Res (List D)
  | .sq e, s => (ev o e s).bind fun x s1 => match x with
    | .d d => Res.of (itemsD d) s1
    | _ => .stuck
  | .rg1 a, s => (ev o a s).bind fun x s1 => match x with
    | .d (.int j) => Res.of (rgD 0 j) s1
    | _ => .stuck
  | .rg2 a b, s => (ev o a s).bind fun x s1 => (ev o b s1).bind fun y s2 => match x, y with
    | .d (.int i), .d (.int j) => Res.of (rgD i j) s2
    | _, _ => .stuck
  | .en e, s => (ev o e s).bind fun x s1 => match x with
    | .d (.lst l) => .ok (enD l) s1
    | .d (.tup l) => .ok (enD l) s1
    | _ => .stuck
  | .zp a b, s => (ev o a s).bind fun x s1 => (ev o b s1).bind fun y s2 => match x, y with
    | .d (.lst l), .d (.lst m) => .ok (zpD l m) s2
    | _, _ => .stuck
end

inductive Fl where
  | nx | rt (w : W) | bk | ct
def forL (f : D → Ss → Res Fl) : List D → Ss → Res Fl
  | [], s => .ok .nx s
  | x :: l, s => (f x s).bind fun c s' => match c with
    | .nx | .ct => forL f l s'
    | .bk => .ok .nx s'
    | .rt w => .ok (.rt w) s'
def whlL (t : Ss → Res Bool) (f : Ss → Res Fl) : Nat → Ss → Res Fl
  | 0, _ => .stuck
  | n + 1, s => (t s).bind fun c s1 => if c then (f s1).bind (fun c s2 => match c with
    | .nx | .ct => whlL t f n s2
    | .bk => .ok .nx s2
    | .rt w => .ok (.rt w) s2) else .ok .nx s1
def evR (o : Or) : List (Nat × Rh) → Ss → Res (List (Nat × Sl))
  | [], s => .ok [] s
  | (i, .ex e) :: l, s => (ev o e s).bind fun w s1 => if w.isB then .stuck else (evR o l s1).bind fun xs s2 => .ok ((i, .w w) :: xs) s2
  | (i, .ow f) :: l, s => (evF o f s).bind fun d s1 => (evR o l s1).bind fun xs s2 => .ok ((i, .own d) :: xs) s2
def setsR (r : List Sl) (l : List (Nat × Sl)) : List Sl := l.foldl (fun r p => r.set p.1 p.2) r
mutual
def ex1 (o : Or) : Sx → Ss → Res Fl
  | .set i e, s => (ev o e s).bind fun w s1 => if w.isB then .stuck else .ok .nx { s1 with r := s1.r.set i (.w w) }
  | .own i f, s => (evF o f s).bind fun l s1 => .ok .nx { s1 with r := s1.r.set i (.own l) }
  | .par l, s => (evR o l s).bind fun xs s1 => .ok .nx { s1 with r := setsR s1.r xs }
  | .unp t e, s => (ev o e s).bind fun w s1 => match w with
    | .d x => (match bindG s1.r t x with | some r => .ok .nx { s1 with r := r } | none => .stuck)
    | _ => .stuck
  | .sset c i e, s => (ev o e s).bind fun v s1 => (ev o c s1).bind fun w s2 => (ev o i s2).bind fun k s3 => match dOf v, getL s3 w, dOf k with
    | some d, some l, some (.int n) => (match ixD l.length n with
      | some j => (match putL s3 w (l.set j d) with | some s4 => .ok .nx s4 | none => .stuck)
      | none => .stuck)
    | _, _, _ => .stuck
  | .aug i f e, s => match s.r[i]? with
    | some (.w (.d (.int x))) => (ev o e s).bind fun w s1 => match dOf w with
      | some y => (match opD f (.int x) y with | some z => .ok .nx { s1 with r := s1.r.set i (.w (.d z)) } | none => .stuck)
      | none => .stuck
    | _ => .stuck
  | .ex e, s => (ev o e s).bind fun _ s1 => .ok .nx s1
  | .fset c f e cs, s => (ev o e s).bind fun v s1 => (ev o c s1).bind fun w s2 => match v with
    | .d d => (match psetW s2 f d cs w with | some s3 => .ok .nx s3 | none => .stuck)
    | _ => .stuck
  | .sup f cs, s => match (s.r[0]? : Option Sl) with
    | some (.w x) => (match clsW s x with
      | some (c, _) => if cs.contains c then (callR o f 0 [x] [] s).bind fun _ s1 => .ok .nx s1 else .stuck
      | none => .stuck)
    | _ => .stuck
  | .stk, _ => .stuck
  | .ret e, s => (ev o e s).bind fun w s1 => if w.isB then .stuck else .ok (.rt w) s1
  | .retn, s => .ok (.rt (.d .non)) s
  | .ife t a b, s => (evT o t s).bind fun c s1 => if c then exs o a s1 else exs o b s1
  | .for_ t i b, s => (evI o i s).bind fun l s1 => forL (fun x s => match bindG s.r t x with
    | some r => exs o b { s with r := r }
    | none => .stuck) l s1
  | .whl n t b, s => whlL (evT o t) (exs o b) n s
  | .brk, s => .ok .bk s
  | .cnt, s => .ok .ct s
  | .pas, s => .ok .nx s
def exs (o : Or) : Sxs → Ss → Res Fl
  | .nil, s => .ok .nx s
  | .cons a r, s => (ex1 o a s).bind fun c s1 => match c with
    | .nx => exs o r s1
    | c => .ok c s1
end

/-- where a parameter's value comes from: a positional value, a keyword's, a default -/
inductive Ar where
  | p (i : Nat) | k (i : Nat) | df (x : D) | va (i : Nat)
structure Pat where
  n : Nat
  ks : List Str
  sel : List Ar
/-- where a function stands: a global's name; a method; a property's getter; a static method -/
inductive Loc where
  | glo (x : Str) | met (C m : Str) | pro (C f : Str) | sta (C m : Str)
  deriving DecidableEq
structure Fn where
  at_ : Loc
  /-- the parameters, then the other names -/
  np : Nat
  nm : List Str
  pats : List Pat
  body : Sxs
def selW (ws zs : List W) : Ar → W
  | .p i => ws.getD i (.d .non)
  | .k i => zs.getD i (.d .non)
  | .df x => .d x
  | .va i => match dsOf (ws.drop i) with
    | some l => if l.length ≤ sizeLine then .d (.tup l) else .b 0
    | none => .b 0
def Ar.isVa : Ar → Bool
  | .va _ => true
  | _ => false
def noB : List W → Bool
  | [] => true
  | w :: l => !w.isB && noB l
def argsOf (fd : Fn) (p : Nat) (ws zs : List W) : Option (List W) :=
  match fd.pats[p]? with
  | some q => if (ws.length = q.n ∨ q.sel.any Ar.isVa ∧ q.n ≤ ws.length) ∧ zs.length = q.ks.length ∧ q.sel.length = fd.np ∧ noB ws ∧ noB zs ∧ noB (q.sel.map (selW ws zs)) then some (q.sel.map (selW ws zs)) else none
  | none => none
def startR (fd : Fn) (ws : List W) : List Sl := ws.map Sl.w ++ List.replicate (fd.nm.length - ws.length) Sl.no
def runB (o : Or) (fd : Fn) (ws : List W) (g : List Cl) : Cr :=
  match exs o fd.body ⟨g, startR fd ws⟩ with
  | .ok (.rt w) s => .ok w s.g
  | .ok .nx s => .ok (.d .non) s.g
  | .exc e s => .exc e s.g
  | _ => .stuck
def run (tab : List Fn) : Nat → Or
  | 0 => fun _ _ _ _ _ => .stuck
  | n + 1 => fun f p ws zs g => match tab[f]? with
    | some fd => (match argsOf fd p ws zs with
      | some as => runB (run tab n) fd as g
      | none => .stuck)
    | none => .stuck

example (o : Or) (x : D) (s : Ss) : ev o (.k x) s = .ok (.d x) s := rfl
example : run [⟨.glo "f", 1, ["x", "y"], [⟨1, [], [.p 0]⟩], .cons (.set 1 (.op .add (.v 0) (.k (.int 3)))) (.cons (.ret (.v 1)) .nil)⟩] 1 0 0 [.d (.int 4)] [] [] = .ok (.d (.int 7)) [] := by kernel_rfl
end Pc

set_option Elab.async false
set_option linter.all false
set_option maxRecDepth 100000
set_option maxHeartbeats 4000000
namespace Pc
open PySem L2
/-- an exception's object as a value: its class, its dict -/
def XvO (a C dx : Addr) : HO := .ext fun h => ∃ (oe : Obj) (vs : Array Value), h.get? a = some oe ∧ oe.cls = .ref C ∧ oe.dict = some dx ∧ oe.data = .fields vs
/-- the written part, and where the own classes stand -/
structure Kx where
  K : PySem.W.Frag
  cl : Nat → Option Addr
mutual
def Rep (k : Kx) (T : Hp) : D → V → Prop
  | .non, v => v = .non
  | .bl b, v => v = .bl b
  | .int i, v => v = .int i
  | .str s, v => v = .str s
  | .tup l, v => ∃ a vs, v = .ref a ∧ SqT k.K T a vs ∧ Reps k T l vs
  | .lst l, v => ∃ a vs, v = .ref a ∧ T a = some (.lst vs) ∧ Reps k T l vs
  | .obj c ns l, v => ∃ a C dx vs, v = .ref a ∧ k.cl c = some C ∧ T a = some (.ins C dx (ns.zip vs)) ∧ ns.length = l.length ∧ Reps k T l vs
  | .exn x f d, v => ∃ a dx fs, v = .ref a ∧ T a = some (XvO a (He.ga k.K x) dx) ∧ T dx = some (.xd fs) ∧ fs.lookup ("code" : Str) = some (.str x) ∧ (f ≠ "" → ∃ y, fs.lookup f = some y ∧ Rep k T d y)
def Reps (k : Kx) (T : Hp) : List D → List V → Prop
  | [], vs => vs = []
  | d :: l, vs => ∃ v r, vs = v :: r ∧ Rep k T d v ∧ Reps k T l r
end
section
variable {k : Kx} {T T' : Hp}
theorem sqT_same {K : PySem.W.Frag} {a : Addr} {xs : List V} (e : Same T T') (h : SqT K T a xs) : SqT K T' a xs := by
  rcases h with (h | ⟨o, h⟩) | h
  · exact .inl (.inl (e _ _ h))
  · exact .inl (.inr ⟨o, e _ _ h⟩)
  · exact .inr h
theorem sqL_same {K : PySem.W.Frag} {a : Addr} {xs : List V} (e : Same T T') (h : SqL K T a xs) : SqL K T' a xs := e.seq h
mutual
theorem Rep.mono (e : Same T T') : ∀ {d : D} {v : V}, Rep k T d v → Rep k T' d v
  | .non, _, h => h
  | .bl _, _, h => h
  | .int _, _, h => h
  | .str _, _, h => h
  | .tup l, _, h => by
    obtain ⟨a, vs, e1, h1, h2⟩ := h
    exact ⟨a, vs, e1, sqT_same e h1, Reps.mono e h2⟩
  | .lst l, _, h => by
    obtain ⟨a, vs, e1, h1, h2⟩ := h
    exact ⟨a, vs, e1, e _ _ h1, Reps.mono e h2⟩
  | .obj c ns l, _, h => by
    obtain ⟨a, C, dx, vs, e1, e2, h1, e3, h2⟩ := h
    exact ⟨a, C, dx, vs, e1, e2, e _ _ h1, e3, Reps.mono e h2⟩
  | .exn x f d, _, h => by
    obtain ⟨a, dx, fs, e1, h1, h2, h3, h4⟩ := h
    refine ⟨a, dx, fs, e1, e _ _ h1, e _ _ h2, h3, fun q => ?_⟩
    obtain ⟨y, q1, q2⟩ := h4 q
    exact ⟨y, q1, Rep.mono e q2⟩
theorem Reps.mono (e : Same T T') : ∀ {l : List D} {vs : List V}, Reps k T l vs → Reps k T' l vs
  | [], _, h => h
  | d :: l, _, h => by
    obtain ⟨v, r, e1, h1, h2⟩ := h
    exact ⟨v, r, e1, Rep.mono e h1, Reps.mono e h2⟩
end
theorem Reps.nil : Reps k T [] [] := rfl
theorem Reps.cons {d : D} {v : V} {l : List D} {vs : List V} (h : Rep k T d v) (hs : Reps k T l vs) : Reps k T (d :: l) (v :: vs) := ⟨v, vs, rfl, h, hs⟩
theorem Reps.len : ∀ {l : List D} {vs : List V}, Reps k T l vs → vs.length = l.length
  | [], _, h => by cases (show _ = [] from h); rfl
  | d :: l, _, h => by
    obtain ⟨v, r, rfl, _, h2⟩ := h
    exact congrArg Nat.succ (Reps.len h2)
theorem Reps.app : ∀ {l m : List D} {vs ws : List V}, Reps k T l vs → Reps k T m ws → Reps k T (l ++ m) (vs ++ ws)
  | [], _, _, _, h, h' => by cases (show _ = [] from h); exact h'
  | d :: l, _, _, _, h, h' => by
    obtain ⟨v, r, rfl, h1, h2⟩ := h
    exact ⟨v, _, rfl, h1, Reps.app h2 h'⟩
theorem Reps.one {d : D} {v : V} (h : Rep k T d v) : Reps k T [d] [v] := .cons h .nil
theorem Reps.get : ∀ {l : List D} {vs : List V} {i : Nat} {d : D}, Reps k T l vs → l[i]? = some d → ∃ v, vs[i]? = some v ∧ Rep k T d v
  | [], _, _, _, _, e => by simp at e
  | d :: l, _, 0, _, h, e => by
    obtain ⟨v, r, rfl, h1, h2⟩ := h
    simp at e; subst e
    exact ⟨v, rfl, h1⟩
  | d :: l, _, i + 1, _, h, e => by
    obtain ⟨v, r, rfl, h1, h2⟩ := h
    obtain ⟨u, e1, e2⟩ := Reps.get (i := i) h2 (by simpa using e)
    exact ⟨u, by simpa using e1, e2⟩
theorem Reps.getV : ∀ {l : List D} {vs : List V} {i : Nat} {v : V}, Reps k T l vs → vs[i]? = some v → ∃ d, l[i]? = some d ∧ Rep k T d v
  | [], _, _, _, h, e => by cases (show _ = [] from h); simp at e
  | d :: l, _, 0, _, h, e => by
    obtain ⟨v, r, rfl, h1, h2⟩ := h
    simp at e; subst e
    exact ⟨d, rfl, h1⟩
  | d :: l, _, i + 1, _, h, e => by
    obtain ⟨v, r, rfl, h1, h2⟩ := h
    obtain ⟨u, e1, e2⟩ := Reps.getV (i := i) h2 (by simpa using e)
    exact ⟨u, by simpa using e1, e2⟩
theorem Reps.take : ∀ {l : List D} {vs : List V} (n : Nat), Reps k T l vs → Reps k T (l.take n) (vs.take n)
  | _, _, 0, _ => by simp [Reps.nil]
  | [], _, n + 1, h => by cases (show _ = [] from h); exact Reps.nil
  | d :: l, _, n + 1, h => by
    obtain ⟨v, r, rfl, h1, h2⟩ := h
    exact ⟨v, _, rfl, h1, Reps.take n h2⟩
theorem Reps.drop : ∀ {l : List D} {vs : List V} (n : Nat), Reps k T l vs → Reps k T (l.drop n) (vs.drop n)
  | _, _, 0, h => h
  | [], _, n + 1, h => by cases (show _ = [] from h); exact Reps.nil
  | d :: l, _, n + 1, h => by
    obtain ⟨v, r, rfl, h1, h2⟩ := h
    exact Reps.drop n h2
theorem Reps.set : ∀ {l : List D} {vs : List V} {d : D} {v : V} (n : Nat), Reps k T l vs → Rep k T d v → Reps k T (l.set n d) (vs.set n v)
  | [], _, _, _, n, h, _ => by cases (show _ = [] from h); exact Reps.nil
  | d :: l, _, _, _, 0, h, q => by
    obtain ⟨v, r, rfl, h1, h2⟩ := h
    exact ⟨_, _, rfl, q, h2⟩
  | d :: l, _, _, _, n + 1, h, q => by
    obtain ⟨v, r, rfl, h1, h2⟩ := h
    exact ⟨_, _, rfl, h1, Reps.set n h2 q⟩
theorem Reps.erase : ∀ {l : List D} {vs : List V} (n : Nat), Reps k T l vs → Reps k T (l.eraseIdx n) (vs.eraseIdx n)
  | [], _, n, h => by cases (show _ = [] from h); exact Reps.nil
  | d :: l, _, 0, h => by
    obtain ⟨v, r, rfl, h1, h2⟩ := h
    exact h2
  | d :: l, _, n + 1, h => by
    obtain ⟨v, r, rfl, h1, h2⟩ := h
    exact ⟨_, _, rfl, h1, Reps.erase n h2⟩
theorem Reps.rev : ∀ {l : List D} {vs : List V}, Reps k T l vs → Reps k T l.reverse vs.reverse
  | [], _, h => by cases (show _ = [] from h); exact Reps.nil
  | d :: l, _, h => by
    obtain ⟨v, r, rfl, h1, h2⟩ := h
    rw [List.reverse_cons, List.reverse_cons]
    exact (Reps.rev h2).app (.one h1)
theorem Reps.dropLast {l : List D} {vs : List V} (h : Reps k T l vs) : Reps k T l.dropLast vs.dropLast := by
  rw [List.dropLast_eq_take, List.dropLast_eq_take, h.len]
  exact h.take _
theorem Reps.repl {l : List D} {vs : List V} (h : Reps k T l vs) : ∀ n : Nat, Reps k T (List.replicate n l).flatten (List.replicate n vs).flatten
  | 0 => Reps.nil
  | n + 1 => by
    rw [List.replicate_succ, List.replicate_succ, List.flatten_cons, List.flatten_cons]
    exact h.app (Reps.repl h n)
end

/-- a value of a name -/
def RepW (k : Kx) (T : Hp) (μ : List Addr) : W → V → Prop
  | .d x, v => Rep k T x v
  | .c n, v => ∃ a, μ[n]? = some a ∧ v = .ref a
  | .b _, _ => False
/-- a value reckoned -/
def RepR (k : Kx) (T : Hp) (μ : List Addr) (σ : St) : W → V → Prop
  | .d x, v => Rep k T x v
  | .c n, v => ∃ a, μ[n]? = some a ∧ v = .ref a
  | .b i, v => σ[i]? = some (some v)
theorem RepW.r {k : Kx} {T : Hp} {μ : List Addr} {σ : St} : ∀ {w : W} {v : V}, RepW k T μ w v → RepR k T μ σ w v
  | .d _, _, h => h
  | .c _, _, h => h
  | .b _, _, h => h.elim
theorem RepR.w {k : Kx} {T : Hp} {μ : List Addr} {σ : St} : ∀ {w : W} {v : V}, RepR k T μ σ w v → w.isB = false → RepW k T μ w v
  | .d _, _, h, _ => h
  | .c _, _, h, _ => h
  | .b _, _, _, e => by cases e
theorem pre_get {α : Type} {μ μ' : List α} (p : μ <+: μ') {n : Nat} {a : α} (h : μ[n]? = some a) : μ'[n]? = some a := by
  obtain ⟨r, rfl⟩ := p
  have hl : n < μ.length := (List.getElem?_eq_some_iff.mp h).1
  rw [List.getElem?_append_left hl]; exact h
theorem RepR.mono {k : Kx} {T T' : Hp} {μ μ' : List Addr} {σ : St} (e : Same T T') (p : μ <+: μ') : ∀ {w : W} {v : V}, RepR k T μ σ w v → RepR k T' μ' σ w v
  | .d _, _, h => Rep.mono e h
  | .c _, _, ⟨a, h1, h2⟩ => ⟨a, pre_get p h1, h2⟩
  | .b _, _, h => h
theorem RepW.mono {k : Kx} {T T' : Hp} {μ μ' : List Addr} (e : Same T T') (p : μ <+: μ') : ∀ {w : W} {v : V}, RepW k T μ w v → RepW k T' μ' w v
  | .d _, _, h => Rep.mono e h
  | .c _, _, ⟨a, h1, h2⟩ => ⟨a, pre_get p h1, h2⟩
  | .b _, _, h => h
/-- an object's attributes -/
def FRep (k : Kx) (T : Hp) : List (Str × D) → List (Str × V) → Prop
  | [], hs => hs = []
  | (f, d) :: r, hs => ∃ v t, hs = (f, v) :: t ∧ Rep k T d v ∧ FRep k T r t
theorem FRep.mono {k : Kx} {T T' : Hp} (e : Same T T') : ∀ {fs : List (Str × D)} {hs : List (Str × V)}, FRep k T fs hs → FRep k T' fs hs
  | [], _, h => h
  | (_, _) :: _, _, ⟨v, t, e1, h1, h2⟩ => ⟨v, t, e1, h1.mono e, FRep.mono e h2⟩
theorem FRep.len {k : Kx} {T : Hp} : ∀ {fs : List (Str × D)} {hs : List (Str × V)}, FRep k T fs hs → hs.length = fs.length
  | [], _, h => by cases (show _ = [] from h); rfl
  | (_, _) :: _, _, ⟨v, t, e1, h1, h2⟩ => by subst e1; exact congrArg Nat.succ (FRep.len h2)
theorem FRep.keys {k : Kx} {T : Hp} : ∀ {fs : List (Str × D)} {hs : List (Str × V)}, FRep k T fs hs → hs.map (·.1) = fs.map (·.1)
  | [], _, h => by cases (show _ = [] from h); rfl
  | (_, _) :: _, _, ⟨v, t, e1, h1, h2⟩ => by subst e1; exact congrArg (List.cons _) (FRep.keys h2)
theorem FRep.get {k : Kx} {T : Hp} {f : Str} : ∀ {fs : List (Str × D)} {hs : List (Str × V)} {d : D}, FRep k T fs hs → fs.lookup f = some d → ∃ v, hs.lookup f = some v ∧ Rep k T d v
  | [], _, _, _, e => by cases e
  | (g, x) :: r, _, d, ⟨v, t, e1, h1, h2⟩, e => by
    subst e1
    rw [List.lookup_cons] at e ⊢
    cases q : (f == g) with
    | true => rw [q] at e; cases e; exact ⟨v, rfl, h1⟩
    | false => rw [q] at e; exact FRep.get h2 e
theorem FRep.put {k : Kx} {T : Hp} {f : Str} {d : D} {v : V} (h : Rep k T d v) : ∀ {fs : List (Str × D)} {hs : List (Str × V)}, FRep k T fs hs → FRep k T (putD f d fs) (putF f v hs)
  | [], _, e => by cases (show _ = [] from e); exact ⟨v, [], rfl, h, rfl⟩
  | (g, x) :: r, _, ⟨u, t, e1, h1, h2⟩ => by
    subst e1
    unfold putD putF
    by_cases q : g = f
    · rw [if_pos q, if_pos q]; exact ⟨v, t, rfl, h, h2⟩
    · rw [if_neg q, if_neg q]; exact ⟨u, _, rfl, h1, FRep.put h h2⟩
theorem FRep.split {k : Kx} {T : Hp} : ∀ {fs : List (Str × D)} {hs : List (Str × V)}, FRep k T fs hs → ∃ vs, hs = (fs.map (·.1)).zip vs ∧ Reps k T (fs.map (·.2)) vs
  | [], _, e => ⟨[], by cases (show _ = [] from e); rfl, rfl⟩
  | (g, x) :: r, _, ⟨u, t, e1, h1, h2⟩ => by
    obtain ⟨vs, q1, q2⟩ := FRep.split h2
    subst e1 q1
    exact ⟨u :: vs, rfl, u, vs, rfl, h1, q2⟩
theorem FRep.of {k : Kx} {T : Hp} : ∀ {ns : List Str} {l : List D} {vs : List V}, ns.length = l.length → Reps k T l vs → FRep k T (ns.zip l) (ns.zip vs)
  | [], _, _, _, _ => rfl
  | n :: ns, [], _, e, _ => by cases e
  | n :: ns, d :: l, _, e, ⟨v, r, e1, h1, h2⟩ => by subst e1; exact ⟨v, _, rfl, h1, FRep.of (Nat.succ.inj e) h2⟩
def CRep (k : Kx) (T H : Hp) (a : Addr) : Cl → Prop
  | .obj c fs => ∃ C dx hs, k.cl c = some C ∧ H a = some (.ins C dx hs) ∧ FRep k T fs hs
  | .lst l => ∃ vs, H a = some (.lst vs) ∧ Reps k T l vs
  | .fz l => ∃ o vs, H a = some (.frz o (.lst vs)) ∧ Reps k T l vs
  | .gone => True
theorem CRep.mv {k : Kx} {T T' H H' : Hp} {a : Addr} (e : Same T T') (q : ∀ u, H a = some u → H' a = some u) : ∀ {c : Cl}, CRep k T H a c → CRep k T' H' a c
  | .lst _, ⟨vs, q1, q2⟩ => ⟨vs, q _ q1, q2.mono e⟩
  | .fz _, ⟨o, vs, q1, q2⟩ => ⟨o, vs, q _ q1, q2.mono e⟩
  | .gone, _ => trivial
  | .obj _ _, ⟨C, dx, hs, q0, q1, q2⟩ => ⟨C, dx, hs, q0, q _ q1, q2.mono e⟩
/-- the state and the heap: T what stands for ever, Fr what the callers own, μ where the cells stand -/
structure Sim (k : Kx) (T Fr : Hp) (μ : List Addr) (s : Ss) (σ : St) (H : Hp) : Prop where
  tH : Same T H
  fH : Same Fr H
  tF : ∀ a, Fr a ≠ none → T a = none
  len : μ.length = s.g.length
  cel : ∀ (n : Nat) (a : Addr) (c : Cl), μ[n]? = some a → s.g[n]? = some c → T a = none ∧ Fr a = none ∧ H a ≠ none ∧ CRep k T H a c
  cnd : ∀ (m n : Nat) (a : Addr), μ[m]? = some a → μ[n]? = some a → m = n
  rlen : s.r.length = σ.length
  val : ∀ (i : Nat) (w : W), s.r[i]? = some (.w w) → ∃ v, σ[i]? = some (some v) ∧ RepW k T μ w v
  own : ∀ (i : Nat) (l : List D), s.r[i]? = some (.own l) → ∃ p vs, σ[i]? = some (some (.ref p)) ∧ H p = some (.lst vs) ∧ Reps k T l vs ∧ T p = none ∧ Fr p = none ∧ (∀ n : Nat, μ[n]? ≠ some p) ∧
    ∀ (j : Nat) (m : List D), s.r[j]? = some (.own m) → σ[j]? = some (some (.ref p)) → j = i
/-- a list that nothing else knows -/
def Fresh (k : Kx) (T Fr : Hp) (μ : List Addr) (s : Ss) (σ : St) (H : Hp) (l : List D) (v : V) : Prop :=
  ∃ p vs, v = .ref p ∧ H p = some (.lst vs) ∧ Reps k T l vs ∧ T p = none ∧ Fr p = none ∧ (∀ n : Nat, μ[n]? ≠ some p) ∧ ∀ (j : Nat) (m : List D), s.r[j]? = some (.own m) → σ[j]? ≠ some (some (.ref p))
/-- data as it stands now: a list may be one that changes -/
def Top (k : Kx) (T H : Hp) : D → V → Prop
  | .lst l, v => ∃ a vs, v = .ref a ∧ Rd H a (.lst vs) ∧ Reps k T l vs
  | .non, v => v = .non
  | .bl b, v => v = .bl b
  | .int i, v => v = .int i
  | .str s, v => v = .str s
  | .tup l, v => Rep k T (.tup l) v
  | .obj c ns l, v => Rep k T (.obj c ns l) v
  | .exn x f d, v => Rep k T (.exn x f d) v
theorem Rep.top {k : Kx} {T H : Hp} (e : Same T H) : ∀ {d : D} {v : V}, Rep k T d v → Top k T H d v
  | .lst l, _, h => by
    obtain ⟨a, vs, e1, h1, h2⟩ := h
    exact ⟨a, vs, e1, .inl (e _ _ h1), h2⟩
  | .tup l, _, h => h
  | .non, _, h => h
  | .bl _, _, h => h
  | .int _, _, h => h
  | .str _, _, h => h
  | .obj _ _ _, _, h => h
  | .exn _ _ _, _, h => h
theorem upd_none {T : Hp} {p : Addr} {o : HO} (h : T p = none) : Same T (upd T p o) := fun b u e => by
  rw [upd_ne (ne_of_none e h)]; exact e
section
variable {k : Kx} {T T' Fr : Hp} {μ : List Addr} {s : Ss} {σ : St} {H : Hp} {p : Addr} {o : HO} {w : W} {v : V}
theorem Sim.tn (S : Sim k T Fr μ s σ H) (h : H p = none) : T p = none := by
  cases e : T p with
  | none => rfl
  | some u => rw [S.tH _ _ e] at h; cases h
theorem Sim.fn (S : Sim k T Fr μ s σ H) (h : H p = none) : Fr p = none := by
  cases e : Fr p with
  | none => rfl
  | some u => rw [S.fH _ _ e] at h; cases h
theorem Sim.mn (S : Sim k T Fr μ s σ H) (h : H p = none) (n : Nat) : μ[n]? ≠ some p := fun e => by
  have hn : n < s.g.length := by rw [← S.len]; exact (List.getElem?_eq_some_iff.mp e).1
  obtain ⟨_, _, h3, _⟩ := S.cel n p _ e (List.getElem?_eq_getElem hn)
  exact h3 h
theorem Sim.on (S : Sim k T Fr μ s σ H) (h : H p = none) (j : Nat) (m : List D) (e : s.r[j]? = some (.own m)) : σ[j]? ≠ some (some (.ref p)) := fun q => by
  obtain ⟨p', vs, e1, e2, _⟩ := S.own j m e
  rw [e1] at q
  cases q
  rw [e2] at h; cases h
/-- a new object, standing for ever or not -/
theorem Sim.grow (S : Sim k T Fr μ s σ H) (h : H p = none) (hT : Same T T') (hp : ∀ b, b ≠ p → T' b = T b) (hq : ∀ u, T' p = some u → u = o) : Sim k T' Fr μ s σ (upd H p o) := by
  have hh : Same H (upd H p o) := upd_none h
  have tb : ∀ b, b ≠ p → T b = none → T' b = none := fun b hb e => by rw [hp b hb]; exact e
  refine ⟨fun b u e => ?_, fun b u e => hh _ _ (S.fH _ _ e), fun a ha => ?_, S.len, fun n a c e1 e2 => ?_, S.cnd, S.rlen, fun i w e => ?_, fun i l e => ?_⟩
  · by_cases hb : b = p
    · subst hb
      rw [hq u e, upd_same]
    · rw [hp b hb] at e
      exact hh _ _ (S.tH _ _ e)
  · refine tb a (fun e => ?_) (S.tF a ha)
    subst e
    exact ha (S.fn h)
  · obtain ⟨h1, h2, h3, h4⟩ := S.cel n a c e1 e2
    have hne : a ≠ p := fun e => by subst e; exact h3 h
    refine ⟨tb a hne h1, h2, by rw [upd_ne hne]; exact h3, ?_⟩
    exact CRep.mv hT (fun u z => by rw [upd_ne hne]; exact z) h4
  · obtain ⟨v, h1, h2⟩ := S.val i w e
    exact ⟨v, h1, h2.mono hT (List.prefix_refl _)⟩
  · obtain ⟨q, vs, h1, h2, h3, h4, h5, h6, h7⟩ := S.own i l e
    have hne : q ≠ p := fun e => by subst e; rw [h2] at h; cases h
    exact ⟨q, vs, h1, by rw [upd_ne hne]; exact h2, h3.mono hT, tb q hne h4, h5, h6, h7⟩
/-- a new object that stands for ever -/
theorem Sim.new (S : Sim k T Fr μ s σ H) (h : H p = none) : Sim k (upd T p o) Fr μ s σ (upd H p o) :=
  S.grow h (upd_none (S.tn h)) (fun b hb => upd_ne hb) (fun u e => by rw [upd_same] at e; cases e; rfl)
/-- a new object that nobody knows yet -/
theorem Sim.loose (S : Sim k T Fr μ s σ H) (h : H p = none) : Sim k T Fr μ s σ (upd H p o) :=
  S.grow h (fun _ _ e => e) (fun _ _ => rfl) (fun u e => by rw [S.tn h] at e; cases e)
theorem Sim.fresh (S : Sim k T Fr μ s σ H) (h : H p = none) {l : List D} {vs : List V} (r : Reps k T l vs) : Fresh k T Fr μ s σ (upd H p (.lst vs)) l (.ref p) :=
  ⟨p, vs, rfl, upd_same, r, S.tn h, S.fn h, S.mn h, S.on h⟩
/-- a known object that nobody else knows is made one that stands for ever -/
theorem Sim.keep (S : Sim k T Fr μ s σ H) {l : List D} (f : Fresh k T Fr μ s σ H l v) : ∃ T', Same T T' ∧ Sim k T' Fr μ s σ H ∧ Rep k T' (.lst l) v := by
  obtain ⟨p, vs, rfl, h1, h2, h3, h4, h5, h6⟩ := f
  have hT : Same T (upd T p (.lst vs)) := upd_none h3
  refine ⟨upd T p (.lst vs), hT, ⟨fun b u e => ?_, S.fH, fun a ha => ?_, S.len, fun n a c e1 e2 => ?_, S.cnd, S.rlen, fun i w e => ?_, fun i l e => ?_⟩, ⟨p, vs, rfl, upd_same, h2.mono hT⟩⟩
  · by_cases hb : b = p
    · subst hb; rw [upd_same] at e; cases e; exact h1
    · rw [upd_ne hb] at e; exact S.tH _ _ e
  · rw [upd_ne (fun e => by subst e; exact ha h4)]
    exact S.tF a ha
  · obtain ⟨q1, q2, q3, q4⟩ := S.cel n a c e1 e2
    have hne : a ≠ p := fun e => by subst e; exact h5 n e1
    refine ⟨by rw [upd_ne hne]; exact q1, q2, q3, ?_⟩
    exact CRep.mv hT (fun u z => z) q4
  · obtain ⟨v, q1, q2⟩ := S.val i w e
    exact ⟨v, q1, q2.mono hT (List.prefix_refl _)⟩
  · obtain ⟨q, vs', q1, q2, q3, q4, q5, q6, q7⟩ := S.own i l e
    have hne : q ≠ p := fun z => by subst z; exact h6 i l e q1
    exact ⟨q, vs', q1, q2, q3.mono hT, by rw [upd_ne hne]; exact q4, q5, q6, q7⟩
/-- an owned list of a name is frozen -/
theorem Sim.freeze (S : Sim k T Fr μ s σ H) {i : Nat} {l : List D} (e : s.r[i]? = some (.own l)) : ∃ T' v, Same T T' ∧ σ[i]? = some (some v) ∧ Sim k T' Fr μ { s with r := s.r.set i (.w (.d (.lst l))) } σ H ∧ Rep k T' (.lst l) v := by
  obtain ⟨p, vs, h0, h1, h2, h3, h4, h5, h6⟩ := S.own i l e
  have hT : Same T (upd T p (.lst vs)) := upd_none h3
  have hi : i < s.r.length := (List.getElem?_eq_some_iff.mp e).1
  have hR : Rep k (upd T p (.lst vs)) (.lst l) (.ref p) := ⟨p, vs, rfl, upd_same, h2.mono hT⟩
  refine ⟨upd T p (.lst vs), .ref p, hT, h0, ⟨fun b u e => ?_, S.fH, fun a ha => ?_, S.len, fun n a c e1 e2 => ?_, S.cnd, by simpa using S.rlen, fun j w ej => ?_, fun j m ej => ?_⟩, hR⟩
  · by_cases hb : b = p
    · subst hb; rw [upd_same] at e; cases e; exact h1
    · rw [upd_ne hb] at e; exact S.tH _ _ e
  · rw [upd_ne (fun e => by subst e; exact ha h4)]
    exact S.tF a ha
  · obtain ⟨q1, q2, q3, q4⟩ := S.cel n a c e1 e2
    have hne : a ≠ p := fun e => by subst e; exact h5 n e1
    refine ⟨by rw [upd_ne hne]; exact q1, q2, q3, ?_⟩
    exact CRep.mv hT (fun u z => z) q4
  · by_cases hj : i = j
    · subst hj
      rw [List.getElem?_set_self hi] at ej
      cases ej
      exact ⟨_, h0, hR⟩
    · rw [List.getElem?_set_ne hj] at ej
      obtain ⟨v, q1, q2⟩ := S.val j w ej
      exact ⟨v, q1, q2.mono hT (List.prefix_refl _)⟩
  · by_cases hj : i = j
    · subst hj
      rw [List.getElem?_set_self hi] at ej
      cases ej
    · rw [List.getElem?_set_ne hj] at ej
      obtain ⟨q, vs', q1, q2, q3, q4, q5, q6, q7⟩ := S.own j m ej
      have hne : q ≠ p := fun z => by subst z; exact hj (h6 j m ej q1).symm
      refine ⟨q, vs', q1, q2, q3.mono hT, by rw [upd_ne hne]; exact q4, q5, q6, fun j' m' ej' => ?_⟩
      by_cases hj' : i = j'
      · subst hj'
        rw [List.getElem?_set_self hi] at ej'
        cases ej'
      · rw [List.getElem?_set_ne hj'] at ej'
        exact q7 j' m' ej'
theorem Sim.look (S : Sim k T Fr μ s σ H) : ∀ {w : W} {v : V} {d : D}, RepR k T μ σ w v → look s w = some d → Top k T H d v
  | .d x, v, d, h, e => by
    cases e
    exact Rep.top S.tH h
  | .c n, v, d, ⟨a, h1, h2⟩, e => by
    subst h2
    unfold Pc.look at e
    dsimp only at e
    split at e
    · rename_i l hl
      cases e
      obtain ⟨_, _, _, vs, q1, q2⟩ := S.cel n a _ h1 hl
      exact ⟨a, vs, rfl, .inl q1, q2⟩
    · rename_i l hl
      cases e
      obtain ⟨_, _, _, o, vs, q1, q2⟩ := S.cel n a _ h1 hl
      exact ⟨a, vs, rfl, .inr ⟨o, q1⟩, q2⟩
    · cases e
  | .b i, v, d, h, e => by
    have h : σ[i]? = some (some v) := h
    unfold Pc.look at e
    dsimp only at e
    split at e
    · rename_i l hl
      cases e
      obtain ⟨p, vs, q0, q1, q2, _⟩ := S.own i l hl
      rw [q0] at h; cases h
      exact ⟨p, vs, rfl, .inl q1, q2⟩
    · rename_i x hx
      cases e
      obtain ⟨u, q0, q1⟩ := S.val i _ hx
      rw [q0] at h; cases h
      exact Rep.top S.tH q1
    · cases e
theorem Sim.lookL (S : Sim k T Fr μ s σ H) : ∀ {w : W} {v : V} {l : List D}, RepR k T μ σ w v → lookL s w = some l → ∃ a vs, v = .ref a ∧ H a = some (.lst vs) ∧ Reps k T l vs
  | .d x, v, l, h, e => by
    cases x <;> first | (cases e; done) | skip
    cases e
    obtain ⟨a, vs, e1, h1, h2⟩ := h
    exact ⟨a, vs, e1, S.tH _ _ h1, h2⟩
  | .c n, v, l, ⟨a, h1, h2⟩, e => by
    subst h2
    unfold Pc.lookL at e
    dsimp only at e
    split at e
    · rename_i m hl
      cases e
      obtain ⟨_, _, _, vs, q1, q2⟩ := S.cel n a _ h1 hl
      exact ⟨a, vs, rfl, q1, q2⟩
    · cases e
  | .b i, v, l, h, e => by
    have h : σ[i]? = some (some v) := h
    unfold Pc.lookL at e
    dsimp only at e
    split at e
    · rename_i m hl
      cases e
      obtain ⟨p, vs, q0, q1, q2, _⟩ := S.own i _ hl
      rw [q0] at h; cases h
      exact ⟨p, vs, rfl, q1, q2⟩
    · rename_i m hx
      cases e
      obtain ⟨u, q0, q1⟩ := S.val i _ hx
      rw [q0] at h; cases h
      obtain ⟨a, vs, e1, h1, h2⟩ := q1
      exact ⟨a, vs, e1, S.tH _ _ h1, h2⟩
    · cases e
/-- the list of a value that may be changed -/
theorem Sim.getL (S : Sim k T Fr μ s σ H) {l : List D} (h : RepR k T μ σ w v) (e : getL s w = some l) :
    ∃ a vs, v = .ref a ∧ H a = some (.lst vs) ∧ Reps k T l vs ∧ T a = none ∧ Fr a = none ∧
      ∀ l' vs' s', Reps k T l' vs' → putL s w l' = some s' → Sim k T Fr μ s' σ (upd H a (.lst vs')) := by
  have base : ∀ a : Addr, T a = none → Fr a = none → ∀ o : HO, Same T (upd H a o) ∧ Same Fr (upd H a o) := fun a ha hf o =>
    ⟨fun b u z => by rw [upd_ne (ne_of_none z ha)]; exact S.tH _ _ z, fun b u z => by rw [upd_ne (ne_of_none z hf)]; exact S.fH _ _ z⟩
  cases w with
  | d x => cases e
  | c n =>
    obtain ⟨a, h1, rfl⟩ := h
    unfold Pc.getL at e
    dsimp only at e
    split at e
    · rename_i l0 hl
      cases e
      obtain ⟨t1, t2, t3, vs, q1, q2⟩ := S.cel n a _ h1 hl
      refine ⟨a, vs, rfl, q1, q2, t1, t2, fun l' vs' s' r' e' => ?_⟩
      unfold putL at e'
      simp only [hl] at e'
      cases e'
      have hn : n < s.g.length := (List.getElem?_eq_some_iff.mp hl).1
      obtain ⟨b1, b2⟩ := base a t1 t2 (.lst vs')
      refine ⟨b1, b2, S.tF, by simpa using S.len, fun m a' c e1 e2 => ?_, S.cnd, S.rlen, S.val, fun i m e1 => ?_⟩
      · by_cases hm : n = m
        · subst hm
          rw [h1] at e1; cases e1
          rw [List.getElem?_set_self hn] at e2
          cases e2
          exact ⟨t1, t2, by rw [upd_same]; simp, vs', upd_same, r'⟩
        · rw [List.getElem?_set_ne hm] at e2
          obtain ⟨u1, u2, u3, u4⟩ := S.cel m a' c e1 e2
          have hne : a' ≠ a := fun z => by subst z; exact hm (S.cnd _ _ _ h1 e1)
          refine ⟨u1, u2, by rw [upd_ne hne]; exact u3, ?_⟩
          exact CRep.mv (fun _ _ z => z) (fun u z => by rw [upd_ne hne]; exact z) u4
      · obtain ⟨q, ws, u1, u2, u3, u4, u5, u6, u7⟩ := S.own i m e1
        have hne : q ≠ a := fun z => by subst z; exact u6 n h1
        exact ⟨q, ws, u1, by rw [upd_ne hne]; exact u2, u3, u4, u5, u6, u7⟩
    · cases e
  | b i =>
    have h : σ[i]? = some (some v) := h
    unfold Pc.getL at e
    dsimp only at e
    split at e
    · rename_i l0 hl
      cases e
      obtain ⟨p, vs, q0, q1, q2, t1, t2, t3, t4⟩ := S.own i _ hl
      rw [q0] at h; cases h
      refine ⟨p, vs, rfl, q1, q2, t1, t2, fun l' vs' s' r' e' => ?_⟩
      unfold putL at e'
      simp only [hl] at e'
      cases e'
      have hi : i < s.r.length := (List.getElem?_eq_some_iff.mp hl).1
      obtain ⟨b1, b2⟩ := base p t1 t2 (.lst vs')
      have other : ∀ {j : Nat} {m : List D}, (s.r.set i (.own l'))[j]? = some (.own m) → ∃ m', s.r[j]? = some (.own m') := fun {j m} ej => by
        by_cases hj : i = j
        · subst hj; exact ⟨_, hl⟩
        · rw [List.getElem?_set_ne hj] at ej; exact ⟨m, ej⟩
      refine ⟨b1, b2, S.tF, S.len, fun n a' c e1 e2 => ?_, S.cnd, by simpa using S.rlen, fun j w ej => ?_, fun j m ej => ?_⟩
      · obtain ⟨u1, u2, u3, u4⟩ := S.cel n a' c e1 e2
        have hne : a' ≠ p := fun z => by subst z; exact t3 n e1
        refine ⟨u1, u2, by rw [upd_ne hne]; exact u3, ?_⟩
        exact CRep.mv (fun _ _ z => z) (fun u z => by rw [upd_ne hne]; exact z) u4
      · by_cases hj : i = j
        · subst hj; rw [List.getElem?_set_self hi] at ej; cases ej
        · rw [List.getElem?_set_ne hj] at ej; exact S.val j w ej
      · by_cases hj : i = j
        · subst hj
          rw [List.getElem?_set_self hi] at ej
          cases ej
          refine ⟨p, vs', q0, upd_same, r', t1, t2, t3, fun j' m' e1 e2 => ?_⟩
          obtain ⟨m'', e3⟩ := other e1
          exact t4 j' m'' e3 e2
        · rw [List.getElem?_set_ne hj] at ej
          obtain ⟨q, ws, u1, u2, u3, u4, u5, u6, u7⟩ := S.own j m ej
          have hne : q ≠ p := fun z => by subst z; exact hj (t4 j m ej u1).symm
          refine ⟨q, ws, u1, by rw [upd_ne hne]; exact u2, u3, u4, u5, u6, fun j' m' e1 e2 => ?_⟩
          obtain ⟨m'', e3⟩ := other e1
          exact u7 j' m'' e3 e2
    · cases e
/-- a name is stored -/
theorem Sim.setW (S : Sim k T Fr μ s σ H) (i : Nat) (h : RepW k T μ w v) : Sim k T Fr μ { s with r := s.r.set i (.w w) } (σ.set i (some v)) H := by
  refine ⟨S.tH, S.fH, S.tF, S.len, S.cel, S.cnd, by simpa using S.rlen, fun j u ej => ?_, fun j m ej => ?_⟩
  · by_cases hj : i = j
    · subst hj
      have hi : i < s.r.length := by
        have := (List.getElem?_eq_some_iff.mp ej).1
        simpa using this
      rw [List.getElem?_set_self hi] at ej
      cases ej
      exact ⟨v, List.getElem?_set_self (by rw [← S.rlen]; exact hi), h⟩
    · rw [List.getElem?_set_ne hj] at ej
      obtain ⟨v', q1, q2⟩ := S.val j u ej
      exact ⟨v', by rw [List.getElem?_set_ne hj]; exact q1, q2⟩
  · by_cases hj : i = j
    · subst hj
      have hi : i < s.r.length := by
        have := (List.getElem?_eq_some_iff.mp ej).1
        simpa using this
      rw [List.getElem?_set_self hi] at ej
      cases ej
    · rw [List.getElem?_set_ne hj] at ej
      obtain ⟨q, ws, u1, u2, u3, u4, u5, u6, u7⟩ := S.own j m ej
      refine ⟨q, ws, by rw [List.getElem?_set_ne hj]; exact u1, u2, u3, u4, u5, u6, fun j' m' e1 e2 => ?_⟩
      by_cases hj' : i = j'
      · subst hj'
        have hi : i < s.r.length := by
          have := (List.getElem?_eq_some_iff.mp e1).1
          simpa using this
        rw [List.getElem?_set_self hi] at e1
        cases e1
      · rw [List.getElem?_set_ne hj'] at e1 e2
        exact u7 j' m' e1 e2
/-- a list that nothing else knows becomes a name's own -/
theorem Sim.setO (S : Sim k T Fr μ s σ H) (i : Nat) {l : List D} (h : Fresh k T Fr μ s σ H l v) : Sim k T Fr μ { s with r := s.r.set i (.own l) } (σ.set i (some v)) H := by
  obtain ⟨p, vs, rfl, h1, h2, h3, h4, h5, h6⟩ := h
  refine ⟨S.tH, S.fH, S.tF, S.len, S.cel, S.cnd, by simpa using S.rlen, fun j u ej => ?_, fun j m ej => ?_⟩
  · by_cases hj : i = j
    · subst hj
      have hi : i < s.r.length := by
        have := (List.getElem?_eq_some_iff.mp ej).1
        simpa using this
      rw [List.getElem?_set_self hi] at ej
      cases ej
    · rw [List.getElem?_set_ne hj] at ej
      obtain ⟨v', q1, q2⟩ := S.val j u ej
      exact ⟨v', by rw [List.getElem?_set_ne hj]; exact q1, q2⟩
  · by_cases hj : i = j
    · subst hj
      have hi : i < s.r.length := by
        have := (List.getElem?_eq_some_iff.mp ej).1
        simpa using this
      rw [List.getElem?_set_self hi] at ej
      cases ej
      refine ⟨p, vs, List.getElem?_set_self (by rw [← S.rlen]; exact hi), h1, h2, h3, h4, h5, fun j' m' e1 e2 => ?_⟩
      by_cases hj' : i = j'
      · exact hj'.symm
      · rw [List.getElem?_set_ne hj'] at e1 e2
        exact absurd e2 (h6 j' m' e1)
    · rw [List.getElem?_set_ne hj] at ej
      obtain ⟨q, ws, u1, u2, u3, u4, u5, u6, u7⟩ := S.own j m ej
      refine ⟨q, ws, by rw [List.getElem?_set_ne hj]; exact u1, u2, u3, u4, u5, u6, fun j' m' e1 e2 => ?_⟩
      by_cases hj' : i = j'
      · subst hj'
        have hi : i < s.r.length := by
          have := (List.getElem?_eq_some_iff.mp e1).1
          simpa using this
        rw [List.getElem?_set_self (by rw [← S.rlen]; exact hi)] at e2
        cases e2
        exact absurd u1 (h6 j m ej)
      · rw [List.getElem?_set_ne hj'] at e1 e2
        exact u7 j' m' e1 e2
/-- a list that nothing else knows is put under the callers' things for a while -/
theorem Sim.lend (S : Sim k T Fr μ s σ H) (h1 : H p = some o) (h3 : T p = none) (h4 : Fr p = none) (h5 : ∀ n : Nat, μ[n]? ≠ some p) (h6 : ∀ (j : Nat) (m : List D), s.r[j]? = some (.own m) → σ[j]? ≠ some (some (.ref p))) :
    Sim k T (upd Fr p o) μ s σ H := by
  refine ⟨S.tH, fun b u e => ?_, fun a ha => ?_, S.len, fun n a c e1 e2 => ?_, S.cnd, S.rlen, S.val, fun i m e1 => ?_⟩
  · by_cases hb : b = p
    · subst hb; rw [upd_same] at e; cases e; exact h1
    · rw [upd_ne hb] at e; exact S.fH _ _ e
  · by_cases hb : a = p
    · subst hb; exact h3
    · rw [upd_ne hb] at ha; exact S.tF a ha
  · obtain ⟨u1, u2, u3, u4⟩ := S.cel n a c e1 e2
    have hne : a ≠ p := fun z => by subst z; exact h5 n e1
    exact ⟨u1, by rw [upd_ne hne]; exact u2, u3, u4⟩
  · obtain ⟨q, ws, u1, u2, u3, u4, u5, u6, u7⟩ := S.own i m e1
    have hne : q ≠ p := fun z => by subst z; exact h6 i m e1 u1
    exact ⟨q, ws, u1, u2, u3, u4, by rw [upd_ne hne]; exact u5, u6, u7⟩
/-- .. and taken back -/
theorem Sim.back (S : Sim k T (upd Fr p o) μ s σ H) (h4 : Fr p = none) : Sim k T Fr μ s σ H ∧ H p = some o ∧ T p = none ∧ (∀ n : Nat, μ[n]? ≠ some p) ∧ ∀ (j : Nat) (m : List D), s.r[j]? = some (.own m) → σ[j]? ≠ some (some (.ref p)) := by
  have kn : ∀ a, upd Fr p o a = none → Fr a = none := fun a e => by
    by_cases hb : a = p
    · subst hb; exact h4
    · rw [upd_ne hb] at e; exact e
  have np : upd Fr p o p ≠ none := by rw [upd_same]; simp
  refine ⟨⟨S.tH, fun b u e => S.fH _ _ (by rw [upd_ne (ne_of_none e h4)]; exact e), fun a ha => S.tF a fun e => ha (kn a e), S.len, fun n a c e1 e2 => ?_, S.cnd, S.rlen, S.val, fun i m e1 => ?_⟩, S.fH _ _ upd_same, S.tF p np, fun n e => ?_, fun j m e q => ?_⟩
  · obtain ⟨u1, u2, u3, u4⟩ := S.cel n a c e1 e2
    exact ⟨u1, kn a u2, u3, u4⟩
  · obtain ⟨q, ws, u1, u2, u3, u4, u5, u6, u7⟩ := S.own i m e1
    exact ⟨q, ws, u1, u2, u3, u4, kn q u5, u6, u7⟩
  · have hn : n < s.g.length := by rw [← S.len]; exact (List.getElem?_eq_some_iff.mp e).1
    obtain ⟨_, u2, _⟩ := S.cel n p _ e (List.getElem?_eq_getElem hn)
    exact np u2
  · obtain ⟨q', ws, u1, u2, u3, u4, u5, u6, u7⟩ := S.own j m e
    rw [u1] at q
    cases q
    exact np u5
/-- a new shared cell -/
theorem Sim.cell (S : Sim k T Fr μ s σ H) (h : H p = none) {l : List D} {vs : List V} (r : Reps k T l vs) : Sim k T Fr (μ ++ [p]) { s with g := s.g ++ [.lst l] } σ (upd H p (.lst vs)) := by
  have S1 := S.loose (o := .lst vs) h
  have get : ∀ n a, (μ ++ [p])[n]? = some a → μ[n]? = some a ∨ (n = μ.length ∧ a = p) := fun n a e => by
    by_cases hn : n < μ.length
    · rw [List.getElem?_append_left hn] at e; exact .inl e
    · rw [List.getElem?_append_right (by omega)] at e
      obtain ⟨h1, h2⟩ := List.getElem?_eq_some_iff.mp e
      simp at h1 h2
      exact .inr ⟨by omega, h2.symm⟩
  refine ⟨S1.tH, S1.fH, S1.tF, by simp [S.len], fun n a c e1 e2 => ?_, fun m n a e1 e2 => ?_, S1.rlen, fun i w e => ?_, fun i m e => ?_⟩
  · rcases get n a e1 with e1 | ⟨rfl, rfl⟩
    · have hn : n < s.g.length := by rw [← S.len]; exact (List.getElem?_eq_some_iff.mp e1).1
      rw [List.getElem?_append_left hn] at e2
      exact S1.cel n a c e1 e2
    · rw [S.len, List.getElem?_append_right (Nat.le_refl _)] at e2
      simp at e2
      subst e2
      exact ⟨S.tn h, S.fn h, by rw [upd_same]; simp, vs, upd_same, r⟩
  · rcases get m a e1 with q1 | ⟨h1, h2⟩
    · rcases get n a e2 with q2 | ⟨h3, h4⟩
      · exact S.cnd _ _ _ q1 q2
      · subst h4; exact absurd q1 (S.mn h m)
    · rcases get n a e2 with q2 | ⟨h3, h4⟩
      · subst h2; exact absurd q2 (S.mn h n)
      · omega
  · obtain ⟨v, h1, h2⟩ := S1.val i w e
    exact ⟨v, h1, h2.mono (fun _ _ z => z) (List.prefix_append _ _)⟩
  · obtain ⟨q, ws, u1, u2, u3, u4, u5, u6, u7⟩ := S1.own i m e
    refine ⟨q, ws, u1, u2, u3, u4, u5, fun n e2 => ?_, u7⟩
    rcases get n q e2 with q2 | ⟨h3, h4⟩
    · exact u6 n q2
    · subst h4; exact S.on h i m e u1
/-- a list that nothing else knows becomes a shared cell -/
theorem Sim.share (S : Sim k T Fr μ s σ H) {l : List D} {v : V} (f : Fresh k T Fr μ s σ H l v) : ∃ p, v = .ref p ∧ Sim k T Fr (μ ++ [p]) { s with g := s.g ++ [.lst l] } σ H := by
  obtain ⟨p, vs, rfl, h1, h2, h3, h4, h5, h6⟩ := f
  have get : ∀ n a, (μ ++ [p])[n]? = some a → μ[n]? = some a ∨ (n = μ.length ∧ a = p) := fun n a e => by
    by_cases hn : n < μ.length
    · rw [List.getElem?_append_left hn] at e; exact .inl e
    · rw [List.getElem?_append_right (by omega)] at e
      obtain ⟨h1, h2⟩ := List.getElem?_eq_some_iff.mp e
      simp at h1 h2
      exact .inr ⟨by omega, h2.symm⟩
  refine ⟨p, rfl, S.tH, S.fH, S.tF, by simp [S.len], fun n a c e1 e2 => ?_, fun m n a e1 e2 => ?_, S.rlen, fun i w e => ?_, fun i m e => ?_⟩
  · rcases get n a e1 with e1 | ⟨rfl, rfl⟩
    · have hn : n < s.g.length := by rw [← S.len]; exact (List.getElem?_eq_some_iff.mp e1).1
      rw [List.getElem?_append_left hn] at e2
      exact S.cel n a c e1 e2
    · rw [S.len, List.getElem?_append_right (Nat.le_refl _)] at e2
      simp at e2
      subst e2
      exact ⟨h3, h4, by rw [h1]; simp, vs, h1, h2⟩
  · rcases get m a e1 with q1 | ⟨u1, u2⟩
    · rcases get n a e2 with q2 | ⟨u3, u4⟩
      · exact S.cnd _ _ _ q1 q2
      · subst u4; exact absurd q1 (h5 m)
    · rcases get n a e2 with q2 | ⟨u3, u4⟩
      · subst u2; exact absurd q2 (h5 n)
      · omega
  · obtain ⟨v, q1, q2⟩ := S.val i w e
    exact ⟨v, q1, q2.mono (fun _ _ z => z) (List.prefix_append _ _)⟩
  · obtain ⟨q, ws, u1, u2, u3, u4, u5, u6, u7⟩ := S.own i m e
    refine ⟨q, ws, u1, u2, u3, u4, u5, fun n e2 => ?_, u7⟩
    rcases get n q e2 with q2 | ⟨u3, u4⟩
    · exact u6 n q2
    · subst u4; exact h6 i m e u1
end
end Pc

set_option Elab.async false
set_option linter.all false
set_option maxRecDepth 100000
set_option maxHeartbeats 4000000
namespace Pc
open PySem L2
section
variable {k : Kx} {T T' Fr : Hp} {μ : List Addr} {s : Ss} {σ : St} {H : Hp} {p : Addr} {o : HO} {w : W} {v : V}
/-- a new shared cell of any kind -/
theorem Sim.cellG (S : Sim k T Fr μ s σ H) (h : H p = none) {c : Cl} (r : CRep k T (upd H p o) p c) : Sim k T Fr (μ ++ [p]) { s with g := s.g ++ [c] } σ (upd H p o) := by
  have S1 := S.loose (o := o) h
  have get : ∀ n a, (μ ++ [p])[n]? = some a → μ[n]? = some a ∨ (n = μ.length ∧ a = p) := fun n a e => by
    by_cases hn : n < μ.length
    · rw [List.getElem?_append_left hn] at e; exact .inl e
    · rw [List.getElem?_append_right (by omega)] at e
      obtain ⟨h1, h2⟩ := List.getElem?_eq_some_iff.mp e
      simp at h1 h2
      exact .inr ⟨by omega, h2.symm⟩
  refine ⟨S1.tH, S1.fH, S1.tF, by simp [S.len], fun n a c' e1 e2 => ?_, fun m n a e1 e2 => ?_, S1.rlen, fun i w e => ?_, fun i m e => ?_⟩
  · rcases get n a e1 with e1 | ⟨rfl, rfl⟩
    · have hn : n < s.g.length := by rw [← S.len]; exact (List.getElem?_eq_some_iff.mp e1).1
      rw [List.getElem?_append_left hn] at e2
      exact S1.cel n a c' e1 e2
    · rw [S.len, List.getElem?_append_right (Nat.le_refl _)] at e2
      simp at e2
      subst e2
      exact ⟨S.tn h, S.fn h, by rw [upd_same]; simp, r⟩
  · rcases get m a e1 with q1 | ⟨h1, h2⟩
    · rcases get n a e2 with q2 | ⟨h3, h4⟩
      · exact S.cnd _ _ _ q1 q2
      · subst h4; exact absurd q1 (S.mn h m)
    · rcases get n a e2 with q2 | ⟨h3, h4⟩
      · subst h2; exact absurd q2 (S.mn h n)
      · omega
  · obtain ⟨v, h1, h2⟩ := S1.val i w e
    exact ⟨v, h1, h2.mono (fun _ _ z => z) (List.prefix_append _ _)⟩
  · obtain ⟨q, ws, u1, u2, u3, u4, u5, u6, u7⟩ := S1.own i m e
    refine ⟨q, ws, u1, u2, u3, u4, u5, fun n e2 => ?_, u7⟩
    rcases get n q e2 with q2 | ⟨h3, h4⟩
    · exact u6 n q2
    · subst h4; exact S.on h i m e u1
/-- a new own object, without attributes -/
theorem Sim.cellO (S : Sim k T Fr μ s σ H) {x dx C : Addr} {c : Nat} (hx : H x = none) (hd : H dx = none) (ne : dx ≠ x) (hc : k.cl c = some C) :
    Sim k T Fr (μ ++ [x]) { s with g := s.g ++ [.obj c []] } σ (upd (upd H dx (.own x)) x (.ins C dx [])) :=
  (S.loose (o := .own x) hd).cellG (by rw [upd_ne (Ne.symm ne)]; exact hx) ⟨C, dx, [], hc, upd_same, rfl⟩
/-- the last cell, an own object, is made one that stands for ever -/
theorem Sim.pop {x : Addr} {g : List Cl} {c : Nat} {fs : List (Str × D)} (S : Sim k T Fr (μ ++ [x]) ⟨g ++ [.obj c fs], []⟩ [] H) :
    ∃ T', Same T T' ∧ Sim k T' Fr μ ⟨g, []⟩ [] H ∧ Rep k T' (.obj c (fs.map (·.1)) (fs.map (·.2))) (.ref x) := by
  have hl : μ.length = g.length := by have := S.len; simpa using this
  have at_ : (μ ++ [x])[μ.length]? = some x := by simp
  obtain ⟨t1, t2, t3, C, dx, hs, q0, q1, q2⟩ := S.cel μ.length x (.obj c fs) at_ (by rw [hl]; simp)
  obtain ⟨vs, e1, e2⟩ := q2.split
  have hT : Same T (upd T x (.ins C dx hs)) := upd_none t1
  have old : ∀ {n : Nat} {a : Addr}, μ[n]? = some a → (μ ++ [x])[n]? = some a := fun {n a} e => pre_get (List.prefix_append _ _) e
  have lt : ∀ {n : Nat} {a : Addr}, μ[n]? = some a → n < μ.length := fun {n a} e => (List.getElem?_eq_some_iff.mp e).1
  refine ⟨upd T x (.ins C dx hs), hT, ⟨fun b u e => ?_, S.fH, fun a ha => ?_, hl, fun n a c' z1 z2 => ?_, fun m n a z1 z2 => S.cnd m n a (old z1) (old z2), rfl, fun i w e => by simp at e, fun i l e => by simp at e⟩, ⟨x, C, dx, vs, rfl, q0, ?_, by simp, e2.mono hT⟩⟩
  · by_cases hb : b = x
    · subst hb; rw [upd_same] at e; cases e; exact q1
    · rw [upd_ne hb] at e; exact S.tH _ _ e
  · rw [upd_ne (fun e => by subst e; exact ha t2)]
    exact S.tF a ha
  · have hn := lt z1
    have z3 : (g ++ [Cl.obj c fs])[n]? = some c' := by rw [List.getElem?_append_left (by omega)]; exact z2
    obtain ⟨u1, u2, u3, u4⟩ := S.cel n a c' (old z1) z3
    have hne : a ≠ x := fun e => by
      subst e
      have := S.cnd _ _ _ (old z1) at_
      omega
    exact ⟨by rw [upd_ne hne]; exact u1, u2, u3, CRep.mv hT (fun u z => z) u4⟩
  · rw [upd_same, e1]
/-- an own object's class and attributes' names -/
theorem Sim.cls (S : Sim k T Fr μ s σ H) {c : Nat} {ns : List Str} : ∀ {w : W} {v : V}, RepR k T μ σ w v → clsW s w = some (c, ns) → ∃ a C dx hs, v = .ref a ∧ k.cl c = some C ∧ H a = some (.ins C dx hs) ∧ hs.map (·.1) = ns
  | .d (.obj c' ns' l), v, h, e => by
    cases e
    obtain ⟨a, C, dx, vs, rfl, q1, q2, q3, q4⟩ := h
    have hk := (FRep.of q3 q4).keys
    exact ⟨a, C, dx, _, rfl, q1, S.tH _ _ q2, by rw [hk]; exact List.map_fst_zip (Nat.le_of_eq q3)⟩
  | .c n, v, ⟨a, h1, h2⟩, e => by
    subst h2
    unfold clsW at e
    dsimp only at e
    split at e
    · rename_i c' fs hl
      cases e
      obtain ⟨_, _, _, C, dx, hs, q0, q1, q2⟩ := S.cel n a _ h1 hl
      exact ⟨a, C, dx, hs, rfl, q0, q1, q2.keys⟩
    · cases e
  | .d .non, _, _, e => by cases e
  | .d (.bl _), _, _, e => by cases e
  | .d (.int _), _, _, e => by cases e
  | .d (.str _), _, _, e => by cases e
  | .d (.tup _), _, _, e => by cases e
  | .d (.lst _), _, _, e => by cases e
  | .b _, _, _, e => by cases e
/-- an own object's attribute -/
theorem Sim.fld (S : Sim k T Fr μ s σ H) {f : Str} {cs : List Nat} {d : D} : ∀ {w : W} {v : V}, RepR k T μ σ w v → fldW s f cs w = some d → ∃ a C c dx hs u, v = .ref a ∧ c ∈ cs ∧ k.cl c = some C ∧ H a = some (.ins C dx hs) ∧ hs.lookup f = some u ∧ Rep k T d u
  | .d (.obj c' ns' l), v, h, e => by
    unfold fldW at e
    dsimp only at e
    split at e
    · rename_i hc
      obtain ⟨a, C, dx, vs, rfl, q1, q2, q3, q4⟩ := h
      obtain ⟨u, z1, z2⟩ := (FRep.of q3 q4).get e
      exact ⟨a, C, c', dx, _, u, rfl, by simpa using hc, q1, S.tH _ _ q2, z1, z2⟩
    · cases e
  | .c n, v, ⟨a, h1, h2⟩, e => by
    subst h2
    unfold fldW at e
    dsimp only at e
    split at e
    · rename_i c' fs hl
      split at e
      · rename_i hc
        obtain ⟨_, _, _, C, dx, hs, q0, q1, q2⟩ := S.cel n a _ h1 hl
        obtain ⟨u, z1, z2⟩ := q2.get e
        exact ⟨a, C, c', dx, hs, u, rfl, by simpa using hc, q0, q1, z1, z2⟩
      · cases e
    · cases e
  | .d .non, _, _, e => by cases e
  | .d (.bl _), _, _, e => by cases e
  | .d (.int _), _, _, e => by cases e
  | .d (.str _), _, _, e => by cases e
  | .d (.tup _), _, _, e => by cases e
  | .d (.lst _), _, _, e => by cases e
  | .b _, _, _, e => by cases e
/-- an own object's attribute is stored -/
theorem Sim.pset (S : Sim k T Fr μ s σ H) {f : Str} {cs : List Nat} {d : D} {u : V} {s' : Ss} (hd : Rep k T d u) : ∀ {w : W} {v : V}, RepR k T μ σ w v → psetW s f d cs w = some s' →
    ∃ a C c dx hs, v = .ref a ∧ c ∈ cs ∧ k.cl c = some C ∧ H a = some (.ins C dx hs) ∧ hs.length < 1000 ∧ Sim k T Fr μ s' σ (upd H a (.ins C dx (putF f u hs)))
  | .c n, v, ⟨a, h1, h2⟩, e => by
    subst h2
    unfold psetW at e
    dsimp only at e
    split at e
    · rename_i c' fs hl
      split at e
      · rename_i hc
        rw [Bool.and_eq_true] at hc
        obtain ⟨t1, t2, t3, C, dx, hs, q0, q1, q2⟩ := S.cel n a _ h1 hl
        cases e
        have hlen : hs.length < 1000 := by rw [q2.len]; exact of_decide_eq_true hc.2
        refine ⟨a, C, c', dx, hs, rfl, by simpa using hc.1, q0, q1, hlen, ?_⟩
        have hn : n < s.g.length := (List.getElem?_eq_some_iff.mp hl).1
        refine ⟨fun b u z => by rw [upd_ne (ne_of_none z t1)]; exact S.tH _ _ z, fun b u z => by rw [upd_ne (ne_of_none z t2)]; exact S.fH _ _ z, S.tF, by simpa using S.len, fun m a' c e1 e2 => ?_, S.cnd, S.rlen, S.val, fun i m e1 => ?_⟩
        · by_cases hm : n = m
          · subst hm
            rw [h1] at e1; cases e1
            rw [List.getElem?_set_self hn] at e2
            cases e2
            exact ⟨t1, t2, by rw [upd_same]; simp, C, dx, _, q0, upd_same, q2.put hd⟩
          · rw [List.getElem?_set_ne hm] at e2
            obtain ⟨u1, u2, u3, u4⟩ := S.cel m a' c e1 e2
            have hne : a' ≠ a := fun z => by subst z; exact hm (S.cnd _ _ _ h1 e1)
            exact ⟨u1, u2, by rw [upd_ne hne]; exact u3, CRep.mv (fun _ _ z => z) (fun u z => by rw [upd_ne hne]; exact z) u4⟩
        · obtain ⟨q, ws, u1, u2, u3, u4, u5, u6, u7⟩ := S.own i m e1
          have hne : q ≠ a := fun z => by subst z; exact u6 n h1
          exact ⟨q, ws, u1, by rw [upd_ne hne]; exact u2, u3, u4, u5, u6, u7⟩
      · cases e
    · cases e
  | .d _, _, _, e => by cases e
  | .b _, _, _, e => by cases e
end
end Pc

set_option Elab.async false
set_option linter.all false
set_option maxRecDepth 100000
set_option maxHeartbeats 4000000
namespace Pc
open PySem L2
namespace Xb
def nm : Xb → String
  | v => "ValueError"
  | l => "LookupError"
  | i => "IndexError"
def mk : Xb → String
  | v => "ValueError.__new__"
  | l => "LookupError.__new__"
  | i => "IndexError.__new__"
def ini : Xb → String
  | v => "ValueError.__init__"
  | l => "LookupError.__init__"
  | i => "IndexError.__init__"
def mro : Xb → List Value
  | v => [.type "ValueError", .type "Exception", .type "BaseException", .type "object"]
  | l => [.type "LookupError", .type "Exception", .type "BaseException", .type "object"]
  | i => [.type "IndexError", .type "LookupError", .type "Exception", .type "BaseException", .type "object"]
theorem fb : ∀ b : Xb, ExcBaseFacts b.nm b.mk b.ini b.mro
  | v => F.excBase_ValueError
  | l => F.excBase_LookupError
  | i => F.excBase_IndexError
theorem sf : ∀ b : Xb, StoreFacts b.nm b.mro "object.__setattr__" "object"
  | v => F.store_ValueError
  | l => F.store_LookupError
  | i => F.store_IndexError
theorem kf : ∀ b : Xb, PySem.W.KxsFacts b.nm b.ini
  | v => PySem.W.kxs_ValueError
  | l => PySem.W.kxs_LookupError
  | i => PySem.W.kxs_IndexError
end Xb
/-- an own exception's object -/
abbrev xo (C t : Addr) (d : Option Addr) : Obj := PySem.W.excObj C t d .none
/-- what is told of an own exception class -/
structure XcF (K : PySem.W.Frag) (C : Addr) (b : Xb) : Prop where
  ini : PySem.W.excInitIn K C b.mro b.mk = true
  ov : PySem.W.excOver K C b.mro = true
  sa : PySem.W.findIn K (.ref C) "__setattr__" = some (some (.builtin "object.__setattr__"))
  hd : PySem.W.hasDictIn K C = true
  sup : PySem.W.ks_superIn K C C "__init__" = some (some (.builtin b.ini))
  sub : PySem.W.subIn K (.ref C) (.type b.nm) = some true
section
open PySem.W PySem.Calls PyProof.Rows
variable {prog : Program} {w : World} {A : Around} {E : Value → Shared → Prop} {K : PySem.W.Frag} {C x dx t1 : Addr} {b : Xb} {hp : Heap} {g : Array GenState} {d : Drawn} {tk : Nat} {os : OsState} {name : Str} {u : Value}
/-- the first field -/
theorem ox_new (T : XcF K C b) (X : K.In hp) (hx : hp.get? x = some (xo C t1 none)) (ht : PySem.W.takerIn K C name = some none) {Q : Unit → Shared → Prop}
    (hq : ∀ h' tk' dx, (∀ a o, a ≠ x → hp.get? a = some o → h'.get? a = some o) → hp.objs.size ≤ dx → h'.get? x = some (xo C t1 (some dx)) → h'.Ns1 dx (fun y => if y = name then some u else none) → Q () ⟨h', g, d, tk', os⟩) :
    wpAny (model prog w) A (setAttr (.ref x) name u) Q E ⟨hp, g, d, tk, os⟩ := by
  obtain ⟨cd, hc, hd'⟩ := PySem.W.any_some T.hd
  have xl : x < hp.objs.size := Heap.lt_size hx
  have L := PySem.W.looks_clsIn (M := model prog w) X hc
  refine PySem.W.set_plain X (ox := xo C t1 none) (od := none) ⟨hx, rfl, rfl, trivial⟩ T.sa (PySem.W.osa_openX (od := none) b.sf X ⟨hx, rfl, rfl, trivial⟩ T.ov ht fun _ => ?_)
  refine wpAny_bind (wpAny_pure (wpAny_bind (PySem.W.instanceDict_exc (t := t1) (c2 := .none) hx L hd' ?_)))
  refine PySem.HandSPX.store_in_new ?_ fun h' tk' hn hs => ?_
  · exact ⟨PySem.W.dictOf [] 0, #[], 0, (Heap.get?_update_ne _ _ _ _ (Nat.ne_of_gt xl)).trans (Heap.get?_push_at rfl rfl), rfl, fun e he => absurd he (by simp), fun _ => rfl⟩
  · refine hq h' tk' hp.objs.size (fun a o ha ho => ?_) (Nat.le_refl _) ?_ hn
    · exact (hs.2 a (Nat.ne_of_lt (Heap.lt_size ho))).trans ((Heap.get?_update_ne _ _ _ _ ha).trans (Heap.get?_push_of_some _ ho))
    · exact (hs.2 x (Nat.ne_of_lt xl)).trans (Heap.get?_update_self _ (Heap.get?_push_of_some _ hx) rfl)
/-- a further field -/
theorem ox_old {m0 : Str → Option Value} {nl : List Str} (T : XcF K C b) (X : K.In hp) (hx : hp.get? x = some (xo C t1 (some dx))) (hn0 : hp.Ns1 dx m0) (hw : Within m0 nl) (hz : nl.length ≤ 900) (ht : PySem.W.takerIn K C name = some none) {Q : Unit → Shared → Prop}
    (hq : ∀ h' tk', (∀ a o, a ≠ dx → hp.get? a = some o → h'.get? a = some o) → h'.Ns1 dx (fun y => if y = name then some u else m0 y) → Q () ⟨h', g, d, tk', os⟩) :
    wpAny (model prog w) A (setAttr (.ref x) name u) Q E ⟨hp, g, d, tk, os⟩ := by
  obtain ⟨cd, hc, hd'⟩ := PySem.W.any_some T.hd
  obtain ⟨oD, esD, epD, hoD, hdD, _⟩ := hn0.count hw
  have L := PySem.W.looks_clsIn (M := model prog w) X hc
  refine PySem.W.set_plain X (ox := xo C t1 (some dx)) (od := some oD) ⟨hx, rfl, rfl, hoD⟩ T.sa (PySem.W.osa_openX (od := some oD) b.sf X ⟨hx, rfl, rfl, hoD⟩ T.ov ht fun _ => ?_)
  refine wpAny_bind (wpAny_pure (wpAny_bind (wpAny_bind (wpAny_loadPart hx (wpAny_bind (L.here ?_))))))
  rw [hd']
  refine wpAny_pure (a := some dx) ?_
  exact PySem.OEX.store_in_old hn0 hw (by omega) fun h' tk' hn hs => hq h' tk' (fun a o ha ho => (hs.2 a ha).trans ho) hn
end
/-- super().__init__('..') -/
def supMsg (x : Stmt) : Bool := match x with
  | .Expr (.Call (.Attribute (.Call (.Name a _) [] [] _) m ap) [.Constant (.str _) _ _] [] p2) _ => decide (a = "super") && decide (m = "__init__") && (ap.endLine == p2.line)
  | _ => false
/-- what such a def leans on -/
structure XiF (P : Program) (K : PySem.W.Frag) (fdt : FuncData) (fa C cc cda : Addr) (scope : Scope) (slf : Str) : Prop where
  fn : ∃ oc od osl, K.lookup fa = some ⟨oc, od, .func fdt, osl⟩
  par : ∃ ar : Arg, (fdt.params.posonlyargs ++ fdt.params.args).head? = some ar ∧ ar.arg = slf
  code : ∃ (ccl : Value) (cdd : Option Addr) (vs : Array Value) (ccs : Array (Option Value)) (file : Str) (tf : Tok), K.lookup cda = some ⟨ccl, cdd, .fields vs, ccs⟩ ∧ vs[2]? = some (.str file tf) ∧ ((P.main.file : Str) == file) = true
  top : (P.main.scope.names.lookup ("super" : Str)).isSome = false
  opq : PySem.W.nsIn K cStatics "thirdparty.any" = some none
  kd : scope.kind = .function
  ks : scope.names.lookup ("super" : Str) = some .globalImplicit
  kc : scope.names.lookup ("__class__" : Str) = some .free
  ka : scope.names.lookup slf = some .local
  cell : ∃ (cl : Value) (cld : Option Addr) (csl : Array (Option Value)), K.lookup cc = some ⟨cl, cld, .cell (some (.ref C)), csl⟩
section
open PySem.W PySem.Calls PyProof.Rows
variable {prog : Program} {w : World} {A : Around} {E : Value → Shared → Prop} {K : PySem.W.Frag} {C e t1 fa cc cda L : Addr} {b : Xb} {h₀ hp : Heap} {g : Array GenState} {d : Drawn} {tk : Nat} {os : OsState} {fdt : FuncData} {slf qual : Str} {scope : Scope} {m mg mb : Str → Option Value}
theorem xsup_run (T : XcF K C b) (F : XiF prog K fdt fa C cc cda scope slf) (X0 : K.In h₀) (Fr0 : Fr h₀ L hp m) (he : hp.get? e = some (xo C t1 none)) (e0 : h₀.get? e = none) (eL : e ≠ L) (hm : m slf = some (.ref e))
    (hg : hp.Ns mainGlobals mg) (gs : mg "super" = none) (hb : hp.Ns builtinsNs mb) (bs : mb "super" = some (.type "super")) {body : List Stmt} {x : Stmt} (hx : supMsg x = true) {Q : Flow → Shared → Prop}
    (hq : ∀ h' tk' t2, Fr h₀ L h' m → h'.get? e = some (xo C t2 none) → Q .next ⟨h', g, d, tk', os⟩) :
    _root_.PySem.wpAt (model prog w) A (.func body (PySem.W.ksEnv qual scope L fa (.ref cda) cc)) (exec x (PySem.W.ksEnv qual scope L fa (.ref cda) cc)) Q E ⟨hp, g, d, tk, os⟩ := by
  unfold supMsg at hx
  split at hx
  · rename_i a p0 p1 m' ap z j p4 p2 p3
    rw [Bool.and_eq_true, Bool.and_eq_true, decide_eq_true_eq, decide_eq_true_eq] at hx
    obtain ⟨⟨rfl, rfl⟩, hl⟩ := hx
    obtain ⟨oc, od, osl, lf⟩ := F.fn
    obtain ⟨ar, hpar, hself⟩ := F.par
    obtain ⟨ccl, cdd, vs, ccs, file, tf, lc, hvs, hfile⟩ := F.code
    obtain ⟨cl, cld, csl, lcell⟩ := F.cell
    have kin : K.In hp := X0.keeps Fr0.keep
    have hka : (PySem.W.ksEnv qual scope L fa (.ref cda) cc).kindOf ar.arg = some .local := by rw [hself]; exact F.ka
    obtain ⟨cdC, hcC, _⟩ := PySem.W.any_some T.hd
    obtain ⟨oC, hC1, hC2⟩ : ∃ oD, hp.get? C = some oD ∧ oD.data = .cls cdC := by
      unfold PySem.W.clsIn at hcC
      split at hcC
      · rename_i c d cd' sl ho
        cases hcC
        exact ⟨_, kin _ _ ho, rfl⟩
      · cases hcC
    have J : PySem.W.InstAt hp e (xo C t1 none) C none := ⟨he, rfl, rfl, trivial⟩
    have eC : e ≠ C := PySem.W.ks_ne kin J hcC
    have hmro : PySem.W.mroIn K C (.ref C) = some true := by
      obtain ⟨cd', hc', hov⟩ := PySem.W.any_some T.ov
      rw [hcC] at hc'
      cases hc'
      unfold PySem.W.mroIn
      rw [hcC, Option.bind_some]
      (try dsimp only at hov)
      split at hov
      · rename_i C' bm hmr
        rw [Bool.and_eq_true, beq_iff_eq] at hov
        obtain ⟨rfl, _⟩ := hov
        rw [hmr]
        simp
      · cases hov
    have hsup := T.sup
    unfold PySem.W.ks_superIn at hsup
    rw [hcC] at hsup
    have hint : interactive (PySem.W.ksEnv qual scope L fa (.ref cda) cc) = false := by
      unfold interactive
      rw [show (PySem.W.ksEnv qual scope L fa (.ref cda) cc).scope.kind = .function from F.kd]
      rfl
    refine ks_wpAt_Expr_any ?_ hint rfl
    have hev : eval (.Call (.Attribute (.Call (.Name "super" p0) [] [] p1) "__init__" ap) [.Constant (.str z) j p4] [] p2) (PySem.W.ksEnv qual scope L fa (.ref cda) cc) = (do
        let ov ← attributeBase (.Call (.Name "super" p0) [] [] p1) "__init__" (PySem.W.ksEnv qual scope L fa (.ref cda) cc) (eval (.Call (.Name "super" p0) [] [] p1) (PySem.W.ksEnv qual scope L fa (.ref cda) cc))
        standAt ap.atName
        let (f, first) ← holding [ov] (getMethod ov "__init__" (do return (← importBound (.Call (.Name "super" p0) [] [] p1) (PySem.W.ksEnv qual scope L fa (.ref cda) cc)).getD true))
        callWith p2 f first (backTo p2 (starEach [.Constant (.str z) j p4] (PySem.W.ksEnv qual scope L fa (.ref cda) cc))) []) := by
      rw [arm_eval_Call]
      have hpos : methodCallPos true (.Call (.Name "super" p0) [] [] p1) (PySem.W.ksEnv qual scope L fa (.ref cda) cc) ap p2 = pure p2 := by unfold methodCallPos; simp [hl]
      have hform : methodCallForm (([.Constant (.str z) j p4] : List Expr).length + ([] : List Keyword).length) (backTo p2 (starEach [.Constant (.str z) j p4] (PySem.W.ksEnv qual scope L fa (.ref cda) cc))) (backToKw p2 (keywordEach [] (PySem.W.ksEnv qual scope L fa (.ref cda) cc))) = true := rfl
      unfold methodCall
      rw [hform, hpos]
      rfl
    refine ks_wpAt_MethodCall ?_ hev
    refine ks_wpAt_super_base (env := PySem.W.ksEnv qual scope L fa (.ref cda) cc) F.ks F.kc (by decide) rfl (kin _ _ lf) rfl hpar rfl (kin _ _ lc) rfl hvs hfile F.top ?_
    refine PySem.W.ks_loadName_global F.kd F.ks (Calls.loadGlobal_builtin hg gs hb bs ⟨rfl, ?_⟩)
    refine wpAny_loadName_free F.kd F.kc (c := cc) (by rfl) ⟨_, kin _ _ lcell, rfl⟩ ?_
    refine wpAny_loadName_local F.kd hka Fr0.ns (by rw [hself]; exact hm) ?_
    refine ks_wpAny_isType_cls hC1 hC2 ⟨rfl, ?_⟩
    refine ks_wpAny_call_super hC1 hC2 he rfl (fun c e => by cases e) (PySem.W.looks_mroIn kin hmro) (fun h' e1 k => ?_)
    have kin' : K.In h' := kin.keeps k
    have J' : PySem.W.InstAt h' e (xo C t1 none) C none := ⟨k _ _ he, rfl, rfl, trivial⟩
    have hI : PySem.W.Looks (model prog w) h' (isInstance (.ref e) (.type b.nm)) true := J'.type.andThen (PySem.W.looks_subIn kin' T.sub)
    refine PySem.W.kxs_getMethod b.kf e1 (PySem.W.looks_opaque kin' F.opq) (l₀ := cdC.mro) (fun A Q E s k q => wpAny_bind ((PySem.W.looks_clsIn kin' hcC) A _ E s k (wpAny_pure q))) rfl kin' hsup hI eC (by decide) ?_
    have k2 : ∀ a o, hp.get? a = some o → (h'.push (PySem.W.kxs_mw b.ini e)).get? a = some o := fun a o q => Heap.get?_push_of_some _ (k a o q)
    have hu : (h'.push (PySem.W.kxs_mw b.ini e)).get? h'.objs.size = some (PySem.W.kxs_mw b.ini e) := Heap.get?_push_at rfl rfl
    have lh : hp.objs.size ≤ h'.objs.size := Nat.le_of_lt (Heap.lt_size e1)
    have ns' : (h'.push (PySem.W.kxs_mw b.ini e)).Ns L m := Fr0.ns.keeps k2
    have Lh : L < hp.objs.size := by
      obtain ⟨oL, _, _, hL, _⟩ := Fr0.ns
      exact Heap.lt_size hL
    have h0h : h₀.objs.size ≤ L := Fr0.above
    have F1 : Fr h₀ L (h'.push (PySem.W.kxs_mw b.ini e)) m := ⟨ns', fun a o q => k2 a o (Fr0.keep a o q), Fr0.above⟩
    have un : h'.objs.size ≠ e := fun z => by
      have := Heap.lt_size he
      rw [← z] at this
      exact absurd this (Nat.not_lt.mpr lh)
    have N1 : News h₀ L (h'.push (PySem.W.kxs_mw b.ini e)) [(h'.objs.size, PySem.W.kxs_mw b.ini e), (e, xo C t1 none)] := by
      intro q hq
      rcases List.mem_cons.mp hq with rfl | hq
      · refine ⟨hu, fun z => ?_, ?_⟩
        · exact absurd (show hp.objs.size ≤ L from (show h'.objs.size = L from z) ▸ lh) (Nat.not_le.mpr Lh)
        · cases z : h₀.get? h'.objs.size with
          | none => rfl
          | some o =>
            exact absurd (Nat.lt_of_lt_of_le (Heap.lt_size z) (Nat.le_trans h0h (Nat.le_trans (Nat.le_of_lt Lh) lh))) (Nat.lt_irrefl _)
      · rcases List.mem_cons.mp hq with rfl | hq
        · exact ⟨k2 _ _ he, eL, e0⟩
        · cases hq
    refine PySem.W.kxs_callWith1 N1 (List.mem_cons_self ..) (Calls.spliced_cons (Calls.Constant_str (k := j) (pos := p4) (Calls.spliced_nil ⟨hu, ?_⟩)))
    refine PySem.W.kxs_call (t := t1) (dv := none) (c2 := .none) F1 X0 N1 b.fb T.ini (List.mem_cons_self ..) (.tail un (.head fun _ h => nomatch h)) (by rw [sizeLine_eq]; exact Nat.le_of_ble_eq_true rfl) fun t' h2 F2 N2 lt => ?_
    exact hq h2 _ t' F2 (N2 _ (.tail _ (.tail _ (List.mem_cons_self ..)))).1
  · cases hx
theorem nameL {s : Shared} {env : Env} {y : Str} {pos : Pos} {u : Value} {Q : Value → Shared → Prop} (ns : s.heap.Ns env.locals m) (hu : m y = some u) (q : Q u s) (kd : env.scope.kind = .function) (lo : env.kindOf y = some .local) (nd : (y == ("__debug__" : Str)) = false) :
    wpAny (model prog w) A (eval (.Name y pos) env) Q E s := wpAny_Name (wpAny_loadName_local kd lo ns hu q) nd
/-- the body of an own exception's __init__ -/
def xiBody (slf : Str) (fld : Option Str) (par code : Str) (body : List Stmt) : Bool := match fld, body with
  | some f, [x, .Assign [.Attribute (.Name s1 _) f1 _] (.Name g1 _) _, .Assign [.Attribute (.Name s2 _) c2 _] (.Constant (.str z) _ _) _] =>
    supMsg x && (decide (s1 = slf) && (decide (f1 = f) && (decide (g1 = par) && (decide (s2 = slf) && (decide (c2 = "code") && decide (z = code))))))
  | none, [x, .Assign [.Attribute (.Name s2 _) c2 _] (.Constant (.str z) _ _) _] => supMsg x && (decide (s2 = slf) && (decide (c2 = "code") && decide (z = code)))
  | _, _ => false
/-- the fields that it leaves -/
def xiM (fld : Option Str) (code : Str) (tc : Tok) (u : Value) : Str → Option Value := fun y => if y = "code" then some (.str code tc) else match fld with
  | some f => if y = f then some u else none
  | none => none
theorem xi_run {fI : Addr} {fld : Option Str} {par code : Str} {oc : Value} {od : Option Addr} {osl : Array (Option Value)} {nm : Str} {params : Arguments} {bdy : List Stmt} {dV kV doc pm ct : Value} {an : Option Addr} {s : Shared} {args : Args} {binds : List (Str × Value)} {R : Result → Shared → Prop}
    (T : XcF K C b) (F : XiF prog K (PySem.W.ksFn nm qual params bdy scope dV kV doc pm an (.ref cda) ct cc) fI C cc cda scope slf) (X0 : K.In h₀) (hk : ∀ a o, h₀.get? a = some o → s.heap.get? a = some o) (h0s : h₀.objs.size ≤ s.heap.objs.size) (he : s.heap.get? e = some (xo C t1 none)) (e0 : h₀.get? e = none)
    (hg : h₀.Ns mainGlobals mg) (gs : mg "super" = none) (hb : h₀.Ns builtinsNs mb) (bs : mb "super" = some (.type "super")) (nl : h₀.NoLimit) (dp : A.depth < recursionLimit) (lk : K.lookup fI = some ⟨oc, od, .func (PySem.W.ksFn nm qual params bdy scope dV kV doc pm an (.ref cda) ct cc), osl⟩)
    (hcd : PySem.W.codeIn K (.ref cda) qual = true) (bt : BindsTo s (PySem.W.ksFn nm qual params bdy scope dV kV doc pm an (.ref cda) ct cc) args binds) (hcell : ∀ y ∈ scope.names, y.2 ≠ .cell) (hloc : ∀ y ∈ binds, scope.names.lookup y.1 = some .local) (hco : scope.isCoroutine = false) (hgen : scope.isGenerator = false)
    (hbody : xiBody slf fld par code bdy = true) (ht : ∀ f, fld = some f → PySem.W.takerIn K C f = some none ∧ scope.names.lookup par = some .local) (htc : PySem.W.takerIn K C "code" = some none) (hm1 : binds.reverse.lookup slf = some (.ref e)) (hds : (slf == ("__debug__" : Str)) = false) (hdp : (par == ("__debug__" : Str)) = false) {u : Value} (hm2 : fld.isSome = true → binds.reverse.lookup par = some u)
    (hq : ∀ h' tk' t2 dx tc, (∀ a o, h₀.get? a = some o → h'.get? a = some o) → h₀.get? dx = none → dx ≠ e → h'.get? e = some (xo C t2 (some dx)) → h'.Ns1 dx (xiM fld code tc u) → R (.ok (.ret .none)) ⟨h', s.gens, s.drawn, tk', s.os⟩) :
    codeAny (model prog w) A (.call (.ref fI) args) R s := by
  have kin : K.In s.heap := X0.keeps hk
  refine ks_codeAny_call_defAt (fd := PySem.W.ksFn nm qual params bdy scope dV kV doc pm an (.ref cda) ct cc) (body := bdy) dp (kin _ _ lk) rfl (nl.keeps hk) (PySem.W.codeRec_of kin hcd) rfl bt hcell hloc (fun h1 hns hk1 => ?_) hco hgen F.kd
  have eL : e ≠ s.heap.objs.size := Nat.ne_of_lt (Heap.lt_size he)
  have F1 : Fr h₀ s.heap.objs.size h1 (fun x => binds.reverse.lookup x) := ⟨hns, fun a o q => hk1 a o (hk a o q), h0s⟩
  show _root_.PySem.wpAt (model prog w) (A.deeper (PySem.W.ksEnv qual scope s.heap.objs.size fI (.ref cda) cc)) (.func bdy (PySem.W.ksEnv qual scope s.heap.objs.size fI (.ref cda) cc)) (execs bdy (PySem.W.ksEnv qual scope s.heap.objs.size fI (.ref cda) cc)) _ _ _
  generalize s.toks + binds.length = tk1
  have FrOf : ∀ {h h' : Heap} {x : Addr}, Fr h₀ s.heap.objs.size h (fun x => binds.reverse.lookup x) → (∀ a o, a ≠ x → h.get? a = some o → h'.get? a = some o) → h₀.get? x = none → s.heap.objs.size ≠ x → Fr h₀ s.heap.objs.size h' (fun x => binds.reverse.lookup x) := fun {h h' x} F k z y => by
    obtain ⟨oL, es, ep, hL, r⟩ := F.ns
    exact ⟨⟨oL, es, ep, k _ _ y hL, r⟩, fun a o q => k a o (fun e => by rw [e, z] at q; cases q) (F.keep a o q), F.above⟩
  unfold xiBody at hbody
  split at hbody
  · rename_i f _ x s1 _ f1 _ g1 _ _ s2 _ c2 _ z j pz _
    simp only [Bool.and_eq_true, decide_eq_true_eq] at hbody
    obtain ⟨hx, rfl, rfl, rfl, rfl, rfl, rfl⟩ := hbody
    obtain ⟨ht1, ht2⟩ := ht _ rfl
    refine ks_wpAt_execs_cons (xsup_run T F X0 F1 (hk1 _ _ he) e0 eL hm1 (hg.keeps F1.keep) gs (hb.keeps F1.keep) bs hx fun h2 tk2 t2 F2 he2 => ?_)
    refine ks_wpAt_execs_cons (ks_wpAt_Assign_Attr (wpAt_of_wpAny (nameL F2.ns (hm2 rfl) (nameL F2.ns hm1 (ox_new T (X0.keeps F2.keep) he2 ht1 fun h3 tk3 dx k3 dl he3 hn3 => ?_) F.kd F.ka hds) F.kd ht2 hdp)))
    have L3 : s.heap.objs.size < h2.objs.size := by
      obtain ⟨oL, _, _, hL, _⟩ := F2.ns
      exact Heap.lt_size hL
    have e3 : e < h2.objs.size := Heap.lt_size he2
    have F3 := FrOf F2 k3 e0 eL.symm
    have d0 : h₀.get? dx = none := by
      cases z : h₀.get? dx with
      | none => rfl
      | some o => exact absurd (Nat.lt_of_lt_of_le (Heap.lt_size z) (Nat.le_trans h0s (Nat.le_trans (Nat.le_of_lt L3) dl))) (Nat.lt_irrefl _)
    have de : dx ≠ e := Nat.ne_of_gt (Nat.lt_of_lt_of_le e3 dl)
    refine ks_wpAt_execs_cons (ks_wpAt_Assign_Attr (wpAt_of_wpAny (Calls.Constant_str (k := j) (pos := pz) (nameL F3.ns hm1 (ox_old T (X0.keeps F3.keep) he3 hn3 (Within.cons _ _ Within.nil) (by simp) htc fun h4 tk4 k4 hn4 => ?_) F.kd F.ka hds))))
    have F4 := FrOf F3 k4 d0 (Nat.ne_of_lt (Nat.lt_of_lt_of_le L3 dl))
    exact wpAt_of_wpAny (wpAny_execs_nil (hq h4 _ t2 dx _ F4.keep d0 de (k4 _ _ de.symm he3) hn4))
  · rename_i _ x s2 _ c2 _ z j pz _
    simp only [Bool.and_eq_true, decide_eq_true_eq] at hbody
    obtain ⟨hx, rfl, rfl, rfl⟩ := hbody
    refine ks_wpAt_execs_cons (xsup_run T F X0 F1 (hk1 _ _ he) e0 eL hm1 (hg.keeps F1.keep) gs (hb.keeps F1.keep) bs hx fun h2 tk2 t2 F2 he2 => ?_)
    refine ks_wpAt_execs_cons (ks_wpAt_Assign_Attr (wpAt_of_wpAny (Calls.Constant_str (k := j) (pos := pz) (nameL F2.ns hm1 (ox_new T (X0.keeps F2.keep) he2 htc fun h3 tk3 dx k3 dl he3 hn3 => ?_) F.kd F.ka hds))))
    have L3 : s.heap.objs.size < h2.objs.size := by
      obtain ⟨oL, _, _, hL, _⟩ := F2.ns
      exact Heap.lt_size hL
    have F3 := FrOf F2 k3 e0 eL.symm
    have d0 : h₀.get? dx = none := by
      cases z : h₀.get? dx with
      | none => rfl
      | some o => exact absurd (Nat.lt_of_lt_of_le (Heap.lt_size z) (Nat.le_trans h0s (Nat.le_trans (Nat.le_of_lt L3) dl))) (Nat.lt_irrefl _)
    have de : dx ≠ e := Nat.ne_of_gt (Nat.lt_of_lt_of_le (Heap.lt_size he2) dl)
    exact wpAt_of_wpAny (wpAny_execs_nil (hq h3 _ t2 dx _ F3.keep d0 de he3 hn3))
  · cases hbody
/-- C(..), values by position -/
theorem x_make {s : Shared} {fI : Addr} {us : List Value} {R : Result → Shared → Prop} (T : XcF K C b) (X : K.In s.heap) (iC : PySem.W.findIn K (.ref C) "__init__" = some (some (.ref fI))) (tI : PySem.W.typeIn K (.ref fI) = some (.type "function")) (hl : us.length ≤ sizeLine)
    (hq : ∀ h1, (∀ a o, s.heap.get? a = some o → h1.get? a = some o) → h1.get? (s.heap.objs.size + 1) = some (xo C s.heap.objs.size none) → codeAny (model prog w) (A.under (.builtin "type.__call__" ⟨.ref C :: us, []⟩)) (.call (.ref fI) ⟨.ref (s.heap.objs.size + 1) :: us, []⟩) (PySem.W.InitBack (s.heap.objs.size + 1) R) { s with heap := h1 }) :
    codeAny (model prog w) A (.call (.ref C) ⟨us, []⟩) R s := by
  obtain ⟨nm, N', qn, bs, bm, hdct, sn, sub, ab, col, dd, k0, k1, k2, k3, k5, hC, hT⟩ := PySem.W.excInit_of X T.ini
  obtain ⟨h, g, d, t, os⟩ := s
  refine PySem.HandSPX.call_own b.fb hT hC (PySem.W.looks_findIn X iC) (fun self => PySem.W.bind_fn X self tI) hl (hq _ (fun a o q => Heap.get?_push_of_some _ (Heap.get?_push_of_some _ q)) ?_)
  heap_get
end
end Pc

set_option Elab.async false
set_option linter.all false
set_option maxRecDepth 100000
set_option maxHeartbeats 4000000
namespace Pc
open PySem L2
section
open PySem.W
open Builtin Builtin.ObjectAttr
variable {M : Model} {prog : Program} {w : World} {A : Around} {E : Value → Shared → Prop} {R : Result → Shared → Prop} {hp : Heap} {gs : Array GenState} {dr : Drawn} {tk : Nat} {os : OsState} {b : Xb}
variable {nm q : Str} {C N : Addr} {bs bm : List Value} {hdct : Bool} {sn : List Str} {sub : List Value} {ab : Bool} {col : Option Bool} {dd : Option Addr} {k0 k1 k2 k3 k5 : Option Value} {kn : Str} {u : Value}
theorem new_chk (hT : ∀ X : String, bm.contains (.type X) = b.mro.contains (.type X)) (hC : hp.get? C = some (excClassObj nm q C N bs bm hdct sn sub ab col dd k0 k1 k2 k3 k5 b.mk)) {Q : Unit → Shared → Prop} (hq : Q () ⟨hp, gs, dr, tk, os⟩) :
    wpAny M A (checkBuiltinCall b.mk ⟨[.ref C], [(kn, u)]⟩) Q E ⟨hp, gs, dr, tk, os⟩ := by
  have FB := b.fb
  have has : (Value.ref C :: bm).contains (.type b.nm) = true := by rw [List.contains_cons, hT, FB.hasB, Bool.or_true]
  have star := FB.noStar
  simp only [checkBuiltinCall, FB.newKind, FB.newSplit, FB.newRow]
  repeat (first | refine wpAny_loadPart_at hC ?_ | (refine wpAny_isSubtype_exc hC ?_; rw [has]) | refine wpAny_staticBase_exc hC ?_ | refine wpAny_madeBy_exc hC ?_ | simp only [bne_self_eq_false, Bool.false_eq_true, if_false] | wp_step)
  exact hq
theorem new_run (hT : ∀ X : String, bm.contains (.type X) = b.mro.contains (.type X)) (hC : hp.get? C = some (excClassObj nm q C N bs bm hdct sn sub ab col dd k0 k1 k2 k3 k5 b.mk))
    (hq : R (.ok (.ret (.ref (hp.objs.size + 1)))) ⟨(hp.push { cls := .type "tuple", data := .seq (#[] : Array Value) }).push { cls := .ref C, data := .fields #[.ref hp.objs.size, .none, .none, .none, .bool false, .none] }, gs, dr, tk, os⟩) :
    codeAny (model prog w) A (.builtin b.mk ⟨[.ref C], [(kn, u)]⟩) R ⟨hp, gs, dr, tk, os⟩ := by
  have FB := b.fb
  have ends := FB.ends
  have hasB : (Value.ref C :: bm).contains (.type b.nm) = true := by rw [List.contains_cons, hT, FB.hasB, Bool.or_true]
  have noA : (Value.ref C :: bm).contains (.type "AttributeError") = false := by rw [List.contains_cons, hT, FB.noAttr]; rfl
  have noN : (Value.ref C :: bm).contains (.type "NameError") = false := by rw [List.contains_cons, hT, FB.noName]; rfl
  refine codeAny_builtinAt FB.entry ?_
  unfold Builtin.«BaseException.__new__»
  refine wpAt_bind ?_
  show _root_.PySem.wpAt _ _ _ (stack >>= _) _ _ _
  refine wpAt_bind (wpAt_stack fun p below => wpAt_of_wpAny ?_)
  wp_walk
  refine wpAt_of_wpAny ?_
  rw [FB.owner]
  repeat (first | with_reducible refine wpAny_madeHere_exc FB.canon hC ?_ | with_reducible refine wpAny_loadPart_at hC ?_ | (with_reducible refine wpAny_isSubtype_exc hC ?_; first | rw [hasB] | rw [noA] | rw [noN]) | wp_step)
  show R _ _
  rw [Heap.size_push]
  exact hq
theorem type_run {fI : Addr} (hT : ∀ X : String, bm.contains (.type X) = b.mro.contains (.type X)) {Q : Fin → Shared → Prop} (hC : hp.get? C = some (excClassObj nm q C N bs bm hdct sn sub ab col dd k0 k1 k2 k3 k5 b.mk))
    (hi : PySem.W.Looks (model prog w) hp (typeLookup (.ref C) "__init__") (some (.ref fI))) (hb : ∀ self, PySem.W.Looks (model prog w) hp (bindSpecial (.ref fI) self) (.ref fI, [self]))
    (hq : codeAny (model prog w) A (.call (.ref fI) ⟨[.ref (hp.objs.size + 1)], [(kn, u)]⟩) (fun r s' => match r with | .ok (.ret v) => v = .none ∧ Q (.done (.ret (.ref (hp.objs.size + 1)))) s' | .ok _ => False | .error e => E e s')
      ⟨(hp.push (PySem.W.excTup [])).push (xo C hp.objs.size none), gs, dr, tk, os⟩) :
    wpAny (model prog w) A (Builtin.«type.__call__» ⟨[.ref C], [(kn, u)]⟩) Q E ⟨hp, gs, dr, tk, os⟩ := by
  repeat (first | with_reducible refine wpAny_loadPart_at hC ?_ | with_reducible refine wpAny_madeBy_exc hC ?_ | wp_step)
  refine codeAny_call_builtin_code (Code.quiet_builtin _ b.fb.quiet) (new_chk hT hC ?_)
  refine new_run hT hC ?_
  show wpAny _ _ _ _ _ _
  have k : ∀ a o, hp.get? a = some o → ((hp.push (PySem.W.excTup [])).push (xo C hp.objs.size none)).get? a = some o := fun a o e => Heap.get?_push_of_some _ (Heap.get?_push_of_some _ e)
  have hC2 := k _ _ hC
  have at_ : ((hp.push (PySem.W.excTup [])).push (xo C hp.objs.size none)).get? (hp.objs.size + 1) = some (xo C hp.objs.size none) := by heap_get
  have own : (Value.ref C :: bm).contains (.ref C) = true := by simp
  have i1 := hi.keeps k
  have b1 := (hb (.ref (hp.objs.size + 1))).keeps k
  unfold isInstance
  repeat (first | with_reducible refine wpAny_loadPart_at at_ ?_ | (with_reducible refine wpAny_isSubtype_exc hC2 ?_; rw [own]) | wp_step)
  show wpAny _ _ (typeLookup (.ref C) _) _ _ _
  refine i1.at (wpAny_holding (wpAny_bind (b1.at (wpAny_bind (wpAny_call (codeAny_mono hq fun r s' z => ?_))))))
  cases r with
  | error e => exact z
  | ok f =>
    cases f with
    | ret v =>
      obtain ⟨rfl, z⟩ := z
      first
        | exact wpAny_pure (wpAny_pure z)
        | (wp_walk; exact z)
    | next => exact z.elim
    | brk => exact z.elim
    | cont => exact z.elim
theorem type_chk (hC : hp.get? C = some (excClassObj nm q C N bs bm hdct sn sub ab col dd k0 k1 k2 k3 k5 b.mk)) {Q : Unit → Shared → Prop} (hq : Q () ⟨hp, gs, dr, tk, os⟩) : wpAny M A (checkBuiltinCall "type.__call__" ⟨[.ref C], [(kn, u)]⟩) Q E ⟨hp, gs, dr, tk, os⟩ := by
  have f3 := tc_sub
  have ty : (⟨hp, gs, dr, tk, os⟩ : Shared).TypeIs (.ref C) "type" := ⟨_, hC, rfl⟩
  simp only [checkBuiltinCall, tc_kind, tc_split]
  repeat (any_goals (first | assumption | with_reducible refine wpAny_loadPart_at hC ?_ | with_reducible refine wpAny_onRaise ?_ | with_reducible refine wpAny_map ?_ | wp_step))
/-- C(k = u) -/
theorem x_makeK {s : Shared} {fI : Addr} {K : Frag} (T : XcF K C b) (X : K.In s.heap) (iC : findIn K (.ref C) "__init__" = some (some (.ref fI))) (tI : typeIn K (.ref fI) = some (.type "function"))
    (hq : ∀ h1, (∀ a o, s.heap.get? a = some o → h1.get? a = some o) → h1.get? (s.heap.objs.size + 1) = some (xo C s.heap.objs.size none) → codeAny (model prog w) (A.under (.builtin "type.__call__" ⟨[.ref C], [(kn, u)]⟩)) (.call (.ref fI) ⟨[.ref (s.heap.objs.size + 1)], [(kn, u)]⟩) (InitBack (s.heap.objs.size + 1) R) { s with heap := h1 }) :
    codeAny (model prog w) A (.call (.ref C) ⟨[], [(kn, u)]⟩) R s := by
  obtain ⟨nm, N', qn, bs, bm, hdct, sn, sub, ab, col, dd, k0, k1, k2, k3, k5, hC, hT⟩ := excInit_of X T.ini
  obtain ⟨h, g, d, t, os⟩ := s
  have f1 := tc_lookup
  have f2 := tc_bind (.ref C)
  have ty : (⟨h, g, d, t, os⟩ : Shared).TypeIs (.ref C) "type" := ⟨_, hC, rfl⟩
  refine codeAny_of_tree ?_
  show wpAny _ _ (callAny (.ref C) _) _ _ _
  repeat (any_goals (first | assumption | with_reducible refine wpAny_loadPart_at hC ?_ | wp_step))
  refine ⟨rfl, codeAny_call_builtin_at (Code.quiet_builtin _ (by decide +kernel)) entry_typeCall (type_chk hC (type_run hT hC (looks_findIn X iC) (fun self => bind_fn X self tI) ?_))⟩
  refine codeAny_mono (hq _ (fun a o q => Heap.get?_push_of_some _ (Heap.get?_push_of_some _ q)) (by heap_get)) fun r s' z => ?_
  rcases r with e | (v | _ | _ | _) <;> exact z
end
end Pc

set_option Elab.async false
set_option linter.all false
set_option maxRecDepth 100000
set_option maxHeartbeats 4000000
namespace Pc
open PySem L2
/-- what the hook has to say of it -/
structure XcK (P : Program) (K : PySem.W.Frag) (mg : Str → Option Value) (q : Xd) : Prop where
  glo : mg q.name = some (.ref (He.ga K q.name))
  sup : mg "super" = none
  kp : PySem.W.keepIn K (.ref (He.ga K q.name)) = true
  T : XcF K (He.ga K q.name) q.base
  xf : XfC K (He.ga K q.name)
  ec : ExcC K (He.ga K q.name)
  noc : PySem.W.findIn K (.ref (He.ga K q.name)) "code" = some none
  nof : ∀ f, q.fld = some f → PySem.W.findIn K (.ref (He.ga K q.name)) f = some none ∧ f ≠ "code" ∧ f ≠ ""
  tkc : PySem.W.takerIn K (He.ga K q.name) "code" = some none
  ini : ∃ (fI : Addr) (oc : Value) (od : Option Addr) (osl : Array (Option Value)) (nm qual : Str) (params : Arguments) (body : List Stmt) (scope : Scope) (dV kV doc pm ct : Value) (cda cc : Addr) (an : Option Addr) (slf : Str),
    PySem.W.findIn K (.ref (He.ga K q.name)) "__init__" = some (some (.ref fI)) ∧ PySem.W.typeIn K (.ref fI) = some (.type "function") ∧ K.lookup fI = some ⟨oc, od, .func (PySem.W.ksFn nm qual params body scope dV kV doc pm an (.ref cda) ct cc), osl⟩ ∧
    XiF P K (PySem.W.ksFn nm qual params body scope dV kV doc pm an (.ref cda) ct cc) fI (He.ga K q.name) cc cda scope slf ∧ PySem.W.codeIn K (.ref cda) qual = true ∧ (∀ y ∈ scope.names, y.2 ≠ .cell) ∧ scope.isCoroutine = false ∧ scope.isGenerator = false ∧
    xiBody slf q.fld q.par q.name body = true ∧ (∀ f, q.fld = some f → PySem.W.takerIn K (He.ga K q.name) f = some none ∧ scope.names.lookup q.par = some .local) ∧ (slf == ("__debug__" : Str)) = false ∧ (q.par == ("__debug__" : Str)) = false ∧ slf ≠ q.par ∧
    (∀ (s : Shared) (x u : Value), K.In s.heap → (q.fld.isSome = true → BindsTo s (PySem.W.ksFn nm qual params body scope dV kV doc pm an (.ref cda) ct cc) ⟨[x, u], []⟩ [(slf, x), (q.par, u)] ∧ BindsTo s (PySem.W.ksFn nm qual params body scope dV kV doc pm an (.ref cda) ct cc) ⟨[x], [(q.par, u)]⟩ [(slf, x), (q.par, u)]) ∧
      (q.fld = none → BindsTo s (PySem.W.ksFn nm qual params body scope dV kV doc pm an (.ref cda) ct cc) ⟨[x], []⟩ [(slf, x)]))
/-- the fields of the exception -/
def xfs (q : Xd) (y : V) : List (Str × V) := (("code" : Str), V.str q.name) :: (match q.fld with
  | some f => [(f, y)]
  | none => [])
theorem xfs_rel {q : Xd} {y : V} {u : Value} {tc : Tok} (r : RelV y u) (n : Str) : RelO ((xfs q y).lookup n) (xiM q.fld q.name tc u n) := by
  unfold xfs xiM
  rw [lookup_put]
  by_cases h : n = "code"
  · rw [if_pos h, if_pos h]
    exact ⟨_, rfl⟩
  · rw [if_neg h, if_neg h]
    cases q.fld with
    | none => exact True.intro
    | some f =>
      dsimp only
      rw [lookup_put]
      by_cases h2 : n = f
      · rw [if_pos h2, if_pos h2]; exact r
      · rw [if_neg h2, if_neg h2]; exact True.intro
theorem XvO_at {P : Program} {w : World} {H : Hp} {h : Heap} {a C dx t1 : Addr} (e : h.get? a = some (xo C t1 (some dx))) : ObjOk P w H h a (XvO a C dx) :=
  ⟨⟨_, _, e, rfl, rfl, rfl⟩, ⟨_, e⟩, fun h1 h2 ⟨oe, vs, e1, r⟩ st => ⟨oe, vs, st _ e1, r⟩⟩
section
variable {X : Cx} {pins : List (Addr × Obj)} {σ : L2.St} {H : Hp} {s : Shared} {h' : Heap} {a C dx t1 tk : Nat} {fs : List (Str × V)} {m : Str → Option Value}
/-- the exception is known from now on -/
theorem Inv.exn (I : Inv X pins σ H s) (k : ∀ b o, s.heap.get? b = some o → h'.get? b = some o) (a0 : s.heap.get? a = none) (d0 : s.heap.get? dx = none) (da : dx ≠ a) (ha : h'.get? a = some (xo C t1 (some dx))) (hd : h'.Ns1 dx m) (r : ∀ n, RelO (fs.lookup n) (m n)) :
    Inv X pins σ (upd (upd H dx (.xd fs)) a (XvO a C dx)) { s with heap := h', toks := tk } := by
  have nb : ∀ {b : Addr} {o : Obj}, s.heap.get? b = some o → b ≠ a ∧ b ≠ dx := fun {b o} e => ⟨fun z => (by rw [z, a0] at e; cases e), fun z => (by rw [z, d0] at e; cases e)⟩
  have nH : ∀ {b : Addr} {o : HO}, H b = some o → b ≠ a ∧ b ≠ dx := fun {b o} e => by
    obtain ⟨u, hu⟩ := objOk_get (I.hok b o e)
    exact nb hu
  have up : ∀ {b : Addr}, b ≠ a ∧ b ≠ dx → upd (upd H dx (.xd fs)) a (XvO a C dx) b = H b := fun {b} z => by rw [upd_ne z.1, upd_ne z.2]
  refine I.un (t' := tk) ⟨fun b o q n _ _ => k b o q, fun b o q n _ _ => ⟨o.slots, k b o q⟩, fun b o q n _ => by rw [up (nb q)]; exact n, fun b o q _ => ⟨o, k b o q⟩, fun b xs q => by rw [up (nH q)]; exact q, fun b o u q => by rw [up (nH q)]; exact q, fun b ps q => ⟨#[], by rw [up (nH q), q]; simp⟩⟩ fun b o q => ?_
  by_cases h1 : b = a
  · subst h1
    rw [upd_same] at q
    cases q
    exact XvO_at ha
  · rw [upd_ne h1] at q
    by_cases h2 : b = dx
    · subst h2
      rw [upd_same] at q
      cases q
      exact ⟨m, hd, r⟩
    · rw [upd_ne h2] at q
      exact (I.hok b o q).stay (fun c v _ z => k c v z) (fun c hc => by rw [up (nH hc)]; exact hc) (fun c xs hc => by rw [up (nH hc)]; exact hc)
end
section
variable {X : Cx} {pins : List (Addr × Obj)} {σ : L2.St} {H : Hp} {s : Shared} {q : Xd}
/-- its __init__ is run: what stands behind it -/
theorem exn_ini (Q1 : XcK X.prog X.K X.mg q) {c : Code} (dp : (X.A.under c).depth < recursionLimit) (I : Inv X pins σ H s) {h1 : Heap} (k1 : ∀ a o, s.heap.get? a = some o → h1.get? a = some o) (e1 : h1.get? (s.heap.objs.size + 1) = some (xo (He.ga X.K q.name) s.heap.objs.size none)) {fI : Addr}
    (hI : PySem.W.findIn X.K (.ref (He.ga X.K q.name)) "__init__" = some (some (.ref fI))) {args : List Value → Args} {y : V} {u : Value} (ry : RelV y u)
    (ha : ∀ e : Value, (q.fld.isSome = true ∧ ((args [e] = ⟨[e, u], []⟩) ∨ args [e] = ⟨[e], [(q.par, u)]⟩)) ∨ (q.fld = none ∧ args [e] = ⟨[e], []⟩)) {R : Result → Shared → Prop}
    (hq : ∀ s' dx, Inv X pins σ (upd (upd H dx (.xd (xfs q y))) (s.heap.objs.size + 1) (XvO (s.heap.objs.size + 1) (He.ga X.K q.name) dx)) s' → H (s.heap.objs.size + 1) = none → H dx = none → dx ≠ s.heap.objs.size + 1 → R (.ok (.ret (.ref (s.heap.objs.size + 1)))) s') :
    codeAny (model X.prog X.w) (X.A.under c) (.call (.ref fI) (args [.ref (s.heap.objs.size + 1)])) (PySem.W.InitBack (s.heap.objs.size + 1) R) { s with heap := h1 } := by
  obtain ⟨fI', oc, od, osl, nm, qual, params, body, scope, dV, kV, doc, pm, ct, cda, cc, an, slf, i1, i2, i3, i4, i5, i6, i7, i8, i9, i10, i11, i12, i13, i14⟩ := Q1.ini
  rw [hI] at i1
  cases i1
  obtain ⟨mb, hb, hbv⟩ := I.mod.blt
  have kin : X.K.In s.heap := I.kIn
  have a0 : s.heap.get? (s.heap.objs.size + 1) = none := by
    cases z : s.heap.get? (s.heap.objs.size + 1) with
    | none => rfl
    | some o => exact absurd (Heap.lt_size z) (Nat.not_lt.mpr (Nat.le_succ _))
  have lt1 : s.heap.objs.size ≤ h1.objs.size := Nat.le_of_lt (Nat.lt_trans (Nat.lt_succ_self _) (Heap.lt_size e1))
  have nh : ∀ {b : Addr}, s.heap.get? b = none → H b = none := fun {b} z => by
    cases e : H b with
    | none => rfl
    | some o =>
      obtain ⟨u, hu⟩ := objOk_get (I.hok b o e)
      rw [z] at hu; cases hu
  have key : ∀ {binds : List (Str × Value)}, BindsTo { s with heap := h1 } (PySem.W.ksFn nm qual params body scope dV kV doc pm an (.ref cda) ct cc) (args [.ref (s.heap.objs.size + 1)]) binds → (binds = [(slf, .ref (s.heap.objs.size + 1)), (q.par, u)] ∧ q.fld.isSome = true ∨ binds = [(slf, .ref (s.heap.objs.size + 1))] ∧ q.fld = none) →
      codeAny (model X.prog X.w) (X.A.under c) (.call (.ref fI) (args [.ref (s.heap.objs.size + 1)])) (PySem.W.InitBack (s.heap.objs.size + 1) R) { s with heap := h1 } := fun {binds} bt hbd => by
    have hn : (q.par == slf) = false := beq_eq_false_iff_ne.mpr (Ne.symm i13)
    refine xi_run (u := u) Q1.T i4 kin k1 lt1 e1 a0 (I.mod.glob.keeps I.bk) Q1.sup (hb.keeps I.bk) ((hbv _ (by decide)).trans PyProof.Rows.Boot.«super») (I.mod.nolimit.keeps I.bk) dp i3 i5 bt i6 ?_ i7 i8 i9 i10 Q1.tkc ?_ i11 i12 ?_ fun h' tk' t2 dx tc k2 d0 de ha' hn' => ?_
    · rcases hbd with ⟨rfl, hs⟩ | ⟨rfl, _⟩
      · intro z hz
        rcases List.mem_cons.mp hz with rfl | hz
        · exact i4.ka
        · rcases List.mem_cons.mp hz with rfl | hz
          · obtain ⟨f, hf⟩ := Option.isSome_iff_exists.mp hs
            exact (i10 f hf).2
          · cases hz
      · intro z hz
        rcases List.mem_cons.mp hz with rfl | hz
        · exact i4.ka
        · cases hz
    · rcases hbd with ⟨rfl, _⟩ | ⟨rfl, _⟩
      · show List.lookup slf [(q.par, u), (slf, _)] = _
        rw [List.lookup_cons, show (slf == q.par) = false from beq_eq_false_iff_ne.mpr i13, List.lookup_cons, beq_self_eq_true]
      · show List.lookup slf [(slf, _)] = _
        rw [List.lookup_cons, beq_self_eq_true]
    · intro hs
      rcases hbd with ⟨rfl, _⟩ | ⟨rfl, hz⟩
      · show List.lookup q.par [(q.par, u), (slf, _)] = _
        rw [List.lookup_cons, beq_self_eq_true]
      · rw [hz] at hs; cases hs
    · have J := Inv.exn (s := s) (tk := tk') I k2 a0 d0 de ha' hn' (xfs_rel ry)
      exact ⟨rfl, hq _ dx J (nh a0) (nh d0) de⟩
  rcases ha (.ref (s.heap.objs.size + 1)) with ⟨hs, h2 | h2⟩ | ⟨hs, h2⟩
  · exact key (by rw [h2]; exact ((i14 _ _ u (kin.keeps k1)).1 hs).1) (.inl ⟨rfl, hs⟩)
  · exact key (by rw [h2]; exact ((i14 _ _ u (kin.keeps k1)).1 hs).2) (.inl ⟨rfl, hs⟩)
  · exact key (by rw [h2]; exact (i14 _ _ u (kin.keeps k1)).2 hs) (.inr ⟨rfl, hs⟩)
end
end Pc

set_option Elab.async false
set_option linter.all false
set_option maxRecDepth 100000
set_option maxHeartbeats 4000000
namespace Pc
open PySem L2
abbrev RpT (α β : Type) := Hp → Hp → List Addr → Ss → St → Hp → α → β → Prop
/-- an exception with its own dict -/
def ERep (k : Kx) (T : Hp) (x : D) (C : Value) (d : Addr) : Prop :=
  ∃ n f v fs, x = .exn n f v ∧ C = .ref (He.ga k.K n) ∧ T d = some (.xd fs) ∧ fs.lookup ("code" : Str) = some (.str n) ∧ (f ≠ "" → ∃ y, fs.lookup f = some y ∧ Rep k T v y)
def Aft {α β : Type} (k : Kx) (T Fr : Hp) (μ : List Addr) (W : WX) (σ : St) (Rp : RpT α β) (Q : β → Hp → Prop) : Res α → Prop
  | .ok a s' => ∀ T' μ' H' v, Same T T' → μ <+: μ' → Sim k T' Fr μ' s' σ H' → Rp T' Fr μ' s' σ H' a v → Q v H'
  | .exc x s' => ∀ T' μ' H' C d, Same T T' → μ <+: μ' → Sim k T' Fr μ' s' σ H' → ERep k T' x C d → W C (some d) σ H'
  | .stuck => False
/-- the reading of an evaluation -/
def rd {α β : Type} (k : Kx) (W : WX) (Rp : RpT α β) (f : Ss → Res α) (σ : St) (H : Hp) (Q : β → Hp → Prop) : Prop :=
  ∃ T Fr μ s, Sim k T Fr μ s σ H ∧ Aft k T Fr μ W σ Rp Q (f s)
section
variable {α β γ δ : Type} {k : Kx} {T T' Fr : Hp} {μ μ' : List Addr} {W : WX} {σ : St} {s : Ss} {H : Hp} {Rp : RpT α β} {Rq : RpT γ δ} {Q : δ → Hp → Prop} {Q1 : β → Hp → Prop}
theorem Aft.mono {r : Res γ} (h : Aft k T Fr μ W σ Rq Q r) (e : Same T T') (p : μ <+: μ') : Aft k T' Fr μ' W σ Rq Q r := by
  cases r with
  | ok a s' => exact fun T2 μ2 H' v e2 p2 => h T2 μ2 H' v (e.trans e2) (p.trans p2)
  | exc x s' => exact fun T2 μ2 H' C d e2 p2 => h T2 μ2 H' C d (e.trans e2) (p.trans p2)
  | stuck => exact h
/-- one evaluation, then the rest -/
theorem rd_bind {f : Ss → Res α} {g : α → Ss → Res γ} (S : Sim k T Fr μ s σ H) (ha : Aft k T Fr μ W σ Rq Q ((f s).bind g))
    (h : ∀ T' μ' H' v a s', Same T T' → μ <+: μ' → Sim k T' Fr μ' s' σ H' → Rp T' Fr μ' s' σ H' a v → Aft k T' Fr μ' W σ Rq Q (g a s') → Q1 v H') : rd k W Rp f σ H Q1 := by
  refine ⟨T, Fr, μ, s, S, ?_⟩
  cases e : f s with
  | ok a s' =>
    rw [e] at ha
    exact fun T2 μ2 H' v e2 p2 S2 r2 => h T2 μ2 H' v a s' e2 p2 S2 r2 (Aft.mono ha e2 p2)
  | exc x s' =>
    rw [e] at ha
    exact ha
  | stuck =>
    rw [e] at ha
    exact ha.elim
/-- the end: the last evaluation's result is the whole's -/
theorem Aft.of {o : Option α} {Q1 : β → Hp → Prop} (ha : Aft k T Fr μ W σ Rp Q1 (Res.of o s)) : ∃ a, o = some a ∧ Aft k T Fr μ W σ Rp Q1 (.ok a s) := by
  cases o with
  | none => exact ha.elim
  | some a => exact ⟨a, rfl, ha⟩
theorem Aft.here {a : α} {v : β} (ha : Aft k T Fr μ W σ Rp Q1 (.ok a s)) (S : Sim k T Fr μ s σ H) (r : Rp T Fr μ s σ H a v) : Q1 v H :=
  ha T μ H v (fun _ _ e => e) (List.prefix_refl _) S r
end
/-- how results lie -/
def rE (k : Kx) : RpT W V := fun T _ μ _ σ _ w v => RepR k T μ σ w v
def RepRs (k : Kx) (T : Hp) (μ : List Addr) (σ : St) : List W → List V → Prop
  | [], vs => vs = []
  | w :: l, vs => ∃ v r, vs = v :: r ∧ RepR k T μ σ w v ∧ RepRs k T μ σ l r
theorem RepRs.mono {k : Kx} {T T' : Hp} {μ μ' : List Addr} {σ : St} (e : Same T T') (p : μ <+: μ') : ∀ {w : List W} {v : List V}, RepRs k T μ σ w v → RepRs k T' μ' σ w v
  | [], _, h => h
  | w :: l, _, ⟨v, r, e1, h1, h2⟩ => ⟨v, r, e1, h1.mono e p, h2.mono e p⟩
theorem RepRs.ds {k : Kx} {T : Hp} {μ : List Addr} {σ : St} : ∀ {ws : List W} {vs : List V} {ds : List D}, RepRs k T μ σ ws vs → dsOf ws = some ds → Reps k T ds vs
  | [], _, ds, h, e => by
    cases e
    exact h
  | .d x :: l, _, ds, ⟨v, r, e1, h1, h2⟩, e => by
    unfold dsOf at e
    cases q : dsOf l with
    | none => rw [q] at e; cases e
    | some m =>
      rw [q] at e
      cases e
      exact ⟨v, r, e1, h1, h2.ds q⟩
  | .c _ :: l, _, _, _, e => by cases e
  | .b _ :: l, _, _, _, e => by cases e
theorem RepRs.len {k : Kx} {T : Hp} {μ : List Addr} {σ : St} : ∀ {w : List W} {v : List V}, RepRs k T μ σ w v → v.length = w.length
  | [], _, h => by cases (show _ = [] from h); rfl
  | w :: l, _, ⟨v, r, e1, h1, h2⟩ => by subst e1; exact congrArg Nat.succ h2.len
def rL (k : Kx) : RpT (List W) (List V) := fun T _ μ _ σ _ w v => RepRs k T μ σ w v
def rB : RpT Bool Bool := fun _ _ _ _ _ _ a b => a = b
def rO : RpT (Option Int) (Option Int) := fun _ _ _ _ _ _ a b => a = b
def rF (k : Kx) : RpT (List D) V := fun T Fr μ s σ H l v => Fresh k T Fr μ s σ H l v
def rZ : RpT Str Str := fun _ _ _ _ _ _ a b => a = b

/-- an own class: its name; attributes of its instances that no class has; methods, getters, __init__ by the function's place in the table -/
structure Cd where
  name : Str
  flds : List Str
  mets : List (Str × Nat)
  pros : List (Str × Nat)
  init : Option Nat
  /-- classes whose instances may stand to the right of a comparison -/
  nf : List Nat
  /-- isinstance of an instance, by a class's name -/
  kits : List (Str × Bool)
structure Tb where
  cl : Nat → Option Addr
  tab : List Fn
  cls : List Cd
  stas : List (Str × Str)
  xcs : List Xd
  xks : List Xk
  /-- names that the module does not bind -/
  free : Str → Bool
  /-- the module's constants -/
  con : Str → D → Bool
abbrev Tb.k (t : Tb) (X : Cx) : Kx := ⟨X.K, t.cl⟩
structure Rm (n : Nat) (A : Around) : Prop where
  r : Room n A
  g : A.guards = some []
theorem Rm.mono {j n : Nat} {A : Around} (r : Rm n A) (h : j ≤ n) : Rm j A := ⟨r.r.mono h, r.g⟩
theorem Rm.deeper {n : Nat} {A : Around} (r : Rm (n + 1) A) (env : Env) : Rm n (A.deeper env) := ⟨r.r.deeper env, r.g⟩
/-- a def's promise where nothing is being shown (HandS.FnOk, with the guards told) -/
structure FnG (P : Program) (w : World) (K : PySem.W.Frag) (mg : Str → Option Value) (base : Heap) (n : Nat) (f : Addr) (fd : FuncData) (ps : List Str) (sp : Sp) : Prop where
  len : ∀ vs H Q E, sp vs H Q E → vs.length = ps.length
  run : ∀ (A : Around) (outer : List Env) (s : Shared) (H : Hp) (args : Args) (us : List Value) (vs : List V) (Q : VK) (E : XK), Rm n A → Env0 P w K mg base A outer s H → BindsTo s fd args (ps.zip us) →
    Vals vs us → sp vs H Q E → codeAny (model P w) A (.call (.ref f) args) (CR (CX P w) outer P w H s Q E) s
/-- the body of the f-th def at depth n -/
def bodyN (tab : List Fn) : Nat → Fn → List W → List Cl → Cr
  | 0, _, _, _ => .stuck
  | n + 1, fd, as, g => runB (run tab n) fd as g
def RepWs (k : Kx) (T : Hp) (μ : List Addr) : List W → List V → Prop
  | [], vs => vs = []
  | w :: l, vs => ∃ v r, vs = v :: r ∧ RepW k T μ w v ∧ RepWs k T μ l r
def AftC (k : Kx) (T Fr : Hp) (μ : List Addr) (Q : VK) (E : XK) : Cr → Prop
  | .ok w g' => ∀ T' μ' H' v, Same T T' → μ <+: μ' → Sim k T' Fr μ' ⟨g', []⟩ [] H' → RepW k T' μ' w v → Q v H'
  | .exc x g' => ∀ T' μ' H' C d, Same T T' → μ <+: μ' → Sim k T' Fr μ' ⟨g', []⟩ [] H' → ERep k T' x C d → E C (some d) H'
  | .stuck => False
/-- what the f-th def promises at depth n -/
def spF (k : Kx) (tab : List Fn) (n : Nat) (fd : Fn) : Sp := fun vs H Q E =>
  ∃ T Fr μ g as, Sim k T Fr μ ⟨g, []⟩ [] H ∧ as.length = fd.np ∧ RepWs k T μ as vs ∧ AftC k T Fr μ Q E (bodyN tab n fd as g)
/-- how a pattern of calls binds -/
def selV (us ws : List Value) (ds : List Value) : Ar → Nat → Value
  | .p i, _ => us.getD i .none
  | .k i, _ => ws.getD i .none
  | .df _, j => ds.getD j .none
  | .va _, _ => .none
/-- the bound values: places told, defaults from ds by the parameter's number -/
def selVs (us ws ds : List Value) : List Ar → Nat → List Value
  | [], _ => []
  | a :: r, j => selV us ws ds a j :: selVs us ws ds r (j + 1)
/-- the defaults that a pattern takes stand as its data say -/
def DfOk (k : Kx) (ds : List Value) : List Ar → Nat → Prop
  | [], _ => True
  | .df x :: r, j => (∃ v, RelV v (ds.getD j .none) ∧ Rep k (fun _ => none) x v) ∧ DfOk k ds r (j + 1)
  | .p _ :: r, j => DfOk k ds r (j + 1)
  | .k _ :: r, j => DfOk k ds r (j + 1)
  | .va _ :: _, _ => False
def PatOk (k : Kx) (fd : FuncData) (ps : List Str) (q : Pat) : Prop :=
  ∃ ds : List Value, DfOk k ds q.sel 0 ∧ ∀ (s : Shared) (us ws : List Value), k.K.In s.heap → us.length = q.n → ws.length = q.ks.length → BindsTo s fd ⟨us, q.ks.zip ws⟩ (ps.zip (selVs us ws ds q.sel 0))
/-- the function behind a record (a property's getter, a static method's def) -/
def recA (K : PySem.W.Frag) (p : Addr) (T : String) : Addr := match PySem.W.recIn K p T with
  | some (.ref g :: _) => g
  | _ => 0
/-- where a function stands -/
def adr (K : PySem.W.Frag) : Loc → Addr
  | .glo x => He.ga K x
  | .met C m => He.ma K (He.ga K C) m
  | .pro C f => recA K (He.ma K (He.ga K C) f) "property"
  | .sta C m => recA K (He.ma K (He.ga K C) m) "staticmethod"
/-- the i-th function stands, and keeps its promise at depth n -/
structure FnAt (t : Tb) (P : Program) (w : World) (K : PySem.W.Frag) (mg : Str → Option Value) (base : Heap) (n : Nat) (i : Nat) (fd : Fn) : Prop where
  kp : PySem.W.keepIn K (.ref (adr K fd.at_)) = true
  gl : ∀ x, fd.at_ = .glo x → mg x = some (.ref (adr K fd.at_))
  run : ∀ (p : Nat) (q : Pat), fd.pats[p]? = some q → ∀ (A : Around) (outer : List Env) (s : Shared) (H : Hp) (us ys : List Value) (ws zs : List W) (vs xs : List V) (T Fr : Hp) (μ : List Addr) (g : List Cl) (Q : VK) (E : XK),
    Rm (3 * n) A → Env0 P w K mg base A outer s H → Sim ⟨K, t.cl⟩ T Fr μ ⟨g, []⟩ [] H → RepWs ⟨K, t.cl⟩ T μ ws vs → Vals vs us → RepWs ⟨K, t.cl⟩ T μ zs xs → Vals xs ys → ys.length = q.ks.length →
    AftC ⟨K, t.cl⟩ T Fr μ Q E (Pc.run t.tab n i p ws zs g) → codeAny (model P w) A (.call (.ref (adr K fd.at_)) ⟨us, q.ks.zip ys⟩) (CR (CX P w) outer P w H s Q E) s
/-- the kinds of data, as types -/
def tyAll : List String := ["NoneType", "bool", "int", "str", "tuple", "list"]
/-- operators that an own object may stand to the left of with a number to the right -/
def opsAll : List String := ["add", "sub", "mul"]
/-- an own class stands -/
structure CdOk (t : Tb) (K : PySem.W.Frag) (mg : Str → Option Value) (C : Addr) (d : Cd) : Prop where
  glo : mg d.name = some (.ref C)
  ga : C = He.ga K d.name
  cls : Cls K C
  sf : PySem.W.selfFirst K C = true
  noat : ∀ f ∈ d.flds, NoAttr K C f
  met : ∀ q ∈ d.mets, ∃ fd, t.tab[q.2]? = some fd ∧ Meth K C q.1 (adr K fd.at_)
  pro : ∀ q ∈ d.pros, ∃ fd p, t.tab[q.2]? = some fd ∧ PropOf K C q.1 p (adr K fd.at_)
  init : ∀ i, d.init = some i → ∃ fd, t.tab[i]? = some fd ∧ Mk K C (adr K fd.at_)
  nosub : ∀ T ∈ tyAll, PySem.W.subIn K (.type T) (.ref C) = some false
  nf : ∀ c ∈ d.nf, ∀ C', t.cl c = some C' → PySem.W.notFirst K C (.ref C') = true
  kits : ∀ q ∈ d.kits, PySem.W.kitOne K (.ref C) (.ref (He.ga K q.1)) = some q.2
  kitn : ∀ T ∈ tyAll, PySem.W.kitOne K (.ref C) (.type T) = some false
  kitT : ∀ T ∈ tyAll, PySem.W.kitOne K (.type T) (.ref C) = some false
  ty : ∀ {H : Hp} {a dx : Addr} {fs : List (Str × V)}, H a = some (.ins C dx fs) → TyOf K H (.ref a) (.ref C)
  ob : PySem.W.mroIn K C (.type "object") = some true
  ne : PySem.W.findIn K (.ref C) "__ne__" = some (some (.builtin "object.__ne__"))
  refl : ∀ nm ∈ opsAll, ∃ rc, PySem.W.findIn K (.ref C) (PySem.dunderR nm) = some rc ∧ (rc = none ∨ ∃ g : Addr, rc = some (.ref g))
  numf : ∀ nm ∈ opsAll, (∃ fo, PySem.W.findIn K (.type "int") (PySem.dunder nm) = some fo) ∧ ∃ ro, PySem.W.findIn K (.type "int") (PySem.dunderR nm) = some ro
  subI : PySem.W.subIn K (.ref C) (.type "int") = some false
/-- a static method of a class -/
structure StaOk (K : PySem.W.Frag) (mg : Str → Option Value) (C m : Str) : Prop where
  glo : mg C = some (.ref (He.ga K C))
  st : ∃ mc p rest, ClX.CRead K (He.ga K C) mc ∧ PySem.W.findCls K (.ref (He.ga K C)) mc m = some (.get (.builtin "staticmethod.__get__") (.ref p) .none (.ref (He.ga K C))) ∧ PySem.W.recIn K p "staticmethod" = some (.ref (adr K (.sta C m)) :: rest)
/-- what a text of the language stands in: the names by slot, the scope, the names whose cells are the block's own -/
structure Mc where
  N : List Str
  sc : Scope
  fn : Str → Bool
def Xk.ty (y : Str) : String := if y = "ValueError" then "ValueError" else if y = "IndexError" then "IndexError" else "LookupError"
/-- what a class of an isinstance stands for -/
def Xk.val (K : PySem.W.Frag) (k : Xk) : Value := if k.own then .ref (He.ga K k.y) else .type (Xk.ty k.y)
/-- all that is told of exceptions -/
structure XcsOk (P : Program) (K : PySem.W.Frag) (mg : Str → Option Value) (t : Tb) : Prop where
  x : ∀ q ∈ t.xcs, XcK P K mg q
  k : ∀ k ∈ t.xks, (k.own = true → mg k.y = some (.ref (He.ga K k.y))) ∧ (k.own = false → mg k.y = none ∧ bootBuiltins k.y = some (.type (Xk.ty k.y)) ∧ k.y ≠ "__name__") ∧ ∀ n ∈ k.all, (∃ q ∈ t.xcs, q.name = n) ∧ PySem.W.kitOne K (.ref (He.ga K n)) (k.val K) = some (k.yes.contains n)
/-- a context in which evaluation at depth n may be read; W is wished of what is raised -/
structure Ok (t : Tb) (n : Nat) (M : Mc) (X : Cx) (W : WX) : Prop where
  N : X.N = M.N
  sc : X.env.scope = M.sc
  fn : ∀ y, M.fn y = true → X.fn y = true
  fr : ∀ x, t.free x = true → X.mg x = none
  co : ∀ x d, t.con x d = true → ∃ u v, X.mg x = some u ∧ RelV v u ∧ Rep (t.k X) (fun _ => none) d v
  room : Rm (3 * n + 2) X.A
  nd : X.N.Nodup
  calm : X.calm = true
  tk : Takes X W
  fns : ∀ (base : Heap) (i : Nat) (fd : Fn), t.tab[i]? = some fd → FnAt t X.prog X.w X.K X.mg base n i fd
  cls : ∀ (c : Nat) (d : Cd), t.cls[c]? = some d → ∃ C, t.cl c = some C ∧ CdOk t X.K X.mg C d
  sta : ∀ q ∈ t.stas, StaOk X.K X.mg q.1 q.2
  clt : ∀ (c : Nat) (C : Addr), t.cl c = some C → ∃ d, t.cls[c]? = some d
  xcs : XcsOk X.prog X.K X.mg t
abbrev Tb.o (t : Tb) (n : Nat) : Or := run t.tab n
/-- the texts that are read so -/
def SE (t : Tb) (n : Nat) (M : Mc) (e : Ex) (x : Expr) : Prop := ∀ X W, Ok t n M X W → PE X x (rd (t.k X) W (rE (t.k X)) (ev (t.o n) e))
def SEs (t : Tb) (n : Nat) (M : Mc) (e : Exs) (x : List Expr) : Prop := ∀ X W, Ok t n M X W → PA X x (rd (t.k X) W (rL (t.k X)) (evs (t.o n) e))
def SO (t : Tb) (n : Nat) (M : Mc) (e : Exo) (x : Option Expr) : Prop := ∀ X W, Ok t n M X W → PO X x (rd (t.k X) W rO (evo (t.o n) e))
def ST (t : Tb) (n : Nat) (M : Mc) (e : Te) (x : Expr) : Prop := ∀ X W, Ok t n M X W → PT X x (rd (t.k X) W rB (evT (t.o n) e))
def SF (t : Tb) (n : Nat) (M : Mc) (f : Fx) (x : Expr) : Prop := ∀ X W, Ok t n M X W → PE X x (rd (t.k X) W (rF (t.k X)) (evF (t.o n) f))
theorem PE.weak {X : Cx} {e : Expr} {t u : TE} (h : PE X e t) (k : ∀ σ H Q, u σ H Q → t σ H Q) : PE X e u := ⟨fun pins s σ H Q I q => h.run pins s σ H Q I (k σ H Q q)⟩
theorem PT.weak {X : Cx} {e : Expr} {t u : TT} (h : PT X e t) (k : ∀ σ H Q, u σ H Q → t σ H Q) : PT X e u := ⟨fun pins s σ H Q I q => h.run pins s σ H Q I (k σ H Q q)⟩
theorem PA.weak {X : Cx} {e : List Expr} {t u : TA} (h : PA X e t) (k : ∀ σ H Q, u σ H Q → t σ H Q) : PA X e u := ⟨fun p pins s σ H Q I q => h.run p pins s σ H Q I (k σ H Q q)⟩
theorem PO.weak {X : Cx} {e : Option Expr} {t u : TO} (h : PO X e t) (k : ∀ σ H Q, u σ H Q → t σ H Q) : PO X e u := ⟨fun pins s σ H Q I q => h.run pins s σ H Q I (k σ H Q q)⟩
theorem PS.weak {X : Cx} {e : Stmt} {t u : TS} (h : PS X e t) (k : ∀ D σ H, u D σ H → t D σ H) : PS X e u := ⟨fun pins s σ H D I q => h.run pins s σ H D I (k D σ H q)⟩
theorem PSs.weak {X : Cx} {e : List Stmt} {t u : TS} (h : PSs X e t) (k : ∀ D σ H, u D σ H → t D σ H) : PSs X e u := ⟨fun pins s σ H D I q => h.run pins s σ H D I (k D σ H q)⟩

section
variable {t : Tb} {n : Nat} {M : Mc} {X : Cx} {W : WX}
def visB (sc : Scope) (x : Str) : Bool :=
  match sc.names.lookup x with
  | some .local => true
  | some .cell => true
  | some .free => true
  | _ => false
theorem visB_ok {sc : Scope} {x : Str} (h : visB sc x = true) : Vis sc x := by
  unfold visB at h
  split at h
  · exact .inl (by assumption)
  · exact .inr (.inl (by assumption))
  · exact .inr (.inr (by assumption))
  · cases h
def glB (sc : Scope) (x : Str) : Bool :=
  match sc.names.lookup x with
  | some .globalImplicit => true
  | _ => false
theorem glB_ok (O : Ok t n M X W) {x : Str} (h : glB M.sc x = true) : Gl X x := by
  show X.env.scope.names.lookup x = some .globalImplicit
  rw [O.sc]
  unfold glB at h
  split at h
  · assumption
  · cases h
def plainName (x : Str) : Bool := !(x == ("__debug__" : Str)) && !(x == ("__classdict__" : Str)) && !(x == ("__name__" : Str))
theorem plainName_a {x : Str} (h : plainName x = true) : (x == ("__debug__" : Str)) = false := by
  unfold plainName at h
  cases e : (x == ("__debug__" : Str))
  · rfl
  · rw [e] at h; cases h
theorem plainName_b {x : Str} (h : plainName x = true) : (x == ("__classdict__" : Str)) = false := by
  unfold plainName at h
  cases e : (x == ("__classdict__" : Str))
  · rfl
  · rw [e] at h; simp at h
theorem plainName_c {x : Str} (h : plainName x = true) : x ≠ "__name__" := by
  unfold plainName at h
  intro e
  subst e
  simp at h
def nmB (M : Mc) (i : Nat) (x : Str) : Bool := decide (M.N[i]? = some x) && visB M.sc x && plainName x
theorem s_v {i : Nat} {x : Str} {pos : Pos} (h : nmB M i x = true) : SE t n M (.v i) (.Name x pos) := fun X W O => by
  simp only [nmB, Bool.and_eq_true, decide_eq_true_eq] at h
  refine PE.weak (pe_var (i := i) (by rw [O.N]; exact h.1.1) (by rw [O.sc]; exact visB_ok h.1.2) (plainName_a h.2) (plainName_b h.2)) fun σ H Q ⟨T, Fr, μ, s, S, a⟩ => ?_
  unfold ev at a
  split at a
  · rename_i w hw
    obtain ⟨v, q1, q2⟩ := S.val i w hw
    exact ⟨v, q1, a.here S q2.r⟩
  · rename_i l hl
    obtain ⟨T', v, e, q0, S', r⟩ := S.freeze hl
    exact ⟨v, q0, a T' μ H v e (List.prefix_refl _) S' r⟩
  · exact a.elim
theorem s_b {i : Nat} {x : Str} {pos : Pos} (h : nmB M i x = true) : SE t n M (.b i) (.Name x pos) := fun X W O => by
  simp only [nmB, Bool.and_eq_true, decide_eq_true_eq] at h
  refine PE.weak (pe_var (i := i) (by rw [O.N]; exact h.1.1) (by rw [O.sc]; exact visB_ok h.1.2) (plainName_a h.2) (plainName_b h.2)) fun σ H Q ⟨T, Fr, μ, s, S, a⟩ => ?_
  unfold ev at a
  split at a
  · rename_i w hw
    obtain ⟨v, q1, q2⟩ := S.val i w hw
    exact ⟨v, q1, a.here S q2.r⟩
  · rename_i l hl
    obtain ⟨p, vs, q1, _⟩ := S.own i l hl
    exact ⟨_, q1, a.here S q1⟩
  · exact a.elim
def kB : D → Const → Bool
  | .non, .none => true
  | .bl a, .bool b => a == b
  | .int a, .int b => decide (a = b)
  | .str a, .str b => decide (a = b)
  | _, _ => false
theorem s_k {x : D} {c : Const} {j : Nat} {pos : Pos} (h : kB x c = true) : SE t n M (.k x) (.Constant c j pos) := fun X W O => by
  have fin : ∀ (v : V), (∀ T, Rep (t.k X) T x v) → PE X (.Constant c j pos) (tC v) → PE X (.Constant c j pos) (rd (t.k X) W (rE (t.k X)) (ev (t.o n) (.k x))) := fun v hv hp =>
    PE.weak hp fun σ H Q ⟨T, Fr, μ, s, S, a⟩ => a.here S (hv T)
  unfold kB at h
  split at h
  · exact fin .non (fun _ => rfl) pe_non
  · exact fin (.bl _) (fun _ => by rw [beq_iff_eq.mp h]; exact rfl) pe_bl
  · exact fin (.int _) (fun _ => by rw [of_decide_eq_true h]; exact rfl) pe_int
  · exact fin (.str _) (fun _ => by rw [of_decide_eq_true h]; exact rfl) pe_str
  · cases h
theorem s_gk {x : Str} {d : D} {pos : Pos} (h : (glB M.sc x && plainName x && t.con x d) = true) : SE t n M (.gk x d) (.Name x pos) := fun X W O => by
  simp only [Bool.and_eq_true] at h
  obtain ⟨u, v, h1, h2, h3⟩ := O.co x d h.2
  refine PE.weak (pe_glob (v := v) (glB_ok O h.1.1) h1 h2 (plainName_a h.1.2)) fun σ H Q ⟨T, Fr, μ, s, S, a⟩ => a.here S (Rep.mono (fun b o z => by cases z) h3)
end
end Pc

set_option Elab.async false
set_option linter.all false
set_option maxRecDepth 100000
set_option maxHeartbeats 4000000
namespace Pc
open PySem L2
section
variable {t : Tb} {n : Nat} {M : Mc} {X : Cx} {W : WX}
/-- two operands as they stand, one result -/
def rOpD (k : Kx) (f : D → D → Option D) : R2 := fun x y H Q => ∃ T Fr μ s σ p q d, Sim k T Fr μ s σ H ∧ Top k T H p x ∧ Top k T H q y ∧ f p q = some d ∧
  ∀ T' H' v, Same T T' → Sim k T' Fr μ s σ H' → Rep k T' d v → Q v H'
theorem same_refl (T : Hp) : Same T T := fun _ _ e => e
theorem optB_some {α : Type} {b : Bool} {x y : α} (h : optB b x = some y) : b = true ∧ x = y := by
  unfold optB at h
  split at h
  · rename_i hb; cases h; exact ⟨hb, rfl⟩
  · cases h
theorem opR_add : OpR X (binaryOp .Add) (rOpD (t.k X) (opD .add)) := by
  intro pins s σ H x y v u Q I rx ry ⟨T, Fr, μ, s', σ', p, q, d, S, tp, tq, hd, hQ⟩
  unfold opD at hd
  split at hd
  · cases hd
    cases (show x = _ from tp); cases (show y = _ from tq)
    exact op_add pins s σ H _ _ v u Q I rx ry ⟨_, _, rfl, rfl, hQ T H _ (same_refl T) S rfl⟩
  · obtain ⟨hb, e⟩ := optB_some hd
    subst e
    cases (show x = _ from tp); cases (show y = _ from tq)
    exact op_add_str pins s σ H _ _ v u Q I rx ry ⟨_, _, rfl, rfl, of_decide_eq_true hb, hQ T H _ (same_refl T) S rfl⟩
  · obtain ⟨hb, e⟩ := optB_some hd
    subst e
    rename_i l m _
    obtain ⟨a, xs, rfl, h1, h2⟩ := (show ∃ a vs, x = .ref a ∧ SqT X.K T a vs ∧ Reps (t.k X) T l vs from tp)
    obtain ⟨b, ys, rfl, h3, h4⟩ := (show ∃ a vs, y = .ref a ∧ SqT X.K T a vs ∧ Reps (t.k X) T m vs from tq)
    have hz : xs.length + ys.length ≤ sizeLine := by rw [h2.len, h4.len]; exact of_decide_eq_true hb
    refine op_catA pins s σ H _ _ v u Q I rx ry ⟨a, b, xs, ys, rfl, rfl, sqT_same S.tH h1, sqT_same S.tH h3, hz, fun e => ?_, fun _ e => ?_, fun _ _ p hp => ?_⟩
    · subst e
      have hl : l = [] := List.eq_nil_of_length_eq_zero (by rw [← h2.len]; rfl)
      subst hl
      exact hQ T H _ (same_refl T) S ⟨b, ys, rfl, h3, h4⟩
    · subst e
      have hl : m = [] := List.eq_nil_of_length_eq_zero (by rw [← h4.len]; rfl)
      subst hl
      exact hQ T H _ (same_refl T) S ⟨a, xs, rfl, h1, by rw [List.append_nil]; exact h2⟩
    · have hT := upd_none (o := .tup (xs ++ ys)) (S.tn hp)
      exact hQ _ _ _ hT (S.new hp) ⟨p, xs ++ ys, rfl, SqT.of upd_same, (h2.app h4).mono hT⟩
  all_goals first | contradiction | cases hd
theorem opR_sub : OpR X (binaryOp .Sub) (rOpD (t.k X) (opD .sub)) := by
  intro pins s σ H x y v u Q I rx ry ⟨T, Fr, μ, s', σ', p, q, d, S, tp, tq, hd, hQ⟩
  unfold opD at hd
  split at hd <;> first | contradiction | cases hd
  cases (show x = _ from tp); cases (show y = _ from tq)
  exact op_sub pins s σ H _ _ v u Q I rx ry ⟨_, _, rfl, rfl, hQ T H _ (same_refl T) S rfl⟩
theorem opR_mul : OpR X (binaryOp .Mult) (rOpD (t.k X) (opD .mul)) := by
  intro pins s σ H x y v u Q I rx ry ⟨T, Fr, μ, s', σ', p, q, d, S, tp, tq, hd, hQ⟩
  unfold opD at hd
  split at hd <;> first | contradiction | (cases hd; done) | skip
  · obtain ⟨hb, e⟩ := optB_some hd
    subst e
    cases (show x = _ from tp); cases (show y = _ from tq)
    refine op_mul pins s σ H _ _ v u Q I rx ry ⟨_, _, rfl, rfl, ?_, hQ T H _ (same_refl T) S rfl⟩
    simp only [mulOk, Bool.or_eq_true, Bool.and_eq_true, decide_eq_true_eq] at hb
    exact hb
  · rename_i l k _
    obtain ⟨hb, e⟩ := optB_some hd
    subst e
    simp only [Bool.and_eq_true, decide_eq_true_eq, Bool.not_eq_true'] at hb
    obtain ⟨⟨⟨b1, b2⟩, b3⟩, b4⟩ := hb
    obtain ⟨a, xs, rfl, h1, h2⟩ := (show ∃ a vs, x = .ref a ∧ SqT X.K T a vs ∧ Reps (t.k X) T l vs from tp)
    cases (show y = _ from tq)
    have hl := h2.len
    refine op_repT pins s σ H _ _ v u Q I rx ry ⟨a, k, xs, rfl, rfl, sqT_same S.tH h1, fun e => ?_, b2, b3, by rw [hl]; exact b4, fun p hp => ?_⟩
    · subst e
      have hl : l = [] := List.eq_nil_of_length_eq_zero hl.symm
      subst hl
      cases b1
    · have hT := upd_none (o := .tup (List.replicate k.toNat xs).flatten) (S.tn hp)
      exact hQ _ _ _ hT (S.new hp) ⟨p, _, rfl, SqT.of upd_same, (h2.repl _).mono hT⟩
theorem opR_fdiv : OpR X (binaryOp .FloorDiv) (rOpD (t.k X) (opD .fdiv)) := by
  intro pins s σ H x y v u Q I rx ry ⟨T, Fr, μ, s', σ', p, q, d, S, tp, tq, hd, hQ⟩
  unfold opD at hd
  split at hd <;> first | contradiction | (cases hd; done) | skip
  obtain ⟨hb, e⟩ := optB_some hd
  subst e
  cases (show x = _ from tp); cases (show y = _ from tq)
  refine op_fdivN pins s σ H _ _ v u Q I rx ry ⟨_, _, rfl, rfl, ?_, hQ T H _ (same_refl T) S rfl⟩
  simp only [Bool.and_eq_true, decide_eq_true_eq] at hb
  exact hb
theorem opR_mod : OpR X (binaryOp .Mod) (rOpD (t.k X) (opD .mod)) := by
  intro pins s σ H x y v u Q I rx ry ⟨T, Fr, μ, s', σ', p, q, d, S, tp, tq, hd, hQ⟩
  unfold opD at hd
  split at hd <;> first | contradiction | (cases hd; done) | skip
  obtain ⟨hb, e⟩ := optB_some hd
  subst e
  cases (show x = _ from tp); cases (show y = _ from tq)
  refine op_modN pins s σ H _ _ v u Q I rx ry ⟨_, _, rfl, rfl, of_decide_eq_true hb, hQ T H _ (same_refl T) S rfl⟩
theorem opR_pow : OpR X (binaryOp .Pow) (rOpD (t.k X) (opD .pow)) := by
  intro pins s σ H x y v u Q I rx ry ⟨T, Fr, μ, s', σ', p, q, d, S, tp, tq, hd, hQ⟩
  unfold opD at hd
  split at hd <;> first | contradiction | (cases hd; done) | skip
  obtain ⟨hb, e⟩ := optB_some hd
  subst e
  cases (show x = _ from tp); cases (show y = _ from tq)
  refine op_pow pins s σ H _ _ v u Q I rx ry ⟨_, _, rfl, rfl, ?_, hQ T H _ (same_refl T) S rfl⟩
  simp only [Bool.and_eq_true, decide_eq_true_eq] at hb
  exact ⟨hb.1.1, hb.1.2, hb.2⟩
def o2B : O2 → Operator → Bool
  | .add, .Add => true
  | .sub, .Sub => true
  | .mul, .Mult => true
  | .fdiv, .FloorDiv => true
  | .mod, .Mod => true
  | .pow, .Pow => true
  | _, _ => false
theorem opR {f : O2} {op : Operator} (h : o2B f op = true) : OpR X (binaryOp op) (rOpD (t.k X) (opD f)) := by
  unfold o2B at h
  split at h
  · exact opR_add
  · exact opR_sub
  · exact opR_mul
  · exact opR_fdiv
  · exact opR_mod
  · exact opR_pow
  · cases h
theorem map_some {α β : Type} {f : α → β} {o : Option α} {b : β} (h : o.map f = some b) : ∃ a, o = some a ∧ f a = b := by
  cases o with
  | none => cases h
  | some a => exact ⟨a, rfl, Option.some.inj h⟩
theorem s_op {f : O2} {op : Operator} {a b : Ex} {xa xb : Expr} {pos : Pos} (ho : o2B f op = true) (ha : SE t n M a xa) (hb : SE t n M b xb) : SE t n M (.op f a b) (.BinOp xa op xb pos) := fun X W O => by
  refine PE.weak (pe_op (opR (t := t) ho) (ha X W O) (hb X W O)) fun σ H Q ⟨T, Fr, μ, s, S, a⟩ => ?_
  unfold ev at a
  refine rd_bind S a fun T1 μ1 H1 x w1 s1 e1 p1 S1 r1 a => rd_bind S1 a fun T2 μ2 H2 y w2 s2 e2 p2 S2 r2 a => ?_
  split at a
  · rename_i p q hp hq
    obtain ⟨w, hw, a⟩ := Aft.of a
    obtain ⟨d, hd, e⟩ := map_some hw
    subst e
    exact ⟨T2, Fr, μ2, s2, σ, p, q, d, S2, S2.look (r1.mono e2 p2) hp, S2.look r2 hq, hd, fun T' H' v e' S' r' => a T' μ2 H' v e' (List.prefix_refl _) S' r'⟩
  · exact a.elim
theorem s_neg {a : Ex} {xa : Expr} {pos : Pos} (ha : SE t n M a xa) : SE t n M (.neg a) (.UnaryOp .USub xa pos) := fun X W O => by
  refine PE.weak (pe_un un_neg (ha X W O)) fun σ H Q ⟨T, Fr, μ, s, S, a⟩ => ?_
  unfold ev at a
  refine rd_bind S a fun T1 μ1 H1 x w1 s1 e1 p1 S1 r1 a => ?_
  split at a
  · rename_i i
    exact ⟨i, r1, a.here S1 rfl⟩
  · exact a.elim

mutual
theorem Rep.dp {k : Kx} {T : Hp} : ∀ {d : D} {v : V} {p : PyData}, Rep k T d v → D.py d = some p → Dp k.K T v p
  | .non, v, p, h, e => by cases (show v = _ from h); cases (show some _ = some p from e); exact .non
  | .bl b, v, p, h, e => by cases (show v = _ from h); cases (show some _ = some p from e); exact .bl b
  | .int i, v, p, h, e => by cases (show v = _ from h); cases (show some _ = some p from e); exact .int i
  | .str x, v, p, h, e => by cases (show v = _ from h); cases (show some _ = some p from e); exact .str x
  | .tup l, v, p, h, e => by
    obtain ⟨a, vs, rfl, h1, h2⟩ := h
    unfold D.py at e
    obtain ⟨ps, e1, rfl⟩ := map_some e
    exact .tup h1 (Reps.dp h2 e1)
  | .lst l, v, p, h, e => by
    obtain ⟨a, vs, rfl, h1, h2⟩ := h
    unfold D.py at e
    obtain ⟨ps, e1, rfl⟩ := map_some e
    exact .lst (SqL.of h1) (Reps.dp h2 e1)
  | .obj _ _ _, v, p, h, e => by cases (show none = some p from e)
  | .exn _ _ _, v, p, h, e => by cases (show none = some p from e)
theorem Reps.dp {k : Kx} {T : Hp} : ∀ {l : List D} {vs : List V} {ps : List PyData}, Reps k T l vs → D.pys l = some ps → DpAll k.K T vs ps
  | [], vs, ps, h, e => by cases (show vs = _ from h); cases (show some _ = some ps from e); exact .nil
  | d :: l, vs, ps, h, e => by
    obtain ⟨v, r, rfl, h1, h2⟩ := h
    unfold D.pys at e
    split at e
    · rename_i a b ha hb
      cases e
      exact .cons (Rep.dp h1 ha) (Reps.dp h2 hb)
    · cases e
end
/-- flat data has one value -/
def toV : D → V
  | .non => .non
  | .bl b => .bl b
  | .int i => .int i
  | .str s => .str s
  | _ => .non
theorem Top.dp {k : Kx} {T H : Hp} (e : Same T H) : ∀ {d : D} {v : V} {p : PyData}, Top k T H d v → d.py = some p → Dp k.K H v p
  | .lst l, v, p, h, q => by
    obtain ⟨a, vs, rfl, h1, h2⟩ := h
    unfold D.py at q
    obtain ⟨ps, e1, rfl⟩ := map_some q
    exact .lst (.inl h1) (Reps.dp (h2.mono e) e1)
  | .tup l, v, p, h, q => Rep.dp (Rep.mono e h) q
  | .non, v, p, h, q => Rep.dp (k := k) (T := H) (d := .non) h q
  | .bl _, v, p, h, q => Rep.dp (k := k) (T := H) (d := .bl _) h q
  | .int _, v, p, h, q => Rep.dp (k := k) (T := H) (d := .int _) h q
  | .str _, v, p, h, q => Rep.dp (k := k) (T := H) (d := .str _) h q
  | .obj _ _ _, v, p, h, q => Rep.dp (Rep.mono e h) q
  | .exn _ _ _, v, p, h, q => Rep.dp (Rep.mono e h) q
theorem Top.flat {k : Kx} {T H : Hp} : ∀ {d : D} {v : V}, Top k T H d v → d.fl = true → v = toV d
  | .lst l, v, h, q => by cases q
  | .tup l, v, h, q => by cases q
  | .non, v, h, q => h
  | .bl _, v, h, q => h
  | .int _, v, h, q => h
  | .str _, v, h, q => h
  | .obj _ _ _, v, h, q => by cases q
  | .exn _ _ _, v, h, q => by cases q
/-- two operands as they stand, a truth -/
def rCmD (k : Kx) (f : D → D → Option Bool) : R2 := fun x y H Q => ∃ T Fr μ s σ p q b, Sim k T Fr μ s σ H ∧ Top k T H p x ∧ Top k T H q y ∧ f p q = some b ∧ Q (.bl b) H
theorem eqG_some {p q : D} {b : Bool} (h : eqG p q = some b) : ∃ a c, p.py = some a ∧ q.py = some c ∧ SeqAt.shaped a = true ∧ SeqAt.shaped c = true ∧ PyData.eqv a c = b := by
  unfold eqG at h
  split at h
  · rename_i a c h1 h2
    obtain ⟨hb, e⟩ := optB_some h
    simp only [Bool.and_eq_true] at hb
    exact ⟨a, c, h1, h2, hb.1, hb.2, e⟩
  · cases h
theorem eqD_some {p q : D} {b : Bool} (h : eqD p q = some b) : (∃ x y, p = .str x ∧ q = .str y ∧ b = decide (x = y)) ∨ ∃ a c, p.py = some a ∧ q.py = some c ∧ SeqAt.shaped a = true ∧ SeqAt.shaped c = true ∧ PyData.eqv a c = b := by
  unfold eqD at h
  split at h
  · cases h; exact .inl ⟨_, _, rfl, rfl, rfl⟩
  · exact .inr (eqG_some h)
theorem str_dec (x y : Str) : decide (V.str x = V.str y) = decide (x = y) := by
  by_cases h : x = y
  · subst h; simp
  · rw [decide_eq_false h, decide_eq_false fun e => h (V.str.inj e)]
theorem cmR_eq (hu : X.A.units + 64 < cLine) : OpR X (compareOp .Eq) (rCmD (t.k X) eqD) := by
  intro pins s σ H x y v u Q I rx ry ⟨T, Fr, μ, s', σ', p, q, b, S, tp, tq, hd, hQ⟩
  rcases eqD_some hd with ⟨a, c, rfl, rfl, rfl⟩ | ⟨a, c, h1, h2, h3, h4, rfl⟩
  · cases (show x = _ from tp); cases (show y = _ from tq)
    exact op_eq pins s σ H _ _ v u Q I rx ry ⟨rfl, by rw [str_dec]; exact hQ⟩
  exact op_eqD hu pins s σ H x y v u Q I rx ry ⟨a, c, tp.dp S.tH h1, tq.dp S.tH h2, h3, h4, hQ⟩
theorem cmR_ne (hu : X.A.units + 64 < cLine) : OpR X (compareOp .NotEq) (rCmD (t.k X) fun x y => (eqD x y).map (!·)) := by
  intro pins s σ H x y v u Q I rx ry ⟨T, Fr, μ, s', σ', p, q, b, S, tp, tq, hd, hQ⟩
  obtain ⟨b', hd2, rfl⟩ := map_some hd
  rcases eqD_some hd2 with ⟨a, c, rfl, rfl, rfl⟩ | ⟨a, c, h1, h2, h3, h4, rfl⟩
  · cases (show x = _ from tp); cases (show y = _ from tq)
    exact op_ne pins s σ H _ _ v u Q I rx ry ⟨rfl, by rw [str_dec]; exact hQ⟩
  exact op_neD hu pins s σ H x y v u Q I rx ry ⟨a, c, tp.dp S.tH h1, tq.dp S.tH h2, h3, h4, hQ⟩
theorem cmR_ord {op : CmpOp} {f : C2} {g : Int → Int → Bool} (hr : OpR X (compareOp op) (rI0 fun i j => .bl (g i j))) (hf : ∀ p q b, cmpD f p q = some b → ∃ i j, p = .int i ∧ q = .int j ∧ b = g i j) : OpR X (compareOp op) (rCmD (t.k X) (cmpD f)) := by
  intro pins s σ H x y v u Q I rx ry ⟨T, Fr, μ, s', σ', p, q, b, S, tp, tq, hd, hQ⟩
  obtain ⟨i, j, rfl, rfl, rfl⟩ := hf p q b hd
  cases (show x = _ from tp); cases (show y = _ from tq)
  exact hr pins s σ H _ _ v u Q I rx ry ⟨i, j, rfl, rfl, hQ⟩
theorem ord_of {f : C2} {g : Int → Int → Bool} (h : ∀ i j, cmpD f (.int i) (.int j) = some (g i j)) (hn : f = .lt ∨ f = .le ∨ f = .gt ∨ f = .ge) : ∀ p q b, cmpD f p q = some b → ∃ i j, p = .int i ∧ q = .int j ∧ b = g i j := by
  intro p q b e
  have key : ∀ p q, (∃ i j, p = D.int i ∧ q = D.int j) ∨ cmpD f p q = none := by
    intro p q
    rcases hn with rfl | rfl | rfl | rfl <;> cases p <;> cases q <;> first | exact .inr rfl | exact .inl ⟨_, _, rfl, rfl⟩
  rcases key p q with ⟨i, j, rfl, rfl⟩ | z
  · rw [h] at e; cases e; exact ⟨i, j, rfl, rfl, rfl⟩
  · rw [z] at e; cases e
theorem Rep.flat {k : Kx} {T : Hp} : ∀ {d : D} {v : V}, Rep k T d v → d.fl = true → v = toV d
  | .non, _, h, _ => h
  | .bl _, _, h, _ => h
  | .int _, _, h, _ => h
  | .str _, _, h, _ => h
  | .tup _, _, _, e => by cases e
  | .lst _, _, _, e => by cases e
  | .obj _ _ _, _, _, e => by cases e
  | .exn _ _ _, _, _, e => by cases e
theorem flat_toV : ∀ {d : D}, d.fl = true → flatV (toV d) = true
  | .non, _ => rfl
  | .bl _, _ => rfl
  | .int _, _ => rfl
  | .str _, _ => rfl
  | .tup _, e => by cases e
  | .lst _, e => by cases e
  | .obj _ _ _, e => by cases e
  | .exn _ _ _, e => by cases e
theorem Reps.flat {k : Kx} {T : Hp} : ∀ {l : List D} {vs : List V}, Reps k T l vs → l.all D.fl = true → vs = l.map toV
  | [], _, h, _ => h
  | d :: l, _, h, e => by
    obtain ⟨v, r, rfl, h1, h2⟩ := h
    simp only [List.all_cons, Bool.and_eq_true] at e
    rw [Rep.flat h1 e.1, Reps.flat h2 e.2]; rfl
theorem eqV_toV : ∀ {x y : D}, x.fl = true → y.fl = true → eqV (toV x) (toV y) = eqF x y := by
  intro x y hx hy
  cases x <;> first | (cases hx; done) | skip
  all_goals (cases y <;> first | (cases hy; done) | skip)
  all_goals first | rfl | (simp [eqV, eqF, toV]; done) | skip
theorem in_any {x : D} {l : List D} (hx : x.fl = true) (hl : l.all D.fl = true) : inV (toV x) (l.map toV) = l.any fun y => eqF y x := by
  unfold inV
  rw [List.any_map]
  induction l with
  | nil => rfl
  | cons d l ih =>
    simp only [List.all_cons, Bool.and_eq_true] at hl
    simp only [List.any_cons, Function.comp]
    rw [eqV_toV hl.1 hx]
    exact congrArg _ (ih hl.2)
theorem all_flat {l : List D} (h : l.all D.fl = true) : (l.map toV).all flatV = true := by
  rw [List.all_map]
  rw [List.all_eq_true] at h ⊢
  intro d hd
  exact flat_toV (h d hd)
/-- what stands in an open list or tuple -/
theorem Top.seq {k : Kx} {T H : Hp} (e : Same T H) {l : List D} {v : V} (h : Top k T H (.lst l) v ∨ Top k T H (.tup l) v) : ∃ a vs, v = .ref a ∧ (SqL k.K H a vs ∨ SqT k.K H a vs) ∧ Reps k T l vs := by
  rcases h with h | h
  · obtain ⟨a, vs, e1, h1, h2⟩ := h
    exact ⟨a, vs, e1, .inl (.inl h1), h2⟩
  · obtain ⟨a, vs, e1, h1, h2⟩ := (show Rep k T (.tup l) v from h)
    exact ⟨a, vs, e1, .inr (sqT_same e h1), h2⟩
theorem inD_some {p q : D} {b : Bool} (h : inD p q = some b) : (∃ l, (q = .lst l ∨ q = .tup l) ∧ p.fl = true ∧ l.all D.fl = true ∧ (l.any fun y => eqF y p) = b) ∨
    ∃ a z, p = .str a ∧ q = .str z ∧ (!(Builtin.Str.occurrences z a 0 z.length 1).isEmpty) = b := by
  unfold inD at h
  split at h
  · obtain ⟨hb, e⟩ := optB_some h
    simp only [Bool.and_eq_true] at hb
    exact .inl ⟨_, .inl rfl, hb.1, hb.2, e⟩
  · obtain ⟨hb, e⟩ := optB_some h
    simp only [Bool.and_eq_true] at hb
    exact .inl ⟨_, .inr rfl, hb.1, hb.2, e⟩
  · split at h
    · cases h; exact .inr ⟨_, _, rfl, rfl, rfl⟩
    · cases h
  · cases h
theorem cmR_in : OpR X (compareOp .In) (rCmD (t.k X) inD) := by
  intro pins s σ H x y v u Q I rx ry ⟨T, Fr, μ, s', σ', p, q, b, S, tp, tq, hd, hQ⟩
  rcases inD_some hd with ⟨l, hl, h1, h2, rfl⟩ | ⟨a, z, rfl, rfl, rfl⟩
  · obtain ⟨c, vs, rfl, h3, h4⟩ := Top.seq (k := t.k X) S.tH (l := l) (v := y) (by rcases hl with rfl | rfl; exact .inl tq; exact .inr tq)
    have ex := tp.flat h1
    have ev := h4.flat h2
    subst ex ev
    exact op_in_seq pins s σ H _ _ v u Q I rx ry ⟨c, _, rfl, h3, flat_toV h1, all_flat h2, by rw [in_any h1 h2]; exact hQ⟩
  · cases (show x = _ from tp); cases (show y = _ from tq)
    exact op_in_str pins s σ H _ _ v u Q I rx ry ⟨_, _, rfl, rfl, hQ⟩
theorem cmR_nin : OpR X (compareOp .NotIn) (rCmD (t.k X) fun x y => (inD x y).map (!·)) := by
  intro pins s σ H x y v u Q I rx ry ⟨T, Fr, μ, s', σ', p, q, b, S, tp, tq, hd, hQ⟩
  obtain ⟨b', hd2, rfl⟩ := map_some hd
  rcases inD_some hd2 with ⟨l, hl, h1, h2, rfl⟩ | ⟨a, z, rfl, rfl, rfl⟩
  · obtain ⟨c, vs, rfl, h3, h4⟩ := Top.seq (k := t.k X) S.tH (l := l) (v := y) (by rcases hl with rfl | rfl; exact .inl tq; exact .inr tq)
    have ex := tp.flat h1
    have ev := h4.flat h2
    subst ex ev
    exact op_notIn_seq pins s σ H _ _ v u Q I rx ry ⟨c, _, rfl, h3, flat_toV h1, all_flat h2, by rw [in_any h1 h2]; exact hQ⟩
  · cases (show x = _ from tp); cases (show y = _ from tq)
    exact op_notIn_str pins s σ H _ _ v u Q I rx ry ⟨_, _, rfl, rfl, hQ⟩
theorem non_iff {k : Kx} {T H : Hp} {p : D} {x : V} (h : Top k T H p x) : decide (x = V.non) = (match p with | .non => true | _ => false) := by
  cases p with
  | non => cases (show x = _ from h); rfl
  | bl _ => cases (show x = _ from h); rfl
  | int _ => cases (show x = _ from h); rfl
  | str _ => cases (show x = _ from h); rfl
  | tup _ => obtain ⟨a, vs, rfl, _⟩ := h; rfl
  | lst _ => obtain ⟨a, vs, rfl, _⟩ := h; rfl
  | obj _ _ _ => obtain ⟨a, C, dx, vs, rfl, _⟩ := h; rfl
  | exn _ _ _ => obtain ⟨a, dx, fs, rfl, _⟩ := h; rfl
theorem cmR_is : OpR X (compareOp .Is) (rCmD (t.k X) (cmpD .isn)) := by
  intro pins s σ H x y v u Q I rx ry ⟨T, Fr, μ, s', σ', p, q, b, S, tp, tq, hd, hQ⟩
  cases q with
  | non =>
    cases (show y = _ from tq)
    refine op_isN pins s σ H _ _ v u Q I rx ry ⟨rfl, ?_⟩
    rw [non_iff tp]
    cases p <;> (cases hd; exact hQ)
  | bl c =>
    cases p with
    | bl a =>
      cases (show x = _ from tp)
      cases (show y = _ from tq)
      cases hd
      exact op_is_bl pins s σ H _ _ v u Q I rx ry ⟨a, c, rfl, rfl, hQ⟩
    | _ => cases hd
  | _ => cases p <;> cases hd
theorem cmR_nis : OpR X (compareOp .IsNot) (rCmD (t.k X) (cmpD .nisn)) := by
  intro pins s σ H x y v u Q I rx ry ⟨T, Fr, μ, s', σ', p, q, b, S, tp, tq, hd, hQ⟩
  cases q with
  | non =>
    cases (show y = _ from tq)
    refine op_notN pins s σ H _ _ v u Q I rx ry ⟨rfl, ?_⟩
    rw [non_iff tp]
    cases p <;> (cases hd; exact hQ)
  | bl c =>
    cases p with
    | bl a =>
      cases (show x = _ from tp)
      cases (show y = _ from tq)
      cases hd
      exact op_isnot_bl pins s σ H _ _ v u Q I rx ry ⟨a, c, rfl, rfl, hQ⟩
    | _ => cases hd
  | _ => cases p <;> cases hd
def c2B : C2 → CmpOp → Bool
  | .eq, .Eq => true
  | .ne, .NotEq => true
  | .lt, .Lt => true
  | .le, .LtE => true
  | .gt, .Gt => true
  | .ge, .GtE => true
  | .isn, .Is => true
  | .nisn, .IsNot => true
  | .inn, .In => true
  | .nin, .NotIn => true
  | _, _ => false
theorem cmR {f : C2} {op : CmpOp} (h : c2B f op = true) (hu : X.A.units + 64 < cLine) : OpR X (compareOp op) (rCmD (t.k X) (cmpD f)) := by
  unfold c2B at h
  split at h
  · exact cmR_eq hu
  · exact cmR_ne hu
  · exact cmR_ord op_lt (ord_of (fun _ _ => rfl) (.inl rfl))
  · exact cmR_ord op_le (ord_of (fun _ _ => rfl) (.inr (.inl rfl)))
  · exact cmR_ord op_gt (ord_of (fun _ _ => rfl) (.inr (.inr (.inl rfl))))
  · exact cmR_ord op_ge (ord_of (fun _ _ => rfl) (.inr (.inr (.inr rfl))))
  · exact cmR_is
  · exact cmR_nis
  · exact cmR_in
  · exact cmR_nin
  · cases h
theorem Ok.u64 (O : Ok t n M X W) : X.A.units + 64 < cLine := O.room.r.units
theorem s_cmp {f : C2} {op : CmpOp} {a b : Ex} {xa xb : Expr} {pos : Pos} (ho : c2B f op = true) (hm : behindInMarks op xb = false) (ha : SE t n M a xa) (hb : SE t n M b xb) : SE t n M (.cmp f a b) (.Compare xa [op] [xb] pos) := fun X W O => by
  refine PE.weak (pe_cmpR (cmR (t := t) ho O.u64) (ha X W O) (hb X W O) hm) fun σ H Q ⟨T, Fr, μ, s, S, a⟩ => ?_
  unfold ev at a
  refine rd_bind S a fun T1 μ1 H1 x w1 s1 e1 p1 S1 r1 a => rd_bind S1 a fun T2 μ2 H2 y w2 s2 e2 p2 S2 r2 a => ?_
  split at a
  · rename_i p q hp hq
    obtain ⟨w, hw, a⟩ := Aft.of a
    obtain ⟨d, hd, e⟩ := map_some hw
    subst e
    exact ⟨T2, Fr, μ2, s2, σ, p, q, d, S2, S2.look (r1.mono e2 p2) hp, S2.look r2 hq, hd, a.here S2 rfl⟩
  · exact a.elim
theorem st_cmp {f : C2} {op : CmpOp} {a b : Ex} {xa xb : Expr} {pos : Pos} (ho : c2B f op = true) (hm : behindInMarks op xb = false) (ha : SE t n M a xa) (hb : SE t n M b xb) : ST t n M (.cmp f a b) (.Compare xa [op] [xb] pos) := fun X W O => by
  refine PT.weak (pt_cmpR (cmR (t := t) ho O.u64) (ha X W O) (hb X W O) hm) fun σ H Q ⟨T, Fr, μ, s, S, a⟩ => ?_
  unfold evT at a
  refine rd_bind S a fun T1 μ1 H1 x w1 s1 e1 p1 S1 r1 a => rd_bind S1 a fun T2 μ2 H2 y w2 s2 e2 p2 S2 r2 a => ?_
  split at a
  · rename_i p q hp hq
    obtain ⟨d, hd, a⟩ := Aft.of a
    exact ⟨T2, Fr, μ2, s2, σ, p, q, d, S2, S2.look (r1.mono e2 p2) hp, S2.look r2 hq, hd, d, rfl, a.here S2 rfl⟩
  · exact a.elim
theorem s_cmp2 {f g : C2} {op op' : CmpOp} {a b c : Ex} {xa xb xc : Expr} {pos : Pos} (ho : c2B f op = true) (ho' : c2B g op' = true) (hm : lastMarks [op, op'] [xb, xc] = false) (ha : SE t n M a xa) (hb : SE t n M b xb) (hc : SE t n M c xc) :
    SE t n M (.cmp2 f g a b c) (.Compare xa [op, op'] [xb, xc] pos) := fun X W O => by
  refine PE.weak (pe_chain (cmR (t := t) ho O.u64) (cmR (t := t) ho' O.u64) (ha X W O) (hb X W O) (hc X W O) hm) fun σ H Q ⟨T, Fr, μ, s, S, a⟩ => ?_
  unfold ev at a
  refine rd_bind S a fun T1 μ1 H1 x w1 s1 e1 p1 S1 r1 a => rd_bind S1 a fun T2 μ2 H2 y w2 s2 e2 p2 S2 r2 a => ?_
  split at a
  · rename_i p q hp hq
    split at a
    · rename_i hd
      refine ⟨T2, Fr, μ2, s2, σ, p, q, true, S2, S2.look (r1.mono e2 p2) hp, S2.look r2 hq, hd, true, rfl, ?_⟩
      rw [if_pos rfl]
      refine rd_bind S2 a fun T3 μ3 H3 z w3 s3 e3 p3 S3 r3 a => ?_
      split at a
      · rename_i q' u hq' hu
        obtain ⟨w, hw, a⟩ := Aft.of a
        obtain ⟨d, hd, e⟩ := map_some hw
        subst e
        exact ⟨T3, Fr, μ3, s3, σ, q', u, d, S3, S3.look (r2.mono e3 p3) hq', S3.look r3 hu, hd, a.here S3 rfl⟩
      · exact a.elim
    · rename_i hd
      refine ⟨T2, Fr, μ2, s2, σ, p, q, false, S2, S2.look (r1.mono e2 p2) hp, S2.look r2 hq, hd, false, rfl, ?_⟩
      rw [if_neg Bool.false_ne_true]
      exact a.here S2 rfl
    · exact a.elim
  · exact a.elim
theorem st_cmp2 {f g : C2} {op op' : CmpOp} {a b c : Ex} {xa xb xc : Expr} {pos : Pos} (ho : c2B f op = true) (ho' : c2B g op' = true) (hm : lastMarks [op, op'] [xb, xc] = false) (ha : SE t n M a xa) (hb : SE t n M b xb) (hc : SE t n M c xc) :
    ST t n M (.cmp2 f g a b c) (.Compare xa [op, op'] [xb, xc] pos) := fun X W O => by
  refine PT.weak (pt_chain (cmR (t := t) ho O.u64) (cmR (t := t) ho' O.u64) (ha X W O) (hb X W O) (hc X W O) hm) fun σ H Q ⟨T, Fr, μ, s, S, a⟩ => ?_
  unfold evT at a
  refine rd_bind S a fun T1 μ1 H1 x w1 s1 e1 p1 S1 r1 a => rd_bind S1 a fun T2 μ2 H2 y w2 s2 e2 p2 S2 r2 a => ?_
  split at a
  · rename_i p q hp hq
    split at a
    · rename_i hd
      refine ⟨T2, Fr, μ2, s2, σ, p, q, true, S2, S2.look (r1.mono e2 p2) hp, S2.look r2 hq, hd, true, rfl, ?_⟩
      rw [if_pos rfl]
      refine rd_bind S2 a fun T3 μ3 H3 z w3 s3 e3 p3 S3 r3 a => ?_
      split at a
      · rename_i q' u hq' hu
        obtain ⟨d, hd, a⟩ := Aft.of a
        exact ⟨T3, Fr, μ3, s3, σ, q', u, d, S3, S3.look (r2.mono e3 p3) hq', S3.look r3 hu, hd, d, rfl, a.here S3 rfl⟩
      · exact a.elim
    · rename_i hd
      refine ⟨T2, Fr, μ2, s2, σ, p, q, false, S2, S2.look (r1.mono e2 p2) hp, S2.look r2 hq, hd, false, rfl, ?_⟩
      rw [if_neg Bool.false_ne_true]
      exact ⟨false, rfl, a.here S2 rfl⟩
    · exact a.elim
  · exact a.elim
end
end Pc

set_option Elab.async false
set_option linter.all false
set_option maxRecDepth 100000
set_option maxHeartbeats 4000000
namespace Pc
open PySem L2
section
variable {t : Tb} {n : Nat} {M : Mc} {X : Cx}
theorem Aft.hereE {k : Kx} {T Fr H : Hp} {μ : List Addr} {W : WX} {σ : L2.St} {Q : VK} {s : Ss} {d : D} {v : V} (a : Aft k T Fr μ W σ (rE k) Q (.ok (.d d) s)) (S : Sim k T Fr μ s σ H) (r : Rep k T d v) : Q v H := a.here S r
def SB (t : Tb) (n : Nat) (M : Mc) (an : Bool) (e : Exs) (x : Expr) : Prop := ∀ X W, Ok t n M X W → PE X x (rd (t.k X) W (rE (t.k X)) (evB (t.o n) an e))
def bopB (an : Bool) : BoolOp → Bool
  | .And => an
  | .Or => !an
theorem sb_one {an : Bool} {op : BoolOp} {a : Ex} {xa : Expr} {pos : Pos} (ha : SE t n M a xa) : SB t n M an (.cons a .nil) (.BoolOp op [xa] pos) := fun X W O =>
  PE.weak (pe_one (ha X W O)) fun σ H Q ⟨T, Fr, μ, s, S, a⟩ => ⟨T, Fr, μ, s, S, by unfold evB at a; exact a⟩
theorem sb_cons {an : Bool} {op : BoolOp} {a b : Ex} {r : Exs} {xa xb : Expr} {xs : List Expr} {pos : Pos} (ho : bopB an op = true) (ha : SE t n M a xa) (hr : SB t n M an (.cons b r) (.BoolOp op (xb :: xs) pos)) :
    SB t n M an (.cons a (.cons b r)) (.BoolOp op (xa :: xb :: xs) pos) := fun X W O => by
  cases op with
  | And =>
    have e : an = true := ho
    subst e
    refine PE.weak (pe_and (ha X W O) (hr X W O)) fun σ H Q ⟨T, Fr, μ, s, S, a⟩ => ?_
    unfold evB at a
    refine rd_bind S a fun T1 μ1 H1 x w1 s1 e1 p1 S1 r1 a => ?_
    split at a
    · rename_i c
      refine ⟨c, r1, ?_⟩
      cases c with
      | true => exact ⟨T1, Fr, μ1, s1, S1, a⟩
      | false => exact a.here S1 rfl
    · exact a.elim
  | Or =>
    have e : an = false := by revert ho; cases an <;> simp [bopB]
    subst e
    refine PE.weak (pe_or (ha X W O) (hr X W O)) fun σ H Q ⟨T, Fr, μ, s, S, a⟩ => ?_
    unfold evB at a
    refine rd_bind S a fun T1 μ1 H1 x w1 s1 e1 p1 S1 r1 a => ?_
    split at a
    · rename_i c
      refine ⟨c, r1, ?_⟩
      cases c with
      | true => exact a.here S1 rfl
      | false => exact ⟨T1, Fr, μ1, s1, S1, a⟩
    · exact a.elim
theorem s_bop {an : Bool} {e : Exs} {x : Expr} (h : SB t n M an e x) : SE t n M (.bop an e) x := fun X W O =>
  PE.weak (h X W O) fun σ H Q ⟨T, Fr, μ, s, S, a⟩ => ⟨T, Fr, μ, s, S, by unfold ev at a; exact a⟩
theorem s_not {a : Ex} {xa : Expr} {pos : Pos} (ha : SE t n M a xa) : SE t n M (.not a) (.UnaryOp .Not xa pos) := fun X W O => by
  refine PE.weak (pe_not (ha X W O)) fun σ H Q ⟨T, Fr, μ, s, S, a⟩ => ?_
  unfold ev at a
  refine rd_bind S a fun T1 μ1 H1 x w1 s1 e1 p1 S1 r1 a => ?_
  split at a
  · rename_i b
    exact ⟨b, r1, a.here S1 rfl⟩
  · exact a.elim
theorem s_ite {c : Te} {a b : Ex} {xc xa xb : Expr} {pos : Pos} (hc : ST t n M c xc) (ha : SE t n M a xa) (hb : SE t n M b xb) : SE t n M (.ite c a b) (.IfExp xc xa xb pos) := fun X W O => by
  refine PE.weak (pe_ifExp (hc X W O) (ha X W O) (hb X W O)) fun σ H Q ⟨T, Fr, μ, s, S, a⟩ => ?_
  unfold ev at a
  refine rd_bind S a fun T1 μ1 H1 x w1 s1 e1 p1 S1 r1 a => ?_
  cases (show w1 = x from r1)
  cases x with
  | true =>
    rw [if_pos rfl] at a ⊢
    exact ⟨T1, Fr, μ1, s1, S1, a⟩
  | false =>
    rw [if_neg Bool.false_ne_true] at a ⊢
    exact ⟨T1, Fr, μ1, s1, S1, a⟩
theorem ss_nil : SEs t n M .nil [] := fun X W O => PA.weak pa_nil fun σ H Q ⟨T, Fr, μ, s, S, a⟩ => a.here S rfl
def plainArg : Expr → Bool
  | .Starred _ _ => false
  | _ => true
theorem star_plain {e : Expr} (h : plainArg e = true) (es : List Expr) (env : Env) : starEach (e :: es) env = (false, eval e env) :: starEach es env := by
  cases e <;> first | rfl | cases h
theorem ss_cons {a : Ex} {r : Exs} {xa : Expr} {xs : List Expr} (hp : plainArg xa = true) (ha : SE t n M a xa) (hr : SEs t n M r xs) : SEs t n M (.cons a r) (xa :: xs) := fun X W O => by
  refine PA.weak (pa_cons (ha X W O) (hr X W O) (star_plain hp _ _)) fun σ H Q ⟨T, Fr, μ, s, S, a⟩ => ?_
  unfold evs at a
  refine rd_bind S a fun T1 μ1 H1 x w1 s1 e1 p1 S1 r1 a => rd_bind S1 a fun T2 μ2 H2 ys ws s2 e2 p2 S2 r2 a => ?_
  exact a.here S2 ⟨x, ys, rfl, RepR.mono e2 p2 r1, r2⟩
theorem RepRs.star {k : Kx} {T : Hp} {μ : List Addr} {σ : St} {ws : List W} {ys : List V} (h' : RepRs k T μ σ ws ys) : ∀ {l : List D} {vs : List V}, Reps k T l vs → RepRs k T μ σ (l.map Pc.W.d ++ ws) (vs ++ ys)
  | [], _, h => by cases (show _ = [] from h); exact h'
  | d :: l, _, h => by
    obtain ⟨v, r, rfl, h1, h2⟩ := h
    exact ⟨v, _, rfl, h1, RepRs.star h' h2⟩
theorem ss_star {a : Ex} {r : Exs} {xa : Expr} {p : Pos} {xs : List Expr} (ha : SE t n M a xa) (hr : SEs t n M r xs) : SEs t n M (.star a r) (.Starred xa p :: xs) := fun X W O => by
  refine PA.weak (StX.pa_star (ha X W O) (hr X W O)) fun σ H Q ⟨T, Fr, μ, s, S, a⟩ => ?_
  unfold evs at a
  refine rd_bind S a fun T1 μ1 H1 x w1 s1 e1 p1 S1 r1 a => ?_
  have go : ∀ l, (Rep (t.k X) T1 (.lst l) x ∨ Rep (t.k X) T1 (.tup l) x) → Aft (t.k X) T1 Fr μ1 W σ (rL (t.k X)) Q ((evs (t.o n) r s1).bind fun xs s2 => .ok (l.map Pc.W.d ++ xs) s2) →
      ∃ p xs_1, x = .ref p ∧ (SqT X.K H1 p xs_1 ∨ SqL X.K H1 p xs_1) ∧ rd (t.k X) W (rL (t.k X)) (evs (t.o n) r) σ H1 fun ys H2 => Q (xs_1 ++ ys) H2 := by
    intro l hl a
    obtain ⟨p, vs, rfl, h1, h2⟩ : ∃ p vs, x = .ref p ∧ (SqT X.K H1 p vs ∨ SqL X.K H1 p vs) ∧ Reps (t.k X) T1 l vs := by
      rcases hl with hl | hl
      · obtain ⟨p, vs, e, h1, h2⟩ := hl
        exact ⟨p, vs, e, .inr (SqL.of (S1.tH _ _ h1)), h2⟩
      · obtain ⟨p, vs, e, h1, h2⟩ := hl
        exact ⟨p, vs, e, .inl (sqT_same S1.tH h1), h2⟩
    refine ⟨p, vs, rfl, h1, rd_bind S1 a fun T2 μ2 H2 ys ws s2 e2 p2 S2 r2 a => ?_⟩
    exact a.here S2 (RepRs.star r2 (h2.mono e2))
  split at a
  · exact go _ (.inl r1) a
  · exact go _ (.inr r1) a
  · exact a.elim
theorem s_tup {es : Exs} {xs : List Expr} {j : Nat} {pos : Pos} (h : SEs t n M es xs) : SE t n M (.tup es) (.Tuple xs j pos) := fun X W O => by
  refine PE.weak (pe_tup (h X W O)) fun σ H Q ⟨T, Fr, μ, s, S, a⟩ => ?_
  unfold ev at a
  refine rd_bind S a fun T1 μ1 H1 vs ws s1 e1 p1 S1 r1 a => ?_
  split at a
  · rename_i ds hd
    have rr := RepRs.ds r1 hd
    split at a
    · rename_i hz
      refine ⟨by rw [rr.len]; exact hz, fun p hp => ?_⟩
      exact a _ μ1 _ _ (upd_none (S1.tn hp)) (List.prefix_refl _) (S1.new hp) ⟨p, vs, rfl, SqT.of upd_same, rr.mono (upd_none (S1.tn hp))⟩
    · exact a.elim
  · exact a.elim
theorem s_mk {f : Fx} {x : Expr} (h : SF t n M f x) : SE t n M (.mk f) x := fun X W O => by
  refine PE.weak (h X W O) fun σ H Q ⟨T, Fr, μ, s, S, a⟩ => ?_
  unfold ev at a
  refine rd_bind S a fun T1 μ1 H1 v l s1 e1 p1 S1 r1 a => ?_
  obtain ⟨p, rfl, S2⟩ := S1.share r1
  exact a T1 (μ1 ++ [p]) H1 _ (same_refl _) (List.prefix_append _ _) S2 ⟨p, by rw [← S1.len]; simp, rfl⟩
theorem s_fz {f : Fx} {x : Expr} (h : SF t n M f x) : SE t n M (.fz f) x := fun X W O => by
  refine PE.weak (h X W O) fun σ H Q ⟨T, Fr, μ, s, S, a⟩ => ?_
  unfold ev at a
  refine rd_bind S a fun T1 μ1 H1 v l s1 e1 p1 S1 r1 a => ?_
  obtain ⟨T2, e2, S2, r2⟩ := S1.keep r1
  exact a T2 μ1 H1 v e2 (List.prefix_refl _) S2 r2
theorem sf_disp {es : Exs} {xs : List Expr} {pos : Pos} (h : SEs t n M es xs) : SF t n M (.disp es) (.List xs pos) := fun X W O => by
  refine PE.weak (pe_lst (h X W O)) fun σ H Q ⟨T, Fr, μ, s, S, a⟩ => ?_
  unfold evF at a
  refine rd_bind S a fun T1 μ1 H1 vs ws s1 e1 p1 S1 r1 a => ?_
  split at a
  · rename_i ds hd
    have rr := RepRs.ds r1 hd
    split at a
    · rename_i hz
      refine ⟨by rw [rr.len]; exact hz, fun p hp => ?_⟩
      exact a T1 μ1 _ _ (same_refl _) (List.prefix_refl _) (S1.loose hp) (S1.fresh hp rr)
    · exact a.elim
  · exact a.elim
theorem ixD_eq (n : Nat) (i : Int) : ixD n i = ixN n i := rfl
def plainIxB : Expr → Bool
  | .Slice _ _ _ _ => false
  | _ => true
theorem plainIx_of {e : Expr} (h : plainIxB e = true) : PlainIx e := fun o i => by
  cases e <;> first | rfl | cases h
theorem at_reps {k : Kx} {T : Hp} {l : List D} {vs : List V} {i : Int} {d : D} (r : Reps k T l vs) (h : ((ixD l.length i).bind fun j => l[j]?) = some d) : ∃ v, atI vs i = some v ∧ Rep k T d v := by
  obtain ⟨j, h1, h2⟩ := Option.bind_eq_some_iff.mp h
  obtain ⟨v, h3, h4⟩ := r.get h2
  refine ⟨v, ?_, h4⟩
  unfold atI
  rw [r.len, ← ixD_eq, h1]
  exact h3
theorem s_sub {a i : Ex} {xa xi : Expr} {pos : Pos} (hp : plainIxB xi = true) (ha : SE t n M a xa) (hi : SE t n M i xi) : SE t n M (.sub a i) (.Subscript xa xi pos) := fun X W O => by
  refine PE.weak (pe_ix ix_seq (ha X W O) (hi X W O) (plainIx_of hp)) fun σ H Q ⟨T, Fr, μ, s, S, a⟩ => ?_
  unfold ev at a
  refine rd_bind S a fun T1 μ1 H1 x w1 s1 e1 p1 S1 r1 a => rd_bind S1 a fun T2 μ2 H2 y w2 s2 e2 p2 S2 r2 a => ?_
  split at a
  · rename_i p q hp hq
    obtain ⟨w, hw, a1⟩ := Aft.of a
    clear a
    obtain ⟨d, hd, e⟩ := map_some hw
    subst e
    have tp := S2.look (r1.mono e2 p2) hp
    have tq : Rep (t.k X) T2 q y := by
      cases w2 with
      | d z => cases hq; exact r2
      | c _ => cases hq
      | b _ => cases hq
    unfold subD at hd
    split at hd
    · rename_i l j
      cases (show y = _ from tq)
      obtain ⟨b, vs, rfl, h1, h2⟩ := tp
      obtain ⟨v, h3, h4⟩ := at_reps h2 hd
      exact .inl ⟨b, vs, j, v, rfl, rfl, .inl h1, h3, a1.hereE S2 h4⟩
    · rename_i l j
      cases (show y = _ from tq)
      obtain ⟨b, vs, rfl, h1, h2⟩ := (show Rep (t.k X) T2 (.tup l) x from tp)
      obtain ⟨v, h3, h4⟩ := at_reps h2 hd
      exact .inr (.inl ⟨b, vs, j, v, rfl, rfl, sqT_same S2.tH h1, h3, a1.hereE S2 h4⟩)
    · rename_i z j
      cases (show y = _ from tq); cases (show x = _ from tp)
      split at hd
      · rename_i hz
        obtain ⟨c, h1, rfl⟩ := map_some hd
        exact .inr (.inr ⟨z, j, c, rfl, rfl, hz, h1, a1.here S2 rfl⟩)
      · cases hd
    · cases hd
  · exact a.elim
theorem so_no : SO t n M .no none := fun X W O => PO.weak po_none fun σ H Q ⟨T, Fr, μ, s, S, a⟩ => by unfold evo at a; exact a.here S rfl
theorem so_so {e : Ex} {x : Expr} (h : SE t n M e x) : SO t n M (.so e) (some x) := fun X W O => by
  refine PO.weak (po_some (h X W O)) fun σ H Q ⟨T, Fr, μ, s, S, a⟩ => ?_
  unfold evo at a
  refine rd_bind S a fun T1 μ1 H1 x w1 s1 e1 p1 S1 r1 a => ?_
  split at a
  · rename_i i
    exact ⟨i, r1, a.here S1 rfl⟩
  · exact a.elim
theorem reps_cut {k : Kx} {T : Hp} {l : List D} {vs : List V} (r : Reps k T l vs) (lo hi : Option Int) : Reps k T (cutD l lo hi) (cutV vs lo hi) := by
  unfold cutD cutV
  rw [r.len]
  exact (r.drop _).take _
theorem s_sli {a : Ex} {lo hi : Exo} {xa : Expr} {xl xh : Option Expr} {p2 pos : Pos} (ha : SE t n M a xa) (hl : SO t n M lo xl) (hh : SO t n M hi xh) : SE t n M (.sli a lo hi) (.Subscript xa (.Slice xl xh none p2) pos) := fun X W O => by
  refine PE.weak (pe_slice (SlR.or sl_tupA sl_str) (ha X W O) (hl X W O) (hh X W O)) fun σ H Q ⟨T, Fr, μ, s, S, a⟩ => ?_
  unfold ev at a
  refine rd_bind S a fun T1 μ1 H1 x w1 s1 e1 p1 S1 r1 a => rd_bind S1 a fun T2 μ2 H2 l l' s2 e2 p2 S2 r2 a => rd_bind S2 a fun T3 μ3 H3 h h' s3 e3 p3 S3 r3 a => ?_
  cases (show l' = l from r2); cases (show h' = h from r3)
  split at a
  · rename_i p hp
    obtain ⟨w, hw, a1⟩ := Aft.of a
    clear a
    obtain ⟨d, hd, e⟩ := map_some hw
    subst e
    have tp := S3.look ((r1.mono e2 p2).mono e3 p3) hp
    unfold sliD at hd
    split at hd
    · rename_i m
      cases hd
      obtain ⟨b, vs, rfl, h1, h2⟩ := (show Rep (t.k X) T3 (.tup m) x from tp)
      refine .inl ⟨b, vs, rfl, sqT_same S3.tH h1, fun hw => ?_, fun _ p hp => ?_⟩
      · have e : cutV vs l h = vs := by
          unfold cutV
          rw [hw.1, hw.2]
          simp
        refine a1.here S3 ⟨b, vs, rfl, h1, ?_⟩
        have q := reps_cut h2 l h
        rw [e] at q
        exact q
      · have hT := upd_none (o := .tup (cutV vs l h)) (S3.tn hp)
        exact a1 _ μ3 _ _ hT (List.prefix_refl _) (S3.new hp) ⟨p, _, rfl, SqT.of upd_same, (reps_cut h2 l h).mono hT⟩
    · rename_i z
      obtain ⟨hb, e⟩ := optB_some hd
      subst e
      cases (show x = _ from tp)
      exact .inr ⟨z, rfl, of_decide_eq_true hb, a1.here S3 rfl⟩
    · cases hd
  · exact a.elim
theorem sf_sli {a : Ex} {lo hi : Exo} {xa : Expr} {xl xh : Option Expr} {p2 pos : Pos} (ha : SE t n M a xa) (hl : SO t n M lo xl) (hh : SO t n M hi xh) : SF t n M (.sli a lo hi) (.Subscript xa (.Slice xl xh none p2) pos) := fun X W O => by
  refine PE.weak (pe_slice sl_list (ha X W O) (hl X W O) (hh X W O)) fun σ H Q ⟨T, Fr, μ, s, S, a⟩ => ?_
  unfold evF at a
  refine rd_bind S a fun T1 μ1 H1 x w1 s1 e1 p1 S1 r1 a => rd_bind S1 a fun T2 μ2 H2 l l' s2 e2 p2 S2 r2 a => rd_bind S2 a fun T3 μ3 H3 h h' s3 e3 p3 S3 r3 a => ?_
  cases (show l' = l from r2); cases (show h' = h from r3)
  split at a
  · rename_i m hm
    obtain ⟨b, vs, rfl, h1, h2⟩ := S3.look ((r1.mono e2 p2).mono e3 p3) hm
    refine ⟨b, vs, rfl, .inl h1, fun p hp => ?_⟩
    exact a T3 μ3 _ _ (same_refl _) (List.prefix_refl _) (S3.loose hp) (S3.fresh hp (reps_cut h2 l h))
  · exact a.elim
theorem sf_rev {a : Ex} {xa : Expr} {j : Nat} {p1 p2 p3 pos : Pos} (ha : SE t n M a xa) : SF t n M (.rev a) (.Subscript xa (.Slice none none (some (.UnaryOp .USub (.Constant (.int 1) j p1) p2)) p3) pos) := fun X W O => by
  refine PE.weak (pe_revL (ha X W O)) fun σ H Q ⟨T, Fr, μ, s, S, a⟩ => ?_
  unfold evF at a
  refine rd_bind S a fun T1 μ1 H1 x w1 s1 e1 p1 S1 r1 a => ?_
  split at a
  · rename_i m hm
    obtain ⟨b, vs, rfl, h1, h2⟩ := S1.look r1 hm
    refine ⟨b, vs, rfl, .inl h1, fun p hp => ?_⟩
    exact a T1 μ1 _ _ (same_refl _) (List.prefix_refl _) (S1.loose hp) (S1.fresh hp h2.rev)
  · exact a.elim
/-- a list that stands as a tracked one -/
theorem sf_cat {a b : Ex} {xa xb : Expr} {pos : Pos} (ha : SE t n M a xa) (hb : SE t n M b xb) : SF t n M (.cat a b) (.BinOp xa .Add xb pos) := fun X W O => by
  refine PE.weak (pe_op op_cat (ha X W O) (hb X W O)) fun σ H Q ⟨T, Fr, μ, s, S, a⟩ => ?_
  unfold evF at a
  refine rd_bind S a fun T1 μ1 H1 x w1 s1 e1 p1 S1 r1 a => rd_bind S1 a fun T2 μ2 H2 y w2 s2 e2 p2 S2 r2 a => ?_
  split at a
  · rename_i l m hl hm
    obtain ⟨c, vs, rfl, h1, h2⟩ := S2.lookL (RepR.mono e2 p2 r1) hl
    obtain ⟨c', ws, rfl, h3, h4⟩ := S2.lookL r2 hm
    split at a
    · rename_i hz
      refine ⟨c, c', vs, ws, rfl, rfl, h1, h3, by rw [h2.len, h4.len]; exact hz, fun p hp => ?_⟩
      exact a T2 μ2 _ _ (same_refl _) (List.prefix_refl _) (S2.loose hp) (S2.fresh hp (h2.app h4))
    · exact a.elim
  · exact a.elim
end
end Pc

set_option Elab.async false
set_option linter.all false
set_option maxRecDepth 100000
set_option maxHeartbeats 4000000
namespace Pc
open PySem L2
section
variable {t : Tb} {n : Nat} {M : Mc} {X : Cx}
def Tops (k : Kx) (T H : Hp) : List D → List V → Prop
  | [], vs => vs = []
  | d :: l, vs => ∃ v r, vs = v :: r ∧ Top k T H d v ∧ Tops k T H l r
theorem Sim.looks {k : Kx} {T Fr H : Hp} {μ : List Addr} {s : Ss} {σ : L2.St} (S : Sim k T Fr μ s σ H) : ∀ {ws : List W} {vs : List V} {ds : List D}, RepRs k T μ σ ws vs → looks s ws = some ds → Tops k T H ds vs
  | [], vs, ds, h, e => by cases e; exact h
  | w :: l, vs, ds, ⟨v, r, e1, h1, h2⟩, e => by
    unfold Pc.looks at e
    split at e
    · rename_i a b ha hb
      cases e
      exact ⟨v, r, e1, S.look h1 ha, S.looks h2 hb⟩
    · cases e
theorem Reps.ints {k : Kx} {T : Hp} : ∀ {l : List D} {vs : List V} {ns : List Int}, Reps k T l vs → intsOf l = some ns → vs = ns.map V.int
  | [], vs, ns, h, e => by cases e; exact h
  | d :: l, vs, ns, h, e => by
    obtain ⟨v, r, rfl, h1, h2⟩ := h
    cases d <;> first | (cases e; done) | skip
    obtain ⟨m, e1, rfl⟩ := map_some (show (intsOf l).map _ = _ from e)
    rw [Reps.ints h2 e1]
    exact congrArg (· :: _) h1
theorem Reps.bls {k : Kx} {T : Hp} : ∀ {l : List D} {vs : List V} {ns : List Bool}, Reps k T l vs → blsOf l = some ns → vs = ns.map V.bl
  | [], vs, ns, h, e => by cases e; exact h
  | d :: l, vs, ns, h, e => by
    obtain ⟨v, r, rfl, h1, h2⟩ := h
    cases d <;> first | (cases e; done) | skip
    obtain ⟨m, e1, rfl⟩ := map_some (show (blsOf l).map _ = _ from e)
    rw [Reps.bls h2 e1]
    exact congrArg (· :: _) h1
theorem Reps.strs {k : Kx} {T : Hp} : ∀ {l : List D} {vs : List V} {ns : List Str}, Reps k T l vs → strsOf l = some ns → vs = ns.map V.str
  | [], vs, ns, h, e => by cases e; exact h
  | d :: l, vs, ns, h, e => by
    obtain ⟨v, r, rfl, h1, h2⟩ := h
    cases d <;> first | (cases e; done) | skip
    obtain ⟨m, e1, rfl⟩ := map_some (show (strsOf l).map _ = _ from e)
    rw [Reps.strs h2 e1]
    exact congrArg (· :: _) h1
/-- repr of data -/
theorem call_repr_D (hg : X.A.guards = some []) (hu : X.A.units + 66 < cLine) : CallR X (.builtin "repr") (fun xs H Q => ∃ v d, xs = [v] ∧ Dp X.K H v d ∧ d.depth ≤ 64 ∧ d.hasDict = false ∧ d.showable = true ∧ d.shown.length ≤ sizeLine ∧ Q (.str d.shown) H) := by
  intro pins s σ H xs us Q I r h
  obtain ⟨v, d, rfl, hd, h1, hnd, h2, h3, q⟩ := h
  obtain ⟨u, rfl, ru⟩ := vals1 r
  obtain ⟨as, hr⟩ := Dp.reads I d v u hd ru
  have fin : ∀ tk tk', EP X pins σ Q (.str d.shown tk) { s with toks := tk' } := fun tk tk' => ⟨.str d.shown, H, I.tok tk', ⟨_, rfl⟩, q⟩
  cases hr with
  | none =>
    simp only [PyData.shown] at fin
    exact PySem.P.repr_of_none (fin _ _)
  | bool b =>
    simp only [PyData.shown] at fin
    exact PySem.P.repr_of_bool (fin _ _)
  | int i t =>
    simp only [PyData.shown] at fin
    exact PySem.P.repr_of_int (by simpa [PyData.showable] using h2) (fin _ _)
  | str x t =>
    simp only [PyData.shown] at fin h3
    exact PySem.P.repr_of_str (fin _ _) h3
  | list e1 e2 e3 e4 =>
    refine repr_of_reads' (.list e1 e2 e3 e4) h2 (fun e => by rw [hnd] at e; cases e) hg (by omega) (fun _ _ e => e) (fun h' u tk hk => ?_) h3
    exact ⟨.str _, H, I.kept (t' := tk) hk, ⟨_, rfl⟩, q⟩
  | tuple e1 e2 e3 e4 =>
    refine repr_of_reads' (.tuple e1 e2 e3 e4) h2 (fun e => by rw [hnd] at e; cases e) hg (by omega) (fun _ _ e => e) (fun h' u tk hk => ?_) h3
    exact ⟨.str _, H, I.kept (t' := tk) hk, ⟨_, rfl⟩, q⟩
  | dict _ _ _ _ _ => cases hd
mutual
theorem py_nodict : ∀ {x : D} {d : PyData}, D.py x = some d → d.hasDict = false
  | .non, d, e => by cases e; rfl
  | .bl _, d, e => by cases e; rfl
  | .int _, d, e => by cases e; rfl
  | .str _, d, e => by cases e; rfl
  | .tup l, d, e => by
    unfold D.py at e
    obtain ⟨ps, e1, rfl⟩ := map_some e
    simp only [PyData.hasDict]
    exact pys_nodict e1
  | .lst l, d, e => by
    unfold D.py at e
    obtain ⟨ps, e1, rfl⟩ := map_some e
    simp only [PyData.hasDict]
    exact pys_nodict e1
  | .obj _ _ _, d, e => by cases e
  | .exn _ _ _, d, e => by cases e
theorem pys_nodict : ∀ {x : List D} {d : List PyData}, D.pys x = some d → PyData.hasDictAll d = false
  | [], d, e => by cases e; rfl
  | x :: l, d, e => by
    unfold D.pys at e
    split at e
    · rename_i a b ha hb
      cases e
      simp only [PyData.hasDictAll, py_nodict ha, pys_nodict hb, Bool.or_self]
    · cases e
end
def rBi (k : Kx) (b : Bi) : List V → Hp → VK → Prop := fun vs H Q => ∃ T Fr μ s σ ds d, Sim k T Fr μ s σ H ∧ Tops k T H ds vs ∧ biD b ds = some d ∧
  ∀ T' H' v, Same T T' → Sim k T' Fr μ s σ H' → Rep k T' d v → Q v H'
def biVal : Bi → Value
  | .len => .builtin "len"
  | .int => .type "int"
  | .str => .type "str"
  | .bool => .type "bool"
  | .abs => .builtin "abs"
  | .all => .builtin "all"
  | .any => .builtin "any"
  | .sum => .builtin "sum"
  | .repr => .builtin "repr"
  | .tuple => .type "tuple"
  | .max2 => .builtin "max"
  | .min2 => .builtin "min"
def biName : Bi → Str
  | .len => "len"
  | .int => "int"
  | .str => "str"
  | .bool => "bool"
  | .abs => "abs"
  | .all => "all"
  | .any => "any"
  | .sum => "sum"
  | .repr => "repr"
  | .tuple => "tuple"
  | .max2 => "max"
  | .min2 => "min"
theorem Tops.one {k : Kx} {T H : Hp} {d : D} {vs : List V} (h : Tops k T H [d] vs) : ∃ v, vs = [v] ∧ Top k T H d v := by
  obtain ⟨v, r, rfl, h1, h2⟩ := h
  cases (show r = [] from h2)
  exact ⟨v, rfl, h1⟩
theorem Tops.two {k : Kx} {T H : Hp} {d e : D} {vs : List V} (h : Tops k T H [d, e] vs) : ∃ v w, vs = [v, w] ∧ Top k T H d v ∧ Top k T H e w := by
  obtain ⟨v, r, rfl, h1, h2⟩ := h
  obtain ⟨w, rfl, h3⟩ := Tops.one h2
  exact ⟨v, w, rfl, h1, h3⟩
section
variable {W : WX}
theorem biR_len : CallR X (.builtin "len") (rBi (t.k X) .len) := by
  intro pins s σ H xs us Q I r ⟨T, Fr, μ, s', σ', ds, d, S, tp, hd, hQ⟩
  unfold biD at hd
  split at hd <;> first | contradiction | (cases hd; done) | skip
  · cases hd
    obtain ⟨v, rfl, h⟩ := tp.one
    obtain ⟨a, vs, rfl, h1, h2⟩ := h
    exact call_len_seq pins s σ H _ us Q I r ⟨a, vs, rfl, .inl (.inl h1), by rw [h2.len]; exact hQ T H _ (same_refl _) S rfl⟩
  · rename_i l _
    cases hd
    obtain ⟨v, rfl, h⟩ := tp.one
    obtain ⟨a, vs, rfl, h1, h2⟩ := (show Rep (t.k X) T (.tup l) v from h)
    exact call_len_seq pins s σ H _ us Q I r ⟨a, vs, rfl, .inr (sqT_same S.tH h1), by rw [h2.len]; exact hQ T H _ (same_refl _) S rfl⟩
  · obtain ⟨hb, e⟩ := optB_some hd
    subst e
    obtain ⟨v, rfl, h⟩ := tp.one
    cases (show v = _ from h)
    exact call_len_str pins s σ H _ us Q I r ⟨_, rfl, of_decide_eq_true hb, hQ T H _ (same_refl _) S rfl⟩
theorem biR_int : CallR X (.type "int") (rBi (t.k X) .int) := by
  intro pins s σ H xs us Q I r ⟨T, Fr, μ, s', σ', ds, d, S, tp, hd, hQ⟩
  unfold biD at hd
  split at hd <;> first | contradiction | (cases hd; done) | skip
  · cases hd
    obtain ⟨v, rfl, h⟩ := tp.one
    cases (show v = _ from h)
    exact call_int1 pins s σ H _ us Q I r (.inl ⟨_, rfl, hQ T H _ (same_refl _) S rfl⟩)
  · cases hd
    obtain ⟨v, rfl, h⟩ := tp.one
    cases (show v = _ from h)
    exact call_int1 pins s σ H _ us Q I r (.inr ⟨_, rfl, hQ T H _ (same_refl _) S rfl⟩)
theorem biR_bool : CallR X (.type "bool") (rBi (t.k X) .bool) := by
  intro pins s σ H xs us Q I r ⟨T, Fr, μ, s', σ', ds, d, S, tp, hd, hQ⟩
  unfold biD at hd
  split at hd <;> first | contradiction | (cases hd; done) | skip
  · cases hd
    obtain ⟨v, rfl, h⟩ := tp.one
    cases (show v = _ from h)
    exact call_bool1 pins s σ H _ us Q I r (.inl ⟨_, rfl, hQ T H _ (same_refl _) S rfl⟩)
  · cases hd
    obtain ⟨v, rfl, h⟩ := tp.one
    cases (show v = _ from h)
    exact call_bool1 pins s σ H _ us Q I r (.inr ⟨_, rfl, hQ T H _ (same_refl _) S rfl⟩)
  · cases hd
    obtain ⟨v, rfl, h⟩ := tp.one
    obtain ⟨a, vs, rfl, h1, h2⟩ := (show ∃ a vs, v = .ref a ∧ Rd H a (.lst vs) ∧ Reps (t.k X) T _ vs from h)
    have he : ∀ {l : List Pc.D} {vs : List V}, Reps (t.k X) T l vs → (!vs.isEmpty) = !l.isEmpty := fun {l vs} z => by
      cases l with
      | nil => cases (show vs = [] from z); rfl
      | cons _ _ => obtain ⟨v, r, e, _⟩ := z; subst e; rfl
    exact call_boolL pins s σ H _ us Q I r ⟨a, vs, rfl, .inl h1, by rw [he h2]; exact hQ T H _ (same_refl _) S rfl⟩
theorem biR_str : CallR X (.type "str") (rBi (t.k X) .str) := by
  intro pins s σ H xs us Q I r ⟨T, Fr, μ, s', σ', ds, d, S, tp, hd, hQ⟩
  unfold biD at hd
  split at hd <;> first | contradiction | (cases hd; done) | skip
  obtain ⟨hb, e⟩ := optB_some hd
  subst e
  obtain ⟨v, rfl, h⟩ := tp.one
  cases (show v = _ from h)
  exact call_str_int pins s σ H _ us Q I r ⟨_, rfl, of_decide_eq_true hb, hQ T H _ (same_refl _) S rfl⟩
theorem biR_abs : CallR X (.builtin "abs") (rBi (t.k X) .abs) := by
  intro pins s σ H xs us Q I r ⟨T, Fr, μ, s', σ', ds, d, S, tp, hd, hQ⟩
  unfold biD at hd
  split at hd <;> first | contradiction | (cases hd; done) | skip
  cases hd
  obtain ⟨v, rfl, h⟩ := tp.one
  cases (show v = _ from h)
  exact call_abs pins s σ H _ us Q I r ⟨_, rfl, hQ T H _ (same_refl _) S rfl⟩
theorem biR_all (hc : X.calm = true) : CallR X (.builtin "all") (rBi (t.k X) .all) := by
  intro pins s σ H xs us Q I r ⟨T, Fr, μ, s', σ', ds, d, S, tp, hd, hQ⟩
  unfold biD at hd
  split at hd <;> first | contradiction | (cases hd; done) | skip
  obtain ⟨bs, e1, rfl⟩ := map_some hd
  obtain ⟨v, rfl, h⟩ := tp.one
  obtain ⟨a, vs, rfl, h1, h2⟩ := h
  rw [h2.bls e1] at h1
  exact cr_all hc pins s σ H _ us Q I r ⟨a, bs, rfl, .inl h1, hQ T H _ (same_refl _) S rfl⟩
theorem biR_any (hc : X.calm = true) : CallR X (.builtin "any") (rBi (t.k X) .any) := by
  intro pins s σ H xs us Q I r ⟨T, Fr, μ, s', σ', ds, d, S, tp, hd, hQ⟩
  unfold biD at hd
  split at hd <;> first | contradiction | (cases hd; done) | skip
  obtain ⟨bs, e1, rfl⟩ := map_some hd
  obtain ⟨v, rfl, h⟩ := tp.one
  obtain ⟨a, vs, rfl, h1, h2⟩ := h
  rw [h2.bls e1] at h1
  exact cr_any hc pins s σ H _ us Q I r ⟨a, bs, rfl, .inl h1, hQ T H _ (same_refl _) S rfl⟩
theorem biR_sum (hc : X.calm = true) : CallR X (.builtin "sum") (rBi (t.k X) .sum) := by
  intro pins s σ H xs us Q I r ⟨T, Fr, μ, s', σ', ds, d, S, tp, hd, hQ⟩
  unfold biD at hd
  split at hd <;> first | contradiction | (cases hd; done) | skip
  obtain ⟨bs, e1, rfl⟩ := map_some hd
  obtain ⟨v, rfl, h⟩ := tp.one
  obtain ⟨a, vs, rfl, h1, h2⟩ := h
  rw [h2.ints e1] at h1
  exact cr_sum hc pins s σ H _ us Q I r ⟨a, bs, rfl, .inl h1, hQ T H _ (same_refl _) S rfl⟩
theorem biR_repr (hg : X.A.guards = some []) (hu : X.A.units + 66 < cLine) : CallR X (.builtin "repr") (rBi (t.k X) .repr) := by
  intro pins s σ H xs us Q I r ⟨T, Fr, μ, s', σ', ds, d, S, tp, hd, hQ⟩
  unfold biD at hd
  split at hd <;> first | contradiction | (cases hd; done) | skip
  obtain ⟨p, e1, e2⟩ := Option.bind_eq_some_iff.mp hd
  obtain ⟨hb, e⟩ := optB_some e2
  subst e
  simp only [Bool.and_eq_true, decide_eq_true_eq] at hb
  obtain ⟨v, rfl, h⟩ := tp.one
  exact call_repr_D hg hu pins s σ H _ us Q I r ⟨v, p, rfl, h.dp S.tH e1, hb.2, py_nodict e1, hb.1.1, hb.1.2, hQ T H _ (same_refl _) S rfl⟩
theorem biR_tuple : CallR X (.type "tuple") (rBi (t.k X) .tuple) := by
  intro pins s σ H xs us Q I r ⟨T, Fr, μ, s', σ', ds, d, S, tp, hd, hQ⟩
  unfold biD at hd
  split at hd <;> first | contradiction | (cases hd; done) | skip
  · cases hd
    obtain ⟨v, rfl, h⟩ := tp.one
    obtain ⟨a, vs, rfl, h1, h2⟩ := h
    refine call_tuple_of pins s σ H _ us Q I r ⟨a, vs, rfl, .inl ⟨.inl h1, fun p hp => ?_⟩⟩
    have hT := upd_none (o := .tup vs) (S.tn hp)
    exact hQ _ _ _ hT (S.new hp) ⟨p, vs, rfl, SqT.of upd_same, h2.mono hT⟩
  · rename_i l _
    cases hd
    obtain ⟨v, rfl, h⟩ := tp.one
    obtain ⟨a, vs, rfl, h1, h2⟩ := (show Rep (t.k X) T (.tup l) v from h)
    exact call_tuple_of pins s σ H _ us Q I r ⟨a, vs, rfl, .inr ⟨sqT_same S.tH h1, hQ T H _ (same_refl _) S ⟨a, vs, rfl, h1, h2⟩⟩⟩
theorem mxL_fold : ∀ {r : List Int} {x : Int}, r.foldl (fun m y => if y > m then y else m) x ∈ x :: r ∧ ∀ y ∈ x :: r, y ≤ r.foldl (fun m y => if y > m then y else m) x
  | [], x => by simp
  | a :: r, x => by
    obtain ⟨h1, h2⟩ := mxL_fold (r := r) (x := if a > x then a else x)
    rw [List.foldl_cons]
    generalize r.foldl (fun m y => if y > m then y else m) (if a > x then a else x) = F at h1 h2
    have h3 := h2 _ (List.mem_cons_self ..)
    refine ⟨?_, fun y hy => ?_⟩
    · rcases List.mem_cons.mp h1 with h | h
      · rw [h]; split
        · exact List.mem_cons_of_mem _ (List.mem_cons_self ..)
        · exact List.mem_cons_self ..
      · exact List.mem_cons_of_mem _ (List.mem_cons_of_mem _ h)
    · rcases List.mem_cons.mp hy with rfl | hy
      · split at h3 <;> omega
      · rcases List.mem_cons.mp hy with rfl | hy
        · split at h3 <;> omega
        · exact h2 _ (List.mem_cons_of_mem _ hy)
theorem mxL_ok {ns : List Int} {m : Int} (h : mxL ns = some m) : 0 < ns.length ∧ ∀ z, z ∈ ns → (∀ y, y ∈ ns → y ≤ z) → z = m := by
  cases ns with
  | nil => cases h
  | cons x r =>
    have h := Option.some.inj h
    obtain ⟨h1, h2⟩ := mxL_fold (r := r) (x := x)
    rw [h] at h1 h2
    exact ⟨by simp, fun z hz hm => Int.le_antisymm (h2 z hz) (hm m h1)⟩
theorem biR_max2 (hc : X.calm = true) : CallR X (.builtin "max") (rBi (t.k X) .max2) := by
  intro pins s σ H xs us Q I r ⟨T, Fr, μ, s', σ', ds, d, S, tp, hd, hQ⟩
  unfold biD at hd
  split at hd <;> first | contradiction | (cases hd; done) | skip
  · cases hd
    obtain ⟨v, w, rfl, h, h'⟩ := tp.two
    cases (show v = _ from h); cases (show w = _ from h')
    exact call_max2 hc pins s σ H _ us Q I r ⟨_, _, rfl, hQ T H _ (same_refl _) S rfl⟩
  · obtain ⟨ns, e1, hd⟩ := Option.bind_eq_some_iff.mp hd
    obtain ⟨m, e2, rfl⟩ := map_some hd
    obtain ⟨v, rfl, h⟩ := tp.one
    obtain ⟨a, vs, rfl, h1, h2⟩ := h
    rw [h2.ints e1] at h1
    obtain ⟨m1, m2⟩ := mxL_ok e2
    exact cr_max hc pins s σ H _ us Q I r ⟨a, ns, rfl, .inl h1, m1, fun z z1 z2 => by rw [m2 z z1 z2]; exact hQ T H _ (same_refl _) S rfl⟩
theorem biR_min2 (hc : X.calm = true) : CallR X (.builtin "min") (rBi (t.k X) .min2) := by
  intro pins s σ H xs us Q I r ⟨T, Fr, μ, s', σ', ds, d, S, tp, hd, hQ⟩
  unfold biD at hd
  split at hd <;> first | contradiction | (cases hd; done) | skip
  cases hd
  obtain ⟨v, w, rfl, h, h'⟩ := tp.two
  cases (show v = _ from h); cases (show w = _ from h')
  exact call_min2 hc pins s σ H _ us Q I r ⟨_, _, rfl, hQ T H _ (same_refl _) S rfl⟩
/-- arguments without stars -/
theorem none_star {es : List Expr} (h : es.all plainArg = true) (pos : Pos) (env : Env) : (backTo pos (starEach es env)).any (·.1) = false := by
  induction es with
  | nil => rfl
  | cons e es ih =>
    simp only [List.all_cons, Bool.and_eq_true] at h
    rw [star_plain h.1]
    show (false || (backTo pos (starEach es env)).any (·.1)) = false
    rw [ih h.2]; rfl
theorem pe_bi {id : String} {ty : String} {x : Str} {p pos : Pos} {v : Value} {e : Expr} {es : List Expr} {r : List V → Hp → VK → Prop} {ta : TA} (hv : v = .builtin id ∨ v = .type ty) (hc : CallR X v r) (O : Ok t n M X W) (hg : glB M.sc x = true) (hn : plainName x = true) (hf : t.free x = true) (hb : bootBuiltins x = some v)
    (hp : (e :: es).all plainArg = true) (ha : PA X (e :: es) ta) : PE X (.Call (.Name x p) (e :: es) [] pos) (tCB r ta) := by
  simp only [List.all_cons, Bool.and_eq_true] at hp
  rcases hv with rfl | rfl
  · exact pe_callB hc (glB_ok O hg) (O.fr _ hf) hb ha (plainName_c hn) (plainName_a hn) (star_plain hp.1 _ _) (none_star hp.2 _ _)
  · exact pe_callTy hc (glB_ok O hg) (O.fr _ hf) hb ha (plainName_c hn) (plainName_a hn) (star_plain hp.1 _ _) (none_star hp.2 _ _)
theorem Ok.u66 (O : Ok t n M X W) : X.A.units + 66 < cLine := by have := O.room.r.un; omega
theorem s_bi {b : Bi} {es : Exs} {e : Expr} {xs : List Expr} {x : Str} {p pos : Pos} (hx : decide (x = biName b) && glB M.sc x && plainName x && t.free x && (e :: xs).all plainArg = true) (ha : SEs t n M es (e :: xs)) : SE t n M (.bi b es) (.Call (.Name x p) (e :: xs) [] pos) := fun X W O => by
  simp only [Bool.and_eq_true, decide_eq_true_eq] at hx
  obtain ⟨⟨⟨⟨hx1, hx2⟩, hx3⟩, hx4⟩, hx5⟩ := hx
  have fin : CallR X (biVal b) (rBi (t.k X) b) → bootBuiltins x = some (biVal b) → PE X (.Call (.Name x p) (e :: xs) [] pos) (rd (t.k X) W (rE (t.k X)) (ev (t.o n) (.bi b es))) := fun hc hb => by
    refine PE.weak (pe_bi (id := match biVal b with | .builtin s => s | _ => "") (ty := match biVal b with | .type s => s | _ => "") (by cases b <;> first | exact .inl rfl | exact .inr rfl) hc O hx2 hx3 hx4 hb hx5 (ha X W O)) fun σ H Q ⟨T, Fr, μ, s, S, a⟩ => ?_
    unfold ev at a
    refine rd_bind S a fun T1 μ1 H1 vs ws s1 e1 p1 S1 r1 a => ?_
    split at a
    · rename_i ds hds
      obtain ⟨w, hw, a1⟩ := Aft.of a
      clear a
      obtain ⟨d, hd, e⟩ := map_some hw
      subst e
      exact ⟨T1, Fr, μ1, s1, σ, ds, d, S1, S1.looks r1 hds, hd, fun T' H' v e' S' r' => a1 T' μ1 H' v e' (List.prefix_refl _) S' r'⟩
    · exact a.elim
  subst hx1
  cases b
  · exact fin biR_len PySem.boot_len
  · exact fin biR_int PyProof.Rows.boot_int
  · exact fin biR_str PyProof.Rows.boot_str
  · exact fin biR_bool PyProof.Rows.boot_bool
  · exact fin biR_abs PyProof.Rows.boot_abs
  · exact fin (biR_all O.calm) PyProof.Rows.boot_all
  · exact fin (biR_any O.calm) PyProof.Rows.boot_any
  · exact fin (biR_sum O.calm) PyProof.Rows.boot_sum
  · exact fin (biR_repr O.room.g O.u66) PyProof.Rows.boot_repr
  · exact fin biR_tuple PyProof.Rows.boot_tuple
  · exact fin (biR_max2 O.calm) PyProof.Rows.boot_max
  · exact fin (biR_min2 O.calm) PyProof.Rows.boot_min
end
end
end Pc

set_option Elab.async false
set_option linter.all false
set_option maxRecDepth 100000
set_option maxHeartbeats 4000000
namespace Pc
open PySem L2
section
variable {t : Tb} {n : Nat} {M : Mc} {X : Cx}
def tyNames : List String := ["int", "bool", "str", "tuple", "list", "dict"]
theorem top_ty {k : Kx} {T H : Hp} {K : PySem.W.Frag} (hK : k.K = K) (e : Same T H) : ∀ {d : D} {v : V}, Top k T H d v → d.noO = true → TyX K H v (.type (tyD d))
  | .non, v, h, _ => by cases (show v = _ from h); exact .base .non
  | .bl b, v, h, _ => by cases (show v = _ from h); exact .base (.bl b)
  | .int b, v, h, _ => by cases (show v = _ from h); exact .base (.int b)
  | .str b, v, h, _ => by cases (show v = _ from h); exact .base (.str b)
  | .lst l, v, h, _ => by
    obtain ⟨a, vs, rfl, h1, h2⟩ := h
    rcases h1 with h1 | ⟨o, h1⟩
    · exact .base (.lst h1)
    · exact .base (.frz h1)
  | .tup l, v, h, _ => by
    obtain ⟨a, vs, rfl, h1, h2⟩ := (show Rep k T (.tup l) v from h)
    rcases sqT_same e h1 with (h1 | ⟨o, h1⟩) | ⟨o, its, m, h1, h2, _⟩
    · exact .base (.tup h1)
    · exact .fTuple h1
    · rw [hK] at h1; exact .kTuple h1 h2
  | .obj c ns l, v, h, q => by cases q
  | .exn _ _ _, v, h, q => by cases q
theorem kit_all (K : PySem.W.Frag) : ∀ a ∈ ["NoneType", "bool", "int", "str", "tuple", "list"], ∀ b ∈ tyNames, PySem.W.kitOne K (.type a) (.type b) = some (if a = "bool" then (b == "bool" || b == "int") else (a == b)) := by
  have h : (["NoneType", "bool", "int", "str", "tuple", "list"].all fun a => tyNames.all fun b => kitB a b == some (if a = "bool" then (b == "bool" || b == "int") else (a == b))) = true := by decide +kernel
  intro a ha b hb
  simp only [List.all_eq_true] at h
  exact kit_ty (beq_iff_eq.mp (h a ha b hb))
theorem isi_kit {K : PySem.W.Frag} {p : D} {ty : String} {b : Bool} (hb : ty ∈ tyNames) (h : isiD p ty = some b) : p.noO = true ∧ PySem.W.kitOne K (.type (tyD p)) (.type ty) = some b := by
  cases p with
  | obj c ns l => cases h
  | exn _ _ _ => cases h
  | bl x => exact ⟨rfl, by rw [show tyD (.bl x) = "bool" from rfl, kit_all K _ (by simp) _ hb]; exact h⟩
  | non => exact ⟨rfl, by rw [show tyD .non = "NoneType" from rfl, kit_all K _ (by simp) _ hb]; exact h⟩
  | int x => exact ⟨rfl, by rw [show tyD (.int x) = "int" from rfl, kit_all K _ (by simp) _ hb]; exact h⟩
  | str x => exact ⟨rfl, by rw [show tyD (.str x) = "str" from rfl, kit_all K _ (by simp) _ hb]; exact h⟩
  | tup x => exact ⟨rfl, by rw [show tyD (.tup x) = "tuple" from rfl, kit_all K _ (by simp) _ hb]; exact h⟩
  | lst x => exact ⟨rfl, by rw [show tyD (.lst x) = "list" from rfl, kit_all K _ (by simp) _ hb]; exact h⟩
theorem boot_ty : ∀ b ∈ tyNames, bootBuiltins (Str.ofString b) = some (.type b) := by
  intro b hb
  simp only [tyNames, List.mem_cons, List.mem_nil_iff, or_false] at hb
  rcases hb with rfl | rfl | rfl | rfl | rfl | rfl
  · exact PyProof.Rows.boot_int
  · exact PyProof.Rows.boot_bool
  · exact PyProof.Rows.boot_str
  · exact PyProof.Rows.boot_tuple
  · exact PyProof.Rows.boot_list
  · exact PyProof.Rows.boot_dict
theorem s_isi {a : Ex} {ty : String} {xa : Expr} {x y : Str} {p p2 pos : Pos} (hx : decide (x = "isinstance") && glB M.sc x && t.free x && plainArg xa && decide (y = Str.ofString ty) && glB M.sc y && plainName y && t.free y && decide (ty ∈ tyNames) = true) (ha : SE t n M a xa) :
    SE t n M (.isi a ty) (.Call (.Name x p) [xa, .Name y p2] [] pos) := fun X W O => by
  simp only [Bool.and_eq_true, decide_eq_true_eq] at hx
  obtain ⟨⟨⟨⟨⟨⟨⟨⟨hx1, hx2⟩, hx3⟩, hx4⟩, hx5⟩, hx6⟩, hx7⟩, hx8⟩, hx9⟩ := hx
  subst hx1 hx5
  have pb : PE X (.Name (Str.ofString ty) p2) (tC (.ty ty)) := pe_bltn (glB_ok O hx6) (O.fr _ hx8) (boot_ty ty hx9) rfl (plainName_c hx7) (plainName_a hx7)
  refine PE.weak (pe_callB call_isi (glB_ok O hx2) (O.fr _ hx3) PyProof.Rows.boot_isinstance (pa_cons (ha X W O) (pa_cons pb pa_nil) (star_plain hx4 _ _)) (by decide) (by decide) (star_plain hx4 _ _) rfl) fun σ H Q ⟨T, Fr, μ, s, S, a⟩ => ?_
  unfold ev at a
  refine rd_bind S a fun T1 μ1 H1 v w s1 e1 p1 S1 r1 a => ?_
  split at a
  · rename_i d hd
    obtain ⟨w', hw, a1⟩ := Aft.of a
    clear a
    obtain ⟨b, hb, e⟩ := map_some hw
    subst e
    obtain ⟨h1, h2⟩ := isi_kit (K := X.K) hx9 hb
    exact ⟨v, .ty ty, _, _, b, rfl, .ty ty, top_ty (K := X.K) rfl S1.tH (S1.look r1 hd) h1, h2, a1.hereE S1 rfl⟩
  · exact a.elim
/-- a base that is not super() -/
def plainBase : Expr → Bool
  | .Call (.Name id _) [] [] _ => id != ("super" : Str)
  | _ => true
theorem base_plain {o : Expr} (h : plainBase o = true) (name : Str) (env : Env) (w : Sem Value) : attributeBase o name env w = w := by
  unfold plainBase at h
  split at h
  · exact L2.abase_call h
  · rename_i hn
    cases o <;> try rfl
    rename_i f args kws pos
    cases f <;> try rfl
    cases args <;> try rfl
    cases kws <;> try rfl
    exact absurd rfl (hn _ _ _)
theorem s_join {o a : Ex} {xo xa : Expr} {apos pos : Pos} (hx : plainBase xo && plainArg xa && (apos.endLine == pos.line) = true) (ho : SE t n M o xo) (ha : SE t n M a xa) : SE t n M (.sm .join o a) (.Call (.Attribute xo "join" apos) [xa] [] pos) := fun X W O => by
  simp only [Bool.and_eq_true, decide_eq_true_eq] at hx
  refine PE.weak (pe_join (ho X W O) (ha X W O) (star_plain hx.1.2 _ _) (base_plain hx.1.1 _ _ _) hx.2) fun σ H Q ⟨T, Fr, μ, s, S, a⟩ => ?_
  unfold ev at a
  refine rd_bind S a fun T1 μ1 H1 v w s1 e1 p1 S1 r1 a => ?_
  split at a
  · rename_i z
    refine ⟨⟨z, r1⟩, rd_bind S1 a fun T2 μ2 H2 y w2 s2 e2 p2 S2 r2 a => ?_⟩
    split at a
    · rename_i q hq
      obtain ⟨w', hw, a1⟩ := Aft.of a
      clear a
      obtain ⟨d, hd, e⟩ := map_some hw
      subst e
      have tq := S2.look r2 hq
      have go : ∀ l, (Top (t.k X) T2 H2 (.lst l) y ∨ Top (t.k X) T2 H2 (.tup l) y) → ((strsOf l).bind fun ys => optB (decide ((ys.map (·.length)).sum + ys.length * z.length ≤ 16777216)) (D.str (Txt.join z ys))) = some d →
          ∃ a p, ∃ ys : List Str, v = .str a ∧ [y] = [.ref p] ∧ (SqL X.K H2 p (ys.map V.str) ∨ SqT X.K H2 p (ys.map V.str)) ∧ (ys.map (·.length)).sum + ys.length * a.length ≤ 16777216 ∧ Q (.str (Txt.join a ys)) H2 := by
        intro l hl hd
        obtain ⟨ys, e1, e2⟩ := Option.bind_eq_some_iff.mp hd
        obtain ⟨hb, e⟩ := optB_some e2
        subst e
        obtain ⟨c, vs, rfl, h1, h2⟩ := Top.seq (k := t.k X) S2.tH hl
        rw [h2.strs e1] at h1
        exact ⟨z, c, ys, r1, rfl, h1, of_decide_eq_true hb, a1.hereE S2 rfl⟩
      cases q with
      | lst l => exact go _ (.inl tq) hd
      | tup l => exact go _ (.inr tq) hd
      | _ => cases hd
    · exact a.elim
  · exact a.elim
/-- a part of an f-string -/
def partB : Ex → Expr → Bool
  | .k (.str z), .Constant (.str z') _ _ => decide (z = z')
  | _, _ => false
/-- the part's text -/
def tPt (k : Kx) (W : WX) (f : Ss → Res Pc.W) : TE := rd k W (fun _ _ _ _ _ _ (z : Str) (v : V) => v = .str z) fun s => (f s).bind fun x s1 => match look s1 x with
  | some d => Res.of (fmtD d) s1
  | none => .stuck
theorem pt_lit {z : Str} {j : Nat} {pos : Pos} {W : WX} (hz : z.length ≤ sizeLine) : PE X (.Constant (.str z) j pos) (tPt (t.k X) W (ev (t.o n) (.k (.str z)))) := by
  refine PE.weak pe_str fun σ H Q ⟨T, Fr, μ, s, S, a⟩ => ?_
  have e : fmtD (.str z) = some z := by simp [fmtD, optB, hz]
  unfold ev at a
  simp only [Res.bind, look, e, Res.of] at a
  exact a.here S rfl
theorem pt_fmt {e : Ex} {x : Expr} {pos : Pos} (h : SE t n M e x) {W : WX} (O : Ok t n M X W) : PE X (.FormattedValue x (-1) none pos) (tPt (t.k X) W (ev (t.o n) e)) := by
  refine PE.weak (pe_fmt (h X W O)) fun σ H Q ⟨T, Fr, μ, s, S, a⟩ => ?_
  refine rd_bind S a fun T1 μ1 H1 v w s1 e1 p1 S1 r1 a => ?_
  split at a
  · rename_i d hd
    obtain ⟨z, hz, a1⟩ := Aft.of a
    clear a
    have td := S1.look r1 hd
    unfold fmtD at hz
    split at hz
    · obtain ⟨hb, e⟩ := optB_some hz
      subst e
      exact .inl ⟨_, td, of_decide_eq_true hb, a1.here S1 rfl⟩
    · obtain ⟨hb, e⟩ := optB_some hz
      subst e
      exact .inr ⟨_, td, of_decide_eq_true hb, a1.here S1 rfl⟩
    · cases hz
  · exact a.elim
/-- the parts, each by its text -/
inductive SPs (t : Tb) (n : Nat) (M : Mc) : Exs → List Expr → Prop where
  | nil : SPs t n M .nil []
  | lit {z : Str} {j : Nat} {pos : Pos} {r : Exs} {xs : List Expr} (hz : z.length ≤ sizeLine) (h : SPs t n M r xs) : SPs t n M (.cons (.k (.str z)) r) (.Constant (.str z) j pos :: xs)
  | fmt {e : Ex} {x : Expr} {pos : Pos} {r : Exs} {xs : List Expr} (he : SE t n M e x) (h : SPs t n M r xs) : SPs t n M (.cons e r) (.FormattedValue x (-1) none pos :: xs)
def tsOf (k : Kx) (W : WX) (o : Or) : Exs → List TE
  | .nil => []
  | .cons e r => tPt k W (ev o e) :: tsOf k W o r
  | .star _ r => tsOf k W o r
theorem SPs.pj {W : WX} (O : Ok t n M X W) {es : Exs} {xs : List Expr} (h : SPs t n M es xs) : PJ X xs (tsOf (t.k X) W (t.o n) es) := by
  induction h with
  | nil => exact .nil
  | lit hz h ih => exact .cons (pt_lit hz) ih
  | fmt he h ih => exact .cons (pt_fmt he O) ih
theorem tjs_of {W : WX} {σ : L2.St} {Q : VK} {es : Exs} {xs : List Expr} (h : SPs t n M es xs) : ∀ {T Fr H : Hp} {μ : List Addr} {s : Ss} {acc : Str}, Sim (t.k X) T Fr μ s σ H →
    Aft (t.k X) T Fr μ W σ (rE (t.k X)) Q ((evJ (t.o n) es acc s).bind fun z s1 => .ok (.d (.str z)) s1) → tJs (tsOf (t.k X) W (t.o n) es) acc σ H fun out H1 => Q (.str out) H1 := by
  have step : ∀ {e : Ex} {r : Exs} {T Fr H : Hp} {μ : List Addr} {s : Ss} {acc : Str}, Sim (t.k X) T Fr μ s σ H → Aft (t.k X) T Fr μ W σ (rE (t.k X)) Q ((evJ (t.o n) (.cons e r) acc s).bind fun z s1 => .ok (.d (.str z)) s1) →
      (∀ {T Fr H : Hp} {μ : List Addr} {s : Ss} {acc : Str}, Sim (t.k X) T Fr μ s σ H → Aft (t.k X) T Fr μ W σ (rE (t.k X)) Q ((evJ (t.o n) r acc s).bind fun z s1 => .ok (.d (.str z)) s1) → tJs (tsOf (t.k X) W (t.o n) r) acc σ H fun out H1 => Q (.str out) H1) →
      tJs (tsOf (t.k X) W (t.o n) (.cons e r)) acc σ H fun out H1 => Q (.str out) H1 := by
    intro e r T Fr H μ s acc S a ih
    unfold evJ at a
    cases e0 : ev (t.o n) e s with
    | stuck => rw [e0] at a; exact a.elim
    | exc x s' =>
      rw [e0] at a
      refine ⟨T, Fr, μ, s, S, ?_⟩
      simp only [e0]
      exact a
    | ok w s' =>
      rw [e0] at a
      simp only [Res.bind] at a
      cases e1 : look s' w with
      | none => rw [e1] at a; exact a.elim
      | some d =>
        rw [e1] at a
        simp only [] at a
        cases e2 : fmtD d with
        | none => rw [e2] at a; exact a.elim
        | some z =>
          rw [e2] at a
          simp only [] at a
          by_cases hz : (acc ++ z).length ≤ sizeLine
          · rw [if_pos hz] at a
            refine ⟨T, Fr, μ, s, S, ?_⟩
            simp only [e0, Res.bind, e1, e2, Res.of]
            exact fun T2 μ2 H2 v e' p' S' hv => ⟨z, hv, hz, ih S' (Aft.mono a e' p')⟩
          · rw [if_neg hz] at a; exact a.elim
  induction h with
  | nil =>
    intro T Fr H μ s acc S a
    unfold evJ at a
    exact a.here S rfl
  | lit hz h ih => intro T Fr H μ s acc S a; exact step S a ih
  | fmt he h ih => intro T Fr H μ s acc S a; exact step S a ih
theorem empty_app (z : Str) : Str.empty ++ z = z := PySem.Str.empty_append z
theorem s_fs {es : Exs} {xs : List Expr} {pos : Pos} (h0 : xs ≠ []) (h : SPs t n M es xs) : SE t n M (.fs es) (.JoinedStr xs pos) := fun X W O => by
  have pj := h.pj O
  have tj : ∀ {σ : L2.St} {Q : VK} {T Fr H : Hp} {μ : List Addr} {s : Ss}, Sim (t.k X) T Fr μ s σ H → Aft (t.k X) T Fr μ W σ (rE (t.k X)) Q (ev (t.o n) (.fs es) s) → tJs (tsOf (t.k X) W (t.o n) es) Str.empty σ H fun out H1 => Q (.str out) H1 :=
    fun S a => tjs_of h S (by unfold ev at a; exact a)
  cases h with
  | nil => exact absurd rfl h0
  | @lit z j p r ys hz h =>
    cases h with
    | nil =>
      refine PE.weak (pe_joined1 (pt_lit (t := t) (n := n) (W := W) hz)) fun σ H Q ⟨T, Fr, μ, s, S, a⟩ => ?_
      unfold ev evJ at a
      refine ⟨T, Fr, μ, s, S, ?_⟩
      have e : fmtD (.str z) = some z := by simp [fmtD, optB, hz]
      simp only [ev, Res.bind, look, e, Res.of, empty_app, if_pos hz, evJ] at a ⊢
      exact fun T2 μ2 H2 v e' p' S' hv => by subst hv; exact a T2 μ2 H2 _ e' p' S' rfl
    | lit hz' h' => exact PE.weak (pe_joined pj) fun σ H Q ⟨T, Fr, μ, s, S, a⟩ => tj S a
    | fmt he h' => exact PE.weak (pe_joined pj) fun σ H Q ⟨T, Fr, μ, s, S, a⟩ => tj S a
  | @fmt e x p r ys he h =>
    cases h with
    | nil =>
      refine PE.weak (pe_joined1 (pt_fmt he O)) fun σ H Q ⟨T, Fr, μ, s, S, a⟩ => ?_
      unfold ev evJ at a
      refine ⟨T, Fr, μ, s, S, ?_⟩
      cases e0 : ev (t.o n) e s with
      | stuck => rw [e0] at a; exact a.elim
      | exc x s' =>
        rw [e0] at a
        simp only [e0]
        exact a
      | ok w s' =>
        rw [e0] at a
        simp only [Res.bind] at a
        cases e1 : look s' w with
        | none => rw [e1] at a; exact a.elim
        | some d =>
          rw [e1] at a
          simp only [] at a
          cases e2 : fmtD d with
          | none => rw [e2] at a; exact a.elim
          | some z =>
            rw [e2] at a
            simp only [empty_app] at a
            simp only [e0, Res.bind, e1, e2, Res.of]
            by_cases hz : z.length ≤ sizeLine
            · rw [if_pos hz] at a
              simp only [evJ] at a
              exact fun T2 μ2 H2 v e' p' S' hv => by subst hv; exact a T2 μ2 H2 _ e' p' S' rfl
            · rw [if_neg hz] at a; exact a.elim
    | lit hz' h' => exact PE.weak (pe_joined pj) fun σ H Q ⟨T, Fr, μ, s, S, a⟩ => tj S a
    | fmt he' h' => exact PE.weak (pe_joined pj) fun σ H Q ⟨T, Fr, μ, s, S, a⟩ => tj S a
end
end Pc

set_option Elab.async false
set_option linter.all false
set_option maxRecDepth 100000
set_option maxHeartbeats 4000000
namespace Pc
open PySem L2
section
variable {t : Tb} {n : Nat} {M : Mc} {X : Cx}
theorem dOf_some {w : Pc.W} {d : D} (h : dOf w = some d) : w = .d d := by
  cases w with
  | d x => cases h; rfl
  | c _ => cases h
  | b _ => cases h
theorem sf_rep {a b : Ex} {xa xb : Expr} {pos : Pos} (ha : SE t n M a xa) (hb : SE t n M b xb) : SF t n M (.rep a b) (.BinOp xa .Mult xb pos) := fun X W O => by
  refine PE.weak (pe_op op_rep (ha X W O) (hb X W O)) fun σ H Q ⟨T, Fr, μ, s, S, a⟩ => ?_
  unfold evF at a
  refine rd_bind S a fun T1 μ1 H1 x w1 s1 e1 p1 S1 r1 a => rd_bind S1 a fun T2 μ2 H2 y w2 s2 e2 p2 S2 r2 a => ?_
  split at a
  · rename_i l m hl hm
    obtain ⟨c, vs, rfl, h1, h2⟩ := S2.lookL (RepR.mono e2 p2 r1) hl
    cases dOf_some hm
    cases (show y = _ from r2)
    split at a
    · rename_i hz
      refine ⟨c, m, vs, rfl, rfl, h1, hz.1, hz.2.1, by rw [h2.len]; exact hz.2.2, fun p hp => ?_⟩
      exact a T2 μ2 _ _ (same_refl _) (List.prefix_refl _) (S2.loose hp) (S2.fresh hp (h2.repl _))
    · exact a.elim
  · exact a.elim
theorem sf_cpy {a : Ex} {xa : Expr} {x : Str} {p pos : Pos} (hx : decide (x = "list") && glB M.sc x && t.free x && plainArg xa = true) (ha : SE t n M a xa) : SF t n M (.cpy a) (.Call (.Name x p) [xa] [] pos) := fun X W O => by
  simp only [Bool.and_eq_true, decide_eq_true_eq] at hx
  obtain ⟨⟨⟨hx1, hx2⟩, hx3⟩, hx4⟩ := hx
  subst hx1
  refine PE.weak (pe_callTy call_list_of (glB_ok O hx2) (O.fr _ hx3) PyProof.Rows.boot_list (pa_cons (ha X W O) pa_nil (star_plain hx4 _ _)) (by decide) (by decide) (star_plain hx4 _ _) rfl) fun σ H Q ⟨T, Fr, μ, s, S, a⟩ => ?_
  unfold evF at a
  refine rd_bind S a fun T1 μ1 H1 v w s1 e1 p1 S1 r1 a => ?_
  have go : ∀ l, (Top (t.k X) T1 H1 (.lst l) v ∨ Top (t.k X) T1 H1 (.tup l) v) → Aft (t.k X) T1 Fr μ1 W σ (rF (t.k X)) Q (.ok l s1) → ∃ p ys, [v] = [.ref p] ∧ (SqL X.K H1 p ys ∨ SqT X.K H1 p ys) ∧ ∀ l, H1 l = none → Q (.ref l) (upd H1 l (.lst ys)) := by
    intro l hl a
    obtain ⟨c, vs, rfl, h1, h2⟩ := Top.seq (k := t.k X) S1.tH hl
    refine ⟨c, vs, rfl, h1, fun p hp => ?_⟩
    exact a T1 μ1 _ _ (same_refl _) (List.prefix_refl _) (S1.loose hp) (S1.fresh hp h2)
  split at a
  · rename_i l hl
    exact go l (.inl (S1.look r1 hl)) a
  · rename_i l hl
    exact go l (.inr (S1.look r1 hl)) a
  · exact a.elim
def few1 (e : Expr) : Bool := plainArg e
theorem few_of {e : Expr} (h : plainArg e = true) (pos : Pos) (env : Env) : ((backTo pos (starEach [e] env)).all (fun x => !x.1) && (backToKw pos (keywordEach [] env)).all (fun x => x.1.isSome)
      && decide ([e].length + ([] : List Keyword).length + (if ([] : List Keyword).isEmpty then 0 else 1) < 30)) = true := by
  rw [star_plain h]
  rfl
theorem s_index {o a : Ex} {xo xa : Expr} {apos pos : Pos} (hx : plainBase xo && plainArg xa && (apos.endLine == pos.line) = true) (ho : SE t n M o xo) (ha : SE t n M a xa) : SE t n M (.sm .index o a) (.Call (.Attribute xo "index" apos) [xa] [] pos) := fun X W O => by
  simp only [Bool.and_eq_true, decide_eq_true_eq] at hx
  refine PE.weak (pe_bm PySem.F.plainAttrs_str PySem.F.slot_str_index PySem.F.type_str_index mt_sindex (ho X W O) (pa_cons (ha X W O) pa_nil (star_plain hx.1.2 _ _)) (base_plain hx.1.1 _ _ _) (few_of hx.1.2 _ _) hx.2 (star_plain hx.1.2 _ _) rfl) fun σ H Q ⟨T, Fr, μ, s, S, a⟩ => ?_
  unfold ev at a
  refine rd_bind S a fun T1 μ1 H1 v w s1 e1 p1 S1 r1 a => ?_
  split at a
  · rename_i z
    cases (show v = _ from r1)
    refine ⟨rfl, rd_bind S1 a fun T2 μ2 H2 y w2 s2 e2 p2 S2 r2 a => ?_⟩
    split at a
    · rename_i q hq
      obtain ⟨w', hw, a1⟩ := Aft.of a
      clear a
      obtain ⟨d, hd, e⟩ := map_some hw
      subst e
      have tq := S2.look r2 hq
      cases q with
      | str b =>
        cases (show y = _ from tq)
        cases ho : Builtin.Str.occurrences z b 0 z.length 1 with
        | nil => simp only [smD, ho] at hd; cases hd
        | cons i rest =>
          simp only [smD, ho] at hd
          cases hd
          exact ⟨z, b, i, rest, rfl, rfl, ho, a1.here S2 rfl⟩
      | _ => cases hd
    · exact a.elim
  · exact a.elim
theorem s_lix {o a : Ex} {xo xa : Expr} {apos pos : Pos} (hx : plainBase xo && plainArg xa && (apos.endLine == pos.line) = true) (ho : SE t n M o xo) (ha : SE t n M a xa) : SE t n M (.lix o a) (.Call (.Attribute xo "index" apos) [xa] [] pos) := fun X W O => by
  simp only [Bool.and_eq_true, decide_eq_true_eq] at hx
  refine PE.weak (pe_bm PySem.F.plainAttrs_list PySem.F.slot_list_index PySem.F.type_list_index (mt_indexD (by have := O.u66; omega)) (ho X W O) (pa_cons (ha X W O) pa_nil (star_plain hx.1.2 _ _)) (base_plain hx.1.1 _ _ _) (few_of hx.1.2 _ _) hx.2 (star_plain hx.1.2 _ _) rfl) fun σ H Q ⟨T, Fr, μ, s, S, a⟩ => ?_
  unfold ev at a
  refine rd_bind S a fun T1 μ1 H1 v w s1 e1 p1 S1 r1 a => ?_
  split at a
  · exact a.elim
  · rename_i l0 hl0
    obtain ⟨c, vs, rfl, h1, h2⟩ := S1.lookL r1 hl0
    refine ⟨.inl ⟨rfl, vs, .of h1⟩, rd_bind S1 a fun T2 μ2 H2 y w2 s2 e2 p2 S2 r2 a => ?_⟩
    split at a
    · rename_i l q hl hq
      obtain ⟨w', hw, a1⟩ := Aft.of a
      clear a
      obtain ⟨j, hj, e⟩ := map_some hw
      subst e
      unfold lixD at hj
      split at hj
      · rename_i ds d hds hd
        split at hj
        · rename_i hs
          rw [Bool.and_eq_true] at hs
          obtain ⟨g1, g2, g3⟩ := List.findIdx?_eq_some_iff_getElem.mp hj
          have t1 := (S2.look (RepR.mono e2 p2 r1) hl).dp S2.tH (p := .list ds) (by show (D.pys l).map PyData.list = _; rw [hds]; rfl)
          have t2 := (S2.look r2 hq).dp S2.tH hd
          exact ⟨c, y, d, ds, j, ds[j], rfl, rfl, t1, t2, hs.1, hs.2, List.getElem?_eq_getElem g1, g2, fun m z' hm hz => by
            obtain ⟨k1, k2⟩ := List.getElem?_eq_some_iff.mp hz
            have := g3 m hm
            rw [k2] at this
            simpa using this, a1.here S2 rfl⟩
        · cases hj
      · cases hj
    · exact a.elim
theorem s_app {o a : Ex} {xo xa : Expr} {apos pos : Pos} (hx : plainBase xo && plainArg xa && (apos.endLine == pos.line) = true) (ho : SE t n M o xo) (ha : SE t n M a xa) : SE t n M (.app o a) (.Call (.Attribute xo "append" apos) [xa] [] pos) := fun X W O => by
  simp only [Bool.and_eq_true, decide_eq_true_eq] at hx
  refine PE.weak (pe_bm PySem.F.plainAttrs_list PySem.F.slot_list_append PySem.F.type_list_append mt_append (ho X W O) (pa_cons (ha X W O) pa_nil (star_plain hx.1.2 _ _)) (base_plain hx.1.1 _ _ _) (few_of hx.1.2 _ _) hx.2 (star_plain hx.1.2 _ _) rfl) fun σ H Q ⟨T, Fr, μ, s, S, a⟩ => ?_
  unfold ev at a
  refine rd_bind S a fun T1 μ1 H1 v w s1 e1 p1 S1 r1 a => ?_
  split at a
  · exact a.elim
  · rename_i l0 hl0
    obtain ⟨c, vs, rfl, h1, h2, _⟩ := S1.getL r1 hl0
    refine ⟨.inl ⟨rfl, vs, .of h1⟩, rd_bind S1 a fun T2 μ2 H2 y w2 s2 e2 p2 S2 r2 a => ?_⟩
    split at a
    · rename_i l d hl hd
      obtain ⟨c', vs', e, g1, g2, g3, g4, g5⟩ := S2.getL (RepR.mono e2 p2 r1) hl
      cases e
      cases dOf_some hd
      split at a
      · rename_i hz
        split at a
        · rename_i s3 hs
          exact ⟨c, vs', y, rfl, rfl, g1, by rw [g2.len]; exact hz, a.here (g5 _ _ _ (g2.app (.one r2)) hs) rfl⟩
        · exact a.elim
      · exact a.elim
    · exact a.elim
theorem s_popl {o : Ex} {xo : Expr} {apos pos : Pos} (hx : plainBase xo && (apos.endLine == pos.line) = true) (ho : SE t n M o xo) : SE t n M (.popl o) (.Call (.Attribute xo "pop" apos) [] [] pos) := fun X W O => by
  simp only [Bool.and_eq_true, decide_eq_true_eq] at hx
  refine PE.weak (pe_bm0 PySem.F.plainAttrs_list PySem.F.slot_list_pop PySem.F.type_list_pop mt_pop (ho X W O) (base_plain hx.1 _ _ _) hx.2) fun σ H Q ⟨T, Fr, μ, s, S, a⟩ => ?_
  unfold ev at a
  refine rd_bind S a fun T1 μ1 H1 v w s1 e1 p1 S1 r1 a => ?_
  split at a
  · rename_i l hl
    obtain ⟨c, vs, rfl, g1, g2, g3, g4, g5⟩ := S1.getL r1 hl
    split at a
    · rename_i d hd
      split at a
      · rename_i s3 hs
        rw [List.getLast?_eq_getElem?] at hd
        obtain ⟨v, q1, q2⟩ := g2.get hd
        exact ⟨.inl ⟨rfl, vs, .of g1⟩, c, vs, v, rfl, rfl, g1, by rw [g2.len]; exact q1, a.here (g5 _ _ _ g2.dropLast hs) q2⟩
      · exact a.elim
    · exact a.elim
  · exact a.elim
theorem s_popa {o a : Ex} {xo xa : Expr} {apos pos : Pos} (hx : plainBase xo && plainArg xa && (apos.endLine == pos.line) = true) (ho : SE t n M o xo) (ha : SE t n M a xa) : SE t n M (.popa o a) (.Call (.Attribute xo "pop" apos) [xa] [] pos) := fun X W O => by
  simp only [Bool.and_eq_true, decide_eq_true_eq] at hx
  refine PE.weak (pe_bm PySem.F.plainAttrs_list PySem.F.slot_list_pop PySem.F.type_list_pop mt_popAt (ho X W O) (pa_cons (ha X W O) pa_nil (star_plain hx.1.2 _ _)) (base_plain hx.1.1 _ _ _) (few_of hx.1.2 _ _) hx.2 (star_plain hx.1.2 _ _) rfl) fun σ H Q ⟨T, Fr, μ, s, S, a⟩ => ?_
  unfold ev at a
  refine rd_bind S a fun T1 μ1 H1 v w s1 e1 p1 S1 r1 a => ?_
  split at a
  · exact a.elim
  · rename_i l0 hl0
    obtain ⟨c, vs, rfl, h1, h2, _⟩ := S1.getL r1 hl0
    refine ⟨.inl ⟨rfl, vs, .of h1⟩, rd_bind S1 a fun T2 μ2 H2 y w2 s2 e2 p2 S2 r2 a => ?_⟩
    split at a
    · rename_i l i hl hd
      obtain ⟨c', vs', e, g1, g2, g3, g4, g5⟩ := S2.getL (RepR.mono e2 p2 r1) hl
      cases e
      cases dOf_some hd
      cases (show y = _ from r2)
      split at a
      · rename_i hz
        split at a
        · rename_i d hd
          split at a
          · rename_i s3 hs
            obtain ⟨v, q1, q2⟩ := g2.get hd
            have hk : seqIndex? i vs'.length = some i.toNat := by
              unfold seqIndex?
              have := g2.len
              simp only [show ¬ i < 0 by omega, if_false]
              rw [if_pos (by simp only [Bool.and_eq_true, decide_eq_true_eq]; omega)]
            exact ⟨c, vs', i, i.toNat, v, rfl, rfl, g1, by omega, hz.2.2, hk, q1, a.here (g5 _ _ _ (g2.erase _) hs) q2⟩
          · exact a.elim
        · exact a.elim
      · exact a.elim
    · exact a.elim
theorem Top.tru {k : Kx} {T H : Hp} (e : Same T H) : ∀ {d : D} {v : V} {b : Bool}, Top k T H d v → truD d = some b → TruV k.K v H b
  | .non, _, b, h, hb => by cases (show _ = V.non from h); cases hb; rfl
  | .bl c, _, b, h, hb => by cases (show _ = V.bl c from h); cases hb; rfl
  | .int i, _, b, h, hb => by cases (show _ = V.int i from h); cases hb; rfl
  | .str z, _, b, h, hb => by
    cases (show _ = V.str z from h)
    obtain ⟨h1, h2⟩ := optB_some hb
    refine ⟨of_decide_eq_true h1, ?_⟩
    rw [← h2]
    cases hz : z.length with
    | zero => rfl
    | succ m => simp; omega
  | .lst l, _, b, h, hb => by
    obtain ⟨a, vs, rfl, h1, h2⟩ := h
    cases hb
    exact .inl ⟨vs, .inl h1, by have := h2.len; cases l <;> cases vs <;> simp_all⟩
  | .tup l, _, b, h, hb => by
    obtain ⟨a, vs, rfl, h1, h2⟩ := (show Rep k T (.tup l) _ from h)
    cases hb
    exact .inr (.inl ⟨vs, sqT_same e h1, by have := h2.len; cases l <;> cases vs <;> simp_all⟩)
  | .obj _ _ _, _, b, h, hb => by cases hb
  | .exn _ _ _, _, b, h, hb => by cases hb
def plainTest : Expr → Bool
  | .UnaryOp .Not _ _ | .BoolOp _ _ _ | .IfExp _ _ _ _ | .Compare _ _ _ _ => false
  | _ => true
theorem test_plain {e : Expr} (h : plainTest e = true) (env : Env) (whole : Sem Value) : PySem.isTrue e env whole = (do let v ← whole; standAt e.pos; holding [v] (truthy v)) := by
  unfold PySem.isTrue
  unfold plainTest at h
  split at h
  · cases h
  · cases h
  · cases h
  · cases h
  · rename_i h1 h2 h3 h4
    split
    · exact absurd rfl (h1 _ _)
    · exact absurd rfl (h2 _ _ _)
    · exact absurd rfl (h3 _ _ _ _)
    · exact absurd rfl (h4 _ _ _ _)
    · rfl
theorem st_e {a : Ex} {xa : Expr} (hp : plainTest xa = true) (ha : SE t n M a xa) : ST t n M (.e a) xa := fun X W O => by
  refine PT.weak (pt_truth (ha X W O) (test_plain hp _)) fun σ H Q ⟨T, Fr, μ, s, S, a⟩ => ?_
  unfold evT at a
  refine rd_bind S a fun T1 μ1 H1 v w s1 e1 p1 S1 r1 a => ?_
  split at a
  · rename_i d hd
    obtain ⟨b, hb, a1⟩ := Aft.of a
    clear a
    exact ⟨b, Top.tru S1.tH (S1.look r1 hd) hb, a1.here S1 rfl⟩
  · exact a.elim
theorem st_not {a : Te} {xa : Expr} {pos : Pos} (ha : ST t n M a xa) : ST t n M (.not a) (.UnaryOp .Not xa pos) := fun X W O => by
  refine PT.weak (pt_not (ha X W O)) fun σ H Q ⟨T, Fr, μ, s, S, a⟩ => ?_
  unfold evT at a
  refine rd_bind S a fun T1 μ1 H1 v w s1 e1 p1 S1 r1 a => ?_
  cases (show w = v from r1)
  exact a.here S1 rfl
def SW (t : Tb) (n : Nat) (M : Mc) (an : Bool) (e : Tes) (x : Expr) : Prop := ∀ X W, Ok t n M X W → PW X x (rd (t.k X) W rB (evTs (t.o n) an e))
theorem PW.weak {X : Cx} {e : Expr} {t u : TT} (h : PW X e t) (k : ∀ σ H Q, u σ H Q → t σ H Q) : PW X e u := ⟨fun w pins s σ H Q I q => h.run w pins s σ H Q I (k σ H Q q)⟩
theorem sw_one {an : Bool} {op : BoolOp} {a : Te} {xa : Expr} {pos : Pos} (ho : bopB an op = true) (ha : ST t n M a xa) : SW t n M an (.cons a .nil) (.BoolOp op [xa] pos) := fun X W O => by
  have go : ∀ σ H Q, rd (t.k X) W rB (evTs (t.o n) an (.cons a .nil)) σ H Q → rd (t.k X) W rB (evT (t.o n) a) σ H Q := by
    intro σ H Q ⟨T, Fr, μ, s, S, a⟩
    unfold evTs at a
    refine rd_bind S a fun T1 μ1 H1 v w s1 e1 p1 S1 r1 a => ?_
    cases (show w = v from r1)
    unfold evTs at a
    split at a
    · rename_i h
      rw [← beq_iff_eq.mp h] at a
      exact a.here S1 rfl
    · exact a.here S1 rfl
  cases op with
  | And => exact PW.weak (pw_and1 (ha X W O)) go
  | Or => exact PW.weak (pw_or1 (ha X W O)) go
theorem sw_cons {an : Bool} {op : BoolOp} {a b : Te} {r : Tes} {xa xb : Expr} {xs : List Expr} {pos : Pos} (ho : bopB an op = true) (ha : ST t n M a xa) (hr : SW t n M an (.cons b r) (.BoolOp op (xb :: xs) pos)) :
    SW t n M an (.cons a (.cons b r)) (.BoolOp op (xa :: xb :: xs) pos) := fun X W O => by
  cases op with
  | And =>
    have e : an = true := ho
    subst e
    refine PW.weak (pw_and (ha X W O) (hr X W O)) fun σ H Q ⟨T, Fr, μ, s, S, a⟩ => ?_
    rw [evTs] at a
    refine rd_bind S a fun T1 μ1 H1 v w s1 e1 p1 S1 r1 a => ?_
    cases (show w = v from r1)
    cases v with
    | true => exact ⟨T1, Fr, μ1, s1, S1, a⟩
    | false => exact a.here S1 rfl
  | Or =>
    have e : an = false := by revert ho; cases an <;> simp [bopB]
    subst e
    refine PW.weak (pw_or (ha X W O) (hr X W O)) fun σ H Q ⟨T, Fr, μ, s, S, a⟩ => ?_
    rw [evTs] at a
    refine rd_bind S a fun T1 μ1 H1 v w s1 e1 p1 S1 r1 a => ?_
    cases (show w = v from r1)
    cases v with
    | true => exact a.here S1 rfl
    | false => exact ⟨T1, Fr, μ1, s1, S1, a⟩
theorem st_bop {an : Bool} {e : Tes} {x : Expr} (h : SW t n M an e x) : ST t n M (.bop an e) x := fun X W O =>
  PT.weak (h X W O).pt fun σ H Q ⟨T, Fr, μ, s, S, a⟩ => ⟨T, Fr, μ, s, S, by unfold evT at a; exact a⟩
end
end Pc

set_option Elab.async false
set_option linter.all false
set_option maxRecDepth 100000
set_option maxHeartbeats 4000000
namespace Pc
open PySem L2 PyProof.Rows
theorem meets_enumT (l : Addr) (items : Array Value) :
    Meets (Builtin.«enumerate.__new__» ⟨[.type "enumerate", .ref l], []⟩) (fun _ R s => s.heap.IsTuple l items ∧
      R (.ok (.ret (.ref (s.heap.push { cls := .type "tuple_iterator", data := .fields #[.ref l, .int 0 0] }).objs.size)))
        { s with heap := (s.heap.push { cls := .type "tuple_iterator", data := .fields #[.ref l, .int 0 0] }).push { cls := .type "enumerate", data := .fields #[.none, .bool false, .ref s.heap.objs.size, rawInt 0, .none, .none] } }) :=
  .of_wp fun prog w A R s h => by
    obtain ⟨hp, g, d, tk, os⟩ := s; obtain ⟨h1, h⟩ := h
    have hsub := sub_enumerate
    have q1 : ∀ {A' : Around} {E : Value → Shared → Prop} {Q : Value → Shared → Prop}, Q (.ref hp.objs.size) ⟨hp.push { cls := .type "tuple_iterator", data := .fields #[.ref l, .int 0 0] }, g, d, tk, os⟩ → wpAny (model prog w) A' (pyIter (.ref l)) Q E ⟨hp, g, d, tk, os⟩ :=
      fun q => (begins_tuple l items).iter prog w _ _ ⟨hp, g, d, tk, os⟩ _ h1 q
    wp_walk using q1
    refine wpAny_stack_any fun st => wpAny_pure ?_
    split
    · rename_i c _ _ _ _ _
      cases (c == Value.type "enumerate")
      · wp_walk using q1
        exact ⟨_, rfl, h⟩
      · wp_walk using q1
        exact ⟨_, rfl, h⟩
    · wp_walk using q1
      exact ⟨_, rfl, h⟩
section
variable {prog : Program} {w : World} {A : Around} {E : Value → Shared → Prop} {s : Shared}
theorem call_enumT {l : Addr} {items : Array Value} {Q : Value → Shared → Prop} (hL : s.heap.IsTuple l items)
    (h : ∀ h', IsEnum h' (s.heap.objs.size + 1) s.heap.objs.size 0 .none → h'.IsTupleIter s.heap.objs.size l 0 → h'.objs.size = s.heap.objs.size + 2 →
      (∀ b o, s.heap.get? b = some o → h'.get? b = some o) → Q (.ref (s.heap.objs.size + 1)) { s with heap := h' }) :
    wpAny (model prog w) A (call (.type "enumerate") [.ref l]) Q E s := by
  refine callType_new F.called_enumerate (by decide) (F.typeCall_enumerate_1 _) (F.newCall_enumerate_1 _) (fun obj => F.args_object_init_2 obj _) F.entry_enumerate_new
    (meets_enumT l items) ⟨hL, ?_⟩
  have hz : (s.heap.push { cls := .type "tuple_iterator", data := .fields #[.ref l, .int 0 0] }).objs.size = s.heap.objs.size + 1 := Heap.size_push ..
  show _ ∧ _
  rw [hz]
  have he : IsEnum ((s.heap.push { cls := .type "tuple_iterator", data := .fields #[.ref l, .int 0 0] }).push { cls := .type "enumerate", data := .fields #[.none, .bool false, .ref s.heap.objs.size, rawInt 0, .none, .none] }) (s.heap.objs.size + 1) s.heap.objs.size 0 .none := by
    have := Heap.get?_push_size (s.heap.push { cls := .type "tuple_iterator", data := .fields #[.ref l, .int 0 0] }) (o := { cls := .type "enumerate", data := .fields #[.none, .bool false, .ref s.heap.objs.size, rawInt 0, .none, .none] }) rfl
    rw [hz] at this; exact this
  refine ⟨⟨_, he, rfl⟩, h _ he ⟨_, Heap.get?_push_of_some _ (Heap.get?_push_size _ rfl), rfl, rfl⟩ (by rw [Heap.size_push, hz]) fun b o x => Heap.get?_push_of_some _ (Heap.get?_push_of_some _ x)⟩
end
/-- the tuple at a, each item in a new pair -/
def IteT (K : PySem.W.Frag) (a : Addr) : L2.It :=
  ⟨fun i H => ∃ (xs : List V) (x : V), SqT K H a xs ∧ xs[i]? = some x, fun i H v H' => ∃ T x, v = .ref T ∧ H T = none ∧ H' = upd H T (.tup [.int (i : Nat), x]) ∧ ∀ xs, SqT K H a xs → xs[i]? = some x, fun i H => ∃ xs : List V, SqT K H a xs ∧ xs.length ≤ i⟩
theorem turn_enumT {P : Program} {w : World} {K : PySem.W.Frag} {elts : List Expr} {kk : Nat} {tpos : Pos} (a e it : Addr) :
    Turn P w K (.Tuple elts kk tpos) (IteT K a) [e, it] e (fun i h => (∃ old, IsEnum h e it ((i : Nat) : Int) old) ∧ h.IsTupleIter it a i ∧ e ≠ it) where
  mem := by simp
  obj := fun i h st b hb => by
    obtain ⟨⟨old, he⟩, ⟨o, ho, hc, hd⟩, _⟩ := st
    have e' : b = e ∨ b = it := by simpa using hb
    rcases e' with z | z
    · rw [z]; exact ⟨_, he, fun v q => nomatch q⟩
    · rw [z]; exact ⟨o, ho, fun v q => by rw [hd] at q; cases q⟩
  keep := fun i h h' st k => let ⟨⟨old, he⟩, hi, hne⟩ := st; ⟨⟨old, k e (by simp) _ he⟩, hi.at fun o q => k it (by simp) o q, hne⟩
  item := by
    intro X hP hw hK hc i pins s σ H E I hf st hg
    subst hP hw hK
    obtain ⟨⟨old, he⟩, hit, hne⟩ := st
    obtain ⟨xs, x, hq, hx⟩ := hg
    obtain ⟨its, rv, p, hz⟩ := I.tuple hq
    obtain ⟨u, hu, ru⟩ := rv.get hx
    have hel : e < s.heap.objs.size := Heap.lt_size he
    have hil : it < s.heap.objs.size := by obtain ⟨_, q, _⟩ := hit; exact Heap.lt_size q
    have p' : s.heap.IsTuple a its.toArray := p
    have hai : a ≠ it := fun z => by
      subst z
      obtain ⟨o, q1, q2, _⟩ := hit
      obtain ⟨o', q3, q4, _⟩ := p'
      rw [q1] at q3
      cases q3
      rw [q2] at q4
      exact absurd q4 (by decide)
    have hae : e ≠ a := fun z => by
      subst z
      obtain ⟨o', q3, q4, _⟩ := p'
      have he' : s.heap.get? e = _ := he
      rw [he'] at q3
      cases q3
      exact absurd (show Value.type "enumerate" = Value.type "tuple" from q4) (by decide)
    have hil' : i < its.toArray.size := by
      have := (List.getElem?_eq_some_iff.mp hu).1
      simpa using this
    have D := Draws.tuple (prog := X.prog) (w := X.w) (A := X.A.in1) (I.ok.hd hc) it a hai its.toArray
    refine wpAny_pyNext_enum_itemD (St := fun i h => h.IsTupleIter it a i ∧ h.IsTuple a its.toArray) D he ⟨hit, p'⟩ hil' hne (by simp [hne, hae]) fun x0 h' tk hx0 ho hit' hT hsz hk => ?_
    have hx1 : x0 = u := by
      have : its.toArray[i]? = some x0 := hx0
      rw [List.getElem?_toArray, hu] at this
      exact (Option.some.inj this).symm
    subst hx1
    refine ⟨_, rfl, wpAny_letOwnedTupleGo_enum (s := { s with heap := h', toks := tk + 1 }) ho fun h'' he' sb => ?_⟩
    have hT2 : h''.get? s.heap.objs.size = some { cls := .type "tuple", data := .seq #[.int i tk, x0] } := (sb.2 _ (Nat.ne_of_gt hel)).trans hT
    have new : ObjOk X.prog X.w (upd H s.heap.objs.size (.tup [.int (i : Nat), x])) h'' s.heap.objs.size (.tup [.int (i : Nat), x]) :=
      ⟨by show 2 ≤ sizeLine; decide, [.int i tk, x0], .cons ⟨_, rfl⟩ (.cons ru .nil), ⟨_, hT2, rfl, _, rfl⟩⟩
    have I1 : Inv X pins σ (upd H s.heap.objs.size (.tup [.int (i : Nat), x])) { s with heap := h'', toks := tk + 1 } :=
      I.turnedNew (ch := [e, it]) (fun b ob hb q => (sb.2 b (fun z => hb (by simp [z]))).trans (hk b ob (fun z => hb (by simp [z])) (fun z => hb (by simp [z])) q)) hf (Nat.le_refl _) new
    refine ⟨.ref s.heap.objs.size, _, I1, rfl, ⟨_, x, rfl, I.hok.fresh (Nat.le_refl _), rfl, fun ys hy => by rw [I.tuple_inj hy hq]; exact hx⟩, ⟨⟨x0, ?_⟩, hit'.1.at fun o q => (sb.2 it (Ne.symm hne)).trans q, hne⟩, fun b hb => ?_⟩
    · have e1 : ((i + 1 : Nat) : Int) = (i : Int) + 1 := by omega
      rw [e1]; exact he'
    · have hb' : b < s.heap.objs.size := by
        have e' : b = e ∨ b = it := by simpa using hb
        rcases e' with z | z
        · rw [z]; exact hel
        · rw [z]; exact hil
      rw [upd_ne (Nat.ne_of_lt hb')]
      exact (hf b hb).1
  done := by
    intro X hP hw hK hc i pins s σ H E I hf st hg
    subst hP hw hK
    obtain ⟨⟨old, he⟩, hit, hne⟩ := st
    obtain ⟨xs, hq, hx⟩ := hg
    obtain ⟨its, rv, p, hz⟩ := I.tuple hq
    obtain ⟨f0, f1, f2, f3, f4, f5⟩ := hf it (by simp)
    have hl := rv.length
    have p' : s.heap.IsTuple a its.toArray := p
    have D : Draws X.prog X.w X.A.in1 it [it, a] i (fun _ _ => False) (fun j h => j = i ∧ h.IsTupleIter it a i ∧ h.IsTuple a its.toArray) :=
      { live := fun _ _ st => let ⟨o, ho, _⟩ := st.2.1; ⟨o, ho⟩
        frame := fun _ _ _ st hk => ⟨st.1, st.2.1.at fun o e => hk it (by simp) o e, st.2.2.at fun o e => hk a (by simp) o e⟩
        item := fun j s Q E hi st hQ => absurd st.1 (Nat.ne_of_lt hi)
        done := fun s Q E st hE => wpAny_nextOf_tuple_end (I.ok.hd hc) st.2.1 st.2.2 (by simp; omega) hE }
    exact wpAny_pyNext_enum_endD D he ⟨rfl, hit, p'⟩ fun h' eb => ⟨rfl, I.turned (t' := s.toks) (fun b o hb q => eb b o hb q) f0 f1 f3 f4 f5⟩
  self := fun A i s Q E st h => let ⟨⟨_, he⟩, _⟩ := st; wpAny_pyIter_enum he h
def iEnumA (K : PySem.W.Frag) (ta : TA) : TI := fun σ H R => ta σ H fun vs H1 => (∃ a xs, vs = [.ref a] ∧ SqL K H1 a xs ∧ R (Ite K a) H1) ∨ ∃ a xs, vs = [.ref a] ∧ SqT K H1 a xs ∧ R (IteT K a) H1
theorem pi_enumA {X : Cx} {e : Expr} {ta : TA} {p pos tpos : Pos} {elts : List Expr} {kk : Nat} (hg : Gl X "enumerate") (hm : X.mg "enumerate" = none) (ha : PA X [e] ta) (hs : starEach [e] X.env = [(false, eval e X.env)] := by rfl) :
    PI X (.Tuple elts kk tpos) (.Call (.Name "enumerate" p) [e] [] pos) (iEnumA X.K ta) := by
  refine ⟨fun pins s σ H R I h => ?_⟩
  refine Call_ (ld_blt I hg hm boot_enumerate (PyProof.Rows.callWith_type1 (thn (ha.run pos pins s σ H _ I h) fun us s1 ⟨vs, H1, I1, r1, q1⟩ => ?_) hs rfl))
  rcases q1 with ⟨a, xs, ex, hq, q⟩ | ⟨a, xs, ex, hq, q⟩
  · subst ex
    cases r1 with
    | cons r rr =>
      cases rr
      cases r
      obtain ⟨its, rv, p', hz⟩ := I1.list hq
      refine call_enumerate_list p'.isList fun h' he hit hsz hk => wpAny_pyIter_enum he ?_
      have I2 : Inv X pins σ H1 { s1 with heap := h' } := I1.kept (t' := s1.toks) hk
      refine ⟨s1.heap.objs.size + 1, [s1.heap.objs.size + 1, s1.heap.objs.size], _, _, H1, rfl, I2, turn_enum a (s1.heap.objs.size + 1) s1.heap.objs.size, ⟨⟨.none, he⟩, hit, Nat.succ_ne_self _⟩, fun b hb => ?_, q⟩
      have e' : b = s1.heap.objs.size + 1 ∨ b = s1.heap.objs.size := by simpa using hb
      have hle : s1.heap.objs.size ≤ b := by
        rcases e' with z | z
        · rw [z]; exact Nat.le_add_right _ _
        · rw [z]; exact Nat.le_refl _
      exact I1.fpOk hle (I1.hok.fresh hle)
  · subst ex
    cases r1 with
    | cons r rr =>
      cases rr
      cases r
      obtain ⟨its, rv, p', hz⟩ := I1.tuple hq
      have p2 : s1.heap.IsTuple a its.toArray := p'
      refine call_enumT p2 fun h' he hit hsz hk => wpAny_pyIter_enum he ?_
      have I2 : Inv X pins σ H1 { s1 with heap := h' } := I1.kept (t' := s1.toks) hk
      refine ⟨s1.heap.objs.size + 1, [s1.heap.objs.size + 1, s1.heap.objs.size], _, _, H1, rfl, I2, turn_enumT a (s1.heap.objs.size + 1) s1.heap.objs.size, ⟨⟨.none, he⟩, hit, Nat.succ_ne_self _⟩, fun b hb => ?_, q⟩
      have e' : b = s1.heap.objs.size + 1 ∨ b = s1.heap.objs.size := by simpa using hb
      have hle : s1.heap.objs.size ≤ b := by
        rcases e' with z | z
        · rw [z]; exact Nat.le_add_right _ _
        · rw [z]; exact Nat.le_refl _
      exact I1.fpOk hle (I1.hok.fresh hle)
end Pc

set_option Elab.async false
set_option linter.all false
set_option maxRecDepth 100000
set_option maxHeartbeats 4000000
namespace Pc
open PySem L2
theorem wipe_get (σ : L2.St) (j : Nat) : ∀ vs : List Nat, (wipe σ vs)[j]? = if j ∈ vs then σ[j]?.map (fun _ => none) else σ[j]?
  | [] => by simp [wipe]
  | v :: vs => by
    have ih := wipe_get σ j vs
    unfold wipe
    by_cases hj : v = j
    · subst hj
      rw [List.getElem?_set_self', ih]
      by_cases hv : v ∈ vs
      · simp [hv]
        cases σ[v]? <;> rfl
      · simp [hv]
        cases σ[v]? <;> rfl
    · rw [List.getElem?_set_ne hj, ih]
      have : (j ∈ v :: vs) ↔ j ∈ vs := by simp [Ne.symm hj]
      simp only [this]
theorem nR_get (r : List Sl) (j : Nat) : ∀ vs : List Nat, (nR r vs)[j]? = if j ∈ vs then r[j]?.map (fun _ => Sl.no) else r[j]?
  | [] => by simp [nR]
  | v :: vs => by
    have ih := nR_get r j vs
    unfold nR
    by_cases hj : v = j
    · subst hj
      rw [List.getElem?_set_self', ih]
      by_cases hv : v ∈ vs
      · simp [hv]
        cases r[v]? <;> rfl
      · simp [hv]
        cases r[v]? <;> rfl
    · rw [List.getElem?_set_ne hj, ih]
      have : (j ∈ v :: vs) ↔ j ∈ vs := by simp [Ne.symm hj]
      simp only [this]
theorem nR_length (r : List Sl) : ∀ vs : List Nat, (nR r vs).length = r.length
  | [] => rfl
  | v :: vs => by unfold nR; rw [List.length_set, nR_length r vs]
theorem backR_length (r0 r : List Sl) : ∀ vs : List Nat, (backR r0 r vs).length = r.length
  | [] => rfl
  | v :: vs => by
    unfold backR
    split
    · rw [List.length_set, backR_length r0 r vs]
    · exact backR_length r0 r vs
theorem backR_get (r0 r : List Sl) (hl : r.length = r0.length) (j : Nat) : ∀ vs : List Nat, (backR r0 r vs)[j]? = if j ∈ vs then r0[j]? else r[j]?
  | [] => by simp [backR]
  | v :: vs => by
    have ih := backR_get r0 r hl j vs
    unfold backR
    by_cases hj : v = j
    · subst hj
      simp only [List.mem_cons, true_or, if_true]
      split
      · rename_i x hx
        have := (List.getElem?_eq_some_iff.mp hx).1
        rw [hx, List.getElem?_set_self (by rw [backR_length, hl]; exact this)]
      · rename_i hx
        rw [ih, hx]
        split
        · rfl
        · exact List.getElem?_eq_none (by rw [hl]; exact List.getElem?_eq_none_iff.mp hx)
    · have : (j ∈ v :: vs) ↔ j ∈ vs := by simp [Ne.symm hj]
      simp only [this]
      split
      · rw [List.getElem?_set_ne hj, ih]
      · exact ih
theorem wipe_wipe {σ : L2.St} {vs vs1 : List Nat} (h : ∀ i ∈ vs1, i ∈ vs) : wipe (wipe σ vs1) vs = wipe σ vs := by
  refine List.ext_getElem? fun j => ?_
  rw [wipe_get, wipe_get, wipe_get]
  by_cases h1 : j ∈ vs
  · simp only [h1, if_true]
    split <;> cases σ[j]? <;> rfl
  · have h2 : j ∉ vs1 := fun z => h1 (h j z)
    simp only [h1, h2, if_false]
theorem nR_nR {r : List Sl} {vs vs1 : List Nat} (h : ∀ i ∈ vs1, i ∈ vs) : nR (nR r vs1) vs = nR r vs := by
  refine List.ext_getElem? fun j => ?_
  rw [nR_get, nR_get, nR_get]
  by_cases h1 : j ∈ vs
  · simp only [h1, if_true]
    split <;> cases r[j]? <;> rfl
  · have h2 : j ∉ vs1 := fun z => h1 (h j z)
    simp only [h1, h2, if_false]
section
variable {k : Kx} {T T' Fr : Hp} {μ μ' : List Addr} {s s' : Ss} {σ : L2.St} {H H' : Hp} {D : Addr} {acc : List Pc.D}
/-- the same state, some names forgotten -/
theorem Sim.drop {r' : List Sl} {σ' : L2.St} (S : Sim k T Fr μ s σ H) (hl : r'.length = σ'.length) (h : ∀ j : Nat, (r'[j]? = s.r[j]? ∧ σ'[j]? = σ[j]?) ∨ r'[j]? = some Sl.no ∨ r'[j]? = none) : Sim k T Fr μ { s with r := r' } σ' H := by
  refine ⟨S.tH, S.fH, S.tF, S.len, S.cel, S.cnd, hl, fun i w e => ?_, fun i l e => ?_⟩
  · rcases h i with ⟨h1, h2⟩ | h1 | h1
    · dsimp only at e
      rw [h1] at e
      obtain ⟨v, q1, q2⟩ := S.val i w e
      exact ⟨v, h2.trans q1, q2⟩
    · dsimp only at e; rw [h1] at e; cases e
    · dsimp only at e; rw [h1] at e; cases e
  · rcases h i with ⟨h1, h2⟩ | h1 | h1
    · dsimp only at e
      rw [h1] at e
      obtain ⟨p, vs, u1, u2, u3, u4, u5, u6, u7⟩ := S.own i l e
      refine ⟨p, vs, h2.trans u1, u2, u3, u4, u5, u6, fun j m e1 e2 => ?_⟩
      rcases h j with ⟨h3, h4⟩ | h3 | h3
      · dsimp only at e1; rw [h3] at e1; rw [h4] at e2; exact u7 j m e1 e2
      · dsimp only at e1; rw [h3] at e1; cases e1
      · dsimp only at e1; rw [h3] at e1; cases e1
    · dsimp only at e; rw [h1] at e; cases e
    · dsimp only at e; rw [h1] at e; cases e
theorem Fresh.drop {r' : List Sl} {σ' : L2.St} {l : List Pc.D} {v : V} (F : Fresh k T Fr μ s σ H l v) (h : ∀ j : Nat, (r'[j]? = s.r[j]? ∧ σ'[j]? = σ[j]?) ∨ r'[j]? = some Sl.no ∨ r'[j]? = none) : Fresh k T Fr μ { s with r := r' } σ' H l v := by
  obtain ⟨p, vs, u1, u2, u3, u4, u5, u6, u7⟩ := F
  refine ⟨p, vs, u1, u2, u3, u4, u5, u6, fun j m e1 e2 => ?_⟩
  rcases h j with ⟨h3, h4⟩ | h3 | h3
  · dsimp only at e1; rw [h3] at e1; rw [h4] at e2; exact u7 j m e1 e2
  · dsimp only at e1; rw [h3] at e1; cases e1
  · dsimp only at e1; rw [h3] at e1; cases e1
/-- the new list beside the state -/
def Lt (k : Kx) (T Fr : Hp) (μ : List Addr) (s : Ss) (σ : L2.St) (H : Hp) (D : Addr) (acc : List Pc.D) : Prop := Sim k T Fr μ s σ H ∧ Fresh k T Fr μ s σ H acc (.ref D)
theorem wipe_case (r : List Sl) (σ : L2.St) (hl : r.length = σ.length) (vs : List Nat) (j : Nat) : ((nR r vs)[j]? = r[j]? ∧ (wipe σ vs)[j]? = σ[j]?) ∨ (nR r vs)[j]? = some Sl.no ∨ (nR r vs)[j]? = none := by
  rw [nR_get, wipe_get]
  by_cases h : j ∈ vs
  · refine .inr ?_
    rw [if_pos h]
    cases r[j]? with
    | none => exact .inr rfl
    | some x => exact .inl rfl
  · rw [if_neg h, if_neg h]
    exact .inl ⟨rfl, rfl⟩
theorem Lt.wipe (L : Lt k T Fr μ s σ H D acc) (vs : List Nat) : Lt k T Fr μ { s with r := nR s.r vs } (L2.wipe σ vs) H D acc :=
  ⟨L.1.drop (by rw [nR_length, wipe_length]; exact L.1.rlen) (wipe_case _ _ L.1.rlen vs), L.2.drop (wipe_case _ _ L.1.rlen vs)⟩
/-- .. the names put back -/
theorem Lt.back {T0 Fr0 H0 : Hp} {μ0 : List Addr} {s0 : Ss} {vs : List Nat} (S0 : Sim k T0 Fr0 μ0 s0 σ H0) (e : Same T0 T) (p : μ0 <+: μ) (hn : noOwn s0.r vs = true) (L : Lt k T Fr μ { s with r := nR s.r vs } (L2.wipe σ vs) H D acc) :
    Sim k T Fr μ { s with r := backR s0.r s.r vs } σ H ∧ Fresh k T Fr μ { s with r := backR s0.r s.r vs } σ H acc (.ref D) := by
  obtain ⟨S, F⟩ := L
  have hl : s.r.length = s0.r.length := by
    have h1 := S.rlen
    rw [nR_length, wipe_length] at h1
    rw [S0.rlen]
    exact h1
  have get := fun j => backR_get s0.r s.r hl j vs
  have no : ∀ j ∈ vs, ∀ m, s0.r[j]? ≠ some (.own m) := fun j hj m e => by
    have := List.all_eq_true.mp hn j hj
    rw [e] at this
    cases this
  have wz : ∀ j, j ∉ vs → (L2.wipe σ vs)[j]? = σ[j]? := fun j hj => by rw [wipe_get, if_neg hj]
  have nz : ∀ j, j ∉ vs → (nR s.r vs)[j]? = s.r[j]? := fun j hj => by rw [nR_get, if_neg hj]
  refine ⟨⟨S.tH, S.fH, S.tF, S.len, S.cel, S.cnd, ?_, fun i w e1 => ?_, fun i l e1 => ?_⟩, ?_⟩
  · show (backR s0.r s.r vs).length = _
    rw [backR_length, hl, S0.rlen]
  · dsimp only at e1
    rw [get] at e1
    by_cases hi : i ∈ vs
    · rw [if_pos hi] at e1
      obtain ⟨v, q1, q2⟩ := S0.val i w e1
      exact ⟨v, q1, q2.mono e p⟩
    · rw [if_neg hi] at e1
      obtain ⟨v, q1, q2⟩ := S.val i w ((nz i hi).trans e1)
      exact ⟨v, (wz i hi).symm.trans q1, q2⟩
  · dsimp only at e1
    rw [get] at e1
    by_cases hi : i ∈ vs
    · rw [if_pos hi] at e1
      exact absurd e1 (no i hi l)
    · rw [if_neg hi] at e1
      obtain ⟨p, ws, u1, u2, u3, u4, u5, u6, u7⟩ := S.own i l ((nz i hi).trans e1)
      refine ⟨p, ws, (wz i hi).symm.trans u1, u2, u3, u4, u5, u6, fun j m e2 e3 => ?_⟩
      dsimp only at e2
      rw [get] at e2
      by_cases hj : j ∈ vs
      · rw [if_pos hj] at e2
        exact absurd e2 (no j hj m)
      · rw [if_neg hj] at e2
        exact u7 j m ((nz j hj).trans e2) ((wz j hj).trans e3)
  · obtain ⟨p, ws, u1, u2, u3, u4, u5, u6, u7⟩ := F
    refine ⟨p, ws, u1, u2, u3, u4, u5, u6, fun j m e2 e3 => ?_⟩
    dsimp only at e2
    rw [get] at e2
    by_cases hj : j ∈ vs
    · rw [if_pos hj] at e2
      exact absurd e2 (no j hj m)
    · rw [if_neg hj] at e2
      exact u7 j m ((nz j hj).trans e2) ((wz j hj).trans e3)
/-- a list that nothing else knows is written -/
theorem Lt.write {acc' : List Pc.D} {vs' : List V} (L : Lt k T Fr μ s σ H D acc) (h : Reps k T acc' vs') : Lt k T Fr μ s σ (upd H D (.lst vs')) D acc' := by
  obtain ⟨S, p, vs, u1, u2, u3, u4, u5, u6, u7⟩ := L
  cases u1
  have ne : ∀ {a : Addr}, a ≠ D → upd H D (.lst vs') a = H a := fun h => upd_ne h
  refine ⟨⟨fun b u e => ?_, fun b u e => ?_, S.tF, S.len, fun n a c e1 e2 => ?_, S.cnd, S.rlen, S.val, fun i m e1 => ?_⟩, D, vs', rfl, upd_same, h, u4, u5, u6, u7⟩
  · rw [ne (fun z => by subst z; rw [u4] at e; cases e)]; exact S.tH _ _ e
  · rw [ne (fun z => by subst z; rw [u5] at e; cases e)]; exact S.fH _ _ e
  · obtain ⟨q1, q2, q3, q4⟩ := S.cel n a c e1 e2
    have ha : a ≠ D := fun z => by subst z; exact u6 n e1
    refine ⟨q1, q2, by rw [ne ha]; exact q3, ?_⟩
    exact CRep.mv (fun _ _ z => z) (fun u z => by rw [ne ha]; exact z) q4
  · obtain ⟨q, ws, z1, z2, z3, z4, z5, z6, z7⟩ := S.own i m e1
    have hq : q ≠ D := fun z => by subst z; exact u7 i m e1 z1
    exact ⟨q, ws, z1, by rw [ne hq]; exact z2, z3, z4, z5, z6, z7⟩
/-- an evaluation beside the new list, its outcome known -/
theorem rdL {α β : Type} {W : WX} {Rp : RpT α β} {f : Ss → Res α} {Q : β → Hp → Prop} {a : α} (L : Lt k T Fr μ s σ H D acc) (hf : f s = .ok a s')
    (h : ∀ T' μ' H' v, Same T T' → μ <+: μ' → Lt k T' Fr μ' s' σ H' D acc → (∃ Fr', Sim k T' Fr' μ' s' σ H' ∧ Rp T' Fr' μ' s' σ H' a v) → Q v H') : rd k W Rp f σ H Q := by
  obtain ⟨S, p, vs, u1, u2, u3, u4, u5, u6, u7⟩ := L
  cases u1
  refine ⟨T, upd Fr D (.lst vs), μ, s, S.lend u2 u4 u5 u6 u7, ?_⟩
  rw [hf]
  intro T' μ' H' v e1 p1 S1 r1
  obtain ⟨S2, q1, q2, q3, q4⟩ := S1.back u5
  exact h T' μ' H' v e1 p1 ⟨S2, D, vs, rfl, q1, u3.mono e1, q2, u5, q3, q4⟩ ⟨_, S1, r1⟩
end
def tpG : List Nat → TGs
  | [] => gNil
  | i :: l => gCons (gName i) (tpG l)
def tgG (k : Kx) : Tg → TG
  | .nm i => gName i
  | .tp l => gTup k.K l.length (tpG l)
def Tg.ix : Tg → List Nat
  | .nm i => [i]
  | .tp l => l
theorem wipe_set {σ : L2.St} {i : Nat} {v : Option V} {vs : List Nat} (h : i ∈ vs) : wipe (σ.set i v) vs = wipe σ vs := by
  refine List.ext_getElem? fun j => ?_
  rw [wipe_get, wipe_get]
  by_cases hj : j ∈ vs
  · simp only [hj, if_true]
    by_cases hi : i = j
    · subst hi
      rw [List.getElem?_set_self']
      cases σ[i]? <;> rfl
    · rw [List.getElem?_set_ne hi]
  · have hi : i ≠ j := fun z => hj (z ▸ h)
    simp only [hj, if_false]
    exact List.getElem?_set_ne hi
theorem tp_ok {k : Kx} {T Fr H : Hp} {μ : List Addr} : ∀ {l : List Nat} {xs : List Pc.D} {vs : List V} {s : Ss} {σ : L2.St}, Sim k T Fr μ s σ H → Reps k T xs vs → l.length = xs.length →
    ∃ σ', Sim k T Fr μ { s with r := (l.zip xs).foldl (fun r p => r.set p.1 (.w (.d p.2))) s.r } σ' H ∧ (∀ ws, (∀ i ∈ l, i ∈ ws) → wipe σ' ws = wipe σ ws) ∧ ∀ Q : L2.St → Hp → Prop, Q σ' H → tpG l vs σ H Q
  | [], [], vs, s, σ, S, r, _ => by
    cases (show vs = [] from r)
    exact ⟨σ, S, fun _ _ => rfl, fun Q q => ⟨rfl, q⟩⟩
  | i :: l, x :: xs, _, s, σ, S, r, hl => by
    obtain ⟨v, vs, rfl, h1, h2⟩ := r
    obtain ⟨σ', S', hw, hq⟩ := tp_ok (l := l) (xs := xs) (S.setW i (w := .d x) (v := v) h1) h2 (Nat.succ.inj hl)
    exact ⟨σ', S', fun ws hi => (hw ws fun j hj => hi j (List.mem_cons_of_mem _ hj)).trans (wipe_set (hi i List.mem_cons_self)), fun Q q => ⟨v, vs, rfl, hq Q q⟩⟩
theorem tg_ok {k : Kx} {T Fr H : Hp} {μ : List Addr} {s : Ss} {σ : L2.St} {d : Pc.D} {v : V} {r' : List Sl} (S : Sim k T Fr μ s σ H) (hr : Rep k T d v) : ∀ {tg : Tg}, bindG s.r tg d = some r' →
    ∃ σ', Sim k T Fr μ { s with r := r' } σ' H ∧ (∀ ws, (∀ i ∈ tg.ix, i ∈ ws) → wipe σ' ws = wipe σ ws) ∧ ∀ Q : L2.St → Hp → Prop, Q σ' H → tgG k tg v σ H Q
  | .nm i, h => by
    cases h
    exact ⟨_, S.setW i (w := .d d) (v := v) hr, fun ws hi => wipe_set (hi i List.mem_cons_self), fun Q q => q⟩
  | .tp l, h => by
    cases d with
    | tup xs =>
      simp only [bindG] at h
      by_cases hl : l.length = xs.length
      · rw [if_pos hl] at h
        cases h
        obtain ⟨a, vs, rfl, h1, h2⟩ := (show Rep k T (.tup xs) v from hr)
        obtain ⟨σ', S', hw, hq⟩ := tp_ok S h2 hl
        exact ⟨σ', S', hw, fun Q q => ⟨a, vs, rfl, sqT_same S.tH h1, by rw [h2.len, hl], hq Q q⟩⟩
      · rw [if_neg hl] at h
        cases h
    | _ => cases h
section
variable {t : Tb} {n : Nat} {M : Mc} {X : Cx}
def SG (t : Tb) (n : Nat) (M : Mc) (tg : Tg) (x : Expr) : Prop := ∀ X W, Ok t n M X W → PG X x (tgG (t.k X) tg)
def locB (M : Mc) (x : Str) : Bool :=
  match M.sc.names.lookup x with
  | some .local => true
  | some .cell => M.fn x
  | _ => false
theorem locB_ok {W : WX} (O : Ok t n M X W) {x : Str} (h : locB M x = true) : L2.Loc X.env.scope x ∧ (X.fn x = true ∨ X.env.scope.names.lookup x = some .local) := by
  unfold L2.Loc
  rw [O.sc]
  unfold locB at h
  split at h
  · exact ⟨.inl (by assumption), .inr (by assumption)⟩
  · exact ⟨.inr (by assumption), .inl (O.fn _ h)⟩
  · cases h
def tgB (M : Mc) (i : Nat) (x : Str) : Bool := decide (M.N[i]? = some x) && locB M x
theorem sg_nm {i : Nat} {x : Str} {p : Pos} (h : tgB M i x = true) : SG t n M (.nm i) (.Name x p) := fun X W O => by
  simp only [tgB, Bool.and_eq_true, decide_eq_true_eq] at h
  obtain ⟨h1, h2⟩ := locB_ok O h.2
  exact pg_name O.nd (by rw [O.N]; exact h.1) h1 h2
def tpB (M : Mc) : List Nat → List Expr → Bool
  | [], [] => true
  | i :: l, .Name x _ :: es => tgB M i x && tpB M l es
  | _, _ => false
theorem sgs {W : WX} (O : Ok t n M X W) : ∀ {l : List Nat} {es : List Expr}, tpB M l es = true → PGs X es (tpG l) ∧ (assignEach es X.env).length = l.length ∧ (assignEach es X.env).findIdx? (·.1) = none ∧ es.length = l.length
  | [], [], _ => ⟨pgs_nil, rfl, rfl, rfl⟩
  | i :: l, e :: es, h => by
    cases e with
    | Name x p =>
      simp only [tpB, Bool.and_eq_true] at h
      obtain ⟨h1, h2, h3, h4⟩ := sgs O h.2
      refine ⟨pgs_cons (sg_nm h.1 X W O) h1 rfl, ?_, ?_, congrArg Nat.succ h4⟩
      · show (assignEach es X.env).length + 1 = l.length + 1
        rw [h2]
      · show ((false, assign (.Name x p) X.env) :: assignEach es X.env).findIdx? (·.1) = none
        rw [List.findIdx?_cons, h3]
        rfl
    | _ => cases h
  | [], _ :: _, h => by cases h
  | _ :: _, [], h => by cases h
theorem sg_tp {l : List Nat} {es : List Expr} {j : Nat} {p : Pos} (h : tpB M l es = true) : SG t n M (.tp l) (.Tuple es j p) := fun X W O => by
  obtain ⟨h1, h2, h3, _⟩ := sgs O h
  exact pg_tup O.calm h1 h2 h3
structure Yl (k : Kx) (T : Hp) (l : List Pc.D) (J : L2.It) : Prop where
  stop : ∀ i H, Same T H → l.length ≤ i → J.stop i H
  go : ∀ i H, Same T H → i < l.length → J.go i H
  yl : ∀ i d x H H' T1 Fr μ s σ, Same T T1 → Sim k T1 Fr μ s σ H → l[i]? = some d → J.yld i H x H' → ∃ T2, Same T1 T2 ∧ Sim k T2 Fr μ s σ H' ∧ Rep k T2 d x
def rI (k : Kx) : RpT (List Pc.D) L2.It := fun T _ _ _ _ _ l J => Yl k T l J
def SI (t : Tb) (n : Nat) (M : Mc) (i : Pc.It) (tg x : Expr) : Prop := ∀ X W, Ok t n M X W → PI X tg x (rd (t.k X) W (rI (t.k X)) (evI (t.o n) i))
theorem PI.weak {X : Cx} {tg e : Expr} {t u : TI} (h : PI X tg e t) (k : ∀ σ H Q, u σ H Q → t σ H Q) : PI X tg e u := ⟨fun pins s σ H Q I q => h.run pins s σ H Q I (k σ H Q q)⟩
theorem yl_list {k : Kx} {T : Hp} {l : List Pc.D} {vs : List V} {a : Addr} (h1 : T a = some (.lst vs)) (h2 : Reps k T l vs) : Yl k T l (Itl k.K a) := by
  refine ⟨fun i H e hi => ⟨vs, .of (e _ _ h1), by rw [h2.len]; exact hi⟩, fun i H e hi => ?_, fun i d x H H' T1 Fr μ s σ e S hd y => ?_⟩
  · have hi' : i < vs.length := by rw [h2.len]; exact hi
    exact ⟨vs, vs[i], .of (e _ _ h1), List.getElem?_eq_getElem hi'⟩
  · obtain ⟨rfl, y⟩ := y
    obtain ⟨v, q1, q2⟩ := h2.get hd
    have := y vs (.of (S.tH _ _ (e _ _ h1)))
    rw [q1] at this
    cases this
    exact ⟨T1, same_refl _, S, q2.mono e⟩
theorem yl_tup {k : Kx} {T : Hp} {l : List Pc.D} {vs : List V} {a : Addr} (h1 : SqT k.K T a vs) (h2 : Reps k T l vs) : Yl k T l (Itt k.K a) := by
  refine ⟨fun i H e hi => ⟨vs, sqT_same e h1, by rw [h2.len]; exact hi⟩, fun i H e hi => ?_, fun i d x H H' T1 Fr μ s σ e S hd y => ?_⟩
  · have hi' : i < vs.length := by rw [h2.len]; exact hi
    exact ⟨vs, vs[i], sqT_same e h1, List.getElem?_eq_getElem hi'⟩
  · obtain ⟨rfl, y⟩ := y
    obtain ⟨v, q1, q2⟩ := h2.get hd
    have := y vs (sqT_same S.tH (sqT_same e h1))
    rw [q1] at this
    cases this
    exact ⟨T1, same_refl _, S, q2.mono e⟩
theorem yl_str {k : Kx} {T : Hp} {z : Str} : Yl k T (z.cps.toList.map fun c => .str ⟨#[c]⟩) (Its z) := by
  refine ⟨fun i H e hi => ?_, fun i H e hi => ?_, fun i d x H H' T1 Fr μ s σ e S hd y => ?_⟩
  · simpa [Its] using hi
  · simpa [Its] using hi
  · obtain ⟨rfl, c, hc, rfl⟩ := y
    rw [List.getElem?_map, Array.getElem?_toList, hc] at hd
    cases hd
    exact ⟨T1, same_refl _, S, rfl⟩
theorem yl_rng {k : Kx} {T : Hp} {lo : Int} {m : Nat} : Yl k T ((List.range m).map fun i => .int (lo + (i : Nat))) (Itr lo m) := by
  refine ⟨fun i H e hi => by simpa [Itr] using hi, fun i H e hi => by simpa [Itr] using hi, fun i d x H H' T1 Fr μ s σ e S hd y => ?_⟩
  obtain ⟨rfl, rfl⟩ := y
  rw [List.getElem?_map] at hd
  obtain ⟨j, hj, rfl⟩ := Option.map_eq_some_iff.mp hd
  obtain ⟨h1, h2⟩ := List.getElem?_eq_some_iff.mp hj
  simp at h2
  subst h2
  exact ⟨T1, same_refl _, S, rfl⟩
theorem yl_enum {k : Kx} {T : Hp} {l : List Pc.D} {vs : List V} {a : Addr} (h1 : T a = some (.lst vs) ) (h2 : Reps k T l vs) : Yl k T (enD l) (Ite k.K a) := by
  have hen : (enD l).length = l.length := by simp [enD]
  refine ⟨fun i H e hi => ⟨vs, .of (e _ _ h1), by rw [h2.len, ← hen]; exact hi⟩, fun i H e hi => ?_, fun i d x H H' T1 Fr μ s σ e S hd y => ?_⟩
  · have hi' : i < vs.length := by rw [h2.len, ← hen]; exact hi
    exact ⟨vs, vs[i], .of (e _ _ h1), List.getElem?_eq_getElem hi'⟩
  · obtain ⟨p, u, rfl, hp, rfl, y⟩ := y
    unfold enD at hd
    rw [List.getElem?_map, List.getElem?_zipIdx] at hd
    obtain ⟨pr, hj, rfl⟩ := Option.map_eq_some_iff.mp hd
    obtain ⟨z, hz, rfl⟩ := Option.map_eq_some_iff.mp hj
    obtain ⟨v, q1, q2⟩ := h2.get hz
    have := y vs (.of (S.tH _ _ (e _ _ h1)))
    rw [q1] at this
    cases this
    have e2 := upd_none (T := T1) (p := p) (o := .tup [.int (i : Nat), u]) (S.tn hp)
    refine ⟨_, e2, S.new hp, p, _, rfl, SqT.of upd_same, .cons (by simp [Rep]) (.one ((q2.mono e).mono e2))⟩
theorem yl_enumT {k : Kx} {T : Hp} {l : List Pc.D} {vs : List V} {a : Addr} (h1 : SqT k.K T a vs) (h2 : Reps k T l vs) : Yl k T (enD l) (IteT k.K a) := by
  have hen : (enD l).length = l.length := by simp [enD]
  refine ⟨fun i H e hi => ⟨vs, sqT_same e h1, by rw [h2.len, ← hen]; exact hi⟩, fun i H e hi => ?_, fun i d x H H' T1 Fr μ s σ e S hd y => ?_⟩
  · have hi' : i < vs.length := by rw [h2.len, ← hen]; exact hi
    exact ⟨vs, vs[i], sqT_same e h1, List.getElem?_eq_getElem hi'⟩
  · obtain ⟨p, u, rfl, hp, rfl, y⟩ := y
    unfold enD at hd
    rw [List.getElem?_map, List.getElem?_zipIdx] at hd
    obtain ⟨pr, hj, rfl⟩ := Option.map_eq_some_iff.mp hd
    obtain ⟨z, hz, rfl⟩ := Option.map_eq_some_iff.mp hj
    obtain ⟨v, q1, q2⟩ := h2.get hz
    have := y vs (sqT_same S.tH (sqT_same e h1))
    rw [q1] at this
    cases this
    have e2 := upd_none (T := T1) (p := p) (o := .tup [.int (i : Nat), u]) (S.tn hp)
    refine ⟨_, e2, S.new hp, p, _, rfl, SqT.of upd_same, .cons (by simp [Rep]) (.one ((q2.mono e).mono e2))⟩
theorem zp_get {l m : List Pc.D} : ∀ {i : Nat} {d : Pc.D}, (zpD l m)[i]? = some d → ∃ x y, l[i]? = some x ∧ m[i]? = some y ∧ d = .tup [x, y] := by
  induction l generalizing m with
  | nil => intro i d h; simp [zpD] at h
  | cons x l ih =>
    intro i d h
    cases m with
    | nil => simp [zpD] at h
    | cons y m =>
      cases i with
      | zero => simp [zpD] at h; exact ⟨x, y, rfl, rfl, h.symm⟩
      | succ i => exact ih (i := i) (by simpa [zpD] using h)
theorem zp_len {l m : List Pc.D} : (zpD l m).length = min l.length m.length := by
  induction l generalizing m with
  | nil => simp [zpD]
  | cons x l ih =>
    cases m with
    | nil => simp [zpD]
    | cons y m => simp [zpD, ih]
theorem yl_zip {k : Kx} {T : Hp} {l m : List Pc.D} {vs ws : List V} {a b : Addr} (h1 : T a = some (.lst vs)) (h2 : Reps k T l vs) (h3 : T b = some (.lst ws)) (h4 : Reps k T m ws) : Yl k T (zpD l m) (Itz k.K a b) := by
  have hl2 := h2.len
  have hl4 := h4.len
  refine ⟨fun i H e hi => ⟨vs, ws, .of (e _ _ h1), .of (e _ _ h3), ?_⟩, fun i H e hi => ?_, fun i d x H H' T1 Fr μ s σ e S hd y => ?_⟩
  · rw [zp_len] at hi; omega
  · rw [zp_len] at hi
    have hi1 : i < vs.length := by omega
    have hi2 : i < ws.length := by omega
    exact ⟨vs, ws, vs[i], ws[i], .of (e _ _ h1), .of (e _ _ h3), List.getElem?_eq_getElem hi1, List.getElem?_eq_getElem hi2⟩
  · obtain ⟨p, u, w, rfl, hp, rfl, y1, y2⟩ := y
    obtain ⟨z1, z2, hz1, hz2, rfl⟩ := zp_get hd
    obtain ⟨v1, q1, q2⟩ := h2.get hz1
    obtain ⟨v2, q3, q4⟩ := h4.get hz2
    have t1 := y1 vs (.of (S.tH _ _ (e _ _ h1)))
    have t2 := y2 ws (.of (S.tH _ _ (e _ _ h3)))
    rw [q1] at t1
    rw [q3] at t2
    cases t1
    cases t2
    have e2 := upd_none (T := T1) (p := p) (o := .tup [u, w]) (S.tn hp)
    exact ⟨_, e2, S.new hp, p, _, rfl, SqT.of upd_same, .cons ((q2.mono e).mono e2) (.one ((q4.mono e).mono e2))⟩
end
end Pc

set_option Elab.async false
set_option linter.all false
set_option maxRecDepth 100000
set_option maxHeartbeats 4000000
namespace Pc
open PySem L2
section
variable {t : Tb} {n : Nat} {M : Mc} {X : Cx}
theorem rep_top {k : Kx} {T : Hp} {l : List Pc.D} {v : V} (h : Rep k T (.lst l) v) : ∃ a vs, v = .ref a ∧ T a = some (.lst vs) ∧ Reps k T l vs := h
/-- a list, a tuple or a text is walked: which of the three is told ahead -/
inductive Sk where
  | l | t | s
theorem si_lst {a : Ex} {tg xa : Expr} (ha : SE t n M a xa) : (∀ X W, Ok t n M X W → PI X tg xa (rd (t.k X) W (fun T Fr μ s σ H (l : List Pc.D) J => Yl (t.k X) T l J) fun s => (ev (t.o n) a s).bind fun x s1 => match x with
    | .d (.lst m) => .ok m s1
    | _ => .stuck)) := fun X W O => by
  refine PI.weak (pi_list (ha X W O)) fun σ H Q ⟨T, Fr, μ, s, S, a⟩ => ?_
  refine rd_bind S a fun T1 μ1 H1 v w s1 e1 p1 S1 r1 a => ?_
  split at a
  · obtain ⟨b, vs, rfl, h1, h2⟩ := rep_top r1
    exact ⟨b, rfl, ⟨vs, .of (S1.tH _ _ h1)⟩, a.here S1 (yl_list h1 h2)⟩
  · exact a.elim
theorem si_tup {a : Ex} {tg xa : Expr} (ha : SE t n M a xa) : (∀ X W, Ok t n M X W → PI X tg xa (rd (t.k X) W (fun T Fr μ s σ H (l : List Pc.D) J => Yl (t.k X) T l J) fun s => (ev (t.o n) a s).bind fun x s1 => match x with
    | .d (.tup m) => .ok m s1
    | _ => .stuck)) := fun X W O => by
  refine PI.weak (pi_tup (ha X W O)) fun σ H Q ⟨T, Fr, μ, s, S, a⟩ => ?_
  refine rd_bind S a fun T1 μ1 H1 v w s1 e1 p1 S1 r1 a => ?_
  split at a
  · rename_i m
    obtain ⟨b, vs, rfl, h1, h2⟩ := (show Rep _ _ (.tup m) v from r1)
    exact ⟨b, rfl, ⟨vs, sqT_same S1.tH h1⟩, a.here S1 (yl_tup h1 h2)⟩
  · exact a.elim
theorem si_str {a : Ex} {tg xa : Expr} (ha : SE t n M a xa) : (∀ X W, Ok t n M X W → PI X tg xa (rd (t.k X) W (fun T Fr μ s σ H (l : List Pc.D) J => Yl (t.k X) T l J) fun s => (ev (t.o n) a s).bind fun x s1 => match x with
    | .d (.str z) => .ok (z.cps.toList.map fun c => .str ⟨#[c]⟩) s1
    | _ => .stuck)) := fun X W O => by
  refine PI.weak (pi_str (ha X W O)) fun σ H Q ⟨T, Fr, μ, s, S, a⟩ => ?_
  refine rd_bind S a fun T1 μ1 H1 v w s1 e1 p1 S1 r1 a => ?_
  split at a
  · rename_i z
    exact ⟨z, r1, a.here S1 yl_str⟩
  · exact a.elim
/-- which of three ways, the outcome known -/
theorem PI.cases {X : Cx} {tg e : Expr} {t1 t2 t3 u : TI} (h1 : PI X tg e t1) (h2 : PI X tg e t2) (h3 : PI X tg e t3) (k : ∀ σ H Q, u σ H Q → t1 σ H Q ∨ t2 σ H Q ∨ t3 σ H Q) : PI X tg e u :=
  ⟨fun pins s σ H Q I q => by
    rcases k σ H Q q with q | q | q
    · exact h1.run pins s σ H Q I q
    · exact h2.run pins s σ H Q I q
    · exact h3.run pins s σ H Q I q⟩
theorem si_sq {a : Ex} {tg xa : Expr} (ha : SE t n M a xa) : SI t n M (.sq a) tg xa := fun X W O => by
  refine PI.cases (si_lst ha X W O) (si_tup ha X W O) (si_str ha X W O) fun σ H Q ⟨T, Fr, μ, s, S, a⟩ => ?_
  unfold evI at a
  cases e : ev (t.o n) _ s with
  | stuck => rw [e] at a; exact a.elim
  | exc x s' => rw [e] at a; exact .inl ⟨T, Fr, μ, s, S, by dsimp only; rw [e]; exact a⟩
  | ok w s' =>
    rw [e] at a
    simp only [Res.bind] at a
    cases w with
    | d x =>
      simp only [] at a
      cases x with
      | lst l => exact .inl ⟨T, Fr, μ, s, S, by dsimp only; rw [e]; exact a⟩
      | tup l => exact .inr (.inl ⟨T, Fr, μ, s, S, by dsimp only; rw [e]; exact a⟩)
      | str z => exact .inr (.inr ⟨T, Fr, μ, s, S, by dsimp only; rw [e]; exact a⟩)
      | _ => exact a.elim
    | c _ => exact a.elim
    | b _ => exact a.elim
theorem star1 {e : Expr} (h : plainArg e = true) (env : Env) : starEach [e] env = [(false, eval e env)] := star_plain h [] env
theorem star2 {e f : Expr} (h : plainArg e = true) (h2 : plainArg f = true) (env : Env) : starEach [e, f] env = [(false, eval e env), (false, eval f env)] := by rw [star_plain h, star1 h2]
theorem rg_some {lo hi : Int} {l : List Pc.D} (h : rgD lo hi = some l) : (-(2 ^ 62) ≤ lo ∧ lo < 2 ^ 62 ∧ -(2 ^ 62) ≤ hi ∧ hi < 2 ^ 62) ∧ l = (List.range (hi - lo).toNat).map fun i => .int (lo + (i : Nat)) := by
  obtain ⟨h1, h2⟩ := optB_some h
  simp only [Bool.and_eq_true, decide_eq_true_eq] at h1
  exact ⟨⟨h1.1.1.1, h1.1.1.2, h1.1.2, h1.2⟩, h2.symm⟩
theorem si_rg1 {a : Ex} {tg xa : Expr} {p pos : Pos} (hx : glB M.sc "range" && t.free "range" && plainArg xa = true) (ha : SE t n M a xa) : SI t n M (.rg1 a) tg (.Call (.Name "range" p) [xa] [] pos) := fun X W O => by
  simp only [Bool.and_eq_true, decide_eq_true_eq] at hx
  refine PI.weak (pi_range1 (glB_ok O hx.1.1) (O.fr _ hx.1.2) (pa_cons (ha X W O) pa_nil (star_plain hx.2 _ _)) (star1 hx.2 _)) fun σ H Q ⟨T, Fr, μ, s, S, a⟩ => ?_
  unfold evI at a
  refine rd_bind S a fun T1 μ1 H1 v w s1 e1 p1 S1 r1 a => ?_
  split at a
  · rename_i j
    obtain ⟨l, hl, a1⟩ := Aft.of a
    clear a
    obtain ⟨h1, rfl⟩ := rg_some hl
    cases (show v = _ from r1)
    refine ⟨j, rfl, h1.2.2.1, h1.2.2.2, a1.here S1 ?_⟩
    have := yl_rng (k := t.k X) (T := T1) (lo := 0) (m := j.toNat)
    simpa [rI] using this
  · exact a.elim
theorem si_rg2 {a b : Ex} {tg xa xb : Expr} {p pos : Pos} (hx : glB M.sc "range" && t.free "range" && plainArg xa && plainArg xb = true) (ha : SE t n M a xa) (hb : SE t n M b xb) : SI t n M (.rg2 a b) tg (.Call (.Name "range" p) [xa, xb] [] pos) := fun X W O => by
  simp only [Bool.and_eq_true, decide_eq_true_eq] at hx
  obtain ⟨⟨⟨x1, x2⟩, x3⟩, x4⟩ := hx
  refine PI.weak (pi_range2 (glB_ok O x1) (O.fr _ x2) (pa_cons (ha X W O) (pa_cons (hb X W O) pa_nil (star_plain x4 _ _)) (star_plain x3 _ _)) (star2 x3 x4 _) (star1 x4 _)) fun σ H Q ⟨T, Fr, μ, s, S, a⟩ => ?_
  unfold evI at a
  refine rd_bind S a fun T1 μ1 H1 v w s1 e1 p1 S1 r1 a => rd_bind S1 a fun T2 μ2 H2 v2 w2 s2 e2 p2 S2 r2 a => ?_
  split at a
  · rename_i i j _
    obtain ⟨l, hl, a1⟩ := Aft.of a
    clear a
    obtain ⟨h1, rfl⟩ := rg_some hl
    cases (show v = _ from r1)
    cases (show v2 = _ from r2)
    exact ⟨i, j, rfl, h1, a1.here S2 (yl_rng (k := t.k X) (T := T2) (lo := i) (m := (j - i).toNat))⟩
  · exact a.elim
theorem si_en {a : Ex} {elts : List Expr} {kk : Nat} {tp : Pos} {xa : Expr} {p pos : Pos} (hx : glB M.sc "enumerate" && t.free "enumerate" && plainArg xa = true) (ha : SE t n M a xa) : SI t n M (.en a) (.Tuple elts kk tp) (.Call (.Name "enumerate" p) [xa] [] pos) := fun X W O => by
  simp only [Bool.and_eq_true, decide_eq_true_eq] at hx
  refine PI.weak (pi_enumA (glB_ok O hx.1.1) (O.fr _ hx.1.2) (pa_cons (ha X W O) pa_nil (star_plain hx.2 _ _)) (star1 hx.2 _)) fun σ H Q ⟨T, Fr, μ, s, S, a⟩ => ?_
  unfold evI at a
  refine rd_bind S a fun T1 μ1 H1 v w s1 e1 p1 S1 r1 a => ?_
  split at a
  · obtain ⟨b, vs, rfl, h1, h2⟩ := rep_top r1
    exact .inl ⟨b, vs, rfl, .of (S1.tH _ _ h1), a.here S1 (yl_enum h1 h2)⟩
  · obtain ⟨b, vs, rfl, h1, h2⟩ := r1
    exact .inr ⟨b, vs, rfl, sqT_same S1.tH h1, a.here S1 (yl_enumT h1 h2)⟩
  · exact a.elim
theorem si_zp {a b : Ex} {elts : List Expr} {kk : Nat} {tp : Pos} {xa xb : Expr} {p pos : Pos} (hx : glB M.sc "zip" && t.free "zip" && plainArg xa && plainArg xb = true) (ha : SE t n M a xa) (hb : SE t n M b xb) : SI t n M (.zp a b) (.Tuple elts kk tp) (.Call (.Name "zip" p) [xa, xb] [] pos) := fun X W O => by
  simp only [Bool.and_eq_true, decide_eq_true_eq] at hx
  obtain ⟨⟨⟨x1, x2⟩, x3⟩, x4⟩ := hx
  refine PI.weak (RZ.pi_zipA (glB_ok O x1) (O.fr _ x2) (pa_cons (ha X W O) (pa_cons (hb X W O) pa_nil (star_plain x4 _ _)) (star_plain x3 _ _)) (star_plain x3 _ _) (by rw [star1 x4]; rfl)) fun σ H Q ⟨T, Fr, μ, s, S, a⟩ => ?_
  unfold evI at a
  refine rd_bind S a fun T1 μ1 H1 v w s1 e1 p1 S1 r1 a => rd_bind S1 a fun T2 μ2 H2 v2 w2 s2 e2 p2 S2 r2 a => ?_
  split at a
  · obtain ⟨b, vs, rfl, h1, h2⟩ := rep_top (r1.mono e2 p2)
    obtain ⟨c, ws, rfl, h3, h4⟩ := rep_top r2
    exact ⟨b, c, vs, ws, rfl, .inl ⟨.of (S2.tH _ _ h1), .of (S2.tH _ _ h3), a.here S2 (yl_zip h1 h2 h3 h4)⟩⟩
  · exact a.elim
abbrev noW : WX := fun _ _ _ _ => False
def blkSc (sc scope : Scope) : Scope := { scope with names := scope.names.map fun (n, k) => if (k == .free && sc.kind == .function && sc.names.lookup n == some .cell) then (n, .cell) else (n, k) }
def blkM (M : Mc) (scope : Scope) : Mc := ⟨M.N, blkSc M.sc scope, fun x => scope.names.lookup x == some .cell⟩
theorem Ok.blk {W : WX} (O : Ok t n M X W) (s : Shared) (H : Hp) (scope : Scope) (cl : List (Str × Addr)) (C : Addr) (fp : List Addr) : Ok t n (blkM M scope) (X.blk s H scope (compEnvC scope cl C X.env) fp) noW :=
  ⟨O.N, by show relabel scope X.env = blkSc M.sc scope; rw [← O.sc]; rfl, fun _ h => h, O.fr, O.co, O.room, O.nd, O.calm, fun u s' ⟨_, _, _, _, _, _, _, _, _, _, _, _, _, _, _, _, w⟩ => w, O.fns, O.cls, O.sta, O.clt, O.xcs⟩
def STs (t : Tb) (n : Nat) (M : Mc) (ts : Tes) (xs : List Expr) : Prop := ∀ X W, Ok t n M X W → PTs X xs (rd (t.k X) W rB (evTs (t.o n) true ts))
theorem PTs.weak {X : Cx} {e : List Expr} {t u : TT} (h : PTs X e t) (k : ∀ σ H Q, u σ H Q → t σ H Q) : PTs X e u := ⟨fun pins s σ H Q I q => h.run pins s σ H Q I (k σ H Q q)⟩
theorem sts_nil : STs t n M .nil [] := fun X W O => PTs.weak pts_nil fun σ H Q ⟨T, Fr, μ, s, S, a⟩ => by unfold evTs at a; exact a.here S rfl
theorem sts_one {c : Te} {xc : Expr} (h : ST t n M c xc) : STs t n M (.cons c .nil) [xc] := fun X W O => by
  refine PTs.weak (pts_one (h X W O)) fun σ H Q ⟨T, Fr, μ, s, S, a⟩ => ?_
  unfold evTs at a
  refine rd_bind S a fun T1 μ1 H1 v w s1 e1 p1 S1 r1 a => ?_
  cases (show w = v from r1)
  unfold evTs at a
  split at a
  · rename_i h
    rw [← beq_iff_eq.mp h] at a
    exact a.here S1 rfl
  · exact a.here S1 rfl
/-- a loop beside the new list -/
theorem comp_run {k : Kx} {T0 Fr : Hp} {μ0 : List Addr} {l : List Pc.D} {J : L2.It} {f : Pc.D → List Pc.D → Ss → Res (List Pc.D)} {vs : List Nat} {σw : L2.St} {D : Addr} {Post : Hp → Prop} {B : V → Hp → (Hp → Prop) → Prop} {accE : List Pc.D} {sE : Ss} (Y : Yl k T0 l J)
    (step : ∀ d acc s acc' s' T μ H v Nx, Same T0 T → μ0 <+: μ → f d acc s = .ok acc' s' → Rep k T d v → Lt k T Fr μ { s with r := nR s.r vs } σw H D acc →
      (∀ T' μ' H', Same T T' → μ <+: μ' → Lt k T' Fr μ' { s' with r := nR s'.r vs } σw H' D acc' → Nx H') → B v H Nx)
    (post : ∀ T μ H, Same T0 T → μ0 <+: μ → Lt k T Fr μ { sE with r := nR sE.r vs } σw H D accE → Post H) {acc : List Pc.D} {s : Ss} {T : Hp} {μ : List Addr} {H : Hp} (e0 : Same T0 T) (p0 : μ0 <+: μ)
    (L : Lt k T Fr μ { s with r := nR s.r vs } σw H D acc) (h : comp f l acc s = .ok accE sE) :
    ∃ W : Nat → Nat → Hp → Prop, (∃ m, W 0 m H) ∧ ∀ i m H, W i m H → (J.stop i H ∧ Post H) ∨ (J.go i H ∧ ∃ Nx : Hp → Prop, (∀ H', Nx H' → ∃ m', m' < m ∧ W (i + 1) m' H') ∧ ∀ x H', J.yld i H x H' → B x H' Nx) := by
  refine ⟨fun i m H => m = l.length - i ∧ i ≤ l.length ∧ ∃ T μ s acc, Same T0 T ∧ μ0 <+: μ ∧ Lt k T Fr μ { s with r := nR s.r vs } σw H D acc ∧ comp f (l.drop i) acc s = .ok accE sE, ⟨l.length, by simp, Nat.zero_le _, T, μ, s, acc, e0, p0, L, by simpa using h⟩, ?_⟩
  rintro i m H ⟨rfl, hi, T, μ, s, acc, e1, p1, L, h⟩
  by_cases hlt : i < l.length
  · refine .inr ⟨Y.go i H (e1.trans L.1.tH) hlt, fun H' => ∃ T μ s acc, Same T0 T ∧ μ0 <+: μ ∧ Lt k T Fr μ { s with r := nR s.r vs } σw H' D acc ∧ comp f (l.drop (i + 1)) acc s = .ok accE sE,
      fun H' w => ⟨l.length - (i + 1), by omega, rfl, hlt, w⟩, fun x H' y => ?_⟩
    rw [List.drop_eq_getElem_cons hlt] at h
    unfold comp at h
    split at h
    · rename_i acc' s' hf
      -- the source's step beside the lent list
      obtain ⟨S, p, ws, u1, u2, u3, u4, u5, u6, u7⟩ := L
      cases u1
      obtain ⟨T2, e2, S2, r2⟩ := Y.yl i l[i] x H H' T (upd Fr D (.lst ws)) μ _ _ e1 (S.lend u2 u4 u5 u6 u7) (List.getElem?_eq_getElem hlt) y
      obtain ⟨S3, q1, q2, q3, q4⟩ := S2.back u5
      exact step l[i] acc s acc' s' T2 μ H' x _ (e1.trans e2) p1 hf r2 ⟨S3, D, ws, rfl, q1, u3.mono e2, q2, u5, q3, q4⟩ fun T' μ' H'' e3 p3 L' => ⟨T', μ', s', acc', (e1.trans e2).trans e3, p1.trans p3, L', h⟩
    · cases h
  · have e : i = l.length := by omega
    subst e
    rw [List.drop_length] at h
    unfold comp at h
    cases h
    exact .inl ⟨Y.stop _ H (e1.trans L.1.tH) (Nat.le_refl _), post T μ H e1 p1 L⟩
theorem bind_ok {α β : Type} {r : Res α} {g : α → Ss → Res β} {b : β} {s' : Ss} (h : r.bind g = .ok b s') : ∃ a s1, r = .ok a s1 ∧ g a s1 = .ok b s' := by
  cases r with
  | ok a s1 => exact ⟨a, s1, rfl, h⟩
  | exc x s1 => cases h
  | stuck => cases h
/-- the last clause's item -/
theorem elem_ok {W : WX} {k : Kx} {o : Or} {e : Ex} {acc acc' : List Pc.D} {s s' : Ss} {T Fr H : Hp} {μ : List Addr} {σ : L2.St} {D : Addr} {Nx : Hp → Prop} (h : ((ev o e s).bind fun y s5 => addD acc y s5) = .ok acc' s') (L : Lt k T Fr μ s σ H D acc)
    (hN : ∀ T' μ' H', Same T T' → μ <+: μ' → Lt k T' Fr μ' s' σ H' D acc' → Nx H') : rd k W (rE k) (ev o e) σ H fun y H4 => ∃ vs, H4 D = some (.lst vs) ∧ vs.length < sizeLine ∧ Nx (upd H4 D (.lst (vs ++ [y]))) := by
  obtain ⟨y, s5, h1, h2⟩ := bind_ok h
  refine rdL L h1 fun T' μ' H' v e1 p1 L' ⟨_, S', r1⟩ => ?_
  unfold addD at h2
  split at h2
  · rename_i d
    split at h2
    · rename_i hz
      cases h2
      obtain ⟨S, p, vs, u1, u2, u3, u4⟩ := id L'
      cases u1
      exact ⟨vs, u2, by rw [u3.len]; exact hz, hN _ _ _ e1 p1 (L'.write (u3.app (.one r1)))⟩
    · cases h2
  · cases h2
def subB (l vs : List Nat) : Bool := l.all fun i => vs.contains i
theorem subB_ok {l vs : List Nat} (h : subB l vs = true) : ∀ i ∈ l, i ∈ vs := fun i hi => by
  have := List.all_eq_true.mp h i hi
  simpa using this
def foldB : Expr → Bool
  | .Set _ _ _ => false
  | _ => true
theorem fold_of {e : Expr} (h : foldB e = true) (env : Env) (x : Value) : foldedSetIterable e env x = pure x := by
  cases e <;> first | rfl | cases h
theorem comp_noexc {x : Pc.D} {s2 : Ss} {f : Pc.D → List Pc.D → Ss → Res (List Pc.D)} : ∀ {l acc : List Pc.D} {s1 : Ss}, comp f l acc s1 ≠ .exc x s2
  | [], acc, s1, h => by cases h
  | y :: l, acc, s1, h => by
    unfold comp at h
    split at h
    · exact comp_noexc h
    · cases h
/-- one turn of a clause -/
theorem turn_ok {k : Kx} {tg : Tg} {vs : List Nat} {o : Or} {ifs : Tes} {fe : List Pc.D → Ss → Res (List Pc.D)} {d : Pc.D} {acc acc' : List Pc.D} {s s' : Ss} {T Fr H : Hp} {μ : List Addr} {σ : L2.St} {D : Addr} {v : V} {Nx : Hp → Prop} {te : L2.St → Hp → Prop} (x3 : subB tg.ix vs = true)
    (hf : turnC tg vs (evTs o true ifs) fe d acc s = .ok acc' s') (hr : Rep k T d v) (L : Lt k T Fr μ { s with r := nR s.r vs } (wipe σ vs) H D acc)
    (hN : ∀ T' μ' H', Same T T' → μ <+: μ' → Lt k T' Fr μ' { s' with r := nR s'.r vs } (wipe σ vs) H' D acc' → Nx H')
    (he : ∀ s4 σ2 T5 μ5 H5, Same T T5 → μ <+: μ5 → wipe σ2 vs = wipe σ vs → fe acc s4 = .ok acc' s' → Lt k T5 Fr μ5 s4 σ2 H5 D acc → te σ2 H5) :
    tgG k tg v (wipe σ vs) H fun σ2 H2 => wipe σ2 vs = wipe σ vs ∧ rd k noW rB (evTs o true ifs) σ2 H2 fun b H3 => if b = true then te σ2 H3 else Nx H3 := by
  unfold turnC at hf
  split at hf
  · cases hf
  · rename_i r3 hb
    obtain ⟨c, s4, h1, h2⟩ := bind_ok hf
    obtain ⟨S2, F2⟩ := L
    obtain ⟨p, ws, u1, u2, u3, u4, u5, u6, u7⟩ := F2
    cases u1
    obtain ⟨σ2, S3, hw, hq⟩ := tg_ok (S2.lend u2 u4 u5 u6 u7) hr hb
    obtain ⟨S4, q1, q2, q3, q4⟩ := S3.back u5
    have L4 : Lt k T Fr μ { s with r := r3 } σ2 H D acc := ⟨S4, D, ws, rfl, q1, u3, q2, u5, q3, q4⟩
    have hw2 : wipe σ2 vs = wipe σ vs := (hw vs (subB_ok x3)).trans (wipe_wipe fun _ h => h)
    refine hq _ ⟨hw2, rdL L4 h1 fun T5 μ5 H5 b e5 p5 L5 ⟨_, _, rb⟩ => ?_⟩
    cases (show c = b from rb)
    cases c with
    | true =>
      rw [if_pos rfl] at h2 ⊢
      exact he _ _ _ _ _ e5 p5 hw2 h2 L5
    | false =>
      rw [if_neg Bool.false_ne_true] at h2 ⊢
      cases h2
      exact hN T5 μ5 H5 e5 p5 (by have := L5.wipe vs; rw [hw2] at this; exact this)
theorem lc_tr {k : Kx} {W : WX} {o : Or} {tg : Tg} {i : Pc.It} {ifs : Tes} {e : Ex} {vs : List Nat} (x3 : subB tg.ix vs = true) : ∀ σ H Q, rd k W (rF k) (evF o (.lc tg i ifs e vs)) σ H Q →
    tLc (rd k W (rI k) (evI o i)) (tgG k tg) (rd k noW rB (evTs o true ifs)) (rd k noW (rE k) (ev o e)) vs σ H Q := fun σ H Q ⟨T, Fr, μ, s, S, a⟩ => by
  unfold evF at a
  refine rd_bind S a fun T1 μ1 H1 J l s1 e1 p1 S1 Y a => ?_
  split at a
  · rename_i hn
    intro D hD
    cases hc : comp (turnC tg vs (evTs o true ifs) (fun acc s4 => (ev o e s4).bind fun y s5 => addD acc y s5)) l [] s1 with
    | stuck => rw [hc] at a; exact a.elim
    | exc x s2 => exact absurd hc comp_noexc
    | ok accE sE =>
      rw [hc] at a
      have L0 : Lt k T1 Fr μ1 s1 σ (upd H1 D (.lst [])) D [] := ⟨S1.loose hD, S1.fresh hD .nil⟩
      refine comp_run (vs := vs) (B := fun x H' Nx => tgG k tg x (wipe σ vs) H' fun σ2 H2 => wipe σ2 vs = wipe σ vs ∧ rd k noW rB (evTs o true ifs) σ2 H2 fun b H3 =>
        if b = true then rd k noW (rE k) (ev o e) σ2 H3 fun y H4 => ∃ acc, H4 D = some (.lst acc) ∧ acc.length < sizeLine ∧ Nx (upd H4 D (.lst (acc ++ [y]))) else Nx H3) Y ?_ (fun T2 μ2 H2 e2 p2 L2 => ?_) (same_refl _) (List.prefix_refl _) (L0.wipe vs) hc
      · intro d acc s2 acc' s' T2 μ2 H2 v Nx e2 p2 hf hr L2 hN
        refine turn_ok (te := fun σ2 H3 => rd k noW (rE k) (ev o e) σ2 H3 fun y H4 => ∃ acc, H4 D = some (.lst acc) ∧ acc.length < sizeLine ∧ Nx (upd H4 D (.lst (acc ++ [y])))) x3 hf hr L2 hN fun s4 σ2 T5 μ5 H5 e5 p5 hw2 h2 L5 => ?_
        exact elem_ok h2 L5 fun T6 μ6 H6 e6 p6 L6 => hN T6 μ6 H6 (e5.trans e6) (p5.trans p6) (by have := L6.wipe vs; rw [hw2] at this; exact this)
      · obtain ⟨S3, F3⟩ := L2.back S1 e2 p2 hn
        exact a T2 μ2 H2 _ e2 p2 S3 F3
  · exact a.elim
theorem sf_lc {tg : Tg} {i : Pc.It} {ifs : Tes} {e : Ex} {vs : List Nat} {xt xi xe : Expr} {xifs : List Expr} {scope : Scope} {own : List (Str × Nat)} {pos : Pos}
    (hx : decide (vs = own.map (·.2)) && blkC M.N M.sc scope own && subB tg.ix vs && foldB xi = true) (hi : SI t n M i xt xi) (hg : SG t n (blkM M scope) tg xt) (ht : STs t n (blkM M scope) ifs xifs) (he : SE t n (blkM M scope) e xe) :
    SF t n M (.lc tg i ifs e vs) (.ListComp xe [⟨xt, xi, xifs, 0⟩] scope pos) := fun X W O => by
  simp only [Bool.and_eq_true, decide_eq_true_eq] at hx
  obtain ⟨⟨⟨x1, x2⟩, x3⟩, x4⟩ := hx
  subst x1
  have B := fun s H C cl fp => O.blk s H scope cl C fp
  have ok : BlkOk X.N X.env.scope scope own := by rw [O.N, O.sc]; exact blkOk_by x2
  exact PE.weak (pe_lc (g := tgG (t.k X) tg) (tt := rd (t.k X) noW rB (evTs (t.o n) true ifs)) (te := rd (t.k X) noW (rE (t.k X)) (ev (t.o n) e)) O.calm O.nd (hi X W O) ok (fun s H C cl fp => hg _ _ (B s H C cl fp)) (fun s H C cl fp => ht _ _ (B s H C cl fp)) (fun s H C cl fp => he _ _ (B s H C cl fp)) (fold_of x4 _)) (lc_tr x3)
theorem lc2_tr {k : Kx} {W : WX} {o : Or} {tg tg1 : Tg} {i i1 : Pc.It} {ifs ifs1 : Tes} {e : Ex} {vs vs1 : List Nat} (x3 : subB tg.ix vs = true) (x5 : subB tg1.ix vs1 = true) (x6 : subB vs1 vs = true) : ∀ σ H Q, rd k W (rF k) (evF o (.lc2 tg i ifs tg1 i1 ifs1 e vs vs1)) σ H Q →
    tLc2 (rd k W (rI k) (evI o i)) (tgG k tg) (rd k noW rB (evTs o true ifs)) (rd k noW (rI k) (evI o i1)) (tgG k tg1) (rd k noW rB (evTs o true ifs1)) (rd k noW (rE k) (ev o e)) vs vs1 σ H Q := fun σ H Q ⟨T, Fr, μ, s, S, a⟩ => by
  unfold evF at a
  refine rd_bind S a fun T1 μ1 H1 J l s1 e1 p1 S1 Y a => ?_
  split at a
  · rename_i hn
    intro D hD
    cases hc : comp (turnC tg vs (evTs o true ifs) (fun acc s4 => (evI o i1 s4).bind fun l1 s5 => comp (turnC tg1 vs1 (evTs o true ifs1) (fun acc s4 => (ev o e s4).bind fun y s5 => addD acc y s5)) l1 acc s5)) l [] s1 with
    | stuck => rw [hc] at a; exact a.elim
    | exc x s2 => exact absurd hc comp_noexc
    | ok accE sE =>
      rw [hc] at a
      have L0 : Lt k T1 Fr μ1 s1 σ (upd H1 D (.lst [])) D [] := ⟨S1.loose hD, S1.fresh hD .nil⟩
      refine comp_run (vs := vs) (B := fun x H' Nx => tgG k tg x (wipe σ vs) H' fun σ2 H2 => wipe σ2 vs = wipe σ vs ∧ rd k noW rB (evTs o true ifs) σ2 H2 fun b H3 =>
        if b = true then rd k noW (rI k) (evI o i1) σ2 H3 fun J1 H4 => ∃ W1 : Nat → Nat → Hp → Prop, (∃ m, W1 0 m H4) ∧ ∀ j k' H, W1 j k' H →
          (J1.stop j H ∧ Nx H) ∨ (J1.go j H ∧ ∃ Nx1 : Hp → Prop, (∀ H', Nx1 H' → ∃ k'', k'' < k' ∧ W1 (j + 1) k'' H') ∧ ∀ x H', J1.yld j H x H' → tgG k tg1 x (wipe σ2 vs1) H' fun σ3 H5 => wipe σ3 vs1 = wipe σ2 vs1 ∧ rd k noW rB (evTs o true ifs1) σ3 H5 fun b H6 =>
            if b = true then rd k noW (rE k) (ev o e) σ3 H6 fun y H7 => ∃ acc, H7 D = some (.lst acc) ∧ acc.length < sizeLine ∧ Nx1 (upd H7 D (.lst (acc ++ [y]))) else Nx1 H6) else Nx H3) Y ?_ (fun T2 μ2 H2 e2 p2 L2 => ?_) (same_refl _) (List.prefix_refl _) (L0.wipe vs) hc
      · intro d acc s2 acc' s' T2 μ2 H2 v Nx e2 p2 hf hr L2 hN
        refine turn_ok (te := fun σ2 H3 => rd k noW (rI k) (evI o i1) σ2 H3 fun J1 H4 => ∃ W1 : Nat → Nat → Hp → Prop, (∃ m, W1 0 m H4) ∧ ∀ j k' H, W1 j k' H →
          (J1.stop j H ∧ Nx H) ∨ (J1.go j H ∧ ∃ Nx1 : Hp → Prop, (∀ H', Nx1 H' → ∃ k'', k'' < k' ∧ W1 (j + 1) k'' H') ∧ ∀ x H', J1.yld j H x H' → tgG k tg1 x (wipe σ2 vs1) H' fun σ3 H5 => wipe σ3 vs1 = wipe σ2 vs1 ∧ rd k noW rB (evTs o true ifs1) σ3 H5 fun b H6 =>
            if b = true then rd k noW (rE k) (ev o e) σ3 H6 fun y H7 => ∃ acc, H7 D = some (.lst acc) ∧ acc.length < sizeLine ∧ Nx1 (upd H7 D (.lst (acc ++ [y]))) else Nx1 H6)) x3 hf hr L2 hN fun s4 σ2 T5 μ5 H5 e5 p5 hw2 h2 L5 => ?_
        obtain ⟨l1, s5, h3, h4⟩ := bind_ok h2
        refine rdL L5 h3 fun T6 μ6 H6 J1 e6 p6 L6 ⟨_, _, Y1⟩ => ?_
        refine comp_run (vs := vs1) (B := fun x H' Nx1 => tgG k tg1 x (wipe σ2 vs1) H' fun σ3 H5 => wipe σ3 vs1 = wipe σ2 vs1 ∧ rd k noW rB (evTs o true ifs1) σ3 H5 fun b H6 =>
            if b = true then rd k noW (rE k) (ev o e) σ3 H6 fun y H7 => ∃ acc, H7 D = some (.lst acc) ∧ acc.length < sizeLine ∧ Nx1 (upd H7 D (.lst (acc ++ [y]))) else Nx1 H6) Y1 ?_ (fun T7 μ7 H7 e7 p7 L7 => ?_) (same_refl _) (List.prefix_refl _) (L6.wipe vs1) h4
        · intro d acc s2 acc' s' T7 μ7 H7 v Nx1 e7 p7 hf hr L7 hN1
          refine turn_ok (te := fun σ2 H3 => rd k noW (rE k) (ev o e) σ2 H3 fun y H4 => ∃ acc, H4 D = some (.lst acc) ∧ acc.length < sizeLine ∧ Nx1 (upd H4 D (.lst (acc ++ [y])))) x5 hf hr L7 hN1 fun s4 σ3 T8 μ8 H8 e8 p8 hw3 h2 L8 => ?_
          exact elem_ok h2 L8 fun T9 μ9 H9 e9 p9 L9 => hN1 T9 μ9 H9 (e8.trans e9) (p8.trans p9) (by have := L9.wipe vs1; rw [hw3] at this; exact this)
        · refine hN T7 μ7 H7 ((e5.trans e6).trans e7) ((p5.trans p6).trans p7) ?_
          have := L7.wipe vs
          dsimp only at this
          rw [nR_nR (subB_ok x6), wipe_wipe (subB_ok x6), hw2] at this
          exact this
      · obtain ⟨S3, F3⟩ := L2.back S1 e2 p2 hn
        exact a T2 μ2 H2 _ e2 p2 S3 F3
  · exact a.elim
theorem sf_lc2 {tg tg1 : Tg} {i i1 : Pc.It} {ifs ifs1 : Tes} {e : Ex} {vs vs1 : List Nat} {xt xi xt1 xi1 xe : Expr} {xifs xifs1 : List Expr} {scope : Scope} {own : List (Str × Nat)} {pos : Pos}
    (hx : decide (vs = own.map (·.2)) && blkC M.N M.sc scope own && subB tg.ix vs && foldB xi && subB tg1.ix vs1 && subB vs1 vs && foldB xi1 = true) (hi : SI t n M i xt xi) (hg : SG t n (blkM M scope) tg xt) (ht : STs t n (blkM M scope) ifs xifs)
    (hi1 : SI t n (blkM M scope) i1 xt1 xi1) (hg1 : SG t n (blkM M scope) tg1 xt1) (ht1 : STs t n (blkM M scope) ifs1 xifs1) (he : SE t n (blkM M scope) e xe) :
    SF t n M (.lc2 tg i ifs tg1 i1 ifs1 e vs vs1) (.ListComp xe [⟨xt, xi, xifs, 0⟩, ⟨xt1, xi1, xifs1, 0⟩] scope pos) := fun X W O => by
  simp only [Bool.and_eq_true, decide_eq_true_eq] at hx
  obtain ⟨⟨⟨⟨⟨⟨x1, x2⟩, x3⟩, x4⟩, x5⟩, x6⟩, x7⟩ := hx
  subst x1
  have B := fun s H C cl fp => O.blk s H scope cl C fp
  have ok : BlkOk X.N X.env.scope scope own := by rw [O.N, O.sc]; exact blkOk_by x2
  exact PE.weak (pe_lc2 (g := tgG (t.k X) tg) (tt := rd (t.k X) noW rB (evTs (t.o n) true ifs)) (wi1 := rd (t.k X) noW (rI (t.k X)) (evI (t.o n) i1)) (g1 := tgG (t.k X) tg1) (tt1 := rd (t.k X) noW rB (evTs (t.o n) true ifs1)) (te := rd (t.k X) noW (rE (t.k X)) (ev (t.o n) e)) O.calm O.nd (hi X W O) ok
    (subB_ok x6) (fun s H C cl fp => hg _ _ (B s H C cl fp)) (fun s H C cl fp => ht _ _ (B s H C cl fp)) (fun s H C cl fp => hi1 _ _ (B s H C cl fp)) (fun s H C cl fp => hg1 _ _ (B s H C cl fp)) (fun s H C cl fp => ht1 _ _ (B s H C cl fp)) (fun s H C cl fp => he _ _ (B s H C cl fp)) (fold_of x4 _) (fold_of x7)) (lc2_tr x3 x5 x6)
end
end Pc

set_option Elab.async false
set_option linter.all false
set_option maxRecDepth 100000
set_option maxHeartbeats 4000000
namespace Pc
open PySem L2
def EndS (k : Kx) (T : Hp) (μ : List Addr) (D : Ends) (σ : L2.St) (H : Hp) : Fl → Prop
  | .nx => D.nx σ H
  | .rt w => ∀ v, RepW k T μ w v → D.rt v H
  | .bk => D.bk σ H
  | .ct => D.ct σ H
def AftS (k : Kx) (T Fr : Hp) (μ : List Addr) (W : WX) (D : Ends) : Res Fl → Prop
  | .ok c s' => ∀ T' μ' σ' H', Same T T' → μ <+: μ' → Sim k T' Fr μ' s' σ' H' → EndS k T' μ' D σ' H' c
  | .exc x s' => ∀ T' μ' σ' H' C d, Same T T' → μ <+: μ' → Sim k T' Fr μ' s' σ' H' → ERep k T' x C d → W C (some d) σ' H'
  | .stuck => False
def rdS (k : Kx) (W : WX) (f : Ss → Res Fl) (D : Ends) (σ : L2.St) (H : Hp) : Prop := ∃ T Fr μ s, Sim k T Fr μ s σ H ∧ AftS k T Fr μ W D (f s)
section
variable {k : Kx} {T T' Fr : Hp} {μ μ' : List Addr} {W : WX} {D : Ends} {σ : L2.St} {s : Ss} {H : Hp} {α β : Type}
theorem AftS.mono {r : Res Fl} (h : AftS k T Fr μ W D r) (e : Same T T') (p : μ <+: μ') : AftS k T' Fr μ' W D r := by
  cases r with
  | ok a s' => exact fun T2 μ2 σ' H' e2 p2 => h T2 μ2 σ' H' (e.trans e2) (p.trans p2)
  | exc x s' => exact fun T2 μ2 σ' H' C d e2 p2 => h T2 μ2 σ' H' C d (e.trans e2) (p.trans p2)
  | stuck => exact h
theorem rds_bind {Rp : RpT α β} {f : Ss → Res α} {g : α → Ss → Res Fl} {Q1 : β → Hp → Prop} (S : Sim k T Fr μ s σ H) (ha : AftS k T Fr μ W D ((f s).bind g))
    (h : ∀ T' μ' H' v a s', Same T T' → μ <+: μ' → Sim k T' Fr μ' s' σ H' → Rp T' Fr μ' s' σ H' a v → AftS k T' Fr μ' W D (g a s') → Q1 v H') : rd k W Rp f σ H Q1 := by
  refine ⟨T, Fr, μ, s, S, ?_⟩
  cases e : f s with
  | ok a s' =>
    rw [e] at ha
    exact fun T2 μ2 H' v e2 p2 S2 r2 => h T2 μ2 H' v a s' e2 p2 S2 r2 (AftS.mono ha e2 p2)
  | exc x s' =>
    rw [e] at ha
    exact fun T2 μ2 H' C d e2 p2 S2 r2 => ha T2 μ2 σ H' C d e2 p2 S2 r2
  | stuck =>
    rw [e] at ha
    exact ha.elim
theorem AftS.nx (ha : AftS k T Fr μ W D (.ok .nx s)) (S : Sim k T Fr μ s σ H) : D.nx σ H := ha T μ σ H (same_refl _) (List.prefix_refl _) S
theorem AftS.rt {w : Pc.W} {v : V} (ha : AftS k T Fr μ W D (.ok (.rt w) s)) (S : Sim k T Fr μ s σ H) (r : RepW k T μ w v) : D.rt v H := ha T μ σ H (same_refl _) (List.prefix_refl _) S v r
end
section
variable {t : Tb} {n : Nat} {M : Mc} {X : Cx}
def SS (t : Tb) (n : Nat) (M : Mc) (a : Sx) (x : Stmt) : Prop := ∀ X W, Ok t n M X W → PassesOwn (model X.prog X.w) X.A X.env X.xe → PS X x (rdS (t.k X) W (ex1 (t.o n) a))
def SSs (t : Tb) (n : Nat) (M : Mc) (a : Sxs) (x : List Stmt) : Prop := ∀ X W, Ok t n M X W → PassesOwn (model X.prog X.w) X.A X.env X.xe → PSs X x (rdS (t.k X) W (exs (t.o n) a))
theorem not_b {w : Pc.W} (h : ¬ w.isB = true) : w.isB = false := by
  cases e : w.isB
  · rfl
  · exact absurd e h
/-- a list built where its name stands -/
def swD (sc : Scope) (v : Expr) (t : Str) (pos : Pos) : Bool :=
  match v with
  | .ListComp _ _ s _ | .SetComp _ _ s _ | .DictComp _ _ _ s _ => (if sc.kind.isAnnotationScope then ScopeKind.function else sc.kind) == .function && sc.names.lookup t == some .local && pos.line == v.pos.line && !(s.names.any fun (n, k) => n == t && (k == .local || k == .cell))
  | _ => false
theorem sw_eq {W : WX} (O : Ok t n M X W) (v : Expr) (x : Str) (p : Pos) (line : Nat) : swapsWith v (some (.Name x p)) line X.env = pure (swD M.sc v x p) := by
  rw [← O.sc]
  cases v <;> rfl
theorem ss_set {i : Nat} {e : Ex} {x : Str} {p pos : Pos} {xe : Expr} (hx : (tgB M i x && !(swD M.sc xe x p)) = true) (he : SE t n M e xe) : SS t n M (.set i e) (.Assign [.Name x p] xe pos) := fun X W O po => by
  simp only [tgB, Bool.and_eq_true, decide_eq_true_eq, Bool.not_eq_true'] at hx
  obtain ⟨⟨x1, x2⟩, x3⟩ := hx
  obtain ⟨h1, h2⟩ := locB_ok O x2
  refine PS.weak (ps_set O.nd (by rw [O.N]; exact x1) h1 (he X W O) (by rw [sw_eq O, x3]) h2) fun D σ H ⟨T, Fr, μ, s, S, a⟩ => ?_
  unfold ex1 at a
  refine rds_bind S a fun T1 μ1 H1 v w s1 e1 p1 S1 r1 a => ?_
  split at a
  · exact a.elim
  · rename_i hb
    exact a.nx (S1.setW i (RepR.w r1 (not_b hb)))
theorem ss_own {i : Nat} {f : Fx} {x : Str} {p pos : Pos} {xe : Expr} (hx : (tgB M i x && !(swD M.sc xe x p)) = true) (he : SF t n M f xe) : SS t n M (.own i f) (.Assign [.Name x p] xe pos) := fun X W O po => by
  simp only [tgB, Bool.and_eq_true, decide_eq_true_eq, Bool.not_eq_true'] at hx
  obtain ⟨⟨x1, x2⟩, x3⟩ := hx
  obtain ⟨h1, h2⟩ := locB_ok O x2
  refine PS.weak (ps_set O.nd (by rw [O.N]; exact x1) h1 (he X W O) (by rw [sw_eq O, x3]) h2) fun D σ H ⟨T, Fr, μ, s, S, a⟩ => ?_
  unfold ex1 at a
  exact rds_bind S a fun T1 μ1 H1 v w s1 e1 p1 S1 r1 a => a.nx (S1.setO i r1)
theorem ss_ownLc {j : Nat} {x : Str} {p spos : Pos} {tg : Tg} {i : Pc.It} {ifs : Tes} {e : Ex} {vs : List Nat} {xt xi xe : Expr} {xifs : List Expr} {scope : Scope} {own : List (Str × Nat)} {pos : Pos}
    (hx : decide (vs = own.map (·.2)) && blkC M.N M.sc scope own && subB tg.ix vs && foldB xi && decide (M.N[j]? = some x) && decide (M.sc.names.lookup x = some .local) && swD M.sc (.ListComp xe [⟨xt, xi, xifs, 0⟩] scope pos) x p = true) (hi : SI t n M i xt xi) (hg : SG t n (blkM M scope) tg xt) (ht : STs t n (blkM M scope) ifs xifs) (he : SE t n (blkM M scope) e xe) :
    SS t n M (.own j (.lc tg i ifs e vs)) (.Assign [.Name x p] (.ListComp xe [⟨xt, xi, xifs, 0⟩] scope pos) spos) := fun X W O po => by
  simp only [Bool.and_eq_true, decide_eq_true_eq] at hx
  obtain ⟨⟨⟨⟨⟨⟨x1, x2⟩, x3⟩, x4⟩, x5⟩, x6⟩, x7⟩ := hx
  subst x1
  have B := fun s H C cl fp => O.blk s H scope cl C fp
  have ok : BlkOk X.N X.env.scope scope own := by rw [O.N, O.sc]; exact blkOk_by x2
  refine PS.weak (ps_setLc (spos := spos) (g := tgG (t.k X) tg) (tt := rd (t.k X) noW rB (evTs (t.o n) true ifs)) (te := rd (t.k X) noW (rE (t.k X)) (ev (t.o n) e)) O.calm O.nd (by rw [O.N]; exact x5) (by rw [O.sc]; exact x6) (by rw [sw_eq O, x7]) (hi X W O) ok
    (fun s H C cl fp => hg _ _ (B s H C cl fp)) (fun s H C cl fp => ht _ _ (B s H C cl fp)) (fun s H C cl fp => he _ _ (B s H C cl fp)) (fold_of x4 _)) fun D σ H ⟨T, Fr, μ, s, S, a⟩ => ?_
  unfold ex1 at a
  exact lc_tr x3 σ H _ (rds_bind S a fun T1 μ1 H1 v w s1 e1 p1 S1 r1 a => a.nx (S1.setO j r1))
theorem ss_ownLc2 {j : Nat} {x : Str} {p spos : Pos} {tg tg1 : Tg} {i i1 : Pc.It} {ifs ifs1 : Tes} {e : Ex} {vs vs1 : List Nat} {xt xi xt1 xi1 xe : Expr} {xifs xifs1 : List Expr} {scope : Scope} {own : List (Str × Nat)} {pos : Pos}
    (hx : decide (vs = own.map (·.2)) && blkC M.N M.sc scope own && subB tg.ix vs && foldB xi && subB tg1.ix vs1 && subB vs1 vs && foldB xi1 && decide (M.N[j]? = some x) && decide (M.sc.names.lookup x = some .local) && swD M.sc (.ListComp xe [⟨xt, xi, xifs, 0⟩, ⟨xt1, xi1, xifs1, 0⟩] scope pos) x p = true) (hi : SI t n M i xt xi) (hg : SG t n (blkM M scope) tg xt) (ht : STs t n (blkM M scope) ifs xifs)
    (hi1 : SI t n (blkM M scope) i1 xt1 xi1) (hg1 : SG t n (blkM M scope) tg1 xt1) (ht1 : STs t n (blkM M scope) ifs1 xifs1) (he : SE t n (blkM M scope) e xe) :
    SS t n M (.own j (.lc2 tg i ifs tg1 i1 ifs1 e vs vs1)) (.Assign [.Name x p] (.ListComp xe [⟨xt, xi, xifs, 0⟩, ⟨xt1, xi1, xifs1, 0⟩] scope pos) spos) := fun X W O po => by
  simp only [Bool.and_eq_true, decide_eq_true_eq] at hx
  obtain ⟨⟨⟨⟨⟨⟨⟨⟨⟨x1, x2⟩, x3⟩, x4⟩, x5⟩, x6⟩, x7⟩, y1⟩, y2⟩, y3⟩ := hx
  subst x1
  have B := fun s H C cl fp => O.blk s H scope cl C fp
  have ok : BlkOk X.N X.env.scope scope own := by rw [O.N, O.sc]; exact blkOk_by x2
  refine PS.weak (ps_setLc2 (spos := spos) (g := tgG (t.k X) tg) (tt := rd (t.k X) noW rB (evTs (t.o n) true ifs)) (wi1 := rd (t.k X) noW (rI (t.k X)) (evI (t.o n) i1)) (g1 := tgG (t.k X) tg1) (tt1 := rd (t.k X) noW rB (evTs (t.o n) true ifs1)) (te := rd (t.k X) noW (rE (t.k X)) (ev (t.o n) e)) O.calm O.nd (by rw [O.N]; exact y1) (by rw [O.sc]; exact y2) (by rw [sw_eq O, y3]) (hi X W O) ok
    (subB_ok x6) (fun s H C cl fp => hg _ _ (B s H C cl fp)) (fun s H C cl fp => ht _ _ (B s H C cl fp)) (fun s H C cl fp => hi1 _ _ (B s H C cl fp)) (fun s H C cl fp => hg1 _ _ (B s H C cl fp)) (fun s H C cl fp => ht1 _ _ (B s H C cl fp)) (fun s H C cl fp => he _ _ (B s H C cl fp)) (fold_of x4 _) (fold_of x7)) fun D σ H ⟨T, Fr, μ, s, S, a⟩ => ?_
  unfold ex1 at a
  exact lc2_tr x3 x5 x6 σ H _ (rds_bind S a fun T1 μ1 H1 v w s1 e1 p1 S1 r1 a => a.nx (S1.setO j r1))
theorem sss_nil : SSs t n M .nil [] := fun X W O po => PSs.weak pss_nil fun D σ H ⟨T, Fr, μ, s, S, a⟩ => by unfold exs at a; exact a.nx S
theorem sss_cons {a : Sx} {r : Sxs} {x : Stmt} {xs : List Stmt} (h1 : SS t n M a x) (h2 : SSs t n M r xs) : SSs t n M (.cons a r) (x :: xs) := fun X W O po => by
  refine PSs.weak (pss_cons (h1 X W O po) (h2 X W O po)) fun D σ H ⟨T, Fr, μ, s, S, a⟩ => ?_
  unfold exs at a
  refine ⟨T, Fr, μ, s, S, ?_⟩
  cases e : ex1 (t.o n) _ s with
  | stuck => rw [e] at a; exact a.elim
  | exc x s' => rw [e] at a; exact a
  | ok c s' =>
    rw [e] at a
    simp only [Res.bind] at a
    cases c with
    | nx => exact fun T' μ' σ' H' e' p' S' => ⟨T', Fr, μ', s', S', AftS.mono a e' p'⟩
    | rt w => exact a
    | bk => exact a
    | ct => exact a
theorem ss_pas {p : Pos} : SS t n M .pas (.Pass p) := fun X W O po => PS.weak ps_pass fun D σ H ⟨T, Fr, μ, s, S, a⟩ => by unfold ex1 at a; exact a.nx S
theorem ss_brk {p : Pos} : SS t n M .brk (.Break p) := fun X W O po => PS.weak ps_break fun D σ H ⟨T, Fr, μ, s, S, a⟩ => by unfold ex1 at a; exact a T μ σ H (same_refl _) (List.prefix_refl _) S
theorem ss_cnt {p : Pos} : SS t n M .cnt (.Continue p) := fun X W O po => PS.weak ps_continue fun D σ H ⟨T, Fr, μ, s, S, a⟩ => by unfold ex1 at a; exact a T μ σ H (same_refl _) (List.prefix_refl _) S
theorem ss_retn {p : Pos} : SS t n M .retn (.Return none p) := fun X W O po => PS.weak ps_retN fun D σ H ⟨T, Fr, μ, s, S, a⟩ => by unfold ex1 at a; exact a.rt S rfl
theorem ss_ret {e : Ex} {xe : Expr} {p : Pos} (he : SE t n M e xe) : SS t n M (.ret e) (.Return (some xe) p) := fun X W O po => by
  refine PS.weak (ps_ret (he X W O)) fun D σ H ⟨T, Fr, μ, s, S, a⟩ => ?_
  unfold ex1 at a
  refine rds_bind S a fun T1 μ1 H1 v w s1 e1 p1 S1 r1 a => ?_
  split at a
  · exact a.elim
  · rename_i hb
    exact a.rt S1 (RepR.w r1 (not_b hb))
def noComp : Expr → Bool
  | .ListComp _ _ _ _ | .SetComp _ _ _ _ | .DictComp _ _ _ _ _ => false
  | _ => true
theorem sw_none {e : Expr} (h : noComp e = true) (tg : Option Expr) (line : Nat) (env : Env) : swapsWith e tg line env = pure false := by
  cases e <;> first | rfl | cases h
theorem ss_ex {e : Ex} {xe : Expr} {p : Pos} (hx : noComp xe = true) (he : SE t n M e xe) : SS t n M (.ex e) (.Expr xe p) := fun X W O po => by
  refine PS.weak (ps_expr (he X W O) (sw_none hx _ _ _)) fun D σ H ⟨T, Fr, μ, s, S, a⟩ => ?_
  unfold ex1 at a
  exact rds_bind S a fun T1 μ1 H1 v w s1 e1 p1 S1 r1 a => a.nx S1
theorem ss_if {c : Te} {b1 b2 : Sxs} {xc : Expr} {x1 x2 : List Stmt} {p : Pos} (hc : ST t n M c xc) (h1 : SSs t n M b1 x1) (h2 : SSs t n M b2 x2) : SS t n M (.ife c b1 b2) (.If xc x1 x2 p) := fun X W O po => by
  refine PS.weak (ps_if (hc X W O) (h1 X W O po) (h2 X W O po)) fun D σ H ⟨T, Fr, μ, s, S, a⟩ => ?_
  unfold ex1 at a
  refine rds_bind S a fun T1 μ1 H1 v w s1 e1 p1 S1 r1 a => ?_
  cases (show w = v from r1)
  cases v with
  | true => rw [if_pos rfl] at a ⊢; exact ⟨T1, Fr, μ1, s1, S1, a⟩
  | false => rw [if_neg Bool.false_ne_true] at a ⊢; exact ⟨T1, Fr, μ1, s1, S1, a⟩
theorem ss_for {tg : Tg} {i : Pc.It} {b : Sxs} {xt xi : Expr} {xb : List Stmt} {p : Pos} (hx : foldB xi = true) (hi : SI t n M i xt xi) (hg : SG t n M tg xt) (hb : SSs t n M b xb) : SS t n M (.for_ tg i b) (.For xt xi xb [] p) := fun X W O po => by
  refine PS.weak (ps_for po O.calm (hi X W O) (hg X W O) (hb X W O po) (fold_of hx _)) fun D σ H ⟨T, Fr, μ, s, S, a⟩ => ?_
  unfold ex1 at a
  refine rds_bind S a fun T1 μ1 H1 J l s1 e1 p1 S1 Y a => ?_
  generalize hf : (fun (x : Pc.D) (s : Ss) => match bindG s.r tg x with
    | some r => exs (t.o n) b { s with r := r }
    | none => .stuck) = f at a
  refine ⟨fun i m σ H => m = l.length - i ∧ i ≤ l.length ∧ ∃ T μ s, Same T1 T ∧ Sim (t.k X) T Fr μ s σ H ∧ AftS (t.k X) T Fr μ W D (forL f (l.drop i) s), ⟨l.length, by simp, Nat.zero_le _, T1, μ1, s1, same_refl _, S1, by simpa using a⟩, ?_⟩
  rintro i m σ H ⟨rfl, hi, T2, μ2, s2, e2, S2, a⟩
  by_cases hlt : i < l.length
  · refine .inr ⟨Y.go i H (e2.trans S2.tH) hlt, fun σ H => ∃ T μ s, Same T1 T ∧ Sim (t.k X) T Fr μ s σ H ∧ AftS (t.k X) T Fr μ W D (forL f (l.drop (i + 1)) s), fun σ' H' w => ⟨l.length - (i + 1), by omega, rfl, hlt, w⟩, fun x H' y => ?_⟩
    rw [List.drop_eq_getElem_cons hlt] at a
    unfold forL at a
    obtain ⟨T3, e3, S3, r3⟩ := Y.yl i l[i] x H H' T2 Fr μ2 s2 σ e2 S2 (List.getElem?_eq_getElem hlt) y
    have a := AftS.mono a e3 (List.prefix_refl _)
    subst hf
    dsimp only at a
    cases hb : bindG s2.r tg l[i] with
    | none => rw [hb] at a; exact a.elim
    | some r =>
      rw [hb] at a
      dsimp only at a
      obtain ⟨σ4, S4, _, hq⟩ := tg_ok S3 r3 hb
      refine hq _ ⟨T3, Fr, μ2, _, S4, ?_⟩
      cases e : exs (t.o n) b { s2 with r := r } with
      | stuck => rw [e] at a; exact a.elim
      | exc x s' => rw [e] at a; exact a
      | ok c s' =>
        rw [e] at a
        simp only [Res.bind] at a
        cases c with
        | nx => exact fun T' μ' σ' H' e' p' S' => ⟨T', μ', s', (e2.trans e3).trans e', S', AftS.mono a e' p'⟩
        | ct => exact fun T' μ' σ' H' e' p' S' => ⟨T', μ', s', (e2.trans e3).trans e', S', AftS.mono a e' p'⟩
        | bk => exact a
        | rt w => exact a
  · have e : i = l.length := by omega
    subst e
    rw [List.drop_length] at a
    unfold forL at a
    exact .inl ⟨Y.stop _ H (e2.trans S2.tH) (Nat.le_refl _), a.nx S2⟩
theorem ss_whl {m : Nat} {c : Te} {b : Sxs} {xc : Expr} {xb : List Stmt} {p : Pos} (hc : ST t n M c xc) (hb : SSs t n M b xb) : SS t n M (.whl m c b) (.While xc xb [] p) := fun X W O po => by
  refine PS.weak (ps_while po (hc X W O) (hb X W O po)) fun D σ H ⟨T, Fr, μ, s, S, a⟩ => ?_
  unfold ex1 at a
  refine ⟨fun m σ H => ∃ T μ s, Sim (t.k X) T Fr μ s σ H ∧ AftS (t.k X) T Fr μ W D (whlL (evT (t.o n) c) (exs (t.o n) b) m s), ⟨m, T, μ, s, S, a⟩, ?_⟩
  rintro m σ H ⟨T, μ, s, S, a⟩
  cases m with
  | zero => exact a.elim
  | succ m =>
    unfold whlL at a
    refine rds_bind S a fun T1 μ1 H1 v w s1 e1 p1 S1 r1 a => ?_
    cases (show w = v from r1)
    cases v with
    | false => rw [if_neg Bool.false_ne_true] at a ⊢; exact a.nx S1
    | true =>
      rw [if_pos rfl] at a ⊢
      refine ⟨fun σ H => ∃ T μ s, Sim (t.k X) T Fr μ s σ H ∧ AftS (t.k X) T Fr μ W D (whlL (evT (t.o n) c) (exs (t.o n) b) m s), fun σ' H' w => ⟨m, Nat.lt_succ_self m, w⟩, T1, Fr, μ1, s1, S1, ?_⟩
      cases e : exs (t.o n) b s1 with
      | stuck => rw [e] at a; exact a.elim
      | exc x s' => rw [e] at a; exact a
      | ok c s' =>
        rw [e] at a
        simp only [Res.bind] at a
        cases c with
        | nx => exact fun T' μ' σ' H' e' p' S' => ⟨T', μ', s', S', AftS.mono a e' p'⟩
        | ct => exact fun T' μ' σ' H' e' p' S' => ⟨T', μ', s', S', AftS.mono a e' p'⟩
        | bk => exact a
        | rt w => exact a
theorem ss_unp {tg : Tg} {e : Ex} {xt xe : Expr} {p : Pos} (hw : ∀ X W, Ok t n M X W → swapsWithSole [xt] xe p.line X.env = pure false ∧ swappedStores [xt] xe X.env = pure none ∧ (assignEach [xt] X.env).map (·.2) = [assign xt X.env]) (hg : SG t n M tg xt) (he : SE t n M e xe) : SS t n M (.unp tg e) (.Assign [xt] xe p) := fun X W O po => by
  obtain ⟨h1, h2, h3⟩ := hw X W O
  refine PS.weak (ps_asg (he X W O) (hg X W O) h1 h2 h3) fun D σ H ⟨T, Fr, μ, s, S, a⟩ => ?_
  unfold ex1 at a
  refine rds_bind S a fun T1 μ1 H1 v w s1 e1 p1 S1 r1 a => ?_
  split at a
  · rename_i x
    split at a
    · rename_i r hb
      obtain ⟨σ4, S4, _, hq⟩ := tg_ok S1 r1 hb
      exact hq _ (a.nx S4)
    · exact a.elim
  · exact a.elim
theorem ss_sset {c i e : Ex} {xc xi xe : Expr} {p1 p : Pos} (hx : (plainIxB xi && noComp xe) = true) (hc : SE t n M c xc) (hi : SE t n M i xi) (he : SE t n M e xe) : SS t n M (.sset c i e) (.Assign [.Subscript xc xi p1] xe p) := fun X W O po => by
  simp only [Bool.and_eq_true] at hx
  have ha : ∀ v, assign (.Subscript xc xi p1) X.env v = (do
      let ov ← holding [v] (eval xc X.env)
      let iv ← holding [v, ov] (eval xi X.env)
      standAt p1
      holding [v, ov, iv] (setItem ov iv v)
      release [v, ov, iv] []) := fun v => by
    cases xi <;> first | rfl | cases hx.1
  have h1 : (assignEach [.Subscript xc xi p1] X.env).map (·.2) = [assign (.Subscript xc xi p1) X.env] := rfl
  refine PS.weak (ps_asg (he X W O) (pg_sub (hc X W O) (hi X W O) set_list ha) (by unfold swapsWithSole; exact sw_none hx.2 _ _ _) (by cases xe <;> rfl) h1) fun D σ H ⟨T, Fr, μ, s, S, a⟩ => ?_
  unfold ex1 at a
  refine rds_bind S a fun T1 μ1 H1 v w s1 e1 p1 S1 r1 a1 => rds_bind S1 a1 fun T2 μ2 H2 v2 w2 s2 e2 p2 S2 r2 a2 => rds_bind S2 a2 fun T3 μ3 H3 v3 w3 s3 e3 p3 S3 r3 a3 => ?_
  clear a a1 a2
  revert a3
  intro a
  split at a
  · rename_i d l m hd hl hm
    cases dOf_some hd
    cases dOf_some hm
    cases (show v3 = _ from r3)
    obtain ⟨b, vs, rfl, g1, g2, g3, g4, g5⟩ := S3.getL (r2.mono e3 p3) hl
    split at a
    · rename_i j hj
      split at a
      · rename_i s4 hs
        exact ⟨b, vs, m, j, rfl, rfl, g1, by rw [g2.len, ← ixD_eq]; exact hj, a.nx (g5 _ _ _ (g2.set _ ((Rep.mono (e2.trans e3) r1))) hs)⟩
      · exact a.elim
    · exact a.elim
  · exact a.elim
theorem ip_mul (X : Cx) : PIp X .Mult (fun x y H Q => ∃ i j : Int, x = .int i ∧ y = .int j ∧ mulOk i j = true ∧ Q (.int (i * j)) H) := by
  intro pins s σ H x y v u Q I r1 r2 h
  obtain ⟨i, j, rfl, rfl, hm, q⟩ := h
  obtain ⟨t, rfl⟩ := r1
  obtain ⟨t', rfl⟩ := r2
  simp only [mulOk, Bool.or_eq_true, Bool.and_eq_true, decide_eq_true_eq] at hm
  exact PyProof.Rows.imul_int ⟨.int _, H, I.tok _, ⟨_, rfl⟩, q⟩ (show CMul i j from hm).ok
theorem ip_fdiv (X : Cx) : PIp X .FloorDiv (fun x y H Q => ∃ i j : Int, x = .int i ∧ y = .int j ∧ j ≠ 0 ∧ j.natAbs < 1073741824 ∧ Q (.int (i.fdiv j)) H) := by
  intro pins s σ H x y v u Q I r1 r2 h
  obtain ⟨i, j, rfl, rfl, h0, hm, q⟩ := h
  obtain ⟨t, rfl⟩ := r1
  obtain ⟨t', rfl⟩ := r2
  exact PyProof.Rows.ifloordiv_int h0 ⟨.int _, H, I.tok _, ⟨_, rfl⟩, q⟩ (.inl (PyProof.noPylong_small hm))
def rIpD (k : Kx) (f : Pc.D → Pc.D → Option Pc.D) : TIp := fun x y H Q => ∃ p q d, f p q = some d ∧ (∃ i j r : Int, p = .int i ∧ q = .int j ∧ d = .int r ∧ x = .int i ∧ y = .int j ∧ Q (.int r) H)
def augB : O2 → Operator → Bool
  | .add, .Add | .sub, .Sub | .mul, .Mult | .fdiv, .FloorDiv => true
  | _, _ => false
theorem PIp.weak {X : Cx} {op : Operator} {t u : TIp} (h : PIp X op t) (k : ∀ x y H Q, u x y H Q → t x y H Q) : PIp X op u := fun pins s σ H x y v w Q I r1 r2 q => h pins s σ H x y v w Q I r1 r2 (k _ _ _ _ q)
theorem ip_all {X : Cx} {k : Kx} {f : O2} {op : Operator} (h : augB f op = true) : PIp X op (rIpD k (opD f)) := by
  unfold augB at h
  split at h
  · exact PIp.weak ip_add fun x y H Q ⟨p, q, d, hf, i, j, r, e1, e2, e3, e4, e5, q'⟩ => by
      subst e1 e2 e3; cases hf; exact ⟨i, j, e4, e5, q'⟩
  · exact PIp.weak ip_sub fun x y H Q ⟨p, q, d, hf, i, j, r, e1, e2, e3, e4, e5, q'⟩ => by
      subst e1 e2 e3; cases hf; exact ⟨i, j, e4, e5, q'⟩
  · exact PIp.weak (ip_mul X) fun x y H Q ⟨p, q, d, hf, i, j, r, e1, e2, e3, e4, e5, q'⟩ => by
      subst e1 e2 e3
      obtain ⟨h1, h2⟩ := optB_some (show optB (mulOk i j) (Pc.D.int (i * j)) = some (.int r) from hf)
      cases h2
      exact ⟨i, j, e4, e5, h1, q'⟩
  · exact PIp.weak (ip_fdiv X) fun x y H Q ⟨p, q, d, hf, i, j, r, e1, e2, e3, e4, e5, q'⟩ => by
      subst e1 e2 e3
      obtain ⟨h1, h2⟩ := optB_some (show optB (decide (j ≠ 0) && decide (j.natAbs < 1073741824)) (Pc.D.int (i.fdiv j)) = some (.int r) from hf)
      cases h2
      simp only [Bool.and_eq_true, decide_eq_true_eq] at h1
      exact ⟨i, j, e4, e5, h1.1, h1.2, q'⟩
  · cases h
theorem op_int {f : O2} {p q d : Pc.D} (h : opD f p q = some d) {i : Int} (hp : p = .int i) : ∃ j r, q = .int j ∧ d = .int r := by
  subst hp
  cases f <;> cases q <;> simp only [opD] at h <;> first
    | (cases h; done)
    | (cases h; exact ⟨_, _, rfl, rfl⟩)
    | (obtain ⟨_, h2⟩ := optB_some h; exact ⟨_, _, rfl, h2.symm⟩)
theorem ss_aug {i : Nat} {f : O2} {e : Ex} {x : Str} {op : Operator} {p1 p : Pos} {xe : Expr} (hx : augB f op && tgB M i x = true) (he : SE t n M e xe) : SS t n M (.aug i f e) (.AugAssign (.Name x p1) op xe p) := fun X W O po => by
  simp only [tgB, Bool.and_eq_true, decide_eq_true_eq] at hx
  obtain ⟨x0, x1, x2⟩ := hx
  obtain ⟨h1, h2⟩ := locB_ok O x2
  refine PS.weak (ps_aug O.nd (by rw [O.N]; exact x1) h1 (he X W O) (ip_all (k := t.k X) x0) h2) fun D σ H ⟨T, Fr, μ, s, S, a⟩ => ?_
  unfold ex1 at a
  split at a
  · rename_i iv hd
    obtain ⟨v, q1, q2⟩ := S.val i _ hd
    cases (show v = .int iv from q2)
    refine ⟨_, q1, rds_bind S a fun T1 μ1 H1 v w s1 e1 p1 S1 r1 a1 => ?_⟩
    clear a
    revert a1
    intro a
    split at a
    · rename_i y hy
      cases dOf_some hy
      split at a
      · rename_i z hz
        obtain ⟨j, r, rfl, rfl⟩ := op_int hz rfl
        cases (show v = .int j from r1)
        exact ⟨_, _, _, hz, iv, j, r, rfl, rfl, rfl, rfl, rfl, a.nx (S1.setW i (w := .d (.int r)) rfl)⟩
      · exact a.elim
    · exact a.elim
  · exact a.elim
end
end Pc

set_option Elab.async false
set_option linter.all false
set_option maxRecDepth 100000
set_option maxHeartbeats 4000000
namespace Pc
open PySem L2
def OwnsNe (p : Addr) (l : List (Nat × Sl)) (vs : List V) : Prop := ∀ (j i : Nat) (m : List Pc.D), l[j]? = some (i, .own m) → vs[j]? ≠ some (.ref p)
def Rz (k : Kx) (T Fr : Hp) (μ : List Addr) (s : Ss) (σ : L2.St) (H : Hp) : List (Nat × Sl) → List V → Prop
  | [], vs => vs = []
  | (_, .w w) :: l, vs => ∃ v r, vs = v :: r ∧ RepW k T μ w v ∧ Rz k T Fr μ s σ H l r
  | (_, .own m) :: l, vs => ∃ p r, vs = .ref p :: r ∧ Fresh k T Fr μ s σ H m (.ref p) ∧ OwnsNe p l r ∧ Rz k T Fr μ s σ H l r
  | (_, .no) :: _, _ => False
def rRz (k : Kx) : RpT (List (Nat × Sl)) (List V) := fun T Fr μ s σ H l vs => Rz k T Fr μ s σ H l vs
theorem Rz.back {k : Kx} {T Fr H : Hp} {μ : List Addr} {s : Ss} {σ : L2.St} {p : Addr} {o : HO} (h4 : Fr p = none) : ∀ {l : List (Nat × Sl)} {vs : List V}, Rz k T (upd Fr p o) μ s σ H l vs → Rz k T Fr μ s σ H l vs ∧ OwnsNe p l vs
  | [], vs, h => ⟨h, fun j i m e => by simp at e⟩
  | (i, .w w) :: l, vs, h => by
    obtain ⟨v, r, rfl, h1, h2⟩ := h
    obtain ⟨q1, q2⟩ := Rz.back h4 h2
    refine ⟨⟨v, r, rfl, h1, q1⟩, fun j i' m e => ?_⟩
    cases j with
    | zero => simp at e
    | succ j => exact q2 j i' m (by simpa using e)
  | (i, .own m) :: l, vs, h => by
    obtain ⟨q, r, rfl, h1, h2, h3⟩ := h
    obtain ⟨q1, q2⟩ := Rz.back h4 h3
    obtain ⟨q', ws, e, u2, u3, u4, u5, u6, u7⟩ := h1
    cases e
    have hne : q ≠ p := fun z => by subst z; rw [upd_same] at u5; cases u5
    refine ⟨⟨q, r, rfl, ⟨q, ws, rfl, u2, u3, u4, by rw [upd_ne hne] at u5; exact u5, u6, u7⟩, h2, q1⟩, fun j i' m e => ?_⟩
    cases j with
    | zero => exact fun z => hne (by simpa using z)
    | succ j => exact q2 j i' m (by simpa using e)
  | (_, .no) :: _, _, h => h.elim
def setsV : L2.St → List (Nat × Sl) → List V → L2.St
  | σ, (i, _) :: l, v :: vs => setsV (σ.set i (some v)) l vs
  | σ, _, _ => σ
theorem Fresh.setW {k : Kx} {T Fr H : Hp} {μ : List Addr} {s : Ss} {σ : L2.St} {m : List Pc.D} {v u : V} {i : Nat} {w : Pc.W} (F : Fresh k T Fr μ s σ H m v) : Fresh k T Fr μ { s with r := s.r.set i (.w w) } (σ.set i (some u)) H m v := by
  obtain ⟨p, ws, e, u2, u3, u4, u5, u6, u7⟩ := F
  refine ⟨p, ws, e, u2, u3, u4, u5, u6, fun j m' e1 e2 => ?_⟩
  dsimp only at e1
  by_cases hj : i = j
  · subst hj
    rw [List.getElem?_set_self'] at e1
    cases hs : s.r[i]? <;> rw [hs] at e1 <;> cases e1
  · rw [List.getElem?_set_ne hj] at e1 e2
    exact u7 j m' e1 e2
theorem Fresh.setO {k : Kx} {T Fr H : Hp} {μ : List Addr} {s : Ss} {σ : L2.St} {m m2 : List Pc.D} {p q : Addr} {i : Nat} (F : Fresh k T Fr μ s σ H m (.ref q)) (hne : q ≠ p) : Fresh k T Fr μ { s with r := s.r.set i (.own m2) } (σ.set i (some (.ref p))) H m (.ref q) := by
  obtain ⟨q', ws, e, u2, u3, u4, u5, u6, u7⟩ := F
  cases e
  refine ⟨q, ws, rfl, u2, u3, u4, u5, u6, fun j m' e1 e2 => ?_⟩
  dsimp only at e1
  by_cases hj : i = j
  · subst hj
    rw [List.getElem?_set_self'] at e2
    cases hs : σ[i]? with
    | none => rw [hs] at e2; cases e2
    | some z => rw [hs] at e2; cases e2; exact hne rfl
  · rw [List.getElem?_set_ne hj] at e1 e2
    exact u7 j m' e1 e2
theorem Rz.setW {k : Kx} {T Fr H : Hp} {μ : List Addr} {s : Ss} {σ : L2.St} {u : V} {i : Nat} {w : Pc.W} : ∀ {l : List (Nat × Sl)} {vs : List V}, Rz k T Fr μ s σ H l vs → Rz k T Fr μ { s with r := s.r.set i (.w w) } (σ.set i (some u)) H l vs
  | [], _, h => h
  | (_, .w _) :: l, _, h => by
    obtain ⟨v, r, rfl, h1, h2⟩ := h
    exact ⟨v, r, rfl, h1, Rz.setW h2⟩
  | (_, .own _) :: l, _, h => by
    obtain ⟨p, r, rfl, h1, h2, h3⟩ := h
    exact ⟨p, r, rfl, h1.setW, h2, Rz.setW h3⟩
  | (_, .no) :: _, _, h => h.elim
theorem Rz.setO {k : Kx} {T Fr H : Hp} {μ : List Addr} {s : Ss} {σ : L2.St} {p : Addr} {m2 : List Pc.D} {i : Nat} : ∀ {l : List (Nat × Sl)} {vs : List V}, Rz k T Fr μ s σ H l vs → OwnsNe p l vs → Rz k T Fr μ { s with r := s.r.set i (.own m2) } (σ.set i (some (.ref p))) H l vs
  | [], _, h, _ => h
  | (_, .w _) :: l, _, h, hn => by
    obtain ⟨v, r, rfl, h1, h2⟩ := h
    exact ⟨v, r, rfl, h1, Rz.setO h2 fun j i m e => hn (j + 1) i m (by simpa using e)⟩
  | (_, .own _) :: l, _, h, hn => by
    obtain ⟨q, r, rfl, h1, h2, h3⟩ := h
    exact ⟨q, r, rfl, h1.setO fun z => hn 0 _ _ rfl (by simp [z]), h2, Rz.setO h3 fun j i m e => hn (j + 1) i m (by simpa using e)⟩
  | (_, .no) :: _, _, h, _ => h.elim
theorem sets_ok {k : Kx} {T Fr H : Hp} {μ : List Addr} : ∀ {l : List (Nat × Sl)} {vs : List V} {s : Ss} {σ : L2.St}, Sim k T Fr μ s σ H → Rz k T Fr μ s σ H l vs → Sim k T Fr μ { s with r := setsR s.r l } (setsV σ l vs) H
  | [], vs, s, σ, S, h => by
    cases (show vs = [] from h)
    exact S
  | (i, .w w) :: l, _, s, σ, S, h => by
    obtain ⟨v, r, rfl, h1, h2⟩ := h
    have := sets_ok (l := l) (s := { s with r := s.r.set i (.w w) }) (σ := σ.set i (some v)) (S.setW i h1) (Rz.setW h2)
    exact this
  | (i, .own m) :: l, _, s, σ, S, h => by
    obtain ⟨p, r, rfl, h1, h2, h3⟩ := h
    have := sets_ok (l := l) (s := { s with r := s.r.set i (.own m) }) (σ := σ.set i (some (.ref p))) (S.setO i h1) (Rz.setO h3 h2)
    exact this
  | (_, .no) :: _, _, _, _, _, h => h.elim
section
variable {t : Tb} {n : Nat} {M : Mc} {X : Cx}
def SRs (t : Tb) (n : Nat) (M : Mc) (l : List (Nat × Rh)) (xs : List Expr) : Prop := ∀ X W, Ok t n M X W → PA X xs (rd (t.k X) W (rRz (t.k X)) (evR (t.o n) l))
theorem srs_nil : SRs t n M [] [] := fun X W O => PA.weak pa_nil fun σ H Q ⟨T, Fr, μ, s, S, a⟩ => a.here S rfl
theorem srs_ex {i : Nat} {e : Ex} {l : List (Nat × Rh)} {xe : Expr} {xs : List Expr} (hp : plainArg xe = true) (he : SE t n M e xe) (hr : SRs t n M l xs) : SRs t n M ((i, .ex e) :: l) (xe :: xs) := fun X W O => by
  refine PA.weak (pa_cons (he X W O) (hr X W O) (star_plain hp _ _)) fun σ H Q ⟨T, Fr, μ, s, S, a⟩ => ?_
  unfold evR at a
  refine rd_bind S a fun T1 μ1 H1 x w1 s1 e1 p1 S1 r1 a1 => ?_
  clear a
  revert a1
  intro a
  split at a
  · exact a.elim
  · rename_i hb
    refine rd_bind S1 a fun T2 μ2 H2 ys ws s2 e2 p2 S2 r2 a => ?_
    exact a.here S2 ⟨x, ys, rfl, (RepR.w r1 (not_b hb)).mono e2 p2, r2⟩
theorem srs_ow {i : Nat} {f : Fx} {l : List (Nat × Rh)} {xe : Expr} {xs : List Expr} (hp : plainArg xe = true) (he : SF t n M f xe) (hr : SRs t n M l xs) : SRs t n M ((i, .ow f) :: l) (xe :: xs) := fun X W O => by
  refine PA.weak (pa_cons (he X W O) (hr X W O) (star_plain hp _ _)) fun σ H Q ⟨T, Fr, μ, s, S, a⟩ => ?_
  unfold evR at a
  refine rd_bind S a fun T1 μ1 H1 x d s1 e1 p1 S1 r1 a1 => ?_
  clear a
  obtain ⟨p, ws, rfl, u2, u3, u4, u5, u6, u7⟩ := (show Fresh _ _ _ _ _ _ _ _ _ from r1)
  refine ⟨T1, upd Fr p (.lst ws), μ1, s1, S1.lend u2 u4 u5 u6 u7, ?_⟩
  cases e : evR (t.o n) l s1 with
  | stuck => rw [e] at a1; exact a1.elim
  | exc x s' =>
    rw [e] at a1
    exact fun T2 μ2 H2 C dd e2 p2 S2 er => a1 T2 μ2 H2 C dd e2 p2 (S2.back u5).1 er
  | ok xs' s' =>
    rw [e] at a1
    intro T2 μ2 H2 vs e2 p2 S2 rz
    obtain ⟨S3, q1, q2, q3, q4⟩ := S2.back u5
    obtain ⟨z1, z2⟩ := Rz.back u5 rz
    exact a1 T2 μ2 H2 _ e2 p2 S3 ⟨p, vs, rfl, ⟨p, ws, rfl, q1, u3.mono e2, q2, u5, q3, q4⟩, z2, z1⟩
def bkS (sc : Scope) : ScopeKind := if sc.kind.isAnnotationScope then ScopeKind.function else sc.kind
def parC (sc : Scope) (ts vs : List Expr) : Option (Option (List Str)) :=
  if !(ts.length == 2 || ts.length == 3) || vs.length != ts.length || bkS sc != .function then some none else
  if vs.any fun | .Starred .. => true | _ => false then some none else
  let line := (ts.head?.map (·.pos.line)).getD 0
  let names := ts.filterMap fun
    | .Name id pos => if sc.names.lookup id == some .local && pos.line == line then some id else none
    | _ => none
  if names.length != ts.length || names.eraseDups.length != names.length then some none else
  if vs.all (foldedForSure 8) then some none else
  if vs.all (constantsAlone 8) then none else some (some names)
theorem par_eq {W : WX} (O : Ok t n M X W) {ts vs : List Expr} {k1 k2 : Nat} {p1 p2 : Pos} {r : Option (List Str)} (h : parC M.sc ts vs = some r) : swappedStores [.Tuple ts k1 p1] (.Tuple vs k2 p2) X.env = pure r := by
  rw [← O.sc] at h
  unfold parC at h
  show (if !(ts.length == 2 || ts.length == 3) || vs.length != ts.length || X.env.blockKind != .function then pure none else
    if vs.any fun | .Starred .. => true | _ => false then pure none else _ : Sem (Option (List Str))) = _
  split at h
  · rename_i h1
    cases h
    exact if_pos h1
  · rename_i h1
    refine (if_neg h1).trans ?_
    split at h
    · rename_i h2
      cases h
      exact if_pos h2
    · rename_i h2
      refine (if_neg h2).trans ?_
      dsimp only at h
      split at h
      · rename_i h3
        cases h
        exact if_pos h3
      · rename_i h3
        refine (if_neg h3).trans ?_
        split at h
        · rename_i h4
          cases h
          exact if_pos h4
        · rename_i h4
          refine (if_neg h4).trans ?_
          split at h
          · cases h
          · rename_i h5
            cases h
            exact if_neg h5
def locN (M : Mc) (i : Nat) (x : Str) : Bool := decide (M.N[i]? = some x) && decide (M.sc.names.lookup x = some .local)
theorem swTup {vs : List Expr} {k2 : Nat} {p2 : Pos} (tg : Expr) (line : Nat) (env : Env) : swapsWithSole [tg] (.Tuple vs k2 p2) line env = pure false := rfl
theorem rds_bindE {k : Kx} {T Fr H : Hp} {μ : List Addr} {W : WX} {D : Ends} {σ : L2.St} {s : Ss} {α β : Type} {Rp : RpT α β} {f : Ss → Res α} {g : α → Ss → Res Fl} {Q1 : β → Hp → Prop} (S : Sim k T Fr μ s σ H) (ha : AftS k T Fr μ W D ((f s).bind g))
    (h : ∀ T' μ' H' v a s', f s = .ok a s' → Same T T' → μ <+: μ' → Sim k T' Fr μ' s' σ H' → Rp T' Fr μ' s' σ H' a v → AftS k T' Fr μ' W D (g a s') → Q1 v H') : rd k W Rp f σ H Q1 := by
  refine ⟨T, Fr, μ, s, S, ?_⟩
  cases e : f s with
  | ok a s' =>
    rw [e] at ha
    exact fun T2 μ2 H' v e2 p2 S2 r2 => h T2 μ2 H' v a s' e e2 p2 S2 r2 (AftS.mono ha e2 p2)
  | exc x s' =>
    rw [e] at ha
    exact fun T2 μ2 H' C d e2 p2 S2 r2 => ha T2 μ2 σ H' C d e2 p2 S2 r2
  | stuck =>
    rw [e] at ha
    exact ha.elim
theorem evR_ix {o : Or} : ∀ {l : List (Nat × Rh)} {s s' : Ss} {xs : List (Nat × Sl)}, evR o l s = .ok xs s' → xs.map (·.1) = l.map (·.1)
  | [], s, s', xs, h => by cases h; rfl
  | (i, .ex e) :: l, s, s', xs, h => by
    unfold evR at h
    obtain ⟨w, s1, h1, h2⟩ := bind_ok h
    split at h2
    · cases h2
    · obtain ⟨ys, s2, h3, h4⟩ := bind_ok h2
      cases h4
      simp [evR_ix h3]
  | (i, .ow f) :: l, s, s', xs, h => by
    unfold evR at h
    obtain ⟨w, s1, h1, h2⟩ := bind_ok h
    obtain ⟨ys, s2, h3, h4⟩ := bind_ok h2
    cases h4
    simp [evR_ix h3]
theorem Rz.cons {k : Kx} {T Fr H : Hp} {μ : List Addr} {s : Ss} {σ : L2.St} {p : Nat × Sl} {l : List (Nat × Sl)} {vs : List V} (h : Rz k T Fr μ s σ H (p :: l) vs) : ∃ v r, vs = v :: r ∧ Rz k T Fr μ s σ H l r := by
  obtain ⟨i, x⟩ := p
  cases x with
  | no => exact h.elim
  | w w => obtain ⟨v, r, e, _, h2⟩ := h; exact ⟨v, r, e, h2⟩
  | own m => obtain ⟨p, r, e, _, _, h2⟩ := h; exact ⟨_, r, e, h2⟩
theorem map1 {α β : Type} {f : α → β} {l : List α} {b : β} {bs : List β} (h : l.map f = b :: bs) : ∃ a r, l = a :: r ∧ f a = b ∧ r.map f = bs := by
  cases l with
  | nil => cases h
  | cons a r => cases h; exact ⟨a, r, rfl, rfl, rfl⟩
theorem map0 {α β : Type} {f : α → β} {l : List α} (h : l.map f = []) : l = [] := by
  cases l with
  | nil => rfl
  | cons a r => cases h
theorem ss_par2 {i j : Nat} {r1 r2 : Rh} {x y : Str} {a b : Expr} {px py pt pv p : Pos} {kt kv : Nat} (hx : (locN M i x && locN M j y && decide (i ≠ j) && decide (parC M.sc [.Name x px, .Name y py] [a, b] = some (some [x, y]))) = true) (ha : SRs t n M [(i, r1), (j, r2)] [a, b]) :
    SS t n M (.par [(i, r1), (j, r2)]) (.Assign [.Tuple [.Name x px, .Name y py] kt pt] (.Tuple [a, b] kv pv) p) := fun X W O po => by
  simp only [locN, Bool.and_eq_true, decide_eq_true_eq] at hx
  obtain ⟨⟨⟨⟨x1, x2⟩, x3, x4⟩, x5⟩, x6⟩ := hx
  refine PS.weak (ps_par O.calm O.nd (by rw [O.N]; exact x1) (by rw [O.N]; exact x3) x5 (by rw [O.sc]; exact x2) (by rw [O.sc]; exact x4) (ha X W O) (par_eq O x6) (swTup _ _ _)) fun D σ H ⟨T, Fr, μ, s, S, a⟩ => ?_
  unfold ex1 at a
  refine rds_bindE S a fun T1 μ1 H1 vs l s1 e0 e1 p1 S1 rz a1 => ?_
  obtain ⟨⟨i', u1⟩, l1, rfl, q1, hl⟩ := map1 (evR_ix e0)
  obtain ⟨⟨j', u2⟩, l2, rfl, q2, hl⟩ := map1 hl
  cases map0 hl
  cases q1
  cases q2
  have S2 := sets_ok S1 rz
  obtain ⟨v1, vr1, rfl, rz1⟩ := Rz.cons rz
  obtain ⟨v2, vr2, rfl, rz2⟩ := Rz.cons rz1
  cases (show vr2 = [] from rz2)
  exact ⟨v1, v2, rfl, a1.nx S2⟩
theorem ss_par3 {i j l : Nat} {r1 r2 r3 : Rh} {x y z : Str} {a b c : Expr} {px py pz pt pv p : Pos} {kt kv : Nat} (hx : (locN M i x && locN M j y && locN M l z && decide (i ≠ j) && decide (i ≠ l) && decide (j ≠ l) && decide (parC M.sc [.Name x px, .Name y py, .Name z pz] [a, b, c] = some (some [x, y, z]))) = true) (ha : SRs t n M [(i, r1), (j, r2), (l, r3)] [a, b, c]) :
    SS t n M (.par [(i, r1), (j, r2), (l, r3)]) (.Assign [.Tuple [.Name x px, .Name y py, .Name z pz] kt pt] (.Tuple [a, b, c] kv pv) p) := fun X W O po => by
  simp only [locN, Bool.and_eq_true, decide_eq_true_eq] at hx
  obtain ⟨⟨⟨⟨⟨⟨⟨x1, x2⟩, x3, x4⟩, y1, y2⟩, x5⟩, y3⟩, y4⟩, x6⟩ := hx
  refine PS.weak (ps_par3 O.calm O.nd (by rw [O.N]; exact x1) (by rw [O.N]; exact x3) (by rw [O.N]; exact y1) x5 y3 y4 (by rw [O.sc]; exact x2) (by rw [O.sc]; exact x4) (by rw [O.sc]; exact y2) (ha X W O) (par_eq O x6) (swTup _ _ _)) fun D σ H ⟨T, Fr, μ, s, S, a⟩ => ?_
  unfold ex1 at a
  refine rds_bindE S a fun T1 μ1 H1 vs l s1 e0 e1 p1 S1 rz a1 => ?_
  obtain ⟨⟨i', u1⟩, l1, rfl, q1, hl⟩ := map1 (evR_ix e0)
  obtain ⟨⟨j', u2⟩, l2, rfl, q2, hl⟩ := map1 hl
  obtain ⟨⟨j', u3⟩, l3, rfl, q3, hl⟩ := map1 hl
  cases map0 hl
  cases q1
  cases q2
  cases q3
  have S2 := sets_ok S1 rz
  obtain ⟨v1, vr1, rfl, rz1⟩ := Rz.cons rz
  obtain ⟨v2, vr2, rfl, rz2⟩ := Rz.cons rz1
  obtain ⟨v3, vr3, rfl, rz3⟩ := Rz.cons rz2
  cases (show vr3 = [] from rz3)
  exact ⟨v1, v2, v3, rfl, a1.nx S2⟩
/-- a tuple told, taken apart where no stores are swapped -/
theorem ss_unpT {l : List Nat} {e : Ex} {ts vs : List Expr} {kt kv : Nat} {pt pv p : Pos} (hx : (tpB M l ts && decide (parC M.sc ts vs = some none)) = true) (he : SE t n M e (.Tuple vs kv pv)) : SS t n M (.unp (.tp l) e) (.Assign [.Tuple ts kt pt] (.Tuple vs kv pv) p) := by
  simp only [Bool.and_eq_true, decide_eq_true_eq] at hx
  exact ss_unp (fun X W O => ⟨rfl, par_eq O hx.2, rfl⟩) (sg_tp hx.1) he
def noTup : Expr → Bool
  | .Tuple _ _ _ => false
  | _ => true
theorem ss_unpE {l : List Nat} {e : Ex} {ts : List Expr} {xe : Expr} {kt : Nat} {pt p : Pos} (hx : (tpB M l ts && noComp xe && noTup xe) = true) (he : SE t n M e xe) : SS t n M (.unp (.tp l) e) (.Assign [.Tuple ts kt pt] xe p) := by
  simp only [Bool.and_eq_true, decide_eq_true_eq] at hx
  exact ss_unp (fun X W O => ⟨by unfold swapsWithSole; exact sw_none hx.1.2 _ _ _, by have := hx.2; cases xe <;> first | rfl | (cases this), rfl⟩) (sg_tp hx.1.1) he
theorem kw_some {kws : List Keyword} {ks : List Str} (h : kws.map (·.arg) = ks.map some) (pos : Pos) (env : Env) : (backToKw pos (keywordEach kws env)).filterMap (·.1) = ks ∧ (backToKw pos (keywordEach kws env)).all (·.1.isSome) = true ∧ (backToKw pos (keywordEach kws env)).any (·.1.isNone) = false := by
  induction kws generalizing ks with
  | nil => cases map0 h.symm; exact ⟨rfl, rfl, rfl⟩
  | cons q kws ih =>
    obtain ⟨x, ks', rfl, h1, h2⟩ := map1 h.symm
    obtain ⟨i1, i2, i3⟩ := ih h2.symm
    obtain ⟨nm, e, kp⟩ := q
    cases (show some x = nm from h1)
    show List.filterMap (·.1) ((some x, _) :: backToKw pos (keywordEach kws env)) = _ ∧ ((true && (backToKw pos (keywordEach kws env)).all (·.1.isSome)) = true) ∧ (false || (backToKw pos (keywordEach kws env)).any (·.1.isNone)) = false
    rw [i2, i3, List.filterMap_cons, i1]
    exact ⟨rfl, rfl, rfl⟩
def SKs (t : Tb) (n : Nat) (M : Mc) (e : Exs) (x : List Keyword) : Prop := ∀ X W, Ok t n M X W → PK X x (rd (t.k X) W (rL (t.k X)) (evs (t.o n) e))
theorem PK.weak {X : Cx} {e : List Keyword} {t u : TA} (h : PK X e t) (k : ∀ σ H Q, u σ H Q → t σ H Q) : PK X e u := ⟨fun p pins s σ H Q I q => h.run p pins s σ H Q I (k σ H Q q)⟩
theorem sks_nil : SKs t n M .nil [] := fun X W O => PK.weak pk_nil fun σ H Q ⟨T, Fr, μ, s, S, a⟩ => a.here S rfl
theorem sks_cons {a : Ex} {r : Exs} {nm : Option Str} {kp : Pos} {xa : Expr} {xs : List Keyword} (ha : SE t n M a xa) (hr : SKs t n M r xs) : SKs t n M (.cons a r) (⟨nm, xa, kp⟩ :: xs) := fun X W O => by
  refine PK.weak (pk_cons (ha X W O) (hr X W O)) fun σ H Q ⟨T, Fr, μ, s, S, a⟩ => ?_
  unfold evs at a
  refine rd_bind S a fun T1 μ1 H1 x w1 s1 e1 p1 S1 r1 a => rd_bind S1 a fun T2 μ2 H2 ys ws s2 e2 p2 S2 r2 a => ?_
  exact a.here S2 ⟨x, ys, rfl, RepR.mono e2 p2 r1, r2⟩
end
end Pc

set_option Elab.async false
set_option linter.all false
set_option maxRecDepth 100000
set_option maxHeartbeats 4000000
namespace Pc
open PySem L2
open Classical in
/-- the callers' things, with the names' own lists among them -/
noncomputable def lendAll (Fr : Hp) (s : Ss) (σ : L2.St) (H : Hp) : Hp := fun a => if (∃ (i : Nat) (l : List Pc.D), s.r[i]? = some (.own l) ∧ σ[i]? = some (some (.ref a))) then H a else Fr a
theorem Sim.enter {k : Kx} {T Fr H : Hp} {μ : List Addr} {s : Ss} {σ : L2.St} (S : Sim k T Fr μ s σ H) : Sim k T (lendAll Fr s σ H) μ ⟨s.g, []⟩ [] H := by
  have own : ∀ a, (∃ (i : Nat) (l : List Pc.D), s.r[i]? = some (.own l) ∧ σ[i]? = some (some (.ref a))) → T a = none ∧ Fr a = none ∧ ∀ n : Nat, μ[n]? ≠ some a := fun a ⟨i, l, e1, e2⟩ => by
    obtain ⟨p, vs, u1, u2, u3, u4, u5, u6, u7⟩ := S.own i l e1
    rw [u1] at e2
    cases e2
    exact ⟨u4, u5, u6⟩
  refine ⟨S.tH, fun a u e => ?_, fun a ha => ?_, S.len, fun n a c e1 e2 => ?_, S.cnd, rfl, fun i w e => by simp at e, fun i l e => by simp at e⟩
  · unfold lendAll at e
    split at e
    · exact e
    · exact S.fH _ _ e
  · unfold lendAll at ha
    split at ha
    · rename_i h
      exact (own a h).1
    · exact S.tF a ha
  · obtain ⟨u1, u2, u3, u4⟩ := S.cel n a c e1 e2
    refine ⟨u1, ?_, u3, u4⟩
    unfold lendAll
    split
    · rename_i h
      exact absurd e1 ((own a h).2.2 n)
    · exact u2
theorem Sim.leave {k : Kx} {T T' Fr H H' : Hp} {μ μ' : List Addr} {s : Ss} {σ : L2.St} {g' : List Cl} (S : Sim k T Fr μ s σ H) (S' : Sim k T' (lendAll Fr s σ H) μ' ⟨g', []⟩ [] H') (e : Same T T') (p : μ <+: μ') : Sim k T' Fr μ' { s with g := g' } σ H' := by
  have own : ∀ a, (∃ (i : Nat) (l : List Pc.D), s.r[i]? = some (.own l) ∧ σ[i]? = some (some (.ref a))) → T a = none ∧ Fr a = none ∧ H a ≠ none ∧ lendAll Fr s σ H a = H a := fun a h => by
    obtain ⟨i, l, e1, e2⟩ := id h
    obtain ⟨p, vs, u1, u2, u3, u4, u5, u6, u7⟩ := S.own i l e1
    rw [u1] at e2
    cases e2
    refine ⟨u4, u5, by rw [u2]; simp, ?_⟩
    unfold lendAll
    rw [if_pos h]
  have out : ∀ a, ¬ (∃ (i : Nat) (l : List Pc.D), s.r[i]? = some (.own l) ∧ σ[i]? = some (some (.ref a))) → lendAll Fr s σ H a = Fr a := fun a h => by
    unfold lendAll
    rw [if_neg h]
  have notown : ∀ a, Fr a ≠ none → lendAll Fr s σ H a = Fr a := fun a ha => out a fun h => ha (own a h).2.1
  have back : ∀ a, lendAll Fr s σ H a = none → Fr a = none := fun a ha => by
    by_cases h : (∃ (i : Nat) (l : List Pc.D), s.r[i]? = some (.own l) ∧ σ[i]? = some (some (.ref a)))
    · exact (own a h).2.1
    · rw [out a h] at ha; exact ha
  refine ⟨S'.tH, fun a u ea => S'.fH a u (by rw [notown a (by rw [ea]; simp)]; exact ea), fun a ha => S'.tF a (by rw [notown a ha]; exact ha), S'.len, fun n a c e1 e2 => ?_, S'.cnd, S.rlen, fun i w ei => ?_, fun i l ei => ?_⟩
  · obtain ⟨u1, u2, u3, u4⟩ := S'.cel n a c e1 e2
    exact ⟨u1, back a u2, u3, u4⟩
  · obtain ⟨v, q1, q2⟩ := S.val i w ei
    exact ⟨v, q1, q2.mono e p⟩
  · obtain ⟨q, vs, u1, u2, u3, u4, u5, u6, u7⟩ := S.own i l ei
    have hq : ∃ (i : Nat) (l : List Pc.D), s.r[i]? = some (.own l) ∧ σ[i]? = some (some (.ref q)) := ⟨i, l, ei, u1⟩
    obtain ⟨w1, w2, w3, w4⟩ := own q hq
    refine ⟨q, vs, u1, S'.fH q _ (w4.trans u2), u3.mono e, S'.tF q (by rw [w4]; exact w3), u5, fun n en => ?_, u7⟩
    have hn : n < g'.length := by rw [← S'.len]; exact (List.getElem?_eq_some_iff.mp en).1
    obtain ⟨_, z2, _⟩ := S'.cel n q _ en (List.getElem?_eq_getElem hn)
    rw [w4] at z2
    exact w3 z2
/-- the state at a def's entry -/
theorem Sim.begin {k : Kx} {T Fr H : Hp} {μ : List Addr} {g : List Cl} : ∀ {as : List Pc.W} {vs : List V} {m : Nat}, Sim k T Fr μ ⟨g, []⟩ [] H → RepWs k T μ as vs → Sim k T Fr μ ⟨g, as.map Sl.w ++ List.replicate m .no⟩ (vs.map some ++ List.replicate m none) H := by
  intro as vs m S h
  have len : ∀ {as : List Pc.W} {vs : List V}, RepWs k T μ as vs → as.length = vs.length := by
    intro as
    induction as with
    | nil => intro vs h; cases (show vs = [] from h); rfl
    | cons a as ih => intro vs h; obtain ⟨v, r, rfl, _, h2⟩ := h; simp [ih h2]
  have get : ∀ {as : List Pc.W} {vs : List V}, RepWs k T μ as vs → ∀ (i : Nat) (w : Pc.W), as[i]? = some w → ∃ v, vs[i]? = some v ∧ RepW k T μ w v := by
    intro as
    induction as with
    | nil => intro vs h i w e; simp at e
    | cons a as ih =>
      intro vs h i w e
      obtain ⟨v, r, rfl, h1, h2⟩ := h
      cases i with
      | zero => cases e; exact ⟨v, rfl, h1⟩
      | succ i => exact ih h2 i w (by simpa using e)
  have hl := len h
  refine ⟨S.tH, S.fH, S.tF, S.len, S.cel, S.cnd, by simp [hl], fun i w e => ?_, fun i l e => ?_⟩
  · dsimp only at e
    by_cases hi : i < as.length
    · rw [List.getElem?_append_left (by simpa using hi), List.getElem?_map] at e
      obtain ⟨w', hw, e⟩ := Option.map_eq_some_iff.mp e
      cases e
      obtain ⟨v, q1, q2⟩ := get h i w hw
      exact ⟨v, by rw [List.getElem?_append_left (by simpa using (hl ▸ hi)), List.getElem?_map, q1]; rfl, q2⟩
    · rw [List.getElem?_append_right (by simpa using hi), List.getElem?_replicate] at e
      split at e <;> cases e
  · dsimp only at e
    by_cases hi : i < as.length
    · rw [List.getElem?_append_left (by simpa using hi), List.getElem?_map] at e
      obtain ⟨w', hw, e⟩ := Option.map_eq_some_iff.mp e
      cases e
    · rw [List.getElem?_append_right (by simpa using hi), List.getElem?_replicate] at e
      split at e <;> cases e
theorem ws_get {k : Kx} {T : Hp} {μ : List Addr} {σ : L2.St} : ∀ {ws : List Pc.W} {vs : List V} {us : List Value}, RepRs k T μ σ ws vs → Vals vs us → noB ws = true → ∀ i, ∃ v, RelV v (us.getD i .none) ∧ RepW k T μ (ws.getD i (.d .non)) v
  | [], vs, us, h, hv, _, i => by
    cases (show vs = [] from h)
    cases hv
    exact ⟨.non, rfl, rfl⟩
  | w :: ws, _, us, h, hv, hb, i => by
    obtain ⟨v, r, rfl, h1, h2⟩ := h
    cases hv with
    | cons r1 rr =>
      simp only [noB, Bool.and_eq_true, Bool.not_eq_true'] at hb
      cases i with
      | zero => exact ⟨v, r1, RepR.w h1 hb.1⟩
      | succ i => exact ws_get h2 rr hb.2 i
theorem sel_ok {k : Kx} {T : Hp} {μ : List Addr} {σ : L2.St} {ws zs : List Pc.W} {vs xs : List V} {us ys ds : List Value} (h1 : RepRs k T μ σ ws vs) (v1 : Vals vs us) (b1 : noB ws = true) (h2 : RepRs k T μ σ zs xs) (v2 : Vals xs ys) (b2 : noB zs = true) :
    ∀ {sel : List Ar} {j : Nat}, DfOk k ds sel j → ∃ bs, Vals bs (selVs us ys ds sel j) ∧ RepWs k T μ (sel.map (selW ws zs)) bs
  | [], _, _ => ⟨[], .nil, rfl⟩
  | .p i :: r, j, h => by
    obtain ⟨v, q1, q2⟩ := ws_get h1 v1 b1 i
    obtain ⟨bs, q3, q4⟩ := sel_ok h1 v1 b1 h2 v2 b2 (sel := r) (j := j + 1) h
    exact ⟨v :: bs, .cons q1 q3, v, bs, rfl, q2, q4⟩
  | .k i :: r, j, h => by
    obtain ⟨v, q1, q2⟩ := ws_get h2 v2 b2 i
    obtain ⟨bs, q3, q4⟩ := sel_ok h1 v1 b1 h2 v2 b2 (sel := r) (j := j + 1) h
    exact ⟨v :: bs, .cons q1 q3, v, bs, rfl, q2, q4⟩
  | .df x :: r, j, h => by
    obtain ⟨⟨v, q1, q2⟩, h⟩ := h
    obtain ⟨bs, q3, q4⟩ := sel_ok h1 v1 b1 h2 v2 b2 (sel := r) (j := j + 1) h
    exact ⟨v :: bs, .cons q1 q3, v, bs, rfl, Rep.mono (fun b o z => by cases z) q2, q4⟩
theorem RepRs.vlen {k : Kx} {T : Hp} {μ : List Addr} {σ : L2.St} {ws : List Pc.W} {vs : List V} {us : List Value} (h : RepRs k T μ σ ws vs) (v : Vals vs us) : us.length = ws.length := by rw [← v.length, h.len]
section
variable {t : Tb} {n : Nat} {M : Mc} {X : Cx}
theorem RepRs.ws {k : Kx} {T : Hp} {μ : List Addr} {σ : L2.St} : ∀ {ws : List Pc.W} {vs : List V}, RepRs k T μ σ ws vs → noB ws = true → RepWs k T μ ws vs
  | [], _, h, _ => h
  | w :: l, _, ⟨v, r, e, h1, h2⟩, hb => by
    simp only [noB, Bool.and_eq_true, Bool.not_eq_true'] at hb
    exact ⟨v, r, e, h1.w hb.1, RepRs.ws h2 hb.2⟩
/-- a call that ends was told values -/
theorem run_told {tab : List Fn} {n f p : Nat} {ws zs : List Pc.W} {g : List Cl} {fd : Fn} {q : Pat} (hf : tab[f]? = some fd) (hp : fd.pats[p]? = some q) (h : Pc.run tab n f p ws zs g ≠ .stuck) : noB ws = true ∧ noB zs = true ∧ zs.length = q.ks.length := by
  cases n with
  | zero => exact absurd rfl h
  | succ n =>
    unfold Pc.run at h
    rw [hf] at h
    dsimp only at h
    unfold argsOf at h
    rw [hp] at h
    dsimp only at h
    split at h
    · rename_i as e
      split at e
      · rename_i hc
        exact ⟨hc.2.2.2.1, hc.2.2.2.2.1, hc.2.1⟩
      · cases e
    · exact absurd rfl h
/-- the callee runs, the arguments told -/
theorem run_at {W : WX} (O : Ok t n M X W) {f p : Nat} {ws zs : List Pc.W} {fd : Fn} {pt : Pat} (hf : t.tab[f]? = some fd) (hp : fd.pats[p]? = some pt) {A : Around} {σ : L2.St} {H T Fr : Hp} {μ : List Addr} {s : Ss} {sh : Shared} {vs xs : List V} {us ys : List Value} {Q : VK}
    (hA : Rm (3 * n) A) (e0 : Env0 X.prog X.w X.K X.mg X.base A X.stack sh H) (S : Sim (t.k X) T Fr μ s σ H) (h1 : RepRs (t.k X) T μ σ ws vs) (v1 : Vals vs us) (h2 : RepRs (t.k X) T μ σ zs xs) (v2 : Vals xs ys)
    (a0 : Aft (t.k X) T Fr μ W σ (rE (t.k X)) Q (callR (t.o n) f p ws zs s)) : codeAny (model X.prog X.w) A (.call (.ref (adr X.K fd.at_)) ⟨us, pt.ks.zip ys⟩) (CR (L2.CX X.prog X.w) X.stack X.prog X.w H sh Q (fun C d H => W C d σ H)) sh := by
  have ns : Pc.run t.tab n f p ws zs s.g ≠ .stuck := fun e => by
    have a0 : Aft (t.k X) T Fr μ W σ (rE (t.k X)) Q (match Pc.run t.tab n f p ws zs s.g with
      | .ok w g => if w.isB then .stuck else .ok w { s with g := g }
      | .exc e g => .exc e { s with g := g }
      | .stuck => .stuck) := a0
    rw [e] at a0
    exact a0.elim
  obtain ⟨b1, b2, l2⟩ := run_told hf hp ns
  refine (O.fns X.base f fd hf).run p pt hp A X.stack sh H us ys ws zs vs xs T (lendAll Fr s σ H) μ s.g Q (fun C d H => W C d σ H) hA e0 S.enter (h1.ws b1) v1 (h2.ws b2) v2 ((h2.vlen v2).trans l2) ?_
  have a0 : Aft (t.k X) T Fr μ W σ (rE (t.k X)) Q (match Pc.run t.tab n f p ws zs s.g with
    | .ok w g => if w.isB then .stuck else .ok w { s with g := g }
    | .exc e g => .exc e { s with g := g }
    | .stuck => .stuck) := a0
  cases e : Pc.run t.tab n f p ws zs s.g with
  | stuck => exact absurd e ns
  | exc x g' =>
    rw [e] at a0
    exact fun T' μ' H' C d e' p' S' er => a0 T' μ' H' C d e' p' (S.leave S' e' p') er
  | ok w g' =>
    rw [e] at a0
    dsimp only at a0
    split at a0
    · exact a0.elim
    · exact fun T' μ' H' v e' p' S' r' => a0 T' μ' H' v e' p' (S.leave S' e' p') r'.r
theorem run_call {W : WX} (O : Ok t n M X W) {f p : Nat} {ws zs : List Pc.W} {fd : Fn} {pt : Pat} (hf : t.tab[f]? = some fd) (hp : fd.pats[p]? = some pt) {pins : List (Addr × Obj)} {σ : L2.St} {H T Fr : Hp} {μ : List Addr} {s : Ss} {sh : Shared} {vs xs : List V} {us ys : List Value} {Q : VK}
    (I : Inv X pins σ H sh) (S : Sim (t.k X) T Fr μ s σ H) (h1 : RepRs (t.k X) T μ σ ws vs) (v1 : Vals vs us) (h2 : RepRs (t.k X) T μ σ zs xs) (v2 : Vals xs ys)
    (a0 : Aft (t.k X) T Fr μ W σ (rE (t.k X)) Q (callR (t.o n) f p ws zs s)) : wpAny (model X.prog X.w) X.A (call (.ref (adr X.K fd.at_)) us (pt.ks.zip ys)) (EP X pins σ Q) X.xe sh := by
  refine wpAny_call (codeAny_mono (run_at O hf hp (O.room.mono (by omega)) I.env0 S h1 v1 h2 v2 a0) fun r s' hq => ?_)
  cases r with
  | error e => exact passAt O.tk σ pins H sh e s' I hq
  | ok fl =>
    cases fl with
    | ret u => exact I.after hq
    | next => exact hq.elim
    | brk => exact hq.elim
    | cont => exact hq.elim
def patB (t : Tb) (f p : Nat) (x : Str) (ks : List Str) : Bool :=
  match t.tab[f]? with
  | some fd => decide (fd.at_ = .glo x) && (match fd.pats[p]? with
    | some q => decide (q.ks = ks)
    | none => false)
  | none => false
theorem s_call {f p : Nat} {es kes : Exs} {x : Str} {px pos : Pos} {xs : List Expr} {kws : List Keyword} {ks : List Str} (hx : (patB t f p x ks && glB M.sc x && plainName x && xs.all plainArg && decide (kws.map (·.arg) = ks.map some)) = true) (n1 : xs = [] → es = .nil) (n2 : kws = [] → kes = .nil)
    (he : SEs t n M es xs) (hk : SKs t n M kes kws) : SE t n M (.call f p es kes) (.Call (.Name x px) xs kws pos) := fun X W O => by
  simp only [Bool.and_eq_true, decide_eq_true_eq] at hx
  obtain ⟨⟨⟨⟨x1, x2⟩, x3⟩, x4⟩, x5⟩ := hx
  unfold patB at x1
  split at x1
  · rename_i fd hfd
    simp only [Bool.and_eq_true, decide_eq_true_eq] at x1
    obtain ⟨y1, y2⟩ := x1
    split at y2
    · rename_i pt hpt
      have y2 := of_decide_eq_true y2
      subst y2
      have FA := O.fns X.base f fd hfd
      have m1 := FA.gl x y1
      have m2 := FA.kp
      generalize ha : adr X.K fd.at_ = a at m1 m2
      obtain ⟨k1, k2, k3⟩ := kw_some x5 pos X.env
      refine ⟨fun pins sh σ H Q I ⟨T, Fr, μ, s, S, a0⟩ => ?_⟩
      unfold ev at a0
      refine wpAny_Call_Name_kw (ld_glob I (glB_ok O x2) m1 ?_ (plainName_a x3))
      -- behind both argument lists
      have fin : ∀ {pins : List (Addr × Obj)} {H2 T2 : Hp} {μ2 : List Addr} {s2 : Ss} {sh2 : Shared} {us ys : List Value} {vs zs : List V} {ws2 zs2 : List Pc.W}, Inv X pins σ H2 sh2 → Sim (t.k X) T2 Fr μ2 s2 σ H2 → RepRs (t.k X) T2 μ2 σ ws2 vs → Vals vs us → RepRs (t.k X) T2 μ2 σ zs2 zs → Vals zs ys →
          Aft (t.k X) T2 Fr μ2 W σ (rE (t.k X)) Q (match t.o n f p ws2 zs2 s2.g with
            | .ok w g => if w.isB then .stuck else .ok w { s2 with g := g }
            | .exc e g => .exc e { s2 with g := g }
            | .stuck => .stuck) → wpAny (model X.prog X.w) X.A (call (.ref a) ([] ++ us) (((backToKw pos (keywordEach kws X.env)).filterMap (·.1)).zip ys)) (EP X pins σ Q) X.xe sh2 := fun I2 S2 r1 v1 r2 v2 a2 => by
        rw [k1, List.nil_append]
        subst ha
        exact run_call O hfd hpt I2 S2 r1 v1 r2 v2 a2
      have last : ∀ {H1 : Hp} {sh1 : Shared} {us : List Value} {vs : List V}, Inv X pins σ H1 sh1 → Vals vs us → (∃ T1 μ1 ws1 s1, Sim (t.k X) T1 Fr μ1 s1 σ H1 ∧ RepRs (t.k X) T1 μ1 σ ws1 vs ∧ Aft (t.k X) T1 Fr μ1 W σ (rE (t.k X)) Q ((evs (t.o n) kes s1).bind fun zs s2 => match t.o n f p ws1 zs s2.g with
            | .ok w g => if w.isB then .stuck else .ok w { s2 with g := g }
            | .exc e g => .exc e { s2 with g := g }
            | .stuck => .stuck)) → (kws = [] → wpAny (model X.prog X.w) X.A (call (.ref a) us []) (EP X pins σ Q) X.xe sh1) ∧
          wpAny (model X.prog X.w) X.A (evalAll ((backToKw pos (keywordEach kws X.env)).map (·.2))) (fun ys s₂ => X.K.In s₂.heap ∧ wpAny (model X.prog X.w) X.A (call (.ref a) ([] ++ us) (((backToKw pos (keywordEach kws X.env)).filterMap (·.1)).zip ys)) (EP X pins σ Q) X.xe s₂) X.xe sh1 := by
        intro H1 sh1 us vs I1 v1 ⟨T1, μ1, ws1, s1, S1, r1, a1⟩
        refine ⟨fun e => ?_, ?_⟩
        · cases n2 e
          cases e
          have := fin (ys := []) (zs := []) (zs2 := []) I1 S1 r1 v1 rfl .nil a1
          rw [List.nil_append] at this
          exact this
        · refine thn ((hk X W O).run pos pins sh1 σ H1 _ I1 (rd_bind S1 a1 (Q1 := fun zs H2 => ∃ T2 μ2 zs2 s2, Same T1 T2 ∧ μ1 <+: μ2 ∧ Sim (t.k X) T2 Fr μ2 s2 σ H2 ∧ RepRs (t.k X) T2 μ2 σ zs2 zs ∧ Aft (t.k X) T2 Fr μ2 W σ (rE (t.k X)) Q (match t.o n f p ws1 zs2 s2.g with
            | .ok w g => if w.isB then .stuck else .ok w { s2 with g := g }
            | .exc e g => .exc e { s2 with g := g }
            | .stuck => .stuck)) fun T2 μ2 H2 zs zs2 s2 e2 p2 S2 r2 a2 => ⟨T2, μ2, zs2, s2, e2, p2, S2, r2, a2⟩)) fun ys sh2 ⟨zs, H2, I2, v2, T2, μ2, zs2, s2, e2, p2, S2, r2, a2⟩ => ?_
          exact ⟨I2.kIn, fin I2 S2 (r1.mono e2 p2) v1 r2 v2 a2⟩
      cases xs with
      | nil =>
        cases n1 rfl
        obtain ⟨g1, g2⟩ := last I .nil ⟨T, μ, [], s, S, rfl, a0⟩
        cases kws with
        | nil => exact PySem.W.callWith_K0 I.kIn m2 (g1 rfl)
        | cons kw kws => exact PySem.W.callWith_KW0 (h₀ := X.base) I.ok.mod.kin m2 k2 g2 (by rw [k3]; rfl)
      | cons e xs =>
        simp only [List.all_cons, Bool.and_eq_true] at x4
        have hnb := none_star x4.2 pos X.env
        have hna : (backTo pos (starEach (e :: xs) X.env)).any (·.1) = false := none_star (by simp [x4.1]; simpa using x4.2) pos X.env
        have hA := (he X W O).run pos pins sh σ H _ I (rd_bind S a0 (Q1 := fun vs H1 => ∃ T1 μ1 ws1 s1, Sim (t.k X) T1 Fr μ1 s1 σ H1 ∧ RepRs (t.k X) T1 μ1 σ ws1 vs ∧ Aft (t.k X) T1 Fr μ1 W σ (rE (t.k X)) Q ((evs (t.o n) kes s1).bind fun zs s2 => match t.o n f p ws1 zs s2.g with
            | .ok w g => if w.isB then .stuck else .ok w { s2 with g := g }
            | .exc e g => .exc e { s2 with g := g }
            | .stuck => .stuck)) fun T1 μ1 H1 vs ws1 s1 _ _ S1 r1 a1 => ⟨T1, μ1, ws1, s1, S1, r1, a1⟩)
        cases kws with
        | nil => exact PySem.W.callWith_K (h₀ := X.base) I.ok.mod.kin m2 (thn hA fun us s1 ⟨vs, H1, I1, r, q⟩ => ⟨I1.kIn, (last I1 r q).1 rfl⟩) (star_plain x4.1 _ _) hnb
        | cons kw kws => exact PySem.W.callWith_KW (h₀ := X.base) I.ok.mod.kin m2 k2 (thn hA fun us s1 ⟨vs, H1, I1, r, q⟩ => (last I1 r q).2) (by rw [hna, k3]; rfl) (star_plain x4.1 _ _)
    · cases y2
  · cases x1
end
end Pc

set_option Elab.async false
set_option linter.all false
set_option maxRecDepth 100000
set_option maxHeartbeats 4000000
namespace Pc
open PySem L2
/-- a pattern of calls of a def with a star parameter: n values, what is left over in a new tuple -/
def StarOk (fo : FuncData) (ps : List Str) (q : Pat) : Prop :=
  ∃ (p1 : List Str) (pv : Str), ps = p1 ++ [pv] ∧ p1.length = q.n ∧ q.ks = [] ∧ q.sel = (List.range q.n).map Ar.p ++ [.va q.n] ∧
    ∀ us rest : List Value, us.length = q.n → bindArgs fo ⟨us ++ rest, []⟩ = (newTuple rest >>= fun t => pure (p1.zip us ++ [(pv, t)]))
def BindOk (k : Kx) (fo : FuncData) (ps : List Str) (q : Pat) : Prop := PatOk k fo ps q ∧ q.sel.any Ar.isVa = false ∨ StarOk fo ps q
/-- what is fixed of a function -/
structure FnSt (t : Tb) (K : PySem.W.Frag) (mg : Str → Option Value) (fd : Fn) : Prop where
  ex : ∃ (oc : Value) (od : Option Addr) (osl : Array (Option Value)) (name qual : Str) (params : Arguments) (body : List Stmt) (scope : Scope) (dV kV doc pm cdv ct : Value) (an : Option Addr),
    (∀ x, fd.at_ = .glo x → mg x = some (.ref (adr K fd.at_))) ∧ PySem.W.keepIn K (.ref (adr K fd.at_)) = true ∧ K.lookup (adr K fd.at_) = some ⟨oc, od, .func (PySem.W.fnOf name qual params body scope dV kV doc pm an cdv ct), osl⟩ ∧ PySem.W.codeIn K cdv qual = true ∧
    (∀ q ∈ fd.pats, BindOk ⟨K, t.cl⟩ (PySem.W.fnOf name qual params body scope dV kV doc pm an cdv ct) (fd.nm.take fd.np) q) ∧ FnScope fd.nm (fd.nm.take fd.np) scope ∧ fd.np ≤ fd.nm.length ∧ ∀ n, SSs t n ⟨fd.nm, scope, fun _ => true⟩ fd.body body
theorem RepWs.len {k : Kx} {T : Hp} {μ : List Addr} : ∀ {as : List Pc.W} {vs : List V}, RepWs k T μ as vs → vs.length = as.length
  | [], _, h => by cases (show _ = [] from h); rfl
  | _ :: _, _, ⟨_, _, e, _, h⟩ => by subst e; exact congrArg Nat.succ h.len
theorem RepWs.rs {k : Kx} {T : Hp} {μ : List Addr} {σ : L2.St} : ∀ {as : List Pc.W} {vs : List V}, RepWs k T μ as vs → RepRs k T μ σ as vs
  | [], _, h => h
  | _ :: _, _, ⟨v, r, e, h1, h2⟩ => ⟨v, r, e, h1.r, RepWs.rs h2⟩
theorem RepWs.mono {k : Kx} {T T' : Hp} {μ μ' : List Addr} (e : Same T T') (p : μ <+: μ') : ∀ {as : List Pc.W} {vs : List V}, RepWs k T μ as vs → RepWs k T' μ' as vs
  | [], _, h => h
  | _ :: _, _, ⟨v, r, e1, h1, h2⟩ => ⟨v, r, e1, h1.mono e p, RepWs.mono e p h2⟩
theorem RepWs.app {k : Kx} {T : Hp} {μ : List Addr} : ∀ {as bs : List Pc.W} {vs us : List V}, RepWs k T μ as vs → RepWs k T μ bs us → RepWs k T μ (as ++ bs) (vs ++ us)
  | [], _, _, _, h, h' => by cases (show _ = [] from h); exact h'
  | _ :: _, _, _, _, ⟨v, r, e1, h1, h2⟩, h' => by subst e1; exact ⟨v, _, rfl, h1, RepWs.app h2 h'⟩
theorem RepWs.take {k : Kx} {T : Hp} {μ : List Addr} : ∀ {as : List Pc.W} {vs : List V} (n : Nat), RepWs k T μ as vs → RepWs k T μ (as.take n) (vs.take n)
  | _, _, 0, _ => by simp [RepWs]
  | [], _, n + 1, h => by cases (show _ = [] from h); rfl
  | _ :: _, _, n + 1, ⟨v, r, e1, h1, h2⟩ => by subst e1; exact ⟨v, _, rfl, h1, RepWs.take n h2⟩
theorem RepWs.drop {k : Kx} {T : Hp} {μ : List Addr} : ∀ {as : List Pc.W} {vs : List V} (n : Nat), RepWs k T μ as vs → RepWs k T μ (as.drop n) (vs.drop n)
  | _, _, 0, h => h
  | [], _, n + 1, h => by cases (show _ = [] from h); rfl
  | _ :: _, _, n + 1, ⟨v, r, e1, h1, h2⟩ => by subst e1; exact RepWs.drop n h2
theorem Sim.bare {k : Kx} {T Fr H : Hp} {μ : List Addr} {s : Ss} {σ : L2.St} (S : Sim k T Fr μ s σ H) : Sim k T Fr μ ⟨s.g, []⟩ [] H :=
  S.drop (r' := []) (σ' := []) rfl fun j => .inr (.inr (by simp))
theorem sel_take {ws zs : List Pc.W} : ∀ {n : Nat}, n ≤ ws.length → ((List.range n).map Ar.p).map (selW ws zs) = ws.take n := by
  intro n hn
  refine List.ext_getElem? fun i => ?_
  rw [List.map_map, List.getElem?_map, List.getElem?_take]
  by_cases hi : i < n
  · rw [if_pos hi, List.getElem?_range hi]
    have hw : i < ws.length := Nat.lt_of_lt_of_le hi hn
    rw [List.getElem?_eq_getElem hw]
    show some (ws.getD i _) = _
    rw [List.getD_eq_getElem?_getD, List.getElem?_eq_getElem hw]
    rfl
  · rw [if_neg hi, List.getElem?_eq_none (by simp; omega)]
    rfl
section
variable {t : Tb} {P : Program} {w : World} {K : PySem.W.Frag} {mg : Str → Option Value} {base : Heap}
theorem body_ok {n : Nat} {fd : Fn} {M : Mc} {X : Cx} {E : XK} {body : List Stmt} {vs : List V} {H : Hp} {Q : VK} (hb : SSs t n M fd.body body) (O : Ok t n M X (fun cls d _ H => E cls d H)) (po : PassesOwn (model X.prog X.w) X.A X.env X.xe)
    (hN : M.N = fd.nm) (h : spF (t.k X) t.tab (n + 1) fd vs H Q E) : ∃ u, PSs X body u ∧ u { nx := fun _ H' => Q .non H', rt := Q } (L2.start fd.nm vs) H := by
  obtain ⟨T, Fr, μ, g, as, S, hl, hr, a⟩ := h
  refine ⟨_, hb X _ O po, T, Fr, μ, ⟨g, startR fd as⟩, ?_, ?_⟩
  · have := S.begin (m := fd.nm.length - as.length) hr
    unfold startR L2.start
    rw [hr.len]
    exact this
  · have a : AftC (t.k X) T Fr μ Q E (runB (run t.tab n) fd as g) := a
    unfold runB at a
    cases e : exs (t.o n) fd.body ⟨g, startR fd as⟩ with
    | stuck => rw [show exs (run t.tab n) fd.body ⟨g, startR fd as⟩ = _ from e] at a; exact a.elim
    | exc x s' =>
      rw [show exs (run t.tab n) fd.body ⟨g, startR fd as⟩ = _ from e] at a
      exact fun T' μ' σ' H' C d e' p' S' er => a T' μ' H' C d e' p' S'.bare er
    | ok c s' =>
      rw [show exs (run t.tab n) fd.body ⟨g, startR fd as⟩ = _ from e] at a
      cases c with
      | nx => exact fun T' μ' σ' H' e' p' S' => a T' μ' H' .non e' p' S'.bare rfl
      | rt w => exact fun T' μ' σ' H' e' p' S' v r' => a T' μ' H' v e' p' S'.bare r'
      | bk => exact a.elim
      | ct => exact a.elim
theorem fn_step (hf : ∀ x, t.free x = true → mg x = none) (hc : ∀ x d, t.con x d = true → ∃ u v, mg x = some u ∧ RelV v u ∧ Rep ⟨K, t.cl⟩ (fun _ => none) d v) {n i : Nat} {fd : Fn} (hi : t.tab[i]? = some fd) (hs : FnSt t K mg fd)
    (hcl : ∀ (c : Nat) (d : Cd), t.cls[c]? = some d → ∃ C, t.cl c = some C ∧ CdOk t K mg C d) (hst : ∀ q ∈ t.stas, StaOk K mg q.1 q.2) (hct : ∀ (c : Nat) (C : Addr), t.cl c = some C → ∃ d, t.cls[c]? = some d) (hxc : XcsOk P K mg t)
    (ih : ∀ (base : Heap) (i : Nat) (fd : Fn), t.tab[i]? = some fd → FnAt t P w K mg base n i fd) : FnAt t P w K mg base (n + 1) i fd := by
  obtain ⟨oc, od, osl, name, qual, params, body, scope, dV, kV, doc, pm, cdv, ct, an, m1, m2, m3, m4, m5, m6, m7, m8⟩ := hs.ex
  refine ⟨m2, m1, fun p q hq A outer s H us ys ws zs vs xs T Fr μ g Q E hr e0 S rw1 v1 rz v2 hlen ha => ?_⟩
  have kin : K.In s.heap := e0.mod.kin.keeps fun b o z => (e0.bs b o z).1
  have ok_ : ∀ {A : Around} {s : Shared} {H : Hp}, Rm (3 * (n + 1)) A → Ok t n ⟨fd.nm, scope, fun _ => true⟩ (cxOf (L2.CX P w) P w K mg base fd.nm qual scope (adr K fd.at_) cdv A outer s H E) (fun cls d _ H => E cls d H) := fun {A s H} hr =>
    ⟨rfl, rfl, fun _ _ => rfl, hf, hc, ((hr.mono (show 3 * n + 2 + 1 ≤ 3 * (n + 1) by omega)).deeper _).mono (by omega), m6.nd, rfl, takes_of (E := E) rfl rfl rfl rfl, ih, hcl, hst, hct, hxc⟩
  have ha : AftC ⟨K, t.cl⟩ T Fr μ Q E (match t.tab[i]? with
    | some fd => (match argsOf fd p ws zs with
      | some as => runB (Pc.run t.tab n) fd as g
      | none => .stuck)
    | none => .stuck) := ha
  rw [hi] at ha
  dsimp only at ha
  cases hargs : argsOf fd p ws zs with
  | none => rw [hargs] at ha; exact ha.elim
  | some as =>
    rw [hargs] at ha
    dsimp only at ha
    unfold argsOf at hargs
    rw [hq] at hargs
    dsimp only at hargs
    split at hargs
    · rename_i hcond
      cases hargs
      obtain ⟨l1, l2, l3, b1, b2, b3⟩ := hcond
      rcases m5 q (List.mem_of_getElem? hq) with ⟨⟨ds, hd, hb⟩, hva⟩ | ⟨p1, pv, hps, hp1, hks, hsel, hbind⟩
      · have l1 : ws.length = q.n := by
          rcases l1 with z | ⟨z, _⟩
          · exact z
          · rw [hva] at z; cases z
        obtain ⟨bs, q1, q2⟩ := sel_ok (σ := []) (ds := ds) rw1.rs v1 b1 rz.rs v2 b2 hd
        have h : spF ⟨K, t.cl⟩ t.tab (n + 1) fd bs H Q E := ⟨T, Fr, μ, g, _, S, by rw [List.length_map, l3], q2, ha⟩
        have hlen2 : bs.length = (fd.nm.take fd.np).length := by
          rw [q2.len, List.length_map, l3, List.length_take]
          omega
        have nlim : s.heap.NoLimit := e0.mod.nolimit.keeps fun b o z => (e0.bs b o z).1
        have hbt := hb s us ys kin (by rw [← v1.length, rw1.len]; exact l1) hlen
        have kinds : ∀ y ∈ (fd.nm.take fd.np).zip (selVs us ys ds q.sel 0), scope.names.lookup y.1 = some .local ∨ (scope.names.lookup y.1 = some .cell ∧ ((cellsFrom (s.heap.objs.size + 1) scope.names []).lookup y.1).isSome = true) := by
          rintro ⟨x, v⟩ hy
          rcases m6.par x (List.of_mem_zip hy).1 with z | z
          · exact .inl z
          · exact .inr ⟨z, PySem.W.cellsFrom_some _ _ _ (.inl z)⟩
        refine codeAny_call_function hr.r.depth (kin _ _ m3) rfl m6.co m6.gen rfl (PySem.W.codeRec_of kin m4) (hbt _ _ _ _ ?_)
        refine wpAny_newFunctionEnv_cells m6.kind kinds fun env he s1 x => ?_
        subst he
        refine ⟨nlim.keeps x.toInCall.keep, codeAny_func ?_⟩
        obtain ⟨u, hu, hq'⟩ := body_ok (m8 n) (ok_ (s := s) (H := H) hr) (passes_of rfl) rfl h
        have I := inv_start (E := E) (CX := L2.CX P w) (cd := cdv) (f := adr K fd.at_) (qual := qual) m6 hr.r.hd e0 hlen2 q1 x
        refine wpAny_mono (hu.run [] s1 (L2.start fd.nm bs) H _ I hq') (fun fl s' z => ?_) fun e s' z => z
        have done : ∀ {σ' : L2.St} {H' : Hp} {v : V} {u : Value}, L2.Inv (cxOf (L2.CX P w) P w K mg base fd.nm qual scope (adr K fd.at_) cdv A outer s H E) [] σ' H' s' → RelV v u → Q v H' → CE outer P w H s Q u s' := fun J r' q' => ⟨_, _, J.os, J.bare, J.base, J.hok, r', q'⟩
        cases fl with
        | ret u => obtain ⟨v, σ', H', J, r', q'⟩ := z; exact done J r' q'
        | next => obtain ⟨σ', H', J, q'⟩ := z; exact done (v := V.non) (u := Value.none) J rfl q'
        | brk => obtain ⟨_, _, _, q'⟩ := z; exact q'.elim
        | cont => obtain ⟨_, _, _, q'⟩ := z; exact q'.elim
      · have hn : q.n ≤ ws.length := by
          rcases l1 with z | ⟨_, z⟩
          · omega
          · exact z
        rw [hks] at hlen ⊢
        have ys0 : ys = [] := List.eq_nil_of_length_eq_zero hlen
        subst ys0
        have lv : vs.length = ws.length := rw1.len
        have lu : us.length = ws.length := by rw [← v1.length, lv]
        -- the values told, the values left over
        have eas : q.sel.map (selW ws zs) = ws.take q.n ++ [selW ws zs (.va q.n)] := by
          rw [hsel, List.map_append, sel_take hn]
          rfl
        rw [eas] at b3 ha
        cases hds : dsOf (ws.drop q.n) with
        | none =>
          have : ∀ l : List Pc.W, noB (l ++ [selW ws zs (.va q.n)]) = false := fun l => by
            induction l with
            | nil => simp [selW, hds, noB, W.isB]
            | cons a l ih => simp [noB, ih]
          rw [this] at b3
          cases b3
        | some l =>
          by_cases hz : l.length ≤ sizeLine
          case neg =>
            have : ∀ l' : List Pc.W, noB (l' ++ [selW ws zs (.va q.n)]) = false := fun l' => by
              induction l' with
              | nil => simp [selW, hds, hz, noB, W.isB]
              | cons a l' ih => simp [noB, ih]
            rw [this] at b3
            cases b3
          have rest := ((rw1.drop q.n).rs (σ := [])).ds hds
          have hva : selW ws zs (.va q.n) = .d (.tup l) := by simp [selW, hds, hz]
          rw [hva] at ha
          obtain ⟨u1, u2, eu, r1, r2⟩ := StX.vals_split (ws := vs.take q.n) (rest := vs.drop q.n) (us := us) (by rw [List.take_append_drop]; exact v1)
          subst eu
          have hl1 : u1.length = q.n := by rw [← r1.length, List.length_take, lv]; omega
          have hz1 : (vs.drop q.n).length ≤ sizeLine := by rw [rest.len]; exact hz
          have hz2 : u2.length ≤ sizeLine := by rw [← r2.length]; exact hz1
          have hfree : H s.heap.objs.size = Option.none := e0.hok.fresh (Nat.le_refl _)
          have hnp : fd.np = q.n + 1 := by rw [← l3, hsel]; simp
          rw [hps] at m6
          refine StX.run_bnd (k := 3 * n + 2) (ps := p1 ++ [pv]) m3 m4 m6 (hr.r.mono (by omega)) e0 (G := fun bs H2 => ∃ b, H b = Option.none ∧ bs = vs.take q.n ++ [V.ref b] ∧ H2 = upd H b (.tup (vs.drop q.n))) (fun A' Ex Q' hQ => ?_) fun s2 H2 bs ⟨b, hb, eb, eH⟩ hr' => ?_
          · show wpAny _ _ (bindArgs _ ⟨u1 ++ u2, _⟩) _ _ _
            rw [show ([] : List Str).zip ([] : List Value) = [] from rfl, hbind u1 u2 hl1]
            refine wpAny_bind (wpAny_newTuple (wpAny_pure ?_) hz2)
            have fresh : ObjOk P w (upd H s.heap.objs.size (.tup (vs.drop q.n))) (s.heap.push ({ cls := .type "tuple", data := .seq u2.toArray } : Obj)) s.heap.objs.size (.tup (vs.drop q.n)) :=
              ⟨hz1, u2, r2, ⟨_, Heap.get?_push_size _ rfl, rfl, _, rfl⟩⟩
            have un := StX.un_laid (fs := frs outer) (s := s) (o := ({ cls := .type "tuple", data := .seq u2.toArray } : Obj)) (u := .tup (vs.drop q.n)) hfree
            have z := hQ _ _ (vs.take q.n ++ [V.ref s.heap.objs.size]) (u1 ++ [Value.ref s.heap.objs.size]) (StX.env0_laid e0 fresh) un rfl (fun e s' => StX.cxUp outer s H _ _ E e s' un (fun b o q => Heap.get?_push_of_some _ q) rfl) (r1.append (.cons rfl .nil))
              (by simp [hp1, lv]; omega) ⟨_, hfree, rfl, rfl⟩
            rw [List.zip_append (by rw [hl1, hp1])] at z
            exact z
          · subst eb eH
            have h : spF ⟨K, t.cl⟩ t.tab (n + 1) fd (vs.take q.n ++ [V.ref b]) (upd H b (.tup (vs.drop q.n))) Q E := by
              have S2 := S.new (o := .tup (vs.drop q.n)) hb
              have hT : Same T (upd T b (.tup (vs.drop q.n))) := upd_none (S.tn hb)
              have last : RepWs ⟨K, t.cl⟩ (upd T b (.tup (vs.drop q.n))) μ [.d (.tup l)] [V.ref b] := ⟨_, [], rfl, ⟨b, vs.drop q.n, rfl, .inl (.inl upd_same), rest.mono hT⟩, rfl⟩
              refine ⟨upd T b (.tup (vs.drop q.n)), Fr, μ, g, ws.take q.n ++ [.d (.tup l)], S2, by rw [List.length_append, List.length_take, hnp, Nat.min_eq_left hn]; rfl, ((rw1.take q.n).mono hT (List.prefix_refl _)).app last, ?_⟩
              show AftC _ _ _ _ _ _ (runB (Pc.run t.tab n) fd (ws.take q.n ++ [.d (.tup l)]) g)
              cases er : runB (Pc.run t.tab n) fd (ws.take q.n ++ [.d (.tup l)]) g with
              | stuck => rw [er] at ha; exact ha.elim
              | exc x g' => rw [er] at ha; exact fun T' μ' H' C d e' => ha T' μ' H' C d (hT.trans e')
              | ok w g' => rw [er] at ha; exact fun T' μ' H' v e' => ha T' μ' H' v (hT.trans e')
            exact body_ok (m8 n) (ok_ (s := s2) (H := upd H b (.tup (vs.drop q.n))) hr) (passes_of rfl) rfl h
    · cases hargs
theorem fn_zero {i : Nat} {fd : Fn} (hs : FnSt t K mg fd) : FnAt t P w K mg base 0 i fd := by
  obtain ⟨oc, od, osl, name, qual, params, body, scope, dV, kV, doc, pm, cdv, ct, an, m1, m2, m3, m4, m5, m6, m7, m8⟩ := hs.ex
  exact ⟨m2, m1, fun p q hq A outer s H us ys ws zs vs xs T Fr μ g Q E _ _ _ _ _ _ _ _ h => h.elim⟩
theorem fns_ok (hf : ∀ x, t.free x = true → mg x = none) (hc : ∀ x d, t.con x d = true → ∃ u v, mg x = some u ∧ RelV v u ∧ Rep ⟨K, t.cl⟩ (fun _ => none) d v) (hs : ∀ fd ∈ t.tab, FnSt t K mg fd)
    (hcl : ∀ (c : Nat) (d : Cd), t.cls[c]? = some d → ∃ C, t.cl c = some C ∧ CdOk t K mg C d) (hst : ∀ q ∈ t.stas, StaOk K mg q.1 q.2) (hct : ∀ (c : Nat) (C : Addr), t.cl c = some C → ∃ d, t.cls[c]? = some d) (hxc : XcsOk P K mg t) : ∀ n (base : Heap) i fd, t.tab[i]? = some fd → FnAt t P w K mg base n i fd
  | 0, _, i, fd, hi => fn_zero (hs fd (List.mem_of_getElem? hi))
  | n + 1, _, i, fd, hi => fn_step hf hc hi (hs fd (List.mem_of_getElem? hi)) hcl hst hct hxc (fns_ok hf hc hs hcl hst hct hxc n)
end
end Pc

set_option Elab.async false
set_option linter.all false
set_option maxRecDepth 100000
set_option maxHeartbeats 4000000
namespace Pc
open PySem L2
/-- what is unsupported -/
theorem pe_stk {X : Cx} {x : Expr} {t : TE} (h : ∀ σ H Q, t σ H Q → False) : PE X x t := ⟨fun pins s σ H Q I q => (h σ H Q q).elim⟩
theorem evs_nil {o : Or} {s : Ss} : evs o .nil s = .ok [] s := by rw [evs]
def unL : Pc.W → Option (List D)
  | .d (.lst l) => some l
  | .d (.tup l) => some l
  | _ => none
theorem evs_star1 {o : Or} {e : Ex} {s : Ss} : evs o (.star e .nil) s = (ev o e s).bind fun x s1 => Res.of ((unL x).map fun l => l.map Pc.W.d) s1 := by
  rw [evs]
  refine congrArg (Res.bind _) (funext fun x => funext fun s1 => ?_)
  unfold unL
  split
  · rw [evs_nil]; simp [Res.bind, Res.of]
  · rw [evs_nil]; simp [Res.bind, Res.of]
  · rename_i h1 h2
    cases x with
    | d d => cases d <;> first | rfl | exact absurd rfl (h1 _) | exact absurd rfl (h2 _)
    | c _ => rfl
    | b _ => rfl
theorem bind_assoc {α β γ : Type} {x : Res α} {f : α → Ss → Res β} {g : β → Ss → Res γ} : (x.bind f).bind g = x.bind fun a s => (f a s).bind g := by cases x <;> rfl
section
variable {t : Tb} {n : Nat} {M : Mc}
theorem s_stk {x : Expr} : SE t n M .stk x := fun X W O => pe_stk fun σ H Q ⟨T, Fr, μ, s, S, a⟩ => by unfold ev at a; exact a.elim
theorem ss_stk {x : Stmt} : SS t n M .stk x := fun X W O po => ⟨fun pins s σ H D I ⟨T, Fr, μ, s', S, a⟩ => by unfold ex1 at a; exact a.elim⟩
section
variable {X : Cx} {W : WX}
/-- one written star argument -/
def oneStar (xs : List Expr) : Bool := match xs with
  | [.Starred _ _] => true
  | _ => false
structure ArgsOk (t : Tb) (n : Nat) (M : Mc) (es kes : Exs) (xs : List Expr) (kws : List Keyword) (ks : List Str) : Prop where
  pl : xs.all plainArg = true ∨ (oneStar xs = true ∧ kws = [])
  kn : kws.map (·.arg) = ks.map some
  n1 : xs = [] → es = .nil
  n2 : kws = [] → kes = .nil
  he : SEs t n M es xs
  hk : SKs t n M kes kws
  st : ∀ xe p, xs = [.Starred xe p] → ∃ e, es = .star e .nil ∧ SE t n M e xe
theorem call_args (O : Ok t n M X W) {a : Addr} (m2 : PySem.W.keepIn X.K (.ref a) = true) {first : List Value} {es kes : Exs} {xs : List Expr} {kws : List Keyword} {ks : List Str} {pos : Pos} (A : ArgsOk t n M es kes xs kws ks) {k : List Pc.W → List Pc.W → Ss → Res Pc.W}
    {pins : List (Addr × Obj)} {σ : L2.St} {H T Fr : Hp} {μ : List Addr} {s : Ss} {sh : Shared} {Q : VK} (I : Inv X pins σ H sh) (S : Sim (t.k X) T Fr μ s σ H)
    (a0 : Aft (t.k X) T Fr μ W σ (rE (t.k X)) Q ((evs (t.o n) es s).bind fun ws s1 => (evs (t.o n) kes s1).bind fun zs s2 => k ws zs s2))
    (fin : ∀ {H2 T2 : Hp} {μ2 : List Addr} {s2 : Ss} {sh2 : Shared} {us ys : List Value} {vs zs : List V} {ws2 zs2 : List Pc.W}, Same T T2 → μ <+: μ2 → Inv X pins σ H2 sh2 → Sim (t.k X) T2 Fr μ2 s2 σ H2 → RepRs (t.k X) T2 μ2 σ ws2 vs → Vals vs us → RepRs (t.k X) T2 μ2 σ zs2 zs → Vals zs ys →
      Aft (t.k X) T2 Fr μ2 W σ (rE (t.k X)) Q (k ws2 zs2 s2) → wpAny (model X.prog X.w) X.A (call (.ref a) (first ++ us) (ks.zip ys)) (EP X pins σ Q) X.xe sh2) :
    wpAny (model X.prog X.w) X.A (callWith pos (.ref a) first (backTo pos (starEach xs X.env)) (backToKw pos (keywordEach kws X.env))) (EP X pins σ Q) X.xe sh := by
  obtain ⟨pl, kn, n1, n2, he, hk, st⟩ := A
  obtain ⟨k1, k2, k3⟩ := kw_some kn pos X.env
  have nk : kws = [] → ks = [] := fun e => by
    subst e
    cases ks with
    | nil => rfl
    | cons _ _ => cases kn
  have last : ∀ {H1 T1 : Hp} {μ1 : List Addr} {s1 : Ss} {ws1 : List Pc.W} {sh1 : Shared} {us : List Value} {vs : List V}, Same T T1 → μ <+: μ1 → Inv X pins σ H1 sh1 → Vals vs us → Sim (t.k X) T1 Fr μ1 s1 σ H1 → RepRs (t.k X) T1 μ1 σ ws1 vs →
      Aft (t.k X) T1 Fr μ1 W σ (rE (t.k X)) Q ((evs (t.o n) kes s1).bind fun zs s2 => k ws1 zs s2) → (kws = [] → wpAny (model X.prog X.w) X.A (call (.ref a) (first ++ us) []) (EP X pins σ Q) X.xe sh1) ∧
      wpAny (model X.prog X.w) X.A (evalAll ((backToKw pos (keywordEach kws X.env)).map (·.2))) (fun ys s₂ => X.K.In s₂.heap ∧ wpAny (model X.prog X.w) X.A (call (.ref a) (first ++ us) (((backToKw pos (keywordEach kws X.env)).filterMap (·.1)).zip ys)) (EP X pins σ Q) X.xe s₂) X.xe sh1 := by
    intro H1 T1 μ1 s1 ws1 sh1 us vs e1 p1 I1 v1 S1 r1 a1
    refine ⟨fun e => ?_, ?_⟩
    · cases n2 e
      cases nk e
      rw [evs_nil] at a1
      have a1 : Aft (t.k X) T1 Fr μ1 W σ (rE (t.k X)) Q (k ws1 [] s1) := a1
      exact fin (ys := []) (zs := []) (zs2 := []) e1 p1 I1 S1 r1 v1 rfl .nil a1
    · refine thn ((hk X W O).run pos pins sh1 σ H1 _ I1 (rd_bind S1 a1 (Q1 := fun zs H2 => ∃ T2 μ2 zs2 s2, Same T1 T2 ∧ μ1 <+: μ2 ∧ Sim (t.k X) T2 Fr μ2 s2 σ H2 ∧ RepRs (t.k X) T2 μ2 σ zs2 zs ∧ Aft (t.k X) T2 Fr μ2 W σ (rE (t.k X)) Q (k ws1 zs2 s2)) fun T2 μ2 H2 zs zs2 s2 e2 p2 S2 r2 a2 => ⟨T2, μ2, zs2, s2, e2, p2, S2, r2, a2⟩)) fun ys sh2 ⟨zs, H2, I2, v2, T2, μ2, zs2, s2, e2, p2, S2, r2, a2⟩ => ?_
      refine ⟨I2.kIn, ?_⟩
      rw [k1]
      exact fin (e1.trans e2) (p1.trans p2) I2 S2 (r1.mono e2 p2) v1 r2 v2 a2
  cases xs with
  | nil =>
    cases n1 rfl
    rw [evs_nil] at a0
    have a0 : Aft (t.k X) T Fr μ W σ (rE (t.k X)) Q ((evs (t.o n) kes s).bind fun zs s2 => k [] zs s2) := a0
    obtain ⟨g1, g2⟩ := last (ws1 := []) (fun _ _ z => z) (List.prefix_refl _) I .nil S rfl a0
    cases kws with
    | nil => exact PySem.W.callWith_K0 I.kIn m2 (g1 rfl)
    | cons kw kws => exact PySem.W.callWith_KW0 (h₀ := X.base) I.ok.mod.kin m2 k2 g2 (by rw [k3]; rfl)
  | cons e xs =>
    rcases pl with x4 | ⟨x4, rfl⟩
    · simp only [List.all_cons, Bool.and_eq_true] at x4
      have hnb := none_star x4.2 pos X.env
      have hna : (backTo pos (starEach (e :: xs) X.env)).any (·.1) = false := none_star (by simp [x4.1]; simpa using x4.2) pos X.env
      have hA := (he X W O).run pos pins sh σ H _ I (rd_bind S a0 (Q1 := fun vs H1 => ∃ T1 μ1 ws1 s1, Same T T1 ∧ μ <+: μ1 ∧ Sim (t.k X) T1 Fr μ1 s1 σ H1 ∧ RepRs (t.k X) T1 μ1 σ ws1 vs ∧ Aft (t.k X) T1 Fr μ1 W σ (rE (t.k X)) Q ((evs (t.o n) kes s1).bind fun zs s2 => k ws1 zs s2)) fun T1 μ1 H1 vs ws1 s1 e1 p1 S1 r1 a1 => ⟨T1, μ1, ws1, s1, e1, p1, S1, r1, a1⟩)
      cases kws with
      | nil => exact PySem.W.callWith_K (h₀ := X.base) I.ok.mod.kin m2 (thn hA fun us s1 ⟨vs, H1, I1, r, T1, μ1, ws1, s1', e1, p1, S1, r1, a1⟩ => ⟨I1.kIn, (last e1 p1 I1 r S1 r1 a1).1 rfl⟩) (star_plain x4.1 _ _) hnb
      | cons kw kws => exact PySem.W.callWith_KW (h₀ := X.base) I.ok.mod.kin m2 k2 (thn hA fun us s1 ⟨vs, H1, I1, r, T1, μ1, ws1, s1', e1, p1, S1, r1, a1⟩ => (last e1 p1 I1 r S1 r1 a1).2) (by rw [hna, k3]; rfl) (star_plain x4.1 _ _)
    · unfold oneStar at x4
      split at x4
      · rename_i xe p e0
        cases e0
        obtain ⟨e, rfl, hse⟩ := st xe p rfl
        refine PySem.W.callWith_S (h₀ := X.base) I.ok.mod.kin m2 (thn ((hse X W O).run pins sh σ H (fun y H1 => ∃ a xs T1 μ1 s1 l, y = V.ref a ∧ (SqT X.K H1 a xs ∨ SqL X.K H1 a xs) ∧ Same T T1 ∧ μ <+: μ1 ∧ Sim (t.k X) T1 Fr μ1 s1 σ H1 ∧ Reps (t.k X) T1 l xs ∧ Aft (t.k X) T1 Fr μ1 W σ (rE (t.k X)) Q ((evs (t.o n) kes s1).bind fun zs s2 => k (l.map Pc.W.d) zs s2)) I ?_) fun v sh1 ⟨y, H1, I1, ry, b, vs, T1, μ1, s1, l, ey, hsq, e1, p1, S1, rl, a1⟩ => ?_) rfl
        · rw [evs_star1, bind_assoc] at a0
          refine rd_bind S a0 fun T1 μ1 H1 v w s1 e1 p1 S1 r1 a1 => ?_
          cases hl : unL w with
          | none => rw [hl] at a1; exact a1.elim
          | some l =>
            rw [hl] at a1
            unfold unL at hl
            split at hl
            · cases hl
              obtain ⟨b, vs, rfl, h1, h2⟩ := (show Rep _ _ (.lst l) v from r1)
              exact ⟨b, vs, T1, μ1, s1, l, rfl, .inr (.inl (.inl (S1.tH _ _ h1))), e1, p1, S1, h2, a1⟩
            · cases hl
              obtain ⟨b, vs, rfl, h1, h2⟩ := (show Rep _ _ (.tup l) v from r1)
              exact ⟨b, vs, T1, μ1, s1, l, rfl, .inl (sqT_same S1.tH h1), e1, p1, S1, h2, a1⟩
            · cases hl
        · subst ey
          obtain rfl : v = Value.ref b := ry
          refine StX.star_any I1 hsq fun us sh2 I2 rv => ⟨I2.kIn, ?_⟩
          have rr : ∀ {l : List D} {vs : List V}, Reps (t.k X) T1 l vs → RepRs (t.k X) T1 μ1 σ (l.map Pc.W.d) vs := by
            intro l
            induction l with
            | nil => intro vs h; exact h
            | cons d l ih => intro vs ⟨v, r, e, h1, h2⟩; exact ⟨v, r, e, h1, ih h2⟩
          exact (last e1 p1 I2 rv S1 (rr rl) a1).1 rfl
      · cases x4
end
end
end Pc

set_option Elab.async false
set_option linter.all false
set_option maxRecDepth 100000
set_option maxHeartbeats 4000000
namespace Pc
open PySem L2
abbrev baseB := plainBase
theorem base_ok {o : Expr} (h : baseB o = true) (name : Str) (env : Env) (w : Sem Value) : attributeBase o name env w = w := base_plain h name env w
/-- o.m(..) read as a method's call -/
theorem call_meth {prog : Program} {w : World} {A : Around} {E : Value → Shared → Prop} {s : Shared} {env : Env} {o : Expr} {name : Str} {apos pos : Pos} {args : List Expr} {kws : List Keyword} {Q : Value → Shared → Prop}
    (hb : baseB o = true) (ha : args.all plainArg = true) (hk : (backToKw pos (keywordEach kws env)).all (·.1.isSome) = true) (hn : args.length + kws.length + 1 < 30) (hl : (apos.endLine == pos.line) = true)
    (h : ∀ pl : Sem Bool, wpAny (model prog w) A (eval o env) (fun ov s₁ => wpAny (model prog w) A (getMethod ov name pl) (fun fx s₂ => wpAny (model prog w) A (callWith pos fx.1 fx.2 (backTo pos (starEach args env)) (backToKw pos (keywordEach kws env))) Q E s₂) E s₁) E s) :
    wpAny (model prog w) A (eval (.Call (.Attribute o name apos) args kws pos) env) Q E s := by
  rw [arm_eval_Call, base_ok hb]
  refine wpAny_bind (wpAny_mono (h (do return (← importBound o env).getD true)) (fun ov s₁ h₁ => wpAny_bind (wpAny_standAt ?_)) fun _ _ x => x)
  have hform : methodCallForm (args.length + kws.length) (backTo pos (starEach args env)) (backToKw pos (keywordEach kws env)) = true := by
    unfold methodCallForm
    rw [hk]
    have h1 : (backTo pos (starEach args env)).all (fun x => !x.1) = true := by
      have := none_star ha pos env
      rw [List.any_eq_false] at this
      rw [List.all_eq_true]
      intro x hx
      have := this x hx
      simpa using this
    rw [h1]
    simp
    split <;> omega
  have hpos : methodCallPos true o env apos pos = pure pos := by unfold methodCallPos; simp [hl]
  unfold methodCall
  rw [hform, hpos]
  refine wpAny_bind (wpAny_holding ?_)
  show wpAny _ _ (calleeOf true o env ov name) _ _ _
  unfold calleeOf
  simp only [if_true]
  exact wpAny_mono h₁ (fun fx s₂ h₂ => wpAny_bind (wpAny_pure h₂)) fun _ _ x => x
section
variable {t : Tb} {n : Nat} {M : Mc}
def fldB (t : Tb) (f : Str) (cs : List Nat) : Bool := cs.all fun c => match t.cls[c]? with
  | some d => d.flds.contains f
  | none => false
theorem fldB_ok {X : Cx} {W : WX} (O : Ok t n M X W) {f : Str} {cs : List Nat} (h : fldB t f cs = true) {c : Nat} (hc : c ∈ cs) {C : Addr} (e : t.cl c = some C) : Cls X.K C ∧ NoAttr X.K C f := by
  have h1 := List.all_eq_true.mp h c hc
  split at h1
  · rename_i d hd
    obtain ⟨C', e', D⟩ := O.cls c d hd
    rw [e] at e'
    cases e'
    exact ⟨D.cls, D.noat f (by simpa using h1)⟩
  · cases h1
theorem s_fld {e : Ex} {f : Str} {cs : List Nat} {xe : Expr} {pos : Pos} (hx : (baseB xe && fldB t f cs) = true) (he : SE t n M e xe) : SE t n M (.fld e f cs) (.Attribute xe f pos) := fun X W O => by
  rw [Bool.and_eq_true] at hx
  refine PE.weak (pe_fld (he X W O) (base_ok hx.1 _ _ _)) fun σ H Q ⟨T, Fr, μ, s, S, a⟩ => ?_
  unfold ev at a
  refine rd_bind S a fun T1 μ1 H1 v w s1 e1 p1 S1 r1 a => ?_
  obtain ⟨w', hw, a1⟩ := Aft.of a
  clear a
  obtain ⟨d, hd, rfl⟩ := map_some hw
  obtain ⟨a, C, c, dx, hs, u, rfl, h1, h2, h3, h4, h5⟩ := S1.fld r1 hd
  obtain ⟨c1, c2⟩ := fldB_ok O hx.2 h1 h2
  exact ⟨a, C, dx, hs, u, rfl, h3, c1, c2, h4, a1.hereE S1 h5⟩
theorem ss_fset {c : Ex} {f : Str} {e : Ex} {cs : List Nat} {xc xe : Expr} {p1 pos : Pos} (hx : (fldB t f cs && noComp xe) = true) (hc : SE t n M c xc) (he : SE t n M e xe) : SS t n M (.fset c f e cs) (.Assign [.Attribute xc f p1] xe pos) := fun X W O po => by
  rw [Bool.and_eq_true] at hx
  refine PS.weak (ps_fld (hc X W O) (he X W O) (sw_none hx.2 _ _ _)) fun D σ H ⟨T, Fr, μ, s, S, a⟩ => ?_
  unfold ex1 at a
  refine rds_bind S a fun T1 μ1 H1 v w s1 e1 p1 S1 r1 a => rds_bind S1 a fun T2 μ2 H2 v2 w2 s2 e2 p2 S2 r2 a => ?_
  split at a
  · rename_i d
    split at a
    · rename_i s3 hs3
      obtain ⟨b, C, c', dx, hs, rfl, h1, h2, h3, h4, S3⟩ := S2.pset (Rep.mono e2 r1) r2 hs3
      obtain ⟨c1, c2⟩ := fldB_ok O hx.1 h1 h2
      exact ⟨b, C, dx, hs, rfl, h3, c1, c2, h4, a.nx S3⟩
    · exact a.elim
  · exact a.elim
end
end Pc

set_option Elab.async false
set_option linter.all false
set_option maxRecDepth 100000
set_option maxHeartbeats 4000000
namespace Pc
open PySem L2
theorem lookup_mem {α β : Type} [BEq α] [LawfulBEq α] {a : α} {b : β} : ∀ {l : List (α × β)}, l.lookup a = some b → (a, b) ∈ l
  | (x, y) :: l, e => by
    rw [List.lookup_cons] at e
    cases q : (a == x) with
    | true => rw [q] at e; cases e; rw [eq_of_beq q]; exact List.mem_cons_self ..
    | false => rw [q] at e; exact List.mem_cons_of_mem _ (lookup_mem e)
theorem lookup_none {α β : Type} [BEq α] [LawfulBEq α] {a : α} : ∀ {l : List (α × β)}, (l.map (·.1)).contains a = false → l.lookup a = none
  | [], _ => rfl
  | (x, y) :: l, e => by
    rw [List.map_cons, List.contains_cons, Bool.or_eq_false_iff] at e
    rw [List.lookup_cons, e.1]
    exact lookup_none e.2
def patKs (fd : Fn) (p : Nat) (ks : List Str) : Bool := match fd.pats[p]? with
  | some q => decide (q.ks = ks)
  | none => false
theorem patKs_ok {fd : Fn} {p : Nat} {ks : List Str} (h : patKs fd p ks = true) : ∃ q, fd.pats[p]? = some q ∧ q.ks = ks := by
  unfold patKs at h
  split at h
  · rename_i q hq
    exact ⟨q, hq, of_decide_eq_true h⟩
  · cases h
def metB (t : Tb) (m : Str) (ds : Dps) (ks : List Str) : Bool := ds.all fun q => match t.cls[q.1]?, t.tab[q.2.1]? with
  | some d, some fd => d.mets.contains (m, q.2.1) && patKs fd q.2.2 ks
  | _, _ => false
section
variable {t : Tb} {n : Nat} {M : Mc} {X : Cx} {W : WX}
/-- a method that is dispatched to stands -/
theorem metB_ok (O : Ok t n M X W) {m : Str} {ds : Dps} {ks : List Str} (h : metB t m ds ks = true) {c f p : Nat} (hc : ds.lookup c = some (f, p)) {C : Addr} (e : t.cl c = some C) :
    ∃ d fd q, t.cls[c]? = some d ∧ CdOk t X.K X.mg C d ∧ t.tab[f]? = some fd ∧ fd.pats[p]? = some q ∧ q.ks = ks ∧ Meth X.K C m (adr X.K fd.at_) := by
  have h1 := List.all_eq_true.mp h _ (lookup_mem hc)
  dsimp only at h1
  split at h1
  · rename_i d fd hd hf
    rw [Bool.and_eq_true] at h1
    obtain ⟨C', e', D⟩ := O.cls c d hd
    rw [e] at e'
    cases e'
    obtain ⟨q, hq, hk⟩ := patKs_ok h1.2
    obtain ⟨fd', hf', M'⟩ := D.met (m, f) (by simpa using h1.1)
    rw [hf] at hf'
    cases hf'
    exact ⟨d, fd, q, hd, D, hf, hq, hk, M'⟩
  · cases h1
theorem RepRs.cons1 {k : Kx} {T : Hp} {μ : List Addr} {σ : L2.St} {w : Pc.W} {v : V} {ws : List Pc.W} {vs : List V} (h : RepR k T μ σ w v) (hs : RepRs k T μ σ ws vs) : RepRs k T μ σ (w :: ws) (v :: vs) := ⟨v, vs, rfl, h, hs⟩
end
section
variable {t : Tb} {n : Nat} {M : Mc}
theorem s_met {e : Ex} {m : Str} {ds : Dps} {es kes : Exs} {xe : Expr} {xs : List Expr} {kws : List Keyword} {ks : List Str} {apos pos : Pos}
    (hx : (baseB xe && xs.all plainArg && decide (xs.length + kws.length + 1 < 30) && (apos.endLine == pos.line) && metB t m ds ks) = true) (A : ArgsOk t n M es kes xs kws ks) (he : SE t n M e xe) :
    SE t n M (.met e m ds es kes) (.Call (.Attribute xe m apos) xs kws pos) := fun X W O => by
  simp only [Bool.and_eq_true, decide_eq_true_eq] at hx
  obtain ⟨⟨⟨⟨x1, x2⟩, x3⟩, x4⟩, x5⟩ := hx
  refine ⟨fun pins sh σ H Q I ⟨T, Fr, μ, s, S, a0⟩ => ?_⟩
  unfold ev at a0
  refine call_meth x1 x2 (kw_some A.kn pos X.env).2.1 x3 x4 fun pl => ?_
  refine thn ((he X W O).run pins sh σ H _ I (rd_bind S a0 (Q1 := fun v H1 => ∃ T1 μ1 w s1, Same T T1 ∧ μ <+: μ1 ∧ Sim (t.k X) T1 Fr μ1 s1 σ H1 ∧ RepR (t.k X) T1 μ1 σ w v ∧ Aft (t.k X) T1 Fr μ1 W σ (rE (t.k X)) Q (metR (t.o n) m ds w (fun f p => (evs (t.o n) es s1).bind fun ws s2 => (evs (t.o n) kes s2).bind fun zs s3 => callR (t.o n) f p (w :: ws) zs s3) s1))
    fun T1 μ1 H1 v w s1 e1 p1 S1 r1 a1 => ⟨T1, μ1, w, s1, e1, p1, S1, r1, a1⟩)) fun u sh1 ⟨v, H1, I1, rv, T1, μ1, w, s1, e1, p1, S1, r1, a1⟩ => ?_
  unfold metR at a1
  split at a1
  · rename_i c ns hc
    split at a1
    · exact a1.elim
    · rename_i hm
      split at a1
      · rename_i f p hf
        obtain ⟨a, C, dx, hs, rfl, h1, h2, h3⟩ := S1.cls r1 hc
        obtain ⟨d, fd, q, hd, D, hfd, hq, hk, Me⟩ := metB_ok O x5 hf h1
        cases rv
        subst h3 hk
        refine getmeth_ok I1 h2 D.cls Me (lookup_none (by simpa using hm)) ?_
        refine call_args O Me.kp A I1 S1 a1 fun {H2 T2 μ2 s2 sh2 us ys vs zs ws2 zs2} e2 p2 I2 S2 ra va rz vz a2 => ?_
        exact run_call O hfd hq I2 S2 (RepRs.cons1 (r1.mono e2 p2) ra) (.cons rfl va) rz vz a2
      · exact a1.elim
  · exact a1.elim
def proB (t : Tb) (f : Str) (ds : Dps) : Bool := ds.all fun q => match t.cls[q.1]?, t.tab[q.2.1]? with
  | some d, some fd => d.pros.contains (f, q.2.1) && patKs fd q.2.2 []
  | _, _ => false
theorem Ok.no {t : Tb} {n : Nat} {M : Mc} {X : Cx} {W : WX} (O : Ok t n M X W) : Ok t n M X noW :=
  ⟨O.N, O.sc, O.fn, O.fr, O.co, O.room, O.nd, O.calm, fun u s' ⟨_, _, _, _, _, _, _, _, _, _, _, _, _, _, _, _, w⟩ => w.elim, O.fns, O.cls, O.sta, O.clt, O.xcs⟩
theorem noX_ok {α β : Type} {k : Kx} {T Fr : Hp} {μ : List Addr} {W W' : WX} {σ : L2.St} {Rp : RpT α β} {Q : β → Hp → Prop} {r : Res α} (h : Aft k T Fr μ W σ Rp Q (noX r)) : Aft k T Fr μ W' σ Rp Q r := by
  cases r with
  | ok a s => exact h
  | exc _ _ => exact h.elim
  | stuck => exact h.elim
theorem in1_rm {k : Nat} {A : Around} (r : Rm (k + 1) A) : Rm k A.in1 := ⟨r.r.in1, r.g⟩
theorem s_prp {e : Ex} {f : Str} {ds : Dps} {xe : Expr} {pos : Pos} (hx : (baseB xe && proB t f ds) = true) (he : SE t n M e xe) : SE t n M (.prp e f ds) (.Attribute xe f pos) := fun X W O => by
  rw [Bool.and_eq_true] at hx
  refine ⟨fun pins sh σ H Q I ⟨T, Fr, μ, s, S, a0⟩ => ?_⟩
  unfold ev at a0
  refine attr_of (base_ok hx.1 _ _ _) (thn ((he X W O).run pins sh σ H _ I (rd_bind S a0 (Q1 := fun v H1 => ∃ T1 μ1 w s1, Sim (t.k X) T1 Fr μ1 s1 σ H1 ∧ RepR (t.k X) T1 μ1 σ w v ∧ Aft (t.k X) T1 Fr μ1 W σ (rE (t.k X)) Q (match clsW s1 w with
    | some (c, _) => noX (dispR (t.o n) ds c [w] [] s1)
    | none => .stuck)) fun T1 μ1 H1 v w s1 e1 p1 S1 r1 a1 => ⟨T1, μ1, w, s1, S1, r1, a1⟩)) fun u sh1 ⟨v, H1, I1, rv, T1, μ1, w, s1, S1, r1, a1⟩ => ?_)
  split at a1
  · rename_i c ns hc
    unfold dispR at a1
    split at a1
    · rename_i g p hf
      obtain ⟨a, C, dx, hs, rfl, h1, h2, h3⟩ := S1.cls r1 hc
      have b := List.all_eq_true.mp hx.2 _ (lookup_mem hf)
      dsimp only at b
      split at b
      · rename_i d fd hd hfd
        rw [Bool.and_eq_true] at b
        obtain ⟨C', e', D⟩ := O.cls c d hd
        rw [show t.cl c = some C from h1] at e'
        cases e'
        obtain ⟨q, hq, hk⟩ := patKs_ok b.2
        obtain ⟨fd', pa, hf', hp⟩ := D.pro (f, g) (by simpa using b.1)
        rw [hfd] at hf'
        cases hf'
        cases rv
        obtain ⟨mA, OM, _, _, _, _⟩ := ins_get I1.hok h2
        obtain ⟨od, J, _⟩ := OM.look
        obtain ⟨rest, hrec⟩ := hp.rec_
        have I2 := I1.tok (sh1.toks + 1)
        have hcl : (PySem.W.clsIn X.K C).isSome = true := by
          obtain ⟨cd, hc, _⟩ := PySem.W.any_some D.cls.hd
          rw [hc]
          rfl
        refine PySem.W.get_bind I1.kIn J (PySem.W.plainGet_of (D.cls.get f)).1 (PySem.W.findObj_data hcl hp.at_ hp.get hp.tak) (PySem.W.plainGet_of (D.cls.get f)).2 (wpAny_call (PySem.W.prop_get (s := { sh1 with toks := sh1.toks + 1 }) I1.kIn hrec ?_))
        have run := run_at O.no hfd hq (A := X.A.in1) (sh := { sh1 with toks := sh1.toks + 1 }) (us := [.ref a]) (ys := []) (zs := []) (xs := []) (in1_rm (O.room.mono (by omega))) I2.env0.in1 S1 (RepRs.cons1 (ws := []) (vs := []) r1 rfl) (.cons rfl .nil) rfl .nil (noX_ok a1)
        rw [hk] at run
        refine codeAny_mono run fun r s' hq' => ?_
        cases r with
        | error er =>
          obtain ⟨_, _, _, _, _, _, _, _, _, _, _, _, z⟩ := (show L2.CX X.prog X.w X.stack H1 _ (fun _ _ _ => False) er s' from hq')
          exact z.elim
        | ok fl =>
          cases fl with
          | ret u =>
            obtain ⟨v, H', I3, rv, q3⟩ := I2.after hq'
            show wpAny _ _ (handedOut u) _ _ _
            rw [PySem.W.handedOut_of (handed_of rv)]
            exact wpAny_pure ⟨v, H', I3, rv, q3⟩
          | next => exact hq'.elim
          | brk => exact hq'.elim
          | cont => exact hq'.elim
      · cases b
    · exact a1.elim
  · exact a1.elim
def newB (t : Tb) (c f p : Nat) (x : Str) (ks : List Str) : Bool := match t.cls[c]?, t.tab[f]? with
  | some d, some fd => decide (d.name = x) && decide (d.init = some f) && patKs fd p ks
  | _, _ => false
theorem run_new {X : Cx} {W : WX} (O : Ok t n M X W) {c f p : Nat} {fro : Bool} {fd : Fn} {q : Pat} {C : Addr} (hf : t.tab[f]? = some fd) (hp : fd.pats[p]? = some q) (hC : t.cl c = some C) (Mk_ : Mk X.K C (adr X.K fd.at_)) {ws zs : List Pc.W} {pins : List (Addr × Obj)} {σ : L2.St} {H T Fr : Hp} {μ : List Addr} {s : Ss} {sh : Shared} {vs xs : List V} {us ys : List Value} {Q : VK}
    (I : Inv X pins σ H sh) (S : Sim (t.k X) T Fr μ s σ H) (h1 : RepRs (t.k X) T μ σ ws vs) (v1 : Vals vs us) (h2 : RepRs (t.k X) T μ σ zs xs) (v2 : Vals xs ys)
    (a0 : Aft (t.k X) T Fr μ W σ (rE (t.k X)) Q (newR (t.o n) c f p fro ws zs s)) : wpAny (model X.prog X.w) X.A (call (.ref C) us (q.ks.zip ys)) (EP X pins σ Q) X.xe sh := by
  have hx : H (sh.heap.objs.size + 1) = none := I.hok.fresh (Nat.le_succ _)
  have hd : H sh.heap.objs.size = none := I.hok.fresh (Nat.le_refl _)
  have ne : sh.heap.objs.size ≠ sh.heap.objs.size + 1 := Nat.ne_of_lt (Nat.lt_succ_self _)
  have I2 := Inv.made (C := C) I
  have S2 := S.enter.cellO (c := c) (C := C) hx hd ne hC
  have hl : μ.length = s.g.length := S.len
  have at_ : (μ ++ [sh.heap.objs.size + 1])[s.g.length]? = some (sh.heap.objs.size + 1) := by rw [← hl]; simp
  have ns : Pc.run t.tab n f p (.c s.g.length :: ws) zs (s.g ++ [.obj c []]) ≠ .stuck := fun e => by
    unfold newR at a0
    have e : t.o n f p (.c s.g.length :: ws) zs (s.g ++ [.obj c []]) = .stuck := e
    rw [e] at a0
    exact a0.elim
  obtain ⟨b1, b2, l2⟩ := run_told hf hp ns
  have b1 : noB ws = true := by simpa [noB, Pc.W.isB] using b1
  have rm : Rm (3 * n) (X.A.under (.builtin "type.__call__" ⟨.ref C :: us, q.ks.zip ys⟩)) := by
    have := O.room.mono (show 3 * n + 1 ≤ 3 * n + 2 by omega)
    exact ⟨this.r.make C us (q.ks.zip ys), this.g⟩
  refine wpAny_call (make_map (f := adr X.K fd.at_) I.kIn Mk_.makes Mk_.init (beq_iff_eq.mp Mk_.fn) (codeAny_mono ((O.fns X.base f fd hf).run p q hp _ X.stack _ _ (Value.ref (sh.heap.objs.size + 1) :: us) ys (.c s.g.length :: ws) zs (V.ref (sh.heap.objs.size + 1) :: vs) xs T (lendAll Fr s σ H) (μ ++ [sh.heap.objs.size + 1]) (s.g ++ [.obj c []])
    (fun v H2 => v = .non ∧ Q (.ref (sh.heap.objs.size + 1)) H2) (fun C d H => W C d σ H) rm (I2.env0.make C us (q.ks.zip ys)) S2 ⟨_, _, rfl, ⟨_, at_, rfl⟩, (h1.ws b1).mono (fun _ _ z => z) (List.prefix_append _ _)⟩ (.cons rfl v1) ((h2.ws b2).mono (fun _ _ z => z) (List.prefix_append _ _)) v2 ((h2.vlen v2).trans l2) ?_) fun r s' hq' => ?_))
  · unfold newR at a0
    have a0 : Aft (t.k X) T Fr μ W σ (rE (t.k X)) Q (match Pc.run t.tab n f p (.c s.g.length :: ws) zs (s.g ++ [.obj c []]) with
      | .ok (.d .non) g => newD s.g.length fro { s with g := g }
      | .exc e g => .exc e { s with g := g }
      | _ => .stuck) := a0
    cases er : Pc.run t.tab n f p (.c s.g.length :: ws) zs (s.g ++ [.obj c []]) with
    | stuck => exact absurd er ns
    | exc x g' =>
      rw [er] at a0
      exact fun T' μ' H' C' d e' p' S' er => a0 T' μ' H' C' d e' ((List.prefix_append _ _).trans p') (S.leave S' e' ((List.prefix_append _ _).trans p')) er
    | ok w g' =>
      rw [er] at a0
      intro T' μ' H' v e' p' S' r'
      split at a0
      · rename_i g2 eg
        cases eg
        refine ⟨r', ?_⟩
        have pre := (List.prefix_append μ [sh.heap.objs.size + 1]).trans p'
        unfold newD at a0
        cases fro with
        | false => exact a0 T' μ' H' _ e' pre (S.leave S' e' pre) ⟨_, pre_get p' at_, rfl⟩
        | true =>
          simp only [if_true] at a0
          split at a0
          · rename_i c' fs hg
            split at a0
            · rename_i hlen
              have hμ : μ ++ [sh.heap.objs.size + 1] = μ' := by
                refine List.IsPrefix.eq_of_length p' ?_
                rw [List.length_append, S'.len, hl]
                exact hlen.symm
              subst hμ
              have hgg : g' = g'.take s.g.length ++ [.obj c' fs] := by
                have h3 : s.g.length < g'.length := by have : g'.length = s.g.length + 1 := hlen; omega
                have hg : g'[s.g.length]? = some (.obj c' fs) := hg
                have h4 := List.take_succ (l := g') (i := s.g.length)
                rw [hg, List.take_of_length_le (by have : g'.length = s.g.length + 1 := hlen; omega)] at h4
                exact h4
              rw [hgg] at S'
              obtain ⟨T2, e2, S3, r3⟩ := S'.pop
              exact a0 T2 μ H' _ (e'.trans e2) (List.prefix_refl _) (S.leave S3 (e'.trans e2) (List.prefix_refl _)) r3
            · exact a0.elim
          · exact a0.elim
      · rename_i eg
        cases eg
      · exact a0.elim
  · cases r with
    | error e => exact passAt O.tk σ pins _ _ e s' I2 hq'
    | ok fl =>
      cases fl with
      | ret u =>
        obtain ⟨v, H', I3, rv, ev, q3⟩ := I2.after hq'
        subst ev
        exact ⟨rv, ⟨V.ref (sh.heap.objs.size + 1), H', I3, rfl, q3⟩⟩
      | next => exact hq'.elim
      | brk => exact hq'.elim
      | cont => exact hq'.elim
theorem s_new {c f p : Nat} {fro : Bool} {es kes : Exs} {x : Str} {px pos : Pos} {xs : List Expr} {kws : List Keyword} {ks : List Str} (hx : (newB t c f p x ks && glB M.sc x && plainName x) = true) (A : ArgsOk t n M es kes xs kws ks) :
    SE t n M (.new c f p fro es kes) (.Call (.Name x px) xs kws pos) := fun X W O => by
  simp only [Bool.and_eq_true] at hx
  obtain ⟨⟨x1, x2⟩, x3⟩ := hx
  unfold newB at x1
  split at x1
  · rename_i d fd hd hfd
    simp only [Bool.and_eq_true, decide_eq_true_eq] at x1
    obtain ⟨⟨y1, y2⟩, y3⟩ := x1
    obtain ⟨C, hC, D⟩ := O.cls c d hd
    obtain ⟨q, hq, rfl⟩ := patKs_ok y3
    obtain ⟨fd', hf', Mk_⟩ := D.init f y2
    rw [hfd] at hf'
    cases hf'
    subst y1
    refine ⟨fun pins sh σ H Q I ⟨T, Fr, μ, s, S, a0⟩ => ?_⟩
    unfold ev at a0
    refine wpAny_Call_Name_kw (ld_glob I (glB_ok O x2) D.glo ?_ (plainName_a x3))
    exact call_args O Mk_.kp A I S a0 fun {H2 T2 μ2 s2 sh2 us ys vs zs ws2 zs2} e2 p2 I2 S2 ra va rz vz a2 => run_new O hfd hq hC Mk_ I2 S2 ra va rz vz a2
  · cases x1
theorem s_sta {f p : Nat} {es kes : Exs} {x m : Str} {px apos pos : Pos} {xs : List Expr} {kws : List Keyword} {ks : List Str} 
    (hx : (t.stas.contains (x, m) && (match t.tab[f]? with | some fd => decide (fd.at_ = .sta x m) && patKs fd p ks | none => false) && glB M.sc x && plainName x && xs.all plainArg && decide (xs.length + kws.length + 1 < 30) && (apos.endLine == pos.line)) = true) (A : ArgsOk t n M es kes xs kws ks) :
    SE t n M (.call f p es kes) (.Call (.Attribute (.Name x px) m apos) xs kws pos) := fun X W O => by
  simp only [Bool.and_eq_true, decide_eq_true_eq] at hx
  obtain ⟨⟨⟨⟨⟨⟨x0, x1⟩, x2⟩, x3⟩, x4⟩, x5⟩, x6⟩ := hx
  split at x1
  · rename_i fd hfd
    rw [Bool.and_eq_true] at x1
    obtain ⟨y1, y3⟩ := x1
    have y1 := of_decide_eq_true y1
    obtain ⟨q, hq, rfl⟩ := patKs_ok y3
    obtain ⟨gl, mc, pa, rest, rd_, fc, rec_⟩ := O.sta (x, m) (by simpa using x0)
    refine ⟨fun pins sh σ H Q I ⟨T, Fr, μ, s, S, a0⟩ => ?_⟩
    unfold ev at a0
    refine call_meth rfl x4 (kw_some A.kn pos X.env).2.1 x5 x6 fun pl => ?_
    refine ld_glob I (glB_ok O x2) gl ?_ (plainName_a x3)
    refine PySem.W.method_cls I.kIn rd_.ga ?_
    refine PySem.W.cls_bind I.kIn rd_.rd fc ?_
    refine wpAny_call (PySem.W.sm_get (s := { sh with toks := sh.toks + 1 }) I.kIn rec_ (PySem.W.handed_on rfl ?_))
    have FA := O.fns X.base f fd hfd
    have kp := FA.kp
    rw [y1] at kp
    refine call_args O kp A (I.tok _) S a0 fun {H2 T2 μ2 s2 sh2 us ys vs zs ws2 zs2} e2 p2 I2 S2 ra va rz vz a2 => ?_
    have := run_call O hfd hq I2 S2 ra va rz vz a2
    rw [y1] at this
    exact this
  · cases x1
end
end Pc

set_option Elab.async false
set_option linter.all false
set_option maxRecDepth 100000
set_option maxHeartbeats 4000000
namespace Pc
open PySem L2
/-- an evaluation's end, cut at its first part -/
theorem Aft.cut {α β γ δ : Type} {k : Kx} {T Fr : Hp} {μ : List Addr} {W : WX} {σ : L2.St} {Rp : RpT α β} {Rq : RpT γ δ} {Q : δ → Hp → Prop} {r : Res α} {g : α → Ss → Res γ} (ha : Aft k T Fr μ W σ Rq Q (r.bind g)) :
    Aft k T Fr μ W σ Rp (fun v H' => ∃ T' μ' a s', Same T T' ∧ μ <+: μ' ∧ Sim k T' Fr μ' s' σ H' ∧ Rp T' Fr μ' s' σ H' a v ∧ Aft k T' Fr μ' W σ Rq Q (g a s')) r := by
  cases r with
  | ok a s => exact fun T' μ' H' v e p S r => ⟨T', μ', a, s, e, p, S, r, Aft.mono ha e p⟩
  | exc x s => exact ha
  | stuck => exact ha
section
variable {t : Tb} {n : Nat} {M : Mc} {X : Cx} {W : WX} {pins : List (Addr × Obj)} {σ : L2.St} {H T Fr : Hp} {μ : List Addr} {s : Ss} {sh : Shared} {Q : VK}
/-- data's type, told by the model -/
theorem typ_of (I : Inv X pins σ H sh) (S : Sim (t.k X) T Fr μ s σ H) {w : Pc.W} {v : V} {u : Value} (r : RepR (t.k X) T μ σ w v) (rv : RelV v u) {d : D} (e : look s w = some d) (hd : d.noO = true) : PySem.W.Looks (model X.prog X.w) sh.heap (typeOf u) (.type (tyD d)) := by
  obtain ⟨P, Z, p, _⟩ := kit_of I rv (top_ty (K := X.K) rfl S.tH (S.look r e) hd)
  exact Z.ty _ _ I.kIn p
theorem tyD_all {d : D} (hd : d.noO = true) : tyD d ∈ tyAll := by
  cases d with
  | obj c ns l => cases hd
  | exn _ _ _ => cases hd
  | _ => simp [tyD, tyAll]
theorem tyW_some {y : Pc.W} {T : String} (h : tyW s y = some T) : ∃ d, look s y = some d ∧ d.noO = true ∧ T = tyD d := by
  unfold tyW at h
  split at h
  · rename_i d hl
    split at h
    · rename_i hd
      cases h
      exact ⟨d, hl, hd, rfl⟩
    · cases h
  · cases h
/-- the instance at a, as the library sees it -/
theorem ins_at (I : Inv X pins σ H sh) {a C dx : Addr} {fs : List (Str × V)} (e : H a = some (.ins C dx fs)) : ∃ ox od, PySem.W.InstAt sh.heap a ox C (some od) := by
  obtain ⟨mA, OM, _⟩ := ins_get I.hok e
  obtain ⟨od, J, _⟩ := OM.look
  exact ⟨_, od, J⟩
/-- a call of a special method -/
theorem run_sp (O : Ok t n M X W) {m : Str} {ds : Dps} (hm : metB t m ds [] = true) {c : Nat} {C : Addr} (hC : t.cl c = some C) {α : Type} {Rq : RpT α V} {g : Pc.W → Ss → Res α} {ws : List Pc.W} {vs : List V} {us : List Value} {A : Around} (hA : Rm (3 * n) A) (e0 : Env0 X.prog X.w X.K X.mg X.base A X.stack sh H)
    (I : Inv X pins σ H sh) (S : Sim (t.k X) T Fr μ s σ H) (h1 : RepRs (t.k X) T μ σ ws vs) (v1 : Vals vs us) {Q' : V → Hp → Prop} (a0 : Aft (t.k X) T Fr μ W σ Rq Q' ((dispR (t.o n) ds c ws [] s).bind g)) :
    ∃ (d : Cd) (fd : Fn), t.cls[c]? = some d ∧ CdOk t X.K X.mg C d ∧ Meth X.K C m (adr X.K fd.at_) ∧ wpAny (model X.prog X.w) A (call (.ref (adr X.K fd.at_)) us) (EP X pins σ (fun v H' => ∃ T' μ' w s', Same T T' ∧ μ <+: μ' ∧ Sim (t.k X) T' Fr μ' s' σ H' ∧ RepR (t.k X) T' μ' σ w v ∧ Aft (t.k X) T' Fr μ' W σ Rq Q' (g w s'))) X.xe sh := by
  unfold dispR at a0
  split at a0
  · rename_i f p hf
    obtain ⟨d, fd, q, hd, D, hfd, hq, hk, Me⟩ := metB_ok O hm hf hC
    refine ⟨d, fd, hd, D, Me, ?_⟩
    have run := run_at O hfd hq (zs := []) (xs := []) (ys := []) hA e0 S h1 v1 rfl .nil (a0.cut (Rp := rE (t.k X)))
    rw [hk] at run
    refine wpAny_call (codeAny_mono run fun r s' hq' => ?_)
    cases r with
    | error er => exact passAt O.tk σ pins H sh er s' I hq'
    | ok fl =>
      cases fl with
      | ret u => exact I.after hq'
      | next => exact hq'.elim
      | brk => exact hq'.elim
      | cont => exact hq'.elim
  · exact a0.elim
end
section
variable {t : Tb} {n : Nat} {M : Mc} {X : Cx} {W : WX} {pins : List (Addr × Obj)} {σ : L2.St} {H T Fr : Hp} {μ : List Addr} {s : Ss} {sh : Shared} {Q : VK}
theorem isBl_rep {k : Kx} {w : Pc.W} {v : V} {b : Bool} (h : isBl w = some b) (r : RepR k T μ σ w v) : v = .bl b := by
  unfold isBl at h
  split at h
  · cases h; exact r
  · cases h
/-- the classes of ds compare with one another -/
def nfB (t : Tb) (ds : Dps) : Bool := ds.all fun q => match t.cls[q.1]? with
  | some d => ds.all fun r => d.nf.contains r.1
  | none => false
def neB (t : Tb) (ne : Bool) (ds : Dps) : Bool := !ne
theorem right_of (O : Ok t n M X W) {ds : Dps} (hn : nfB t ds = true) {c : Nat} {d : Cd} {C : Addr} {fp : Nat × Nat} (hd : t.cls[c]? = some d) (D : CdOk t X.K X.mg C d) (hc : ds.lookup c = some fp) (I : Inv X pins σ H sh) (S : Sim (t.k X) T Fr μ s σ H) {y : Pc.W} {v : V} {u : Value} (r : RepR (t.k X) T μ σ y v) (rv : RelV v u)
    (h : (∃ c' ns, clsW s y = some (c', ns) ∧ ds.any (fun q => q.1 == c') = true) ∨ (∃ T', tyW s y = some T')) : ∃ tb, PySem.W.Looks (model X.prog X.w) sh.heap (typeOf u) tb ∧ PySem.W.notFirst X.K C tb = true := by
  rcases h with ⟨c', ns, h1, h2⟩ | ⟨T', h1⟩
  · obtain ⟨a, C', dx, hs, rfl, e1, e2, e3⟩ := S.cls r h1
    cases rv
    obtain ⟨ox, od, J⟩ := ins_at I e2
    refine ⟨_, J.type, D.nf c' ?_ C' e1⟩
    have b := List.all_eq_true.mp hn _ (lookup_mem hc)
    dsimp only at b
    rw [hd] at b
    obtain ⟨q, hq, e⟩ := List.any_eq_true.mp h2
    have := List.all_eq_true.mp b q hq
    rw [eq_of_beq e] at this
    simpa using this
  · obtain ⟨d', e1, e2, rfl⟩ := tyW_some h1
    refine ⟨_, typ_of I S r rv e1 e2, ?_⟩
    unfold PySem.W.notFirst
    rw [D.nosub _ (tyD_all e2)]
    simp
end
end Pc

set_option Elab.async false
set_option linter.all false
set_option maxRecDepth 100000
set_option maxHeartbeats 4000000
namespace PySem
namespace PcNe
open PySem.W PySem.Calls PyProof.Rows
section
variable {M : Model} {prog : Program} {w : World} {A : Around} {E : Value → Shared → Prop} {s : Shared} {K : W.Frag} {x C f : Addr} {ox : Obj} {od : Option Obj} {b tb : Value}
theorem bound_ne {args : List Value} {Q : Option Value → Shared → Prop} (X : K.In s.heap) (I : W.InstAt s.heap x ox C od) (hs : W.findIn K (.ref C) "__ne__" = some (some (.builtin "object.__ne__")))
    (h : wpAny M A (call (.builtin "object.__ne__") (.ref x :: args)) (fun v => Q (some v)) E s) : wpAny M A (callSpecialIfBound? (.ref x) "__ne__" args) Q E s := by
  have fin : wpAny M A (call (.builtin "object.__ne__") ([.ref x] ++ args) >>= fun v => pure (some v)) Q E s := wpAny_bind (wpAny_mono h (fun v s' z => wpAny_pure z) fun _ _ z => z)
  simp only [callSpecialIfBound?, bindSpecialIfBound?]
  refine wpAny_holding (wpAny_bind (wpAny_bind (wpAny_bind (I.type.here ((W.looks_findIn X hs).here (wpAny_bind (wpAny_askSetting (wpAny_ite ?_))))))))
  split
  · exact wpAny_bind (wpAny_of_eq (F.cmp_object.ne.bind _) (wpAny_pure (by exact fin)))
  · exact wpAny_tryCatch (wpAny_bind (wpAny_of_eq (F.cmp_object.ne.bind _) (wpAny_pure (by exact fin))))
theorem entry_ne {Q : Fin → Shared → Prop} (hu : A.units < cLine) (X : K.In s.heap) (I : W.InstAt s.heap x ox C od) (hs : W.findIn K (.ref C) "__eq__" = some (some (.ref f))) (hf : W.isFn K (.ref f) = true)
    (h : wpAny M A (call (.ref f) [.ref x, b]) (W.BoolBack fun k s' => Q (.done (.ret (.bool (!k)))) s') E s) : wpAny M A (Builtin.«object.__ne__» ⟨[.ref x, b], []⟩) Q E s := by
  unfold Builtin.«object.__ne__»
  refine wpAny_bind (wpAny_pure ?_)
  refine wpAny_bind (wpAny_cRoomFor hu ?_)
  refine wpAny_bind (W.ifBound_K X I hs hf (wpAny_mono h (fun v s' z => ?_) fun _ _ z => z))
  cases v <;> first | exact z.elim | skip
  refine wpAny_bind (wpAny_truthy_bool ?_)
  exact wpAny_pure z
theorem ne_K {Q : Value → Shared → Prop} (hu : A.units < cLine) (hu2 : A.in1.units < cLine) (X : K.In s.heap) (I : W.InstAt s.heap x ox C od) (hb : W.Looks (model prog w) s.heap (typeOf b) tb) (hn : W.notFirst K C tb = true)
    (hne : W.findIn K (.ref C) "__ne__" = some (some (.builtin "object.__ne__"))) (hs : W.findIn K (.ref C) "__eq__" = some (some (.ref f))) (hf : W.isFn K (.ref f) = true) (hm : W.mroIn K C (.type "object") = some true)
    (h : wpAny (model prog w) A.in1 (call (.ref f) [.ref x, b]) (W.BoolBack fun k s' => Q (.bool (!k)) s') E s) : wpAny (model prog w) A (richCompare .NotEq (.ref x) b) Q E s := by
  have one : wpAny (model prog w) A (tryCompare (.ref x) "__ne__" b) (fun r s' => ∃ v, r = some v ∧ Q v s') E s := by
    unfold tryCompare
    refine wpAny_bind (bound_ne X I hne (wpAny_call (codeAny_call_builtin F.cmp_object.ne.plain F.cmpEntry_ne (W.check_slot F.cmpKind_ne F.cmpSplit_ne (I.type.andThen (W.looks_mroIn X hm)) (F.cmpArgs_ne _ _) (entry_ne hu2 X I hs hf (wpAny_mono h (fun v s' z => ?_) fun _ _ z => z))))))
    cases v <;> first | exact z.elim | skip
    exact wpAny_pure ⟨_, rfl, z⟩
  unfold richCompare
  simp only [oneThing_ref]
  refine wpAny_holding (wpAny_bind (wpAny_cRoomFor hu ?_))
  refine wpAny_bind (I.type.here (wpAny_bind (hb.here ?_)))
  split
  · rename_i q
    have e : W.subIn K tb (.ref C) = some false := by
      rcases Bool.or_eq_true_iff.mp hn with e | e
      · rw [beq_iff_eq.mp e] at q; simp at q
      · exact beq_iff_eq.mp e
    refine wpAny_bind ((W.looks_subIn X e).here ?_)
    simp only [Bool.false_eq_true, if_false]
    refine wpAny_bind (wpAny_mono one (fun r s' z => ?_) fun _ _ e => e)
    obtain ⟨v, rfl, hq⟩ := z
    exact wpAny_pure hq
  · refine wpAny_bind (wpAny_pure ?_)
    simp only [Bool.false_eq_true, if_false]
    refine wpAny_bind (wpAny_mono one (fun r s' z => ?_) fun _ _ e => e)
    obtain ⟨v, rfl, hq⟩ := z
    exact wpAny_pure hq
end
end PcNe
end PySem

set_option Elab.async false
set_option linter.all false
set_option maxRecDepth 100000
set_option maxHeartbeats 4000000
namespace Pc
open PySem L2
section
variable {t : Tb} {n : Nat} {M : Mc} {X : Cx} {W : WX} {pins : List (Addr × Obj)} {σ : L2.St} {H T Fr : Hp} {μ : List Addr} {s : Ss} {sh : Shared} {Q : VK}
/-- what stands behind two operands -/
def TwoR (t : Tb) (X : Cx) (W : WX) (σ : L2.St) (K : Pc.W → Pc.W → Ss → Res Pc.W) (Q : VK) (x y : V) (H : Hp) : Prop :=
  ∃ T Fr μ wa wb s, Sim (t.k X) T Fr μ s σ H ∧ RepR (t.k X) T μ σ wa x ∧ RepR (t.k X) T μ σ wb y ∧ Aft (t.k X) T Fr μ W σ (rE (t.k X)) Q (K wa wb s)
theorem two_cut {a b : Ex} {K : Pc.W → Pc.W → Ss → Res Pc.W} (h : rd (t.k X) W (rE (t.k X)) (fun s => (ev (t.o n) a s).bind fun x s1 => (ev (t.o n) b s1).bind fun y s2 => K x y s2) σ H Q) :
    rd (t.k X) W (rE (t.k X)) (ev (t.o n) a) σ H fun x H1 => rd (t.k X) W (rE (t.k X)) (ev (t.o n) b) σ H1 fun y H2 => TwoR t X W σ K Q x y H2 := by
  obtain ⟨T, Fr, μ, s, S, a0⟩ := h
  refine rd_bind S a0 fun T1 μ1 H1 v w s1 e1 p1 S1 r1 a1 => rd_bind S1 a1 fun T2 μ2 H2 v2 w2 s2 e2 p2 S2 r2 a2 => ?_
  exact ⟨T2, Fr, μ2, w, w2, s2, S2, r1.mono e2 p2, r2, a2⟩
end
section
variable {t : Tb} {n : Nat} {M : Mc}
def cmoB (f : C2) (op : CmpOp) : Bool := match f, op with
  | .eq, .Eq => true
  | .ne, .NotEq => true
  | _, _ => false
theorem res_bl {α : Type} {o : Option Bool} {g : Bool → α} {s : Ss} {k : Kx} {T Fr : Hp} {μ : List Addr} {W : WX} {σ : L2.St} {β : Type} {Rp : RpT α β} {Q : β → Hp → Prop} (h : Aft k T Fr μ W σ Rp Q (Res.of (o.map g) s)) : ∃ b, o = some b ∧ Aft k T Fr μ W σ Rp Q (.ok (g b) s) := by
  cases o with
  | none => exact h.elim
  | some b => exact ⟨b, rfl, h⟩
theorem pc_cmo {f : C2} {op : CmpOp} {ds : Dps} {a b : Ex} {xa xb : Expr} (hx : (cmoB f op && metB t "__eq__" ds [] && nfB t ds && c2B f op) = true) (ha : SE t n M a xa) (hb : SE t n M b xb) {X : Cx} {W : WX} (O : Ok t n M X W) :
    PC X op xa xb (rd (t.k X) W (rE (t.k X)) (ev (t.o n) (.cmo f ds a b))) := by
  simp only [Bool.and_eq_true] at hx
  obtain ⟨⟨⟨x1, x2⟩, x3⟩, x4⟩ := hx
  refine ⟨fun pins sh σ H Q I h => ?_⟩
  have h : rd (t.k X) W (rE (t.k X)) (fun s => (ev (t.o n) a s).bind fun x s1 => (ev (t.o n) b s1).bind fun y s2 => cmoR (t.o n) f ds x y s2) σ H Q := by
    obtain ⟨T, Fr, μ, s, S, a0⟩ := h
    unfold ev at a0
    exact ⟨T, Fr, μ, s, S, a0⟩
  refine binT (ha X W O) (hb X W O) I (two_cut h) fun v u sh2 x y H2 I2 rx ry ⟨T, Fr, μ, wa, wb, s, S, r1, r2, a0⟩ => ?_
  unfold cmoR at a0
  split at a0
  · rename_i c hc
    -- an own object to the left
    unfold owOf at hc
    split at hc
    case h_2 =>
      split at hc
      · cases hc
      · split at hc <;> cases hc
    rename_i c' ns hcl
    cases hc
    obtain ⟨p, C, dx, hs, rfl, h1, h2, h3⟩ := S.cls r1 hcl
    have h1 : t.cl c = some C := h1
    have side : (∃ c' ns, clsW s wb = some (c', ns) ∧ ds.any (fun q => q.1 == c') = true) ∨ (∃ T', tyW s wb = some T') := by
      split at a0
      · rename_i c' ns' hb'
        split at a0
        · rename_i hany; exact .inl ⟨c', ns', hb', hany⟩
        · exact a0.elim
      · split at a0
        · rename_i hty; exact .inr (Option.isSome_iff_exists.mp hty)
        · exact a0.elim
    have a0 : Aft (t.k X) T Fr μ W σ (rE (t.k X)) Q ((dispR (t.o n) ds c [wa, wb] [] s).bind fun w s1 => Res.of ((isBl w).map fun b => Pc.W.d (.bl (if f = .ne then !b else b))) s1) := by
      split at a0
      · split at a0
        · exact a0
        · exact a0.elim
      · split at a0
        · exact a0
        · exact a0.elim
    cases rx
    obtain ⟨m, hF⟩ := I2.fr
    obtain ⟨ox, od, J⟩ := ins_at I2 h2
    obtain ⟨d, hd⟩ := O.clt c C h1
    have hlook : ∃ fp, ds.lookup c = some fp := by
      unfold dispR at a0
      split at a0
      · rename_i f' p' hf; exact ⟨_, hf⟩
      · exact a0.elim
    obtain ⟨fp, hfp⟩ := hlook
    obtain ⟨C2, hC2, D2⟩ := O.cls c d hd
    rw [h1] at hC2
    cases hC2
    obtain ⟨tb, hb1, hb2⟩ := right_of O x3 hd D2 hfp I2 S r2 ry side
    have rs : RepRs (t.k X) T μ σ [wa, wb] [.ref p, y] := .cons1 r1 (.cons1 r2 rfl)
    unfold cmoB at x1
    split at x1
    · -- ==
      obtain ⟨d', fd, hd', D, Me, run⟩ := run_sp O x2 h1 (us := [.ref p, u]) (O.room.mono (by omega)) I2.env0 I2 S rs (.cons rfl (.cons ry .nil)) a0
      refine PySem.W.cmp_K (op := .Eq) O.room.r.units0 hF I2.ok.mod.kin J hb1 hb2 Me.at_ Me.fn (wpAny_mono run (fun w' s' z => ?_) fun _ _ e => e)
      obtain ⟨v', H', I3, rv, T', μ', wr, sr, e', p', S', r', a'⟩ := z
      obtain ⟨k, hk, a'⟩ := res_bl a'
      cases isBl_rep hk r'
      refine SlX.cmpback rv ⟨_, H', I3, rv, a'.here S' ?_⟩
      rw [if_neg (by decide)]
      exact rfl
    · -- !=
      obtain ⟨d', fd, hd', D, Me, run⟩ := run_sp O x2 h1 (us := [.ref p, u]) (in1_rm (O.room.mono (by omega))) I2.env0.in1 I2 S rs (.cons rfl (.cons ry .nil)) a0
      refine PcNe.ne_K O.room.r.units0 (in1_rm (k := 0) (O.room.mono (by omega))).r.units0 I2.kIn J hb1 hb2 D.ne Me.at_ Me.fn D.ob (wpAny_mono run (fun w' s' z => ?_) fun _ _ e => e)
      obtain ⟨v', H', I3, rv, T', μ', wr, sr, e', p', S', r', a'⟩ := z
      obtain ⟨k, hk, a'⟩ := res_bl a'
      cases isBl_rep hk r'
      cases rv
      refine ⟨.bl (!k), H', I3, rfl, a'.here S' ?_⟩
      rw [if_pos rfl]
      exact rfl
    · cases x1
  · rename_i p q hpq
    -- data
    unfold owOf at hpq
    split at hpq
    · cases hpq
    · split at hpq
      · cases hpq
      · split at hpq
        · rename_i p' q' h1 h2
          cases hpq
          obtain ⟨k, hk, a1⟩ := res_bl a0
          exact cmR (t := t) x4 O.room.r.units pins sh2 σ H2 x y v u Q I2 rx ry ⟨T, Fr, μ, s, σ, p, q, k, S, S.look r1 h1, S.look r2 h2, hk, a1.hereE S rfl⟩
        · cases hpq
  · exact a0.elim
theorem s_cmo {f : C2} {op : CmpOp} {ds : Dps} {a b : Ex} {xa xb : Expr} {pos : Pos} (hx : (cmoB f op && metB t "__eq__" ds [] && nfB t ds && c2B f op) = true) (hm : behindInMarks op xb = false) (ha : SE t n M a xa) (hb : SE t n M b xb) :
    SE t n M (.cmo f ds a b) (.Compare xa [op] [xb] pos) := fun X W O => pe_cmp (pc_cmo hx ha hb O) hm
/-- the same as a test -/
theorem st_cmo {f : C2} {op : CmpOp} {ds : Dps} {a b : Ex} {xa xb : Expr} {pos : Pos} (hx : (cmoB f op && metB t "__eq__" ds [] && nfB t ds && c2B f op) = true) (hm : behindInMarks op xb = false) (ha : SE t n M a xa) (hb : SE t n M b xb) :
    ST t n M (.cm (.cmo f ds a b)) (.Compare xa [op] [xb] pos) := fun X W O => by
  refine PT.weak (pt_cmp (pc_cmo hx ha hb O) hm) fun σ H Q ⟨T, Fr, μ, s, S, a⟩ => ?_
  unfold evT at a
  refine rd_bind S a fun T1 μ1 H1 v w s1 e1 p1 S1 r1 a => ?_
  split at a
  · rename_i k
    cases (show v = _ from r1)
    exact ⟨k, rfl, a.here S1 rfl⟩
  · exact a.elim
end
end Pc

set_option Elab.async false
set_option linter.all false
set_option maxRecDepth 100000
set_option maxHeartbeats 4000000
namespace PySem
namespace PcBo
open PySem.W PySem.Calls PyProof.Rows
variable {prog : Program} {w : World} {A : Around} {E : Value → Shared → Prop} {s : Shared} {K : W.Frag} {x C f L : Addr} {ox : Obj} {od : Option Obj} {h₀ : Heap} {m : Str → Option Value}
/-- bool(x) by an own __bool__ -/
theorem bool_in (x : Addr) (pre : Shared → Prop) (hp : ∀ s, pre s → ∃ (h₀ : Heap) (L : Addr) (m : Str → Option Value) (ox : Obj) (od : Option Obj), Fr h₀ L s.heap m ∧ K.In h₀ ∧ W.InstAt s.heap x ox C od)
    (hs : W.findIn K (.ref C) "__bool__" = some (some (.ref f))) (hf : W.isFn K (.ref f) = true) :
    MeetsIn prog w (Builtin.«bool.__new__» ⟨[.type "bool", .ref x], []⟩) (fun A R s => pre s ∧ wpAny (model prog w) A.in1 (call (.ref f) [.ref x]) (W.BoolBack fun k s' => R (.ok (.ret (.bool k))) s') (fun e s' => R (.error e) s') s) :=
  .of_wp fun A R s h => by
    obtain ⟨h1, h2⟩ := h
    obtain ⟨h₀, L, m, ox, od, F1, F2, J⟩ := hp s h1
    obtain ⟨hp, g, d, tk, os⟩ := s
    have f1 := F.conv_sub_bool
    repeat (any_goals (first | assumption | (with_reducible refine W.truthy_K F1 F2 J hs hf (wpAny_mono h2 (fun v s' z => ?_) fun _ _ z => z)) | wp_step))
    all_goals (cases v <;> first | exact z.elim | exact wpAny_pure ⟨_, rfl, z⟩)
theorem bool_own {Q : Value → Shared → Prop} (hF : Fr h₀ L s.heap m) (X₀ : K.In h₀) (J : W.InstAt s.heap x ox C od) (hs : W.findIn K (.ref C) "__bool__" = some (some (.ref f))) (hf : W.isFn K (.ref f) = true)
    (h : wpAny (model prog w) A.in1.in1 (call (.ref f) [.ref x]) (W.BoolBack fun k s' => Q (.bool k) s') E s) : wpAny (model prog w) A (call (.type "bool") [.ref x]) Q E s :=
  callType_newIn F.called_bool F.newNe_bool (F.typeCall_bool_1 (.ref x)) (F.newCall_bool_1 (.ref x)) (fun obj => F.args_object_init_2 obj (.ref x)) F.entry_bool_new
    (bool_in x (fun s' => s' = s) (fun s' e => by subst e; exact ⟨h₀, L, m, ox, od, hF, X₀, J⟩) hs hf) ⟨rfl, wpAny_mono h (fun v s' z => by cases v <;> first | exact z.elim | exact ⟨rfl, z⟩) fun _ _ z => z⟩
end PcBo
end PySem

namespace Pc
open PySem L2
section
variable {t : Tb} {n : Nat} {M : Mc} {X : Cx} {W : WX} {pins : List (Addr × Obj)} {σ : L2.St} {H T Fr : Hp} {μ : List Addr} {s : Ss} {sh : Shared} {Q : VK}
/-- a value's truth, by an own __bool__ or by data -/
theorem tru_any (O : Ok t n M X W) {ds : Dps} (hm : metB t "__bool__" ds [] = true) {w : Pc.W} {v : V} {u : Value} (I : Inv X pins σ H sh) (S : Sim (t.k X) T Fr μ s σ H) (r : RepR (t.k X) T μ σ w v) (rv : RelV v u)
    {α β : Type} {Rq : RpT α β} {g : Bool → Ss → Res α} {Q' : β → Hp → Prop} (a0 : Aft (t.k X) T Fr μ W σ Rq Q' ((truR (t.o n) ds w s).bind g)) :
    wpAny (model X.prog X.w) X.A (truthy u) (TP X pins σ fun b H' => ∃ T' μ' s1, Same T T' ∧ μ <+: μ' ∧ Sim (t.k X) T' Fr μ' s1 σ H' ∧ Aft (t.k X) T' Fr μ' W σ Rq Q' (g b s1)) X.xe sh := by
  unfold truR at a0
  split at a0
  · rename_i c ns hc
    rw [bind_assoc] at a0
    obtain ⟨p, C, dx, hs, rfl, h1, h2, h3⟩ := S.cls r hc
    cases rv
    obtain ⟨m, hF⟩ := I.fr
    obtain ⟨ox, od, J⟩ := ins_at I h2
    unfold dispR at a0
    split at a0
    · rename_i f q hf
      obtain ⟨d, fd, pt, hd, D, hfd, hq, hk, Me⟩ := metB_ok O hm hf h1
      have run := run_at O hfd hq (zs := []) (xs := []) (ys := []) (us := [.ref p]) (O.room.mono (by omega)) I.env0 S (RepRs.cons1 (ws := []) (vs := []) r rfl) (.cons rfl .nil) rfl .nil (a0.cut (Rp := rE (t.k X)))
      rw [hk] at run
      refine PySem.W.truthy_K hF I.ok.mod.kin J Me.at_ Me.fn (wpAny_call (codeAny_mono run fun rr s' hq' => ?_))
      cases rr with
      | error er => exact passAt O.tk σ pins H sh er s' I hq'
      | ok fl =>
        cases fl with
        | ret u =>
          obtain ⟨v', H', I3, rv', T', μ', wr, sr, e', p', S', r', a'⟩ := I.after hq'
          cases hb : isBl wr with
          | none => rw [hb] at a'; exact a'.elim
          | some b =>
            rw [hb] at a'
            cases isBl_rep hb r'
            cases rv'
            exact ⟨H', I3, T', μ', sr, e', p', S', a'⟩
        | next => exact hq'.elim
        | brk => exact hq'.elim
        | cont => exact hq'.elim
    · exact a0.elim
  · split at a0
    · rename_i d hd
      cases hb : truD d with
      | none => rw [hb] at a0; exact a0.elim
      | some b =>
        rw [hb] at a0
        exact tru_ok pins sh σ H v u _ I rv ⟨b, Top.tru S.tH (S.look r hd) hb, T, μ, s, fun _ _ z => z, List.prefix_refl _, S, a0⟩
    · exact a0.elim
theorem st_eo {ds : Dps} {a : Ex} {xa : Expr} (hx : (plainTest xa && metB t "__bool__" ds []) = true) (ha : SE t n M a xa) : ST t n M (.eo ds a) xa := fun X W O => by
  rw [Bool.and_eq_true] at hx
  refine ⟨fun pins sh σ H Q I ⟨T, Fr, μ, s, S, a0⟩ => ?_⟩
  unfold evT at a0
  refine PyProof.Rows.isTrue_plain (thn ((ha X W O).run pins sh σ H _ I (rd_bind S a0 (Q1 := fun v H1 => ∃ T1 Fr1 μ1 w s1, Sim (t.k X) T1 Fr1 μ1 s1 σ H1 ∧ RepR (t.k X) T1 μ1 σ w v ∧ Aft (t.k X) T1 Fr1 μ1 W σ rB Q (truR (t.o n) ds w s1)) fun T1 μ1 H1 v w s1 e1 p1 S1 r1 a1 => ⟨T1, Fr, μ1, w, s1, S1, r1, a1⟩)) fun u sh1 ⟨v, H1, I1, rv, T1, Fr1, μ1, w, s1, S1, r1, a1⟩ => ?_) (test_plain hx.1 _ _)
  have a1 : Aft (t.k X) T1 Fr1 μ1 W σ rB Q ((truR (t.o n) ds w s1).bind fun b s2 => .ok b s2) := by
    cases e : truR (t.o n) ds w s1 <;> (rw [e] at a1; exact a1)
  exact thn (tru_any O hx.2 I1 S1 r1 rv a1) fun b sh2 ⟨H2, I2, T2, μ2, s2, e2, p2, S2, a2⟩ => ⟨H2, I2, a2.here S2 rfl⟩
/-- a special method of one own object, its value as it is -/
theorem un_own (O : Ok t n M X W) {m : Str} {ds : Dps} (hm : metB t m ds [] = true) {c : Nat} {ns : List Str} {w : Pc.W} {v : V} (I : Inv X pins σ H sh) (S : Sim (t.k X) T Fr μ s σ H) (r : RepR (t.k X) T μ σ w v) (hc : clsW s w = some (c, ns)) (a0 : Aft (t.k X) T Fr μ W σ (rE (t.k X)) Q (dispR (t.o n) ds c [w] [] s)) :
    ∃ p C dx hs ox od g, v = .ref p ∧ H p = some (.ins C dx hs) ∧ PySem.W.InstAt sh.heap p ox C (some od) ∧ Meth X.K C m g ∧ wpAny (model X.prog X.w) X.A (call (.ref g) [.ref p]) (EP X pins σ Q) X.xe sh := by
  obtain ⟨p, C, dx, hs, rfl, h1, h2, h3⟩ := S.cls r hc
  obtain ⟨ox, od, J⟩ := ins_at I h2
  unfold dispR at a0
  split at a0
  · rename_i f q hf
    obtain ⟨d, fd, pt, hd, D, hfd, hq, hk, Me⟩ := metB_ok O hm hf h1
    have run := run_call O hfd hq (zs := []) (xs := []) (ys := []) (us := [.ref p]) I S (RepRs.cons1 (ws := []) (vs := []) r rfl) (.cons rfl .nil) rfl .nil a0
    rw [hk] at run
    exact ⟨p, C, dx, hs, ox, od, _, rfl, h2, J, Me, run⟩
  · exact a0.elim
def u1B : U1 → UnaryOp → Bool
  | .neg, .USub => true
  | .inv, .Invert => true
  | .not, .Not => true
  | _, _ => false
def u1N : U1 → Str
  | .neg => "__neg__"
  | .inv => "__invert__"
  | .not => "__bool__"
theorem s_uno {f : U1} {op : UnaryOp} {ds : Dps} {a : Ex} {xa : Expr} {pos : Pos} (hx : (u1B f op && metB t (u1N f) ds []) = true) (ha : SE t n M a xa) : SE t n M (.uno f ds a) (.UnaryOp op xa pos) := fun X W O => by
  rw [Bool.and_eq_true] at hx
  obtain ⟨x1, x2⟩ := hx
  refine ⟨fun pins sh σ H Q I ⟨T, Fr, μ, s, S, a0⟩ => ?_⟩
  unfold ev at a0
  refine PyProof.Rows.UnaryOp_ (thn ((ha X W O).run pins sh σ H _ I (rd_bind S a0 (Q1 := fun v H1 => ∃ T1 Fr1 μ1 w s1, Sim (t.k X) T1 Fr1 μ1 s1 σ H1 ∧ RepR (t.k X) T1 μ1 σ w v ∧ Aft (t.k X) T1 Fr1 μ1 W σ (rE (t.k X)) Q (unoR (t.o n) f ds w s1)) fun T1 μ1 H1 v w s1 e1 p1 S1 r1 a1 => ⟨T1, Fr, μ1, w, s1, S1, r1, a1⟩)) fun u sh1 ⟨v, H1, I1, rv, T1, Fr1, μ1, w, s1, S1, r1, a1⟩ => ?_)
  unfold unoR at a1
  unfold u1B at x1
  split at x1
  · -- -
    rw [if_neg (by decide)] at a1
    split at a1
    · rename_i c ns hc
      obtain ⟨p, C, dx, hs, ox, od, g, rfl, h2, J, Me, run⟩ := un_own O x2 I1 S1 r1 hc a1
      cases rv
      obtain ⟨m, hF⟩ := I1.fr
      exact PySem.W.ksp_neg hF I1.ok.mod.kin J Me.at_ Me.fn run
    · rw [if_pos rfl] at a1
      unfold negD at a1
      split at a1
      · rename_i i
        exact un_neg pins sh1 σ H1 v u Q I1 rv ⟨_, r1, a1.hereE S1 rfl⟩
      · exact a1.elim
  · -- ~
    rw [if_neg (by decide)] at a1
    split at a1
    · rename_i c ns hc
      obtain ⟨p, C, dx, hs, ox, od, g, rfl, h2, J, Me, run⟩ := un_own O x2 I1 S1 r1 hc a1
      cases rv
      obtain ⟨m, hF⟩ := I1.fr
      exact PySem.W.ksp_inv hF I1.ok.mod.kin J Me.at_ Me.fn run
    · rw [if_neg (by decide)] at a1
      exact a1.elim
  · -- not
    rw [if_pos rfl] at a1
    show wpAny _ _ (unaryOp .Not u) _ _ _
    unfold unaryOp
    refine wpAny_holding ?_
    refine wpAny_bind (thn (tru_any O x2 I1 S1 r1 rv a1) fun b sh2 ⟨H2, I2, T2, μ2, s2, e2, p2, S2, a2⟩ => ?_)
    exact wpAny_pure ⟨.bl (!b), H2, I2, rfl, a2.hereE S2 rfl⟩
  · cases x1
end
end Pc

set_option Elab.async false
set_option linter.all false
set_option maxRecDepth 100000
set_option maxHeartbeats 4000000
namespace PySem
namespace PcMu
open PySem.W PySem.Calls PyProof.Rows
variable {prog : Program} {w : World} {A : Around} {E : Value → Shared → Prop} {s : Shared} {K : W.Frag} {x C f g dx : Addr} {ox : Obj} {od : Option Obj}
theorem mul_declines {i : Int} {tk : Tok} {Q : Value → Shared → Prop} (ho : s.heap.get? x = some (W.instObj C dx)) (hq : Q .notImplemented s) : wpAny (model prog w) A (call (.builtin "int.__mul__") [.int i tk, .ref x]) Q E s := by
  refine wpAny_call_entry F.slot_int_mul (show s.TypeIs (.int i tk) "int" from typeIs_int s i tk) F.entry_int_mul ?_ (F.args_int_mul_2 _ _)
  unfold Builtin.«int.__mul__»
  unfold Builtin.Int.intBinary
  repeat (any_goals (first | assumption | (with_reducible refine wpAny_load ho ?_) | wp_step))
  all_goals exact ⟨_, rfl, hq⟩
theorem rmul_K {i : Int} {tk : Tok} {Q : Value → Shared → Prop} (X : K.In s.heap) (J : W.InstAt s.heap x ox C od) (ho : s.heap.get? x = some (W.instObj C dx)) (hc : W.selfFirst K C = true) (hs : W.findIn K (.ref C) "__mul__" = some (some (.ref g)))
    (hr : W.findIn K (.ref C) "__rmul__" = some (some (.ref f))) (hf : W.isFn K (.ref f) = true) (hsub : W.subIn K (.ref C) (.type "int") = some false)
    (h : wpAny (model prog w) A (call (.ref f) [.ref x, .int i tk]) (W.CmpBack Q) E s) : wpAny (model prog w) A (binaryOp .Mult (.int i tk) (.ref x)) Q E s := by
  obtain ⟨cd, rest, hcd, hm⟩ := W.ksp_first hc
  have two := W.ksp_try X J hr hf h
  have L1 : W.Looks (model prog w) s.heap (typeOf (.ref x)) (.ref C) := J.type
  have L2 : W.Looks (model prog w) s.heap (typeOf (.int i tk)) (.type "int") := W.Looks.of_pure rfl
  have L3 : W.Looks (model prog w) s.heap (fillsNumberSlot (.type "int") "mul") true := W.Looks.of_pure F.fills_int_mul
  have L4 : W.Looks (model prog w) s.heap (fillsNumberSlot (.ref C) "mul") true := W.fills_K X hcd hm hs
  have L5 : W.Looks (model prog w) s.heap (isSubtype (.ref C) (.type "int")) false := W.looks_subIn X hsub
  have L6 : W.Looks (model prog w) s.heap (numberSlotInPython (.type "int") "mul") false := W.Looks.of_pure rfl
  have hne : (Value.type "int" == Value.ref C) = false := Bool.eq_false_iff.mpr fun q => by cases beq_iff_eq.mp q
  unfold binaryOp
  refine wpAny_holding ?_
  show wpAny _ _ (binaryOp1 "mul" (.int i tk) (.ref x) >>= _) _ _ _
  refine wpAny_bind ?_
  unfold binaryOp1
  refine wpAny_bind (L2.here (wpAny_bind (L1.here (wpAny_bind (L3.here ?_)))))
  simp only [hne, Bool.false_eq_true, if_false]
  refine wpAny_bind (L4.here ?_)
  simp only [Bool.and_self, if_true]
  refine wpAny_bind (L5.here ?_)
  simp only [Bool.false_eq_true, if_false, pure_bind, Bool.not_false, Bool.and_self, if_true]
  refine wpAny_bind (L6.here ?_)
  simp only [Bool.false_eq_true, if_false, pure_bind, Bool.not_false, Bool.and_self, if_true]
  refine wpAny_bind (wpAny_tryMethod_declines (typeIs_int s i tk) F.slot_int_mul (mul_declines ho ⟨rfl, ?_⟩))
  refine wpAny_bind (wpAny_mono two (fun r s' z => ?_) fun _ _ y => y)
  obtain ⟨v, e, hq⟩ := z
  subst e
  exact wpAny_bind (wpAny_rule (wpAny_pure (wpAny_pure hq)))
end PcMu
end PySem

set_option Elab.async false
set_option linter.all false
set_option maxRecDepth 100000
set_option maxHeartbeats 4000000
namespace Pc
open PySem L2
section
variable {t : Tb} {n : Nat} {M : Mc} {X : Cx} {W : WX} {pins : List (Addr × Obj)} {σ : L2.St} {H T Fr : Hp} {μ : List Addr} {s : Ss} {sh : Shared} {Q : VK}
theorem s_bool {ds : Dps} {a : Ex} {xa : Expr} {p pos : Pos} (hx : (glB M.sc "bool" && t.free "bool" && plainArg xa && metB t "__bool__" ds []) = true) (ha : SE t n M a xa) : SE t n M (.bio .bool ds a) (.Call (.Name "bool" p) [xa] [] pos) := fun X W O => by
  simp only [Bool.and_eq_true] at hx
  obtain ⟨⟨⟨x1, x2⟩, x3⟩, x4⟩ := hx
  refine ⟨fun pins sh σ H Q I ⟨T, Fr, μ, s, S, a0⟩ => ?_⟩
  unfold ev at a0
  refine wpAny_Call_Name_kw (ld_blt I (glB_ok O x1) (O.fr _ x2) PyProof.Rows.boot_bool ?_ (by decide) (by decide))
  refine PyProof.Rows.callWith_type1 (thn ((pa_cons (ha X W O) pa_nil (star_plain x3 _ _)).run pos pins sh σ H (fun xs H1 => ∃ v T1 Fr1 μ1 w s1, xs = [v] ∧ Sim (t.k X) T1 Fr1 μ1 s1 σ H1 ∧ RepR (t.k X) T1 μ1 σ w v ∧ Aft (t.k X) T1 Fr1 μ1 W σ (rE (t.k X)) Q (bioR (t.o n) .bool ds w s1)) I
    (rd_bind S a0 fun T1 μ1 H1 v w s1 e1 p1 S1 r1 a1 => ⟨v, T1, Fr, μ1, w, s1, rfl, S1, r1, a1⟩)) fun us sh1 ⟨vs, H1, I1, rv, v, T1, Fr1, μ1, w, s1, ev, S1, r1, a1⟩ => ?_) (star_plain x3 _ _) rfl
  subst ev
  obtain ⟨u, rfl, ru⟩ := rv.one
  unfold bioR at a1
  split at a1
  · rename_i c ns hc
    obtain ⟨p0, C, dx, hs, rfl, h1, h2, h3⟩ := S1.cls r1 hc
    cases (show u = Value.ref p0 from ru)
    obtain ⟨m, hF⟩ := I1.fr
    obtain ⟨ox, od, J⟩ := ins_at I1 h2
    obtain ⟨d, fd, hd, D, Me, run⟩ := run_sp O x4 h1 (us := [.ref p0]) (in1_rm (in1_rm (O.room.mono (show 3 * n + 1 + 1 ≤ 3 * n + 2 by omega)))) I1.env0.in1.in1 I1 S1 (RepRs.cons1 (ws := []) (vs := []) r1 rfl) (.cons rfl .nil) a1
    refine PcBo.bool_own hF I1.ok.mod.kin J Me.at_ Me.fn (wpAny_mono run (fun w' s' z => ?_) fun _ _ e => e)
    obtain ⟨v', H', I3, rv', T', μ', wr, sr, e', p', S', r', a'⟩ := z
    split at a'
    · rename_i k
      rw [if_pos rfl] at a'
      cases (show v' = _ from r')
      cases rv'
      exact ⟨.bl k, H', I3, rfl, a'.hereE S' rfl⟩
    · rw [if_neg (by decide)] at a'; exact a'.elim
    · rw [if_neg (by intro z; exact absurd z.1 (by decide))] at a'; exact a'.elim
    · exact a'.elim
  · split at a1
    · rename_i d hd
      obtain ⟨w', hw, a2⟩ := Aft.of a1
      obtain ⟨d', hd', e⟩ := map_some hw
      subst e
      exact biR_bool (t := t) pins sh1 σ H1 [v] [u] Q I1 (.cons ru .nil) ⟨T1, Fr1, μ1, s1, σ, [d], d', S1, ⟨v, [], rfl, S1.look r1 hd, rfl⟩, hd', fun T' H' v e' S' r' => a2 T' μ1 H' v e' (List.prefix_refl _) S' r'⟩
    · exact a1.elim
/-- what isinstance says of an own class, by the classes' names and the built-in kinds -/
def kitN (d : Cd) (cs : List Str) : Option Bool := match cs with
  | [] => some false
  | x :: r => match d.kits.lookup x with
    | some true => some true
    | some false => kitN d r
    | none => none
/-- all own classes' answers -/
def iscB (t : Tb) (names : List Str) (cs : List Nat) : Bool := (List.range t.cls.length).all fun c => match t.cls[c]? with
  | some d => decide (kitN d names = some (cs.contains c))
  | none => false
/-- the written classes: own ones, built-in kinds -/
inductive Tn where
  | own (x : Str) | ty (T : String)
def Tn.val (K : PySem.W.Frag) : Tn → Value
  | .own x => .ref (He.ga K x)
  | .ty T => .type T
def Tn.names : List Tn → List Str
  | [] => []
  | .own x :: r => x :: Tn.names r
  | .ty _ :: r => Tn.names r
def Tn.tys : List Tn → List String
  | [] => []
  | .own _ :: r => Tn.tys r
  | .ty T :: r => T :: Tn.tys r
theorem any_ty {K : PySem.W.Frag} {tt c : Value} {l : List Value} {b r : Bool} (h : PySem.W.kitOne K tt c = some b) (hr : PySem.W.kitAny K tt l = some r) : PySem.W.kitAny K tt (c :: l) = some (b || r) := by
  unfold PySem.W.kitAny
  rw [h]
  cases b with
  | true => rfl
  | false => exact hr
theorem kit_own {K : PySem.W.Frag} {mg : Str → Option Value} {C : Addr} {d : Cd} (D : CdOk t K mg C d) : ∀ {l : List Tn} {b : Bool}, (∀ T ∈ Tn.tys l, T ∈ tyAll) → kitN d (Tn.names l) = some b → PySem.W.kitAny K (.ref C) (l.map (Tn.val K)) = some b
  | [], b, _, h => h
  | .ty T :: l, b, hT, h => by
    have := any_ty (D.kitn T (hT T (List.mem_cons_self ..))) (kit_own D (l := l) (fun T hT' => hT T (List.mem_cons_of_mem _ hT')) h)
    rw [Bool.false_or] at this
    exact this
  | .own x :: l, b, hT, h => by
    unfold Tn.names kitN at h
    split at h
    · rename_i hl
      cases h
      show PySem.W.kitAny K (.ref C) (.ref (He.ga K x) :: _) = _
      unfold PySem.W.kitAny
      rw [D.kits _ (lookup_mem hl)]
    · rename_i hl
      show PySem.W.kitAny K (.ref C) (.ref (He.ga K x) :: _) = _
      unfold PySem.W.kitAny
      rw [D.kits _ (lookup_mem hl)]
      exact kit_own D (l := l) hT h
    · cases h
def datIs (d : D) (tys : List String) : Bool := match d with
  | .bl _ => tys.contains "bool" || tys.contains "int"
  | d => tys.contains (tyD d)
theorem kit_dat {K : PySem.W.Frag} (hO : ∀ x, (∃ (c : Nat) (d : Cd), t.cls[c]? = some d ∧ d.name = x) → ∀ T ∈ tyAll, PySem.W.kitOne K (.type T) (.ref (He.ga K x)) = some false) {d : D} (hd : d.noO = true) :
    ∀ {l : List Tn}, (∀ T ∈ Tn.tys l, T ∈ tyNames) → (∀ x ∈ Tn.names l, ∃ (c : Nat) (d : Cd), t.cls[c]? = some d ∧ d.name = x) → PySem.W.kitAny K (.type (tyD d)) (l.map (Tn.val K)) = some (datIs d (Tn.tys l))
  | [], _, _ => by cases d <;> first | rfl | cases hd
  | .own x :: l, hT, hN => by
    have h1 := hO x (hN x (List.mem_cons_self ..)) (tyD d) (tyD_all hd)
    have := any_ty h1 (kit_dat hO hd (l := l) hT fun y hy => hN y (List.mem_cons_of_mem _ hy))
    rw [Bool.false_or] at this
    exact this
  | .ty T :: l, hT, hN => by
    have h2 := kit_dat hO hd (l := l) (fun T hT' => hT T (List.mem_cons_of_mem _ hT')) hN
    have h1 := kit_all K (tyD d) (by have := tyD_all hd; simpa [tyAll] using this) T (hT T (List.mem_cons_self ..))
    have := any_ty h1 h2
    refine this.trans ?_
    cases d with
    | obj c ns l => cases hd
    | exn _ _ _ => cases hd
    | bl b =>
      simp only [tyD, datIs, Tn.tys, List.contains_cons, if_true]
      rw [BEq.comm (a := T) (b := "bool"), BEq.comm (a := T) (b := "int")]
      cases ("bool" == T) <;> cases ("int" == T) <;> simp
    | _ => simp only [tyD, datIs, Tn.tys, List.contains_cons]; rfl
/-- a written class -/
def tnB (t : Tb) (M : Mc) : Tn → Expr → Bool
  | .own x, .Name y _ => decide (x = y) && glB M.sc y && plainName y && t.cls.any fun d => decide (d.name = x)
  | .ty T, .Name y _ => decide (y = Str.ofString T) && glB M.sc y && plainName y && t.free y && decide (T ∈ tyNames)
  | _, _ => false
def tnsB (t : Tb) (M : Mc) : List Tn → List Expr → Bool
  | [], [] => true
  | a :: l, x :: xs => tnB t M a x && tnsB t M l xs
  | _, _ => false
theorem nameC {X : Cx} (O : Ok t n M X W) {x : Str} (h : t.cls.any (fun d => decide (d.name = x)) = true) : ∃ (c : Nat) (d : Cd), t.cls[c]? = some d ∧ d.name = x ∧ X.mg x = some (.ref (He.ga X.K x)) ∧ ∀ T ∈ tyAll, PySem.W.kitOne X.K (.type T) (.ref (He.ga X.K x)) = some false := by
  obtain ⟨d, hd, e⟩ := List.any_eq_true.mp h
  obtain ⟨c, hc⟩ := List.getElem?_of_mem hd
  have e := of_decide_eq_true e
  obtain ⟨C, hC, D⟩ := O.cls c d hc
  have g := D.ga
  rw [e] at g
  subst g
  exact ⟨c, d, hc, e, by rw [← e]; have := D.glo; rw [e] at this ⊢; exact this, D.kitT⟩
theorem tn_val (O : Ok t n M X W) {a : Tn} {x : Expr} (h : tnB t M a x = true) : ∃ v, PE X x (tC v) ∧ ClsV v (a.val X.K) := by
  unfold tnB at h
  split at h
  · simp only [Bool.and_eq_true, decide_eq_true_eq] at h
    obtain ⟨⟨⟨rfl, h2⟩, h3⟩, h4⟩ := h
    obtain ⟨c, d, _, _, g, _⟩ := nameC O h4
    exact ⟨_, pe_glob (v := .ref (He.ga X.K _)) (glB_ok O h2) g rfl (plainName_a h3), .own _⟩
  · simp only [Bool.and_eq_true, decide_eq_true_eq] at h
    obtain ⟨⟨⟨⟨rfl, h2⟩, h3⟩, h4⟩, h5⟩ := h
    exact ⟨.ty _, pe_bltn (v := .ty _) (glB_ok O h2) (O.fr _ h4) (boot_ty _ h5) rfl (plainName_c h3) (plainName_a h3), .ty _⟩
  · cases h
theorem tn_names (O : Ok t n M X W) : ∀ {l : List Tn} {xs : List Expr}, tnsB t M l xs = true → (∀ T ∈ Tn.tys l, T ∈ tyNames) ∧ ∀ x ∈ Tn.names l, ∃ (c : Nat) (d : Cd), t.cls[c]? = some d ∧ d.name = x
  | [], [], _ => ⟨fun _ h => (by cases h), fun _ h => (by cases h)⟩
  | a :: l, x :: xs, h => by
    unfold tnsB at h
    rw [Bool.and_eq_true] at h
    obtain ⟨r1, r2⟩ := tn_names O h.2
    have h1 := h.1
    unfold tnB at h1
    split at h1
    · simp only [Bool.and_eq_true, decide_eq_true_eq] at h1
      obtain ⟨c, d, q1, q2, _⟩ := nameC O h1.2
      refine ⟨r1, fun y hy => ?_⟩
      rcases List.mem_cons.mp hy with rfl | hy
      · exact ⟨c, d, q1, q2⟩
      · exact r2 y hy
    · simp only [Bool.and_eq_true, decide_eq_true_eq] at h1
      refine ⟨fun T hT => ?_, r2⟩
      rcases List.mem_cons.mp hT with rfl | hT
      · exact h1.2
      · exact r1 T hT
    · cases h1
  | [], _ :: _, h => by cases h
  | _ :: _, [], h => by cases h
theorem tns_val (O : Ok t n M X W) : ∀ {l : List Tn} {xs : List Expr}, tnsB t M l xs = true → ∃ vs, PA X xs (fun _ H Q => Q vs H) ∧ Paired ClsV vs (l.map (Tn.val X.K))
  | [], [], _ => ⟨[], pa_nil, .nil⟩
  | a :: l, x :: xs, h => by
    unfold tnsB at h
    rw [Bool.and_eq_true] at h
    obtain ⟨v, p, c⟩ := tn_val O h.1
    obtain ⟨vs, ps, cs⟩ := tns_val O h.2
    have pl : plainArg x = true := by
      have h1 := h.1
      unfold tnB at h1
      split at h1 <;> first | rfl | cases h1
    refine ⟨v :: vs, PA.weak (pa_cons p ps (star_plain pl _ _)) fun σ H Q q => q, .cons c cs⟩
  | [], _ :: _, h => by cases h
  | _ :: _, [], h => by cases h
/-- what isinstance answers -/
theorem isc_kit (O : Ok t n M X W) {l : List Tn} {xs : List Expr} {cs : List Nat} (hl : tnsB t M l xs = true) (hc : iscB t (Tn.names l) cs = true) (hta : ∀ T ∈ Tn.tys l, T ∈ tyAll) (S : Sim (t.k X) T Fr μ s σ H) {w : Pc.W} {v : V} (r : RepR (t.k X) T μ σ w v) {b : Bool} (h : iscR cs (Tn.tys l) w s = some b) :
    ∃ tt, TyX X.K H v tt ∧ PySem.W.kitAny X.K tt (l.map (Tn.val X.K)) = some b := by
  obtain ⟨n1, n2⟩ := tn_names O hl
  unfold iscR at h
  split at h
  · rename_i c ns hcl
    cases h
    obtain ⟨a, C, dx, hs, rfl, h1, h2, h3⟩ := S.cls r hcl
    obtain ⟨d, hd⟩ := O.clt c C h1
    obtain ⟨C', e', D⟩ := O.cls c d hd
    rw [show t.cl c = some C from h1] at e'
    cases e'
    refine ⟨_, .base (D.ty h2), kit_own D hta ?_⟩
    have hlt : c < t.cls.length := (List.getElem?_eq_some_iff.mp hd).1
    have := List.all_eq_true.mp hc c (List.mem_range.mpr hlt)
    rw [hd] at this
    exact of_decide_eq_true this
  · split at h
    · cases h
    · cases h
    · rename_i b0 hlk
      cases h
      refine ⟨_, top_ty (K := X.K) rfl S.tH (S.look r hlk) rfl, ?_⟩
      exact kit_dat (fun x ⟨c, d, e1, e2⟩ => (nameC O (List.any_eq_true.mpr ⟨d, List.mem_of_getElem? e1, decide_eq_true e2⟩)).elim fun _ z => z.elim fun _ z => z.2.2.2) rfl n1 n2
    · rename_i d0 hno hnx hnb hlk
      cases h
      have hd : d0.noO = true := by
        cases d0 with
        | obj c ns l => exact absurd rfl (hno _ _ _)
        | exn _ _ _ => exact absurd rfl (hnx _ _ _)
        | _ => rfl
      refine ⟨_, top_ty (K := X.K) rfl S.tH (S.look r hlk) hd, ?_⟩
      have := kit_dat (K := X.K) (fun x ⟨c, d, e1, e2⟩ => (nameC O (List.any_eq_true.mpr ⟨d, List.mem_of_getElem? e1, decide_eq_true e2⟩)).elim fun _ z => z.elim fun _ z => z.2.2.2) hd n1 n2
      rw [this]
      cases d0 with
      | bl b => exact absurd rfl (hnb b)
      | _ => rfl
    · cases h
theorem s_isc1 {a : Ex} {l : Tn} {cs : List Nat} {xa xc : Expr} {p pos : Pos} (hx : (glB M.sc "isinstance" && t.free "isinstance" && plainArg xa && tnsB t M [l] [xc] && iscB t (Tn.names [l]) cs && (Tn.tys [l]).all fun T => decide (T ∈ tyAll)) = true) (ha : SE t n M a xa) :
    SE t n M (.isc a cs (Tn.tys [l])) (.Call (.Name "isinstance" p) [xa, xc] [] pos) := fun X W O => by
  simp only [Bool.and_eq_true] at hx
  obtain ⟨⟨⟨⟨⟨x1, x2⟩, x3⟩, x4⟩, x5⟩, x6⟩ := hx
  have x4' := x4
  unfold tnsB at x4'
  rw [Bool.and_eq_true] at x4'
  obtain ⟨v, pb, cv⟩ := tn_val O x4'.1
  have pl : plainArg xc = true := by
    have h1 := x4'.1
    unfold tnB at h1
    split at h1 <;> first | rfl | cases h1
  refine PE.weak (pe_callB call_isi (glB_ok O x1) (O.fr _ x2) PyProof.Rows.boot_isinstance (pa_cons (ha X W O) (pa_cons pb pa_nil (star_plain pl _ _)) (star_plain x3 _ _)) (by decide) (by decide) (star_plain x3 _ _) (by rw [star_plain pl]; rfl)) fun σ H Q ⟨T, Fr, μ, s, S, a⟩ => ?_
  unfold ev at a
  refine rd_bind S a fun T1 μ1 H1 u w s1 e1 p1 S1 r1 a => ?_
  obtain ⟨b, hb, a1⟩ := res_bl a
  obtain ⟨tt, h1, h2⟩ := isc_kit O x4 x5 (fun T hT => by simpa using List.all_eq_true.mp x6 T hT) S1 r1 hb
  refine ⟨u, v, tt, l.val X.K, b, rfl, cv, h1, ?_, a1.hereE S1 rfl⟩
  have h2 : PySem.W.kitAny X.K tt [l.val X.K] = some b := h2
  unfold PySem.W.kitAny at h2
  split at h2
  · rename_i hk; cases h2; exact hk
  · rename_i hk; cases h2; exact hk
  · cases h2
theorem s_iscT {a : Ex} {l : List Tn} {cs : List Nat} {xa : Expr} {xs : List Expr} {k : Nat} {p p2 pos : Pos} (hx : (glB M.sc "isinstance" && t.free "isinstance" && plainArg xa && tnsB t M l xs && iscB t (Tn.names l) cs && (Tn.tys l).all fun T => decide (T ∈ tyAll)) = true) (hlen : l.length ≤ 1000) (ha : SE t n M a xa) :
    SE t n M (.isc a cs (Tn.tys l)) (.Call (.Name "isinstance" p) [xa, .Tuple xs k p2] [] pos) := fun X W O => by
  simp only [Bool.and_eq_true] at hx
  obtain ⟨⟨⟨⟨⟨x1, x2⟩, x3⟩, x4⟩, x5⟩, x6⟩ := hx
  obtain ⟨vs, pb, cv⟩ := tns_val O x4
  refine PE.weak (pe_callB call_isiT (glB_ok O x1) (O.fr _ x2) PyProof.Rows.boot_isinstance (pa_cons (ha X W O) (pa_cons (pe_tup pb) pa_nil (star_plain rfl _ _)) (star_plain x3 _ _)) (by decide) (by decide) (star_plain x3 _ _) rfl) fun σ H Q ⟨T, Fr, μ, s, S, a⟩ => ?_
  unfold ev at a
  refine rd_bind S a fun T1 μ1 H1 u w s1 e1 p1 S1 r1 a => ?_
  obtain ⟨b, hb, a1⟩ := res_bl a
  have lv : vs.length = l.length := by
    have : ∀ {vs : List V} {us : List Value}, Paired ClsV vs us → vs.length = us.length := fun h => Paired.length h
    rw [this cv, List.length_map]
  refine ⟨by rw [lv, sizeLine_eq]; omega, fun q hq => ?_⟩
  obtain ⟨tt, h1, h2⟩ := isc_kit O x4 x5 (fun T hT => by simpa using List.all_eq_true.mp x6 T hT) (S1.loose (o := .tup vs) hq) r1 hb
  exact ⟨u, q, vs, tt, _, b, rfl, upd_same, cv, h1, h2, a1.hereE (S1.loose hq) rfl⟩
end
end Pc

set_option Elab.async false
set_option linter.all false
set_option maxRecDepth 100000
set_option maxHeartbeats 4000000
namespace Pc
open PySem L2
def o2N : O2 → Str
  | .add => "__add__"
  | .sub => "__sub__"
  | _ => "__mul__"
def o2s : O2 → String
  | .add => "add"
  | .sub => "sub"
  | _ => "mul"
def opoB (f : O2) (op : Operator) : Bool := match f, op with
  | .add, .Add => true
  | .sub, .Sub => true
  | .mul, .Mult => true
  | _, _ => false
theorem opoB_ok {f : O2} {op : Operator} (h : opoB f op = true) : PySem.dunder op.info.2 = o2N f ∧ op.info.2 = o2s f ∧ o2s f ∈ opsAll ∧ o2B f op = true := by
  unfold opoB at h
  split at h
  · exact ⟨by decide +kernel, rfl, by decide, rfl⟩
  · exact ⟨by decide +kernel, rfl, by decide, rfl⟩
  · exact ⟨by decide +kernel, rfl, by decide, rfl⟩
  · cases h
section
variable {t : Tb} {n : Nat} {M : Mc}
theorem s_opo {f : O2} {op : Operator} {ds rs : Dps} {a b : Ex} {xa xb : Expr} {pos : Pos} (hx : (opoB f op && metB t (o2N f) ds [] && metB t "__rmul__" rs [] && (rs.all fun q => (ds.lookup q.1).isSome) && (rs.isEmpty || decide (f = .mul))) = true) (ha : SE t n M a xa) (hb : SE t n M b xb) :
    SE t n M (.opo f ds rs a b) (.BinOp xa op xb pos) := fun X W O => by
  simp only [Bool.and_eq_true] at hx
  obtain ⟨⟨⟨⟨x1, x2⟩, x3⟩, x4⟩, x5⟩ := hx
  obtain ⟨d1, d2, d3, d4⟩ := opoB_ok x1
  refine ⟨fun pins sh σ H Q I h => ?_⟩
  have h : rd (t.k X) W (rE (t.k X)) (fun s => (ev (t.o n) a s).bind fun x s1 => (ev (t.o n) b s1).bind fun y s2 => opoR (t.o n) f ds rs x y s2) σ H Q := by
    obtain ⟨T, Fr, μ, s, S, a0⟩ := h
    unfold ev at a0
    exact ⟨T, Fr, μ, s, S, a0⟩
  refine wpAny_BinOp (binT (ha X W O) (hb X W O) I (two_cut h) fun v u sh2 x y H2 I2 rx ry ⟨T, Fr, μ, wa, wb, s, S, r1, r2, a0⟩ => ?_)
  unfold opoR at a0
  have eta : ∀ {r : Res Pc.W}, Aft (t.k X) T Fr μ W σ (rE (t.k X)) Q r → Aft (t.k X) T Fr μ W σ (rE (t.k X)) Q (r.bind fun w s => .ok w s) := fun {r} z => by cases r <;> exact z
  have back : ∀ (v' : Value) (s' : Shared), EP X pins σ (fun v H' => ∃ T' μ' w s', Same T T' ∧ μ <+: μ' ∧ Sim (t.k X) T' Fr μ' s' σ H' ∧ RepR (t.k X) T' μ' σ w v ∧ Aft (t.k X) T' Fr μ' W σ (rE (t.k X)) Q (.ok w s')) v' s' → PySem.W.CmpBack (EP X pins σ Q) v' s' := fun v' s' ⟨v2, H', I3, rv, T', μ', wr, sr, e', p', S', r', a'⟩ => SlX.cmpback rv ⟨v2, H', I3, rv, a'.here S' r'⟩
  split at a0
  · rename_i c hc
    unfold owOf at hc
    split at hc
    case h_2 =>
      split at hc
      · cases hc
      · split at hc <;> cases hc
    rename_i c' ns hcl
    cases hc
    obtain ⟨p, C, dx, hs, rfl, h1, h2, h3⟩ := S.cls r1 hcl
    have h1 : t.cl c = some C := h1
    cases rx
    obtain ⟨m, hF⟩ := I2.fr
    obtain ⟨ox, od, J⟩ := ins_at I2 h2
    have rs' : RepRs (t.k X) T μ σ [wa, wb] [.ref p, y] := .cons1 r1 (.cons1 (ws := []) (vs := []) r2 rfl)
    split at a0
    · rename_i c2 ns2 hc2
      split at a0
      · rename_i e
        subst e
        obtain ⟨q, C2, dx2, hs2, rfl, g1, g2, g3⟩ := S.cls r2 hc2
        rw [show t.cl c2 = some C2 from g1] at h1
        cases h1
        cases ry
        obtain ⟨ox2, od2, J2⟩ := ins_at I2 g2
        obtain ⟨d, fd, hd, D, Me, run⟩ := run_sp O x2 g1 (us := [.ref p, .ref q]) (O.room.mono (by omega)) I2.env0 I2 S rs' (.cons rfl (.cons rfl .nil)) (eta a0)
        exact PySem.W.binop_K hF I2.ok.mod.kin J J2.type D.sf (by rw [d1]; exact Me.at_) Me.fn (wpAny_mono run back fun _ _ e => e)
      · exact a0.elim
    · split at a0
      · rename_i hty
        obtain ⟨d', e1, e2, e3⟩ := tyW_some hty
        obtain ⟨d, fd, hd, D, Me, run⟩ := run_sp O x2 h1 (us := [.ref p, u]) (O.room.mono (by omega)) I2.env0 I2 S rs' (.cons rfl (.cons ry .nil)) (eta a0)
        obtain ⟨i, rfl⟩ : ∃ i, d' = .int i := by cases d' <;> first | exact ⟨_, rfl⟩ | (exfalso; exact absurd e3 (by simp [tyD])) | exact absurd rfl (e2 _ _ _)
        have ti : y = .int i := S.look r2 e1
        subst ti
        obtain ⟨tk, rfl⟩ := ry
        obtain ⟨rc, z1, z2⟩ := D.refl _ d3
        obtain ⟨⟨fo, z3⟩, ro, z4⟩ := D.numf _ d3
        rw [← d2] at z1 z3 z4
        exact PySem.W.ksp_binT hF I2.ok.mod.kin J rfl D.sf (by rw [d1]; exact Me.at_) Me.fn z1 z2 z3 z4 (D.nosub "int" (by decide)) (wpAny_mono run back fun _ _ e => e)
      · exact a0.elim
  · rename_i c hc
    unfold owOf at hc
    split at hc
    · cases hc
    · rename_i hl
      split at hc
      · rename_i c' ns hcl
        cases hc
        split at a0
        · rename_i hty
          obtain ⟨d', e1, e2, e3⟩ := tyW_some hty
          obtain ⟨i, rfl⟩ : ∃ i, d' = .int i := by cases d' <;> first | exact ⟨_, rfl⟩ | (exfalso; exact absurd e3 (by simp [tyD])) | exact absurd rfl (e2 _ _ _)
          have ti : x = .int i := S.look r1 e1
          subst ti
          obtain ⟨tk, rfl⟩ := rx
          obtain ⟨p, C, dx, hs, rfl, h1, h2, h3⟩ := S.cls r2 hcl
          have h1 : t.cl c = some C := h1
          cases ry
          have hfm : f = .mul ∧ ∃ fp, ds.lookup c = some fp := by
            unfold dispR at a0
            split at a0
            · rename_i f' p' hf
              have m1 := List.all_eq_true.mp x4 _ (lookup_mem hf)
              refine ⟨?_, Option.isSome_iff_exists.mp m1⟩
              rcases Bool.or_eq_true_iff.mp x5 with z | z
              · have : rs = [] := by simpa using z
                subst this
                cases hf
              · exact of_decide_eq_true z
            · exact a0.elim
          obtain ⟨rfl, fp, hfp⟩ := hfm
          have hop : op = .Mult := by cases op <;> first | rfl | cases x1
          subst hop
          obtain ⟨dq, fdq, qq, hdq, Dq, _, _, _, Mq⟩ := metB_ok O x2 hfp h1
          obtain ⟨ox, od, J⟩ := ins_at I2 h2
          obtain ⟨mA, OM, _⟩ := ins_get I2.hok h2
          obtain ⟨d, fd, hd, D, Me, run⟩ := run_sp O x3 h1 (us := [.ref p, .int i tk]) (O.room.mono (by omega)) I2.env0 I2 S (.cons1 r2 (.cons1 (ws := []) (vs := []) r1 rfl)) (.cons rfl (.cons ⟨tk, rfl⟩ .nil)) (eta a0)
          exact PcMu.rmul_K I2.kIn J OM.obj D.sf Mq.at_ Me.at_ Me.fn D.subI (wpAny_mono run back fun _ _ e => e)
        · exact a0.elim
      · split at hc <;> cases hc
  · rename_i p q hpq
    unfold owOf at hpq
    split at hpq
    · cases hpq
    · split at hpq
      · cases hpq
      · split at hpq
        · rename_i p' q' h1 h2
          cases hpq
          obtain ⟨w', hw, a2⟩ := Aft.of a0
          obtain ⟨d', hd', e⟩ := map_some hw
          subst e
          exact opR (t := t) d4 pins sh2 σ H2 x y v u Q I2 rx ry ⟨T, Fr, μ, s, σ, p, q, d', S, S.look r1 h1, S.look r2 h2, hd', fun T' H' v e' S' r' => a2 T' μ H' v e' (List.prefix_refl _) S' r'⟩
        · cases hpq
  · exact a0.elim
end
end Pc

set_option Elab.async false
set_option linter.all false
set_option maxRecDepth 100000
set_option maxHeartbeats 4000000
namespace Pc
open PySem L2
section
variable {t : Tb} {n : Nat} {M : Mc}
theorem s_dct {pos : Pos} : SE t n M .dct (.Dict [] [] pos) := fun X W O => by
  refine PE.weak pe_dnewK fun σ H Q ⟨T, Fr, μ, s, S, a⟩ => ?_
  unfold ev at a
  intro p hp
  exact a T (μ ++ [p]) _ _ (same_refl _) (List.prefix_append _ _) (S.cellG hp (c := .gone) trivial) ⟨p, by rw [← S.len]; simp, rfl⟩
end
section
variable {t : Tb} {n : Nat} {M : Mc} {X : Cx} {W : WX} {pins : List (Addr × Obj)} {σ : L2.St} {H T Fr : Hp} {μ : List Addr} {s : Ss} {sh : Shared} {Q : VK}
/-- repr of an own object -/
theorem s_reprO {ds : Dps} {a : Ex} {xa : Expr} {p pos : Pos} (hx : (glB M.sc "repr" && t.free "repr" && plainArg xa && metB t "__repr__" ds []) = true) (ha : SE t n M a xa) : SE t n M (.bio .repr ds a) (.Call (.Name "repr" p) [xa] [] pos) := fun X W O => by
  simp only [Bool.and_eq_true] at hx
  obtain ⟨⟨⟨x1, x2⟩, x3⟩, x4⟩ := hx
  refine ⟨fun pins sh σ H Q I ⟨T, Fr, μ, s, S, a0⟩ => ?_⟩
  unfold ev at a0
  refine wpAny_Call_Name_kw (ld_blt I (glB_ok O x1) (O.fr _ x2) PyProof.Rows.boot_repr ?_ (by decide) (by decide))
  refine PyProof.Rows.callWith_method1 (first := []) (thn ((pa_cons (ha X W O) pa_nil (star_plain x3 _ _)).run pos pins sh σ H (fun xs H1 => ∃ v T1 Fr1 μ1 w s1, xs = [v] ∧ Sim (t.k X) T1 Fr1 μ1 s1 σ H1 ∧ RepR (t.k X) T1 μ1 σ w v ∧ Aft (t.k X) T1 Fr1 μ1 W σ (rE (t.k X)) Q (bioR (t.o n) .repr ds w s1)) I
    (rd_bind S a0 fun T1 μ1 H1 v w s1 e1 p1 S1 r1 a1 => ⟨v, T1, Fr, μ1, w, s1, rfl, S1, r1, a1⟩)) fun us sh1 ⟨vs, H1, I1, rv, v, T1, Fr1, μ1, w, s1, ev, S1, r1, a1⟩ => ?_) (star_plain x3 _ _) rfl
  subst ev
  obtain ⟨u, rfl, ru⟩ := rv.one
  show wpAny _ _ (call (.builtin "repr") [u]) _ _ _
  unfold bioR at a1
  split at a1
  · rename_i c ns hc
    obtain ⟨p0, C, dx, hs, rfl, h1, h2, h3⟩ := S1.cls r1 hc
    cases (show u = Value.ref p0 from ru)
    obtain ⟨m, hF⟩ := I1.fr
    obtain ⟨ox, od, J⟩ := ins_at I1 h2
    have rm1 := in1_rm (O.room.mono (show 3 * n + 1 ≤ 3 * n + 2 by omega))
    obtain ⟨d, fd, hd, D, Me, run⟩ := run_sp O x4 h1 (us := [.ref p0]) rm1 I1.env0.in1 I1 S1 (RepRs.cons1 (ws := []) (vs := []) r1 rfl) (.cons rfl .nil) a1
    refine PySem.W.repr_K (by have := rm1.r.un; omega) hF I1.ok.mod.kin J Me.at_ Me.fn (wpAny_mono run (fun w' s' z => ?_) fun _ _ e => e)
    obtain ⟨v', H', I3, rv', T', μ', wr, sr, e', p', S', r', a'⟩ := z
    split at a'
    · rw [if_neg (by decide)] at a'; exact a'.elim
    · rename_i k
      rw [if_pos rfl] at a'
      cases (show v' = _ from r')
      obtain ⟨tk, rfl⟩ : ∃ tk, w' = .str k tk := rv'
      exact ⟨.str k, H', I3, ⟨tk, rfl⟩, a'.hereE S' rfl⟩
    · rw [if_neg (by intro z; exact absurd z.1 (by decide))] at a'; exact a'.elim
    · exact a'.elim
  · split at a1
    · rename_i d hd
      obtain ⟨w', hw, a2⟩ := Aft.of a1
      obtain ⟨d', hd', e⟩ := map_some hw
      subst e
      exact biR_repr (t := t) O.room.g O.u66 pins sh1 σ H1 [v] [u] Q I1 (.cons ru .nil) ⟨T1, Fr1, μ1, s1, σ, [d], d', S1, ⟨v, [], rfl, S1.look r1 hd, rfl⟩, hd', fun T' H' v e' S' r' => a2 T' μ1 H' v e' (List.prefix_refl _) S' r'⟩
    · exact a1.elim
end
/-- super().__init__() -/
def supStmt (x : Stmt) : Bool := match x with
  | .Expr (.Call (.Attribute (.Call (.Name a _) [] [] _) m ap) [] [] p2) _ => decide (a = "super") && decide (m = "__init__") && (ap.endLine == p2.line)
  | _ => false
/-- what super() leans on: the cell of the class, the code object's file, the classes that self may have -/
structure SupF (t : Tb) (P : Program) (K : PySem.W.Frag) (mg : Str → Option Value) (fdt : FuncData) (fa : Addr) (scope : Scope) (cc cda : Addr) (f : Nat) (cs : List Nat) (slf : Str) : Prop where
  fn : ∃ oc od osl, K.lookup fa = some ⟨oc, od, .func fdt, osl⟩
  par : ∃ ar : Arg, (fdt.params.posonlyargs ++ fdt.params.args).head? = some ar ∧ ar.arg = slf
  code : ∃ (ccl : Value) (cdd : Option Addr) (vs : Array Value) (ccs : Array (Option Value)) (file : Str) (tf : Tok), K.lookup cda = some ⟨ccl, cdd, .fields vs, ccs⟩ ∧ vs[2]? = some (.str file tf) ∧ ((P.main.file : Str) == file) = true
  top : (P.main.scope.names.lookup ("super" : Str)).isSome = false
  sup : mg "super" = none
  opq : PySem.W.nsIn K cStatics "thirdparty.any" = some none
  ks : scope.names.lookup ("super" : Str) = some .globalImplicit
  kc : scope.names.lookup ("__class__" : Str) = some .free
  ka : scope.names.lookup slf = some .local
  cell : ∃ (cl : Value) (cld : Option Addr) (csl : Array (Option Value)) (D : Addr) (cdD : ClassData) (fd : Fn) (q : Pat), K.lookup cc = some ⟨cl, cld, .cell (some (.ref D)), csl⟩ ∧ PySem.W.clsIn K D = some cdD ∧ t.tab[f]? = some fd ∧ fd.pats[0]? = some q ∧ q.ks = [] ∧
    PySem.W.fnIn K (adr K fd.at_) = true ∧ PySem.W.typeIn K (.ref (adr K fd.at_)) = some (.type "function") ∧ ∀ c ∈ cs, ∃ C, t.cl c = some C ∧ PySem.W.mroIn K C (.ref D) = some true ∧ PySem.W.ks_superIn K C D "__init__" = some (some (.ref (adr K fd.at_)))
theorem aftS_call {k : Kx} {T Fr : Hp} {μ : List Addr} {W : WX} {D : Ends} {σ : L2.St} {r : Res Pc.W} (h : AftS k T Fr μ W D (r.bind fun _ s1 => .ok .nx s1)) : Aft k T Fr μ W σ (rE k) (fun _ H' => D.nx σ H') r := by
  cases r with
  | ok w s1 => exact fun T' μ' H' v e p S _ => h T' μ' σ H' e p S
  | exc x s1 => exact fun T' μ' H' C d e p S er => h T' μ' σ H' C d e p S er
  | stuck => exact h.elim
section
variable {t : Tb} {n : Nat} {M : Mc} {X : Cx} {W : WX}
theorem Inv.more {pins : List (Addr × Obj)} {σ : L2.St} {H : Hp} {s s' : Shared} (I : Inv X pins σ H s) (ho : s'.os = s.os) (k : ∀ b o, s.heap.get? b = some o → s'.heap.get? b = some o) (hg : PyProof.Rows.AllBare s'.gens) : Inv X pins σ H s' :=
  I.call' (ch := []) ho (Un.kept k) (I.hok.kept k) hg fun b z => absurd z (by simp)
theorem sup_run (O : Ok t n M X W) {P : Program} (hP : X.prog = P) {fdt : FuncData} {fa cc cda : Addr} {f : Nat} {cs : List Nat} {slf : Str} (F : SupF t P X.K X.mg fdt fa X.env.scope cc cda f cs slf)
    (hfu : X.env.func = some fa) (hco : X.env.code = .ref cda) (hce : X.env.cells = [(("__class__" : Str), cc)]) (hx0 : X.N[0]? = some slf) {body : List Stmt} {x : Stmt} (hx : supStmt x = true) {pins : List (Addr × Obj)} {σ : L2.St} {H T Fr : Hp} {μ : List Addr} {s : Ss} {sh : Shared} {D : Ends}
    (I : Inv X pins σ H sh) (S : Sim (t.k X) T Fr μ s σ H) (a0 : AftS (t.k X) T Fr μ W D (ex1 (t.o n) (.sup f cs) s)) :
    _root_.PySem.wpAt (model X.prog X.w) X.A (.func body X.env) (exec x X.env) (SP X pins D) X.xe sh := by
  subst hP
  unfold supStmt at hx
  split at hx
  · rename_i a p0 p1 m ap p2 p3
    rw [Bool.and_eq_true, Bool.and_eq_true, decide_eq_true_eq, decide_eq_true_eq] at hx
    obtain ⟨⟨rfl, rfl⟩, hl⟩ := hx
    obtain ⟨oc, od, osl, lf⟩ := F.fn
    obtain ⟨ar, hpar, hself⟩ := F.par
    obtain ⟨ccl, cdd, vs, ccs, file, tf, lc, hvs, hfile⟩ := F.code
    obtain ⟨cl, cld, csl, D', cdD, fd, pt, lcell, hD, hfd, hpt, hks, hfn, hty, hcs⟩ := F.cell
    unfold ex1 at a0
    split at a0
    · rename_i w hw
      split at a0
      · rename_i c ns hc
        split at a0
        · rename_i hin
          obtain ⟨v, hv, rw1⟩ := S.val 0 w hw
          obtain ⟨a, C, dx, hs, rfl, h1, h2, h3⟩ := S.cls rw1.r hc
          obtain ⟨C', e', hmro, hsup⟩ := hcs c (by simpa using hin)
          rw [show t.cl c = some C from h1] at e'
          cases e'
          obtain ⟨ox, odx, J⟩ := ins_at I h2
          obtain ⟨m, hns, hloc⟩ := I.loc
          have hka : X.env.kindOf ar.arg = some .local := by rw [hself]; exact F.ka
          obtain ⟨u, ru, look⟩ := hloc 0 ar.arg (.ref a) (by rw [hself]; exact hx0) hv (.inl hka)
          cases ru
          have hm : m ar.arg = some (.ref a) := by
            rcases look with ⟨_, z⟩ | ⟨z | z, _⟩
            · exact z
            · rw [hka] at z; cases z
            · rw [hka] at z; cases z
          have kin : X.K.In sh.heap := I.kIn
          obtain ⟨oD, hD1, hD2⟩ : ∃ oD, sh.heap.get? D' = some oD ∧ oD.data = .cls cdD := by
            unfold PySem.W.clsIn at hD
            split at hD
            · rename_i c d cd' sl ho
              cases hD
              exact ⟨_, kin _ _ ho, rfl⟩
            · cases hD
          obtain ⟨cdC, hcC⟩ : ∃ cd, PySem.W.clsIn X.K C = some cd := by
            unfold PySem.W.ks_superIn at hsup
            cases z : PySem.W.clsIn X.K C with
            | none => rw [z] at hsup; cases hsup
            | some cd => exact ⟨cd, rfl⟩
          unfold PySem.W.ks_superIn at hsup
          rw [hcC] at hsup
          obtain ⟨of_, hof, hofc⟩ : ∃ of_, X.K.lookup (adr X.K fd.at_) = some of_ ∧ of_.cls = .type "function" := by
            have ht' : (X.K.lookup (adr X.K fd.at_)).map (·.cls) = some (.type "function") := hty
            cases z : X.K.lookup (adr X.K fd.at_) with
            | none => rw [z] at ht'; cases ht'
            | some of_ => rw [z] at ht'; exact ⟨of_, rfl, Option.some.inj ht'⟩
          obtain ⟨mb, hb, hbv⟩ := I.mod.blt
          refine ks_wpAt_Expr_any ?_ I.quiet rfl
          have he : eval (.Call (.Attribute (.Call (.Name "super" p0) [] [] p1) "__init__" ap) [] [] p2) X.env = (do
              let ov ← attributeBase (.Call (.Name "super" p0) [] [] p1) "__init__" X.env (eval (.Call (.Name "super" p0) [] [] p1) X.env)
              standAt ap.atName
              let (f, first) ← holding [ov] (getMethod ov "__init__" (do return (← importBound (.Call (.Name "super" p0) [] [] p1) X.env).getD true))
              callWith p2 f first (backTo p2 (starEach [] X.env)) []) := by
            rw [arm_eval_Call]
            have hpos : methodCallPos true (.Call (.Name "super" p0) [] [] p1) X.env ap p2 = pure p2 := by unfold methodCallPos; simp [hl]
            have hform : methodCallForm (([] : List Expr).length + ([] : List Keyword).length) (backTo p2 (starEach [] X.env)) (backToKw p2 (keywordEach [] X.env)) = true := rfl
            unfold methodCall
            rw [hform, hpos]
            rfl
          refine ks_wpAt_MethodCall ?_ he
          refine ks_wpAt_super_base (env := X.env) F.ks F.kc (by decide) hfu (kin _ _ lf) rfl hpar hco (kin _ _ lc) rfl hvs hfile F.top ?_
          refine PySem.W.ks_loadName_global I.ok.kind F.ks (Calls.loadGlobal_builtin (by rw [I.ok.glob]; exact I.mod.glob.keeps I.bk) F.sup (by rw [I.ok.blt]; exact hb.keeps I.bk) ((hbv _ (by decide)).trans PyProof.Rows.Boot.«super») ⟨rfl, ?_⟩)
          refine wpAny_loadName_free I.ok.kind F.kc (by rw [hce]; rfl) ⟨_, kin _ _ lcell, rfl⟩ ?_
          refine wpAny_loadName_local I.ok.kind hka hns hm ?_
          obtain ⟨hh, g, d, tk, os⟩ := sh
          refine ks_wpAny_isType_cls hD1 hD2 ⟨rfl, ?_⟩
          refine ks_wpAny_call_super hD1 hD2 J.at_ J.cls (fun c e => ?_) (PySem.W.looks_mroIn kin hmro) (fun h' e k => ?_)
          · have := J.no
            unfold PySem.W.notCls at this
            rw [e] at this
            exact Bool.noConfusion this
          have kin' : X.K.In h' := kin.keeps k
          refine ks_wpAny_getMethod_super e (PySem.W.looks_opaque kin' F.opq) (l₀ := cdC.mro) (fun A Q E s k q => wpAny_bind ((PySem.W.looks_clsIn kin' hcC) A _ E s k (wpAny_pure q))) rfl kin' hsup (kin' _ _ hof) hofc (PySem.W.ks_ne kin J hcC) (by decide) ?_
          have get : (h'.push (PySem.W.methodObj (.ref (adr X.K fd.at_)) (.ref a))).get? h'.objs.size = some (PySem.W.methodObj (.ref (adr X.K fd.at_)) (.ref a)) := Heap.get?_push_at rfl rfl
          have k2 : ∀ b o, hh.get? b = some o → (h'.push (PySem.W.methodObj (.ref (adr X.K fd.at_)) (.ref a))).get? b = some o := fun b o z => Heap.get?_push_of_some _ (k b o z)
          refine PySem.W.callWith_M0 (K := X.K) (g := adr X.K fd.at_) (self := .ref a) ⟨get, kin.keeps k2⟩ hfn ?_
          have I3 : Inv X pins σ H ⟨h'.push (PySem.W.methodObj (.ref (adr X.K fd.at_)) (.ref a)), g, d, tk + 1, os⟩ := Inv.more I rfl k2 I.bare
          have run := run_at O hfd hpt (A := X.A) (O.room.mono (by omega)) I3.env0 S (us := [.ref a]) (ys := []) (zs := []) (xs := []) (RepRs.cons1 (ws := []) (vs := []) rw1.r rfl) (.cons rfl .nil) rfl .nil (aftS_call a0)
          rw [hks] at run
          refine wpAny_call (PySem.W.method_call get (codeAny_mono run fun r s' hq => ?_))
          cases r with
          | error e => exact passAt O.tk σ pins H _ e s' I3 hq
          | ok fl =>
            cases fl with
            | ret u =>
              obtain ⟨v, H', I4, rv, q3⟩ := I3.after hq
              exact ⟨σ, H', I4, q3⟩
            | next => exact hq.elim
            | brk => exact hq.elim
            | cont => exact hq.elim
        · exact a0.elim
      · exact a0.elim
    · exact a0.elim
  · cases hx
end
theorem lookup_app {α β : Type} [BEq α] {x : α} : ∀ {l m : List (α × β)}, (l ++ m).lookup x = ((l.lookup x).or (m.lookup x))
  | [], m => by simp
  | (a, b) :: l, m => by
    rw [List.cons_append, List.lookup_cons, List.lookup_cons]
    cases x == a
    · exact lookup_app
    · rfl
theorem rev_none {x : Str} : ∀ {l : List (Str × Value)}, (∀ v, (x, v) ∉ l) → l.reverse.lookup x = none
  | [], _ => rfl
  | (a, b) :: l, h => by
    have ne : (x == a) = false := beq_eq_false_iff_ne.mpr fun e => h b (by rw [e]; exact List.mem_cons_self ..)
    rw [List.reverse_cons, lookup_app, rev_none fun v hv => h v (List.mem_cons_of_mem _ hv), List.lookup_cons, ne]
    rfl
theorem rev_get {x : Str} {u : Value} : ∀ {ps : List Str} {us : List Value} {i : Nat}, ps.Nodup → ps[i]? = some x → us[i]? = some u → (ps.zip us).reverse.lookup x = some u
  | [], _, _, _, h, _ => by simp at h
  | _ :: _, [], _, _, _, h => by simp at h
  | p :: ps, v :: us, 0, nd, h1, h2 => by
    simp at h1 h2
    subst h1 h2
    rw [List.zip_cons_cons, List.reverse_cons, lookup_app, rev_none fun w hw => (List.nodup_cons.mp nd).1 (List.of_mem_zip hw).1]
    simp
  | p :: ps, v :: us, i + 1, nd, h1, h2 => by
    rw [List.zip_cons_cons, List.reverse_cons, lookup_app, rev_get (i := i) (List.nodup_cons.mp nd).2 (by simpa using h1) (by simpa using h2)]
    rfl
/-- the names of such a def: all local, but the cell of the class -/
structure FnScopeS (N P : List Str) (sc : Scope) : Prop where
  kind : sc.kind = .function
  co : sc.isCoroutine = false
  gen : sc.isGenerator = false
  nd : N.Nodup
  pre : N.take P.length = P
  par : ∀ x ∈ P, sc.names.lookup x = some .local
  free : ∀ x, (sc.names.lookup x = some .cell ∨ sc.names.lookup x = some .free) → x = "__class__"
  nocell : ∀ y ∈ sc.names, y.2 ≠ .cell
def fnS (x : Str) : Bool := !(x == ("__class__" : Str))
def cxS (P : Program) (w : World) (K : PySem.W.Frag) (mg : Str → Option Value) (base : Heap) (N : List Str) (qual : Str) (scope : Scope) (f : Addr) (cd : Value) (cc : Addr) (A : Around) (outer : List Env) (s : Shared) (H : Hp) (E : XK) : Cx where
  prog := P
  w := w
  K := K
  mg := mg
  base := base
  A := A.deeper (PySem.W.ksEnv qual scope s.heap.objs.size f cd cc)
  N := N
  s_0 := s
  H_0 := H
  env := PySem.W.ksEnv qual scope s.heap.objs.size f cd cc
  outer := outer
  stack := PySem.W.ksEnv qual scope s.heap.objs.size f cd cc :: outer
  ex := []
  fn := fnS
  calm := true
  pn := []
  xe := fun e s' => wpAny (model P w) (A.deeper (PySem.W.ksEnv qual scope s.heap.objs.size f cd cc)) (leaving (PySem.W.ksEnv qual scope s.heap.objs.size f cd cc) e) (fun _ s'' => L2.CX P w outer H s E e s'') (fun e' s'' => L2.CX P w outer H s E e' s'') s'
section
variable {P : Program} {w : World} {K : PySem.W.Frag} {mg : Str → Option Value} {base : Heap}
theorem inv_startS {N ps : List Str} {qual : Str} {scope : Scope} {f cc : Addr} {cd : Value} {A : Around} {outer : List Env} {s : Shared} {h1 : Heap} {tk : Nat} {H : Hp} {E : XK} {us : List Value} {vs : List V} (S : FnScopeS N ps scope) (hd : A.handled = none) (e0 : Env0 P w K mg base A outer s H) (hl : vs.length = ps.length) (r : Vals vs us)
    (hcc : ∃ (cl : Value) (cld : Option Addr) (v : Option Value) (csl : Array (Option Value)), K.lookup cc = some ⟨cl, cld, .cell v, csl⟩) (hns : h1.Ns s.heap.objs.size (fun x => (ps.zip us).reverse.lookup x)) (hk : ∀ b o, s.heap.get? b = some o → h1.get? b = some o) :
    Inv (cxS P w K mg base N qual scope f cd cc A outer s H E) [] (L2.start N vs) H { s with heap := h1, toks := tk } := by
  have hpl : ps.length ≤ N.length := by have := congrArg List.length S.pre; rw [List.length_take] at this; omega
  obtain ⟨cl, cld, cv, csl, lcc⟩ := hcc
  have bcc : base.get? cc = some ⟨cl, cld, .cell cv, csl⟩ := e0.mod.kin _ _ lcc
  have noA : ∀ b : Addr, b ∉ (cxS P w K mg base N qual scope f cd cc A outer s H E).ex := fun b z => absurd (show b ∈ ([] : List Addr) from z) (by simp)
  have one : ∀ {x : Str} {c : Addr}, ([(("__class__" : Str), cc)] : List (Str × Addr)).lookup x = some c → x = "__class__" ∧ c = cc := fun {x c} e => by
    rw [List.lookup_cons] at e
    cases q : (x == ("__class__" : Str)) with
    | true => rw [q] at e; cases e; exact ⟨eq_of_beq q, rfl⟩
    | false => rw [q] at e; cases e
  refine ⟨⟨e0.mod, S.kind, rfl, rfl, Nat.le_refl _, fun y z c h1 h2 => ?_, fun y hy => ?_, fun y c h1 h => ?_, fun _ => hd, Around.frames_deeper e0.frames, .inr ⟨rfl, rfl⟩, fun b z => absurd z (noA b), e0.bs, e0.bsz, fun b _ _ => noA b, fun b z => absurd z (noA b), e0.funs, e0.frf⟩,
    rfl, e0.bare, Un.kept hk, ⟨_, hns, fun i y v h1 h2 h3 => ?_⟩, fun y c h => ?_, e0.hok.fresh (Nat.le_refl _), fun y c h => ?_, fun p hp => absurd (show p ∈ ([] : List (Addr × Obj)) from hp) (by simp), e0.hok.kept hk, ?_⟩
  · exact (one h1).1.trans (one h2).1.symm
  · have := S.free y hy
    subst this
    exact ⟨cc, by show List.lookup _ [_] = _; simp⟩
  · have := (one h).1
    subst this
    exact absurd (show fnS "__class__" = true from h1) (by decide)
  · have hi : i < vs.length := by
      unfold L2.start at h2
      by_cases hi : i < vs.length
      · exact hi
      · rw [List.getElem?_append_right (by simpa using hi)] at h2
        rw [List.getElem?_replicate] at h2
        split at h2 <;> cases h2
    have ha : vs[i]? = some v := by
      unfold L2.start at h2
      rw [List.getElem?_append_left (by simpa using hi), List.getElem?_map] at h2
      cases e : vs[i]? with
      | none => rw [e] at h2; cases h2
      | some a => rw [e] at h2; cases h2; rfl
    obtain ⟨u, hu, rv⟩ := r.get ha
    have hp : ps[i]? = some y := by
      rw [← S.pre, List.getElem?_take_of_lt (by omega)]; exact h1
    have ndP : ps.Nodup := by rw [← S.pre]; exact S.nd.sublist (List.take_sublist _ _)
    exact ⟨u, rv, .inl ⟨S.par y (List.mem_of_getElem? hp), rev_get ndP hp hu⟩⟩
  · have := (one h).2
    subst this
    exact ⟨cv, _, hk _ _ (e0.bs _ _ bcc).1, rfl⟩
  · have := (one h).2
    subst this
    exact (e0.bs _ _ bcc).2
  · show _ = N.length
    unfold L2.start
    rw [List.length_append, List.length_map, List.length_replicate]
    omega
end
/-- what is fixed of such a def -/
structure FnSu (P : Program) (t : Tb) (K : PySem.W.Frag) (mg : Str → Option Value) (fd : Fn) : Prop where
  ex : ∃ (oc : Value) (od : Option Addr) (osl : Array (Option Value)) (name qual : Str) (params : Arguments) (body : List Stmt) (scope : Scope) (dV kV doc pm ct : Value) (cda cc : Addr) (an : Option Addr) (x : Stmt) (rest : List Stmt) (f : Nat) (cs : List Nat) (r : Sxs) (slf : Str),
    (∀ x, fd.at_ ≠ .glo x) ∧ PySem.W.keepIn K (.ref (adr K fd.at_)) = true ∧ K.lookup (adr K fd.at_) = some ⟨oc, od, .func (PySem.W.ksFn name qual params body scope dV kV doc pm an (.ref cda) ct cc), osl⟩ ∧ PySem.W.codeIn K (.ref cda) qual = true ∧
    (∀ q ∈ fd.pats, PatOk ⟨K, t.cl⟩ (PySem.W.ksFn name qual params body scope dV kV doc pm an (.ref cda) ct cc) (fd.nm.take fd.np) q ∧ q.sel.any Ar.isVa = false) ∧ FnScopeS fd.nm (fd.nm.take fd.np) scope ∧ fd.np ≤ fd.nm.length ∧
    body = x :: rest ∧ supStmt x = true ∧ fd.body = .cons (.sup f cs) r ∧ fd.nm[0]? = some slf ∧ SupF t P K mg (PySem.W.ksFn name qual params body scope dV kV doc pm an (.ref cda) ct cc) (adr K fd.at_) scope cc cda f cs slf ∧ ∀ n, SSs t n ⟨fd.nm, scope, fnS⟩ r rest
section
variable {t : Tb} {P : Program} {w : World} {K : PySem.W.Frag} {mg : Str → Option Value} {base : Heap}
theorem fn_stepS (hf : ∀ x, t.free x = true → mg x = none) (hc : ∀ x d, t.con x d = true → ∃ u v, mg x = some u ∧ RelV v u ∧ Rep ⟨K, t.cl⟩ (fun _ => none) d v) {n i : Nat} {fd : Fn} (hi : t.tab[i]? = some fd) (hs : FnSu P t K mg fd)
    (hcl : ∀ (c : Nat) (d : Cd), t.cls[c]? = some d → ∃ C, t.cl c = some C ∧ CdOk t K mg C d) (hst : ∀ q ∈ t.stas, StaOk K mg q.1 q.2) (hct : ∀ (c : Nat) (C : Addr), t.cl c = some C → ∃ d, t.cls[c]? = some d) (hxc : XcsOk P K mg t)
    (ih : ∀ (base : Heap) (i : Nat) (fd : Fn), t.tab[i]? = some fd → FnAt t P w K mg base n i fd) : FnAt t P w K mg base (n + 1) i fd := by
  obtain ⟨oc, od, osl, name, qual, params, body, scope, dV, kV, doc, pm, ct, cda, cc, an, x, rest, f, cs, r, slf, m1, m2, m3, m4, m5, m6, m7, m8, m9, m10, m11, m12, m13⟩ := hs.ex
  refine ⟨m2, fun x e => absurd e (m1 x), fun p q hq A outer s H us ys ws zs vs xs T Fr μ g Q E hr e0 S rw1 v1 rz v2 hlen ha => ?_⟩
  have kin : K.In s.heap := e0.mod.kin.keeps fun b o z => (e0.bs b o z).1
  have ha : AftC ⟨K, t.cl⟩ T Fr μ Q E (match t.tab[i]? with
    | some fd => (match argsOf fd p ws zs with
      | some as => runB (Pc.run t.tab n) fd as g
      | none => .stuck)
    | none => .stuck) := ha
  rw [hi] at ha
  dsimp only at ha
  cases hargs : argsOf fd p ws zs with
  | none => rw [hargs] at ha; exact ha.elim
  | some as =>
    rw [hargs] at ha
    dsimp only at ha
    unfold argsOf at hargs
    rw [hq] at hargs
    dsimp only at hargs
    split at hargs
    · rename_i hcond
      cases hargs
      obtain ⟨l1, l2, l3, b1, b2, b3⟩ := hcond
      obtain ⟨⟨ds, hd, hb⟩, hva⟩ := m5 q (List.mem_of_getElem? hq)
      have l1 : ws.length = q.n := by
        rcases l1 with z | ⟨z, _⟩
        · exact z
        · rw [hva] at z; cases z
      obtain ⟨bs, q1, q2⟩ := sel_ok (σ := []) (ds := ds) rw1.rs v1 b1 rz.rs v2 b2 hd
      have hlen2 : bs.length = (fd.nm.take fd.np).length := by
        rw [q2.len, List.length_map, l3, List.length_take]
        omega
      have nlim : s.heap.NoLimit := e0.mod.nolimit.keeps fun b o z => (e0.bs b o z).1
      have hbt := hb s us ys kin (by rw [← v1.length, rw1.len]; exact l1) hlen
      have hloc : ∀ y ∈ (fd.nm.take fd.np).zip (selVs us ys ds q.sel 0), scope.names.lookup y.1 = some .local := by
        rintro ⟨x, v⟩ hy
        exact m6.par x (List.of_mem_zip hy).1
      obtain ⟨cl, cld, csl, D', cdD, fdB, ptB, lcell, hrest⟩ := m12.cell
      subst m8
      refine ks_codeAny_call_defAt (fd := PySem.W.ksFn name qual params (x :: rest) scope dV kV doc pm an (.ref cda) ct cc) (body := x :: rest) hr.r.depth (kin _ _ m3) rfl nlim (PySem.W.codeRec_of kin m4) rfl hbt m6.nocell hloc (fun h1 hns hk => ?_) m6.co m6.gen m6.kind
      have I := inv_startS (P := P) (w := w) (E := E) (qual := qual) (f := adr K fd.at_) (cd := .ref cda) (tk := s.toks + ((fd.nm.take fd.np).zip (selVs us ys ds q.sel 0)).length) m6 hr.r.hd e0 hlen2 q1 ⟨cl, cld, _, csl, lcell⟩ hns hk
      have O : Ok t n ⟨fd.nm, scope, fnS⟩ (cxS P w K mg base fd.nm qual scope (adr K fd.at_) (.ref cda) cc A outer s H E) (fun cls d _ H => E cls d H) :=
        ⟨rfl, rfl, fun _ h => h, hf, hc, ((hr.mono (show 3 * n + 2 + 1 ≤ 3 * (n + 1) by omega)).deeper _).mono (by omega), m6.nd, rfl, takes_of (E := E) rfl rfl rfl rfl, ih, hcl, hst, hct, hxc⟩
      have po : PassesOwn (model P w) (cxS P w K mg base fd.nm qual scope (adr K fd.at_) (.ref cda) cc A outer s H E).A (cxS P w K mg base fd.nm qual scope (adr K fd.at_) (.ref cda) cc A outer s H E).env (cxS P w K mg base fd.nm qual scope (adr K fd.at_) (.ref cda) cc A outer s H E).xe := passes_of rfl
      have S0 := S.begin (m := fd.nm.length - (q.sel.map (selW ws zs)).length) q2
      have hstart : (bs.map some ++ List.replicate (fd.nm.length - (q.sel.map (selW ws zs)).length) none) = L2.start fd.nm bs := by unfold L2.start; rw [q2.len]
      rw [hstart] at S0
      have a2 : AftS ⟨K, t.cl⟩ T Fr μ (fun cls d _ H => E cls d H) { nx := fun _ H' => Q .non H', rt := Q } (exs (t.o n) fd.body ⟨g, startR fd (q.sel.map (selW ws zs))⟩) := by
        unfold runB at ha
        cases e : exs (t.o n) fd.body ⟨g, startR fd (q.sel.map (selW ws zs))⟩ with
        | stuck => rw [show exs (run t.tab n) fd.body ⟨g, startR fd (q.sel.map (selW ws zs))⟩ = _ from e] at ha; exact ha.elim
        | exc x s' =>
          rw [show exs (run t.tab n) fd.body ⟨g, startR fd (q.sel.map (selW ws zs))⟩ = _ from e] at ha
          exact fun T' μ' σ' H' C d e' p' S' er => ha T' μ' H' C d e' p' S'.bare er
        | ok c s' =>
          rw [show exs (run t.tab n) fd.body ⟨g, startR fd (q.sel.map (selW ws zs))⟩ = _ from e] at ha
          cases c with
          | nx => exact fun T' μ' σ' H' e' p' S' => ha T' μ' H' .non e' p' S'.bare rfl
          | rt w => exact fun T' μ' σ' H' e' p' S' v r' => ha T' μ' H' v e' p' S'.bare r'
          | bk => exact ha.elim
          | ct => exact ha.elim
      rw [m10] at a2
      unfold exs at a2
      have done : ∀ {σ' : L2.St} {H' : Hp} {v : V} {u : Value} {s' : Shared}, L2.Inv (cxS P w K mg base fd.nm qual scope (adr K fd.at_) (.ref cda) cc A outer s H E) [] σ' H' s' → RelV v u → Q v H' → CE outer P w H s Q u s' := fun J r' q' => ⟨_, _, J.os, J.bare, J.base, J.hok, r', q'⟩
      refine ks_wpAt_execs_cons (ks_wpAt_mono (sup_run O rfl m12 rfl rfl rfl m11 m9 (D := ⟨rdS ⟨K, t.cl⟩ (fun cls d _ H => E cls d H) (exs (t.o n) r) { nx := fun _ H' => Q .non H', rt := Q }, Q, fun _ _ => False, fun _ _ => False⟩) I S0 ?_) (fun fl s' z => ?_) fun e s' z => z)
      · have a2 : AftS ⟨K, t.cl⟩ T Fr μ (fun cls d _ H => E cls d H) { nx := fun _ H' => Q .non H', rt := Q } ((ex1 (run t.tab n) (.sup f cs) ⟨g, startR fd (q.sel.map (selW ws zs))⟩).bind fun c s1 => match c with
          | .nx => exs (run t.tab n) r s1
          | c => .ok c s1) := a2
        show AftS ⟨K, t.cl⟩ T Fr μ (fun cls d _ H => E cls d H) _ (ex1 (run t.tab n) (.sup f cs) ⟨g, startR fd (q.sel.map (selW ws zs))⟩)
        cases e : ex1 (run t.tab n) (.sup f cs) ⟨g, startR fd (q.sel.map (selW ws zs))⟩ with
        | stuck => rw [e] at a2; exact a2.elim
        | exc x s' =>
          rw [e] at a2
          exact a2
        | ok c s' =>
          rw [e] at a2
          simp only [Res.bind] at a2
          cases c with
          | nx => exact fun T' μ' σ' H' e' p' S' => ⟨T', Fr, μ', s', S', AftS.mono a2 e' p'⟩
          | rt w => exact a2
          | bk => exact a2
          | ct => exact a2
      · cases fl with
        | next =>
          obtain ⟨σ', H', J, q'⟩ := z
          refine wpAt_of_wpAny (wpAny_mono ((m13 n _ _ O po).run [] s' σ' H' _ J q') (fun fl s'' z => ?_) fun e s'' z => z)
          cases fl with
          | ret u => obtain ⟨v, σ', H', J, r', q'⟩ := z; exact done J r' q'
          | next => obtain ⟨σ', H', J, q'⟩ := z; exact done (v := V.non) (u := Value.none) J rfl q'
          | brk => obtain ⟨_, _, _, q'⟩ := z; exact q'.elim
          | cont => obtain ⟨_, _, _, q'⟩ := z; exact q'.elim
        | ret u => obtain ⟨v, σ', H', J, r', q'⟩ := z; exact done J r' q'
        | brk => obtain ⟨_, _, _, q'⟩ := z; exact q'.elim
        | cont => obtain ⟨_, _, _, q'⟩ := z; exact q'.elim
    · cases hargs
theorem fns_ok2 (hf : ∀ x, t.free x = true → mg x = none) (hc : ∀ x d, t.con x d = true → ∃ u v, mg x = some u ∧ RelV v u ∧ Rep ⟨K, t.cl⟩ (fun _ => none) d v) (hs : ∀ fd ∈ t.tab, FnSt t K mg fd ∨ FnSu P t K mg fd)
    (hcl : ∀ (c : Nat) (d : Cd), t.cls[c]? = some d → ∃ C, t.cl c = some C ∧ CdOk t K mg C d) (hst : ∀ q ∈ t.stas, StaOk K mg q.1 q.2) (hct : ∀ (c : Nat) (C : Addr), t.cl c = some C → ∃ d, t.cls[c]? = some d) (hxc : XcsOk P K mg t) : ∀ n (base : Heap) i fd, t.tab[i]? = some fd → FnAt t P w K mg base n i fd
  | 0, _, i, fd, hi => by
    rcases hs fd (List.mem_of_getElem? hi) with h | h
    · exact fn_zero h
    · obtain ⟨oc, od, osl, name, qual, params, body, scope, dV, kV, doc, pm, ct, cda, cc, an, x, rest, f, cs, r, slf, m1, m2, _⟩ := h.ex
      exact ⟨m2, fun x e => absurd e (m1 x), fun p q hq A outer s H us ys ws zs vs xs T Fr μ g Q E _ _ _ _ _ _ _ _ h => h.elim⟩
  | n + 1, _, i, fd, hi => by
    rcases hs fd (List.mem_of_getElem? hi) with h | h
    · exact fn_step hf hc hi h hcl hst hct hxc (fns_ok2 hf hc hs hcl hst hct hxc n)
    · exact fn_stepS hf hc hi h hcl hst hct hxc (fns_ok2 hf hc hs hcl hst hct hxc n)
end
end Pc

set_option Elab.async false
set_option linter.all false
set_option maxRecDepth 100000
set_option maxHeartbeats 4000000
namespace Pc
open PySem L2
section
variable {t : Tb} {n : Nat} {M : Mc}
theorem xfs_code {q : Xd} {y : V} : (xfs q y).lookup ("code" : Str) = some (.str q.name) := by
  unfold xfs
  rw [lookup_put, if_pos rfl]
theorem xfs_fld {q : Xd} {y : V} {f : Str} (h : q.fld = some f) (hc : f ≠ "code") : (xfs q y).lookup f = some y := by
  unfold xfs
  rw [h]
  dsimp only
  rw [lookup_put, if_neg hc, lookup_put, if_pos rfl]
/-- what a made exception leaves -/
theorem exn_rep {k : Kx} {T Fr H : Hp} {μ : List Addr} {s : Ss} {σ : L2.St} {q : Xd} {y : V} {d : D} {a dx : Addr} (S : Sim k T Fr μ s σ H) (h1 : H a = none) (h2 : H dx = none) (h3 : dx ≠ a) (hf : ∀ f, q.fld = some f → f ≠ "code" ∧ f ≠ "" ∧ Rep k T d y) :
    ∃ T', Same T T' ∧ Sim k T' Fr μ s σ (upd (upd H dx (.xd (xfs q y))) a (XvO a (He.ga k.K q.name) dx)) ∧ Rep k T' (.exn q.name (q.fld.getD "") d) (.ref a) := by
  have S1 := S.new (p := dx) (o := .xd (xfs q y)) h2
  have n1 : upd H dx (.xd (xfs q y)) a = none := by rw [upd_ne (Ne.symm h3)]; exact h1
  have S2 := S1.new (p := a) (o := XvO a (He.ga k.K q.name) dx) n1
  have e1 : Same T (upd T dx (.xd (xfs q y))) := upd_none (S.tn h2)
  have e2 := upd_none (o := XvO a (He.ga k.K q.name) dx) (S1.tn n1)
  refine ⟨_, e1.trans e2, S2, a, dx, xfs q y, rfl, upd_same, e2 _ _ upd_same, xfs_code, fun hne => ?_⟩
  cases hq : q.fld with
  | none => rw [hq] at hne; exact absurd rfl hne
  | some f =>
    obtain ⟨c1, c2, c3⟩ := hf f hq
    exact ⟨y, xfs_fld hq c1, c3.mono (e1.trans e2)⟩
theorem s_xmk {q : Xd} {kw : Bool} {es kes : Exs} {x : Str} {px pos : Pos} {xs : List Expr} {kws : List Keyword} {ks : List Str} (hx : (t.xcs.contains q && decide (x = q.name) && glB M.sc x && plainName x && decide (ks = if kw then [q.par] else [])) = true) (A : ArgsOk t n M es kes xs kws ks) :
    SE t n M (.xmk q kw es kes) (.Call (.Name x px) xs kws pos) := fun X W O => by
  simp only [Bool.and_eq_true, decide_eq_true_eq] at hx
  obtain ⟨⟨⟨⟨x1, rfl⟩, x2⟩, x3⟩, x4⟩ := hx
  have Q1 := O.xcs.x q (by simpa using x1)
  obtain ⟨fI, _, _, _, _, _, _, _, _, _, _, _, _, _, _, _, _, _, iC, tI, _⟩ := Q1.ini
  refine ⟨fun pins sh σ H Q I ⟨T, Fr, μ, s, S, a0⟩ => ?_⟩
  unfold ev at a0
  refine wpAny_Call_Name_kw (ld_glob I (glB_ok O x2) Q1.glo ?_ (plainName_a x3))
  refine call_args O Q1.kp A I S a0 fun {H2 T2 μ2 s2 sh2 us ys vs zs ws2 zs2} e2 p2 I2 S2 ra va rz vz a2 => ?_
  have rm : Room 1 X.A := (O.room.mono (by omega : 1 ≤ 3 * n + 2)).r
  unfold xmkR at a2
  have none_ : q.fld = none → us = [] → ys = [] → Aft (t.k X) T2 Fr μ2 W σ (rE (t.k X)) Q (.ok (.d (.exn q.name "" .non)) s2) → wpAny (model X.prog X.w) X.A (call (.ref (He.ga X.K q.name)) ([] ++ us) (ks.zip ys)) (EP X pins σ Q) X.xe sh2 := fun hfl eu ey a2 => by
    subst eu ey
    have hk : ks.zip ([] : List Value) = [] := by cases ks <;> rfl
    show wpAny _ _ (call (.ref (He.ga X.K q.name)) [] (ks.zip [])) _ _ _
    rw [hk]
    refine wpAny_call (x_make Q1.T I2.kIn iC tI (by simp) fun h1 k1 e1 => exn_ini (args := fun l => ⟨l, []⟩) (y := .non) (u := .none) Q1 (rm.make _ _ _).depth I2 k1 e1 iC rfl (fun e => .inr ⟨hfl, rfl⟩) fun s' dx J n1 n2 n3 => ?_)
    obtain ⟨T3, e3, S3, r3⟩ := exn_rep (d := .non) (y := .non) S2 n1 n2 n3 (fun f z => by rw [hfl] at z; cases z)
    rw [hfl] at r3
    exact ⟨V.ref (sh2.heap.objs.size + 1), _, J, rfl, a2 T3 μ2 _ _ e3 (List.prefix_refl _) S3 r3⟩
  have one_ : ∀ {f : Str} {d : D} {y : V} {u : Value}, q.fld = some f → Rep (t.k X) T2 d y → RelV y u → ((us = [u] ∧ ys = []) ∨ (us = [] ∧ ks.zip ys = [(q.par, u)])) → Aft (t.k X) T2 Fr μ2 W σ (rE (t.k X)) Q (.ok (.d (.exn q.name f d)) s2) → wpAny (model X.prog X.w) X.A (call (.ref (He.ga X.K q.name)) ([] ++ us) (ks.zip ys)) (EP X pins σ Q) X.xe sh2 := fun {f d y u} hfl rd_ ru hu a2 => by
    have nof := Q1.nof f hfl
    have done : ∀ {s' : Shared} {dx : Addr}, Inv X pins σ (upd (upd H2 dx (.xd (xfs q y))) (sh2.heap.objs.size + 1) (XvO (sh2.heap.objs.size + 1) (He.ga X.K q.name) dx)) s' → H2 (sh2.heap.objs.size + 1) = none → H2 dx = none → dx ≠ sh2.heap.objs.size + 1 → EP X pins σ Q (.ref (sh2.heap.objs.size + 1)) s' := fun {s' dx} J n1 n2 n3 => by
      obtain ⟨T3, e3, S3, r3⟩ := exn_rep (d := d) (y := y) S2 n1 n2 n3 (fun g z => by rw [hfl] at z; cases z; exact ⟨nof.2.1, nof.2.2, rd_⟩)
      rw [hfl] at r3
      exact ⟨V.ref (sh2.heap.objs.size + 1), _, J, rfl, a2 T3 μ2 _ _ e3 (List.prefix_refl _) S3 r3⟩
    rcases hu with ⟨rfl, rfl⟩ | ⟨rfl, hz⟩
    · have hk : ks.zip ([] : List Value) = [] := by cases ks <;> rfl
      show wpAny _ _ (call (.ref (He.ga X.K q.name)) [u] (ks.zip [])) _ _ _
      rw [hk]
      exact wpAny_call (x_make Q1.T I2.kIn iC tI (by simp [sizeLine_eq]) fun h1 k1 e1 => exn_ini (args := fun l => ⟨l ++ [u], []⟩) Q1 (rm.make _ _ _).depth I2 k1 e1 iC ru (fun e => .inl ⟨by rw [hfl]; rfl, .inl rfl⟩) fun s' dx J n1 n2 n3 => done J n1 n2 n3)
    · show wpAny _ _ (call (.ref (He.ga X.K q.name)) [] (ks.zip ys)) _ _ _
      rw [hz]
      exact wpAny_call (x_makeK Q1.T I2.kIn iC tI fun h1 k1 e1 => exn_ini (args := fun l => ⟨l, [(q.par, u)]⟩) Q1 (rm.make _ _ _).depth I2 k1 e1 iC ru (fun e => .inl ⟨by rw [hfl]; rfl, .inr rfl⟩) fun s' dx J n1 n2 n3 => done J n1 n2 n3)
  cases kw with
  | false =>
    cases hfl : q.fld with
    | none =>
      rw [hfl] at a2
      split at a2
      · cases (show vs = [] from ra)
        cases (show zs = [] from rz)
        cases va
        cases vz
        exact none_ hfl rfl rfl a2
      · first | contradiction | (rename_i h; cases h; done) | (rename_i h _; cases h; done) | (rename_i h _ _; cases h; done)
      · first | contradiction | (rename_i h; cases h; done) | (rename_i h _; cases h; done) | (rename_i h _ _; cases h; done)
      · exact a2.elim
    | some f =>
      rw [hfl] at a2
      split at a2
      · first | contradiction | (rename_i h; cases h; done) | (rename_i h _; cases h; done) | (rename_i h _ _; cases h; done)
      · rename_i f' d h
        cases h
        obtain ⟨v, r, rfl, r1, r2⟩ := ra
        cases (show r = [] from r2)
        cases (show zs = [] from rz)
        cases vz
        obtain ⟨u, hu⟩ : ∃ u, us = [u] ∧ RelV v u := by
          cases va with
          | cons h t => cases t; exact ⟨_, rfl, h⟩
        exact one_ hfl r1 hu.2 (.inl ⟨hu.1, rfl⟩) a2
      · first | contradiction | (rename_i h; cases h; done) | (rename_i h _; cases h; done) | (rename_i h _ _; cases h; done)
      · exact a2.elim
  | true =>
    cases hfl : q.fld with
    | none =>
      rw [hfl] at a2
      split at a2
      · first | contradiction | (rename_i h; cases h; done) | (rename_i h _; cases h; done) | (rename_i h _ _; cases h; done)
      · first | contradiction | (rename_i h; cases h; done) | (rename_i h _; cases h; done) | (rename_i h _ _; cases h; done)
      · first | contradiction | (rename_i h; cases h; done) | (rename_i h _; cases h; done) | (rename_i h _ _; cases h; done)
      · exact a2.elim
    | some f =>
      rw [hfl] at a2
      split at a2
      · first | contradiction | (rename_i h; cases h; done) | (rename_i h _; cases h; done) | (rename_i h _ _; cases h; done)
      · first | contradiction | (rename_i h; cases h; done) | (rename_i h _; cases h; done) | (rename_i h _ _; cases h; done)
      · rename_i f' d h
        cases h
        obtain ⟨v, r, rfl, r1, r2⟩ := rz
        cases (show r = [] from r2)
        cases (show vs = [] from ra)
        cases va
        obtain ⟨u, hu⟩ : ∃ u, ys = [u] ∧ RelV v u := by
          cases vz with
          | cons h t => cases t; exact ⟨_, rfl, h⟩
        exact one_ hfl r1 hu.2 (.inr ⟨rfl, by rw [hu.1, x4]; rfl⟩) a2
      · exact a2.elim
/-- an exception's object, as the library sees it -/
theorem xv_inst {X : Cx} {pins : List (Addr × Obj)} {σ : L2.St} {H : Hp} {sh : Shared} {a C dx : Addr} {fs : List (Str × V)} (I : Inv X pins σ H sh) (h1 : H a = some (XvO a C dx)) (h2 : H dx = some (.xd fs)) :
    ∃ (oe od : Obj), PySem.W.InstAt sh.heap a oe C (some od) ∧ ∀ n, ∃ m : Option Value, PySem.W.lookIn n od = some m ∧ RelO (fs.lookup n) m := by
  obtain ⟨⟨oe, vs, e1, e2, e3, e4⟩, _, _⟩ := I.hok a _ h1
  obtain ⟨mA, hns, hr⟩ := (show ObjOk X.prog X.w H sh.heap dx (.xd fs) from I.hok dx _ h2)
  obtain ⟨od, ho, hl⟩ := lookIn_ns hns
  refine ⟨oe, od, ⟨e1, e2, by unfold PySem.W.notCls; rw [e4], by rw [e3]; exact ho⟩, fun n => ⟨mA n, hl n, hr n⟩⟩
theorem s_xfld {e : Ex} {f : Str} {all : List Xd} {xe : Expr} {pos : Pos} (hx : (baseB xe && all.all fun q => t.xcs.contains q) = true) (he : SE t n M e xe) : SE t n M (.xfld e f all) (.Attribute xe f pos) := fun X W O => by
  rw [Bool.and_eq_true] at hx
  refine ⟨fun pins sh σ H Q I ⟨T, Fr, μ, s, S, a⟩ => ?_⟩
  unfold ev at a
  refine attr_of (base_ok hx.1 _ _ _) (thn ((he X W O).run pins sh σ H (fun v H1 => ∃ T1 μ1 w s1, Same T T1 ∧ μ <+: μ1 ∧ Sim (t.k X) T1 Fr μ1 s1 σ H1 ∧ RepR (t.k X) T1 μ1 σ w v ∧ Aft (t.k X) T1 Fr μ1 W σ (rE (t.k X)) Q (Res.of ((xfldD f all w).map Pc.W.d) s1)) I (rd_bind S a fun T1 μ1 H1 v w s1 e1 p1 S1 r1 a => ⟨T1, μ1, w, s1, e1, p1, S1, r1, a⟩)) fun u s1 ⟨v, H1, I1, rv, T1, μ1, w, s1', e1, p1, S1, r1, a1⟩ => ?_)
  obtain ⟨w', hw, a2⟩ := Aft.of a1
  obtain ⟨d, hd, rfl⟩ := map_some hw
  unfold xfldD at hd
  split at hd
  · rename_i nm g v'
    split at hd
    · rename_i hall
      obtain ⟨q, hq, hqn⟩ := List.any_eq_true.mp hall
      rw [Bool.and_eq_true, Bool.or_eq_true, decide_eq_true_eq, decide_eq_true_eq, decide_eq_true_eq] at hqn
      obtain ⟨hqn, hqf⟩ := hqn
      have Q1 := O.xcs.x q (by simpa using List.all_eq_true.mp hx.2 q hq)
      obtain ⟨b, dx, fs, rfl, r2, r3, r4, r5⟩ := (show Rep (t.k X) T1 (.exn nm g v') v from r1)
      cases rv
      obtain ⟨oe, od, J, hl⟩ := xv_inst I1 (S1.tH _ _ r2) (S1.tH _ _ r3)
      have C0 : He.ga (t.k X).K nm = He.ga X.K q.name := by rw [hqn]
      rw [C0] at J
      obtain ⟨m, hm, hr⟩ := hl f
      have fin : ∀ {y : V}, fs.lookup f = some y → Rep (t.k X) T1 d y → PySem.W.findIn X.K (.ref (He.ga X.K q.name)) f = some none → wpAny (model X.prog X.w) X.A (getAttr (.ref b) f true) (EP X pins σ Q) X.xe s1 := fun {y} hy ry hno => by
        rw [hy] at hr
        obtain ⟨uu, hu, ru⟩ := RelO.some_of hr
        rw [hu] at hm
        exact HandSPX.exc_get I1.kIn J Q1.xf.ga Q1.xf.gg Q1.xf.exC (PySem.W.findObj_own Q1.xf.hdC hno rfl hm) (handed_of ru) ⟨y, H1, I1.tok _, ru, a2.hereE S1 ry⟩
      split at hd
      · rename_i hf
        cases hd
        subst hf
        exact fin r4 rfl Q1.noc
      · rename_i hf
        have hqf := hqf.resolve_left hf
        split at hd
        · rename_i hg
          cases hd
          subst hg
          have nf := Q1.nof f hqf
          obtain ⟨y, y1, y2⟩ := r5 nf.2.2
          exact fin y1 y2 nf.1
        · cases hd
    · cases hd
  · cases hd
/-- isinstance(e, c), e an exception -/
theorem call_isV {X : Cx} : CallR X (.builtin "isinstance") (fun xs H Q => ∃ (a dx C : Addr) (fs : List (Str × V)) (c : V) (cv : Value) (b : Bool), xs = [.ref a, c] ∧ H a = some (XvO a C dx) ∧ H dx = some (.xd fs) ∧ ExcC X.K C ∧ (∀ u, RelV c u → u = cv) ∧ PySem.W.kitOne X.K (.ref C) cv = some b ∧ Q (.bl b) H) := by
  intro pins s σ H xs us Q I r ⟨a, dx, C, fs, c, cv, b, e, h1, h2, EC, hc, hk, q⟩
  subst e
  obtain ⟨u1, u2, rfl, r1, r2⟩ := vals2 r
  cases (show u1 = Value.ref a from r1)
  have e2 := hc _ r2
  subst e2
  obtain ⟨oe, od, J, _⟩ := xv_inst I h1 h2
  have hcl : (PySem.W.clsIn X.K C).isSome = true := by
    obtain ⟨cd, hcd, _⟩ := PySem.W.any_some EC.hd
    rw [hcd]; rfl
  exact PySem.W.kia_one (PySem.W.kitx_exc hcl EC.hg EC.hk EC.hs EC.ha EC.hn EC.ht EC.hm) I.kIn J hk (fun z => nomatch z) fun tk => ⟨.bl b, H, I.tok tk, rfl, q⟩
theorem s_xis {a : Ex} {k : Xk} {xa : Expr} {p p2 pos : Pos} (hx : (glB M.sc "isinstance" && t.free "isinstance" && plainArg xa && t.xks.contains k && glB M.sc k.y && plainName k.y) = true) (ha : SE t n M a xa) :
    SE t n M (.xis a k) (.Call (.Name "isinstance" p) [xa, .Name k.y p2] [] pos) := fun X W O => by
  simp only [Bool.and_eq_true] at hx
  obtain ⟨⟨⟨⟨⟨x1, x2⟩, x3⟩, x4⟩, x5⟩, x6⟩ := hx
  obtain ⟨k1, k2, k3⟩ := O.xcs.k k (by simpa using x4)
  obtain ⟨v, pb, hv⟩ : ∃ v, PE X (.Name k.y p2) (tC v) ∧ ∀ u, RelV v u → u = k.val X.K := by
    unfold Xk.val
    cases ho : k.own with
    | true => exact ⟨.ref _, pe_glob (v := .ref (He.ga X.K k.y)) (glB_ok O x5) (k1 ho) rfl (plainName_a x6), fun u hu => hu⟩
    | false =>
      obtain ⟨m1, m2, m3⟩ := k2 ho
      exact ⟨.ty _, pe_bltn (v := .ty (Xk.ty k.y)) (glB_ok O x5) m1 m2 rfl m3 (plainName_a x6), fun u hu => hu⟩
  refine PE.weak (pe_callB call_isV (glB_ok O x1) (O.fr _ x2) PyProof.Rows.boot_isinstance (pa_cons (ha X W O) (pa_cons pb pa_nil (star_plain rfl _ _)) (star_plain x3 _ _)) (by decide) (by decide) (star_plain x3 _ _) rfl) fun σ H Q ⟨T, Fr, μ, s, S, a⟩ => ?_
  unfold ev at a
  refine rd_bind S a fun T1 μ1 H1 u w s1 e1 p1 S1 r1 a => ?_
  obtain ⟨b, hb, a1⟩ := res_bl a
  unfold xisD at hb
  split at hb
  · rename_i nm g v'
    split at hb
    · rename_i hall
      cases hb
      obtain ⟨⟨q, hq, hqn⟩, hk⟩ := k3 nm (by simpa using hall)
      obtain ⟨b, dx, fs, rfl, r2, r3, _⟩ := (show Rep (t.k X) T1 (.exn nm g v') u from r1)
      subst hqn
      exact ⟨b, dx, _, fs, v, k.val X.K, _, rfl, S1.tH _ _ r2, S1.tH _ _ r3, (O.xcs.x q hq).ec, hv, hk, a1.hereE S1 rfl⟩
    · cases hb
  · cases hb
end
end Pc

set_option Elab.async false
set_option linter.all false
set_option maxRecDepth 100000
set_option maxHeartbeats 4000000
namespace Pc
open PySem L2
def ksOf (kws : List Keyword) : List Str := kws.filterMap (·.arg)
def Exs.isNil : Exs → Bool
  | .nil => true
  | _ => false
theorem isNil_ok {e : Exs} (h : e.isNil = true) : e = .nil := by
  cases e <;> first | rfl | cases h
def ownOf (M : Mc) (vs : List Nat) : List (Str × Nat) := vs.map fun i => (M.N.getD i Str.empty, i)
/-- the written classes of an isinstance -/
def tnOf (t : Tb) : Expr → Tn
  | .Name y _ => if t.cls.any (fun d => decide (d.name = y)) then .own y else match tyNames.find? (fun T => decide (y = Str.ofString T)) with
    | some T => .ty T
    | none => .ty ""
  | _ => .ty ""
/-- the arguments of a call -/
def argB (es kes : Exs) (xs : List Expr) (kws : List Keyword) : Bool := (xs.all plainArg || (oneStar xs && kws.isEmpty)) && decide (kws.map (·.arg) = (ksOf kws).map some) && (!xs.isEmpty || es.isNil) && (!kws.isEmpty || kes.isNil)
def isTup : Expr → Bool
  | .Tuple _ _ _ => true
  | _ => false
def matG (M : Mc) (g : Tg) (x : Expr) : Bool :=
  match g with
  | .nm i => match x with
    | .Name x _ => tgB M i x
    | _ => false
  | .tp l => match x with
    | .Tuple es _ _ => tpB M l es
    | _ => false
mutual
def matE (t : Tb) (M : Mc) : Ex → Expr → Bool
  | .v i, x => match x with
    | .Name x _ => nmB M i x
    | _ => false
  | .b i, x => match x with
    | .Name x _ => nmB M i x
    | _ => false
  | .k d, x => match x with
    | .Constant c _ _ => kB d c
    | _ => false
  | .gk _ d, x => match x with
    | .Name x _ => glB M.sc x && plainName x && t.con x d
    | _ => false
  | .op f a b, x => match x with
    | .BinOp xa op xb _ => o2B f op && matE t M a xa && matE t M b xb
    | _ => false
  | .neg a, x => match x with
    | .UnaryOp .USub xa _ => matE t M a xa
    | _ => false
  | .cmp f a b, x => match x with
    | .Compare xa [op] [xb] _ => c2B f op && !behindInMarks op xb && matE t M a xa && matE t M b xb
    | _ => false
  | .cmp2 f g a b c, x => match x with
    | .Compare xa [op, op'] [xb, xc] _ => c2B f op && c2B g op' && !lastMarks [op, op'] [xb, xc] && matE t M a xa && matE t M b xb && matE t M c xc
    | _ => false
  | .bop an es, x => match x with
    | .BoolOp op xs _ => bopB an op && matB t M es xs
    | _ => false
  | .not a, x => match x with
    | .UnaryOp .Not xa _ => matE t M a xa
    | _ => false
  | .ite c a b, x => match x with
    | .IfExp xc xa xb _ => matT t M c xc && matE t M a xa && matE t M b xb
    | _ => false
  | .tup es, x => match x with
    | .Tuple xs _ _ => matA t M es xs
    | _ => false
  | .fz f, x => matF t M f x
  | .mk f, x => matF t M f x
  | .sub a i, x => match x with
    | .Subscript xa xi _ => plainIxB xi && matE t M a xa && matE t M i xi
    | _ => false
  | .sli a lo hi, x => match x with
    | .Subscript xa (.Slice xl xh none _) _ => matE t M a xa && matO t M lo xl && matO t M hi xh
    | _ => false
  | .call f p es kes, x => match x with
    | .Call (.Name x _) xs kws _ => (patB t f p x (ksOf kws) && glB M.sc x && plainName x && xs.all plainArg && decide (kws.map (·.arg) = (ksOf kws).map some)) && (!xs.isEmpty || es.isNil) && (!kws.isEmpty || kes.isNil) && matA t M es xs && matK t M kes kws
    | .Call (.Attribute (.Name x _) m apos) xs kws pos => (t.stas.contains (x, m) && (match t.tab[f]? with | some fd => decide (fd.at_ = .sta x m) && patKs fd p (ksOf kws) | none => false) && glB M.sc x && plainName x && xs.all plainArg && decide (xs.length + kws.length + 1 < 30) && (apos.endLine == pos.line)) && argB es kes xs kws && matA t M es xs && matK t M kes kws
    | _ => false
  | .fld e f cs, x => match x with
    | .Attribute xe g _ => decide (g = f) && (baseB xe && fldB t f cs) && matE t M e xe
    | _ => false
  | .met e m ds es kes, x => match x with
    | .Call (.Attribute xe g apos) xs kws pos => decide (g = m) && (baseB xe && xs.all plainArg && decide (xs.length + kws.length + 1 < 30) && (apos.endLine == pos.line) && metB t m ds (ksOf kws)) && argB es kes xs kws && matE t M e xe && matA t M es xs && matK t M kes kws
    | _ => false
  | .prp e f ds, x => match x with
    | .Attribute xe g _ => decide (g = f) && (baseB xe && proB t f ds) && matE t M e xe
    | _ => false
  | .new c f p _ es kes, x => match x with
    | .Call (.Name x _) xs kws _ => (newB t c f p x (ksOf kws) && glB M.sc x && plainName x) && argB es kes xs kws && matA t M es xs && matK t M kes kws
    | _ => false
  | .xmk q kw es kes, x => match x with
    | .Call (.Name x _) xs kws _ => (t.xcs.contains q && decide (x = q.name) && glB M.sc x && plainName x && decide (ksOf kws = if kw then [q.par] else [])) && argB es kes xs kws && matA t M es xs && matK t M kes kws
    | _ => false
  | .xfld a f all, x => match x with
    | .Attribute xe g _ => decide (g = f) && (baseB xe && all.all fun q => t.xcs.contains q) && matE t M a xe
    | _ => false
  | .xis a k, x => match x with
    | .Call (.Name x _) [xa, .Name y _] [] _ => decide (x = "isinstance") && decide (y = k.y) && (glB M.sc "isinstance" && t.free "isinstance" && plainArg xa && t.xks.contains k && glB M.sc k.y && plainName k.y) && matE t M a xa
    | _ => false
  | .opo f ds rs a b, x => match x with
    | .BinOp xa op xb _ => (opoB f op && metB t (o2N f) ds [] && metB t "__rmul__" rs [] && (rs.all fun q => (ds.lookup q.1).isSome) && (rs.isEmpty || decide (f = .mul))) && matE t M a xa && matE t M b xb
    | _ => false
  | .cmo f ds a b, x => match x with
    | .Compare xa [op] [xb] _ => (cmoB f op && metB t "__eq__" ds [] && nfB t ds && c2B f op) && !behindInMarks op xb && matE t M a xa && matE t M b xb
    | _ => false
  | .uno u ds a, x => match x with
    | .UnaryOp op xa _ => (u1B u op && metB t (u1N u) ds []) && matE t M a xa
    | _ => false
  | .bio b ds a, x => match x with
    | .Call (.Name x _) [xa] [] _ => (if b = .repr then decide (x = "repr") && (glB M.sc "repr" && t.free "repr" && plainArg xa && metB t "__repr__" ds []) else decide (b = .bool) && decide (x = "bool") && (glB M.sc "bool" && t.free "bool" && plainArg xa && metB t "__bool__" ds [])) && matE t M a xa
    | _ => false
  | .isc a cs tys, x => match x with
    | .Call (.Name x _) [xa, .Tuple xs _ _] [] _ => decide (x = "isinstance") && decide (tys = Tn.tys (xs.map (tnOf t))) && decide (xs.length ≤ 1000) && (glB M.sc "isinstance" && t.free "isinstance" && plainArg xa && tnsB t M (xs.map (tnOf t)) xs && iscB t (Tn.names (xs.map (tnOf t))) cs && (Tn.tys (xs.map (tnOf t))).all fun T => decide (T ∈ tyAll)) && matE t M a xa
    | .Call (.Name x _) [xa, xc] [] _ => decide (x = "isinstance") && decide (tys = Tn.tys [tnOf t xc]) && (glB M.sc "isinstance" && t.free "isinstance" && plainArg xa && tnsB t M [tnOf t xc] [xc] && iscB t (Tn.names [tnOf t xc]) cs && (Tn.tys [tnOf t xc]).all fun T => decide (T ∈ tyAll)) && matE t M a xa
    | _ => false
  | .lix o a, x => match x with
    | .Call (.Attribute xo nm apos) [xa] [] pos => (plainBase xo && plainArg xa && (apos.endLine == pos.line)) && decide (nm = "index") && matE t M o xo && matE t M a xa
    | _ => false
  | .dct, x => match x with
    | .Dict [] [] _ => true
    | _ => false
  | .stk, _ => true
  | .bi b es, x => match x with
    | .Call (.Name x _) (e :: xs) [] _ => (decide (x = biName b) && glB M.sc x && plainName x && t.free x && (e :: xs).all plainArg) && matA t M es (e :: xs)
    | _ => false
  | .isi a ty, x => match x with
    | .Call (.Name x _) [xa, .Name y _] [] _ => (decide (x = "isinstance") && glB M.sc x && t.free x && plainArg xa && decide (y = Str.ofString ty) && glB M.sc y && plainName y && t.free y && decide (ty ∈ tyNames)) && matE t M a xa
    | _ => false
  | .sm m o a, x => match x with
    | .Call (.Attribute xo nm apos) [xa] [] pos => (plainBase xo && plainArg xa && (apos.endLine == pos.line)) && (match m with | .join => decide (nm = "join") | .index => decide (nm = "index")) && matE t M o xo && matE t M a xa
    | _ => false
  | .fs ps, x => match x with
    | .JoinedStr xs _ => !xs.isEmpty && matP t M ps xs
    | _ => false
  | .app o a, x => match x with
    | .Call (.Attribute xo nm apos) [xa] [] pos => (plainBase xo && plainArg xa && (apos.endLine == pos.line)) && decide (nm = "append") && matE t M o xo && matE t M a xa
    | _ => false
  | .popl o, x => match x with
    | .Call (.Attribute xo nm apos) [] [] pos => (plainBase xo && (apos.endLine == pos.line)) && decide (nm = "pop") && matE t M o xo
    | _ => false
  | .popa o a, x => match x with
    | .Call (.Attribute xo nm apos) [xa] [] pos => (plainBase xo && plainArg xa && (apos.endLine == pos.line)) && decide (nm = "pop") && matE t M o xo && matE t M a xa
    | _ => false
def matO (t : Tb) (M : Mc) : Exo → Option Expr → Bool
  | .no, x => match x with
    | none => true
    | _ => false
  | .so e, x => match x with
    | some x => matE t M e x
    | _ => false
def matA (t : Tb) (M : Mc) : Exs → List Expr → Bool
  | .nil, xs => match xs with
    | [] => true
    | _ => false
  | .cons e r, xs => match xs with
    | x :: xs => plainArg x && matE t M e x && matA t M r xs
    | _ => false
  | .star e r, xs => match xs with
    | .Starred x _ :: xs => matE t M e x && matA t M r xs
    | _ => false
def matB (t : Tb) (M : Mc) : Exs → List Expr → Bool
  | .cons e r, xs => match xs with
    | x :: xs => matE t M e x && (if r.isNil then xs.isEmpty else matB t M r xs)
    | _ => false
  | _, _ => false
def matK (t : Tb) (M : Mc) : Exs → List Keyword → Bool
  | .nil, xs => match xs with
    | [] => true
    | _ => false
  | .cons e r, xs => match xs with
    | x :: xs => matE t M e x.value && matK t M r xs
    | _ => false
  | _, _ => false
def matP (t : Tb) (M : Mc) : Exs → List Expr → Bool
  | .nil, xs => match xs with
    | [] => true
    | _ => false
  | .cons e r, xs => match xs with
    | .Constant (.str z) _ _ :: xs => (match e with | .k (.str z') => decide (z' = z) | _ => false) && decide (z.length ≤ sizeLine) && matP t M r xs
    | .FormattedValue x c none _ :: xs => decide (c = -1) && matE t M e x && matP t M r xs
    | _ => false
  | _, _ => false
def matT (t : Tb) (M : Mc) : Te → Expr → Bool
  | .cm (.cmo f ds a b), x => match x with
    | .Compare xa [op] [xb] _ => (cmoB f op && metB t "__eq__" ds [] && nfB t ds && c2B f op) && !behindInMarks op xb && matE t M a xa && matE t M b xb
    | _ => false
  | .cm _, _ => false
  | .e a, x => plainTest x && matE t M a x
  | .not a, x => match x with
    | .UnaryOp .Not xa _ => matT t M a xa
    | _ => false
  | .eo ds a, x => (plainTest x && metB t "__bool__" ds []) && matE t M a x
  | .bop an ts, x => match x with
    | .BoolOp op xs _ => bopB an op && matW t M ts xs
    | _ => false
  | .cmp f a b, x => match x with
    | .Compare xa [op] [xb] _ => c2B f op && !behindInMarks op xb && matE t M a xa && matE t M b xb
    | _ => false
  | .cmp2 f g a b c, x => match x with
    | .Compare xa [op, op'] [xb, xc] _ => c2B f op && c2B g op' && !lastMarks [op, op'] [xb, xc] && matE t M a xa && matE t M b xb && matE t M c xc
    | _ => false
def matW (t : Tb) (M : Mc) : Tes → List Expr → Bool
  | .cons e r, xs => match xs with
    | x :: xs => matT t M e x && (match r with | .nil => xs.isEmpty | _ => matW t M r xs)
    | _ => false
  | _, _ => false
def matTs (t : Tb) (M : Mc) : Tes → List Expr → Bool
  | .nil, xs => match xs with
    | [] => true
    | _ => false
  | .cons e r, xs => match xs with
    | [x] => matT t M e x && (match r with | .nil => true | _ => false)
    | _ => false
def matF (t : Tb) (M : Mc) : Fx → Expr → Bool
  | .disp es, x => match x with
    | .List xs _ => matA t M es xs
    | _ => false
  | .cat a b, x => match x with
    | .BinOp xa .Add xb _ => matE t M a xa && matE t M b xb
    | _ => false
  | .rep a b, x => match x with
    | .BinOp xa .Mult xb _ => matE t M a xa && matE t M b xb
    | _ => false
  | .cpy a, x => match x with
    | .Call (.Name x _) [xa] [] _ => (decide (x = "list") && glB M.sc x && t.free x && plainArg xa) && matE t M a xa
    | _ => false
  | .sli a lo hi, x => match x with
    | .Subscript xa (.Slice xl xh none _) _ => matE t M a xa && matO t M lo xl && matO t M hi xh
    | _ => false
  | .rev a, x => match x with
    | .Subscript xa (.Slice none none (some (.UnaryOp .USub (.Constant (.int k) _ _) _)) _) _ => decide (k = 1) && matE t M a xa
    | _ => false
  | .lc tg i ifs e vs, x => match x with
    | .ListComp xe [⟨xt, xi, xifs, k⟩] scope _ => decide (k = 0) && (decide (vs = (ownOf M vs).map (·.2)) && blkC M.N M.sc scope (ownOf M vs) && subB tg.ix vs && foldB xi) && matG (blkM M scope) tg xt && matI t M i xt xi && matTs t (blkM M scope) ifs xifs && matE t (blkM M scope) e xe
    | _ => false
  | .lc2 tg i ifs tg1 i1 ifs1 e vs vs1, x => match x with
    | .ListComp xe [⟨xt, xi, xifs, k⟩, ⟨xt1, xi1, xifs1, k1⟩] scope _ => decide (k = 0) && decide (k1 = 0) && (decide (vs = (ownOf M vs).map (·.2)) && blkC M.N M.sc scope (ownOf M vs) && subB tg.ix vs && foldB xi && subB tg1.ix vs1 && subB vs1 vs && foldB xi1) && matG (blkM M scope) tg xt && matG (blkM M scope) tg1 xt1 && matI t M i xt xi && matTs t (blkM M scope) ifs xifs &&
        matI t (blkM M scope) i1 xt1 xi1 && matTs t (blkM M scope) ifs1 xifs1 && matE t (blkM M scope) e xe
    | _ => false
def matI (t : Tb) (M : Mc) : It → Expr → Expr → Bool
  | .sq e, _, x => matE t M e x
  | .rg1 a, _, x => match x with
    | .Call (.Name x _) [xa] [] _ => decide (x = "range") && (glB M.sc "range" && t.free "range" && plainArg xa) && matE t M a xa
    | _ => false
  | .rg2 a b, _, x => match x with
    | .Call (.Name x _) [xa, xb] [] _ => decide (x = "range") && (glB M.sc "range" && t.free "range" && plainArg xa && plainArg xb) && matE t M a xa && matE t M b xb
    | _ => false
  | .en a, xt, x => match x with
    | .Call (.Name x _) [xa] [] _ => isTup xt && decide (x = "enumerate") && (glB M.sc "enumerate" && t.free "enumerate" && plainArg xa) && matE t M a xa
    | _ => false
  | .zp a b, xt, x => match x with
    | .Call (.Name x _) [xa, xb] [] _ => isTup xt && decide (x = "zip") && (glB M.sc "zip" && t.free "zip" && plainArg xa && plainArg xb) && matE t M a xa && matE t M b xb
    | _ => false
end
theorem argB_ok {t : Tb} {n : Nat} {M : Mc} {es kes : Exs} {xs : List Expr} {kws : List Keyword} (h : argB es kes xs kws = true) (he : SEs t n M es xs) (hk : SKs t n M kes kws) (st : ∀ xe p, xs = [.Starred xe p] → ∃ e, es = .star e .nil ∧ SE t n M e xe) :
    ArgsOk t n M es kes xs kws (ksOf kws) := by
  unfold argB at h
  rw [Bool.and_eq_true, Bool.and_eq_true, Bool.and_eq_true] at h
  obtain ⟨⟨⟨h1, h2⟩, h3⟩, h4⟩ := h
  refine ⟨?_, of_decide_eq_true h2, fun e => ?_, fun e => ?_, he, hk, st⟩
  · rcases Bool.or_eq_true_iff.mp h1 with z | z
    · exact .inl z
    · rw [Bool.and_eq_true] at z
      exact .inr ⟨z.1, by simpa using z.2⟩
  · subst e
    simpa using isNil_ok (by simpa using h3)
  · subst e
    simpa using isNil_ok (by simpa using h4)
theorem dd {a b : Bool} (h : (a && b) = true) : (a && decide (b = true)) = true := by
  cases a <;> cases b <;> first | rfl | cases h
section
variable {t : Tb} {n : Nat}
theorem matG_ok {M : Mc} {g : Tg} {x : Expr} (h : matG M g x = true) : SG t n M g x := by
  unfold matG at h
  split at h
  · split at h
    · exact sg_nm h
    · cases h
  · split at h
    · exact sg_tp h
    · cases h
mutual
theorem matE_ok : ∀ {M : Mc} (e : Ex) {x : Expr}, matE t M e x = true → SE t n M e x
  | M, .v i, x, h => by
    unfold matE at h
    split at h
    · exact s_v h
    · cases h
  | M, .b i, x, h => by
    unfold matE at h
    split at h
    · exact s_b h
    · cases h
  | M, .k d, x, h => by
    unfold matE at h
    split at h
    · exact s_k h
    · cases h
  | M, .gk y d, x, h => by
    unfold matE at h
    split at h
    · exact s_gk h
    · cases h
  | M, .op f a b, x, h => by
    unfold matE at h
    split at h
    · simp only [Bool.and_eq_true] at h
      exact s_op h.1.1 (matE_ok a h.1.2) (matE_ok b h.2)
    · cases h
  | M, .neg a, x, h => by
    unfold matE at h
    split at h
    · exact s_neg (matE_ok a h)
    · cases h
  | M, .cmp f a b, x, h => by
    unfold matE at h
    split at h
    · simp only [Bool.and_eq_true, Bool.not_eq_true'] at h
      exact s_cmp h.1.1.1 h.1.1.2 (matE_ok a h.1.2) (matE_ok b h.2)
    · cases h
  | M, .cmp2 f g a b c, x, h => by
    unfold matE at h
    split at h
    · simp only [Bool.and_eq_true, Bool.not_eq_true'] at h
      obtain ⟨⟨⟨⟨⟨h1, h2⟩, h3⟩, h4⟩, h5⟩, h6⟩ := h
      exact s_cmp2 h1 h2 h3 (matE_ok a h4) (matE_ok b h5) (matE_ok c h6)
    · cases h
  | M, .bop an es, x, h => by
    unfold matE at h
    split at h
    · simp only [Bool.and_eq_true] at h
      exact s_bop (matB_ok es h.1 h.2)
    · cases h
  | M, .not a, x, h => by
    unfold matE at h
    split at h
    · exact s_not (matE_ok a h)
    · cases h
  | M, .ite c a b, x, h => by
    unfold matE at h
    split at h
    · simp only [Bool.and_eq_true] at h
      exact s_ite (matT_ok c h.1.1) (matE_ok a h.1.2) (matE_ok b h.2)
    · cases h
  | M, .tup es, x, h => by
    unfold matE at h
    split at h
    · exact s_tup (matA_ok es h)
    · cases h
  | M, .fz f, x, h => by
    unfold matE at h
    exact s_fz (matF_ok f h)
  | M, .mk f, x, h => by
    unfold matE at h
    exact s_mk (matF_ok f h)
  | M, .sub a i, x, h => by
    unfold matE at h
    split at h
    · simp only [Bool.and_eq_true] at h
      exact s_sub h.1.1 (matE_ok a h.1.2) (matE_ok i h.2)
    · cases h
  | M, .sli a lo hi, x, h => by
    unfold matE at h
    split at h
    · simp only [Bool.and_eq_true] at h
      exact s_sli (matE_ok a h.1.1) (matO_ok lo h.1.2) (matO_ok hi h.2)
    · cases h
  | M, .call f p es kes, x, h => by
    unfold matE at h
    split at h
    · rename_i x _ xs kws _
      rw [Bool.and_eq_true, Bool.and_eq_true, Bool.and_eq_true, Bool.and_eq_true] at h
      obtain ⟨⟨⟨⟨h1, h2⟩, h3⟩, h4⟩, h5⟩ := h
      refine s_call h1 (fun e => ?_) (fun e => ?_) (matA_ok es h4) (matK_ok kes h5)
      · subst e
        simpa using isNil_ok (by simpa using h2)
      · subst e
        simpa using isNil_ok (by simpa using h3)
    · rw [Bool.and_eq_true, Bool.and_eq_true, Bool.and_eq_true] at h
      obtain ⟨⟨⟨h1, h2⟩, h3⟩, h4⟩ := h
      exact s_sta h1 (argB_ok h2 (matA_ok es h3) (matK_ok kes h4) (matSt_ok es h3))
    · cases h
  | M, .fld e f cs, x, h => by
    unfold matE at h
    split at h
    · rw [Bool.and_eq_true, Bool.and_eq_true] at h
      cases of_decide_eq_true h.1.1
      exact s_fld h.1.2 (matE_ok e h.2)
    · cases h
  | M, .met e m ds es kes, x, h => by
    unfold matE at h
    split at h
    · rw [Bool.and_eq_true, Bool.and_eq_true, Bool.and_eq_true, Bool.and_eq_true, Bool.and_eq_true] at h
      obtain ⟨⟨⟨⟨⟨h0, h1⟩, h2⟩, h3⟩, h4⟩, h5⟩ := h
      cases of_decide_eq_true h0
      exact s_met h1 (argB_ok h2 (matA_ok es h4) (matK_ok kes h5) (matSt_ok es h4)) (matE_ok e h3)
    · cases h
  | M, .prp e f ds, x, h => by
    unfold matE at h
    split at h
    · rw [Bool.and_eq_true, Bool.and_eq_true] at h
      cases of_decide_eq_true h.1.1
      exact s_prp h.1.2 (matE_ok e h.2)
    · cases h
  | M, .new c f p fro es kes, x, h => by
    unfold matE at h
    split at h
    · rw [Bool.and_eq_true, Bool.and_eq_true, Bool.and_eq_true] at h
      obtain ⟨⟨⟨h1, h2⟩, h3⟩, h4⟩ := h
      exact s_new h1 (argB_ok h2 (matA_ok es h3) (matK_ok kes h4) (matSt_ok es h3))
    · cases h
  | M, .xmk q kw es kes, x, h => by
    unfold matE at h
    split at h
    · rw [Bool.and_eq_true, Bool.and_eq_true, Bool.and_eq_true] at h
      obtain ⟨⟨⟨h1, h2⟩, h3⟩, h4⟩ := h
      exact s_xmk h1 (argB_ok h2 (matA_ok es h3) (matK_ok kes h4) (matSt_ok es h3))
    · cases h
  | M, .xfld a f all, x, h => by
    unfold matE at h
    split at h
    · rw [Bool.and_eq_true, Bool.and_eq_true] at h
      cases of_decide_eq_true h.1.1
      exact s_xfld h.1.2 (matE_ok a h.2)
    · cases h
  | M, .xis a k, x, h => by
    unfold matE at h
    split at h
    · rw [Bool.and_eq_true, Bool.and_eq_true, Bool.and_eq_true] at h
      cases of_decide_eq_true h.1.1.1
      cases of_decide_eq_true h.1.1.2
      exact s_xis h.1.2 (matE_ok a h.2)
    · cases h
  | M, .opo f ds rs a b, x, h => by
    unfold matE at h
    split at h
    · rw [Bool.and_eq_true, Bool.and_eq_true] at h
      exact s_opo h.1.1 (matE_ok a h.1.2) (matE_ok b h.2)
    · cases h
  | M, .cmo f ds a b, x, h => by
    unfold matE at h
    split at h
    · rw [Bool.and_eq_true, Bool.and_eq_true, Bool.and_eq_true, Bool.not_eq_true'] at h
      exact s_cmo h.1.1.1 h.1.1.2 (matE_ok a h.1.2) (matE_ok b h.2)
    · cases h
  | M, .uno u ds a, x, h => by
    unfold matE at h
    split at h
    · rw [Bool.and_eq_true] at h
      exact s_uno h.1 (matE_ok a h.2)
    · cases h
  | M, .bio b ds a, x, h => by
    unfold matE at h
    split at h
    · rw [Bool.and_eq_true] at h
      obtain ⟨h, h4⟩ := h
      by_cases hb : b = .repr
      · subst hb
        rw [if_pos rfl, Bool.and_eq_true] at h
        cases of_decide_eq_true h.1
        exact s_reprO h.2 (matE_ok a h4)
      · rw [if_neg hb, Bool.and_eq_true, Bool.and_eq_true] at h
        obtain ⟨⟨h1, h2⟩, h3⟩ := h
        cases of_decide_eq_true h1
        cases of_decide_eq_true h2
        exact s_bool h3 (matE_ok a h4)
    · cases h
  | M, .isc a cs tys, x, h => by
    unfold matE at h
    split at h
    · rw [Bool.and_eq_true, Bool.and_eq_true, Bool.and_eq_true, Bool.and_eq_true] at h
      obtain ⟨⟨⟨⟨h1, h2⟩, h3⟩, h4⟩, h5⟩ := h
      cases of_decide_eq_true h1
      cases of_decide_eq_true h2
      exact s_iscT h4 (by rw [List.length_map]; exact of_decide_eq_true h3) (matE_ok a h5)
    · rw [Bool.and_eq_true, Bool.and_eq_true, Bool.and_eq_true] at h
      obtain ⟨⟨⟨h1, h2⟩, h4⟩, h5⟩ := h
      cases of_decide_eq_true h1
      cases of_decide_eq_true h2
      exact s_isc1 h4 (matE_ok a h5)
    · cases h
  | M, .dct, x, h => by
    unfold matE at h
    split at h
    · exact s_dct
    · cases h
  | M, .stk, x, h => s_stk
  | M, .bi b es, x, h => by
    unfold matE at h
    split at h
    · rw [Bool.and_eq_true] at h
      exact s_bi (dd h.1) (matA_ok es h.2)
    · cases h
  | M, .isi a ty, x, h => by
    unfold matE at h
    split at h
    · rw [Bool.and_eq_true] at h
      exact s_isi (dd h.1) (matE_ok a h.2)
    · cases h
  | M, .sm m o a, x, h => by
    unfold matE at h
    split at h
    · rw [Bool.and_eq_true, Bool.and_eq_true, Bool.and_eq_true] at h
      obtain ⟨⟨⟨h1, h2⟩, h3⟩, h4⟩ := h
      cases m with
      | join =>
        have e := of_decide_eq_true h2
        subst e
        exact s_join (dd h1) (matE_ok o h3) (matE_ok a h4)
      | index =>
        have e := of_decide_eq_true h2
        subst e
        exact s_index (dd h1) (matE_ok o h3) (matE_ok a h4)
    · cases h
  | M, .fs ps, x, h => by
    unfold matE at h
    split at h
    · simp only [Bool.and_eq_true, Bool.not_eq_true'] at h
      exact s_fs (by rintro rfl; cases h.1) (matP_ok ps h.2)
    · cases h
  | M, .lix o a, x, h => by
    unfold matE at h
    split at h
    · rw [Bool.and_eq_true, Bool.and_eq_true, Bool.and_eq_true] at h
      obtain ⟨⟨⟨h1, h2⟩, h3⟩, h4⟩ := h
      have e := of_decide_eq_true h2
      subst e
      exact s_lix (dd h1) (matE_ok o h3) (matE_ok a h4)
    · cases h
  | M, .app o a, x, h => by
    unfold matE at h
    split at h
    · rw [Bool.and_eq_true, Bool.and_eq_true, Bool.and_eq_true] at h
      obtain ⟨⟨⟨h1, h2⟩, h3⟩, h4⟩ := h
      have e := of_decide_eq_true h2
      subst e
      exact s_app (dd h1) (matE_ok o h3) (matE_ok a h4)
    · cases h
  | M, .popl o, x, h => by
    unfold matE at h
    split at h
    · rw [Bool.and_eq_true, Bool.and_eq_true] at h
      obtain ⟨⟨h1, h2⟩, h3⟩ := h
      have e := of_decide_eq_true h2
      subst e
      exact s_popl (dd h1) (matE_ok o h3)
    · cases h
  | M, .popa o a, x, h => by
    unfold matE at h
    split at h
    · rw [Bool.and_eq_true, Bool.and_eq_true, Bool.and_eq_true] at h
      obtain ⟨⟨⟨h1, h2⟩, h3⟩, h4⟩ := h
      have e := of_decide_eq_true h2
      subst e
      exact s_popa (dd h1) (matE_ok o h3) (matE_ok a h4)
    · cases h
theorem matO_ok : ∀ {M : Mc} (e : Exo) {x : Option Expr}, matO t M e x = true → SO t n M e x
  | M, .no, x, h => by
    unfold matO at h
    split at h
    · exact so_no
    · cases h
  | M, .so e, x, h => by
    unfold matO at h
    split at h
    · exact so_so (matE_ok e h)
    · cases h
theorem matA_ok : ∀ {M : Mc} (e : Exs) {x : List Expr}, matA t M e x = true → SEs t n M e x
  | M, .nil, x, h => by
    unfold matA at h
    split at h
    · exact ss_nil
    · cases h
  | M, .cons e r, x, h => by
    unfold matA at h
    split at h
    · simp only [Bool.and_eq_true] at h
      exact ss_cons h.1.1 (matE_ok e h.1.2) (matA_ok r h.2)
    · cases h
  | M, .star e r, x, h => by
    unfold matA at h
    split at h
    · simp only [Bool.and_eq_true] at h
      exact ss_star (matE_ok e h.1) (matA_ok r h.2)
    · cases h
theorem matSt_ok : ∀ {M : Mc} (e : Exs) {x : List Expr}, matA t M e x = true → ∀ xe p, x = [.Starred xe p] → ∃ e', e = .star e' .nil ∧ SE t n M e' xe
  | M, .nil, x, h, xe, p, hx => by
    subst hx
    unfold matA at h
    cases h
  | M, .cons e r, x, h, xe, p, hx => by
    subst hx
    unfold matA at h
    simp only [plainArg, Bool.false_and] at h
    cases h
  | M, .star e r, x, h, xe, p, hx => by
    subst hx
    unfold matA at h
    rw [Bool.and_eq_true] at h
    refine ⟨e, ?_, matE_ok e h.1⟩
    have h2 := h.2
    cases r with
    | nil => rfl
    | cons _ _ => unfold matA at h2; cases h2
    | star _ _ => unfold matA at h2; cases h2
theorem matB_ok : ∀ {M : Mc} (e : Exs) {an : Bool} {op : BoolOp} {x : List Expr} {pos : Pos}, bopB an op = true → matB t M e x = true → SB t n M an e (.BoolOp op x pos)
  | M, .nil, an, op, x, pos, ho, h => by unfold matB at h; cases h
  | M, .star _ _, an, op, x, pos, ho, h => by unfold matB at h; cases h
  | M, .cons e r, an, op, x, pos, ho, h => by
    unfold matB at h
    split at h
    · rename_i x xs
      rw [Bool.and_eq_true] at h
      split at h
      · rename_i hr
        have h2 := h.2
        cases xs with
        | nil =>
          rw [isNil_ok hr]
          exact sb_one (matE_ok e h.1)
        | cons _ _ => cases h2
      · have ih := matB_ok r (an := an) (op := op) (pos := pos) ho h.2
        cases r with
        | nil => rename_i hr; exact absurd rfl hr
        | star _ _ => have h2 := h.2; unfold matB at h2; cases h2
        | cons b r =>
          cases xs with
          | nil => have h2 := h.2; unfold matB at h2; cases h2
          | cons xb xs => exact sb_cons ho (matE_ok e h.1) ih
    · cases h
theorem matK_ok : ∀ {M : Mc} (e : Exs) {x : List Keyword}, matK t M e x = true → SKs t n M e x
  | M, .nil, x, h => by
    unfold matK at h
    split at h
    · exact sks_nil
    · cases h
  | M, .star _ _, x, h => by unfold matK at h; cases h
  | M, .cons e r, x, h => by
    unfold matK at h
    split at h
    · rename_i x xs
      obtain ⟨nm, xv, kp⟩ := x
      simp only [Bool.and_eq_true] at h
      exact sks_cons (matE_ok e h.1) (matK_ok r h.2)
    · cases h
theorem matP_ok : ∀ {M : Mc} (e : Exs) {x : List Expr}, matP t M e x = true → SPs t n M e x
  | M, .nil, x, h => by
    unfold matP at h
    split at h
    · exact .nil
    · cases h
  | M, .star _ _, x, h => by unfold matP at h; cases h
  | M, .cons e r, x, h => by
    unfold matP at h
    split at h
    · rw [Bool.and_eq_true, Bool.and_eq_true] at h
      obtain ⟨⟨h1, h2⟩, h3⟩ := h
      split at h1
      · have e := of_decide_eq_true h1
        subst e
        exact .lit (of_decide_eq_true h2) (matP_ok r h3)
      · cases h1
    · rw [Bool.and_eq_true, Bool.and_eq_true] at h
      obtain ⟨⟨h1, h2⟩, h3⟩ := h
      have e := of_decide_eq_true h1
      subst e
      exact .fmt (matE_ok _ h2) (matP_ok r h3)
    · cases h
theorem matT_ok : ∀ {M : Mc} (e : Te) {x : Expr}, matT t M e x = true → ST t n M e x
  | M, .cm (.cmo f ds a b), x, h => by
    unfold matT at h
    split at h
    · rw [Bool.and_eq_true, Bool.and_eq_true, Bool.and_eq_true] at h
      exact st_cmo h.1.1.1 (by simpa using h.1.1.2) (matE_ok a h.1.2) (matE_ok b h.2)
    · cases h
  | M, .e a, x, h => by
    unfold matT at h
    rw [Bool.and_eq_true] at h
    exact st_e h.1 (matE_ok a h.2)
  | M, .eo ds a, x, h => by
    unfold matT at h
    rw [Bool.and_eq_true] at h
    exact st_eo h.1 (matE_ok a h.2)
  | M, .not a, x, h => by
    unfold matT at h
    split at h
    · exact st_not (matT_ok a h)
    · cases h
  | M, .bop an ts, x, h => by
    unfold matT at h
    split at h
    · simp only [Bool.and_eq_true] at h
      exact st_bop (matW_ok ts h.1 h.2)
    · cases h
  | M, .cmp f a b, x, h => by
    unfold matT at h
    split at h
    · simp only [Bool.and_eq_true, Bool.not_eq_true'] at h
      exact st_cmp h.1.1.1 h.1.1.2 (matE_ok a h.1.2) (matE_ok b h.2)
    · cases h
  | M, .cmp2 f g a b c, x, h => by
    unfold matT at h
    split at h
    · simp only [Bool.and_eq_true, Bool.not_eq_true'] at h
      obtain ⟨⟨⟨⟨⟨h1, h2⟩, h3⟩, h4⟩, h5⟩, h6⟩ := h
      exact st_cmp2 h1 h2 h3 (matE_ok a h4) (matE_ok b h5) (matE_ok c h6)
    · cases h
theorem matW_ok : ∀ {M : Mc} (e : Tes) {an : Bool} {op : BoolOp} {x : List Expr} {pos : Pos}, bopB an op = true → matW t M e x = true → SW t n M an e (.BoolOp op x pos)
  | M, .nil, an, op, x, pos, ho, h => by unfold matW at h; cases h
  | M, .cons e .nil, an, op, x, pos, ho, h => by
    unfold matW at h
    split at h
    · rename_i x xs
      rw [Bool.and_eq_true] at h
      have h2 := h.2
      cases xs with
      | nil => exact sw_one ho (matT_ok e h.1)
      | cons _ _ => cases h2
    · cases h
  | M, .cons e (.cons b r), an, op, x, pos, ho, h => by
    unfold matW at h
    split at h
    · rename_i x xs
      rw [Bool.and_eq_true] at h
      have h2 := h.2
      cases xs with
      | nil => unfold matW at h2; cases h2
      | cons xb xs => exact sw_cons ho (matT_ok e h.1) (matW_ok (.cons b r) ho h2)
    · cases h
theorem matTs_ok : ∀ {M : Mc} (e : Tes) {x : List Expr}, matTs t M e x = true → STs t n M e x
  | M, .nil, x, h => by
    unfold matTs at h
    split at h
    · exact sts_nil
    · cases h
  | M, .cons e r, x, h => by
    unfold matTs at h
    split at h
    · rw [Bool.and_eq_true] at h
      have h2 := h.2
      cases r with
      | nil => exact sts_one (matT_ok e h.1)
      | cons _ _ => cases h2
    · cases h
theorem matF_ok : ∀ {M : Mc} (e : Fx) {x : Expr}, matF t M e x = true → SF t n M e x
  | M, .disp es, x, h => by
    unfold matF at h
    split at h
    · exact sf_disp (matA_ok es h)
    · cases h
  | M, .cat a b, x, h => by
    unfold matF at h
    split at h
    · rw [Bool.and_eq_true] at h
      exact sf_cat (matE_ok a h.1) (matE_ok b h.2)
    · cases h
  | M, .rep a b, x, h => by
    unfold matF at h
    split at h
    · rw [Bool.and_eq_true] at h
      exact sf_rep (matE_ok a h.1) (matE_ok b h.2)
    · cases h
  | M, .cpy a, x, h => by
    unfold matF at h
    split at h
    · rw [Bool.and_eq_true] at h
      exact sf_cpy (dd h.1) (matE_ok a h.2)
    · cases h
  | M, .sli a lo hi, x, h => by
    unfold matF at h
    split at h
    · simp only [Bool.and_eq_true] at h
      exact sf_sli (matE_ok a h.1.1) (matO_ok lo h.1.2) (matO_ok hi h.2)
    · cases h
  | M, .rev a, x, h => by
    unfold matF at h
    split at h
    · rw [Bool.and_eq_true] at h
      have e := of_decide_eq_true h.1
      subst e
      exact sf_rev (matE_ok a h.2)
    · cases h
  | M, .lc tg i ifs e vs, x, h => by
    unfold matF at h
    split at h
    · rw [Bool.and_eq_true, Bool.and_eq_true, Bool.and_eq_true, Bool.and_eq_true, Bool.and_eq_true] at h
      obtain ⟨⟨⟨⟨⟨h0, h1⟩, h2⟩, h3⟩, h4⟩, h5⟩ := h
      have e0 := of_decide_eq_true h0
      subst e0
      exact sf_lc (own := ownOf M vs) (dd h1) (matI_ok i h3) (matG_ok h2) (matTs_ok ifs h4) (matE_ok e h5)
    · cases h
  | M, .lc2 tg i ifs tg1 i1 ifs1 e vs vs1, x, h => by
    unfold matF at h
    split at h
    · rw [Bool.and_eq_true, Bool.and_eq_true, Bool.and_eq_true, Bool.and_eq_true, Bool.and_eq_true, Bool.and_eq_true, Bool.and_eq_true, Bool.and_eq_true, Bool.and_eq_true] at h
      obtain ⟨⟨⟨⟨⟨⟨⟨⟨⟨h0, h0'⟩, h1⟩, h2⟩, h3⟩, h4⟩, h5⟩, h6⟩, h7⟩, h8⟩ := h
      have e0 := of_decide_eq_true h0
      have e1 := of_decide_eq_true h0'
      subst e0 e1
      exact sf_lc2 (own := ownOf M vs) (dd h1) (matI_ok i h4) (matG_ok h2) (matTs_ok ifs h5) (matI_ok i1 h6) (matG_ok h3) (matTs_ok ifs1 h7) (matE_ok e h8)
    · cases h
theorem matI_ok : ∀ {M : Mc} (e : It) {xt x : Expr}, matI t M e xt x = true → SI t n M e xt x
  | M, .sq e, xt, x, h => by
    unfold matI at h
    exact si_sq (matE_ok e h)
  | M, .rg1 a, xt, x, h => by
    unfold matI at h
    split at h
    · rw [Bool.and_eq_true, Bool.and_eq_true] at h
      have e := of_decide_eq_true h.1.1
      subst e
      exact si_rg1 (dd h.1.2) (matE_ok a h.2)
    · cases h
  | M, .rg2 a b, xt, x, h => by
    unfold matI at h
    split at h
    · rw [Bool.and_eq_true, Bool.and_eq_true, Bool.and_eq_true] at h
      have e := of_decide_eq_true h.1.1.1
      subst e
      exact si_rg2 (dd h.1.1.2) (matE_ok a h.1.2) (matE_ok b h.2)
    · cases h
  | M, .en a, xt, x, h => by
    unfold matI at h
    split at h
    · rw [Bool.and_eq_true, Bool.and_eq_true, Bool.and_eq_true] at h
      have e := of_decide_eq_true h.1.1.2
      subst e
      cases xt with
      | Tuple => exact si_en (dd h.1.2) (matE_ok a h.2)
      | _ => exact absurd h.1.1.1 (by simp [isTup])
    · cases h
  | M, .zp a b, xt, x, h => by
    unfold matI at h
    split at h
    · rw [Bool.and_eq_true, Bool.and_eq_true, Bool.and_eq_true, Bool.and_eq_true] at h
      have e := of_decide_eq_true h.1.1.1.2
      subst e
      cases xt with
      | Tuple => exact si_zp (dd h.1.1.2) (matE_ok a h.1.2) (matE_ok b h.2)
      | _ => exact absurd h.1.1.1.1 (by simp [isTup])
    · cases h
end
end
end Pc

set_option Elab.async false
set_option linter.all false
set_option maxRecDepth 100000
set_option maxHeartbeats 4000000
namespace Pc
open PySem L2
def matR (t : Tb) (M : Mc) : List (Nat × Rh) → List Expr → Bool
  | [], [] => true
  | (_, .ex e) :: l, x :: xs => plainArg x && matE t M e x && matR t M l xs
  | (_, .ow f) :: l, x :: xs => plainArg x && matF t M f x && matR t M l xs
  | _, _ => false
def matPar (t : Tb) (M : Mc) (l : List (Nat × Rh)) (ts vs : List Expr) : Bool :=
  match l, ts, vs with
  | [(i, _), (j, _)], [.Name x px, .Name y py], [a, b] => (locN M i x && locN M j y && decide (i ≠ j) && decide (parC M.sc [.Name x px, .Name y py] [a, b] = some (some [x, y]))) && matR t M l vs
  | [(i, _), (j, _), (k, _)], [.Name x px, .Name y py, .Name z pz], [a, b, c] => (locN M i x && locN M j y && locN M k z && decide (i ≠ j) && decide (i ≠ k) && decide (j ≠ k) && decide (parC M.sc [.Name x px, .Name y py, .Name z pz] [a, b, c] = some (some [x, y, z]))) && matR t M l vs
  | _, _, _ => false
def matOwn (t : Tb) (M : Mc) (j : Nat) (f : Fx) (x : Str) (p : Pos) (xe : Expr) : Bool :=
  if swD M.sc xe x p then match f with
    | .lc tg i ifs e vs => match xe with
      | .ListComp xe [⟨xt, xi, xifs, k⟩] scope pos => decide (k = 0) && (decide (vs = (ownOf M vs).map (·.2)) && blkC M.N M.sc scope (ownOf M vs) && subB tg.ix vs && foldB xi && decide (M.N[j]? = some x) && decide (M.sc.names.lookup x = some .local) && swD M.sc (.ListComp xe [⟨xt, xi, xifs, 0⟩] scope pos) x p) &&
          matG (blkM M scope) tg xt && matI t M i xt xi && matTs t (blkM M scope) ifs xifs && matE t (blkM M scope) e xe
      | _ => false
    | .lc2 tg i ifs tg1 i1 ifs1 e vs vs1 => match xe with
      | .ListComp xe [⟨xt, xi, xifs, k⟩, ⟨xt1, xi1, xifs1, k1⟩] scope pos => decide (k = 0) && decide (k1 = 0) && (decide (vs = (ownOf M vs).map (·.2)) && blkC M.N M.sc scope (ownOf M vs) && subB tg.ix vs && foldB xi && subB tg1.ix vs1 && subB vs1 vs && foldB xi1 && decide (M.N[j]? = some x) && decide (M.sc.names.lookup x = some .local) &&
          swD M.sc (.ListComp xe [⟨xt, xi, xifs, 0⟩, ⟨xt1, xi1, xifs1, 0⟩] scope pos) x p) && matG (blkM M scope) tg xt && matG (blkM M scope) tg1 xt1 && matI t M i xt xi && matTs t (blkM M scope) ifs xifs && matI t (blkM M scope) i1 xt1 xi1 && matTs t (blkM M scope) ifs1 xifs1 && matE t (blkM M scope) e xe
      | _ => false
    | _ => false
  else tgB M j x && matF t M f xe
mutual
def matS (t : Tb) (M : Mc) : Sx → Stmt → Bool
  | .set i e, x => match x with
    | .Assign [.Name x p] xe _ => (tgB M i x && !(swD M.sc xe x p)) && matE t M e xe
    | _ => false
  | .own i f, x => match x with
    | .Assign [.Name x p] xe _ => matOwn t M i f x p xe
    | _ => false
  | .par l, x => match x with
    | .Assign [.Tuple ts _ _] (.Tuple vs _ _) _ => matPar t M l ts vs
    | _ => false
  | .unp tg e, x => match tg with
    | .tp l => match x with
      | .Assign [.Tuple ts _ _] xe _ => (match xe with
        | .Tuple vs k p => (tpB M l ts && decide (parC M.sc ts vs = some none)) && matE t M e (.Tuple vs k p)
        | xe => (tpB M l ts && noComp xe && noTup xe) && matE t M e xe)
      | _ => false
    | _ => false
  | .sset c i e, x => match x with
    | .Assign [.Subscript xc xi _] xe _ => (plainIxB xi && noComp xe) && matE t M c xc && matE t M i xi && matE t M e xe
    | _ => false
  | .aug i f e, x => match x with
    | .AugAssign (.Name x _) op xe _ => (augB f op && tgB M i x) && matE t M e xe
    | _ => false
  | .ex e, x => match x with
    | .Expr xe _ => noComp xe && matE t M e xe
    | _ => false
  | .ret e, x => match x with
    | .Return (some xe) _ => matE t M e xe
    | _ => false
  | .retn, x => match x with
    | .Return none _ => true
    | _ => false
  | .fset c f e cs, x => match x with
    | .Assign [.Attribute xc g _] xe _ => decide (g = f) && (fldB t f cs && noComp xe) && matE t M c xc && matE t M e xe
    | _ => false
  | .sup _ _, _ => false
  | .stk, _ => true
  | .ife c a b, x => match x with
    | .If xc xa xb _ => matT t M c xc && matSs t M a xa && matSs t M b xb
    | _ => false
  | .for_ tg i b, x => match x with
    | .For xt xi xb [] _ => foldB xi && matG M tg xt && matI t M i xt xi && matSs t M b xb
    | _ => false
  | .whl _ c b, x => match x with
    | .While xc xb [] _ => matT t M c xc && matSs t M b xb
    | _ => false
  | .brk, x => match x with
    | .Break _ => true
    | _ => false
  | .cnt, x => match x with
    | .Continue _ => true
    | _ => false
  | .pas, x => match x with
    | .Pass _ => true
    | _ => false
def matSs (t : Tb) (M : Mc) : Sxs → List Stmt → Bool
  | .nil, xs => match xs with
    | [] => true
    | _ => false
  | .cons a r, xs => match xs with
    | x :: xs => matS t M a x && matSs t M r xs
    | _ => false
end
section
variable {t : Tb} {n : Nat}
theorem matR_ok {M : Mc} : ∀ {l : List (Nat × Rh)} {xs : List Expr}, matR t M l xs = true → SRs t n M l xs
  | [], [], _ => srs_nil
  | (_, .ex e) :: l, x :: xs, h => by
    simp only [matR, Bool.and_eq_true] at h
    exact srs_ex h.1.1 (matE_ok e h.1.2) (matR_ok h.2)
  | (_, .ow f) :: l, x :: xs, h => by
    simp only [matR, Bool.and_eq_true] at h
    exact srs_ow h.1.1 (matF_ok f h.1.2) (matR_ok h.2)
  | [], _ :: _, h => by cases h
  | (_, .ex _) :: _, [], h => by cases h
  | (_, .ow _) :: _, [], h => by cases h
theorem matPar_ok {M : Mc} {l : List (Nat × Rh)} {ts vs : List Expr} {k1 k2 : Nat} {p1 p2 p : Pos} (h : matPar t M l ts vs = true) : SS t n M (.par l) (.Assign [.Tuple ts k1 p1] (.Tuple vs k2 p2) p) := by
  unfold matPar at h
  split at h
  · rw [Bool.and_eq_true] at h
    exact ss_par2 h.1 (matR_ok h.2)
  · rw [Bool.and_eq_true] at h
    exact ss_par3 h.1 (matR_ok h.2)
  · cases h
theorem matOwn_ok {M : Mc} {j : Nat} {f : Fx} {x : Str} {p spos : Pos} {xe : Expr} (h : matOwn t M j f x p xe = true) : SS t n M (.own j f) (.Assign [.Name x p] xe spos) := by
  unfold matOwn at h
  by_cases hs : swD M.sc xe x p = true
  · rw [if_pos hs] at h
    split at h
    · split at h
      · rw [Bool.and_eq_true, Bool.and_eq_true, Bool.and_eq_true, Bool.and_eq_true, Bool.and_eq_true] at h
        obtain ⟨⟨⟨⟨⟨h0, h1⟩, h2⟩, h3⟩, h4⟩, h5⟩ := h
        have e0 := of_decide_eq_true h0
        subst e0
        exact ss_ownLc (own := ownOf M _) (dd h1) (matI_ok _ h3) (matG_ok h2) (matTs_ok _ h4) (matE_ok _ h5)
      · cases h
    · split at h
      · rw [Bool.and_eq_true, Bool.and_eq_true, Bool.and_eq_true, Bool.and_eq_true, Bool.and_eq_true, Bool.and_eq_true, Bool.and_eq_true, Bool.and_eq_true, Bool.and_eq_true] at h
        obtain ⟨⟨⟨⟨⟨⟨⟨⟨⟨h0, h0'⟩, h1⟩, h2⟩, h3⟩, h4⟩, h5⟩, h6⟩, h7⟩, h8⟩ := h
        have e0 := of_decide_eq_true h0
        have e1 := of_decide_eq_true h0'
        subst e0 e1
        exact ss_ownLc2 (own := ownOf M _) (dd h1) (matI_ok _ h4) (matG_ok h2) (matTs_ok _ h5) (matI_ok _ h6) (matG_ok h3) (matTs_ok _ h7) (matE_ok _ h8)
      · cases h
    · cases h
  · rw [if_neg hs, Bool.and_eq_true] at h
    refine ss_own ?_ (matF_ok f h.2)
    rw [h.1]
    cases e : swD M.sc xe x p with
    | true => exact absurd e hs
    | false => rfl
mutual
theorem matS_ok : ∀ {M : Mc} (a : Sx) {x : Stmt}, matS t M a x = true → SS t n M a x
  | M, .set i e, x, h => by
    unfold matS at h
    split at h
    · rw [Bool.and_eq_true] at h
      exact ss_set h.1 (matE_ok e h.2)
    · cases h
  | M, .own i f, x, h => by
    unfold matS at h
    split at h
    · exact matOwn_ok h
    · cases h
  | M, .par l, x, h => by
    unfold matS at h
    split at h
    · exact matPar_ok h
    · cases h
  | M, .unp tg e, x, h => by
    unfold matS at h
    split at h
    · split at h
      · split at h
        · rw [Bool.and_eq_true] at h
          exact ss_unpT h.1 (matE_ok e h.2)
        · rw [Bool.and_eq_true] at h
          exact ss_unpE h.1 (matE_ok e h.2)
      · cases h
    · cases h
  | M, .sset c i e, x, h => by
    unfold matS at h
    split at h
    · rw [Bool.and_eq_true, Bool.and_eq_true, Bool.and_eq_true] at h
      exact ss_sset h.1.1.1 (matE_ok c h.1.1.2) (matE_ok i h.1.2) (matE_ok e h.2)
    · cases h
  | M, .aug i f e, x, h => by
    unfold matS at h
    split at h
    · rw [Bool.and_eq_true] at h
      exact ss_aug (dd h.1) (matE_ok e h.2)
    · cases h
  | M, .ex e, x, h => by
    unfold matS at h
    split at h
    · rw [Bool.and_eq_true] at h
      exact ss_ex h.1 (matE_ok e h.2)
    · cases h
  | M, .ret e, x, h => by
    unfold matS at h
    split at h
    · exact ss_ret (matE_ok e h)
    · cases h
  | M, .retn, x, h => by
    unfold matS at h
    split at h
    · exact ss_retn
    · cases h
  | M, .fset c f e cs, x, h => by
    unfold matS at h
    split at h
    · rw [Bool.and_eq_true, Bool.and_eq_true, Bool.and_eq_true] at h
      cases of_decide_eq_true h.1.1.1
      exact ss_fset h.1.1.2 (matE_ok c h.1.2) (matE_ok e h.2)
    · cases h
  | M, .sup f cs, x, h => by unfold matS at h; cases h
  | M, .stk, x, h => ss_stk
  | M, .ife c a b, x, h => by
    unfold matS at h
    split at h
    · rw [Bool.and_eq_true, Bool.and_eq_true] at h
      exact ss_if (matT_ok c h.1.1) (matSs_ok a h.1.2) (matSs_ok b h.2)
    · cases h
  | M, .for_ tg i b, x, h => by
    unfold matS at h
    split at h
    · rw [Bool.and_eq_true, Bool.and_eq_true, Bool.and_eq_true] at h
      exact ss_for h.1.1.1 (matI_ok i h.1.2) (matG_ok h.1.1.2) (matSs_ok b h.2)
    · cases h
  | M, .whl m c b, x, h => by
    unfold matS at h
    split at h
    · rw [Bool.and_eq_true] at h
      exact ss_whl (matT_ok c h.1) (matSs_ok b h.2)
    · cases h
  | M, .brk, x, h => by
    unfold matS at h
    split at h
    · exact ss_brk
    · cases h
  | M, .cnt, x, h => by
    unfold matS at h
    split at h
    · exact ss_cnt
    · cases h
  | M, .pas, x, h => by
    unfold matS at h
    split at h
    · exact ss_pas
    · cases h
theorem matSs_ok : ∀ {M : Mc} (a : Sxs) {x : List Stmt}, matSs t M a x = true → SSs t n M a x
  | M, .nil, x, h => by
    unfold matSs at h
    split at h
    · exact sss_nil
    · cases h
  | M, .cons a r, x, h => by
    unfold matSs at h
    split at h
    · rw [Bool.and_eq_true] at h
      exact sss_cons (matS_ok a h.1) (matSs_ok r h.2)
    · cases h
end
end
end Pc

set_option Elab.async false
set_option linter.all false
set_option maxRecDepth 100000
set_option maxHeartbeats 4000000
namespace Pc
open PySem L2
def noLst (K : PySem.W.Frag) : Bool := K.all fun p => match p.2.cls with
  | .type n => n != "list"
  | _ => true
theorem noLst_ok : ∀ {K : PySem.W.Frag}, noLst K = true → ∀ {a : Addr} {o : Obj}, K.lookup a = some o → o.cls ≠ .type "list"
  | [], _, a, o, e => by cases e
  | (b, u) :: r, h, a, o, e => by
    have h' : (match u.cls with | .type n => n != "list" | _ => true) = true ∧ noLst r = true := by
      have : ((match u.cls with | .type n => n != "list" | _ => true) && noLst r) = true := h
      simpa using this
    cases q : (a == b) with
    | true =>
      have e' : some u = some o := by
        have : (match (a == b) with | true => some u | false => List.lookup a r) = some o := e
        rw [q] at this
        exact this
      cases e'
      intro z
      rw [z] at h'
      exact absurd h'.1 (by decide)
    | false =>
      have e' : List.lookup a r = some o := by
        have : (match (a == b) with | true => some u | false => List.lookup a r) = some o := e
        rw [q] at this
        exact this
      exact noLst_ok h'.2 e'
mutual
/-- a constant's data -/
def dV (K : PySem.W.Frag) : D → Value → Bool
  | .non, u => match u with
    | .none => true
    | _ => false
  | .bl b, u => match u with
    | .bool c => b == c
    | _ => false
  | .int i, u => match u with
    | .int j _ => decide (i = j)
    | _ => false
  | .str x, u => match u with
    | .str y _ => decide (x = y)
    | _ => false
  | .tup l, u => match u with
    | .ref a => match K.lookup a with
      | some ⟨.type c, _, .seq its _, _⟩ => decide (c = "tuple") && decide (its.size ≤ sizeLine) && dVs K l its.toList
      | _ => false
    | _ => false
  | .lst _, _ => false
  | .obj _ _ _, _ => false
  | .exn _ _ _, _ => false
def dVs (K : PySem.W.Frag) : List D → List Value → Bool
  | [], us => us.isEmpty
  | d :: l, us => match us with
    | u :: us => dV K d u && dVs K l us
    | [] => false
end
mutual
theorem dV_ok {K : PySem.W.Frag} {cl : Nat → Option Addr} {T : Hp} : ∀ {d : D} {u : Value}, dV K d u = true → ∃ v, RelV v u ∧ Rep ⟨K, cl⟩ T d v
  | .non, u, h => by
    unfold dV at h
    split at h
    · exact ⟨.non, rfl, rfl⟩
    · cases h
  | .bl b, u, h => by
    unfold dV at h
    split at h
    · rw [beq_iff_eq.mp h]
      exact ⟨.bl _, rfl, rfl⟩
    · cases h
  | .int i, u, h => by
    unfold dV at h
    split at h
    · rw [of_decide_eq_true h]
      exact ⟨.int _, ⟨_, rfl⟩, rfl⟩
    · cases h
  | .str i, u, h => by
    unfold dV at h
    split at h
    · rw [of_decide_eq_true h]
      exact ⟨.str _, ⟨_, rfl⟩, rfl⟩
    · cases h
  | .tup l, u, h => by
    unfold dV at h
    split at h
    · rename_i a
      split at h
      · rename_i c dd its nn sl hk
        rw [Bool.and_eq_true, Bool.and_eq_true] at h
        obtain ⟨⟨h1, h2⟩, h3⟩ := h
        obtain ⟨vs, q1, q2⟩ := dVs_ok h3
        exact ⟨.ref a, rfl, a, vs, rfl, .inr ⟨_, its, nn, hk, congrArg Value.type (of_decide_eq_true h1), rfl, of_decide_eq_true h2, q1⟩, q2⟩
      · cases h
    · cases h
  | .lst _, u, h => by unfold dV at h; cases h
  | .obj _ _ _, u, h => by unfold dV at h; cases h
  | .exn _ _ _, u, h => by unfold dV at h; cases h
theorem dVs_ok {K : PySem.W.Frag} {cl : Nat → Option Addr} {T : Hp} : ∀ {l : List D} {us : List Value}, dVs K l us = true → ∃ vs, Vals vs us ∧ Reps ⟨K, cl⟩ T l vs
  | [], us, h => by
    unfold dVs at h
    cases us with
    | nil => exact ⟨[], .nil, rfl⟩
    | cons _ _ => cases h
  | d :: l, us, h => by
    unfold dVs at h
    split at h
    · rw [Bool.and_eq_true] at h
      obtain ⟨v, q1, q2⟩ := dV_ok h.1
      obtain ⟨vs, q3, q4⟩ := dVs_ok h.2
      exact ⟨v :: vs, .cons q1 q3, v, vs, rfl, q2, q4⟩
    · cases h
end
def conB (K : PySem.W.Frag) (q : Str × D) : Bool := match PySem.W.nsIn K mainGlobals q.1 with
  | some (some u) => dV K q.2 u
  | _ => false
/-- a function: where it stands, what it is -/
structure FnF where
  loc : Loc
  d : He.DefD
def fnV (K : PySem.W.Frag) (a : Addr) : He.FnW := match K.lookup a with
  | some ⟨_, _, .func z, _⟩ => some (z.name, z.qualname, z.params, z.body, z.scope, z.globals, z.closure, z.builtins)
  | _ => none
def okV (K : PySem.W.Frag) (d : He.DefD) (a : Addr) : Bool := PySem.W.keepIn K (.ref a) && (match K.lookup a with
  | some ⟨_, _, .func z, _⟩ => PySem.W.codeIn K z.code d.qual && (He.dflB K z.defaults (d.dvs K) && He.kwdB K z.kwdefaults (d.kws K))
  | _ => false)
theorem funV {K : PySem.W.Frag} {d : He.DefD} {a : Addr} (e : fnV K a = d.val) (c : okV K d a = true) : ∃ fo, FunD K d.name d.qual d.params d.body d.scope (d.dvs K) (d.kws K) a fo := by
  unfold okV at c
  rw [Bool.and_eq_true] at c
  obtain ⟨kp, c2⟩ := c
  unfold fnV at e
  cases q : K.lookup a with
  | none =>
    rw [q] at c2
    cases c2
  | some o =>
    obtain ⟨oc, od, dt, osl⟩ := o
    rw [q] at c2 e
    cases dt with
    | func z =>
      obtain ⟨n1, n2, n3, n4, n5, n6, n7, n8, n9, n10, n11, n12, n13, n14, n15⟩ := z
      have e2 : (some (n1, n2, n3, n4, n5, n6, n7, n15) : He.FnW) = some (d.name, d.qual, d.params, .stmts d.body, d.scope, mainGlobals, [], builtinsNs) := e
      simp only [Option.some.injEq, Prod.mk.injEq] at e2
      obtain ⟨h1, h2, h3, h4, h5, h6, h7, h8⟩ := e2
      subst h1 h2 h3 h4 h5 h6 h7 h8
      have c3 : (PySem.W.codeIn K n13 d.qual && (He.dflB K n8 (d.dvs K) && He.kwdB K n9 (d.kws K))) = true := c2
      rw [Bool.and_eq_true, Bool.and_eq_true] at c3
      obtain ⟨k1, k2, k3⟩ := c3
      exact ⟨_, ⟨oc, od, n8, n9, n10, n11, n12, n13, n14, osl, rfl, q, k1, He.dflB_ok k2, He.kwdB_ok k3⟩, kp⟩
    | _ => cases c2
def metF (K : PySem.W.Frag) (C : Addr) (m : Str) (f : Addr) : Bool := He.eqO (PySem.W.findIn K (.ref C) m) (some (some (.ref f))) && PySem.W.isFn K (.ref f) && PySem.W.keepIn K (.ref f)
def mkF (K : PySem.W.Frag) (C : Addr) (f : Addr) : Bool := PySem.W.makesIn K C && He.eqO (PySem.W.findIn K (.ref C) "__init__") (some (some (.ref f))) && PySem.W.isFn K (.ref f) && PySem.W.keepIn K (.ref C)
def proF (K : PySem.W.Frag) (C : Addr) (f : Str) (g : Addr) : Bool := match PySem.W.findIn K (.ref C) f with
  | some (some (.ref p)) => He.eqO (PySem.W.specialIn K (.ref p) "__get__") (some (some (.builtin "property.__get__"))) && decide (PySem.W.takesIn K (.ref p) = some true) && (match PySem.W.recIn K p "property" with
    | some (.ref g' :: _) => decide (g' = g)
    | _ => false)
  | _ => false
def anyRef (x : Option (Option Value)) : Bool := match x with
  | some none => true
  | some (some (.ref _)) => true
  | _ => false
def fnAtB (tab : List Fn) (i : Nat) (p : Fn → Bool) : Bool := match tab[i]? with
  | some fd => p fd
  | none => false
def tyB (K : PySem.W.Frag) (C : Addr) : Bool := He.eqO (PySem.W.findIn K (.ref C) "__class__") (some (some (.builtin "object.__class__"))) && He.eqO (PySem.W.specialIn K (.builtin "object.__class__") "__get__") (some (some (.builtin "getset_descriptor.__get__"))) &&
  decide (PySem.W.takesIn K (.builtin "object.__class__") = some true) && decide (PySem.W.mroIn K C (.type "object") = some true)
def cdB1 (K : PySem.W.Frag) (tab : List Fn) (d : Cd) : Bool := (He.Fa.glo d.name).ok K && ((He.Fa.cls d.name).ok K && (PySem.W.selfFirst K (He.ga K d.name) && (d.flds.all (fun f => (He.Fa.noat d.name f).ok K) &&
  (d.mets.all (fun q => fnAtB tab q.2 fun fd => metF K (He.ga K d.name) q.1 (adr K fd.at_)) && (d.pros.all (fun q => fnAtB tab q.2 fun fd => proF K (He.ga K d.name) q.1 (adr K fd.at_)) &&
  (match d.init with | none => true | some i => fnAtB tab i fun fd => mkF K (He.ga K d.name) (adr K fd.at_)))))))
def cdB2 (K : PySem.W.Frag) (cls : List Cd) (d : Cd) : Bool := tyAll.all (fun T => decide (PySem.W.subIn K (.type T) (.ref (He.ga K d.name)) = some false)) && (d.nf.all (fun c => match (cls[c]? : Option Cd) with
    | some d' => PySem.W.notFirst K (He.ga K d.name) (.ref (He.ga K d'.name))
    | none => false) && (d.kits.all (fun q => decide (PySem.W.kitOne K (.ref (He.ga K d.name)) (.ref (He.ga K q.1)) = some q.2)) && (tyAll.all (fun T => decide (PySem.W.kitOne K (.ref (He.ga K d.name)) (.type T) = some false)) &&
  (tyAll.all (fun T => decide (PySem.W.kitOne K (.type T) (.ref (He.ga K d.name)) = some false)) && tyB K (He.ga K d.name)))))
def cdB3 (K : PySem.W.Frag) (d : Cd) : Bool := He.eqO (PySem.W.findIn K (.ref (He.ga K d.name)) "__ne__") (some (some (.builtin "object.__ne__"))) && (opsAll.all (fun m => anyRef (PySem.W.findIn K (.ref (He.ga K d.name)) (PySem.dunderR m))) &&
  (opsAll.all (fun m => (PySem.W.findIn K (.type "int") (PySem.dunder m)).isSome && (PySem.W.findIn K (.type "int") (PySem.dunderR m)).isSome) && decide (PySem.W.subIn K (.ref (He.ga K d.name)) (.type "int") = some false)))
def staB (K : PySem.W.Frag) (q : Str × Str) : Bool := (He.Fa.glo q.1).ok K && (match PySem.W.typeIn K (.ref (He.ga K q.1)) with
  | some mc => PySem.W.readsIn K (He.ga K q.1) mc && He.eqO (PySem.W.specialIn K (.ref (He.ga K q.1)) "__getattribute__") (some (some (.builtin "type.__getattribute__"))) && (match PySem.W.findCls K (.ref (He.ga K q.1)) mc q.2 with
    | some (.get (.builtin b) (.ref p) .none (.ref C)) => decide (b = "staticmethod.__get__") && decide (C = He.ga K q.1) && decide (p = He.ma K (He.ga K q.1) q.2) && (match PySem.W.recIn K p "staticmethod" with
      | some (.ref _ :: _) => true
      | _ => false)
    | _ => false)
  | _ => false)
theorem staB_ok {K : PySem.W.Frag} {h : Heap} {mg : Str → Option Value} (X : K.In h) (G : h.Ns mainGlobals mg) {q : Str × Str} (c : staB K q = true) : StaOk K mg q.1 q.2 := by
  unfold staB at c
  rw [Bool.and_eq_true] at c
  obtain ⟨c1, c2⟩ := c
  refine ⟨He.glo_ok X G c1, ?_⟩
  split at c2
  · rename_i mc hmc
    rw [Bool.and_eq_true, Bool.and_eq_true] at c2
    obtain ⟨⟨c2, c3⟩, c4⟩ := c2
    split at c4
    · rename_i b p C hf
      rw [Bool.and_eq_true, Bool.and_eq_true, Bool.and_eq_true] at c4
      obtain ⟨⟨⟨c4, c5⟩, c6⟩, c7⟩ := c4
      have c4 := of_decide_eq_true c4
      have c5 := of_decide_eq_true c5
      have c6 := of_decide_eq_true c6
      subst c4 c5
      split at c7
      · rename_i g rest hr
        refine ⟨mc, p, rest, ⟨c2, He.eqO_ok c3⟩, hf, ?_⟩
        rw [hr]
        have : adr K (.sta q.1 q.2) = g := by
          show recA K (He.ma K (He.ga K q.1) q.2) "staticmethod" = g
          unfold recA
          rw [← c6, hr]
        rw [this]
      · cases c7
    · cases c4
  · cases c2
theorem fnAtB_ok {tab : List Fn} {i : Nat} {p : Fn → Bool} (h : fnAtB tab i p = true) : ∃ fd, tab[i]? = some fd ∧ p fd = true := by
  unfold fnAtB at h
  split at h
  · rename_i fd e; exact ⟨fd, e, h⟩
  · cases h
theorem cdB_ok {K : PySem.W.Frag} {h : Heap} {mg : Str → Option Value} (X : K.In h) (G : h.Ns mainGlobals mg) {t : Tb} (ht : ∀ c, t.cl c = (t.cls[c]?).map fun d => He.ga K d.name) {d : Cd} (c1 : cdB1 K t.tab d = true) (c2 : cdB2 K t.cls d = true) (c3 : cdB3 K d = true) :
    CdOk t K mg (He.ga K d.name) d := by
  unfold cdB1 at c1
  unfold cdB2 at c2
  unfold cdB3 at c3
  simp only [Bool.and_eq_true, List.all_eq_true] at c1 c2 c3
  obtain ⟨a1, a2, a3, a4, a5, a6, a7⟩ := c1
  obtain ⟨b1, b2, b3, b4, b5, b6⟩ := c2
  obtain ⟨d1, d2, d3, d4⟩ := c3
  have hcls := He.cls_ok a2
  unfold tyB at b6
  simp only [Bool.and_eq_true, decide_eq_true_eq] at b6
  refine ⟨He.glo_ok X G a1, rfl, hcls, a3, fun f hf => He.noat_ok (a4 f hf), fun q hq => ?_, fun q hq => ?_, fun i hi => ?_, fun T hT => by simpa using b1 T hT, fun c hc C' hC' => ?_, fun q hq => by simpa using b3 q hq, fun T hT => by simpa using b4 T hT, fun T hT => by simpa using b5 T hT,
    fun {H a dx fs} e => .ins e hcls (He.eqO_ok b6.1.1.1) (He.eqO_ok b6.1.1.2) b6.1.2 b6.2, b6.2, He.eqO_ok d1, fun m hm => ?_, fun m hm => ?_, by simpa using d4⟩
  · obtain ⟨fd, e, p⟩ := fnAtB_ok (a5 q hq)
    unfold metF at p
    simp only [Bool.and_eq_true] at p
    exact ⟨fd, e, He.eqO_ok p.1.1, p.1.2, p.2⟩
  · obtain ⟨fd, e, p⟩ := fnAtB_ok (a6 q hq)
    unfold proF at p
    split at p
    · rename_i pa hpa
      simp only [Bool.and_eq_true, decide_eq_true_eq] at p
      obtain ⟨⟨p1, p2⟩, p3⟩ := p
      split at p3
      · rename_i g rest hr
        have p3 := of_decide_eq_true p3
        subst p3
        exact ⟨fd, pa, e, hpa, He.eqO_ok p1, p2, rest, hr⟩
      · cases p3
    · cases p
  · rw [hi] at a7
    obtain ⟨fd, e, p⟩ := fnAtB_ok a7
    unfold mkF at p
    simp only [Bool.and_eq_true] at p
    exact ⟨fd, e, p.1.1.1, He.eqO_ok p.1.1.2, p.1.2, p.2⟩
  · have b := b2 c hc
    rw [ht] at hC'
    cases e : t.cls[c]? with
    | none => rw [e] at hC'; cases hC'
    | some d' => rw [e] at hC' b; cases hC'; exact b
  · have z := d2 m hm
    unfold anyRef at z
    split at z
    · rename_i e; exact ⟨none, e, .inl rfl⟩
    · rename_i g e; exact ⟨some (.ref g), e, .inr ⟨g, rfl⟩⟩
    · cases z
  · obtain ⟨z1, z2⟩ := d3 m hm
    exact ⟨Option.isSome_iff_exists.mp z1, Option.isSome_iff_exists.mp z2⟩
structure FnS where
  loc : Loc
  d : He.DefD
  /-- the class of the def, the next __init__, the classes that self may have -/
  cls : Str
  f : Nat
  cs : List Nat
def closS (c : List (Str × Addr)) : List (Str × Addr) := match c with
  | [(n, _)] => if n = "__class__" then [] else c
  | _ => [("", 0)]
def fnVS (K : PySem.W.Frag) (a : Addr) : He.FnW := match K.lookup a with
  | some ⟨_, _, .func z, _⟩ => some (z.name, z.qualname, z.params, z.body, z.scope, z.globals, closS z.closure, z.builtins)
  | _ => none
def supB (K : PySem.W.Frag) (tab : List Fn) (cls : List Cd) (file : Str) (q : FnS) : Bool := PySem.W.keepIn K (.ref (adr K q.loc)) && ((match K.lookup (adr K q.loc) with
  | some ⟨_, _, .func z, _⟩ => (match z.closure, z.code with
    | [(_, cc)], .ref cda => PySem.W.codeIn K (.ref cda) q.d.qual && (He.dflB K z.defaults (q.d.dvs K) && (He.kwdB K z.kwdefaults (q.d.kws K) && ((match K.lookup cda with
      | some ⟨_, _, .fields vs, _⟩ => (match (vs[2]? : Option Value) with
        | some (.str fl _) => decide (fl = file)
        | _ => false)
      | _ => false) && (match K.lookup cc with
      | some ⟨_, _, .cell (some (.ref D)), _⟩ => (PySem.W.clsIn K D).isSome && fnAtB tab q.f fun fd => (match (fd.pats[0]? : Option Pat) with
          | some p => decide (p.ks = [])
          | none => false) && (PySem.W.fnIn K (adr K fd.at_) && (decide (PySem.W.typeIn K (.ref (adr K fd.at_)) = some (.type "function")) && q.cs.all fun c => match (cls[c]? : Option Cd) with
            | some d => decide (PySem.W.mroIn K (He.ga K d.name) (.ref D) = some true) && He.eqO (PySem.W.ks_superIn K (He.ga K d.name) D "__init__") (some (some (.ref (adr K fd.at_))))
            | none => false))
      | _ => false))))
    | _, _ => false)
  | _ => false) && He.eqO (PySem.W.nsIn K cStatics "thirdparty.any") (some none))
/-- an own exception class: its record, its __init__, the name of that def's first parameter -/
structure FnX where
  q : Xd
  d : He.DefD
  slf : Str
def FnX.loc (z : FnX) : Loc := .met z.q.name "__init__"
def xcI (K : PySem.W.Frag) (file : Str) (z : FnX) : Bool := match K.lookup (adr K z.loc) with
  | some ⟨_, _, .func y, _⟩ => (match y.closure, y.code with
    | [(_, cc)], .ref cda => PySem.W.codeIn K (.ref cda) z.d.qual && (He.dflB K y.defaults [] && (He.kwdB K y.kwdefaults [] && ((match K.lookup cda with
      | some ⟨_, _, .fields vs, _⟩ => (match (vs[2]? : Option Value) with
        | some (.str fl _) => decide (fl = file)
        | _ => false)
      | _ => false) && (match K.lookup cc with
      | some ⟨_, _, .cell (some (.ref D)), _⟩ => decide (D = He.ga K z.q.name)
      | _ => false))))
    | _, _ => false)
  | _ => false
def xcB (K : PySem.W.Frag) (file : Str) (z : FnX) : Bool :=
  ((He.Fa.glo z.q.name).ok K && (PySem.W.keepIn K (.ref (He.ga K z.q.name)) && (PySem.W.excInitIn K (He.ga K z.q.name) z.q.base.mro z.q.base.mk && (PySem.W.excOver K (He.ga K z.q.name) z.q.base.mro && (He.eqO (PySem.W.findIn K (.ref (He.ga K z.q.name)) "__setattr__") (some (some (.builtin "object.__setattr__"))) &&
  (PySem.W.hasDictIn K (He.ga K z.q.name) && (He.eqO (PySem.W.ks_superIn K (He.ga K z.q.name) (He.ga K z.q.name) "__init__") (some (some (.builtin z.q.base.ini))) && (decide (PySem.W.subIn K (.ref (He.ga K z.q.name)) (.type z.q.base.nm) = some true)))))))))
  && ((He.eqO (PySem.W.findIn K (.ref (He.ga K z.q.name)) "__getattribute__") (some (some (.builtin "BaseException.__getattribute__"))) && (He.eqO (PySem.W.findIn K (.ref (He.ga K z.q.name)) "__getattr__") (some none) && (decide (PySem.W.subIn K (.ref (He.ga K z.q.name)) (.type "BaseException") = some true) &&
  (He.eqO (PySem.W.findIn K (.ref (He.ga K z.q.name)) "__class__") (some (some (.builtin "object.__class__"))) && (He.eqO (PySem.W.specialIn K (.builtin "object.__class__") "__get__") (some (some (.builtin "getset_descriptor.__get__"))) && (decide (PySem.W.takesIn K (.builtin "object.__class__") = some true) && decide (PySem.W.mroIn K (He.ga K z.q.name) (.type "object") = some true)))))))
  && ((He.eqO (PySem.W.findIn K (.ref (He.ga K z.q.name)) "code") (some none) && ((match z.q.fld with
    | some f => He.eqO (PySem.W.findIn K (.ref (He.ga K z.q.name)) f) (some none) && He.eqO (PySem.W.takerIn K (He.ga K z.q.name) f) (some none)
    | none => true) && (He.eqO (PySem.W.takerIn K (He.ga K z.q.name) "code") (some none) && (He.eqO (PySem.W.findIn K (.ref (He.ga K z.q.name)) "__init__") (some (some (.ref (adr K z.loc)))) && (decide (PySem.W.typeIn K (.ref (adr K z.loc)) = some (.type "function")) && He.eqO (PySem.W.nsIn K cStatics "thirdparty.any") (some none)))))) && xcI K file z))
def xkB (K : PySem.W.Frag) (k : Xk) : Bool := (if k.own then (He.Fa.glo k.y).ok K else (He.Fa.free k.y).ok K) && k.all.all fun n => decide (PySem.W.kitOne K (.ref (He.ga K n)) (k.val K) = some (k.yes.contains n))
/-- what a law leans on: facts, functions, constants, classes, static methods -/
structure Ly where
  fa : List He.Fa
  fn : List FnF
  con : List (Str × D)
  tab : List Fn
  cls : List Cd
  stas : List (Str × Str)
  sups : List FnS
  xcs : List FnX
  xks : List Xk
  file : Str
abbrev AlP : Type := Bool × List He.FnW
def allB (L : Ly) (K : PySem.W.Frag) : Bool := L.fa.all (fun f => f.ok K) && (L.fn.all (fun q => okV K q.d (adr K q.loc)) && (noLst K && (L.con.all (conB K) && (L.cls.all (fun d => cdB1 K L.tab d && (cdB2 K L.cls d && cdB3 K d)) && (L.stas.all (staB K) && (L.sups.all (supB K L.tab L.cls L.file) && (L.xcs.all (xcB K L.file) && L.xks.all (xkB K))))))))
def obsK (L : Ly) (K : PySem.W.Frag) : AlP := (allB L K, (L.fn.map fun q => fnV K (adr K q.loc)) ++ ((L.sups.map fun q => fnVS K (adr K q.loc)) ++ L.xcs.map fun q => fnVS K (adr K q.loc)))
/-- the objects that a value, a row of values names -/
def refsV (l : List Value) : List Addr := l.flatMap He.refV
/-- a tuple's items, to some depth -/
def tupA (g : Addr → Option Obj) : Nat → Addr → List Addr
  | 0, _ => []
  | n + 1, a => match g a with
    | some ⟨_, _, .seq its _, _⟩ => (refsV its.toList).flatMap fun b => b :: tupA g n b
    | _ => []
/-- what a def leans on: code, defaults, cells -/
def funA (g : Addr → Option Obj) (a : Addr) : List Addr := match g a with
  | some ⟨_, _, .func z, _⟩ => He.refV z.code ++ ((He.refV z.defaults).flatMap (fun b => b :: tupA g 1 b) ++ (He.refV z.kwdefaults ++ z.closure.map (·.2)))
  | _ => []
/-- what a module's name, a class's name leans on -/
def objA (g : Addr → Option Obj) (a : Addr) : List Addr := match g a with
  | some ⟨_, _, .func _, _⟩ => funA g a
  | some ⟨_, _, .fields vs, _⟩ => (refsV vs.toList).flatMap fun b => b :: funA g b
  | some ⟨_, _, .seq _ _, _⟩ => tupA g 3 a
  | _ => []
def valsA (g : Addr → Option Obj) (a : Addr) : List Addr := match g a with
  | some ⟨_, _, .dict es _, _⟩ => es.toList.flatMap fun e => He.refV e.val
  | _ => []
def asP (g : Addr → Option Obj) (_n : Nat) : List Addr := mainGlobals :: cStatics :: (valsA g mainGlobals).flatMap fun a => a :: match g a with
  | some ⟨_, _, .cls cd, _⟩ => cd.ns :: (valsA g cd.ns).flatMap fun b => b :: objA g b
  | _ => objA g a
def obsP (n : Nat) (L : Ly) (g : Addr → Option Obj) : AlP := obsK L (He.frG g (asP g n))
def valP (L : Ly) : AlP := (true, (L.fn.map fun q => q.d.val) ++ ((L.sups.map fun q => q.d.val) ++ L.xcs.map fun q => q.d.val))
def SaysP (L : Ly) (K : PySem.W.Frag) : Prop := obsK L K = valP L
def hookP (n : Nat) (L : Ly) : PySem.W.Hook where
  α := AlP
  obs := fun s => obsP n L s.heap.get?
  val := fun _ => valP L
  says := fun _ h => ∃ K : PySem.W.Frag, K.In h ∧ SaysP L K
  of := fun _ s e => ⟨He.frG s.heap.get? (asP s.heap.get? n), He.frG_in, e⟩
  keeps := fun _ _ _ ⟨K, hK, c⟩ k => ⟨K, PySem.W.Frag.In.keeps hK k, c⟩
theorem obsP_eq {n : Nat} {L : Ly} {g : Addr → Option Obj} {s : Shared} (h : ∀ a, g a = s.heap.get? a) : obsP n L g = (hookP n L).obs s := by
  rw [show g = s.heap.get? from funext h]
  rfl
structure SaysO (L : Ly) (K : PySem.W.Frag) : Prop where
  fa : ∀ f ∈ L.fa, f.ok K = true
  fn : ∀ q ∈ L.fn, okV K q.d (adr K q.loc) = true ∧ fnV K (adr K q.loc) = q.d.val
  l : noLst K = true
  c : ∀ q ∈ L.con, conB K q = true
  cls : ∀ d ∈ L.cls, cdB1 K L.tab d = true ∧ cdB2 K L.cls d = true ∧ cdB3 K d = true
  stas : ∀ q ∈ L.stas, staB K q = true
  sups : ∀ q ∈ L.sups, supB K L.tab L.cls L.file q = true ∧ fnVS K (adr K q.loc) = q.d.val
  xcs : ∀ q ∈ L.xcs, xcB K L.file q = true ∧ fnVS K (adr K q.loc) = q.d.val
  xks : ∀ k ∈ L.xks, xkB K k = true
theorem SaysP.o {L : Ly} {K : PySem.W.Frag} (h : SaysP L K) : SaysO L K := by
  have h1 : allB L K = true := congrArg Prod.fst h
  have h0 : (L.fn.map fun q => fnV K (adr K q.loc)) ++ ((L.sups.map fun q => fnVS K (adr K q.loc)) ++ L.xcs.map fun q => fnVS K (adr K q.loc)) = (L.fn.map fun q => q.d.val) ++ ((L.sups.map fun q => q.d.val) ++ L.xcs.map fun q => q.d.val) := congrArg Prod.snd h
  obtain ⟨h2, h3⟩ := List.append_inj h0 (by simp)
  obtain ⟨h3, h4⟩ := List.append_inj h3 (by simp)
  unfold allB at h1
  simp only [Bool.and_eq_true, List.all_eq_true] at h1
  obtain ⟨a1, a2, a3, a4, a5, a6, a7, a8, a9⟩ := h1
  exact ⟨a1, fun q hq => ⟨a2 q hq, List.map_inj_left.mp h2 q hq⟩, a3, a4, a5, a6, fun q hq => ⟨a7 q hq, List.map_inj_left.mp h3 q hq⟩, fun q hq => ⟨a8 q hq, List.map_inj_left.mp h4 q hq⟩, a9⟩
/-- the end that is wished -/
def EndsW (s₁ : Shared) (r : Result) (s' : Shared) : Prop := r = .ok (.ret (.bool true)) ∧ OldK s₁.heap s'.heap ∧ s'.os = s₁.os ∧ PyProof.Rows.AllBare s'.gens
def frzO (vs : List Value) : Obj := { cls := .type "list", data := .seq vs.toArray }
def Hs (a : Addr) (vs : List Value) (ns : List Int) : Hp := fun b => if b = a then some (.frz (frzO vs) (.lst (ns.map V.int))) else none
theorem Hs_at {a : Addr} {vs : List Value} {ns : List Int} : Hs a vs ns a = some (.frz (frzO vs) (.lst (ns.map V.int))) := if_pos rfl
theorem Hs_no {a b : Addr} {vs : List Value} {ns : List Int} (h : b ≠ a) : Hs a vs ns b = none := if_neg h
theorem Hs_of {a b : Addr} {u : HO} {vs : List Value} {ns : List Int} (h : Hs a vs ns b = some u) : b = a ∧ u = .frz (frzO vs) (.lst (ns.map V.int)) := by
  by_cases e : b = a
  · subst e
    rw [Hs_at] at h
    exact ⟨rfl, (Option.some.inj h).symm⟩
  · rw [Hs_no e] at h
    cases h
theorem enterG {P : Program} {w : World} {K : PySem.W.Frag} {mg mb : Str → Option Value} {t : Tb} {m i p : Nat} {fd : Fn} {a : Addr} {s₁ : Shared} {vs : List Value} {ns : List Int} {g' : List Cl}
    (KX : K.In s₁.heap) (hK : K.lookup a = none) (g1 : s₁.heap.Ns mainGlobals mg) (g2 : s₁.heap.Ns builtinsNs mb) (g3 : ∀ y : Str, y ≠ "__name__" → mb y = bootBuiltins y) (g4 : s₁.heap.NoLimit) (g5 : s₁.gens = #[])
    (ha : s₁.heap.get? a = some (frzO vs)) (hi : PyProof.Rows.IntsAre vs ns) (hl : ns.length ≤ sizeLine) (hr : Rm (3 * m) callerA) (F : ∀ base : Heap, K.In base → base.Ns mainGlobals mg → FnAt t P w K mg base m i fd) (hp : fd.pats[p]? = some ⟨1, [], [.p 0]⟩)
    (hlaw : Pc.run t.tab m i p [.c 0] [] [.fz (ns.map D.int)] = .ok (.d (.bl true)) g') : codeAny (model P w) callerA (.call (.ref (adr K fd.at_)) ⟨[.ref a], []⟩) (EndsW s₁) s₁ := by
  have rel := vals_ints hi
  have keepB : ∀ {b : Addr} {o : Obj}, s₁.heap.get? b = some o → b ≠ a → (hidT s₁.heap (Hs a vs ns)).get? b = some o := fun q hb => hidT_get q (Hs_no hb)
  have notA : ∀ {b : Addr} {o : Obj} {es : Array DictEntry} {ep : Nat}, s₁.heap.get? b = some o → o.data = .dict es ep → b ≠ a := fun {b o es ep} q hd hb => by
    subst hb
    rw [ha] at q
    cases q
    have z : Data.seq vs.toArray _ = Data.dict es ep := hd
    cases z
  have nsB : ∀ {b : Addr} {m : Str → Option Value}, s₁.heap.Ns b m → (hidT s₁.heap (Hs a vs ns)).Ns b m := fun {b m} ⟨o, es, ep, q, hd, hm⟩ => ⟨o, es, ep, keepB q (notA q hd), hd, hm⟩
  have kinB : K.In (hidT s₁.heap (Hs a vs ns)) := fun b o q => keepB (KX b o q) fun hb => by
    subst hb
    rw [hK] at q
    cases q
  obtain ⟨mc, l1, l2⟩ := g4
  have md : Mod K mg (hidT s₁.heap (Hs a vs ns)) := ⟨kinB, nsB g1, ⟨mb, nsB g2, g3⟩, ⟨mc, nsB l1, l2⟩⟩
  have hok : HOk P w (Hs a vs ns) s₁.heap := fun b u q => by
    obtain ⟨rfl, rfl⟩ := Hs_of q
    exact ⟨ha, by rw [List.length_map]; exact hl, vs, _, rel, ha⟩
  have en : Env0 P w K mg (hidT s₁.heap (Hs a vs ns)) callerA [] s₁ (Hs a vs ns) :=
    ⟨rfl, md, fun b o q => of_hidT q, Nat.le_of_eq (hidT_size _ _), trivial, fun b hb => (by cases hb), hok, .of_eq g5⟩
  have SM : Sim ⟨K, t.cl⟩ (fun _ => none) (fun _ => none) [a] ⟨[.fz (ns.map D.int)], []⟩ [] (Hs a vs ns) := by
    refine ⟨fun b u e => (by cases e), fun b u e => (by cases e), fun b hb => absurd rfl hb, rfl, fun j b c e1 e2 => ?_, fun j1 j2 b e1 e2 => ?_, rfl, fun j w e => (by cases j <;> cases e), fun j l e => (by cases j <;> cases e)⟩
    · cases j with
      | zero =>
        cases e1
        cases e2
        refine ⟨rfl, rfl, by rw [Hs_at]; simp, _, _, Hs_at, ?_⟩
        have : ∀ l : List Int, Reps ⟨K, t.cl⟩ (fun _ => none) (l.map D.int) (l.map V.int) := by
          intro l
          induction l with
          | nil => rfl
          | cons z l ih => exact ⟨.int z, _, rfl, rfl, ih⟩
        exact this ns
      | succ j => simp at e1
    · cases j1 with
      | zero =>
        cases j2 with
        | zero => rfl
        | succ j => simp at e2
      | succ j => simp at e1
  refine codeAny_mono ((F _ kinB (nsB g1)).run p _ hp callerA [] s₁ _ [.ref a] [] [.c 0] [] [.ref a] [] _ _ _ _ (fun v _ => v = .bl true) (fun _ _ _ => False) hr en SM ⟨.ref a, [], rfl, ⟨a, rfl, rfl⟩, rfl⟩ (.cons rfl .nil) rfl .nil rfl (by rw [hlaw]; exact fun T' μ' H' v _ _ _ r => r)) fun r s' h => ?_
  cases r with
  | error e =>
    obtain ⟨_, _, _, _, _, _, _, _, _, _, _, _, z⟩ := (show L2.CX P w [] _ s₁ (fun _ _ _ => False) e s' from h)
    exact z.elim
  | ok fl =>
    cases fl with
    | next => exact h.elim
    | brk => exact h.elim
    | cont => exact h.elim
    | ret u =>
      obtain ⟨v, H', z1, z2, z3, z4, z5, rfl⟩ := (show CE [] P w _ s₁ _ u s' from h)
      cases (show u = Value.bool true from z5)
      refine ⟨rfl, OldK.of_keep fun b o q => ?_, z1, z2⟩
      by_cases hb : b = a
      · subst hb
        obtain ⟨y1, _⟩ := z4 b _ (z3.frzs b _ _ Hs_at)
        rw [ha] at q
        cases q
        exact y1
      · exact z3.keep b o q (Hs_no hb) (by intro z; cases z) (by simp)
/-- a law, from what its def computes -/
theorem walk_G {l : PySem.W.OpenLaw} {n m i p : Nat} {q : Program} {loose : List Str} {XP : (Str → Option Value) → Heap → Prop} {YP : World → Heap → Prop} {d : DefRec} {fd : Fn}
    (hn : l.most = some n) (hn2 : n ≤ sizeLine) (hdf : d.params.defaults = []) (hr : Rm (3 * m) callerA) (hp : fd.pats[p]? = some ⟨1, [], [.p 0]⟩)
    (F : ∀ (w : World) (mg : Str → Option Value) (fa : Addr) (h : Heap), YP w h → h.Ns mainGlobals mg → mg d.name = some (.ref fa) →
      ∃ (K : PySem.W.Frag) (t : Tb), K.In h ∧ noLst K = true ∧ adr K fd.at_ = fa ∧
        (∀ ns : List Int, ns.length ≤ n → ∃ g', Pc.run t.tab m i p [.c 0] [] [.fz (ns.map D.int)] = .ok (.d (.bl true)) g') ∧
        ∀ base : Heap, K.In base → base.Ns mainGlobals mg → FnAt t l.prog w K mg base m i fd) : PySem.W.WalkO q loose XP YP l.row.toRowW d [] (fun f vs => PySem.call f vs) := by
  refine Att.attach_call hn hdf fun w s₀ s₁ mg mb fa o pm cd doc a vs ns G Y ho hd hcd hmg hobj hints hlen hg => ?_
  obtain ⟨K, t, KX, hnl, hfa, hlaw, hF⟩ := F w mg fa _ Y G.T.g hmg
  have hK : K.lookup a = none := by
    cases e : K.lookup a with
    | none => rfl
    | some u =>
      have h1 := KX a u e
      rw [hobj] at h1
      cases h1
      exact absurd rfl (noLst_ok hnl e)
  obtain ⟨g', hg'⟩ := hlaw ns hlen
  rw [← hfa]
  exact enterG KX hK G.T.g G.T.b G.T.builtins G.T.nolimit hg hobj hints (Nat.le_trans hlen hn2) hr hF hp hg'
end Pc

set_option Elab.async false
set_option linter.all false
set_option maxRecDepth 100000
set_option maxHeartbeats 4000000
namespace Pc
open PySem L2
mutual
def D.beq : D → D → Bool
  | .non, y => match y with
    | .non => true
    | _ => false
  | .bl a, y => match y with
    | .bl b => a == b
    | _ => false
  | .int a, y => match y with
    | .int b => decide (a = b)
    | _ => false
  | .str a, y => match y with
    | .str b => decide (a = b)
    | _ => false
  | .tup l, y => match y with
    | .tup m => D.beqs l m
    | _ => false
  | .lst _, _ => false
  | .obj _ _ _, _ => false
  | .exn _ _ _, _ => false
def D.beqs : List D → List D → Bool
  | [], m => m.isEmpty
  | x :: l, m => match m with
    | y :: m => D.beq x y && D.beqs l m
    | [] => false
end
mutual
theorem beq_ok : ∀ {x y : D}, D.beq x y = true → x = y
  | .non, y, h => by unfold D.beq at h; split at h <;> first | rfl | cases h
  | .bl a, y, h => by
    unfold D.beq at h
    split at h
    · rw [beq_iff_eq.mp h]
    · cases h
  | .int a, y, h => by
    unfold D.beq at h
    split at h
    · rw [of_decide_eq_true h]
    · cases h
  | .str a, y, h => by
    unfold D.beq at h
    split at h
    · rw [of_decide_eq_true h]
    · cases h
  | .tup l, y, h => by
    unfold D.beq at h
    split at h
    · rw [beqs_ok h]
    · cases h
  | .lst _, y, h => by unfold D.beq at h; cases h
  | .obj _ _ _, y, h => by unfold D.beq at h; cases h
  | .exn _ _ _, y, h => by unfold D.beq at h; cases h
theorem beqs_ok : ∀ {l m : List D}, D.beqs l m = true → l = m
  | [], m, h => by
    unfold D.beqs at h
    cases m with
    | nil => rfl
    | cons _ _ => cases h
  | x :: l, m, h => by
    unfold D.beqs at h
    split at h
    · rw [Bool.and_eq_true] at h
      rw [beq_ok h.1, beqs_ok h.2]
    · cases h
end
/-- the tables of a law -/
def mkT (K : PySem.W.Frag) (tab : List Fn) (fr : List Str) (con : List (Str × D)) (cls : List Cd) (stas : List (Str × Str)) (xcs : List Xd) (xks : List Xk) : Tb where
  cl := fun c => (cls[c]?).map fun d => He.ga K d.name
  tab := tab
  cls := cls
  stas := stas
  xcs := xcs
  xks := xks
  free := fun x => fr.contains x
  con := fun x d => con.any fun q => decide (q.1 = x) && D.beq q.2 d
section
variable {P : Program} {w : World} {base : Heap} {K : PySem.W.Frag} {h : Heap} {mg : Str → Option Value} {tab : List Fn} {fr : List Str} {con : List (Str × D)} {cls : List Cd} {stas : List (Str × Str)} {fa : List He.Fa} {fn : List FnF} {sups : List FnS} {xcs : List FnX} {xks : List Xk} {file : Str}
theorem free_mk (X : K.In h) (G : h.Ns mainGlobals mg) (c : ∀ f ∈ fa, f.ok K = true) (hf : ∀ x ∈ fr, .free x ∈ fa) : ∀ x, (mkT K tab fr con cls stas (xcs.map FnX.q) xks).free x = true → mg x = none := fun x hx => by
  have hx : x ∈ fr := by simpa [mkT] using hx
  exact He.free_ok X G (c _ (hf x hx))
theorem con_mk (X : K.In h) (G : h.Ns mainGlobals mg) (c : ∀ q ∈ con, conB K q = true) : ∀ x d, (mkT K tab fr con cls stas (xcs.map FnX.q) xks).con x d = true → ∃ u v, mg x = some u ∧ RelV v u ∧ Rep ⟨K, (mkT K tab fr con cls stas (xcs.map FnX.q) xks).cl⟩ (fun _ => none) d v := fun x d hx => by
  obtain ⟨q, hq, h1⟩ := List.any_eq_true.mp (show con.any _ = true from hx)
  rw [Bool.and_eq_true] at h1
  have e1 := of_decide_eq_true h1.1
  have e2 := beq_ok h1.2
  subst e1 e2
  have h2 := c q hq
  unfold conB at h2
  split at h2
  · rename_i u hu
    obtain ⟨v, r1, r2⟩ := dV_ok (cl := (mkT K tab fr con cls stas (xcs.map FnX.q) xks).cl) (T := fun _ => none) h2
    exact ⟨u, v, PySem.W.mg_of X G hu, r1, r2⟩
  · cases h2
/-- all functions stand, from what the hook says -/
theorem mk_fns (X : K.In h) (G : h.Ns mainGlobals mg) (c : SaysP ⟨fa, fn, con, tab, cls, stas, sups, xcs, xks, file⟩ K) (hf : ∀ x ∈ fr, .free x ∈ fa)
    (hs : SaysO ⟨fa, fn, con, tab, cls, stas, sups, xcs, xks, file⟩ K → ∀ fd ∈ tab, FnSt (mkT K tab fr con cls stas (xcs.map FnX.q) xks) K mg fd ∨ FnSu P (mkT K tab fr con cls stas (xcs.map FnX.q) xks) K mg fd) (hx : SaysO ⟨fa, fn, con, tab, cls, stas, sups, xcs, xks, file⟩ K → XcsOk P K mg (mkT K tab fr con cls stas (xcs.map FnX.q) xks)) : ∀ n (base : Heap) i fd, tab[i]? = some fd → FnAt (mkT K tab fr con cls stas (xcs.map FnX.q) xks) P w K mg base n i fd := by
  have o := c.o
  refine fns_ok2 (t := mkT K tab fr con cls stas (xcs.map FnX.q) xks) (free_mk X G o.fa hf) (con_mk X G o.c) (hs o) (fun i d hd => ?_) (fun q hq => staB_ok X G (o.stas q hq)) (fun i C hC => ?_) (hx o)
  · obtain ⟨c1, c2, c3⟩ := o.cls d (List.mem_of_getElem? hd)
    refine ⟨He.ga K d.name, ?_, cdB_ok (t := mkT K tab fr con cls stas (xcs.map FnX.q) xks) X G (fun _ => rfl) c1 c2 c3⟩
    have hd' : cls[i]? = some d := hd
    show (cls[i]?).map _ = _
    rw [hd']; rfl
  · have : (cls[i]?).map (fun d => He.ga K d.name) = some C := hC
    cases e : cls[i]? with
    | none => rw [e] at this; cases this
    | some d => exact ⟨d, e⟩
theorem SaysO.fun_ {L : Ly} (o : SaysO L K) {q : FnF} (hq : q ∈ L.fn) : ∃ fo, FunD K q.d.name q.d.qual q.d.params q.d.body q.d.scope (q.d.dvs K) (q.d.kws K) (adr K q.loc) fo := funV (o.fn q hq).2 (o.fn q hq).1
end
/-- what a def's calls lean on -/
structure FunV (K : PySem.W.Frag) (x qual : Str) (params : Arguments) (body : List Stmt) (scope : Scope) (dvs : List V) (kws : List (Str × V)) (fd : FuncData) : Prop where
  ex : ∃ (dV kV doc pm : Value) (an : Option Addr) (cdv ct : Value), fd = PySem.W.fnOf x qual params body scope dV kV doc pm an cdv ct ∧ DflV K dV dvs ∧ KwdV K kV kws
theorem _root_.L2.FunD.v {K : PySem.W.Frag} {x qual : Str} {params : Arguments} {body : List Stmt} {scope : Scope} {dvs : List V} {kws : List (Str × V)} {f : Addr} {fd : FuncData} (F : FunD K x qual params body scope dvs kws f fd) : FunV K x qual params body scope dvs kws fd := by
  obtain ⟨oc, od, dV, kV, doc, pm, an, cdv, ct, osl, e, lk, hcd, hD, hK⟩ := F.ex
  exact ⟨dV, kV, doc, pm, an, cdv, ct, e, hD, hK⟩
/-- the i-th default, if it is an object -/
def dfA (l : Loc) (i : Nat) (K : PySem.W.Frag) : Addr := match K.lookup (adr K l) with
  | some ⟨_, _, .func fd, _⟩ => (match fd.defaults with
    | .ref T => (match K.lookup T with
      | some ⟨_, _, .seq its _, _⟩ => (match its.toList[i]? with
        | some (.ref a) => a
        | _ => 0)
      | _ => 0)
    | _ => 0)
  | _ => 0
section
variable {k : Kx} {x qual : Str} {params : Arguments} {body : List Stmt} {scope : Scope} {dvs : List V} {kws : List (Str × V)} {f : Addr} {fd : FuncData} {ps ks : List Str} {n : Nat} {sel : List Ar}
def noDf (l : List Ar) : Bool := l.all fun a => match a with
  | .df _ => false
  | .va _ => false
  | _ => true
theorem df_no {ds : List Value} : ∀ {l : List Ar} {j : Nat}, noDf l = true → DfOk k ds l j
  | [], _, _ => trivial
  | .p _ :: l, j, h => df_no (l := l) (j := j + 1) (by simpa [noDf] using h)
  | .k _ :: l, j, h => df_no (l := l) (j := j + 1) (by simpa [noDf] using h)
  | .df _ :: l, j, h => by simp [noDf] at h
  | .va _ :: l, j, h => by simp [noDf] at h
/-- no defaults at all -/
theorem pat_n (F : FunV k.K x qual params body scope [] kws fd) (hs : noDf sel = true)
    (h : ∀ (kV doc pm : Value) (an : Option Addr) (cdv ct : Value) (us ws : List Value), us.length = n → ws.length = ks.length → bindArgs (PySem.W.fnOf x qual params body scope .none kV doc pm an cdv ct) ⟨us, ks.zip ws⟩ = pure (ps.zip (selVs us ws [] sel 0))) : PatOk k fd ps ⟨n, ks, sel⟩ := by
  obtain ⟨dV, kV, doc, pm, an, cdv, ct, rfl, hD, hK⟩ := F.ex
  rcases hD with ⟨_, rfl⟩ | ⟨e, _⟩
  · exact ⟨[], df_no hs, fun s us ws _ l1 l2 => .of_eq (h kV doc pm an cdv ct us ws l1 l2)⟩
  · exact absurd rfl e
/-- keyword-only defaults, some of them (ms) taken -/
theorem pat_k (F : FunV k.K x qual params body scope [] kws fd) (hk : kws ≠ []) (ms : List (Str × V)) (hms : ∀ q ∈ ms, q ∈ kws) (pl : List Value → List Value) (hd : ∀ mv, Vals (ms.map (·.2)) mv → DfOk k (pl mv) sel 0)
    (h : ∀ (D : Addr) (doc pm : Value) (an : Option Addr) (cdv ct : Value) (us ws mv : List Value), us.length = n → ws.length = ks.length → mv.length = ms.length →
      KwChain D ((ms.map (·.1)).zip mv) (bindArgs (PySem.W.fnOf x qual params body scope .none (.ref D) doc pm an cdv ct) ⟨us, ks.zip ws⟩) (ps.zip (selVs us ws (pl mv) sel 0))) : PatOk k fd ps ⟨n, ks, sel⟩ := by
  obtain ⟨dV, kV, doc, pm, an, cdv, ct, rfl, hD, hK⟩ := F.ex
  rcases hD with ⟨_, rfl⟩ | ⟨e, _⟩
  · rcases hK with e | ⟨D, rfl, hq⟩
    · exact absurd e hk
    · obtain ⟨mv, hl, rk, hks⟩ := kwd_vals (ms := ms) fun q hm => hq q (hms q hm)
      exact ⟨pl mv, hd mv rk, fun s us ws X l1 l2 => BindsTo.of_looks fun M => KwChain.looks X hks (h D doc pm an cdv ct us ws mv l1 l2 hl)⟩
  · exact absurd rfl e
/-- none of the defaults taken -/
theorem pat_a {dvs : List V} {m : Nat} (F : FunV k.K x qual params body scope dvs kws fd) (hl : dvs.length = m + 1) (hs : noDf sel = true)
    (h : ∀ (T : Addr) (kV doc pm : Value) (an : Option Addr) (cdv ct : Value) (us its ws : List Value), us.length = n → its.length = m + 1 → ws.length = ks.length →
      ∃ k, bindArgs (PySem.W.fnOf x qual params body scope (.ref T) kV doc pm an cdv ct) ⟨us, ks.zip ws⟩ = seqItems? (.ref T) >>= k ∧ k (some its.toArray) = pure (ps.zip (selVs us ws [] sel 0))) : PatOk k fd ps ⟨n, ks, sel⟩ := by
  obtain ⟨dV, kV, doc, pm, an, cdv, ct, rfl, hD, hK⟩ := F.ex
  rcases hD with ⟨e, _⟩ | ⟨_, T, o, its, m', rfl, lT, oT, rT⟩
  · rw [e] at hl; cases hl
  · refine ⟨[], df_no hs, fun s us ws X l1 l2 => BindsTo.of_looks fun M => ?_⟩
    obtain ⟨k, e1, e2⟩ := h T kV doc pm an cdv ct us its ws l1 (rT.length.symm.trans hl) l2
    rw [e1]
    exact looks_items X lT oT (.of_pure e2)
/-- one parameter and a star -/
theorem star1_ok (F : FunV k.K x qual params body scope [] kws fd) {p1 pv : Str} (hps : ps = [p1, pv])
    (h : ∀ (kV doc pm : Value) (an : Option Addr) (cdv ct : Value), (∀ a : Value, bindArgs (PySem.W.fnOf x qual params body scope .none kV doc pm an cdv ct) ⟨[a], []⟩ = (newTuple [] >>= fun t => pure [(p1, a), (pv, t)])) ∧
      ∀ (a r : Value) (rs : List Value), bindArgs (PySem.W.fnOf x qual params body scope .none kV doc pm an cdv ct) ⟨a :: r :: rs, []⟩ = (newTuple (r :: rs) >>= fun t => pure [(p1, a), (pv, t)])) : StarOk fd ps ⟨1, [], [.p 0, .va 1]⟩ := by
  obtain ⟨dV, kV, doc, pm, an, cdv, ct, rfl, hD, hK⟩ := F.ex
  rcases hD with ⟨_, rfl⟩ | ⟨e, _⟩
  · exact ⟨[p1], pv, hps, rfl, rfl, rfl, fun us rest l1 => StX.bind_star1 (B := fun vs => bindArgs (PySem.W.fnOf x qual params body scope .none kV doc pm an cdv ct) ⟨vs, []⟩) (h kV doc pm an cdv ct).1 (h kV doc pm an cdv ct).2 us rest l1⟩
  · exact absurd rfl e
/-- two parameters and a star -/
theorem star2_ok (F : FunV k.K x qual params body scope [] kws fd) {p1 p2 pv : Str} (hps : ps = [p1, p2, pv])
    (h : ∀ (kV doc pm : Value) (an : Option Addr) (cdv ct : Value), (∀ a b : Value, bindArgs (PySem.W.fnOf x qual params body scope .none kV doc pm an cdv ct) ⟨[a, b], []⟩ = (newTuple [] >>= fun t => pure [(p1, a), (p2, b), (pv, t)])) ∧
      ∀ (a b r : Value) (rs : List Value), bindArgs (PySem.W.fnOf x qual params body scope .none kV doc pm an cdv ct) ⟨a :: b :: r :: rs, []⟩ = (newTuple (r :: rs) >>= fun t => pure [(p1, a), (p2, b), (pv, t)])) : StarOk fd ps ⟨2, [], [.p 0, .p 1, .va 2]⟩ := by
  obtain ⟨dV, kV, doc, pm, an, cdv, ct, rfl, hD, hK⟩ := F.ex
  rcases hD with ⟨_, rfl⟩ | ⟨e, _⟩
  · exact ⟨[p1, p2], pv, hps, rfl, rfl, rfl, fun us rest l1 => StX.bind_star2 (B := fun vs => bindArgs (PySem.W.fnOf x qual params body scope .none kV doc pm an cdv ct) ⟨vs, []⟩) (h kV doc pm an cdv ct).1 (h kV doc pm an cdv ct).2 us rest l1⟩
  · exact absurd rfl e
end
/-- a def's fixed facts -/
theorem fnst_of {t : Tb} {K : PySem.W.Frag} {mg : Str → Option Value} {x qual : Str} {params : Arguments} {body : List Stmt} {scope : Scope} {dvs : List V} {kws : List (Str × V)} {fo : FuncData} {fd : Fn} (F : FunD K x qual params body scope dvs kws (adr K fd.at_) fo)
    (hg : ∀ x, fd.at_ = .glo x → mg x = some (.ref (adr K fd.at_))) (hp : ∀ q ∈ fd.pats, BindOk ⟨K, t.cl⟩ fo (fd.nm.take fd.np) q) (S : FnScope fd.nm (fd.nm.take fd.np) scope) (hn : fd.np ≤ fd.nm.length) (hm : matSs t ⟨fd.nm, scope, fun _ => true⟩ fd.body body = true) : FnSt t K mg fd := by
  obtain ⟨oc, od, dV, kV, doc, pm, an, cdv, ct, osl, rfl, lk, hcd, hD, hK⟩ := F.ex
  exact ⟨oc, od, osl, x, qual, params, body, scope, dV, kV, doc, pm, cdv, ct, an, hg, F.kp, lk, hcd, hp, S, hn, fun n => matSs_ok fd.body hm⟩
/-- the scope of a def, checked -/
def scB (N ps : List Str) (sc : Scope) : Bool := (match sc.kind with | .function => true | _ => false) && !sc.isCoroutine && !sc.isGenerator && decide N.Nodup && decide (N.take ps.length = ps) &&
  (ps.all fun x => match sc.names.lookup x with | some .local => true | some .cell => true | _ => false) && sc.names.all fun y => match y.2 with | .free => false | _ => true
theorem scB_ok {N ps : List Str} {sc : Scope} (h : scB N ps sc = true) : FnScope N ps sc := by
  unfold scB at h
  simp only [Bool.and_eq_true, Bool.not_eq_true', decide_eq_true_eq] at h
  obtain ⟨⟨⟨⟨⟨⟨h1, h2⟩, h3⟩, h4⟩, h5⟩, h6⟩, h7⟩ := h
  refine ⟨?_, h2, h3, h4, h5, fun x hx => ?_, fun y hy e => ?_⟩
  · split at h1
    · assumption
    · cases h1
  · have := List.all_eq_true.mp h6 x hx
    split at this
    · exact .inl (by assumption)
    · exact .inr (by assumption)
    · cases this
  · have := List.all_eq_true.mp h7 y hy
    rw [e] at this
    cases this
theorem PatOk.to {k : Kx} {fo fo' : FuncData} {ps : List Str} {q : Pat} (h : ∀ a, bindArgs fo' a = bindArgs fo a) (p : PatOk k fo ps q) : PatOk k fo' ps q := by
  obtain ⟨ds, h1, h2⟩ := p
  refine ⟨ds, h1, fun s us ws X l1 l2 => ?_⟩
  have b := h2 s us ws X l1 l2
  unfold BindsTo at b ⊢
  rw [h]
  exact b
def scBS (N ps : List Str) (sc : Scope) : Bool := (match sc.kind with | .function => true | _ => false) && !sc.isCoroutine && !sc.isGenerator && decide N.Nodup && decide (N.take ps.length = ps) &&
  (ps.all fun x => match sc.names.lookup x with | some .local => true | _ => false) && (sc.names.all fun y => match y.2 with | .free => decide (y.1 = "__class__") | .cell => false | _ => true) &&
  (match sc.names.lookup ("super" : Str) with | some .globalImplicit => true | _ => false) && (match sc.names.lookup ("__class__" : Str) with | some .free => true | _ => false) && !N.isEmpty && !ps.isEmpty
theorem scBS_ok {N ps : List Str} {sc : Scope} (h : scBS N ps sc = true) : FnScopeS N ps sc ∧ sc.names.lookup ("super" : Str) = some .globalImplicit ∧ sc.names.lookup ("__class__" : Str) = some .free ∧ ∃ slf, N[0]? = some slf ∧ sc.names.lookup slf = some .local := by
  unfold scBS at h
  simp only [Bool.and_eq_true, Bool.not_eq_true', decide_eq_true_eq] at h
  obtain ⟨⟨⟨⟨⟨⟨⟨⟨⟨⟨h1, h2⟩, h3⟩, h4⟩, h5⟩, h6⟩, h7⟩, h8⟩, h9⟩, h10⟩, h11⟩ := h
  have par : ∀ x ∈ ps, sc.names.lookup x = some .local := fun x hx => by
    have := List.all_eq_true.mp h6 x hx
    split at this
    · assumption
    · cases this
  refine ⟨⟨?_, h2, h3, h4, h5, par, fun x hx => ?_, fun y hy e => ?_⟩, ?_, ?_, ?_⟩
  · split at h1
    · assumption
    · cases h1
  · rcases hx with hx | hx
    · have := List.all_eq_true.mp h7 _ (lookup_mem hx)
      cases this
    · have := List.all_eq_true.mp h7 _ (lookup_mem hx)
      exact of_decide_eq_true this
  · have := List.all_eq_true.mp h7 y hy
    rw [e] at this
    cases this
  · split at h8
    · assumption
    · cases h8
  · split at h9
    · assumption
    · cases h9
  · cases N with
    | nil => cases h10
    | cons a N =>
      cases ps with
      | nil => cases h11
      | cons b ps =>
        have : a = b := by simpa using congrArg List.head? h5
        subst this
        exact ⟨a, rfl, par a (List.mem_cons_self ..)⟩
/-- the facts of such a def, from what the hook says -/
theorem SaysO.sup_ {L : Ly} {K : PySem.W.Frag} (o : SaysO L K) {q : FnS} (hq : q ∈ L.sups) : ∃ (oc : Value) (od : Option Addr) (osl : Array (Option Value)) (dV kV doc pm ct : Value) (cda cc : Addr) (an : Option Addr),
    PySem.W.keepIn K (.ref (adr K q.loc)) = true ∧ K.lookup (adr K q.loc) = some ⟨oc, od, .func (PySem.W.ksFn q.d.name q.d.qual q.d.params q.d.body q.d.scope dV kV doc pm an (.ref cda) ct cc), osl⟩ ∧ PySem.W.codeIn K (.ref cda) q.d.qual = true ∧ DflV K dV (q.d.dvs K) ∧ KwdV K kV (q.d.kws K) ∧
    (∃ (ccl : Value) (cdd : Option Addr) (vs : Array Value) (ccs : Array (Option Value)) (tf : Tok), K.lookup cda = some ⟨ccl, cdd, .fields vs, ccs⟩ ∧ vs[2]? = some (.str L.file tf)) ∧ PySem.W.nsIn K cStatics "thirdparty.any" = some none ∧
    ∃ (cl : Value) (cld : Option Addr) (csl : Array (Option Value)) (D : Addr) (cdD : ClassData) (fd : Fn) (p : Pat), K.lookup cc = some ⟨cl, cld, .cell (some (.ref D)), csl⟩ ∧ PySem.W.clsIn K D = some cdD ∧ L.tab[q.f]? = some fd ∧ fd.pats[0]? = some p ∧ p.ks = [] ∧
      PySem.W.fnIn K (adr K fd.at_) = true ∧ PySem.W.typeIn K (.ref (adr K fd.at_)) = some (.type "function") ∧ ∀ c ∈ q.cs, ∃ d, L.cls[c]? = some d ∧ PySem.W.mroIn K (He.ga K d.name) (.ref D) = some true ∧ PySem.W.ks_superIn K (He.ga K d.name) D "__init__" = some (some (.ref (adr K fd.at_))) := by
  obtain ⟨h1, h2⟩ := o.sups q hq
  unfold supB at h1
  rw [Bool.and_eq_true, Bool.and_eq_true] at h1
  obtain ⟨kp, h1, hop⟩ := h1
  unfold fnVS at h2
  cases e : K.lookup (adr K q.loc) with
  | none => rw [e] at h1; cases h1
  | some ob =>
    obtain ⟨oc, od, dt, osl⟩ := ob
    rw [e] at h1 h2
    cases dt with
    | func z =>
      obtain ⟨n1, n2, n3, n4, n5, n6, n7, n8, n9, n10, n11, n12, n13, n14, n15⟩ := z
      have e2 : (some (n1, n2, n3, n4, n5, n6, closS n7, n15) : He.FnW) = some (q.d.name, q.d.qual, q.d.params, .stmts q.d.body, q.d.scope, mainGlobals, [], builtinsNs) := h2
      simp only [Option.some.injEq, Prod.mk.injEq] at e2
      obtain ⟨g1, g2, g3, g4, g5, g6, g7, g8⟩ := e2
      subst g1 g2 g3 g4 g5 g6 g8
      dsimp only at h1
      split at h1
      · rename_i nm cc cda
        have hn : nm = "__class__" := by
          unfold closS at g7
          dsimp only at g7
          split at g7
          · assumption
          · cases g7
        subst hn
        simp only [Bool.and_eq_true] at h1
        obtain ⟨k1, k2, k3, k4, k5⟩ := h1
        refine ⟨oc, od, osl, _, _, _, _, _, cda, cc, _, kp, rfl, k1, He.dflB_ok k2, He.kwdB_ok k3, ?_, He.eqO_ok hop, ?_⟩
        · split at k4
          · rename_i ccl cdd vs ccs hk
            split at k4
            · rename_i fl tf hv
              have := of_decide_eq_true k4
              subst this
              exact ⟨ccl, cdd, vs, ccs, tf, hk, hv⟩
            · cases k4
          · cases k4
        · split at k5
          · rename_i cl cld D csl hk
            rw [Bool.and_eq_true] at k5
            obtain ⟨c1, c2⟩ := k5
            obtain ⟨cdD, hcd⟩ := Option.isSome_iff_exists.mp c1
            obtain ⟨fd, hfd, c3⟩ := fnAtB_ok c2
            simp only [Bool.and_eq_true, List.all_eq_true] at c3
            obtain ⟨c4, c5, c6, c7⟩ := c3
            split at c4
            · rename_i p hp
              refine ⟨cl, cld, csl, D, cdD, fd, p, hk, hcd, hfd, hp, of_decide_eq_true c4, c5, of_decide_eq_true c6, fun c hc => ?_⟩
              have := c7 c hc
              split at this
              · rename_i d hd
                rw [Bool.and_eq_true] at this
                exact ⟨d, hd, of_decide_eq_true this.1, He.eqO_ok this.2⟩
              · cases this
            · cases c4
          · cases k5
      · cases h1
    | _ => cases h1
theorem fnsu_of {P : Program} {K : PySem.W.Frag} {mg : Str → Option Value} {tab : List Fn} {fr : List Str} {con : List (Str × D)} {cls : List Cd} {stas : List (Str × Str)} {fa : List He.Fa} {fn : List FnF} {sups : List FnS} {xcs : List FnX} {xks : List Xk} {file : Str} (o : SaysO ⟨fa, fn, con, tab, cls, stas, sups, xcs, xks, file⟩ K) {q : FnS} (hq : q ∈ sups) {fd : Fn} (hl : fd.at_ = q.loc) (hg : ∀ x, fd.at_ ≠ .glo x)
    (hp : ∀ fo : FuncData, FunV K q.d.name q.d.qual q.d.params q.d.body q.d.scope (q.d.dvs K) (q.d.kws K) fo → ∀ p ∈ fd.pats, BindOk ⟨K, (mkT K tab fr con cls stas (xcs.map FnX.q) xks).cl⟩ fo (fd.nm.take fd.np) p) (hv : fd.pats.all (fun p => !p.sel.any Ar.isVa) = true) (S : scBS fd.nm (fd.nm.take fd.np) q.d.scope = true) (hn : fd.np ≤ fd.nm.length)
    {x : Stmt} {rest : List Stmt} (hb : q.d.body = x :: rest) (hx : supStmt x = true) {r : Sxs} (hf : fd.body = .cons (.sup q.f q.cs) r) (hm : matSs (mkT K tab fr con cls stas (xcs.map FnX.q) xks) ⟨fd.nm, q.d.scope, fnS⟩ r rest = true)
    (har : ((q.d.params.posonlyargs ++ q.d.params.args).head?.map (·.arg)) = fd.nm[0]?) (hfile : ((P.main.file : Str) == file) = true) (htop : (P.main.scope.names.lookup ("super" : Str)).isSome = false) (hsup : mg "super" = none) : FnSu P (mkT K tab fr con cls stas (xcs.map FnX.q) xks) K mg fd := by
  obtain ⟨oc, od, osl, dV, kV, doc, pm, ct, cda, cc, an, k1, k2, k3, k4, k5, ⟨ccl, cdd, vs, ccs, tf, k6, k7⟩, k8, cl, cld, csl, D, cdD, fdB, p, k9, k10, k11, k12, k13, k14, k15, k16⟩ := o.sup_ hq
  obtain ⟨s1, s2, s3, slf, s4, s5⟩ := scBS_ok S
  rw [← hl] at k1 k2
  have hp2 := hp _ ⟨dV, kV, doc, pm, an, .ref cda, ct, rfl, k4, k5⟩
  refine ⟨oc, od, osl, q.d.name, q.d.qual, q.d.params, q.d.body, q.d.scope, dV, kV, doc, pm, ct, cda, cc, an, x, rest, q.f, q.cs, r, slf, hg, k1, k2, k3, fun p hpm => ?_, s1, hn, hb, hx, hf, s4,
    ⟨⟨oc, od, osl, k2⟩, ?_, ⟨ccl, cdd, vs, ccs, file, tf, k6, k7, hfile⟩, htop, hsup, k8, s2, s3, s5, ⟨cl, cld, csl, D, cdD, fdB, p, k9, k10, k11, k12, k13, k14, k15, fun c hc => ?_⟩⟩, fun n => matSs_ok r hm⟩
  · have va := List.all_eq_true.mp hv p hpm
    have va : p.sel.any Ar.isVa = false := by simpa using va
    rcases hp2 p hpm with ⟨h1, _⟩ | ⟨p1, pv, _, _, _, hsel, _⟩
    · exact ⟨h1.to (fun a => rfl), va⟩
    · rw [hsel] at va
      simp [Ar.isVa] at va
  · rw [s4] at har
    cases e : (q.d.params.posonlyargs ++ q.d.params.args).head? with
    | none => rw [e] at har; cases har
    | some ar => rw [e] at har; exact ⟨ar, rfl, Option.some.inj har⟩
  · obtain ⟨d, hd, h1, h2⟩ := k16 c hc
    refine ⟨He.ga K d.name, ?_, h1, h2⟩
    have hd' : cls[c]? = some d := hd
    show (cls[c]?).map _ = _
    rw [hd']; rfl
def xps (z : FnX) : List Str := z.slf :: (match z.q.fld with
  | some _ => [z.q.par]
  | none => [])
def xpats (q : Xd) : List Pat := match q.fld with
  | some _ => [⟨2, [], [.p 0, .p 1]⟩, ⟨1, [q.par], [.p 0, .k 0]⟩]
  | none => [⟨1, [], [.p 0]⟩]
/-- what is told of such a class by its text -/
def xsB (z : FnX) : Bool := scBS (xps z) (xps z) z.d.scope && (xiBody z.slf z.q.fld z.q.par z.q.name z.d.body && (!(z.slf == ("__debug__" : Str)) && (!(z.q.par == ("__debug__" : Str)) && (decide (z.slf ≠ z.q.par) && ((match z.q.fld with
  | some f => decide (f ≠ "code") && decide (f ≠ "")
  | none => true) && (decide (((z.d.params.posonlyargs ++ z.d.params.args).head?.map (·.arg)) = some z.slf) && (z.d.dfl.isEmpty && z.d.kwd.isEmpty)))))))
theorem xck_of {P : Program} {K : PySem.W.Frag} {h : Heap} {mg : Str → Option Value} {file : Str} {z : FnX} (X : K.In h) (G : h.Ns mainGlobals mg) (b : xcB K file z = true) (v : fnVS K (adr K z.loc) = z.d.val) (st : xsB z = true)
    (hp : ∀ {k : Kx} {fo : FuncData}, FunV k.K z.d.name z.d.qual z.d.params z.d.body z.d.scope [] [] fo → ∀ p ∈ xpats z.q, PatOk k fo (xps z) p) (hfile : ((P.main.file : Str) == file) = true) (htop : (P.main.scope.names.lookup ("super" : Str)).isSome = false) (hsup : mg "super" = none) : XcK P K mg z.q := by
  unfold xcB at b
  unfold xsB at st
  simp only [Bool.and_eq_true, Bool.not_eq_true', decide_eq_true_eq] at b st
  obtain ⟨⟨g1, g2, g3, g4, g5, g6, g7, g8⟩, ⟨c1, c2, c3, c4, c5, c6, c7⟩, ⟨f1, f2, f3, f4, f5, f6⟩, ci⟩ := b
  obtain ⟨s1, s2, s3, s4, s5, s6, s7, s8, s9⟩ := st
  obtain ⟨sc1, sc2, sc3, slf', sc4, sc5⟩ := scBS_ok s1
  cases (show some z.slf = some slf' from sc4)
  have dv : z.d.dvs K = [] := by
    unfold He.DefD.dvs
    rw [List.isEmpty_iff.mp s8]; rfl
  have dk : z.d.kws K = [] := by
    unfold He.DefD.kws
    rw [List.isEmpty_iff.mp s9]; rfl
  refine ⟨He.glo_ok X G g1, hsup, g2, ⟨g3, g4, He.eqO_ok g5, g6, He.eqO_ok g7, g8⟩, ⟨He.eqO_ok c1, He.eqO_ok c2, c3, g6⟩, ⟨He.eqO_ok c1, He.eqO_ok c2, c3, g6, He.eqO_ok c4, He.eqO_ok c5, c6, c7⟩, He.eqO_ok f1, fun f hf => ?_, He.eqO_ok f3, ?_⟩
  · rw [hf] at f2 s6
    simp only [Bool.and_eq_true, decide_eq_true_eq] at f2 s6
    exact ⟨He.eqO_ok f2.1, s6.1, s6.2⟩
  · unfold xcI at ci
    unfold fnVS at v
    cases e : K.lookup (adr K z.loc) with
    | none => rw [e] at ci; cases ci
    | some ob =>
      obtain ⟨oc, od, dt, osl⟩ := ob
      rw [e] at ci v
      cases dt with
      | func y =>
        obtain ⟨n1, n2, n3, n4, n5, n6, n7, n8, n9, n10, n11, n12, n13, n14, n15⟩ := y
        have e2 : (some (n1, n2, n3, n4, n5, n6, closS n7, n15) : He.FnW) = some (z.d.name, z.d.qual, z.d.params, .stmts z.d.body, z.d.scope, mainGlobals, [], builtinsNs) := v
        simp only [Option.some.injEq, Prod.mk.injEq] at e2
        obtain ⟨h1, h2, h3, h4, h5, h6, h7, h8⟩ := e2
        subst h1 h2 h3 h4 h5 h6 h8
        dsimp only at ci
        split at ci
        · rename_i nm cc cda
          have hn : nm = "__class__" := by
            unfold closS at h7
            dsimp only at h7
            split at h7
            · assumption
            · cases h7
          subst hn
          simp only [Bool.and_eq_true] at ci
          obtain ⟨k1, k2, k3, k4, k5⟩ := ci
          obtain ⟨ccl, cdd, vs, ccs, tf, k6, k7⟩ : ∃ (ccl : Value) (cdd : Option Addr) (vs : Array Value) (ccs : Array (Option Value)) (tf : Tok), K.lookup cda = some ⟨ccl, cdd, .fields vs, ccs⟩ ∧ vs[2]? = some (.str file tf) := by
            split at k4
            · rename_i ccl cdd vs ccs hk
              split at k4
              · rename_i fl tf hv
                have := of_decide_eq_true k4
                subst this
                exact ⟨ccl, cdd, vs, ccs, tf, hk, hv⟩
              · cases k4
            · cases k4
          obtain ⟨cl, cld, csl, k9⟩ : ∃ (cl : Value) (cld : Option Addr) (csl : Array (Option Value)), K.lookup cc = some ⟨cl, cld, .cell (some (.ref (He.ga K z.q.name))), csl⟩ := by
            split at k5
            · rename_i cl cld D csl hk
              have := of_decide_eq_true k5
              subst this
              exact ⟨cl, cld, csl, hk⟩
            · cases k5
          obtain ⟨ar, a1, a2⟩ : ∃ ar : Arg, (z.d.params.posonlyargs ++ z.d.params.args).head? = some ar ∧ ar.arg = z.slf := by
            cases e : (z.d.params.posonlyargs ++ z.d.params.args).head? with
            | none => rw [e] at s7; cases s7
            | some ar => rw [e] at s7; exact ⟨ar, rfl, Option.some.inj s7⟩
          have FV : ∀ k : Kx, k.K = K → FunV k.K z.d.name z.d.qual z.d.params z.d.body z.d.scope [] [] _ := fun k hk => by
            subst hk
            exact ⟨n8, n9, n10, n11, n12, .ref cda, n14, rfl, He.dflB_ok k2, He.kwdB_ok k3⟩
          have PT := fun p hpm => (hp (k := ⟨K, fun _ => none⟩) (FV _ rfl) p hpm).to (fo' := PySem.W.ksFn z.d.name z.d.qual z.d.params z.d.body z.d.scope n8 n9 n10 n11 n12 (.ref cda) n14 cc) (fun a => rfl)
          refine ⟨adr K z.loc, oc, od, osl, z.d.name, z.d.qual, z.d.params, z.d.body, z.d.scope, n8, n9, n10, n11, n14, cda, cc, n12, z.slf, He.eqO_ok f4, f5, e,
            ⟨⟨oc, od, osl, e⟩, ⟨ar, a1, a2⟩, ⟨ccl, cdd, vs, ccs, file, tf, k6, k7, hfile⟩, htop, He.eqO_ok f6, sc1.kind, sc2, sc3, sc5, cl, cld, csl, k9⟩, k1, sc1.nocell, sc1.co, sc1.gen, s2, fun f hf => ?_, s3, s4, s5, fun s x u kin => ⟨fun hs => ?_, fun hn => ?_⟩⟩
          · rw [hf] at f2
            simp only [Bool.and_eq_true] at f2
            refine ⟨He.eqO_ok f2.2, sc1.par _ ?_⟩
            unfold xps
            rw [hf]
            simp
          · obtain ⟨f, hf⟩ := Option.isSome_iff_exists.mp hs
            have ex : xps z = [z.slf, z.q.par] := by unfold xps; rw [hf]
            have ep : xpats z.q = [⟨2, [], [.p 0, .p 1]⟩, ⟨1, [z.q.par], [.p 0, .k 0]⟩] := by unfold xpats; rw [hf]
            obtain ⟨d1, _, b1⟩ := PT ⟨2, [], [.p 0, .p 1]⟩ (by rw [ep]; simp)
            obtain ⟨d2, _, b2⟩ := PT ⟨1, [z.q.par], [.p 0, .k 0]⟩ (by rw [ep]; simp)
            rw [ex] at b1 b2
            exact ⟨b1 s [x, u] [] kin rfl rfl, b2 s [x] [u] kin rfl rfl⟩
          · have ex : xps z = [z.slf] := by unfold xps; rw [hn]
            have ep : xpats z.q = [⟨1, [], [.p 0]⟩] := by unfold xpats; rw [hn]
            obtain ⟨d1, _, b1⟩ := PT ⟨1, [], [.p 0]⟩ (by rw [ep]; simp)
            rw [ex] at b1
            exact b1 s [x] [] kin rfl rfl
        · cases ci
      | _ => cases ci
theorem boot_xk : ∀ y : Str, y = "ValueError" ∨ y = "IndexError" ∨ y = "LookupError" → bootBuiltins y = some (.type (Xk.ty y)) ∧ y ≠ "__name__" := by
  rintro y (rfl | rfl | rfl)
  · exact ⟨PyProof.Rows.Boot.«ValueError», by decide⟩
  · exact ⟨PyProof.Rows.Boot.«IndexError», by decide⟩
  · exact ⟨PyProof.Rows.Boot.«LookupError», by decide⟩
/-- what is told of an isinstance by its text -/
def xkS (xcs : List FnX) (k : Xk) : Bool := (k.own || (decide (k.y = "ValueError") || (decide (k.y = "IndexError") || decide (k.y = "LookupError")))) && k.all.all fun n => xcs.any fun z => decide (z.q.name = n)
theorem xcs_of {P : Program} {K : PySem.W.Frag} {h : Heap} {mg : Str → Option Value} {tab : List Fn} {fr : List Str} {con : List (Str × D)} {cls : List Cd} {stas : List (Str × Str)} {fa : List He.Fa} {fn : List FnF} {sups : List FnS} {xcs : List FnX} {xks : List Xk} {file : Str}
    (X : K.In h) (G : h.Ns mainGlobals mg) (o : SaysO ⟨fa, fn, con, tab, cls, stas, sups, xcs, xks, file⟩ K) (st : xcs.all xsB = true) (hp : ∀ z ∈ xcs, ∀ {k : Kx} {fo : FuncData}, FunV k.K z.d.name z.d.qual z.d.params z.d.body z.d.scope [] [] fo → ∀ p ∈ xpats z.q, PatOk k fo (xps z) p) (ks : xks.all (xkS xcs) = true)
    (hfile : ((P.main.file : Str) == file) = true) (htop : (P.main.scope.names.lookup ("super" : Str)).isSome = false) (hsup : mg "super" = none) : XcsOk P K mg (mkT K tab fr con cls stas (xcs.map FnX.q) xks) := by
  refine ⟨fun q hq => ?_, fun k hk => ?_⟩
  · obtain ⟨z, hz, rfl⟩ := List.mem_map.mp hq
    obtain ⟨b, v⟩ := o.xcs z hz
    exact xck_of X G b v (List.all_eq_true.mp st z hz) (hp z hz) hfile htop hsup
  · have b := o.xks k hk
    have s := List.all_eq_true.mp ks k hk
    unfold xkB at b
    unfold xkS at s
    simp only [Bool.and_eq_true, Bool.or_eq_true, List.all_eq_true, decide_eq_true_eq, List.any_eq_true] at b s
    refine ⟨fun ho => ?_, fun ho => ?_, fun n hn => ⟨?_, b.2 n hn⟩⟩
    · rw [ho] at b
      exact He.glo_ok X G b.1
    · rw [ho] at b s
      have hb : (He.Fa.free k.y).ok K = true := b.1
      have hs : k.y = "ValueError" ∨ k.y = "IndexError" ∨ k.y = "LookupError" := by
        rcases s.1 with z | z
        · cases z
        · exact z
      exact ⟨He.free_ok X G hb, boot_xk _ hs⟩
    · obtain ⟨z, hz, e⟩ := s.2 n hn
      exact ⟨z.q, List.mem_map.mpr ⟨z, hz, rfl⟩, e⟩
theorem xcs_nil {P : Program} {K : PySem.W.Frag} {mg : Str → Option Value} {tab : List Fn} {fr : List Str} {con : List (Str × D)} {cls : List Cd} {stas : List (Str × Str)} : XcsOk P K mg (mkT K tab fr con cls stas (([] : List FnX).map FnX.q) []) :=
  ⟨fun q hq => (by cases hq), fun k hk => (by cases hk)⟩
def Ly.left (L : Ly) : Ly := { L with cls := [], stas := [], sups := [], xcs := [], xks := [] }
def Ly.right (L : Ly) : Ly := { L with fa := [], fn := [], con := [] }
/-- the right part's tables stay: its classes look into the whole table -/
theorem obs_two {L : Ly} {K : PySem.W.Frag} (a : obsK L.left K = valP L.left) (b : obsK L.right K = valP L.right) : obsK L K = valP L := by
  have a1 : allB L.left K = true := congrArg Prod.fst a
  have b1 : allB L.right K = true := congrArg Prod.fst b
  have a2 : (L.fn.map fun q => fnV K (adr K q.loc)) ++ (([] : List FnS).map (fun q => fnVS K (adr K q.loc)) ++ ([] : List FnX).map fun q => fnVS K (adr K q.loc)) = (L.fn.map fun q => q.d.val) ++ ((([] : List FnS).map fun q => q.d.val) ++ ([] : List FnX).map fun q => q.d.val) := congrArg Prod.snd a
  have b2 : ([] : List FnF).map (fun q => fnV K (adr K q.loc)) ++ ((L.sups.map fun q => fnVS K (adr K q.loc)) ++ L.xcs.map fun q => fnVS K (adr K q.loc)) = ([] : List FnF).map (fun q => q.d.val) ++ ((L.sups.map fun q => q.d.val) ++ L.xcs.map fun q => q.d.val) := congrArg Prod.snd b
  simp only [List.map_nil, List.append_nil, List.nil_append] at a2 b2
  unfold allB at a1 b1
  simp only [Bool.and_eq_true] at a1 b1
  obtain ⟨x1, x2, x3, x4, _⟩ := a1
  obtain ⟨_, _, _, _, y5, y6, y7, y8, y9⟩ := b1
  have c : allB L K = true := by
    unfold allB
    simp only [Bool.and_eq_true]
    exact ⟨x1, x2, x3, x4, y5, y6, y7, y8, y9⟩
  show (allB L K, (L.fn.map fun q => fnV K (adr K q.loc)) ++ ((L.sups.map fun q => fnVS K (adr K q.loc)) ++ L.xcs.map fun q => fnVS K (adr K q.loc))) = (true, (L.fn.map fun q => q.d.val) ++ ((L.sups.map fun q => q.d.val) ++ L.xcs.map fun q => q.d.val))
  rw [c, a2, b2]
def Ly.lfa (L : Ly) : Ly := { L with fn := [], cls := [], stas := [], sups := [], xcs := [], xks := [] }
def Ly.ln1 (L : Ly) (k : Nat) : Ly := { L with fa := [], con := [], fn := L.fn.take k, cls := [], stas := [], sups := [], xcs := [], xks := [] }
def Ly.ln2 (L : Ly) (k : Nat) : Ly := { L with fa := [], con := [], fn := L.fn.drop k, cls := [], stas := [], sups := [], xcs := [], xks := [] }
theorem obs_left {L : Ly} {k : Nat} {K : PySem.W.Frag} (a : obsK L.lfa K = valP L.lfa) (b : obsK (L.ln1 k) K = valP (L.ln1 k)) (c : obsK (L.ln2 k) K = valP (L.ln2 k)) : obsK L.left K = valP L.left := by
  have a1 : allB L.lfa K = true := congrArg Prod.fst a
  have b1 : allB (L.ln1 k) K = true := congrArg Prod.fst b
  have c1 : allB (L.ln2 k) K = true := congrArg Prod.fst c
  have b2 : ((L.fn.take k).map fun q => fnV K (adr K q.loc)) ++ (([] : List FnS).map (fun q => fnVS K (adr K q.loc)) ++ ([] : List FnX).map fun q => fnVS K (adr K q.loc)) = ((L.fn.take k).map fun q => q.d.val) ++ ((([] : List FnS).map fun q => q.d.val) ++ ([] : List FnX).map fun q => q.d.val) := congrArg Prod.snd b
  have c2 : ((L.fn.drop k).map fun q => fnV K (adr K q.loc)) ++ (([] : List FnS).map (fun q => fnVS K (adr K q.loc)) ++ ([] : List FnX).map fun q => fnVS K (adr K q.loc)) = ((L.fn.drop k).map fun q => q.d.val) ++ ((([] : List FnS).map fun q => q.d.val) ++ ([] : List FnX).map fun q => q.d.val) := congrArg Prod.snd c
  simp only [List.map_nil, List.append_nil] at b2 c2
  unfold allB at a1 b1 c1
  simp only [Bool.and_eq_true] at a1 b1 c1
  obtain ⟨x1, _, x3, x4, x5, x6, x7⟩ := a1
  obtain ⟨_, y2, _⟩ := b1
  obtain ⟨_, z2, _⟩ := c1
  have f1 : L.fn.all (fun q => okV K q.d (adr K q.loc)) = true := by
    rw [← List.take_append_drop k L.fn, List.all_append, Bool.and_eq_true]
    exact ⟨y2, z2⟩
  have f2 : (L.fn.map fun q => fnV K (adr K q.loc)) = L.fn.map fun q => q.d.val := by
    have e : ∀ {β : Type} (f : FnF → β), L.fn.map f = (L.fn.take k).map f ++ (L.fn.drop k).map f := fun f => by rw [← List.map_append, List.take_append_drop]
    rw [e, e, b2, c2]
  have d : allB L.left K = true := by
    unfold allB
    simp only [Bool.and_eq_true]
    exact ⟨x1, f1, x3, x4, x5, x6, x7⟩
  show (allB L.left K, (L.fn.map fun q => fnV K (adr K q.loc)) ++ ((([] : List FnS).map fun q => fnVS K (adr K q.loc)) ++ ([] : List FnX).map fun q => fnVS K (adr K q.loc))) = (true, (L.fn.map fun q => q.d.val) ++ ((([] : List FnS).map fun q => q.d.val) ++ ([] : List FnX).map fun q => q.d.val))
  rw [d, f2]
  rfl
/-- one look at the state behind the top -/
def ObsE {α : Type} (r : PySem.W.OpenRow) (M : Nat) (w : World) (f : PySem.W.SharedT → α) (v : α) : Prop := ∀ os : OsState, (HandSHeadRun.endF (HandSHeadRun.stepQ (HandSHeadRun.denQ HandSHeadRun.tabQ) r.prog w) M r.prog w os).map f = some v
open HandSHeadRun PySem.W PySem.Calls PyProof.Rows in
theorem run_parts {r : PySem.W.OpenRow} {q : Program} {n M : Nat} {L : Ly} {loose : List PySem.Str} {w : World} (a : ObsE r M w (fun s => looksF r.prog (boot_heap w.params) s.abs) true)
    (b : ObsE r M w (fun s => seenQ q loose (importedModules r.prog.main.body) (fun s => xlAt q [] s && recOk r.toRowW.records s) s.abs) (openGood q loose))
    (c : ObsE r M w (fun s => obsP n L.left (getT s)) (valP L.left)) (d : ObsE r M w (fun s => obsP n L.right (getT s)) (valP L.right)) :
    RunEq r q (hookP n L) (fun s => obsP n L (getT s)) M loose w := by
  intro os
  have a := a os
  have b := b os
  have c := c os
  have d := d os
  cases e : endF (stepQ (denQ tabQ) r.prog w) M r.prog w os with
  | none => rw [e] at a; cases a
  | some s =>
    rw [e] at a b c d
    simp only [Option.map_some] at a b c d ⊢
    have a := Option.some.inj a
    have b := Option.some.inj b
    have c := Option.some.inj c
    have d := Option.some.inj d
    have z : obsP n L (getT s) = valP L := obs_two c d
    refine congrArg some ?_
    exact Prod.ext a (Prod.ext b z)
open HandSHeadRun in
theorem left_parts {r : PySem.W.OpenRow} {n M k : Nat} {L : Ly} {w : World} (a : ObsE r M w (fun s => obsP n L.lfa (getT s)) (valP L.lfa)) (b : ObsE r M w (fun s => obsP n (L.ln1 k) (getT s)) (valP (L.ln1 k)))
    (c : ObsE r M w (fun s => obsP n (L.ln2 k) (getT s)) (valP (L.ln2 k))) : ObsE r M w (fun s => obsP n L.left (getT s)) (valP L.left) := by
  intro os
  have a := a os
  have b := b os
  have c := c os
  cases e : endF (stepQ (denQ tabQ) r.prog w) M r.prog w os with
  | none => rw [e] at a; cases a
  | some s =>
    rw [e] at a b c
    simp only [Option.map_some] at a b c ⊢
    exact congrArg some (obs_left (Option.some.inj a) (Option.some.inj b) (Option.some.inj c))
open HandSHeadRun in
theorem run_two {r : PySem.W.OpenRow} {q : Program} {n M : Nat} {L : Ly} {loose : List PySem.Str} {w : World} (a : RunEq r q (hookP n L.left) (fun s => obsP n L.left (getT s)) M loose w) (b : RunEq r q (hookP n L.right) (fun s => obsP n L.right (getT s)) M loose w) :
    RunEq r q (hookP n L) (fun s => obsP n L (getT s)) M loose w := by
  intro os
  have a := a os
  have b := b os
  cases e : endF (stepQ (denQ tabQ) r.prog w) M r.prog w os with
  | none => rw [e] at a; cases a
  | some s =>
    rw [e] at a b
    simp only [Option.map_some] at a b ⊢
    have a := Option.some.inj a
    have b := Option.some.inj b
    have a1 := congrArg Prod.fst a
    have a2 := congrArg (fun x => x.2.1) a
    have a3 : obsP n L.left (getT s) = valP L.left := congrArg (fun x => x.2.2) a
    have b3 : obsP n L.right (getT s) = valP L.right := congrArg (fun x => x.2.2) b
    have c : obsP n L (getT s) = valP L := obs_two a3 b3
    refine congrArg some ?_
    refine Prod.ext a1 (Prod.ext a2 c)
end Pc

set_option Elab.async false
set_option linter.all false
set_option maxRecDepth 100000
set_option maxHeartbeats 0
namespace Gk05
open PySem L2 Pc
abbrev prog : Program := PySem.Challenge.pw_partloops_k05_errors_told
def top (i : Nat) : Stmt := prog.main.body.getD i (.Pass ⟨0, 0, 0, 0⟩)
def mth (i j : Nat) : Stmt := match top i with
  | .ClassDef _ _ _ b _ _ _ _ _ _ _ => b.getD j (.Pass ⟨0, 0, 0, 0⟩)
  | _ => .Pass ⟨0, 0, 0, 0⟩
abbrev x_InvalidNumber : Xd := ⟨"InvalidNumber", some "given", "given", .v⟩
abbrev x_InvalidPairs : Xd := ⟨"InvalidPairs", some "at", "at", .v⟩
abbrev x_InvalidPoly : Xd := ⟨"InvalidPoly", some "at", "at", .v⟩
abbrev x_InvalidQuotient : Xd := ⟨"InvalidQuotient", none, "", .v⟩
abbrev x_InvalidSources : Xd := ⟨"InvalidSources", some "given", "given", .v⟩
abbrev x_InvalidCondition : Xd := ⟨"InvalidCondition", some "given", "given", .v⟩
abbrev x_InvalidWeight : Xd := ⟨"InvalidWeight", some "at", "at", .v⟩
abbrev x_InvalidShare : Xd := ⟨"InvalidShare", some "given", "given", .v⟩
abbrev x_InvalidExpression : Xd := ⟨"InvalidExpression", some "given", "given", .v⟩
abbrev x_InvalidText : Xd := ⟨"InvalidText", none, "", .v⟩
abbrev x_InvalidName : Xd := ⟨"InvalidName", some "name", "name", .v⟩
abbrev x_DuplicateName : Xd := ⟨"DuplicateName", some "name", "name", .v⟩
abbrev x_Full : Xd := ⟨"Full", some "limit", "limit", .v⟩
abbrev x_InUse : Xd := ⟨"InUse", some "user", "user", .v⟩
abbrev x_InvalidDeed : Xd := ⟨"InvalidDeed", some "at", "at", .v⟩
abbrev x_InvalidLimit : Xd := ⟨"InvalidLimit", some "given", "given", .v⟩
abbrev x_InvalidPage : Xd := ⟨"InvalidPage", some "line", "line", .v⟩
abbrev x_TooDeep : Xd := ⟨"TooDeep", some "most", "most", .v⟩
abbrev x_TooMany : Xd := ⟨"TooMany", some "most", "most", .v⟩
abbrev x_TooSteep : Xd := ⟨"TooSteep", some "most", "most", .v⟩
abbrev x_NoInverse : Xd := ⟨"NoInverse", none, "", .v⟩
abbrev x_NotWhole : Xd := ⟨"NotWhole", none, "", .v⟩
abbrev x_UnknownName : Xd := ⟨"UnknownName", some "name", "name", .l⟩
abbrev x_NothingLeft : Xd := ⟨"NothingLeft", none, "", .i⟩
abbrev xall : List Xd := [x_InvalidNumber, x_InvalidPairs, x_InvalidPoly, x_InvalidQuotient, x_InvalidSources, x_InvalidCondition, x_InvalidWeight, x_InvalidShare, x_InvalidExpression, x_InvalidText, x_InvalidName, x_DuplicateName, x_Full, x_InUse, x_InvalidDeed, x_InvalidLimit, x_InvalidPage, x_TooDeep, x_TooMany, x_TooSteep, x_NoInverse, x_NotWhole, x_UnknownName, x_NothingLeft]
abbrev xnames : List Str := ["InvalidNumber", "InvalidPairs", "InvalidPoly", "InvalidQuotient", "InvalidSources", "InvalidCondition", "InvalidWeight", "InvalidShare", "InvalidExpression", "InvalidText", "InvalidName", "DuplicateName", "Full", "InUse", "InvalidDeed", "InvalidLimit", "InvalidPage", "TooDeep", "TooMany", "TooSteep", "NoInverse", "NotWhole", "UnknownName", "NothingLeft"]
abbrev k_NothingLeft : Xk := ⟨"NothingLeft", true, xnames, ["NothingLeft"]⟩
abbrev k_NotWhole : Xk := ⟨"NotWhole", true, xnames, ["NotWhole"]⟩
abbrev k_NoInverse : Xk := ⟨"NoInverse", true, xnames, ["NoInverse"]⟩
abbrev k_InvalidText : Xk := ⟨"InvalidText", true, xnames, ["InvalidText"]⟩
abbrev k_InvalidQuotient : Xk := ⟨"InvalidQuotient", true, xnames, ["InvalidQuotient"]⟩
abbrev k_UnknownName : Xk := ⟨"UnknownName", true, xnames, ["UnknownName"]⟩
abbrev k_TooSteep : Xk := ⟨"TooSteep", true, xnames, ["TooSteep"]⟩
abbrev k_TooMany : Xk := ⟨"TooMany", true, xnames, ["TooMany"]⟩
abbrev k_TooDeep : Xk := ⟨"TooDeep", true, xnames, ["TooDeep"]⟩
abbrev k_InvalidPage : Xk := ⟨"InvalidPage", true, xnames, ["InvalidPage"]⟩
abbrev k_InvalidLimit : Xk := ⟨"InvalidLimit", true, xnames, ["InvalidLimit"]⟩
abbrev k_InvalidDeed : Xk := ⟨"InvalidDeed", true, xnames, ["InvalidDeed"]⟩
abbrev k_InUse : Xk := ⟨"InUse", true, xnames, ["InUse"]⟩
abbrev k_Full : Xk := ⟨"Full", true, xnames, ["Full"]⟩
abbrev k_DuplicateName : Xk := ⟨"DuplicateName", true, xnames, ["DuplicateName"]⟩
abbrev k_InvalidName : Xk := ⟨"InvalidName", true, xnames, ["InvalidName"]⟩
abbrev k_InvalidExpression : Xk := ⟨"InvalidExpression", true, xnames, ["InvalidExpression"]⟩
abbrev k_InvalidShare : Xk := ⟨"InvalidShare", true, xnames, ["InvalidShare"]⟩
abbrev k_InvalidWeight : Xk := ⟨"InvalidWeight", true, xnames, ["InvalidWeight"]⟩
abbrev k_InvalidCondition : Xk := ⟨"InvalidCondition", true, xnames, ["InvalidCondition"]⟩
abbrev k_InvalidSources : Xk := ⟨"InvalidSources", true, xnames, ["InvalidSources"]⟩
abbrev k_InvalidPoly : Xk := ⟨"InvalidPoly", true, xnames, ["InvalidPoly"]⟩
abbrev k_InvalidPairs : Xk := ⟨"InvalidPairs", true, xnames, ["InvalidPairs"]⟩
abbrev k_InvalidNumber : Xk := ⟨"InvalidNumber", true, xnames, ["InvalidNumber"]⟩
abbrev k_LookupError : Xk := ⟨"LookupError", false, xnames, ["UnknownName", "NothingLeft"]⟩
abbrev k_IndexError : Xk := ⟨"IndexError", false, xnames, ["NothingLeft"]⟩
abbrev k_Missing : Xk := ⟨"Missing", true, xnames, ["UnknownName"]⟩
abbrev k_ValueError : Xk := ⟨"ValueError", false, xnames, ["InvalidNumber", "InvalidPairs", "InvalidPoly", "InvalidQuotient", "InvalidSources", "InvalidCondition", "InvalidWeight", "InvalidShare", "InvalidExpression", "InvalidText", "InvalidName", "DuplicateName", "Full", "InUse", "InvalidDeed", "InvalidLimit", "InvalidPage", "TooDeep", "TooMany", "TooSteep", "NoInverse", "NotWhole"]⟩
abbrev k_LoopError : Xk := ⟨"LoopError", true, xnames, ["InvalidNumber", "InvalidPairs", "InvalidPoly", "InvalidQuotient", "InvalidSources", "InvalidCondition", "InvalidWeight", "InvalidShare", "InvalidExpression", "InvalidText", "InvalidName", "DuplicateName", "Full", "InUse", "InvalidDeed", "InvalidLimit", "InvalidPage", "TooDeep", "TooMany", "TooSteep", "NoInverse", "NotWhole"]⟩
def dx_InvalidNumber : He.DefD := ⟨("__init__", none), "__init__", "InvalidNumber.__init__", defArgs (mth 3 0), defBody (mth 3 0), defScope (mth 3 0), [], []⟩
def dx_InvalidPairs : He.DefD := ⟨("__init__", none), "__init__", "InvalidPairs.__init__", defArgs (mth 4 0), defBody (mth 4 0), defScope (mth 4 0), [], []⟩
def dx_InvalidPoly : He.DefD := ⟨("__init__", none), "__init__", "InvalidPoly.__init__", defArgs (mth 5 0), defBody (mth 5 0), defScope (mth 5 0), [], []⟩
def dx_InvalidQuotient : He.DefD := ⟨("__init__", none), "__init__", "InvalidQuotient.__init__", defArgs (mth 6 0), defBody (mth 6 0), defScope (mth 6 0), [], []⟩
def dx_InvalidSources : He.DefD := ⟨("__init__", none), "__init__", "InvalidSources.__init__", defArgs (mth 7 0), defBody (mth 7 0), defScope (mth 7 0), [], []⟩
def dx_InvalidCondition : He.DefD := ⟨("__init__", none), "__init__", "InvalidCondition.__init__", defArgs (mth 8 0), defBody (mth 8 0), defScope (mth 8 0), [], []⟩
def dx_InvalidWeight : He.DefD := ⟨("__init__", none), "__init__", "InvalidWeight.__init__", defArgs (mth 9 0), defBody (mth 9 0), defScope (mth 9 0), [], []⟩
def dx_InvalidShare : He.DefD := ⟨("__init__", none), "__init__", "InvalidShare.__init__", defArgs (mth 10 0), defBody (mth 10 0), defScope (mth 10 0), [], []⟩
def dx_InvalidExpression : He.DefD := ⟨("__init__", none), "__init__", "InvalidExpression.__init__", defArgs (mth 11 0), defBody (mth 11 0), defScope (mth 11 0), [], []⟩
def dx_InvalidText : He.DefD := ⟨("__init__", none), "__init__", "InvalidText.__init__", defArgs (mth 12 0), defBody (mth 12 0), defScope (mth 12 0), [], []⟩
def dx_InvalidName : He.DefD := ⟨("__init__", none), "__init__", "InvalidName.__init__", defArgs (mth 13 0), defBody (mth 13 0), defScope (mth 13 0), [], []⟩
def dx_DuplicateName : He.DefD := ⟨("__init__", none), "__init__", "DuplicateName.__init__", defArgs (mth 14 0), defBody (mth 14 0), defScope (mth 14 0), [], []⟩
def dx_Full : He.DefD := ⟨("__init__", none), "__init__", "Full.__init__", defArgs (mth 15 0), defBody (mth 15 0), defScope (mth 15 0), [], []⟩
def dx_InUse : He.DefD := ⟨("__init__", none), "__init__", "InUse.__init__", defArgs (mth 16 0), defBody (mth 16 0), defScope (mth 16 0), [], []⟩
def dx_InvalidDeed : He.DefD := ⟨("__init__", none), "__init__", "InvalidDeed.__init__", defArgs (mth 17 0), defBody (mth 17 0), defScope (mth 17 0), [], []⟩
def dx_InvalidLimit : He.DefD := ⟨("__init__", none), "__init__", "InvalidLimit.__init__", defArgs (mth 18 0), defBody (mth 18 0), defScope (mth 18 0), [], []⟩
def dx_InvalidPage : He.DefD := ⟨("__init__", none), "__init__", "InvalidPage.__init__", defArgs (mth 19 0), defBody (mth 19 0), defScope (mth 19 0), [], []⟩
def dx_TooDeep : He.DefD := ⟨("__init__", none), "__init__", "TooDeep.__init__", defArgs (mth 20 0), defBody (mth 20 0), defScope (mth 20 0), [], []⟩
def dx_TooMany : He.DefD := ⟨("__init__", none), "__init__", "TooMany.__init__", defArgs (mth 21 0), defBody (mth 21 0), defScope (mth 21 0), [], []⟩
def dx_TooSteep : He.DefD := ⟨("__init__", none), "__init__", "TooSteep.__init__", defArgs (mth 22 0), defBody (mth 22 0), defScope (mth 22 0), [], []⟩
def dx_NoInverse : He.DefD := ⟨("__init__", none), "__init__", "NoInverse.__init__", defArgs (mth 23 0), defBody (mth 23 0), defScope (mth 23 0), [], []⟩
def dx_NotWhole : He.DefD := ⟨("__init__", none), "__init__", "NotWhole.__init__", defArgs (mth 24 0), defBody (mth 24 0), defScope (mth 24 0), [], []⟩
def dx_UnknownName : He.DefD := ⟨("__init__", none), "__init__", "UnknownName.__init__", defArgs (mth 25 0), defBody (mth 25 0), defScope (mth 25 0), [], []⟩
def dx_NothingLeft : He.DefD := ⟨("__init__", none), "__init__", "NothingLeft.__init__", defArgs (mth 26 0), defBody (mth 26 0), defScope (mth 26 0), [], []⟩
def xcs : List FnX := [⟨x_InvalidNumber, dx_InvalidNumber, "self"⟩, ⟨x_InvalidPairs, dx_InvalidPairs, "self"⟩, ⟨x_InvalidPoly, dx_InvalidPoly, "self"⟩, ⟨x_InvalidQuotient, dx_InvalidQuotient, "self"⟩, ⟨x_InvalidSources, dx_InvalidSources, "self"⟩, ⟨x_InvalidCondition, dx_InvalidCondition, "self"⟩, ⟨x_InvalidWeight, dx_InvalidWeight, "self"⟩, ⟨x_InvalidShare, dx_InvalidShare, "self"⟩, ⟨x_InvalidExpression, dx_InvalidExpression, "self"⟩, ⟨x_InvalidText, dx_InvalidText, "self"⟩, ⟨x_InvalidName, dx_InvalidName, "self"⟩, ⟨x_DuplicateName, dx_DuplicateName, "self"⟩, ⟨x_Full, dx_Full, "self"⟩, ⟨x_InUse, dx_InUse, "self"⟩, ⟨x_InvalidDeed, dx_InvalidDeed, "self"⟩, ⟨x_InvalidLimit, dx_InvalidLimit, "self"⟩, ⟨x_InvalidPage, dx_InvalidPage, "self"⟩, ⟨x_TooDeep, dx_TooDeep, "self"⟩, ⟨x_TooMany, dx_TooMany, "self"⟩, ⟨x_TooSteep, dx_TooSteep, "self"⟩, ⟨x_NoInverse, dx_NoInverse, "self"⟩, ⟨x_NotWhole, dx_NotWhole, "self"⟩, ⟨x_UnknownName, dx_UnknownName, "self"⟩, ⟨x_NothingLeft, dx_NothingLeft, "self"⟩]
def xks : List Xk := [k_NothingLeft, k_NotWhole, k_NoInverse, k_InvalidText, k_InvalidQuotient, k_UnknownName, k_TooSteep, k_TooMany, k_TooDeep, k_InvalidPage, k_InvalidLimit, k_InvalidDeed, k_InUse, k_Full, k_DuplicateName, k_InvalidName, k_InvalidExpression, k_InvalidShare, k_InvalidWeight, k_InvalidCondition, k_InvalidSources, k_InvalidPoly, k_InvalidPairs, k_InvalidNumber, k_LookupError, k_IndexError, k_Missing, k_ValueError, k_LoopError]
def f__law_bag : Fn := ⟨.glo "_law_bag", 1, ["_law_script", "_law_mark", "_law_cell"], [⟨1, [], [.p 0]⟩],
    (.cons (.set 1 (.k (.int 10049)))
    (.cons (.for_ (.nm 2) (.sq (.fz (.sli (.v 0) .no (.so (.k (.int 63))))))
    (.cons (.set 1 (.op .mod (.bi .int (.cons (.op .add (.op .add (.op .mul (.v 1) (.k (.int 52567))) (.op .mod (.bi .int (.cons (.v 2) .nil)) (.k (.int 2147483549)))) (.k (.int 29))) .nil)) (.k (.int 2147483579))))
    .nil))
    (.cons (.ret (.mk (.disp (.cons (.fz (.cpy (.fz (.sli (.v 0) .no (.so (.k (.int 63))))))) (.cons (.k (.int 0)) (.cons (.k (.int 0)) (.cons (.v 1) (.cons (.k (.int 0)) .nil))))))))
    .nil)))⟩
def f__law_draw : Fn := ⟨.glo "_law_draw", 2, ["_law_bag_here", "_law_most", "_law_cell", "_law_digit", "_law_base", "_law_late"], [⟨2, [], [.p 0, .p 1]⟩],
    (.cons (.ife (.bop true (.cons (.cmp .lt (.sub (.b 0) (.k (.int 2))) (.v 1)) (.cons (.cmp .lt (.sub (.b 0) (.k (.int 1))) (.bi .len (.cons (.sub (.b 0) (.k (.int 0))) .nil))) .nil)))
    (.cons (.set 2 (.sub (.sub (.b 0) (.k (.int 0))) (.sub (.b 0) (.k (.int 1)))))
    (.cons (.sset (.b 0) (.k (.int 1)) (.op .add (.sub (.b 0) (.k (.int 1))) (.k (.int 1))))
    (.cons (.sset (.b 0) (.k (.int 3)) (.op .mod (.bi .int (.cons (.op .add (.op .add (.op .mul (.sub (.b 0) (.k (.int 3))) (.k (.int 41017))) (.op .mod (.bi .int (.cons (.v 2) .nil)) (.k (.int 2147483563)))) (.k (.int 37))) .nil)) (.k (.int 2147483629))))
    (.cons (.sset (.b 0) (.k (.int 2)) (.ite (.cmp .ge (.v 2) (.op .pow (.k (.int 10)) (.k (.int 18)))) (.v 2) (.k (.int 0))))
    .nil))))
    .nil)
    (.cons (.ife (.cmp .ge (.sub (.b 0) (.k (.int 2))) (.v 1))
    (.cons (.set 3 (.op .mod (.bi .int (.cons (.sub (.b 0) (.k (.int 2))) .nil)) (.v 1)))
    (.cons (.sset (.b 0) (.k (.int 2)) (.op .fdiv (.sub (.b 0) (.k (.int 2))) (.v 1)))
    (.cons (.ret (.v 3))
    .nil)))
    .nil)
    (.cons (.sset (.b 0) (.k (.int 4)) (.op .add (.sub (.b 0) (.k (.int 4))) (.k (.int 1))))
    (.cons (.set 4 (.op .mod (.bi .int (.cons (.op .add (.sub (.b 0) (.k (.int 3))) (.op .mul (.sub (.b 0) (.k (.int 4))) (.k (.int 7907)))) .nil)) (.k (.int 2147483587))))
    (.cons (.set 5 (.op .mul (.op .mod (.bi .int (.cons (.op .mul (.v 4) (.v 4)) .nil)) (.k (.int 2147483549))) (.op .add (.op .mod (.bi .int (.cons (.v 4) .nil)) (.k (.int 40009))) (.k (.int 11)))))
    (.cons (.sset (.b 0) (.k (.int 3)) (.op .mod (.bi .int (.cons (.op .add (.op .add (.v 5) (.op .mul (.k (.int 29009)) (.v 4))) (.k (.int 617))) .nil)) (.k (.int 2147483629))))
    (.cons (.ret (.op .mod (.bi .int (.cons (.op .add (.op .fdiv (.sub (.b 0) (.k (.int 3))) (.k (.int 73))) (.op .mul (.op .mod (.bi .int (.cons (.sub (.b 0) (.k (.int 3))) .nil)) (.k (.int 9007))) (.k (.int 53)))) .nil)) (.v 1)))
    .nil)))))))⟩
def f__law_any : Fn := ⟨.glo "_law_any", 2, ["_law_bag_here", "_law_some"], [⟨2, [], [.p 0, .p 1]⟩],
    (.cons (.ret (.sub (.v 1) (.call 1 0 (.cons (.v 0) (.cons (.bi .len (.cons (.v 1) .nil)) .nil)) .nil)))
    .nil)⟩
def f__law_same : Fn := ⟨.glo "_law_same", 2, ["_law_found", "_law_due"], [⟨2, [], [.p 0, .p 1]⟩],
    (.cons (.ret (.cmp .eq (.bi .repr (.cons (.v 0) .nil)) (.bi .repr (.cons (.v 1) .nil))))
    .nil)⟩
def f__law_odd : Fn := ⟨.glo "_law_odd", 2, ["_law_bag_here", "_law_more"], [⟨2, [], [.p 0, .p 1]⟩],
    (.cons (.ret (.call 2 0 (.cons (.v 0) (.cons (.fz (.cat (.fz (.disp (.cons (.k .non) (.cons (.k (.bl true)) (.cons (.k (.bl false)) (.cons (.k (.str "")) (.cons (.k (.str "1")) (.cons (.k (.str "A b")) (.cons (.tup .nil) (.cons (.fz (.disp .nil)) (.cons (.fz (.disp (.cons (.k (.int 1)) .nil))) (.cons (.tup (.cons (.k (.int 2)) (.cons (.k (.str "a")) .nil))) (.cons (.tup (.cons (.k (.str "co")) .nil)) .nil))))))))))))) (.v 1))) .nil)) .nil))
    .nil)⟩
def f__law_field : Fn := ⟨.glo "_law_field", 1, ["_law_e"], [⟨1, [], [.p 0]⟩],
    (.cons (.ife (.cmp .inn (.xfld (.v 0) "code" xall) (.fz (.disp (.cons (.k (.str "InvalidPairs")) (.cons (.k (.str "InvalidPoly")) (.cons (.k (.str "InvalidWeight")) (.cons (.k (.str "InvalidDeed")) .nil)))))))
    (.cons (.ret (.xfld (.v 0) "at" xall))
    .nil)
    .nil)
    (.cons (.ife (.cmp .inn (.xfld (.v 0) "code" xall) (.fz (.disp (.cons (.k (.str "InvalidName")) (.cons (.k (.str "DuplicateName")) (.cons (.k (.str "UnknownName")) .nil))))))
    (.cons (.ret (.xfld (.v 0) "name" xall))
    .nil)
    .nil)
    (.cons (.ife (.cmp .inn (.xfld (.v 0) "code" xall) (.fz (.disp (.cons (.k (.str "TooDeep")) (.cons (.k (.str "TooMany")) (.cons (.k (.str "TooSteep")) .nil))))))
    (.cons (.ret (.xfld (.v 0) "most" xall))
    .nil)
    .nil)
    (.cons (.ife (.cmp .inn (.xfld (.v 0) "code" xall) (.fz (.disp (.cons (.k (.str "InvalidQuotient")) (.cons (.k (.str "InvalidText")) (.cons (.k (.str "NoInverse")) (.cons (.k (.str "NotWhole")) (.cons (.k (.str "NothingLeft")) .nil))))))))
    (.cons (.ret (.k .non))
    .nil)
    .nil)
    (.cons (.ife (.cmp .eq (.xfld (.v 0) "code" xall) (.k (.str "Full")))
    (.cons (.ret (.xfld (.v 0) "limit" xall))
    .nil)
    .nil)
    (.cons (.ife (.cmp .eq (.xfld (.v 0) "code" xall) (.k (.str "InUse")))
    (.cons (.ret (.xfld (.v 0) "user" xall))
    .nil)
    .nil)
    (.cons (.ret (.ite (.cmp .eq (.xfld (.v 0) "code" xall) (.k (.str "InvalidPage"))) (.xfld (.v 0) "line" xall) (.xfld (.v 0) "given" xall)))
    .nil)))))))⟩
def f__law_made_errors : Fn := ⟨.glo "_law_made_errors", 1, ["_law_x"], [⟨1, [], [.p 0]⟩],
    (.cons (.ret (.fz (.disp (.cons (.xmk x_InvalidNumber false (.cons (.v 0) .nil) .nil) (.cons (.xmk x_InvalidPairs false (.cons (.v 0) .nil) .nil) (.cons (.xmk x_InvalidPoly false (.cons (.v 0) .nil) .nil) (.cons (.xmk x_InvalidSources false (.cons (.v 0) .nil) .nil) (.cons (.xmk x_InvalidCondition false (.cons (.v 0) .nil) .nil) (.cons (.xmk x_InvalidWeight false (.cons (.v 0) .nil) .nil) (.cons (.xmk x_InvalidShare false (.cons (.v 0) .nil) .nil) (.cons (.xmk x_InvalidExpression false (.cons (.v 0) .nil) .nil) (.cons (.xmk x_InvalidName false (.cons (.v 0) .nil) .nil) (.cons (.xmk x_DuplicateName false (.cons (.v 0) .nil) .nil) (.cons (.xmk x_Full false (.cons (.v 0) .nil) .nil) (.cons (.xmk x_InUse false (.cons (.v 0) .nil) .nil) (.cons (.xmk x_InvalidDeed false (.cons (.v 0) .nil) .nil) (.cons (.xmk x_InvalidLimit false (.cons (.v 0) .nil) .nil) (.cons (.xmk x_InvalidPage false (.cons (.v 0) .nil) .nil) (.cons (.xmk x_TooDeep false (.cons (.v 0) .nil) .nil) (.cons (.xmk x_TooMany false (.cons (.v 0) .nil) .nil) (.cons (.xmk x_TooSteep false (.cons (.v 0) .nil) .nil) (.cons (.xmk x_UnknownName false (.cons (.v 0) .nil) .nil) .nil))))))))))))))))))))))
    .nil)⟩
def f__law_named_errors : Fn := ⟨.glo "_law_named_errors", 1, ["_law_x"], [⟨1, [], [.p 0]⟩],
    (.cons (.ret (.fz (.disp (.cons (.xmk x_InvalidNumber true .nil (.cons (.v 0) .nil)) (.cons (.xmk x_InvalidPairs true .nil (.cons (.v 0) .nil)) (.cons (.xmk x_InvalidPoly true .nil (.cons (.v 0) .nil)) (.cons (.xmk x_InvalidSources true .nil (.cons (.v 0) .nil)) (.cons (.xmk x_InvalidCondition true .nil (.cons (.v 0) .nil)) (.cons (.xmk x_InvalidWeight true .nil (.cons (.v 0) .nil)) (.cons (.xmk x_InvalidShare true .nil (.cons (.v 0) .nil)) (.cons (.xmk x_InvalidExpression true .nil (.cons (.v 0) .nil)) (.cons (.xmk x_InvalidName true .nil (.cons (.v 0) .nil)) (.cons (.xmk x_DuplicateName true .nil (.cons (.v 0) .nil)) (.cons (.xmk x_Full true .nil (.cons (.v 0) .nil)) (.cons (.xmk x_InUse true .nil (.cons (.v 0) .nil)) (.cons (.xmk x_InvalidDeed true .nil (.cons (.v 0) .nil)) (.cons (.xmk x_InvalidLimit true .nil (.cons (.v 0) .nil)) (.cons (.xmk x_InvalidPage true .nil (.cons (.v 0) .nil)) (.cons (.xmk x_TooDeep true .nil (.cons (.v 0) .nil)) (.cons (.xmk x_TooMany true .nil (.cons (.v 0) .nil)) (.cons (.xmk x_TooSteep true .nil (.cons (.v 0) .nil)) (.cons (.xmk x_UnknownName true .nil (.cons (.v 0) .nil)) .nil))))))))))))))))))))))
    .nil)⟩
def f__law_words : Fn := ⟨.glo "_law_words", 0, [], [⟨0, [], []⟩],
    (.cons (.ret (.fz (.disp (.cons (.k (.str "InvalidNumber")) (.cons (.k (.str "InvalidPairs")) (.cons (.k (.str "InvalidPoly")) (.cons (.k (.str "InvalidSources")) (.cons (.k (.str "InvalidCondition")) (.cons (.k (.str "InvalidWeight")) (.cons (.k (.str "InvalidShare")) (.cons (.k (.str "InvalidExpression")) (.cons (.k (.str "InvalidName")) (.cons (.k (.str "DuplicateName")) (.cons (.k (.str "Full")) (.cons (.k (.str "InUse")) (.cons (.k (.str "InvalidDeed")) (.cons (.k (.str "InvalidLimit")) (.cons (.k (.str "InvalidPage")) (.cons (.k (.str "TooDeep")) (.cons (.k (.str "TooMany")) (.cons (.k (.str "TooSteep")) (.cons (.k (.str "UnknownName")) .nil))))))))))))))))))))))
    .nil)⟩
def f__law_kinds : Fn := ⟨.glo "_law_kinds", 1, ["_law_e", "_law_found"], [⟨1, [], [.p 0]⟩],
    (.cons (.own 1 (.disp (.cons (.xis (.v 0) k_InvalidNumber) (.cons (.xis (.v 0) k_InvalidPairs) (.cons (.xis (.v 0) k_InvalidPoly) (.cons (.xis (.v 0) k_InvalidSources) (.cons (.xis (.v 0) k_InvalidCondition) (.cons (.xis (.v 0) k_InvalidWeight) (.cons (.xis (.v 0) k_InvalidShare) (.cons (.xis (.v 0) k_InvalidExpression) (.cons (.xis (.v 0) k_InvalidName) (.cons (.xis (.v 0) k_DuplicateName) (.cons (.xis (.v 0) k_Full) (.cons (.xis (.v 0) k_InUse) (.cons (.xis (.v 0) k_InvalidDeed) (.cons (.xis (.v 0) k_InvalidLimit) (.cons (.xis (.v 0) k_InvalidPage) (.cons (.xis (.v 0) k_TooDeep) (.cons (.xis (.v 0) k_TooMany) (.cons (.xis (.v 0) k_TooSteep) (.cons (.xis (.v 0) k_UnknownName) .nil)))))))))))))))))))))
    (.cons (.ret (.fz (.cat (.v 1) (.fz (.disp (.cons (.xis (.v 0) k_InvalidQuotient) (.cons (.xis (.v 0) k_InvalidText) (.cons (.xis (.v 0) k_NoInverse) (.cons (.xis (.v 0) k_NotWhole) (.cons (.xis (.v 0) k_NothingLeft) .nil))))))))))
    .nil))⟩
def f_law : Fn := ⟨.glo "law", 1, ["_law_script", "_law_bag_here", "_law_x", "_law_bare", "_law_rows", "_law_named", "_law_every", "_law_whole", "_law_at", "_law_e", "_law_late", "_law_lost", "_law_told", "_law_spot"], [⟨1, [], [.p 0]⟩],
    (.cons (.set 1 (.call 0 0 (.cons (.v 0) .nil) .nil))
    (.cons (.set 2 (.call 4 0 (.cons (.v 1) (.cons (.fz (.disp (.cons (.k (.int 3)) (.cons (.neg (.k (.int 7))) (.cons (.op .pow (.k (.int 10)) (.k (.int 20))) .nil))))) .nil)) .nil))
    (.cons (.own 3 (.disp (.cons (.xmk x_InvalidQuotient false .nil .nil) (.cons (.xmk x_InvalidText false .nil .nil) (.cons (.xmk x_NoInverse false .nil .nil) (.cons (.xmk x_NotWhole false .nil .nil) (.cons (.xmk x_NothingLeft false .nil .nil) .nil)))))))
    (.cons (.par [(4, .ex (.call 6 0 (.cons (.v 2) .nil) .nil)), (5, .ex (.call 7 0 (.cons (.v 2) .nil) .nil))])
    (.cons (.own 6 (.cat (.call 8 0 .nil .nil) (.fz (.disp (.cons (.k (.str "InvalidQuotient")) (.cons (.k (.str "InvalidText")) (.cons (.k (.str "NoInverse")) (.cons (.k (.str "NotWhole")) (.cons (.k (.str "NothingLeft")) .nil)))))))))
    (.cons (.ife (.bop false (.cons (.not (.e (.call 3 0 (.cons (.fz (.lc (.nm 9) (.sq (.fz (.cat (.v 4) (.v 3)))) .nil (.xfld (.v 9) "code" xall) [9])) (.cons (.v 6) .nil)) .nil))) (.cons (.not (.e (.call 3 0 (.cons (.fz (.lc (.nm 9) (.sq (.v 5)) .nil (.xfld (.v 9) "code" xall) [9])) (.cons (.call 8 0 .nil .nil) .nil)) .nil))) .nil)))
    (.cons (.ret (.k (.bl false)))
    .nil)
    .nil)
    (.cons (.ife (.not (.e (.call 3 0 (.cons (.fz (.lc (.nm 9) (.sq (.fz (.cat (.v 4) (.v 5)))) .nil (.call 5 0 (.cons (.v 9) .nil) .nil) [9])) (.cons (.fz (.rep (.fz (.disp (.cons (.v 2) .nil))) (.k (.int 38)))) .nil)) .nil)))
    (.cons (.ret (.k (.bl false)))
    .nil)
    .nil)
    (.cons (.own 7 (.cat (.v 4) (.v 3)))
    (.cons (.for_ (.nm 8) (.rg1 (.bi .len (.cons (.v 7) .nil)))
    (.cons (.set 9 (.sub (.v 7) (.v 8)))
    (.cons (.ife (.cmp .ne (.call 9 0 (.cons (.v 9) .nil) .nil) (.fz (.lc (.nm 13) (.rg1 (.k (.int 24))) .nil (.cmp .eq (.v 13) (.v 8)) [13])))
    (.cons (.ret (.k (.bl false)))
    .nil)
    .nil)
    (.cons (.par [(10, .ex (.cmp .eq (.xfld (.v 9) "code" xall) (.k (.str "NothingLeft")))), (11, .ex (.cmp .eq (.xfld (.v 9) "code" xall) (.k (.str "UnknownName"))))])
    (.cons (.own 12 (.disp (.cons (.xis (.v 9) k_LoopError) (.cons (.xis (.v 9) k_ValueError) (.cons (.xis (.v 9) k_Missing) (.cons (.xis (.v 9) k_IndexError) (.cons (.xis (.v 9) k_LookupError) .nil)))))))
    (.cons (.ife (.cmp .ne (.v 12) (.fz (.disp (.cons (.bop true (.cons (.not (.v 10)) (.cons (.not (.v 11)) .nil))) (.cons (.bop true (.cons (.not (.v 10)) (.cons (.not (.v 11)) .nil))) (.cons (.v 11) (.cons (.v 10) (.cons (.bop false (.cons (.v 10) (.cons (.v 11) .nil))) .nil))))))))
    (.cons (.ret (.k (.bl false)))
    .nil)
    .nil)
    .nil))))))
    (.cons (.ret (.k (.bl true)))
    .nil))))))))))⟩
def tab : List Fn := [f__law_bag, f__law_draw, f__law_any, f__law_same, f__law_odd, f__law_field, f__law_made_errors, f__law_named_errors, f__law_words, f__law_kinds, f_law]
theorem t__law_bag : tab[0]? = some f__law_bag := rfl
theorem t__law_draw : tab[1]? = some f__law_draw := rfl
theorem t__law_any : tab[2]? = some f__law_any := rfl
theorem t__law_same : tab[3]? = some f__law_same := rfl
theorem t__law_odd : tab[4]? = some f__law_odd := rfl
theorem t__law_field : tab[5]? = some f__law_field := rfl
theorem t__law_made_errors : tab[6]? = some f__law_made_errors := rfl
theorem t__law_named_errors : tab[7]? = some f__law_named_errors := rfl
theorem t__law_words : tab[8]? = some f__law_words := rfl
theorem t__law_kinds : tab[9]? = some f__law_kinds := rfl
theorem t_law : tab[10]? = some f_law := rfl
def frees : List Str := ["IndexError", "LookupError", "ValueError", "int", "isinstance", "len", "list", "range", "repr", "super"]
def con : List (Str × D) := []
def cls : List Cd := []
def stas : List (Str × Str) := []
abbrev tb (K : PySem.W.Frag) : Tb := mkT K tab frees con cls stas (xcs.map FnX.q) xks
def d__law_bag : He.DefD := ⟨("_law_bag", none), "_law_bag", "_law_bag", defArgs (top 28), defBody (top 28), defScope (top 28), [], []⟩
def d__law_draw : He.DefD := ⟨("_law_draw", none), "_law_draw", "_law_draw", defArgs (top 29), defBody (top 29), defScope (top 29), [], []⟩
def d__law_any : He.DefD := ⟨("_law_any", none), "_law_any", "_law_any", defArgs (top 30), defBody (top 30), defScope (top 30), [], []⟩
def d__law_same : He.DefD := ⟨("_law_same", none), "_law_same", "_law_same", defArgs (top 31), defBody (top 31), defScope (top 31), [], []⟩
def d__law_odd : He.DefD := ⟨("_law_odd", none), "_law_odd", "_law_odd", defArgs (top 32), defBody (top 32), defScope (top 32), [], []⟩
def d__law_field : He.DefD := ⟨("_law_field", none), "_law_field", "_law_field", defArgs (top 33), defBody (top 33), defScope (top 33), [], []⟩
def d__law_made_errors : He.DefD := ⟨("_law_made_errors", none), "_law_made_errors", "_law_made_errors", defArgs (top 34), defBody (top 34), defScope (top 34), [], []⟩
def d__law_named_errors : He.DefD := ⟨("_law_named_errors", none), "_law_named_errors", "_law_named_errors", defArgs (top 35), defBody (top 35), defScope (top 35), [], []⟩
def d__law_words : He.DefD := ⟨("_law_words", none), "_law_words", "_law_words", defArgs (top 36), defBody (top 36), defScope (top 36), [], []⟩
def d__law_kinds : He.DefD := ⟨("_law_kinds", none), "_law_kinds", "_law_kinds", defArgs (top 37), defBody (top 37), defScope (top 37), [], []⟩
def d_law : He.DefD := ⟨("law", none), "law", "law", defArgs (top 38), defBody (top 38), defScope (top 38), [], []⟩
def fn : List FnF := [⟨.glo "_law_bag", d__law_bag⟩, ⟨.glo "_law_draw", d__law_draw⟩, ⟨.glo "_law_any", d__law_any⟩, ⟨.glo "_law_same", d__law_same⟩, ⟨.glo "_law_odd", d__law_odd⟩, ⟨.glo "_law_field", d__law_field⟩, ⟨.glo "_law_made_errors", d__law_made_errors⟩, ⟨.glo "_law_named_errors", d__law_named_errors⟩, ⟨.glo "_law_words", d__law_words⟩, ⟨.glo "_law_kinds", d__law_kinds⟩, ⟨.glo "law", d_law⟩]
def sups : List FnS := []
def fa : List He.Fa := frees.map He.Fa.free ++ [.glo "_law_bag", .glo "_law_draw", .glo "_law_any", .glo "_law_same", .glo "_law_odd", .glo "_law_field", .glo "_law_made_errors", .glo "_law_named_errors", .glo "_law_words", .glo "_law_kinds", .glo "law"]
def ly : Ly := ⟨fa, fn, con, tab, cls, stas, sups, xcs, xks, prog.main.file⟩
abbrev R : PySem.W.OpenRow := PySem.W.OpenLaw.row PySem.Challenge.rw_partloops_k05_errors_told
abbrev hk : PySem.W.Hook := hookP 4 ly
def ob (s : PySem.W.SharedT) : AlP := obsP 4 ly (HandSHeadRun.getT s)
theorem ob_eq (s : PySem.W.SharedT) : ob s = hk.obs s.abs := obsP_eq (HandSHeadRun.getT_eq s)
def loose : List Str := [("LoopError" : Str), ("Missing" : Str), ("InvalidNumber" : Str), ("InvalidPairs" : Str), ("InvalidPoly" : Str), ("InvalidQuotient" : Str), ("InvalidSources" : Str), ("InvalidCondition" : Str), ("InvalidWeight" : Str), ("InvalidShare" : Str), ("InvalidExpression" : Str), ("InvalidText" : Str), ("InvalidName" : Str), ("DuplicateName" : Str), ("Full" : Str), ("InUse" : Str), ("InvalidDeed" : Str), ("InvalidLimit" : Str), ("InvalidPage" : Str), ("TooDeep" : Str), ("TooMany" : Str), ("TooSteep" : Str), ("NoInverse" : Str), ("NotWhole" : Str), ("UnknownName" : Str), ("NothingLeft" : Str), ("_law_bag" : Str), ("_law_draw" : Str), ("_law_any" : Str), ("_law_same" : Str), ("_law_odd" : Str), ("_law_field" : Str), ("_law_made_errors" : Str), ("_law_named_errors" : Str), ("_law_words" : Str), ("_law_kinds" : Str)]
open HandSHeadRun PySem.W PySem.Calls PyProof.Rows in
theorem runA (w : World) : ObsE R 12000 w (fun s => looksF R.prog (boot_heap w.params) s.abs) true := by
  intro os
  kernel_rfl
open HandSHeadRun PySem.W PySem.Calls PyProof.Rows in
theorem runB (w : World) : ObsE R 12000 w (fun s => seenQ (PySem.W.view R.prog [38]) loose (importedModules R.prog.main.body) (fun s => xlAt (PySem.W.view R.prog [38]) [] s && recOk R.toRowW.records s) s.abs) (openGood (PySem.W.view R.prog [38]) loose) := by
  intro os
  kernel_rfl
theorem runL1 (w : World) : ObsE R 12000 w (fun s => obsP 4 ly.lfa (HandSHeadRun.getT s)) (valP ly.lfa) := by
  intro os
  kernel_rfl
theorem runL2 (w : World) : ObsE R 12000 w (fun s => obsP 4 (ly.ln1 6) (HandSHeadRun.getT s)) (valP (ly.ln1 6)) := by
  intro os
  kernel_rfl
theorem runL3 (w : World) : ObsE R 12000 w (fun s => obsP 4 (ly.ln2 6) (HandSHeadRun.getT s)) (valP (ly.ln2 6)) := by
  intro os
  kernel_rfl
theorem runL (w : World) : ObsE R 12000 w (fun s => obsP 4 ly.left (HandSHeadRun.getT s)) (valP ly.left) := left_parts (runL1 w) (runL2 w) (runL3 w)
theorem runR (w : World) : ObsE R 12000 w (fun s => obsP 4 ly.right (HandSHeadRun.getT s)) (valP ly.right) := by
  intro os
  kernel_rfl
theorem run (w : World) : HandSHeadRun.RunEq R (PySem.W.view R.prog [38]) hk ob 12000 loose w := run_parts (runA w) (runB w) (runL w) (runR w)
theorem s__law_bag : scB f__law_bag.nm (f__law_bag.nm.take f__law_bag.np) (defScope (top 28)) = true := by decide +kernel
theorem m__law_bag (K : PySem.W.Frag) : matSs (tb K) ⟨f__law_bag.nm, defScope (top 28), fun _ => true⟩ f__law_bag.body (defBody (top 28)) = true := by kernel_rfl
theorem s__law_draw : scB f__law_draw.nm (f__law_draw.nm.take f__law_draw.np) (defScope (top 29)) = true := by decide +kernel
theorem m__law_draw (K : PySem.W.Frag) : matSs (tb K) ⟨f__law_draw.nm, defScope (top 29), fun _ => true⟩ f__law_draw.body (defBody (top 29)) = true := by kernel_rfl
theorem s__law_any : scB f__law_any.nm (f__law_any.nm.take f__law_any.np) (defScope (top 30)) = true := by decide +kernel
theorem m__law_any (K : PySem.W.Frag) : matSs (tb K) ⟨f__law_any.nm, defScope (top 30), fun _ => true⟩ f__law_any.body (defBody (top 30)) = true := by kernel_rfl
theorem s__law_same : scB f__law_same.nm (f__law_same.nm.take f__law_same.np) (defScope (top 31)) = true := by decide +kernel
theorem m__law_same (K : PySem.W.Frag) : matSs (tb K) ⟨f__law_same.nm, defScope (top 31), fun _ => true⟩ f__law_same.body (defBody (top 31)) = true := by kernel_rfl
theorem s__law_odd : scB f__law_odd.nm (f__law_odd.nm.take f__law_odd.np) (defScope (top 32)) = true := by decide +kernel
theorem m__law_odd (K : PySem.W.Frag) : matSs (tb K) ⟨f__law_odd.nm, defScope (top 32), fun _ => true⟩ f__law_odd.body (defBody (top 32)) = true := by kernel_rfl
theorem s__law_field : scB f__law_field.nm (f__law_field.nm.take f__law_field.np) (defScope (top 33)) = true := by decide +kernel
theorem m__law_field (K : PySem.W.Frag) : matSs (tb K) ⟨f__law_field.nm, defScope (top 33), fun _ => true⟩ f__law_field.body (defBody (top 33)) = true := by kernel_rfl
theorem s__law_made_errors : scB f__law_made_errors.nm (f__law_made_errors.nm.take f__law_made_errors.np) (defScope (top 34)) = true := by decide +kernel
theorem m__law_made_errors (K : PySem.W.Frag) : matSs (tb K) ⟨f__law_made_errors.nm, defScope (top 34), fun _ => true⟩ f__law_made_errors.body (defBody (top 34)) = true := by kernel_rfl
theorem s__law_named_errors : scB f__law_named_errors.nm (f__law_named_errors.nm.take f__law_named_errors.np) (defScope (top 35)) = true := by decide +kernel
theorem m__law_named_errors (K : PySem.W.Frag) : matSs (tb K) ⟨f__law_named_errors.nm, defScope (top 35), fun _ => true⟩ f__law_named_errors.body (defBody (top 35)) = true := by kernel_rfl
theorem s__law_words : scB f__law_words.nm (f__law_words.nm.take f__law_words.np) (defScope (top 36)) = true := by decide +kernel
theorem m__law_words (K : PySem.W.Frag) : matSs (tb K) ⟨f__law_words.nm, defScope (top 36), fun _ => true⟩ f__law_words.body (defBody (top 36)) = true := by kernel_rfl
theorem s__law_kinds : scB f__law_kinds.nm (f__law_kinds.nm.take f__law_kinds.np) (defScope (top 37)) = true := by decide +kernel
theorem m__law_kinds (K : PySem.W.Frag) : matSs (tb K) ⟨f__law_kinds.nm, defScope (top 37), fun _ => true⟩ f__law_kinds.body (defBody (top 37)) = true := by kernel_rfl
theorem s_law : scB f_law.nm (f_law.nm.take f_law.np) (defScope (top 38)) = true := by decide +kernel
theorem m_law (K : PySem.W.Frag) : matSs (tb K) ⟨f_law.nm, defScope (top 38), fun _ => true⟩ f_law.body (defBody (top 38)) = true := by kernel_rfl
theorem xs_st : xcs.all xsB = true := by decide +kernel
theorem xk_st : xks.all (xkS xcs) = true := by decide +kernel
theorem px_InvalidNumber {k : Kx} {fo : FuncData} (F : FunV k.K "__init__" "InvalidNumber.__init__" (defArgs (mth 3 0)) (defBody (mth 3 0)) (defScope (mth 3 0)) [] [] fo) : ∀ p ∈ xpats x_InvalidNumber, PatOk k fo (xps ⟨x_InvalidNumber, dx_InvalidNumber, "self"⟩) p := by
  intro q hq
  rcases List.mem_cons.mp (show q ∈ [⟨2, [], [.p 0, .p 1]⟩, ⟨1, ["given"], [.p 0, .k 0]⟩] from hq) with rfl | hq
  · exact pat_n F rfl fun _ _ _ _ _ _ us ws h1 h2 => match us, ws, h1, h2 with | [_, _], [], _, _ => rfl
  · cases List.mem_singleton.mp hq
    exact pat_n F rfl fun _ _ _ _ _ _ us ws h1 h2 => match us, ws, h1, h2 with | [_], [_], _, _ => rfl
theorem px_InvalidPairs {k : Kx} {fo : FuncData} (F : FunV k.K "__init__" "InvalidPairs.__init__" (defArgs (mth 4 0)) (defBody (mth 4 0)) (defScope (mth 4 0)) [] [] fo) : ∀ p ∈ xpats x_InvalidPairs, PatOk k fo (xps ⟨x_InvalidPairs, dx_InvalidPairs, "self"⟩) p := by
  intro q hq
  rcases List.mem_cons.mp (show q ∈ [⟨2, [], [.p 0, .p 1]⟩, ⟨1, ["at"], [.p 0, .k 0]⟩] from hq) with rfl | hq
  · exact pat_n F rfl fun _ _ _ _ _ _ us ws h1 h2 => match us, ws, h1, h2 with | [_, _], [], _, _ => rfl
  · cases List.mem_singleton.mp hq
    exact pat_n F rfl fun _ _ _ _ _ _ us ws h1 h2 => match us, ws, h1, h2 with | [_], [_], _, _ => rfl
theorem px_InvalidPoly {k : Kx} {fo : FuncData} (F : FunV k.K "__init__" "InvalidPoly.__init__" (defArgs (mth 5 0)) (defBody (mth 5 0)) (defScope (mth 5 0)) [] [] fo) : ∀ p ∈ xpats x_InvalidPoly, PatOk k fo (xps ⟨x_InvalidPoly, dx_InvalidPoly, "self"⟩) p := by
  intro q hq
  rcases List.mem_cons.mp (show q ∈ [⟨2, [], [.p 0, .p 1]⟩, ⟨1, ["at"], [.p 0, .k 0]⟩] from hq) with rfl | hq
  · exact pat_n F rfl fun _ _ _ _ _ _ us ws h1 h2 => match us, ws, h1, h2 with | [_, _], [], _, _ => rfl
  · cases List.mem_singleton.mp hq
    exact pat_n F rfl fun _ _ _ _ _ _ us ws h1 h2 => match us, ws, h1, h2 with | [_], [_], _, _ => rfl
theorem px_InvalidQuotient {k : Kx} {fo : FuncData} (F : FunV k.K "__init__" "InvalidQuotient.__init__" (defArgs (mth 6 0)) (defBody (mth 6 0)) (defScope (mth 6 0)) [] [] fo) : ∀ p ∈ xpats x_InvalidQuotient, PatOk k fo (xps ⟨x_InvalidQuotient, dx_InvalidQuotient, "self"⟩) p := by
  intro q hq
  cases List.mem_singleton.mp (show q ∈ [⟨1, [], [.p 0]⟩] from hq)
  exact pat_n F rfl fun _ _ _ _ _ _ us ws h1 h2 => match us, ws, h1, h2 with | [_], [], _, _ => rfl
theorem px_InvalidSources {k : Kx} {fo : FuncData} (F : FunV k.K "__init__" "InvalidSources.__init__" (defArgs (mth 7 0)) (defBody (mth 7 0)) (defScope (mth 7 0)) [] [] fo) : ∀ p ∈ xpats x_InvalidSources, PatOk k fo (xps ⟨x_InvalidSources, dx_InvalidSources, "self"⟩) p := by
  intro q hq
  rcases List.mem_cons.mp (show q ∈ [⟨2, [], [.p 0, .p 1]⟩, ⟨1, ["given"], [.p 0, .k 0]⟩] from hq) with rfl | hq
  · exact pat_n F rfl fun _ _ _ _ _ _ us ws h1 h2 => match us, ws, h1, h2 with | [_, _], [], _, _ => rfl
  · cases List.mem_singleton.mp hq
    exact pat_n F rfl fun _ _ _ _ _ _ us ws h1 h2 => match us, ws, h1, h2 with | [_], [_], _, _ => rfl
theorem px_InvalidCondition {k : Kx} {fo : FuncData} (F : FunV k.K "__init__" "InvalidCondition.__init__" (defArgs (mth 8 0)) (defBody (mth 8 0)) (defScope (mth 8 0)) [] [] fo) : ∀ p ∈ xpats x_InvalidCondition, PatOk k fo (xps ⟨x_InvalidCondition, dx_InvalidCondition, "self"⟩) p := by
  intro q hq
  rcases List.mem_cons.mp (show q ∈ [⟨2, [], [.p 0, .p 1]⟩, ⟨1, ["given"], [.p 0, .k 0]⟩] from hq) with rfl | hq
  · exact pat_n F rfl fun _ _ _ _ _ _ us ws h1 h2 => match us, ws, h1, h2 with | [_, _], [], _, _ => rfl
  · cases List.mem_singleton.mp hq
    exact pat_n F rfl fun _ _ _ _ _ _ us ws h1 h2 => match us, ws, h1, h2 with | [_], [_], _, _ => rfl
theorem px_InvalidWeight {k : Kx} {fo : FuncData} (F : FunV k.K "__init__" "InvalidWeight.__init__" (defArgs (mth 9 0)) (defBody (mth 9 0)) (defScope (mth 9 0)) [] [] fo) : ∀ p ∈ xpats x_InvalidWeight, PatOk k fo (xps ⟨x_InvalidWeight, dx_InvalidWeight, "self"⟩) p := by
  intro q hq
  rcases List.mem_cons.mp (show q ∈ [⟨2, [], [.p 0, .p 1]⟩, ⟨1, ["at"], [.p 0, .k 0]⟩] from hq) with rfl | hq
  · exact pat_n F rfl fun _ _ _ _ _ _ us ws h1 h2 => match us, ws, h1, h2 with | [_, _], [], _, _ => rfl
  · cases List.mem_singleton.mp hq
    exact pat_n F rfl fun _ _ _ _ _ _ us ws h1 h2 => match us, ws, h1, h2 with | [_], [_], _, _ => rfl
theorem px_InvalidShare {k : Kx} {fo : FuncData} (F : FunV k.K "__init__" "InvalidShare.__init__" (defArgs (mth 10 0)) (defBody (mth 10 0)) (defScope (mth 10 0)) [] [] fo) : ∀ p ∈ xpats x_InvalidShare, PatOk k fo (xps ⟨x_InvalidShare, dx_InvalidShare, "self"⟩) p := by
  intro q hq
  rcases List.mem_cons.mp (show q ∈ [⟨2, [], [.p 0, .p 1]⟩, ⟨1, ["given"], [.p 0, .k 0]⟩] from hq) with rfl | hq
  · exact pat_n F rfl fun _ _ _ _ _ _ us ws h1 h2 => match us, ws, h1, h2 with | [_, _], [], _, _ => rfl
  · cases List.mem_singleton.mp hq
    exact pat_n F rfl fun _ _ _ _ _ _ us ws h1 h2 => match us, ws, h1, h2 with | [_], [_], _, _ => rfl
theorem px_InvalidExpression {k : Kx} {fo : FuncData} (F : FunV k.K "__init__" "InvalidExpression.__init__" (defArgs (mth 11 0)) (defBody (mth 11 0)) (defScope (mth 11 0)) [] [] fo) : ∀ p ∈ xpats x_InvalidExpression, PatOk k fo (xps ⟨x_InvalidExpression, dx_InvalidExpression, "self"⟩) p := by
  intro q hq
  rcases List.mem_cons.mp (show q ∈ [⟨2, [], [.p 0, .p 1]⟩, ⟨1, ["given"], [.p 0, .k 0]⟩] from hq) with rfl | hq
  · exact pat_n F rfl fun _ _ _ _ _ _ us ws h1 h2 => match us, ws, h1, h2 with | [_, _], [], _, _ => rfl
  · cases List.mem_singleton.mp hq
    exact pat_n F rfl fun _ _ _ _ _ _ us ws h1 h2 => match us, ws, h1, h2 with | [_], [_], _, _ => rfl
theorem px_InvalidText {k : Kx} {fo : FuncData} (F : FunV k.K "__init__" "InvalidText.__init__" (defArgs (mth 12 0)) (defBody (mth 12 0)) (defScope (mth 12 0)) [] [] fo) : ∀ p ∈ xpats x_InvalidText, PatOk k fo (xps ⟨x_InvalidText, dx_InvalidText, "self"⟩) p := by
  intro q hq
  cases List.mem_singleton.mp (show q ∈ [⟨1, [], [.p 0]⟩] from hq)
  exact pat_n F rfl fun _ _ _ _ _ _ us ws h1 h2 => match us, ws, h1, h2 with | [_], [], _, _ => rfl
theorem px_InvalidName {k : Kx} {fo : FuncData} (F : FunV k.K "__init__" "InvalidName.__init__" (defArgs (mth 13 0)) (defBody (mth 13 0)) (defScope (mth 13 0)) [] [] fo) : ∀ p ∈ xpats x_InvalidName, PatOk k fo (xps ⟨x_InvalidName, dx_InvalidName, "self"⟩) p := by
  intro q hq
  rcases List.mem_cons.mp (show q ∈ [⟨2, [], [.p 0, .p 1]⟩, ⟨1, ["name"], [.p 0, .k 0]⟩] from hq) with rfl | hq
  · exact pat_n F rfl fun _ _ _ _ _ _ us ws h1 h2 => match us, ws, h1, h2 with | [_, _], [], _, _ => rfl
  · cases List.mem_singleton.mp hq
    exact pat_n F rfl fun _ _ _ _ _ _ us ws h1 h2 => match us, ws, h1, h2 with | [_], [_], _, _ => rfl
theorem px_DuplicateName {k : Kx} {fo : FuncData} (F : FunV k.K "__init__" "DuplicateName.__init__" (defArgs (mth 14 0)) (defBody (mth 14 0)) (defScope (mth 14 0)) [] [] fo) : ∀ p ∈ xpats x_DuplicateName, PatOk k fo (xps ⟨x_DuplicateName, dx_DuplicateName, "self"⟩) p := by
  intro q hq
  rcases List.mem_cons.mp (show q ∈ [⟨2, [], [.p 0, .p 1]⟩, ⟨1, ["name"], [.p 0, .k 0]⟩] from hq) with rfl | hq
  · exact pat_n F rfl fun _ _ _ _ _ _ us ws h1 h2 => match us, ws, h1, h2 with | [_, _], [], _, _ => rfl
  · cases List.mem_singleton.mp hq
    exact pat_n F rfl fun _ _ _ _ _ _ us ws h1 h2 => match us, ws, h1, h2 with | [_], [_], _, _ => rfl
theorem px_Full {k : Kx} {fo : FuncData} (F : FunV k.K "__init__" "Full.__init__" (defArgs (mth 15 0)) (defBody (mth 15 0)) (defScope (mth 15 0)) [] [] fo) : ∀ p ∈ xpats x_Full, PatOk k fo (xps ⟨x_Full, dx_Full, "self"⟩) p := by
  intro q hq
  rcases List.mem_cons.mp (show q ∈ [⟨2, [], [.p 0, .p 1]⟩, ⟨1, ["limit"], [.p 0, .k 0]⟩] from hq) with rfl | hq
  · exact pat_n F rfl fun _ _ _ _ _ _ us ws h1 h2 => match us, ws, h1, h2 with | [_, _], [], _, _ => rfl
  · cases List.mem_singleton.mp hq
    exact pat_n F rfl fun _ _ _ _ _ _ us ws h1 h2 => match us, ws, h1, h2 with | [_], [_], _, _ => rfl
theorem px_InUse {k : Kx} {fo : FuncData} (F : FunV k.K "__init__" "InUse.__init__" (defArgs (mth 16 0)) (defBody (mth 16 0)) (defScope (mth 16 0)) [] [] fo) : ∀ p ∈ xpats x_InUse, PatOk k fo (xps ⟨x_InUse, dx_InUse, "self"⟩) p := by
  intro q hq
  rcases List.mem_cons.mp (show q ∈ [⟨2, [], [.p 0, .p 1]⟩, ⟨1, ["user"], [.p 0, .k 0]⟩] from hq) with rfl | hq
  · exact pat_n F rfl fun _ _ _ _ _ _ us ws h1 h2 => match us, ws, h1, h2 with | [_, _], [], _, _ => rfl
  · cases List.mem_singleton.mp hq
    exact pat_n F rfl fun _ _ _ _ _ _ us ws h1 h2 => match us, ws, h1, h2 with | [_], [_], _, _ => rfl
theorem px_InvalidDeed {k : Kx} {fo : FuncData} (F : FunV k.K "__init__" "InvalidDeed.__init__" (defArgs (mth 17 0)) (defBody (mth 17 0)) (defScope (mth 17 0)) [] [] fo) : ∀ p ∈ xpats x_InvalidDeed, PatOk k fo (xps ⟨x_InvalidDeed, dx_InvalidDeed, "self"⟩) p := by
  intro q hq
  rcases List.mem_cons.mp (show q ∈ [⟨2, [], [.p 0, .p 1]⟩, ⟨1, ["at"], [.p 0, .k 0]⟩] from hq) with rfl | hq
  · exact pat_n F rfl fun _ _ _ _ _ _ us ws h1 h2 => match us, ws, h1, h2 with | [_, _], [], _, _ => rfl
  · cases List.mem_singleton.mp hq
    exact pat_n F rfl fun _ _ _ _ _ _ us ws h1 h2 => match us, ws, h1, h2 with | [_], [_], _, _ => rfl
theorem px_InvalidLimit {k : Kx} {fo : FuncData} (F : FunV k.K "__init__" "InvalidLimit.__init__" (defArgs (mth 18 0)) (defBody (mth 18 0)) (defScope (mth 18 0)) [] [] fo) : ∀ p ∈ xpats x_InvalidLimit, PatOk k fo (xps ⟨x_InvalidLimit, dx_InvalidLimit, "self"⟩) p := by
  intro q hq
  rcases List.mem_cons.mp (show q ∈ [⟨2, [], [.p 0, .p 1]⟩, ⟨1, ["given"], [.p 0, .k 0]⟩] from hq) with rfl | hq
  · exact pat_n F rfl fun _ _ _ _ _ _ us ws h1 h2 => match us, ws, h1, h2 with | [_, _], [], _, _ => rfl
  · cases List.mem_singleton.mp hq
    exact pat_n F rfl fun _ _ _ _ _ _ us ws h1 h2 => match us, ws, h1, h2 with | [_], [_], _, _ => rfl
theorem px_InvalidPage {k : Kx} {fo : FuncData} (F : FunV k.K "__init__" "InvalidPage.__init__" (defArgs (mth 19 0)) (defBody (mth 19 0)) (defScope (mth 19 0)) [] [] fo) : ∀ p ∈ xpats x_InvalidPage, PatOk k fo (xps ⟨x_InvalidPage, dx_InvalidPage, "self"⟩) p := by
  intro q hq
  rcases List.mem_cons.mp (show q ∈ [⟨2, [], [.p 0, .p 1]⟩, ⟨1, ["line"], [.p 0, .k 0]⟩] from hq) with rfl | hq
  · exact pat_n F rfl fun _ _ _ _ _ _ us ws h1 h2 => match us, ws, h1, h2 with | [_, _], [], _, _ => rfl
  · cases List.mem_singleton.mp hq
    exact pat_n F rfl fun _ _ _ _ _ _ us ws h1 h2 => match us, ws, h1, h2 with | [_], [_], _, _ => rfl
theorem px_TooDeep {k : Kx} {fo : FuncData} (F : FunV k.K "__init__" "TooDeep.__init__" (defArgs (mth 20 0)) (defBody (mth 20 0)) (defScope (mth 20 0)) [] [] fo) : ∀ p ∈ xpats x_TooDeep, PatOk k fo (xps ⟨x_TooDeep, dx_TooDeep, "self"⟩) p := by
  intro q hq
  rcases List.mem_cons.mp (show q ∈ [⟨2, [], [.p 0, .p 1]⟩, ⟨1, ["most"], [.p 0, .k 0]⟩] from hq) with rfl | hq
  · exact pat_n F rfl fun _ _ _ _ _ _ us ws h1 h2 => match us, ws, h1, h2 with | [_, _], [], _, _ => rfl
  · cases List.mem_singleton.mp hq
    exact pat_n F rfl fun _ _ _ _ _ _ us ws h1 h2 => match us, ws, h1, h2 with | [_], [_], _, _ => rfl
theorem px_TooMany {k : Kx} {fo : FuncData} (F : FunV k.K "__init__" "TooMany.__init__" (defArgs (mth 21 0)) (defBody (mth 21 0)) (defScope (mth 21 0)) [] [] fo) : ∀ p ∈ xpats x_TooMany, PatOk k fo (xps ⟨x_TooMany, dx_TooMany, "self"⟩) p := by
  intro q hq
  rcases List.mem_cons.mp (show q ∈ [⟨2, [], [.p 0, .p 1]⟩, ⟨1, ["most"], [.p 0, .k 0]⟩] from hq) with rfl | hq
  · exact pat_n F rfl fun _ _ _ _ _ _ us ws h1 h2 => match us, ws, h1, h2 with | [_, _], [], _, _ => rfl
  · cases List.mem_singleton.mp hq
    exact pat_n F rfl fun _ _ _ _ _ _ us ws h1 h2 => match us, ws, h1, h2 with | [_], [_], _, _ => rfl
theorem px_TooSteep {k : Kx} {fo : FuncData} (F : FunV k.K "__init__" "TooSteep.__init__" (defArgs (mth 22 0)) (defBody (mth 22 0)) (defScope (mth 22 0)) [] [] fo) : ∀ p ∈ xpats x_TooSteep, PatOk k fo (xps ⟨x_TooSteep, dx_TooSteep, "self"⟩) p := by
  intro q hq
  rcases List.mem_cons.mp (show q ∈ [⟨2, [], [.p 0, .p 1]⟩, ⟨1, ["most"], [.p 0, .k 0]⟩] from hq) with rfl | hq
  · exact pat_n F rfl fun _ _ _ _ _ _ us ws h1 h2 => match us, ws, h1, h2 with | [_, _], [], _, _ => rfl
  · cases List.mem_singleton.mp hq
    exact pat_n F rfl fun _ _ _ _ _ _ us ws h1 h2 => match us, ws, h1, h2 with | [_], [_], _, _ => rfl
theorem px_NoInverse {k : Kx} {fo : FuncData} (F : FunV k.K "__init__" "NoInverse.__init__" (defArgs (mth 23 0)) (defBody (mth 23 0)) (defScope (mth 23 0)) [] [] fo) : ∀ p ∈ xpats x_NoInverse, PatOk k fo (xps ⟨x_NoInverse, dx_NoInverse, "self"⟩) p := by
  intro q hq
  cases List.mem_singleton.mp (show q ∈ [⟨1, [], [.p 0]⟩] from hq)
  exact pat_n F rfl fun _ _ _ _ _ _ us ws h1 h2 => match us, ws, h1, h2 with | [_], [], _, _ => rfl
theorem px_NotWhole {k : Kx} {fo : FuncData} (F : FunV k.K "__init__" "NotWhole.__init__" (defArgs (mth 24 0)) (defBody (mth 24 0)) (defScope (mth 24 0)) [] [] fo) : ∀ p ∈ xpats x_NotWhole, PatOk k fo (xps ⟨x_NotWhole, dx_NotWhole, "self"⟩) p := by
  intro q hq
  cases List.mem_singleton.mp (show q ∈ [⟨1, [], [.p 0]⟩] from hq)
  exact pat_n F rfl fun _ _ _ _ _ _ us ws h1 h2 => match us, ws, h1, h2 with | [_], [], _, _ => rfl
theorem px_UnknownName {k : Kx} {fo : FuncData} (F : FunV k.K "__init__" "UnknownName.__init__" (defArgs (mth 25 0)) (defBody (mth 25 0)) (defScope (mth 25 0)) [] [] fo) : ∀ p ∈ xpats x_UnknownName, PatOk k fo (xps ⟨x_UnknownName, dx_UnknownName, "self"⟩) p := by
  intro q hq
  rcases List.mem_cons.mp (show q ∈ [⟨2, [], [.p 0, .p 1]⟩, ⟨1, ["name"], [.p 0, .k 0]⟩] from hq) with rfl | hq
  · exact pat_n F rfl fun _ _ _ _ _ _ us ws h1 h2 => match us, ws, h1, h2 with | [_, _], [], _, _ => rfl
  · cases List.mem_singleton.mp hq
    exact pat_n F rfl fun _ _ _ _ _ _ us ws h1 h2 => match us, ws, h1, h2 with | [_], [_], _, _ => rfl
theorem px_NothingLeft {k : Kx} {fo : FuncData} (F : FunV k.K "__init__" "NothingLeft.__init__" (defArgs (mth 26 0)) (defBody (mth 26 0)) (defScope (mth 26 0)) [] [] fo) : ∀ p ∈ xpats x_NothingLeft, PatOk k fo (xps ⟨x_NothingLeft, dx_NothingLeft, "self"⟩) p := by
  intro q hq
  cases List.mem_singleton.mp (show q ∈ [⟨1, [], [.p 0]⟩] from hq)
  exact pat_n F rfl fun _ _ _ _ _ _ us ws h1 h2 => match us, ws, h1, h2 with | [_], [], _, _ => rfl
theorem p__law_bag {k : Kx} {fo : FuncData} (F : FunV k.K "_law_bag" "_law_bag" (defArgs (top 28)) (defBody (top 28)) (defScope (top 28)) [] [] fo) : ∀ q ∈ f__law_bag.pats, BindOk k fo (f__law_bag.nm.take f__law_bag.np) q := by
  intro q hq
  simp only [f__law_bag, List.mem_cons, List.mem_nil_iff, or_false] at hq
  subst hq
  exact .inl ⟨pat_n F rfl fun _ _ _ _ _ _ us ws h1 h2 => match us, ws, h1, h2 with | [_], [], _, _ => rfl, rfl⟩
theorem p__law_draw {k : Kx} {fo : FuncData} (F : FunV k.K "_law_draw" "_law_draw" (defArgs (top 29)) (defBody (top 29)) (defScope (top 29)) [] [] fo) : ∀ q ∈ f__law_draw.pats, BindOk k fo (f__law_draw.nm.take f__law_draw.np) q := by
  intro q hq
  simp only [f__law_draw, List.mem_cons, List.mem_nil_iff, or_false] at hq
  subst hq
  exact .inl ⟨pat_n F rfl fun _ _ _ _ _ _ us ws h1 h2 => match us, ws, h1, h2 with | [_, _], [], _, _ => rfl, rfl⟩
theorem p__law_any {k : Kx} {fo : FuncData} (F : FunV k.K "_law_any" "_law_any" (defArgs (top 30)) (defBody (top 30)) (defScope (top 30)) [] [] fo) : ∀ q ∈ f__law_any.pats, BindOk k fo (f__law_any.nm.take f__law_any.np) q := by
  intro q hq
  simp only [f__law_any, List.mem_cons, List.mem_nil_iff, or_false] at hq
  subst hq
  exact .inl ⟨pat_n F rfl fun _ _ _ _ _ _ us ws h1 h2 => match us, ws, h1, h2 with | [_, _], [], _, _ => rfl, rfl⟩
theorem p__law_same {k : Kx} {fo : FuncData} (F : FunV k.K "_law_same" "_law_same" (defArgs (top 31)) (defBody (top 31)) (defScope (top 31)) [] [] fo) : ∀ q ∈ f__law_same.pats, BindOk k fo (f__law_same.nm.take f__law_same.np) q := by
  intro q hq
  simp only [f__law_same, List.mem_cons, List.mem_nil_iff, or_false] at hq
  subst hq
  exact .inl ⟨pat_n F rfl fun _ _ _ _ _ _ us ws h1 h2 => match us, ws, h1, h2 with | [_, _], [], _, _ => rfl, rfl⟩
theorem p__law_odd {k : Kx} {fo : FuncData} (F : FunV k.K "_law_odd" "_law_odd" (defArgs (top 32)) (defBody (top 32)) (defScope (top 32)) [] [] fo) : ∀ q ∈ f__law_odd.pats, BindOk k fo (f__law_odd.nm.take f__law_odd.np) q := by
  intro q hq
  simp only [f__law_odd, List.mem_cons, List.mem_nil_iff, or_false] at hq
  subst hq
  exact .inl ⟨pat_n F rfl fun _ _ _ _ _ _ us ws h1 h2 => match us, ws, h1, h2 with | [_, _], [], _, _ => rfl, rfl⟩
theorem p__law_field {k : Kx} {fo : FuncData} (F : FunV k.K "_law_field" "_law_field" (defArgs (top 33)) (defBody (top 33)) (defScope (top 33)) [] [] fo) : ∀ q ∈ f__law_field.pats, BindOk k fo (f__law_field.nm.take f__law_field.np) q := by
  intro q hq
  simp only [f__law_field, List.mem_cons, List.mem_nil_iff, or_false] at hq
  subst hq
  exact .inl ⟨pat_n F rfl fun _ _ _ _ _ _ us ws h1 h2 => match us, ws, h1, h2 with | [_], [], _, _ => rfl, rfl⟩
theorem p__law_made_errors {k : Kx} {fo : FuncData} (F : FunV k.K "_law_made_errors" "_law_made_errors" (defArgs (top 34)) (defBody (top 34)) (defScope (top 34)) [] [] fo) : ∀ q ∈ f__law_made_errors.pats, BindOk k fo (f__law_made_errors.nm.take f__law_made_errors.np) q := by
  intro q hq
  simp only [f__law_made_errors, List.mem_cons, List.mem_nil_iff, or_false] at hq
  subst hq
  exact .inl ⟨pat_n F rfl fun _ _ _ _ _ _ us ws h1 h2 => match us, ws, h1, h2 with | [_], [], _, _ => rfl, rfl⟩
theorem p__law_named_errors {k : Kx} {fo : FuncData} (F : FunV k.K "_law_named_errors" "_law_named_errors" (defArgs (top 35)) (defBody (top 35)) (defScope (top 35)) [] [] fo) : ∀ q ∈ f__law_named_errors.pats, BindOk k fo (f__law_named_errors.nm.take f__law_named_errors.np) q := by
  intro q hq
  simp only [f__law_named_errors, List.mem_cons, List.mem_nil_iff, or_false] at hq
  subst hq
  exact .inl ⟨pat_n F rfl fun _ _ _ _ _ _ us ws h1 h2 => match us, ws, h1, h2 with | [_], [], _, _ => rfl, rfl⟩
theorem p__law_words {k : Kx} {fo : FuncData} (F : FunV k.K "_law_words" "_law_words" (defArgs (top 36)) (defBody (top 36)) (defScope (top 36)) [] [] fo) : ∀ q ∈ f__law_words.pats, BindOk k fo (f__law_words.nm.take f__law_words.np) q := by
  intro q hq
  simp only [f__law_words, List.mem_cons, List.mem_nil_iff, or_false] at hq
  subst hq
  exact .inl ⟨pat_n F rfl fun _ _ _ _ _ _ us ws h1 h2 => match us, ws, h1, h2 with | [], [], _, _ => rfl, rfl⟩
theorem p__law_kinds {k : Kx} {fo : FuncData} (F : FunV k.K "_law_kinds" "_law_kinds" (defArgs (top 37)) (defBody (top 37)) (defScope (top 37)) [] [] fo) : ∀ q ∈ f__law_kinds.pats, BindOk k fo (f__law_kinds.nm.take f__law_kinds.np) q := by
  intro q hq
  simp only [f__law_kinds, List.mem_cons, List.mem_nil_iff, or_false] at hq
  subst hq
  exact .inl ⟨pat_n F rfl fun _ _ _ _ _ _ us ws h1 h2 => match us, ws, h1, h2 with | [_], [], _, _ => rfl, rfl⟩
theorem p_law {k : Kx} {fo : FuncData} (F : FunV k.K "law" "law" (defArgs (top 38)) (defBody (top 38)) (defScope (top 38)) [] [] fo) : ∀ q ∈ f_law.pats, BindOk k fo (f_law.nm.take f_law.np) q := by
  intro q hq
  simp only [f_law, List.mem_cons, List.mem_nil_iff, or_false] at hq
  subst hq
  exact .inl ⟨pat_n F rfl fun _ _ _ _ _ _ us ws h1 h2 => match us, ws, h1, h2 with | [_], [], _, _ => rfl, rfl⟩
theorem stands {w : World} {K : PySem.W.Frag} {h : Heap} {mg : Str → Option Value} (X : K.In h) (G : h.Ns mainGlobals mg) (c : SaysP ly K) : ∀ n (base : Heap) i fd, tab[i]? = some fd → FnAt (tb K) prog w K mg base n i fd := by
  refine mk_fns (fa := fa) (fn := fn) (sups := sups) (xcs := xcs) (xks := xks) (file := prog.main.file) X G c (fun x hx => List.mem_append_left _ (List.mem_map.mpr ⟨x, hx, rfl⟩)) (fun o fd hfd => ?_) fun o => ?_
  case refine_2 =>
    refine xcs_of X G o xs_st (fun z hz => ?_) xk_st (by kernel_rfl) (by kernel_rfl) (He.free_ok X G (o.fa (.free "super") (List.mem_append_left _ (List.mem_map.mpr ⟨"super", by decide, rfl⟩))))
    simp only [xcs, List.mem_cons, List.mem_nil_iff, or_false] at hz
    rcases hz with rfl | rfl | rfl | rfl | rfl | rfl | rfl | rfl | rfl | rfl | rfl | rfl | rfl | rfl | rfl | rfl | rfl | rfl | rfl | rfl | rfl | rfl | rfl | rfl
    · exact fun F => px_InvalidNumber F
    · exact fun F => px_InvalidPairs F
    · exact fun F => px_InvalidPoly F
    · exact fun F => px_InvalidQuotient F
    · exact fun F => px_InvalidSources F
    · exact fun F => px_InvalidCondition F
    · exact fun F => px_InvalidWeight F
    · exact fun F => px_InvalidShare F
    · exact fun F => px_InvalidExpression F
    · exact fun F => px_InvalidText F
    · exact fun F => px_InvalidName F
    · exact fun F => px_DuplicateName F
    · exact fun F => px_Full F
    · exact fun F => px_InUse F
    · exact fun F => px_InvalidDeed F
    · exact fun F => px_InvalidLimit F
    · exact fun F => px_InvalidPage F
    · exact fun F => px_TooDeep F
    · exact fun F => px_TooMany F
    · exact fun F => px_TooSteep F
    · exact fun F => px_NoInverse F
    · exact fun F => px_NotWhole F
    · exact fun F => px_UnknownName F
    · exact fun F => px_NothingLeft F
  simp only [tab, List.mem_cons, List.mem_nil_iff, or_false] at hfd
  rcases hfd with rfl | rfl | rfl | rfl | rfl | rfl | rfl | rfl | rfl | rfl | rfl
  · obtain ⟨fo, F⟩ := o.fun_ (q := ⟨.glo "_law_bag", d__law_bag⟩) (List.mem_of_getElem? (i := 0) rfl)
    exact .inl (fnst_of (fd := f__law_bag) F (fun x e => by cases e; exact He.glo_ok X G (o.fa (.glo "_law_bag") (List.mem_append_right _ (List.mem_of_getElem? (i := 0) rfl)))) (p__law_bag F.v) (scB_ok s__law_bag) (by decide) (m__law_bag K))
  · obtain ⟨fo, F⟩ := o.fun_ (q := ⟨.glo "_law_draw", d__law_draw⟩) (List.mem_of_getElem? (i := 1) rfl)
    exact .inl (fnst_of (fd := f__law_draw) F (fun x e => by cases e; exact He.glo_ok X G (o.fa (.glo "_law_draw") (List.mem_append_right _ (List.mem_of_getElem? (i := 1) rfl)))) (p__law_draw F.v) (scB_ok s__law_draw) (by decide) (m__law_draw K))
  · obtain ⟨fo, F⟩ := o.fun_ (q := ⟨.glo "_law_any", d__law_any⟩) (List.mem_of_getElem? (i := 2) rfl)
    exact .inl (fnst_of (fd := f__law_any) F (fun x e => by cases e; exact He.glo_ok X G (o.fa (.glo "_law_any") (List.mem_append_right _ (List.mem_of_getElem? (i := 2) rfl)))) (p__law_any F.v) (scB_ok s__law_any) (by decide) (m__law_any K))
  · obtain ⟨fo, F⟩ := o.fun_ (q := ⟨.glo "_law_same", d__law_same⟩) (List.mem_of_getElem? (i := 3) rfl)
    exact .inl (fnst_of (fd := f__law_same) F (fun x e => by cases e; exact He.glo_ok X G (o.fa (.glo "_law_same") (List.mem_append_right _ (List.mem_of_getElem? (i := 3) rfl)))) (p__law_same F.v) (scB_ok s__law_same) (by decide) (m__law_same K))
  · obtain ⟨fo, F⟩ := o.fun_ (q := ⟨.glo "_law_odd", d__law_odd⟩) (List.mem_of_getElem? (i := 4) rfl)
    exact .inl (fnst_of (fd := f__law_odd) F (fun x e => by cases e; exact He.glo_ok X G (o.fa (.glo "_law_odd") (List.mem_append_right _ (List.mem_of_getElem? (i := 4) rfl)))) (p__law_odd F.v) (scB_ok s__law_odd) (by decide) (m__law_odd K))
  · obtain ⟨fo, F⟩ := o.fun_ (q := ⟨.glo "_law_field", d__law_field⟩) (List.mem_of_getElem? (i := 5) rfl)
    exact .inl (fnst_of (fd := f__law_field) F (fun x e => by cases e; exact He.glo_ok X G (o.fa (.glo "_law_field") (List.mem_append_right _ (List.mem_of_getElem? (i := 5) rfl)))) (p__law_field F.v) (scB_ok s__law_field) (by decide) (m__law_field K))
  · obtain ⟨fo, F⟩ := o.fun_ (q := ⟨.glo "_law_made_errors", d__law_made_errors⟩) (List.mem_of_getElem? (i := 6) rfl)
    exact .inl (fnst_of (fd := f__law_made_errors) F (fun x e => by cases e; exact He.glo_ok X G (o.fa (.glo "_law_made_errors") (List.mem_append_right _ (List.mem_of_getElem? (i := 6) rfl)))) (p__law_made_errors F.v) (scB_ok s__law_made_errors) (by decide) (m__law_made_errors K))
  · obtain ⟨fo, F⟩ := o.fun_ (q := ⟨.glo "_law_named_errors", d__law_named_errors⟩) (List.mem_of_getElem? (i := 7) rfl)
    exact .inl (fnst_of (fd := f__law_named_errors) F (fun x e => by cases e; exact He.glo_ok X G (o.fa (.glo "_law_named_errors") (List.mem_append_right _ (List.mem_of_getElem? (i := 7) rfl)))) (p__law_named_errors F.v) (scB_ok s__law_named_errors) (by decide) (m__law_named_errors K))
  · obtain ⟨fo, F⟩ := o.fun_ (q := ⟨.glo "_law_words", d__law_words⟩) (List.mem_of_getElem? (i := 8) rfl)
    exact .inl (fnst_of (fd := f__law_words) F (fun x e => by cases e; exact He.glo_ok X G (o.fa (.glo "_law_words") (List.mem_append_right _ (List.mem_of_getElem? (i := 8) rfl)))) (p__law_words F.v) (scB_ok s__law_words) (by decide) (m__law_words K))
  · obtain ⟨fo, F⟩ := o.fun_ (q := ⟨.glo "_law_kinds", d__law_kinds⟩) (List.mem_of_getElem? (i := 9) rfl)
    exact .inl (fnst_of (fd := f__law_kinds) F (fun x e => by cases e; exact He.glo_ok X G (o.fa (.glo "_law_kinds") (List.mem_append_right _ (List.mem_of_getElem? (i := 9) rfl)))) (p__law_kinds F.v) (scB_ok s__law_kinds) (by decide) (m__law_kinds K))
  · obtain ⟨fo, F⟩ := o.fun_ (q := ⟨.glo "law", d_law⟩) (List.mem_of_getElem? (i := 10) rfl)
    exact .inl (fnst_of (fd := f_law) F (fun x e => by cases e; exact He.glo_ok X G (o.fa (.glo "law") (List.mem_append_right _ (List.mem_of_getElem? (i := 10) rfl)))) (p_law F.v) (scB_ok s_law) (by decide) (m_law K))
end Gk05

set_option Elab.async false
set_option linter.all false
set_option maxRecDepth 100000
set_option maxHeartbeats 4000000
namespace Pc
open PySem
def Res.wp {α : Type} (r : Res α) (Q : α → Ss → Prop) : Prop := match r with
  | .ok a s => Q a s
  | _ => False
def Cr.wp (r : Cr) (Q : W → List Cl → Prop) : Prop := match r with
  | .ok w g => Q w g
  | _ => False
section
variable {α β : Type} {r : Res α} {f : α → Ss → Res β} {Q : β → Ss → Prop} {s : Ss} {o : Or}
theorem wp_bind : (r.bind f).wp Q = r.wp fun a s => (f a s).wp Q := by cases r <;> rfl
theorem wp_ok {a : β} : (Res.ok a s).wp Q = Q a s := rfl
theorem wp_ite {c : Bool} {x y : Res β} : (if c = true then x else y).wp Q = if c = true then x.wp Q else y.wp Q := by cases c <;> rfl
theorem wp_iteP {c : Prop} [Decidable c] {x y : Res β} : (if c then x else y).wp Q = if c then x.wp Q else y.wp Q := by split <;> rfl
theorem wp_mono {Q' : β → Ss → Prop} {r : Res β} (h : r.wp Q) (k : ∀ a s, Q a s → Q' a s) : r.wp Q' := by
  cases r with
  | ok a s => exact k a s h
  | exc _ _ => exact h
  | stuck => exact h
theorem cwp_mono {r : Cr} {Q Q' : W → List Cl → Prop} (h : r.wp Q) (k : ∀ a s, Q a s → Q' a s) : r.wp Q' := by
  cases r with
  | ok a s => exact k a s h
  | exc _ _ => exact h
  | stuck => exact h
/-- a call -/
theorem wp_call {f p : Nat} {es kes : Exs} {Q : W → Ss → Prop} : (ev o (.call f p es kes) s).wp Q = (evs o es s).wp fun ws s1 => (evs o kes s1).wp fun zs s2 => (o f p ws zs s2.g).wp fun w g => w.isB = false ∧ Q w { s2 with g := g } := by
  rw [ev, wp_bind]
  congr 1
  funext ws s1
  rw [wp_bind]
  congr 1
  funext zs s2
  cases o f p ws zs s2.g with
  | ok w g =>
    show Res.wp (if w.isB = true then .stuck else .ok w { s2 with g := g }) Q = _
    cases h : w.isB <;> simp [Res.wp, Cr.wp, h]
  | exc _ _ => rfl
  | stuck => rfl
def endW (Q : W → List Cl → Prop) : Fl → Ss → Prop
  | .rt w, s => Q w s.g
  | .nx, s => Q (.d .non) s.g
  | _, _ => False
theorem run_wp {tab : List Fn} {n f p : Nat} {ws zs as : List W} {g : List Cl} {fd : Fn} {Q : W → List Cl → Prop} (h1 : tab[f]? = some fd) (h2 : argsOf fd p ws zs = some as) (h : (exs (run tab n) fd.body ⟨g, startR fd as⟩).wp (endW Q)) :
    (run tab (n + 1) f p ws zs g).wp Q := by
  unfold run
  rw [h1]
  dsimp only
  rw [h2]
  dsimp only
  unfold runB
  cases e : exs (run tab n) fd.body ⟨g, startR fd as⟩ with
  | ok c s =>
    rw [e] at h
    cases c <;> exact h
  | exc _ _ => rw [e] at h; exact h.elim
  | stuck => rw [e] at h; exact h.elim
end
theorem of_ok {α : Type} {a : α} {s : Ss} : Res.of (some a) s = .ok a s := rfl
end Pc

set_option Elab.async false
set_option linter.all false
set_option maxRecDepth 100000
set_option maxHeartbeats 4000000
namespace Pc
open PySem
def opt {α β : Type} (x : Option α) (f : α → Res β) : Res β := match x with
  | some a => f a
  | none => .stuck
def cnd {β : Type} (c : Bool) (a b : Res β) : Res β := match c with
  | true => a
  | false => b
def asD {β : Type} (w : W) (f : D → Res β) : Res β := match w with
  | .d x => f x
  | _ => .stuck
def asI {β : Type} (w : W) (f : Int → Res β) : Res β := match w with
  | .d (.int x) => f x
  | _ => .stuck
def asB {β : Type} (w : W) (f : Bool → Res β) : Res β := match w with
  | .d (.bl x) => f x
  | _ => .stuck
def asS {β : Type} (w : W) (f : Str → Res β) : Res β := match w with
  | .d (.str x) => f x
  | _ => .stuck
def asL {β : Type} (w : W) (f : List D → Res β) : Res β := match w with
  | .d (.lst x) => f x
  | _ => .stuck
def asLD {β : Type} (w : D) (f : List D → Res β) : Res β := match w with
  | .lst x => f x
  | _ => .stuck
def asLT {β : Type} (w : D) (f : List D → Res β) : Res β := match w with
  | .lst x => f x
  | .tup x => f x
  | _ => .stuck
def nB {β : Type} (w : W) (f : Res β) : Res β := match w with
  | .b _ => .stuck
  | _ => f
def slV (g : List Cl) (r : List Sl) (i : Nat) (x : Option Sl) : Res W := match x with
  | some (.w x) => .ok x ⟨g, r⟩
  | some (.own l) => .ok (.d (.lst l)) ⟨g, r.set i (.w (.d (.lst l)))⟩
  | _ => .stuck
def slB (g : List Cl) (r : List Sl) (i : Nat) (x : Option Sl) : Res W := match x with
  | some (.w x) => .ok x ⟨g, r⟩
  | some (.own l) => .ok (.b i) ⟨g, r⟩
  | _ => .stuck
def lkC (x : Option Cl) : Option D := match x with
  | some (.lst l) => some (.lst l)
  | some (.fz l) => some (.lst l)
  | _ => none
def lkB (x : Option Sl) : Option D := match x with
  | some (.own l) => some (.lst l)
  | some (.w (.d x)) => some x
  | _ => none
def llC (x : Option Cl) : Option (List D) := match x with
  | some (.lst l) => some l
  | _ => none
def llB (x : Option Sl) : Option (List D) := match x with
  | some (.own l) => some l
  | some (.w (.d (.lst l))) => some l
  | _ => none
def glB' (x : Option Sl) : Option (List D) := match x with
  | some (.own l) => some l
  | _ => none
def cbind {β : Type} (r : Cr) (f : W → List Cl → Res β) (e : D → List Cl → Res β) : Res β := match r with
  | .ok w g => nB w (f w g)
  | .exc x g => e x g
  | .stuck => .stuck
def fin (r : Res Fl) : Cr := match r with
  | .ok (.rt w) s => .ok w s.g
  | .ok .nx s => .ok (.d .non) s.g
  | .exc e s => .exc e s.g
  | _ => .stuck
section cg
variable {α β : Type}
theorem b_ok {a : α} {s : Ss} {f : α → Ss → Res β} : (Res.ok a s).bind f = f a s := rfl
theorem b_exc {a : D} {s : Ss} {f : α → Ss → Res β} : (Res.exc a s).bind f = .exc a s := rfl
theorem opt_some {a : α} {f : α → Res β} : opt (some a) f = f a := rfl
theorem cnd_t {a b : Res β} : cnd true a b = a := rfl
theorem cnd_f {a b : Res β} : cnd false a b = b := rfl
theorem asD_d {x : D} {f : D → Res β} : asD (.d x) f = f x := rfl
theorem asI_i {x : Int} {f : Int → Res β} : asI (.d (.int x)) f = f x := rfl
theorem asB_b {x : Bool} {f : Bool → Res β} : asB (.d (.bl x)) f = f x := rfl
theorem asS_s {x : Str} {f : Str → Res β} : asS (.d (.str x)) f = f x := rfl
theorem asL_l {x : List D} {f : List D → Res β} : asL (.d (.lst x)) f = f x := rfl
theorem asLD_l {x : List D} {f : List D → Res β} : asLD (.lst x) f = f x := rfl
theorem asLT_l {x : List D} {f : List D → Res β} : asLT (.lst x) f = f x := rfl
theorem asLT_t {x : List D} {f : List D → Res β} : asLT (.tup x) f = f x := rfl
theorem nB_d {x : D} {f : Res β} : nB (.d x) f = f := rfl
theorem nB_c {x : Nat} {f : Res β} : nB (.c x) f = f := rfl
theorem cb_ok {w : W} {g : List Cl} {f : W → List Cl → Res β} {e : D → List Cl → Res β} : cbind (.ok w g) f e = nB w (f w g) := rfl
theorem cb_exc {w : D} {g : List Cl} {f : W → List Cl → Res β} {e : D → List Cl → Res β} : cbind (.exc w g) f e = e w g := rfl
@[simp] theorem slV_w {g : List Cl} {r : List Sl} {i : Nat} {x : W} : slV g r i (some (.w x)) = .ok x ⟨g, r⟩ := rfl
@[simp] theorem slV_o {g : List Cl} {r : List Sl} {i : Nat} {l : List D} : slV g r i (some (.own l)) = .ok (.d (.lst l)) ⟨g, r.set i (.w (.d (.lst l)))⟩ := rfl
@[simp] theorem slB_w {g : List Cl} {r : List Sl} {i : Nat} {x : W} : slB g r i (some (.w x)) = .ok x ⟨g, r⟩ := rfl
@[simp] theorem slB_o {g : List Cl} {r : List Sl} {i : Nat} {l : List D} : slB g r i (some (.own l)) = .ok (.b i) ⟨g, r⟩ := rfl
@[simp] theorem lkC_l {l : List D} : lkC (some (.lst l)) = some (.lst l) := rfl
@[simp] theorem lkC_f {l : List D} : lkC (some (.fz l)) = some (.lst l) := rfl
@[simp] theorem lkB_o {l : List D} : lkB (some (.own l)) = some (.lst l) := rfl
@[simp] theorem lkB_w {x : D} : lkB (some (.w (.d x))) = some x := rfl
@[simp] theorem llC_l {l : List D} : llC (some (.lst l)) = some l := rfl
@[simp] theorem llB_o {l : List D} : llB (some (.own l)) = some l := rfl
@[simp] theorem llB_w {l : List D} : llB (some (.w (.d (.lst l)))) = some l := rfl
@[simp] theorem glB_o {l : List D} : glB' (some (.own l)) = some l := rfl
@[simp] theorem fin_rt {w : W} {s : Ss} : fin (.ok (.rt w) s) = .ok w s.g := rfl
@[simp] theorem fin_nx {s : Ss} : fin (.ok .nx s) = .ok (.d .non) s.g := rfl
@[simp] theorem fin_exc {x : D} {s : Ss} : fin (.exc x s) = .exc x s.g := rfl
theorem wp_cnd {c : Bool} {a b : Res β} {Q : β → Ss → Prop} (h1 : c = true → a.wp Q) (h2 : c = false → b.wp Q) : (cnd c a b).wp Q := by
  cases c
  · exact h2 rfl
  · exact h1 rfl
theorem wp_cndT {c : Bool} {a b : Res β} {Q : β → Ss → Prop} (h1 : c = true) (h : a.wp Q) : (cnd c a b).wp Q := by subst h1; exact h
theorem wp_cndF {c : Bool} {a b : Res β} {Q : β → Ss → Prop} (h1 : c = false) (h : b.wp Q) : (cnd c a b).wp Q := by subst h1; exact h
theorem wp_cb {r : Cr} {f : W → List Cl → Res β} {e : D → List Cl → Res β} {Q : β → Ss → Prop} {R : W → List Cl → Prop} (h : r.wp R) (k : ∀ w g, R w g → (nB w (f w g)).wp Q) : (cbind r f e).wp Q := by
  cases r with
  | ok w g => exact k w g h
  | exc _ _ => exact h.elim
  | stuck => exact h.elim
/-- a call that hands back data -/
theorem wp_cbD {r : Cr} {f : W → List Cl → Res β} {e : D → List Cl → Res β} {Q : β → Ss → Prop} {R : W → List Cl → Prop} (h : r.wp R) (k : ∀ w g, R w g → ∃ x, w = .d x ∧ (f (.d x) g).wp Q) : (cbind r f e).wp Q :=
  wp_cb h fun w g hw => by
    obtain ⟨x, rfl, q⟩ := k w g hw
    exact q
theorem wp_fin {r : Res Fl} {Q : W → List Cl → Prop} : (fin r).wp Q = r.wp (endW Q) := by
  cases r with
  | ok c s => cases c <;> rfl
  | exc _ _ => rfl
  | stuck => rfl
theorem wp_iff {a : α} {s : Ss} {Q : α → Ss → Prop} : (Res.ok a s).wp Q = Q a s := rfl
theorem cwp_ok {a : W} {g : List Cl} {Q : W → List Cl → Prop} : (Cr.ok a g).wp Q = Q a g := rfl
@[simp] theorem endW_rt {Q : W → List Cl → Prop} {w : W} {s : Ss} : endW Q (.rt w) s = Q w s.g := rfl
@[simp] theorem endW_nx {Q : W → List Cl → Prop} {s : Ss} : endW Q .nx s = Q (.d .non) s.g := rfl
theorem eq_wp {r : Cr} {d : W} {g : List Cl} (h : r.wp fun w g' => w = d ∧ g' = g) : r = .ok d g := by
  cases r with
  | ok w g' => obtain ⟨rfl, rfl⟩ := h; rfl
  | exc _ _ => exact h.elim
  | stuck => exact h.elim
theorem wp_eq {r : Cr} {Q : W → List Cl → Prop} (h : r.wp Q) : ∃ w g, r = .ok w g ∧ Q w g := by
  cases r with
  | ok w g' => exact ⟨w, g', rfl, h⟩
  | exc _ _ => exact h.elim
  | stuck => exact h.elim
theorem res_eq {r : Res α} {Q : α → Ss → Prop} (h : r.wp Q) : ∃ w g, r = .ok w g ∧ Q w g := by
  cases r with
  | ok w g' => exact ⟨w, g', rfl, h⟩
  | exc _ _ => exact h.elim
  | stuck => exact h.elim
theorem of_opt {x : Option α} {s : Ss} : Res.of x s = opt x fun a => .ok a s := by cases x <;> rfl
theorem ite_cnd {c : Prop} [Decidable c] {a b : Res β} : (if c then a else b) = cnd (decide c) a b := by
  by_cases h : c
  · rw [if_pos h, decide_eq_true h]; rfl
  · rw [if_neg h, decide_eq_false h]; rfl
theorem iteb_cnd {c : Bool} {a b : Res β} : (if c = true then a else b) = cnd c a b := by cases c <;> rfl
theorem opt_map {γ : Type} {x : Option α} {h : α → γ} {f : γ → Res β} : opt (x.map h) f = opt x fun a => f (h a) := by cases x <;> rfl
end cg
section
variable {g : List Cl} {r : List Sl} {s : Ss}
@[simp] theorem lk_d {x : D} : look s (.d x) = some x := rfl
@[simp] theorem lk_c {n : Nat} : look s (.c n) = lkC s.g[n]? := by
  unfold look lkC
  dsimp only
  all_goals
    cases s.g[n]? with
    | none => rfl
    | some c => cases c <;> rfl
@[simp] theorem lk_b {n : Nat} : look s (.b n) = lkB s.r[n]? := by
  unfold look lkB
  dsimp only
  all_goals
    cases s.r[n]? with
    | none => rfl
    | some c => cases c with
      | no => rfl
      | own _ => rfl
      | w x => cases x <;> rfl
@[simp] theorem ll_d {x : List D} : lookL s (.d (.lst x)) = some x := rfl
@[simp] theorem ll_c {n : Nat} : lookL s (.c n) = llC s.g[n]? := by
  unfold lookL llC
  dsimp only
  all_goals
    cases s.g[n]? with
    | none => rfl
    | some c => cases c <;> rfl
@[simp] theorem ll_b {n : Nat} : lookL s (.b n) = llB s.r[n]? := by
  unfold lookL llB
  dsimp only
  all_goals
    cases s.r[n]? with
    | none => rfl
    | some c => cases c with
      | no => rfl
      | own _ => rfl
      | w x => cases x with
        | d y => cases y <;> rfl
        | c _ => rfl
        | b _ => rfl
@[simp] theorem gl_c {n : Nat} : getL s (.c n) = llC s.g[n]? := by
  unfold getL llC
  dsimp only
  all_goals
    cases s.g[n]? with
    | none => rfl
    | some c => cases c <;> rfl
@[simp] theorem gl_b {n : Nat} : getL s (.b n) = glB' s.r[n]? := by
  unfold getL glB'
  dsimp only
  all_goals
    cases s.r[n]? with
    | none => rfl
    | some c => cases c <;> rfl
def ptC (s : Ss) (n : Nat) (l : List D) (x : Option Cl) : Option Ss := match x with
  | some (.lst _) => some { s with g := s.g.set n (.lst l) }
  | _ => none
def ptB (s : Ss) (n : Nat) (l : List D) (x : Option Sl) : Option Ss := match x with
  | some (.own _) => some { s with r := s.r.set n (.own l) }
  | _ => none
@[simp] theorem pt_c {n : Nat} {l : List D} : putL s (.c n) l = ptC s n l s.g[n]? := by
  unfold putL ptC
  dsimp only
  all_goals
    cases s.g[n]? with
    | none => rfl
    | some c => cases c <;> rfl
@[simp] theorem pt_b {n : Nat} {l : List D} : putL s (.b n) l = ptB s n l s.r[n]? := by
  unfold putL ptB
  dsimp only
  all_goals
    cases s.r[n]? with
    | none => rfl
    | some c => cases c <;> rfl
@[simp] theorem ptC_l {n : Nat} {l m : List D} : ptC s n l (some (.lst m)) = some ⟨s.g.set n (.lst l), s.r⟩ := rfl
@[simp] theorem ptB_o {n : Nat} {l m : List D} : ptB s n l (some (.own m)) = some ⟨s.g, s.r.set n (.own l)⟩ := rfl
@[simp] theorem dOf_d {x : D} : dOf (.d x) = some x := rfl
@[simp] theorem dsOf_nil : dsOf [] = some [] := rfl
def optM {α β : Type} (x : Option α) (f : α → Option β) : Option β := match x with
  | some a => f a
  | none => none
@[simp] theorem optM_some {α β : Type} {a : α} {f : α → Option β} : optM (some a) f = f a := rfl
@[simp] theorem dsOf_cons {x : D} {l : List W} : dsOf (.d x :: l) = optM (dsOf l) fun m => some (x :: m) := by
  show (dsOf l).map _ = _
  cases dsOf l <;> rfl
@[simp] theorem lks_nil : looks s [] = some [] := rfl
@[simp] theorem lks_cons {w : W} {l : List W} : looks s (w :: l) = optM (look s w) fun a => optM (looks s l) fun b => some (a :: b) := by
  show (match look s w, looks s l with | some a, some b => some (a :: b) | _, _ => none) = _
  cases look s w <;> cases looks s l <;> rfl
end
section
variable {o : Or} {s : Ss}
theorem q_v0 {g : List Cl} {r : List Sl} {i : Nat} : ev o (.v i) ⟨g, r⟩ = slV g r i r[i]? := by
  rw [ev]
  unfold slV
  dsimp only
  all_goals
    cases r[i]? with
    | none => rfl
    | some c => cases c <;> rfl
theorem q_b0 {g : List Cl} {r : List Sl} {i : Nat} : ev o (.b i) ⟨g, r⟩ = slB g r i r[i]? := by
  rw [ev]
  unfold slB
  dsimp only
  all_goals
    cases r[i]? with
    | none => rfl
    | some c => cases c <;> rfl
theorem q_k0 {x : D} : ev o (.k x) s = .ok (.d x) s := by rw [ev]
theorem q_gk0 {n : Str} {x : D} : ev o (.gk n x) s = .ok (.d x) s := by rw [ev]
theorem two_opt {β : Type} {x y : Option D} {f : D → D → Res β} : (match x, y with | some p, some q => f p q | _, _ => .stuck) = opt x fun p => opt y fun q => f p q := by cases x <;> cases y <;> rfl
theorem q_op0 {f : O2} {a b : Ex} : ev o (.op f a b) s = (ev o a s).bind fun x s1 => (ev o b s1).bind fun y s2 => opt (look s2 x) fun p => opt (look s2 y) fun q => opt (opD f p q) fun d => .ok (.d d) s2 := by
  rw [ev]
  refine congrArg (Res.bind _) (funext fun x => funext fun s1 => ?_)
  refine congrArg (Res.bind _) (funext fun y => funext fun s2 => ?_)
  cases look s2 x <;> cases look s2 y <;> try rfl
  show Res.of _ _ = _
  rw [of_opt, opt_map]
  rfl
theorem q_neg0 {a : Ex} : ev o (.neg a) s = (ev o a s).bind fun x s1 => asI x fun i => .ok (.d (.int (-i))) s1 := by
  rw [ev]
  refine congrArg (Res.bind _) (funext fun x => funext fun s1 => ?_)
  cases x with
  | d x => cases x <;> rfl
  | c _ => rfl
  | b _ => rfl
theorem q_cmp0 {f : C2} {a b : Ex} : ev o (.cmp f a b) s = (ev o a s).bind fun x s1 => (ev o b s1).bind fun y s2 => opt (look s2 x) fun p => opt (look s2 y) fun q => opt (cmpD f p q) fun d => .ok (.d (.bl d)) s2 := by
  rw [ev]
  refine congrArg (Res.bind _) (funext fun x => funext fun s1 => ?_)
  refine congrArg (Res.bind _) (funext fun y => funext fun s2 => ?_)
  cases look s2 x <;> cases look s2 y <;> try rfl
  show Res.of _ _ = _
  rw [of_opt, opt_map]
  rfl
theorem q_cmp20 {f g : C2} {a b c : Ex} : ev o (.cmp2 f g a b c) s = (ev o a s).bind fun x s1 => (ev o b s1).bind fun y s2 => opt (look s2 x) fun p => opt (look s2 y) fun q => opt (cmpD f p q) fun d =>
    cnd d ((ev o c s2).bind fun z s3 => opt (look s3 y) fun q' => opt (look s3 z) fun u => opt (cmpD g q' u) fun d => .ok (.d (.bl d)) s3) (.ok (.d (.bl false)) s2) := by
  rw [ev]
  refine congrArg (Res.bind _) (funext fun x => funext fun s1 => ?_)
  refine congrArg (Res.bind _) (funext fun y => funext fun s2 => ?_)
  cases look s2 x with
  | none => rfl
  | some p => cases look s2 y with
    | none => rfl
    | some q =>
      dsimp only [opt]
      cases cmpD f p q with
      | none => rfl
      | some d => cases d with
        | false => rfl
        | true =>
          dsimp only [cnd]
          refine congrArg (Res.bind _) (funext fun z => funext fun s3 => ?_)
          cases look s3 y <;> cases look s3 z <;> try rfl
          show Res.of _ _ = _
          rw [of_opt, opt_map]
          rfl
theorem q_bop10 {an : Bool} {e : Ex} : ev o (.bop an (.cons e .nil)) s = ev o e s := by rw [ev, evB]
theorem q_bop0 {an : Bool} {e e' : Ex} {r : Exs} : ev o (.bop an (.cons e (.cons e' r))) s = (ev o e s).bind fun x s1 => asB x fun c => cnd (c == an) (ev o (.bop an (.cons e' r)) s1) (.ok (.d (.bl c)) s1) := by
  rw [ev, evB]
  refine congrArg (Res.bind _) (funext fun x => funext fun s1 => ?_)
  cases x with
  | d x => cases x <;> try rfl
           show (if _ then _ else _) = _
           rw [iteb_cnd]
           rw [ev]
           rfl
  | c _ => rfl
  | b _ => rfl
theorem q_not0 {a : Ex} : ev o (.not a) s = (ev o a s).bind fun x s1 => asB x fun c => .ok (.d (.bl (!c))) s1 := by
  rw [ev]
  refine congrArg (Res.bind _) (funext fun x => funext fun s1 => ?_)
  cases x with
  | d x => cases x <;> rfl
  | c _ => rfl
  | b _ => rfl
theorem q_ite0 {t : Te} {a b : Ex} : ev o (.ite t a b) s = (evT o t s).bind fun c s1 => cnd c (ev o a s1) (ev o b s1) := by
  rw [ev]
  refine congrArg (Res.bind _) (funext fun x => funext fun s1 => ?_)
  rw [iteb_cnd]
theorem q_tup0 {es : Exs} : ev o (.tup es) s = (evs o es s).bind fun ws s1 => opt (dsOf ws) fun ds => cnd (decide (ds.length ≤ sizeLine)) (.ok (.d (.tup ds)) s1) .stuck := by
  rw [ev]
  refine congrArg (Res.bind _) (funext fun x => funext fun s1 => ?_)
  cases dsOf x with
  | none => rfl
  | some ds => show (if _ then _ else _) = _; rw [ite_cnd]; rfl
theorem q_fz0 {f : Fx} : ev o (.fz f) s = (evF o f s).bind fun l s1 => .ok (.d (.lst l)) s1 := by rw [ev]
theorem q_mk0 {f : Fx} : ev o (.mk f) s = (evF o f s).bind fun l s1 => .ok (.c s1.g.length) ⟨s1.g ++ [.lst l], s1.r⟩ := by rw [ev]
theorem q_sub0 {a i : Ex} : ev o (.sub a i) s = (ev o a s).bind fun x s1 => (ev o i s1).bind fun y s2 => opt (look s2 x) fun p => asD y fun q => opt (subD p q) fun d => .ok (.d d) s2 := by
  rw [ev]
  refine congrArg (Res.bind _) (funext fun x => funext fun s1 => ?_)
  refine congrArg (Res.bind _) (funext fun y => funext fun s2 => ?_)
  cases look s2 x with
  | none => cases y <;> rfl
  | some p => cases y with
    | d q => show Res.of _ _ = _; rw [of_opt, opt_map]; rfl
    | c _ => rfl
    | b _ => rfl
theorem q_sli0 {a : Ex} {lo hi : Exo} : ev o (.sli a lo hi) s = (ev o a s).bind fun x s1 => (evo o lo s1).bind fun l s2 => (evo o hi s2).bind fun h s3 => opt (look s3 x) fun p => opt (sliD p l h) fun d => .ok (.d d) s3 := by
  rw [ev]
  refine congrArg (Res.bind _) (funext fun x => funext fun s1 => ?_)
  refine congrArg (Res.bind _) (funext fun l => funext fun s2 => ?_)
  refine congrArg (Res.bind _) (funext fun h => funext fun s3 => ?_)
  cases look s3 x with
  | none => rfl
  | some p => show Res.of _ _ = _; rw [of_opt, opt_map]; rfl
theorem q_call0 {f p : Nat} {es kes : Exs} : ev o (.call f p es kes) s = (evs o es s).bind fun ws s1 => (evs o kes s1).bind fun zs s2 => cbind (o f p ws zs s2.g) (fun w g => .ok w ⟨g, s2.r⟩) (fun e g => .exc e ⟨g, s2.r⟩) := by
  rw [ev]
  refine congrArg (Res.bind _) (funext fun x => funext fun s1 => ?_)
  refine congrArg (Res.bind _) (funext fun zs => funext fun s2 => ?_)
  cases o f p x zs s2.g with
  | ok w g => cases w <;> rfl
  | exc _ _ => rfl
  | stuck => rfl
theorem q_bi0 {b : Bi} {es : Exs} : ev o (.bi b es) s = (evs o es s).bind fun ws s1 => opt (looks s1 ws) fun ds => opt (biD b ds) fun d => .ok (.d d) s1 := by
  rw [ev]
  refine congrArg (Res.bind _) (funext fun x => funext fun s1 => ?_)
  cases looks s1 x with
  | none => rfl
  | some p => show Res.of _ _ = _; rw [of_opt, opt_map]; rfl
theorem q_isi0 {a : Ex} {t : String} : ev o (.isi a t) s = (ev o a s).bind fun x s1 => opt (look s1 x) fun p => opt (isiD p t) fun d => .ok (.d (.bl d)) s1 := by
  rw [ev]
  refine congrArg (Res.bind _) (funext fun x => funext fun s1 => ?_)
  cases look s1 x with
  | none => rfl
  | some p => show Res.of _ _ = _; rw [of_opt, opt_map]; rfl
theorem q_sm0 {m : Sm} {x a : Ex} : ev o (.sm m x a) s = (ev o x s).bind fun x s1 => asS x fun z => (ev o a s1).bind fun y s2 => opt (look s2 y) fun q => opt (smD m z q) fun d => .ok (.d d) s2 := by
  rw [ev]
  refine congrArg (Res.bind _) (funext fun x => funext fun s1 => ?_)
  cases x with
  | d x =>
    cases x <;> try rfl
    dsimp only [asS]
    refine congrArg (Res.bind _) (funext fun y => funext fun s2 => ?_)
    cases look s2 y with
    | none => rfl
    | some p => show Res.of _ _ = _; rw [of_opt, opt_map]; rfl
  | c _ => rfl
  | b _ => rfl
theorem q_fs0 {ps : Exs} : ev o (.fs ps) s = (evJ o ps Str.empty s).bind fun z s1 => .ok (.d (.str z)) s1 := by rw [ev]
theorem q_app0 {c e : Ex} : ev o (.app c e) s = (ev o c s).bind fun x s1 => opt (getL s1 x) fun _ => (ev o e s1).bind fun y s2 => opt (getL s2 x) fun l => asD y fun d =>
    cnd (decide (l.length < sizeLine)) (opt (putL s2 x (l ++ [d])) fun s3 => .ok (.d .non) s3) .stuck := by
  rw [ev]
  refine congrArg (Res.bind _) (funext fun x => funext fun s1 => ?_)
  cases getL s1 x with
  | none => rfl
  | some _ =>
    dsimp only [opt]
    refine congrArg (Res.bind _) (funext fun y => funext fun s2 => ?_)
    cases getL s2 x with
    | none => cases y <;> rfl
    | some l => cases y with
      | d d =>
        show (if _ then _ else _) = _
        rw [ite_cnd]
        dsimp only [asD]
        congr 1
        cases putL s2 x (l ++ [d]) <;> rfl
      | c _ => rfl
      | b _ => rfl
theorem q_popl0 {c : Ex} : ev o (.popl c) s = (ev o c s).bind fun x s1 => opt (getL s1 x) fun l => opt l.getLast? fun d => opt (putL s1 x l.dropLast) fun s3 => .ok (.d d) s3 := by
  rw [ev]
  refine congrArg (Res.bind _) (funext fun x => funext fun s1 => ?_)
  cases getL s1 x with
  | none => rfl
  | some l =>
    dsimp only [opt]
    cases l.getLast? with
    | none => rfl
    | some d =>
      dsimp only
      cases putL s1 x l.dropLast <;> rfl
theorem q_popa0 {c i : Ex} : ev o (.popa c i) s = (ev o c s).bind fun x s1 => opt (getL s1 x) fun _ => (ev o i s1).bind fun y s2 => opt (getL s2 x) fun l => asI y fun i =>
    cnd (decide (0 ≤ i ∧ i < l.length ∧ i < 2 ^ 63)) (opt l[i.toNat]? fun d => opt (putL s2 x (l.eraseIdx i.toNat)) fun s3 => .ok (.d d) s3) .stuck := by
  rw [ev]
  refine congrArg (Res.bind _) (funext fun x => funext fun s1 => ?_)
  cases getL s1 x with
  | none => rfl
  | some _ =>
    dsimp only [opt]
    refine congrArg (Res.bind _) (funext fun y => funext fun s2 => ?_)
    cases getL s2 x with
    | none => cases y with
      | d q => cases q <;> rfl
      | c _ => rfl
      | b _ => rfl
    | some l => cases y with
      | d q =>
        cases q <;> try rfl
        show (if _ then _ else _) = _
        rw [ite_cnd]
        dsimp only [asI]
        congr 1
        rename_i i
        cases l[i.toNat]? with
        | none => rfl
        | some d =>
          dsimp only
          cases putL s2 x (l.eraseIdx i.toNat) <;> rfl
      | c _ => rfl
      | b _ => rfl
theorem q_no0 : evo o .no s = .ok none s := by rw [evo]
theorem q_so0 {e : Ex} : evo o (.so e) s = (ev o e s).bind fun x s1 => asI x fun i => .ok (some i) s1 := by
  rw [evo]
  refine congrArg (Res.bind _) (funext fun x => funext fun s1 => ?_)
  cases x with
  | d x => cases x <;> rfl
  | c _ => rfl
  | b _ => rfl
theorem q_nil0 : evs o .nil s = .ok [] s := by rw [evs]
theorem q_cons0 {e : Ex} {r : Exs} : evs o (.cons e r) s = (ev o e s).bind fun x s1 => (evs o r s1).bind fun xs s2 => .ok (x :: xs) s2 := by rw [evs]
theorem q_star0 {e : Ex} {r : Exs} : evs o (.star e r) s = (ev o e s).bind fun x s1 => asD x fun q => asLT q fun l => (evs o r s1).bind fun xs s2 => .ok (l.map W.d ++ xs) s2 := by
  rw [evs]
  refine congrArg (Res.bind _) (funext fun x => funext fun s1 => ?_)
  cases x with
  | d x => cases x <;> rfl
  | c _ => rfl
  | b _ => rfl
theorem q_jnil0 {z : Str} : evJ o .nil z s = .ok z s := by rw [evJ]
theorem q_jcons0 {e : Ex} {r : Exs} {z : Str} : evJ o (.cons e r) z s = (ev o e s).bind fun x s1 => opt (look s1 x) fun d => opt (fmtD d) fun t => cnd (decide ((z ++ t).length ≤ sizeLine)) (evJ o r (z ++ t) s1) .stuck := by
  rw [evJ]
  refine congrArg (Res.bind _) (funext fun x => funext fun s1 => ?_)
  cases look s1 x with
  | none => rfl
  | some d =>
    dsimp only [opt]
    cases fmtD d with
    | none => rfl
    | some t => show (if _ then _ else _) = _; rw [ite_cnd]
theorem q_te0 {x : Ex} : evT o (.e x) s = (ev o x s).bind fun w s1 => opt (look s1 w) fun d => opt (truD d) fun b => .ok b s1 := by
  rw [evT]
  refine congrArg (Res.bind _) (funext fun x => funext fun s1 => ?_)
  cases look s1 x with
  | none => rfl
  | some p => show Res.of _ _ = _; rw [of_opt]; rfl
theorem q_tnot0 {t : Te} : evT o (.not t) s = (evT o t s).bind fun c s1 => .ok (!c) s1 := by rw [evT]
theorem q_tbop0 {an : Bool} {ts : Tes} : evT o (.bop an ts) s = evTs o an ts s := by rw [evT]
theorem q_tsnil0 {an : Bool} : evTs o an .nil s = .ok an s := by rw [evTs]
theorem q_tscons0 {an : Bool} {t : Te} {r : Tes} : evTs o an (.cons t r) s = (evT o t s).bind fun c s1 => cnd (c == an) (evTs o an r s1) (.ok c s1) := by
  rw [evTs]
  refine congrArg (Res.bind _) (funext fun x => funext fun s1 => ?_)
  rw [iteb_cnd]
theorem q_tcmp0 {f : C2} {a b : Ex} : evT o (.cmp f a b) s = (ev o a s).bind fun x s1 => (ev o b s1).bind fun y s2 => opt (look s2 x) fun p => opt (look s2 y) fun q => opt (cmpD f p q) fun d => .ok d s2 := by
  rw [evT]
  refine congrArg (Res.bind _) (funext fun x => funext fun s1 => ?_)
  refine congrArg (Res.bind _) (funext fun y => funext fun s2 => ?_)
  cases look s2 x with
  | none => cases look s2 y <;> rfl
  | some p => cases look s2 y with
    | none => rfl
    | some q =>
      show Res.of (cmpD f p q) s2 = opt (cmpD f p q) fun d => .ok d s2
      exact of_opt
theorem q_tcmp20 {f g : C2} {a b c : Ex} : evT o (.cmp2 f g a b c) s = (ev o a s).bind fun x s1 => (ev o b s1).bind fun y s2 => opt (look s2 x) fun p => opt (look s2 y) fun q => opt (cmpD f p q) fun d =>
    cnd d ((ev o c s2).bind fun z s3 => opt (look s3 y) fun q' => opt (look s3 z) fun u => opt (cmpD g q' u) fun d => .ok d s3) (.ok false s2) := by
  rw [evT]
  refine congrArg (Res.bind _) (funext fun x => funext fun s1 => ?_)
  refine congrArg (Res.bind _) (funext fun y => funext fun s2 => ?_)
  cases look s2 x with
  | none => rfl
  | some p => cases look s2 y with
    | none => rfl
    | some q =>
      dsimp only [opt]
      cases cmpD f p q with
      | none => rfl
      | some d => cases d with
        | false => rfl
        | true =>
          dsimp only [cnd]
          refine congrArg (Res.bind _) (funext fun z => funext fun s3 => ?_)
          cases look s3 y with
          | none => cases look s3 z <;> rfl
          | some p => cases look s3 z with
            | none => rfl
            | some q => exact of_opt
theorem q_disp0 {es : Exs} : evF o (.disp es) s = (evs o es s).bind fun ws s1 => opt (dsOf ws) fun ds => cnd (decide (ds.length ≤ sizeLine)) (.ok ds s1) .stuck := by
  rw [evF]
  refine congrArg (Res.bind _) (funext fun x => funext fun s1 => ?_)
  cases dsOf x with
  | none => rfl
  | some ds => show (if _ then _ else _) = _; rw [ite_cnd]; rfl
theorem q_cat0 {a b : Ex} : evF o (.cat a b) s = (ev o a s).bind fun x s1 => (ev o b s1).bind fun y s2 => opt (lookL s2 x) fun l => opt (lookL s2 y) fun m => cnd (decide (l.length + m.length ≤ sizeLine)) (.ok (l ++ m) s2) .stuck := by
  rw [evF]
  refine congrArg (Res.bind _) (funext fun x => funext fun s1 => ?_)
  refine congrArg (Res.bind _) (funext fun y => funext fun s2 => ?_)
  cases lookL s2 x <;> cases lookL s2 y <;> try rfl
  show (if _ then _ else _) = _
  rw [ite_cnd]
  rfl
theorem q_rep0 {a b : Ex} : evF o (.rep a b) s = (ev o a s).bind fun x s1 => (ev o b s1).bind fun y s2 => opt (lookL s2 x) fun l => asI y fun k =>
    cnd (decide (-(2 ^ 63) ≤ k ∧ k < 2 ^ 63 ∧ l.length * k.toNat ≤ sizeLine)) (.ok (List.replicate k.toNat l).flatten s2) .stuck := by
  rw [evF]
  refine congrArg (Res.bind _) (funext fun x => funext fun s1 => ?_)
  refine congrArg (Res.bind _) (funext fun y => funext fun s2 => ?_)
  cases lookL s2 x with
  | none => cases y with
    | d q => cases q <;> rfl
    | c _ => rfl
    | b _ => rfl
  | some l => cases y with
    | d q =>
      cases q <;> try rfl
      show (if _ then _ else _) = _
      rw [ite_cnd]
      rfl
    | c _ => rfl
    | b _ => rfl
theorem q_cpy0 {a : Ex} : evF o (.cpy a) s = (ev o a s).bind fun x s1 => opt (look s1 x) fun q => asLT q fun l => .ok l s1 := by
  rw [evF]
  refine congrArg (Res.bind _) (funext fun x => funext fun s1 => ?_)
  cases look s1 x with
  | none => rfl
  | some q => cases q <;> rfl
theorem q_fsli0 {a : Ex} {lo hi : Exo} : evF o (.sli a lo hi) s = (ev o a s).bind fun x s1 => (evo o lo s1).bind fun l s2 => (evo o hi s2).bind fun h s3 => opt (look s3 x) fun q => asLD q fun m => .ok (cutD m l h) s3 := by
  rw [evF]
  refine congrArg (Res.bind _) (funext fun x => funext fun s1 => ?_)
  refine congrArg (Res.bind _) (funext fun l => funext fun s2 => ?_)
  refine congrArg (Res.bind _) (funext fun h => funext fun s3 => ?_)
  cases look s3 x with
  | none => rfl
  | some q => cases q <;> rfl
theorem q_rev0 {a : Ex} : evF o (.rev a) s = (ev o a s).bind fun x s1 => opt (look s1 x) fun q => asLD q fun m => .ok m.reverse s1 := by
  rw [evF]
  refine congrArg (Res.bind _) (funext fun x => funext fun s1 => ?_)
  cases look s1 x with
  | none => rfl
  | some q => cases q <;> rfl
/-- the block of a comprehension, and what it leaves -/
def lcE (o : Or) (ifs : Tes) (e : Ex) (acc : List D) (s : Ss) : Res (List D) := (evTs o true ifs s).bind fun c s4 => cnd c ((ev o e s4).bind fun y s5 => addD acc y s5) (.ok acc s4)
def lcT (o : Or) (t : Tg) (ifs : Tes) (e : Ex) (vs : List Nat) (x : D) (acc : List D) (s : Ss) : Res (List D) := opt (bindG (nR s.r vs) t x) fun r3 => lcE o ifs e acc ⟨s.g, r3⟩
def lcT2 (o : Or) (t : Tg) (ifs : Tes) (t1 : Tg) (i1 : It) (ifs1 : Tes) (e : Ex) (vs vs1 : List Nat) (x : D) (acc : List D) (s : Ss) : Res (List D) := opt (bindG (nR s.r vs) t x) fun r3 => (evTs o true ifs ⟨s.g, r3⟩).bind fun c s4 =>
  cnd c ((evI o i1 s4).bind fun l1 s5 => comp (lcT o t1 ifs1 e vs1) l1 acc s5) (.ok acc s4)
theorem turn_lc {t : Tg} {vs : List Nat} {ifs : Tes} {e : Ex} : turnC t vs (evTs o true ifs) (fun acc s4 => (ev o e s4).bind fun y s5 => addD acc y s5) = lcT o t ifs e vs := by
  funext x acc s
  unfold turnC lcT lcE
  cases bindG (nR s.r vs) t x with
  | none => rfl
  | some r3 =>
    dsimp only [opt]
    refine congrArg (Res.bind _) (funext fun c => funext fun s4 => ?_)
    rw [iteb_cnd]
theorem q_lc0 {t : Tg} {i : It} {ifs : Tes} {e : Ex} {vs : List Nat} : evF o (.lc t i ifs e vs) s = (evI o i s).bind fun l s1 => cnd (noOwn s1.r vs) ((comp (lcT o t ifs e vs) l [] s1).bind fun acc s2 => .ok acc ⟨s2.g, backR s1.r s2.r vs⟩) .stuck := by
  rw [evF, turn_lc]
  refine congrArg (Res.bind _) (funext fun l => funext fun s1 => ?_)
  rw [iteb_cnd]
theorem q_lc20 {t t1 : Tg} {i i1 : It} {ifs ifs1 : Tes} {e : Ex} {vs vs1 : List Nat} : evF o (.lc2 t i ifs t1 i1 ifs1 e vs vs1) s = (evI o i s).bind fun l s1 => cnd (noOwn s1.r vs) ((comp (lcT2 o t ifs t1 i1 ifs1 e vs vs1) l [] s1).bind fun acc s2 => .ok acc ⟨s2.g, backR s1.r s2.r vs⟩) .stuck := by
  rw [evF, turn_lc]
  refine congrArg (Res.bind _) (funext fun l => funext fun s1 => ?_)
  rw [iteb_cnd]
  congr 2
  congr 1
  funext x acc s
  unfold turnC lcT2
  cases bindG (nR s.r vs) t x with
  | none => rfl
  | some r3 =>
    dsimp only [opt]
    refine congrArg (Res.bind _) (funext fun c => funext fun s4 => ?_)
    rw [iteb_cnd]
theorem q_cnil0 {f : D → List D → Ss → Res (List D)} {acc : List D} : comp f [] acc s = .ok acc s := rfl
theorem q_cconsE {f : D → List D → Ss → Res (List D)} {acc l : List D} {x : D} (hf : ∀ e s', f x acc s ≠ .exc e s') : comp f (x :: l) acc s = (f x acc s).bind fun acc' s' => comp f l acc' s' := by
  show (match f x acc s with | .ok acc' s' => comp f l acc' s' | _ => .stuck) = _
  cases h : f x acc s with
  | ok _ _ => rfl
  | exc e s' => exact absurd h (hf e s')
  | stuck => rfl
theorem q_isq0 {e : Ex} : evI o (.sq e) s = (ev o e s).bind fun x s1 => asD x fun d => opt (itemsD d) fun l => .ok l s1 := by
  rw [evI]
  refine congrArg (Res.bind _) (funext fun x => funext fun s1 => ?_)
  cases x with
  | d x => show Res.of _ _ = _; rw [of_opt]; rfl
  | c _ => rfl
  | b _ => rfl
theorem q_irg10 {e : Ex} : evI o (.rg1 e) s = (ev o e s).bind fun x s1 => asI x fun j => opt (rgD 0 j) fun l => .ok l s1 := by
  rw [evI]
  refine congrArg (Res.bind _) (funext fun x => funext fun s1 => ?_)
  cases x with
  | d x =>
    cases x <;> first | rfl | exact of_opt
  | c _ => rfl
  | b _ => rfl
theorem q_irg20 {a b : Ex} : evI o (.rg2 a b) s = (ev o a s).bind fun x s1 => (ev o b s1).bind fun y s2 => asI x fun i => asI y fun j => opt (rgD i j) fun l => .ok l s2 := by
  rw [evI]
  refine congrArg (Res.bind _) (funext fun x => funext fun s1 => ?_)
  refine congrArg (Res.bind _) (funext fun y => funext fun s2 => ?_)
  cases x with
  | d x =>
    cases x <;> cases y <;> try rfl
    rename_i q
    cases q <;> first | rfl | exact of_opt
  | c _ => rfl
  | b _ => rfl
theorem q_ien0 {e : Ex} : evI o (.en e) s = (ev o e s).bind fun x s1 => asD x fun d => asLT d fun l => .ok (enD l) s1 := by
  rw [evI]
  refine congrArg (Res.bind _) (funext fun x => funext fun s1 => ?_)
  cases x with
  | d x => cases x <;> rfl
  | c _ => rfl
  | b _ => rfl
theorem q_izp0 {a b : Ex} : evI o (.zp a b) s = (ev o a s).bind fun x s1 => (ev o b s1).bind fun y s2 => asL x fun l => asL y fun m => .ok (zpD l m) s2 := by
  rw [evI]
  refine congrArg (Res.bind _) (funext fun x => funext fun s1 => ?_)
  refine congrArg (Res.bind _) (funext fun y => funext fun s2 => ?_)
  cases x with
  | d x =>
    cases x <;> cases y <;> try rfl
    rename_i q
    cases q <;> rfl
  | c _ => rfl
  | b _ => rfl
def sqF (o : Or) (r : Sxs) (c : Fl) (s : Ss) : Res Fl := match c with
  | .nx => exs o r s
  | c => .ok c s
@[simp] theorem sqF_nx {r : Sxs} : sqF o r .nx s = exs o r s := rfl
@[simp] theorem sqF_rt {r : Sxs} {w : W} : sqF o r (.rt w) s = .ok (.rt w) s := rfl
@[simp] theorem sqF_bk {r : Sxs} : sqF o r .bk s = .ok .bk s := rfl
@[simp] theorem sqF_ct {r : Sxs} : sqF o r .ct s = .ok .ct s := rfl
theorem q_snil0 : exs o .nil s = .ok .nx s := by rw [exs]
theorem q_scons0 {a : Sx} {r : Sxs} : exs o (.cons a r) s = (ex1 o a s).bind fun c s1 => sqF o r c s1 := by
  rw [exs]
  refine congrArg (Res.bind _) (funext fun c => funext fun s1 => ?_)
  cases c <;> rfl
theorem isB_nB {β : Type} {w : W} {a : Res β} : (if w.isB = true then .stuck else a) = nB w a := by cases w <;> rfl
theorem q_set0 {i : Nat} {e : Ex} : ex1 o (.set i e) s = (ev o e s).bind fun w s1 => nB w (.ok .nx ⟨s1.g, s1.r.set i (.w w)⟩) := by
  rw [ex1]
  refine congrArg (Res.bind _) (funext fun c => funext fun s1 => ?_)
  rw [isB_nB]
theorem q_own0 {i : Nat} {f : Fx} : ex1 o (.own i f) s = (evF o f s).bind fun l s1 => .ok .nx ⟨s1.g, s1.r.set i (.own l)⟩ := by rw [ex1]
theorem q_par0 {l : List (Nat × Rh)} : ex1 o (.par l) s = (evR o l s).bind fun xs s1 => .ok .nx ⟨s1.g, setsR s1.r xs⟩ := by rw [ex1]
theorem q_rnil0 : evR o [] s = .ok [] s := rfl
theorem q_rex0 {i : Nat} {e : Ex} {l : List (Nat × Rh)} : evR o ((i, .ex e) :: l) s = (ev o e s).bind fun w s1 => nB w ((evR o l s1).bind fun xs s2 => .ok ((i, .w w) :: xs) s2) := by
  show (ev o e s).bind _ = _
  refine congrArg (Res.bind _) (funext fun c => funext fun s1 => ?_)
  rw [isB_nB]
theorem q_row0 {i : Nat} {f : Fx} {l : List (Nat × Rh)} : evR o ((i, .ow f) :: l) s = (evF o f s).bind fun d s1 => (evR o l s1).bind fun xs s2 => .ok ((i, .own d) :: xs) s2 := rfl
@[simp] theorem sets_nil {r : List Sl} : setsR r [] = r := rfl
@[simp] theorem sets_cons {r : List Sl} {i : Nat} {x : Sl} {l : List (Nat × Sl)} : setsR r ((i, x) :: l) = setsR (r.set i x) l := rfl
theorem q_unp0 {t : Tg} {e : Ex} : ex1 o (.unp t e) s = (ev o e s).bind fun w s1 => asD w fun x => opt (bindG s1.r t x) fun r => .ok .nx ⟨s1.g, r⟩ := by
  rw [ex1]
  refine congrArg (Res.bind _) (funext fun w => funext fun s1 => ?_)
  cases w with
  | d x =>
    dsimp only [asD]
    cases bindG s1.r t x <;> rfl
  | c _ => rfl
  | b _ => rfl
theorem q_sset0 {c i e : Ex} : ex1 o (.sset c i e) s = (ev o e s).bind fun v s1 => (ev o c s1).bind fun w s2 => (ev o i s2).bind fun k s3 => asD v fun d => opt (getL s3 w) fun l => asI k fun n => opt (ixD l.length n) fun j => opt (putL s3 w (l.set j d)) fun s4 => .ok .nx s4 := by
  rw [ex1]
  refine congrArg (Res.bind _) (funext fun v => funext fun s1 => ?_)
  refine congrArg (Res.bind _) (funext fun w => funext fun s2 => ?_)
  refine congrArg (Res.bind _) (funext fun k => funext fun s3 => ?_)
  cases v with
  | d x =>
    dsimp only [asD, dOf]
    cases getL s3 w with
    | none => cases k with
      | d q => cases q <;> rfl
      | c _ => rfl
      | b _ => rfl
    | some l =>
      cases k with
      | d q =>
        cases q <;> try rfl
        dsimp only [asI, opt]
        rename_i n
        cases ixD l.length n with
        | none => rfl
        | some j =>
          dsimp only
          cases putL s3 w (l.set j x) <;> rfl
      | c _ => rfl
      | b _ => rfl
  | c _ => rfl
  | b _ => rfl
def agS {β : Type} (x : Option Sl) (f : Int → Res β) : Res β := match x with
  | some (.w (.d (.int x))) => f x
  | _ => .stuck
theorem agS_i {β : Type} {x : Int} {f : Int → Res β} : agS (some (.w (.d (.int x)))) f = f x := rfl
theorem q_aug0 {i : Nat} {f : O2} {e : Ex} : ex1 o (.aug i f e) s = agS s.r[i]? fun x => (ev o e s).bind fun w s1 => asD w fun y => opt (opD f (.int x) y) fun z => .ok .nx ⟨s1.g, s1.r.set i (.w (.d z))⟩ := by
  rw [ex1]
  cases s.r[i]? with
  | none => rfl
  | some q => cases q with
    | no => rfl
    | own _ => rfl
    | w x => cases x with
      | d x =>
        cases x <;> try rfl
        dsimp only [agS]
        refine congrArg (Res.bind _) (funext fun w => funext fun s1 => ?_)
        cases w with
        | d y =>
          dsimp only [asD, dOf]
          rename_i x
          cases opD f (.int x) y <;> rfl
        | c _ => rfl
        | b _ => rfl
      | c _ => rfl
      | b _ => rfl
theorem q_ex0 {e : Ex} : ex1 o (.ex e) s = (ev o e s).bind fun _ s1 => .ok .nx s1 := by rw [ex1]
theorem q_ret0 {e : Ex} : ex1 o (.ret e) s = (ev o e s).bind fun w s1 => nB w (.ok (.rt w) s1) := by
  rw [ex1]
  refine congrArg (Res.bind _) (funext fun w => funext fun s1 => ?_)
  rw [isB_nB]
theorem q_retn0 : ex1 o .retn s = .ok (.rt (.d .non)) s := by rw [ex1]
theorem q_ife0 {t : Te} {a b : Sxs} : ex1 o (.ife t a b) s = (evT o t s).bind fun c s1 => cnd c (exs o a s1) (exs o b s1) := by
  rw [ex1]
  refine congrArg (Res.bind _) (funext fun w => funext fun s1 => ?_)
  rw [iteb_cnd]
def forB (o : Or) (t : Tg) (b : Sxs) (x : D) (s : Ss) : Res Fl := opt (bindG s.r t x) fun r => exs o b ⟨s.g, r⟩
theorem q_for0 {t : Tg} {i : It} {b : Sxs} : ex1 o (.for_ t i b) s = (evI o i s).bind fun l s1 => forL (forB o t b) l s1 := by
  rw [ex1]
  refine congrArg (Res.bind _) (funext fun l => funext fun s1 => ?_)
  refine congrArg (fun z => forL z l s1) (funext fun x => funext fun s => ?_)
  unfold forB
  cases bindG s.r t x <;> rfl
theorem q_whl0 {n : Nat} {t : Te} {b : Sxs} : ex1 o (.whl n t b) s = whlL (evT o t) (exs o b) n s := by rw [ex1]
theorem q_brk0 : ex1 o .brk s = .ok .bk s := by rw [ex1]
theorem q_cnt0 : ex1 o .cnt s = .ok .ct s := by rw [ex1]
theorem q_pas0 : ex1 o .pas s = .ok .nx s := by rw [ex1]
def fsF (f : D → Ss → Res Fl) (l : List D) (c : Fl) (s : Ss) : Res Fl := match c with
  | .nx | .ct => forL f l s
  | .bk => .ok .nx s
  | .rt w => .ok (.rt w) s
@[simp] theorem fsF_nx {f : D → Ss → Res Fl} {l : List D} : fsF f l .nx s = forL f l s := rfl
@[simp] theorem fsF_ct {f : D → Ss → Res Fl} {l : List D} : fsF f l .ct s = forL f l s := rfl
@[simp] theorem fsF_bk {f : D → Ss → Res Fl} {l : List D} : fsF f l .bk s = .ok .nx s := rfl
@[simp] theorem fsF_rt {f : D → Ss → Res Fl} {l : List D} {w : W} : fsF f l (.rt w) s = .ok (.rt w) s := rfl
theorem q_fnil0 {f : D → Ss → Res Fl} : forL f [] s = .ok .nx s := rfl
theorem q_fcons0 {f : D → Ss → Res Fl} {x : D} {l : List D} : forL f (x :: l) s = (f x s).bind fun c s' => fsF f l c s' := by
  show (f x s).bind _ = _
  refine congrArg (Res.bind _) (funext fun c => funext fun s1 => ?_)
  cases c <;> rfl
theorem q_run {tab : List Fn} {n f p : Nat} {ws zs as : List W} {g : List Cl} {fd : Fn} (h1 : tab[f]? = some fd) (h2 : argsOf fd p ws zs = some as) : run tab (n + 1) f p ws zs g = fin (exs (run tab n) fd.body ⟨g, startR fd as⟩) := by
  have h : run tab (n + 1) f p ws zs g = runB (run tab n) fd as g := by
    rw [run]
    simp only [h1, h2]
  rw [h]
  unfold runB
  cases exs (run tab n) fd.body ⟨g, startR fd as⟩ with
  | ok c s => cases c <;> rfl
  | exc _ _ => rfl
  | stuck => rfl
end

class KF (α β : Type) where f : α → Ss → Res β
class K1 (α β : Type) where f : α → Res β
class KP (β : Type) where
  t : Res β
  e : Res β
class K0 (β : Type) where t : Res β
class KC (β : Type) where
  f : W → List Cl → Res β
  e : D → List Cl → Res β
class KQ (α : Type) where q : α → Ss → Prop
class KR where q : W → List Cl → Prop
section
variable {α β : Type}
def bd (x : Res α) [k : KF α β] : Res β := x.bind k.f
def opt' (x : Option α) [k : K1 α β] : Res β := opt x k.f
def cnd' (c : Bool) [k : KP β] : Res β := cnd c k.t k.e
def asD' (w : W) [k : K1 D β] : Res β := asD w k.f
def asI' (w : W) [k : K1 Int β] : Res β := asI w k.f
def asB' (w : W) [k : K1 Bool β] : Res β := asB w k.f
def asS' (w : W) [k : K1 Str β] : Res β := asS w k.f
def asL' (w : W) [k : K1 (List D) β] : Res β := asL w k.f
def asLD' (w : D) [k : K1 (List D) β] : Res β := asLD w k.f
def asLT' (w : D) [k : K1 (List D) β] : Res β := asLT w k.f
def agS' (w : Option Sl) [k : K1 Int β] : Res β := agS w k.f
def nB' (w : W) [k : K0 β] : Res β := nB w k.t
def cbind' (r : Cr) [k : KC β] : Res β := cbind r k.f k.e
@[irreducible] def wq (r : Res α) [k : KQ α] : Prop := r.wp k.q
@[irreducible] def wc (r : Cr) [k : KR] : Prop := r.wp k.q
theorem wq_def {r : Res α} {k : KQ α} : wq r (k := k) = r.wp k.q := by unfold wq; rfl
theorem wc_def {r : Cr} {k : KR} : wc r (k := k) = r.wp k.q := by unfold wc; rfl
variable {a : α} {s : Ss} {g : List Cl} {w : W} {x : D} {i : Int} {c : Bool} {z : Str} {l : List D}
@[simp] theorem bd_ok [k : KF α β] : bd (Res.ok a s) (k := k) = k.f a s := rfl
@[simp] theorem bd_exc [k : KF α β] : bd (Res.exc (α := α) x s) (k := k) = .exc x s := rfl
@[simp] theorem opt_some' [k : K1 α β] : opt' (some a) (k := k) = k.f a := rfl
@[simp] theorem cnd_t' [k : KP β] : cnd' true (k := k) = k.t := rfl
@[simp] theorem cnd_f' [k : KP β] : cnd' false (k := k) = k.e := rfl
@[simp] theorem asD_d' [k : K1 D β] : asD' (.d x) (k := k) = k.f x := rfl
@[simp] theorem asI_i' [k : K1 Int β] : asI' (.d (.int i)) (k := k) = k.f i := rfl
@[simp] theorem asB_b' [k : K1 Bool β] : asB' (.d (.bl c)) (k := k) = k.f c := rfl
@[simp] theorem asS_s' [k : K1 Str β] : asS' (.d (.str z)) (k := k) = k.f z := rfl
@[simp] theorem asL_l' [k : K1 (List D) β] : asL' (.d (.lst l)) (k := k) = k.f l := rfl
@[simp] theorem asLD_l' [k : K1 (List D) β] : asLD' (.lst l) (k := k) = k.f l := rfl
@[simp] theorem asLT_l' [k : K1 (List D) β] : asLT' (.lst l) (k := k) = k.f l := rfl
@[simp] theorem asLT_t' [k : K1 (List D) β] : asLT' (.tup l) (k := k) = k.f l := rfl
@[simp] theorem agS_i' [k : K1 Int β] : agS' (some (.w (.d (.int i)))) (k := k) = k.f i := rfl
@[simp] theorem nB_d' [k : K0 β] : nB' (.d x) (k := k) = k.t := rfl
@[simp] theorem nB_c' {n : Nat} [k : K0 β] : nB' (.c n) (k := k) = k.t := rfl
@[simp] theorem cb_ok' [k : KC β] : cbind' (.ok w g) (k := k) = nB' w (k := ⟨k.f w g⟩) := rfl
@[simp] theorem cb_exc' [k : KC β] : cbind' (.exc x g) (k := k) = k.e x g := rfl
@[simp] theorem wq_ok [k : KQ α] : wq (Res.ok a s) (k := k) = k.q a s := by rw [wq_def]; rfl
@[simp] theorem wc_ok [k : KR] : wc (Cr.ok w g) (k := k) = k.q w g := by rw [wc_def]; rfl
@[simp] theorem wq_bd {X : Res α} {k : KF α β} {q : KQ β} : wq (bd X (k := k)) (k := q) = wq X (k := ⟨fun a s => wq (k.f a s) (k := q)⟩) := by
  rw [wq_def, wq_def]
  cases X
  · show Res.wp (k.f _ _) q.q = wq (k.f _ _) (k := q)
    rw [wq_def]
  · rfl
  · rfl
@[simp] theorem wc_fin {r : Res Fl} {q : KR} : wc (fin r) (k := q) = wq r (k := ⟨fun c s => endW q.q c s⟩) := by
  rw [wc_def, wq_def]
  cases r with
  | ok c s => cases c <;> rfl
  | exc _ _ => rfl
  | stuck => rfl
theorem wq_cnd {k : KP β} {q : KQ β} (h1 : c = true → wq k.t (k := q)) (h2 : c = false → wq k.e (k := q)) : wq (cnd' c (k := k)) (k := q) := by
  cases c
  · exact h2 rfl
  · exact h1 rfl
theorem wq_cndT {k : KP β} {q : KQ β} (h : c = true) (h1 : wq k.t (k := q)) : wq (cnd' c (k := k)) (k := q) := by subst h; exact h1
theorem wq_cndF {k : KP β} {q : KQ β} (h : c = false) (h1 : wq k.e (k := q)) : wq (cnd' c (k := k)) (k := q) := by subst h; exact h1
theorem wq_cb {r : Cr} {k : KC β} {q : KQ β} {R : W → List Cl → Prop} (h : r.wp R) (h2 : ∀ w g, R w g → wq (nB' w (k := ⟨k.f w g⟩)) (k := q)) : wq (cbind' r (k := k)) (k := q) := by
  cases r with
  | ok w g => rw [cb_ok']; exact h2 w g h
  | exc _ _ => exact h.elim
  | stuck => exact h.elim
theorem wq_mono {r : Res α} {Q : α → Ss → Prop} {q : KQ α} (h : r.wp Q) (h2 : ∀ a s, Q a s → q.q a s) : wq r (k := q) := by rw [wq_def]; exact wp_mono h h2
theorem wc_mono {r : Cr} {Q : W → List Cl → Prop} {q : KR} (h : r.wp Q) (h2 : ∀ a s, Q a s → q.q a s) : wc r (k := q) := by rw [wc_def]; exact cwp_mono h h2
class PQ where p : Prop
/-- what is wanted at the end, left as it stands -/
@[irreducible] def hold [k : PQ] : Prop := k.p
theorem hold_e {p : Prop} : hold (k := ⟨p⟩) = p := by unfold hold; rfl
theorem hold_d {p : Prop} : hold (k := ⟨p⟩) ↔ p := by rw [hold_e]
theorem hold_i {p : Prop} (h : p) : hold (k := ⟨p⟩) := hold_d.mpr h
theorem of_wc {r : Cr} {Q : W → List Cl → Prop} (h : wc r (k := ⟨fun w g => hold (k := ⟨Q w g⟩)⟩)) : r.wp Q := by
  rw [wc_def] at h
  exact cwp_mono h fun a s z => (hold_d (p := Q a s)).mp z
theorem of_wq {r : Res α} {Q : α → Ss → Prop} (h : wq r (k := ⟨fun w g => hold (k := ⟨Q w g⟩)⟩)) : r.wp Q := by
  rw [wq_def] at h
  exact wp_mono h fun a s z => (hold_d (p := Q a s)).mp z
theorem wc_eq {r : Cr} {w : W} {g : List Cl} (h : wc r (k := ⟨fun w' g' => w' = w ∧ g' = g⟩)) : r = .ok w g := by rw [wc_def] at h; exact eq_wp h
end
section
variable {o : Or} {s : Ss}
@[simp ↓] theorem q_v {g : List Cl} {r : List Sl} {i : Nat} : ev o (.v i) ⟨g, r⟩ = slV g r i r[i]? := q_v0
@[simp ↓] theorem q_b {g : List Cl} {r : List Sl} {i : Nat} : ev o (.b i) ⟨g, r⟩ = slB g r i r[i]? := q_b0
@[simp ↓] theorem q_k {x : D} : ev o (.k x) s = .ok (.d x) s := q_k0
@[simp ↓] theorem q_gk {n : Str} {x : D} : ev o (.gk n x) s = .ok (.d x) s := q_gk0
@[simp ↓] theorem q_op {f : O2} {a b : Ex} : ev o (.op f a b) s = bd (ev o a s) (k := ⟨fun x s1 => bd (ev o b s1) (k := ⟨fun y s2 => opt' (look s2 x) (k := ⟨fun p => opt' (look s2 y) (k := ⟨fun q => opt' (opD f p q) (k := ⟨fun d => .ok (.d d) s2⟩)⟩)⟩)⟩)⟩) := q_op0
@[simp ↓] theorem q_neg {a : Ex} : ev o (.neg a) s = bd (ev o a s) (k := ⟨fun x s1 => asI' x (k := ⟨fun i => .ok (.d (.int (-i))) s1⟩)⟩) := q_neg0
@[simp ↓] theorem q_cmp {f : C2} {a b : Ex} : ev o (.cmp f a b) s = bd (ev o a s) (k := ⟨fun x s1 => bd (ev o b s1) (k := ⟨fun y s2 => opt' (look s2 x) (k := ⟨fun p => opt' (look s2 y) (k := ⟨fun q => opt' (cmpD f p q) (k := ⟨fun d => .ok (.d (.bl d)) s2⟩)⟩)⟩)⟩)⟩) := q_cmp0
@[simp ↓] theorem q_cmp2 {f g : C2} {a b c : Ex} : ev o (.cmp2 f g a b c) s = bd (ev o a s) (k := ⟨fun x s1 => bd (ev o b s1) (k := ⟨fun y s2 => opt' (look s2 x) (k := ⟨fun p => opt' (look s2 y) (k := ⟨fun q => opt' (cmpD f p q) (k := ⟨fun d => cnd' d (k := ⟨(bd (ev o c s2) (k := ⟨fun z s3 => opt' (look s3 y) (k := ⟨fun q' => opt' (look s3 z) (k := ⟨fun u => opt' (cmpD g q' u) (k := ⟨fun d => .ok (.d (.bl d)) s3⟩)⟩)⟩)⟩)), (.ok (.d (.bl false)) s2)⟩)⟩)⟩)⟩)⟩)⟩) := q_cmp20
@[simp ↓] theorem q_bop1 {an : Bool} {e : Ex} : ev o (.bop an (.cons e .nil)) s = ev o e s := q_bop10
@[simp ↓] theorem q_bop {an : Bool} {e e' : Ex} {r : Exs} : ev o (.bop an (.cons e (.cons e' r))) s = bd (ev o e s) (k := ⟨fun x s1 => asB' x (k := ⟨fun c => cnd' (c == an) (k := ⟨(ev o (.bop an (.cons e' r)) s1), (.ok (.d (.bl c)) s1)⟩)⟩)⟩) := q_bop0
@[simp ↓] theorem q_not {a : Ex} : ev o (.not a) s = bd (ev o a s) (k := ⟨fun x s1 => asB' x (k := ⟨fun c => .ok (.d (.bl (!c))) s1⟩)⟩) := q_not0
@[simp ↓] theorem q_ite {t : Te} {a b : Ex} : ev o (.ite t a b) s = bd (evT o t s) (k := ⟨fun c s1 => cnd' c (k := ⟨(ev o a s1), (ev o b s1)⟩)⟩) := q_ite0
@[simp ↓] theorem q_tup {es : Exs} : ev o (.tup es) s = bd (evs o es s) (k := ⟨fun ws s1 => opt' (dsOf ws) (k := ⟨fun ds => cnd' (decide (ds.length ≤ sizeLine)) (k := ⟨(.ok (.d (.tup ds)) s1), .stuck⟩)⟩)⟩) := q_tup0
@[simp ↓] theorem q_fz {f : Fx} : ev o (.fz f) s = bd (evF o f s) (k := ⟨fun l s1 => .ok (.d (.lst l)) s1⟩) := q_fz0
@[simp ↓] theorem q_mk {f : Fx} : ev o (.mk f) s = bd (evF o f s) (k := ⟨fun l s1 => .ok (.c s1.g.length) ⟨s1.g ++ [.lst l], s1.r⟩⟩) := q_mk0
@[simp ↓] theorem q_sub {a i : Ex} : ev o (.sub a i) s = bd (ev o a s) (k := ⟨fun x s1 => bd (ev o i s1) (k := ⟨fun y s2 => opt' (look s2 x) (k := ⟨fun p => asD' y (k := ⟨fun q => opt' (subD p q) (k := ⟨fun d => .ok (.d d) s2⟩)⟩)⟩)⟩)⟩) := q_sub0
@[simp ↓] theorem q_sli {a : Ex} {lo hi : Exo} : ev o (.sli a lo hi) s = bd (ev o a s) (k := ⟨fun x s1 => bd (evo o lo s1) (k := ⟨fun l s2 => bd (evo o hi s2) (k := ⟨fun h s3 => opt' (look s3 x) (k := ⟨fun p => opt' (sliD p l h) (k := ⟨fun d => .ok (.d d) s3⟩)⟩)⟩)⟩)⟩) := q_sli0
@[simp ↓] theorem q_call {f p : Nat} {es kes : Exs} : ev o (.call f p es kes) s = bd (evs o es s) (k := ⟨fun ws s1 => bd (evs o kes s1) (k := ⟨fun zs s2 => cbind' (o f p ws zs s2.g) (k := ⟨(fun w g => .ok w ⟨g, s2.r⟩), (fun e g => .exc e ⟨g, s2.r⟩)⟩)⟩)⟩) := q_call0
@[simp ↓] theorem q_bi {b : Bi} {es : Exs} : ev o (.bi b es) s = bd (evs o es s) (k := ⟨fun ws s1 => opt' (looks s1 ws) (k := ⟨fun ds => opt' (biD b ds) (k := ⟨fun d => .ok (.d d) s1⟩)⟩)⟩) := q_bi0
@[simp ↓] theorem q_isi {a : Ex} {t : String} : ev o (.isi a t) s = bd (ev o a s) (k := ⟨fun x s1 => opt' (look s1 x) (k := ⟨fun p => opt' (isiD p t) (k := ⟨fun d => .ok (.d (.bl d)) s1⟩)⟩)⟩) := q_isi0
@[simp ↓] theorem q_sm {m : Sm} {x a : Ex} : ev o (.sm m x a) s = bd (ev o x s) (k := ⟨fun x s1 => asS' x (k := ⟨fun z => bd (ev o a s1) (k := ⟨fun y s2 => opt' (look s2 y) (k := ⟨fun q => opt' (smD m z q) (k := ⟨fun d => .ok (.d d) s2⟩)⟩)⟩)⟩)⟩) := q_sm0
@[simp ↓] theorem q_fs {ps : Exs} : ev o (.fs ps) s = bd (evJ o ps Str.empty s) (k := ⟨fun z s1 => .ok (.d (.str z)) s1⟩) := q_fs0
@[simp ↓] theorem q_app {c e : Ex} : ev o (.app c e) s = bd (ev o c s) (k := ⟨fun x s1 => opt' (getL s1 x) (k := ⟨fun _ => bd (ev o e s1) (k := ⟨fun y s2 => opt' (getL s2 x) (k := ⟨fun l => asD' y (k := ⟨fun d => cnd' (decide (l.length < sizeLine)) (k := ⟨(opt' (putL s2 x (l ++ [d])) (k := ⟨fun s3 => .ok (.d .non) s3⟩)), .stuck⟩)⟩)⟩)⟩)⟩)⟩) := q_app0
@[simp ↓] theorem q_popl {c : Ex} : ev o (.popl c) s = bd (ev o c s) (k := ⟨fun x s1 => opt' (getL s1 x) (k := ⟨fun l => opt' l.getLast? (k := ⟨fun d => opt' (putL s1 x l.dropLast) (k := ⟨fun s3 => .ok (.d d) s3⟩)⟩)⟩)⟩) := q_popl0
@[simp ↓] theorem q_popa {c i : Ex} : ev o (.popa c i) s = bd (ev o c s) (k := ⟨fun x s1 => opt' (getL s1 x) (k := ⟨fun _ => bd (ev o i s1) (k := ⟨fun y s2 => opt' (getL s2 x) (k := ⟨fun l => asI' y (k := ⟨fun i => cnd' (decide (0 ≤ i ∧ i < l.length ∧ i < 2 ^ 63)) (k := ⟨(opt' l[i.toNat]? (k := ⟨fun d => opt' (putL s2 x (l.eraseIdx i.toNat)) (k := ⟨fun s3 => .ok (.d d) s3⟩)⟩)), .stuck⟩)⟩)⟩)⟩)⟩)⟩) := q_popa0
@[simp ↓] theorem q_no : evo o .no s = .ok none s := q_no0
@[simp ↓] theorem q_so {e : Ex} : evo o (.so e) s = bd (ev o e s) (k := ⟨fun x s1 => asI' x (k := ⟨fun i => .ok (some i) s1⟩)⟩) := q_so0
@[simp ↓] theorem q_nil : evs o .nil s = .ok [] s := q_nil0
@[simp ↓] theorem q_cons {e : Ex} {r : Exs} : evs o (.cons e r) s = bd (ev o e s) (k := ⟨fun x s1 => bd (evs o r s1) (k := ⟨fun xs s2 => .ok (x :: xs) s2⟩)⟩) := q_cons0
@[simp ↓] theorem q_star {e : Ex} {r : Exs} : evs o (.star e r) s = bd (ev o e s) (k := ⟨fun x s1 => asD' x (k := ⟨fun q => asLT' q (k := ⟨fun l => bd (evs o r s1) (k := ⟨fun xs s2 => .ok (l.map W.d ++ xs) s2⟩)⟩)⟩)⟩) := q_star0
@[simp ↓] theorem q_jnil {z : Str} : evJ o .nil z s = .ok z s := q_jnil0
@[simp ↓] theorem q_jcons {e : Ex} {r : Exs} {z : Str} : evJ o (.cons e r) z s = bd (ev o e s) (k := ⟨fun x s1 => opt' (look s1 x) (k := ⟨fun d => opt' (fmtD d) (k := ⟨fun t => cnd' (decide ((z ++ t).length ≤ sizeLine)) (k := ⟨(evJ o r (z ++ t) s1), .stuck⟩)⟩)⟩)⟩) := q_jcons0
@[simp ↓] theorem q_te {x : Ex} : evT o (.e x) s = bd (ev o x s) (k := ⟨fun w s1 => opt' (look s1 w) (k := ⟨fun d => opt' (truD d) (k := ⟨fun b => .ok b s1⟩)⟩)⟩) := q_te0
@[simp ↓] theorem q_tnot {t : Te} : evT o (.not t) s = bd (evT o t s) (k := ⟨fun c s1 => .ok (!c) s1⟩) := q_tnot0
@[simp ↓] theorem q_tbop {an : Bool} {ts : Tes} : evT o (.bop an ts) s = evTs o an ts s := q_tbop0
@[simp ↓] theorem q_tsnil {an : Bool} : evTs o an .nil s = .ok an s := q_tsnil0
@[simp ↓] theorem q_tscons {an : Bool} {t : Te} {r : Tes} : evTs o an (.cons t r) s = bd (evT o t s) (k := ⟨fun c s1 => cnd' (c == an) (k := ⟨(evTs o an r s1), (.ok c s1)⟩)⟩) := q_tscons0
@[simp ↓] theorem q_tcmp {f : C2} {a b : Ex} : evT o (.cmp f a b) s = bd (ev o a s) (k := ⟨fun x s1 => bd (ev o b s1) (k := ⟨fun y s2 => opt' (look s2 x) (k := ⟨fun p => opt' (look s2 y) (k := ⟨fun q => opt' (cmpD f p q) (k := ⟨fun d => .ok d s2⟩)⟩)⟩)⟩)⟩) := q_tcmp0
@[simp ↓] theorem q_tcmp2 {f g : C2} {a b c : Ex} : evT o (.cmp2 f g a b c) s = bd (ev o a s) (k := ⟨fun x s1 => bd (ev o b s1) (k := ⟨fun y s2 => opt' (look s2 x) (k := ⟨fun p => opt' (look s2 y) (k := ⟨fun q => opt' (cmpD f p q) (k := ⟨fun d => cnd' d (k := ⟨(bd (ev o c s2) (k := ⟨fun z s3 => opt' (look s3 y) (k := ⟨fun q' => opt' (look s3 z) (k := ⟨fun u => opt' (cmpD g q' u) (k := ⟨fun d => .ok d s3⟩)⟩)⟩)⟩)), (.ok false s2)⟩)⟩)⟩)⟩)⟩)⟩) := q_tcmp20
@[simp ↓] theorem q_disp {es : Exs} : evF o (.disp es) s = bd (evs o es s) (k := ⟨fun ws s1 => opt' (dsOf ws) (k := ⟨fun ds => cnd' (decide (ds.length ≤ sizeLine)) (k := ⟨(.ok ds s1), .stuck⟩)⟩)⟩) := q_disp0
@[simp ↓] theorem q_cat {a b : Ex} : evF o (.cat a b) s = bd (ev o a s) (k := ⟨fun x s1 => bd (ev o b s1) (k := ⟨fun y s2 => opt' (lookL s2 x) (k := ⟨fun l => opt' (lookL s2 y) (k := ⟨fun m => cnd' (decide (l.length + m.length ≤ sizeLine)) (k := ⟨(.ok (l ++ m) s2), .stuck⟩)⟩)⟩)⟩)⟩) := q_cat0
@[simp ↓] theorem q_rep {a b : Ex} : evF o (.rep a b) s = bd (ev o a s) (k := ⟨fun x s1 => bd (ev o b s1) (k := ⟨fun y s2 => opt' (lookL s2 x) (k := ⟨fun l => asI' y (k := ⟨fun k => cnd' (decide (-(2 ^ 63) ≤ k ∧ k < 2 ^ 63 ∧ l.length * k.toNat ≤ sizeLine)) (k := ⟨(.ok (List.replicate k.toNat l).flatten s2), .stuck⟩)⟩)⟩)⟩)⟩) := q_rep0
@[simp ↓] theorem q_cpy {a : Ex} : evF o (.cpy a) s = bd (ev o a s) (k := ⟨fun x s1 => opt' (look s1 x) (k := ⟨fun q => asLT' q (k := ⟨fun l => .ok l s1⟩)⟩)⟩) := q_cpy0
@[simp ↓] theorem q_fsli {a : Ex} {lo hi : Exo} : evF o (.sli a lo hi) s = bd (ev o a s) (k := ⟨fun x s1 => bd (evo o lo s1) (k := ⟨fun l s2 => bd (evo o hi s2) (k := ⟨fun h s3 => opt' (look s3 x) (k := ⟨fun q => asLD' q (k := ⟨fun m => .ok (cutD m l h) s3⟩)⟩)⟩)⟩)⟩) := q_fsli0
@[simp ↓] theorem q_rev {a : Ex} : evF o (.rev a) s = bd (ev o a s) (k := ⟨fun x s1 => opt' (look s1 x) (k := ⟨fun q => asLD' q (k := ⟨fun m => .ok m.reverse s1⟩)⟩)⟩) := q_rev0
@[simp ↓] theorem q_lc {t : Tg} {i : It} {ifs : Tes} {e : Ex} {vs : List Nat} : evF o (.lc t i ifs e vs) s = bd (evI o i s) (k := ⟨fun l s1 => cnd' (noOwn s1.r vs) (k := ⟨(bd (comp (lcT o t ifs e vs) l [] s1) (k := ⟨fun acc s2 => .ok acc ⟨s2.g, backR s1.r s2.r vs⟩⟩)), .stuck⟩)⟩) := q_lc0
@[simp ↓] theorem q_lc2 {t t1 : Tg} {i i1 : It} {ifs ifs1 : Tes} {e : Ex} {vs vs1 : List Nat} : evF o (.lc2 t i ifs t1 i1 ifs1 e vs vs1) s = bd (evI o i s) (k := ⟨fun l s1 => cnd' (noOwn s1.r vs) (k := ⟨(bd (comp (lcT2 o t ifs t1 i1 ifs1 e vs vs1) l [] s1) (k := ⟨fun acc s2 => .ok acc ⟨s2.g, backR s1.r s2.r vs⟩⟩)), .stuck⟩)⟩) := q_lc20
@[simp ↓] theorem q_cnil {f : D → List D → Ss → Res (List D)} {acc : List D} : comp f [] acc s = .ok acc s := q_cnil0
@[simp ↓] theorem q_isq {e : Ex} : evI o (.sq e) s = bd (ev o e s) (k := ⟨fun x s1 => asD' x (k := ⟨fun d => opt' (itemsD d) (k := ⟨fun l => .ok l s1⟩)⟩)⟩) := q_isq0
@[simp ↓] theorem q_irg1 {e : Ex} : evI o (.rg1 e) s = bd (ev o e s) (k := ⟨fun x s1 => asI' x (k := ⟨fun j => opt' (rgD 0 j) (k := ⟨fun l => .ok l s1⟩)⟩)⟩) := q_irg10
@[simp ↓] theorem q_irg2 {a b : Ex} : evI o (.rg2 a b) s = bd (ev o a s) (k := ⟨fun x s1 => bd (ev o b s1) (k := ⟨fun y s2 => asI' x (k := ⟨fun i => asI' y (k := ⟨fun j => opt' (rgD i j) (k := ⟨fun l => .ok l s2⟩)⟩)⟩)⟩)⟩) := q_irg20
@[simp ↓] theorem q_ien {e : Ex} : evI o (.en e) s = bd (ev o e s) (k := ⟨fun x s1 => asD' x (k := ⟨fun d => asLT' d (k := ⟨fun l => .ok (enD l) s1⟩)⟩)⟩) := q_ien0
@[simp ↓] theorem q_izp {a b : Ex} : evI o (.zp a b) s = bd (ev o a s) (k := ⟨fun x s1 => bd (ev o b s1) (k := ⟨fun y s2 => asL' x (k := ⟨fun l => asL' y (k := ⟨fun m => .ok (zpD l m) s2⟩)⟩)⟩)⟩) := q_izp0
@[simp ↓] theorem q_snil : exs o .nil s = .ok .nx s := q_snil0
@[simp ↓] theorem q_scons {a : Sx} {r : Sxs} : exs o (.cons a r) s = bd (ex1 o a s) (k := ⟨fun c s1 => sqF o r c s1⟩) := q_scons0
@[simp ↓] theorem q_set {i : Nat} {e : Ex} : ex1 o (.set i e) s = bd (ev o e s) (k := ⟨fun w s1 => nB' w (k := ⟨(.ok .nx ⟨s1.g, s1.r.set i (.w w)⟩)⟩)⟩) := q_set0
@[simp ↓] theorem q_own {i : Nat} {f : Fx} : ex1 o (.own i f) s = bd (evF o f s) (k := ⟨fun l s1 => .ok .nx ⟨s1.g, s1.r.set i (.own l)⟩⟩) := q_own0
@[simp ↓] theorem q_par {l : List (Nat × Rh)} : ex1 o (.par l) s = bd (evR o l s) (k := ⟨fun xs s1 => .ok .nx ⟨s1.g, setsR s1.r xs⟩⟩) := q_par0
@[simp ↓] theorem q_rnil : evR o [] s = .ok [] s := q_rnil0
@[simp ↓] theorem q_rex {i : Nat} {e : Ex} {l : List (Nat × Rh)} : evR o ((i, .ex e) :: l) s = bd (ev o e s) (k := ⟨fun w s1 => nB' w (k := ⟨(bd (evR o l s1) (k := ⟨fun xs s2 => .ok ((i, .w w) :: xs) s2⟩))⟩)⟩) := q_rex0
@[simp ↓] theorem q_row {i : Nat} {f : Fx} {l : List (Nat × Rh)} : evR o ((i, .ow f) :: l) s = bd (evF o f s) (k := ⟨fun d s1 => bd (evR o l s1) (k := ⟨fun xs s2 => .ok ((i, .own d) :: xs) s2⟩)⟩) := q_row0
@[simp ↓] theorem q_unp {t : Tg} {e : Ex} : ex1 o (.unp t e) s = bd (ev o e s) (k := ⟨fun w s1 => asD' w (k := ⟨fun x => opt' (bindG s1.r t x) (k := ⟨fun r => .ok .nx ⟨s1.g, r⟩⟩)⟩)⟩) := q_unp0
@[simp ↓] theorem q_sset {c i e : Ex} : ex1 o (.sset c i e) s = bd (ev o e s) (k := ⟨fun v s1 => bd (ev o c s1) (k := ⟨fun w s2 => bd (ev o i s2) (k := ⟨fun k s3 => asD' v (k := ⟨fun d => opt' (getL s3 w) (k := ⟨fun l => asI' k (k := ⟨fun n => opt' (ixD l.length n) (k := ⟨fun j => opt' (putL s3 w (l.set j d)) (k := ⟨fun s4 => .ok .nx s4⟩)⟩)⟩)⟩)⟩)⟩)⟩)⟩) := q_sset0
@[simp ↓] theorem q_aug {i : Nat} {f : O2} {e : Ex} : ex1 o (.aug i f e) s = agS' s.r[i]? (k := ⟨fun x => bd (ev o e s) (k := ⟨fun w s1 => asD' w (k := ⟨fun y => opt' (opD f (.int x) y) (k := ⟨fun z => .ok .nx ⟨s1.g, s1.r.set i (.w (.d z))⟩⟩)⟩)⟩)⟩) := q_aug0
@[simp ↓] theorem q_ex {e : Ex} : ex1 o (.ex e) s = bd (ev o e s) (k := ⟨fun _ s1 => .ok .nx s1⟩) := q_ex0
@[simp ↓] theorem q_ret {e : Ex} : ex1 o (.ret e) s = bd (ev o e s) (k := ⟨fun w s1 => nB' w (k := ⟨(.ok (.rt w) s1)⟩)⟩) := q_ret0
@[simp ↓] theorem q_retn : ex1 o .retn s = .ok (.rt (.d .non)) s := q_retn0
@[simp ↓] theorem q_ife {t : Te} {a b : Sxs} : ex1 o (.ife t a b) s = bd (evT o t s) (k := ⟨fun c s1 => cnd' c (k := ⟨(exs o a s1), (exs o b s1)⟩)⟩) := q_ife0
@[simp ↓] theorem q_for {t : Tg} {i : It} {b : Sxs} : ex1 o (.for_ t i b) s = bd (evI o i s) (k := ⟨fun l s1 => forL (forB o t b) l s1⟩) := q_for0
@[simp ↓] theorem q_whl {n : Nat} {t : Te} {b : Sxs} : ex1 o (.whl n t b) s = whlL (evT o t) (exs o b) n s := q_whl0
@[simp ↓] theorem q_brk : ex1 o .brk s = .ok .bk s := q_brk0
@[simp ↓] theorem q_cnt : ex1 o .cnt s = .ok .ct s := q_cnt0
@[simp ↓] theorem q_pas : ex1 o .pas s = .ok .nx s := q_pas0
@[simp ↓] theorem q_fnil {f : D → Ss → Res Fl} : forL f [] s = .ok .nx s := q_fnil0
theorem q_fcons {f : D → Ss → Res Fl} {x : D} {l : List D} : forL f (x :: l) s = bd (f x s) (k := ⟨fun c s' => fsF f l c s'⟩) := q_fcons0
@[simp ↓] theorem q_lcE {ifs : Tes} {e : Ex} {acc : List D} : lcE o ifs e acc s = bd (evTs o true ifs s) (k := ⟨fun c s4 => cnd' c (k := ⟨bd (ev o e s4) (k := ⟨fun y s5 => addD acc y s5⟩), .ok acc s4⟩)⟩) := rfl
@[simp ↓] theorem q_lcT {t : Tg} {ifs : Tes} {e : Ex} {vs : List Nat} {x : D} {acc : List D} : lcT o t ifs e vs x acc s = opt' (bindG (nR s.r vs) t x) (k := ⟨fun r3 => lcE o ifs e acc ⟨s.g, r3⟩⟩) := rfl
@[simp ↓] theorem q_lcT2 {t : Tg} {ifs : Tes} {t1 : Tg} {i1 : It} {ifs1 : Tes} {e : Ex} {vs vs1 : List Nat} {x : D} {acc : List D} : lcT2 o t ifs t1 i1 ifs1 e vs vs1 x acc s = opt' (bindG (nR s.r vs) t x) (k := ⟨fun r3 => bd (evTs o true ifs ⟨s.g, r3⟩) (k := ⟨fun c s4 => cnd' c (k := ⟨bd (evI o i1 s4) (k := ⟨fun l1 s5 => comp (lcT o t1 ifs1 e vs1) l1 acc s5⟩), .ok acc s4⟩)⟩)⟩) := rfl
@[simp ↓] theorem q_forB {t : Tg} {b : Sxs} {x : D} : forB o t b x s = opt' (bindG s.r t x) (k := ⟨fun r => exs o b ⟨s.g, r⟩⟩) := rfl
@[simp ↓] theorem q_addD {acc : List D} {d : D} : addD acc (.d d) s = cnd' (decide (acc.length < sizeLine)) (k := ⟨.ok (acc ++ [d]) s, .stuck⟩) := by
  show (if _ then _ else _) = _
  rw [ite_cnd]
  rfl
def cmpF (x : Res (List D)) (f : D → List D → Ss → Res (List D)) (l : List D) : Res (List D) := match x with
  | .ok acc s => comp f l acc s
  | _ => .stuck
@[simp ↓] theorem q_ccons {f : D → List D → Ss → Res (List D)} {x : D} {l acc : List D} : comp f (x :: l) acc s = cmpF (f x acc s) f l := by
  show (match f x acc s with | .ok acc' s' => comp f l acc' s' | _ => .stuck) = _
  unfold cmpF
  cases f x acc s <;> rfl
@[simp] theorem cmpF_ok {f : D → List D → Ss → Res (List D)} {l acc : List D} : cmpF (.ok acc s) f l = comp f l acc s := rfl
@[simp] theorem wq_cmp {X : Res (List D)} {f : D → List D → Ss → Res (List D)} {l : List D} {q : KQ (List D)} : wq (cmpF X f l) (k := q) = wq X (k := ⟨fun acc s => wq (comp f l acc s) (k := q)⟩) := by
  rw [wq_def, wq_def]
  cases X
  · show Res.wp (comp f l _ _) q.q = wq (comp f l _ _) (k := q)
    rw [wq_def]
  · rfl
  · rfl
/-- a comprehension, by what each item adds -/
theorem comp_flat {f : D → List D → Ss → Res (List D)} (I : Ss → Prop) (h : D → List D) : ∀ {l acc : List D} {s : Ss}, acc.length + (l.flatMap h).length ≤ 16777216 → I s →
    (∀ x ∈ l, ∀ (acc : List D) (s : Ss), I s → acc.length + (h x).length ≤ 16777216 → (f x acc s).wp fun acc' s' => acc' = acc ++ h x ∧ I s') → (comp f l acc s).wp fun acc' s' => acc' = acc ++ l.flatMap h ∧ I s'
  | [], acc, s, _, hi, _ => ⟨by simp, hi⟩
  | x :: l, acc, s, hl, hi, H => by
    rw [List.flatMap_cons, List.length_append] at hl
    have h1 := H x (List.mem_cons_self ..) acc s hi (by omega)
    show Res.wp (match f x acc s with | .ok acc' s' => comp f l acc' s' | _ => .stuck) _
    cases e : f x acc s with
    | ok acc' s' =>
      rw [e] at h1
      obtain ⟨rfl, hi'⟩ := h1
      have h2 := comp_flat I h (l := l) (acc := acc ++ h x) (s := s') (by rw [List.length_append]; omega) hi' fun y hy => H y (List.mem_cons_of_mem _ hy)
      rw [List.append_assoc, ← List.flatMap_cons] at h2
      exact h2
    | exc _ _ => rw [e] at h1; exact h1.elim
    | stuck => rw [e] at h1; exact h1.elim
/-- a loop that runs through -/
theorem for_inv {f : D → Ss → Res Fl} (I : List D → Ss → Prop) : ∀ {l : List D} {s : Ss}, I l s → (∀ x l s, I (x :: l) s → (f x s).wp fun c s' => (c = .nx ∨ c = .ct) ∧ I l s') → (forL f l s).wp fun c s' => c = .nx ∧ I [] s'
  | [], s, hi, _ => ⟨rfl, hi⟩
  | x :: l, s, hi, H => by
    have h1 := H x l s hi
    show Res.wp ((f x s).bind _) _
    cases e : f x s with
    | ok c s' =>
      rw [e] at h1
      obtain ⟨hc, hi'⟩ := h1
      rcases hc with rfl | rfl
      · exact for_inv I hi' H
      · exact for_inv I hi' H
    | exc _ _ => rw [e] at h1; exact h1.elim
    | stuck => rw [e] at h1; exact h1.elim
/-- a loop by what it wants of its end, whatever ends it -/
theorem for_w {f : D → Ss → Res Fl} {Q : Fl → Ss → Prop} (I : List D → Ss → Prop) : ∀ {l : List D} {s : Ss}, I l s → (∀ s, I [] s → Q .nx s) →
    (∀ x l s, I (x :: l) s → (f x s).wp fun c s' => match c with | .nx | .ct => I l s' | .bk => Q .nx s' | .rt w => Q (.rt w) s') → (forL f l s).wp Q
  | [], s, hi, h0, _ => h0 s hi
  | x :: l, s, hi, h0, H => by
    have h1 := H x l s hi
    show Res.wp ((f x s).bind _) _
    cases e : f x s with
    | ok c s' =>
      rw [e] at h1
      cases c with
      | nx => exact for_w I h1 h0 H
      | ct => exact for_w I h1 h0 H
      | bk => exact h1
      | rt w => exact h1
    | exc _ _ => rw [e] at h1; exact h1.elim
    | stuck => rw [e] at h1; exact h1.elim
/-- a while by a measure -/
theorem whl_w {t : Ss → Res Bool} {f : Ss → Res Fl} {Q : Fl → Ss → Prop} (I : Ss → Prop) (m : Ss → Nat) : ∀ {n : Nat} {s : Ss}, I s → m s < n →
    (∀ s, I s → (t s).wp fun c s1 => if c = true then (f s1).wp (fun c s2 => match c with | .nx | .ct => I s2 ∧ m s2 < m s | .bk => Q .nx s2 | .rt w => Q (.rt w) s2) else Q .nx s1) → (whlL t f n s).wp Q
  | 0, s, _, hm, _ => absurd hm (Nat.not_lt_zero _)
  | n + 1, s, hi, hm, H => by
    have h1 := H s hi
    show Res.wp ((t s).bind _) _
    cases e : t s with
    | ok c s1 =>
      rw [e] at h1
      have h1 : if c = true then _ else _ := h1
      show Res.wp (if c = true then _ else _) _
      split
      · rename_i hc
        rw [if_pos hc] at h1
        cases e2 : f s1 with
        | ok c2 s2 =>
          rw [e2] at h1
          cases c2 with
          | nx => exact whl_w I m h1.1 (by have := h1.2; omega) H
          | ct => exact whl_w I m h1.1 (by have := h1.2; omega) H
          | bk => exact h1
          | rt w => exact h1
        | exc _ _ => rw [e2] at h1; exact h1.elim
        | stuck => rw [e2] at h1; exact h1.elim
      · rename_i hc
        rw [if_neg hc] at h1
        exact h1
    | exc _ _ => rw [e] at h1; exact h1.elim
    | stuck => rw [e] at h1; exact h1.elim
end
end Pc

set_option Elab.async false
set_option linter.all false
set_option maxRecDepth 100000
set_option maxHeartbeats 4000000
namespace Pc
open PySem
open L2 (cutS)
@[simp] theorem szl : sizeLine = 16777216 := PySem.sizeLine_eq
/-- the text of a number, and whether it may be told -/
def istr (i : Int) : Str := Str.ofString (toString i)
def iok (i : Int) : Bool := decide (i.natAbs.log2 < 1920)
def inS (z b : Str) : Bool := !(Builtin.Str.occurrences b z 0 b.length 1).isEmpty
section
variable {i j : Int} {a b z : Str} {l m : List D} {x y p q : D}
@[simp] theorem o_add : opD .add (.int i) (.int j) = some (.int (i + j)) := rfl
@[simp] theorem o_sub : opD .sub (.int i) (.int j) = some (.int (i - j)) := rfl
@[simp] theorem o_mul : opD .mul (.int i) (.int j) = optB (decide ((-18446744073709551616 < i ∧ i < 18446744073709551616) ∨ (-18446744073709551616 < j ∧ j < 18446744073709551616))) (.int (i * j)) := by
  have : mulOk i j = decide ((-18446744073709551616 < i ∧ i < 18446744073709551616) ∨ (-18446744073709551616 < j ∧ j < 18446744073709551616)) := by
    unfold mulOk
    have e : (2 : Int) ^ 64 = 18446744073709551616 := by decide
    rw [e, Bool.eq_iff_iff]
    simp
  rw [← this]
  rfl
@[simp] theorem o_mod (h : 0 < j) : opD .mod (.int i) (.int j) = some (.int (i % j)) := by
  have : j ≠ 0 := by omega
  simp [opD, optB, this, Int.fmod_eq_emod_of_nonneg i (by omega : 0 ≤ j)]
@[simp] theorem o_fdiv (h : 0 < j) (h2 : j < 1073741824) : opD .fdiv (.int i) (.int j) = some (.int (i / j)) := by
  have h3 : j ≠ 0 := by omega
  have h4 : j.natAbs < 1073741824 := by omega
  simp [opD, optB, h3, h4, Int.fdiv_eq_ediv_of_nonneg i (by omega : 0 ≤ j)]
@[simp] theorem o_adds : opD .add (.str a) (.str b) = optB (decide (a.length + b.length ≤ 16777216)) (.str (a ++ b)) := by
  rw [← szl]
  rfl
@[simp] theorem o_addt : opD .add (.tup l) (.tup m) = optB (decide (l.length + m.length ≤ 16777216)) (.tup (l ++ m)) := by
  rw [← szl]
  rfl
@[simp] theorem optB_t {α : Type} {x : α} : optB true x = some x := rfl
@[simp] theorem k_lt : cmpD .lt (.int i) (.int j) = some (decide (i < j)) := rfl
@[simp] theorem k_le : cmpD .le (.int i) (.int j) = some (decide (i ≤ j)) := rfl
@[simp] theorem k_gt : cmpD .gt (.int i) (.int j) = some (decide (j < i)) := rfl
@[simp] theorem k_ge : cmpD .ge (.int i) (.int j) = some (decide (j ≤ i)) := rfl
@[simp] theorem k_eqi : cmpD .eq (.int i) (.int j) = some (decide (i = j)) := by
  show eqG (.int i) (.int j) = _
  unfold eqG
  show optB (SeqAt.shaped (.int i) && SeqAt.shaped (.int j)) (PyData.eqv (.int i) (.int j)) = _
  have h1 : SeqAt.shaped (.int i) = true := rfl
  have h2 : SeqAt.shaped (.int j) = true := rfl
  rw [h1, h2]
  refine congrArg some ?_
  by_cases e : i = j
  · subst e; simp [PyData.eqv]
  · simp [PyData.eqv, e]
@[simp] theorem k_nei : cmpD .ne (.int i) (.int j) = some (!decide (i = j)) := by
  have h : cmpD .eq (.int i) (.int j) = some (decide (i = j)) := k_eqi
  show (eqD (.int i) (.int j)).map (!·) = _
  rw [show eqD (.int i) (.int j) = some (decide (i = j)) from h]
  rfl
@[simp] theorem k_eqs : cmpD .eq (.str a) (.str b) = some (decide (a = b)) := rfl
@[simp] theorem k_nes : cmpD .ne (.str a) (.str b) = some (!decide (a = b)) := rfl
@[simp] theorem k_eqb {a b : Bool} : cmpD .eq (.bl a) (.bl b) = some (decide (a = b)) := by
  cases a <;> cases b <;> rfl
@[simp] theorem k_isn0 : cmpD .isn .non .non = some true := rfl
@[simp] theorem k_isn1 : cmpD .isn (.int i) .non = some false := rfl
@[simp] theorem k_isn2 {a : Bool} : cmpD .isn (.bl a) .non = some false := rfl
@[simp] theorem k_isn3 : cmpD .isn (.str a) .non = some false := rfl
@[simp] theorem k_isn4 : cmpD .isn (.tup l) .non = some false := rfl
@[simp] theorem k_isn5 : cmpD .isn (.lst l) .non = some false := rfl
@[simp] theorem k_nisn0 : cmpD .nisn .non .non = some false := rfl
@[simp] theorem k_nisn1 : cmpD .nisn (.int i) .non = some true := rfl
@[simp] theorem k_nisn3 : cmpD .nisn (.str a) .non = some true := rfl
@[simp] theorem k_nisn4 : cmpD .nisn (.tup l) .non = some true := rfl
@[simp] theorem k_isbl {a b : Bool} : cmpD .isn (.bl a) (.bl b) = some (decide (a = b)) := rfl
@[simp] theorem k_nisbl {a b : Bool} : cmpD .nisn (.bl a) (.bl b) = some (!decide (a = b)) := rfl
@[simp] theorem k_inss : cmpD .inn (.str a) (.str b) = some (inS a b) := rfl
@[simp] theorem k_ninss : cmpD .nin (.str a) (.str b) = some (!inS a b) := rfl
@[simp] theorem k_inl : cmpD .inn x (.lst l) = optB (x.fl && l.all D.fl) (l.any fun y => eqF y x) := rfl
@[simp] theorem k_int : cmpD .inn x (.tup l) = optB (x.fl && l.all D.fl) (l.any fun y => eqF y x) := rfl
theorem optB_map {α γ : Type} {b : Bool} {x : α} {f : α → γ} : (optB b x).map f = optB b (f x) := by cases b <;> rfl
@[simp] theorem k_nint : cmpD .nin x (.tup l) = optB (x.fl && l.all D.fl) (!l.any fun y => eqF y x) := optB_map
@[simp] theorem k_ninl : cmpD .nin x (.lst l) = optB (x.fl && l.all D.fl) (!l.any fun y => eqF y x) := optB_map
@[simp] theorem ef_ss : eqF (.str a) (.str b) = (a == b) := rfl
@[simp] theorem ef_ii : eqF (.int i) (.int j) = (i == j) := rfl
@[simp] theorem ef_si : eqF (.str a) (.int j) = false := rfl
@[simp] theorem ef_is : eqF (.int j) (.str a) = false := rfl
@[simp] theorem ef_ns : eqF .non (.str a) = false := rfl
@[simp] theorem ef_sn : eqF (.str a) .non = false := rfl
@[simp] theorem ef_sb {b : Bool} : eqF (.str a) (.bl b) = false := rfl
@[simp] theorem ef_in : eqF (.int i) .non = false := rfl
@[simp] theorem ef_ib {b : Bool} : eqF (.int i) (.bl b) = (i == (if b then 1 else 0)) := rfl
@[simp] theorem fl_n : D.fl .non = true := rfl
@[simp] theorem fl_b {b : Bool} : D.fl (.bl b) = true := rfl
@[simp] theorem fl_i : D.fl (.int i) = true := rfl
@[simp] theorem fl_s : D.fl (.str a) = true := rfl
@[simp] theorem tr_n : truD .non = some false := rfl
@[simp] theorem tr_b {b : Bool} : truD (.bl b) = some b := rfl
@[simp] theorem tr_i : truD (.int i) = some (i != 0) := rfl
@[simp] theorem tr_t0 : truD (.tup []) = some false := rfl
@[simp] theorem tr_t : truD (.tup (x :: l)) = some true := rfl
@[simp] theorem tr_l0 : truD (.lst []) = some false := rfl
@[simp] theorem tr_l : truD (.lst (x :: l)) = some true := rfl
@[simp] theorem is_n {t : String} : isiD .non t = some ("NoneType" == t) := rfl
@[simp] theorem is_b {b : Bool} {t : String} : isiD (.bl b) t = some (t == "bool" || t == "int") := rfl
@[simp] theorem is_i {t : String} : isiD (.int i) t = some ("int" == t) := rfl
@[simp] theorem is_s {t : String} : isiD (.str a) t = some ("str" == t) := rfl
@[simp] theorem is_t {t : String} : isiD (.tup l) t = some ("tuple" == t) := rfl
@[simp] theorem is_l {t : String} : isiD (.lst l) t = some ("list" == t) := rfl
end
/-! names of kinds -/
section
@[simp] theorem n_ss : ("str" == "str") = true := by decide
@[simp] theorem n_st : ("str" == "tuple") = false := by decide
@[simp] theorem n_si : ("str" == "int") = false := by decide
@[simp] theorem n_sb : ("str" == "bool") = false := by decide
@[simp] theorem n_sl : ("str" == "list") = false := by decide
@[simp] theorem n_ts : ("tuple" == "str") = false := by decide
@[simp] theorem n_tt : ("tuple" == "tuple") = true := by decide
@[simp] theorem n_ti : ("tuple" == "int") = false := by decide
@[simp] theorem n_tb : ("tuple" == "bool") = false := by decide
@[simp] theorem n_tl : ("tuple" == "list") = false := by decide
@[simp] theorem n_is : ("int" == "str") = false := by decide
@[simp] theorem n_it : ("int" == "tuple") = false := by decide
@[simp] theorem n_ii : ("int" == "int") = true := by decide
@[simp] theorem n_ib : ("int" == "bool") = false := by decide
@[simp] theorem n_il : ("int" == "list") = false := by decide
@[simp] theorem n_bs : ("bool" == "str") = false := by decide
@[simp] theorem n_bt : ("bool" == "tuple") = false := by decide
@[simp] theorem n_bb : ("bool" == "bool") = true := by decide
@[simp] theorem n_bi : ("bool" == "int") = false := by decide
@[simp] theorem n_bl : ("bool" == "list") = false := by decide
@[simp] theorem n_ls : ("list" == "str") = false := by decide
@[simp] theorem n_lt : ("list" == "tuple") = false := by decide
@[simp] theorem n_li : ("list" == "int") = false := by decide
@[simp] theorem n_lb : ("list" == "bool") = false := by decide
@[simp] theorem n_ll : ("list" == "list") = true := by decide
@[simp] theorem n_ns : ("NoneType" == "str") = false := by decide
@[simp] theorem n_nt : ("NoneType" == "tuple") = false := by decide
@[simp] theorem n_ni : ("NoneType" == "int") = false := by decide
@[simp] theorem n_nb : ("NoneType" == "bool") = false := by decide
@[simp] theorem n_nl : ("NoneType" == "list") = false := by decide
end
/-! items, slices, built-ins -/
section
variable {i j : Int} {a b z : Str} {l m : List D} {x y u v w p q : D}
@[simp] theorem st_0 : subD (.tup (x :: l)) (.int 0) = some x := by
  show (if (0 : Int) ≤ 0 then if (0 : Int) < ((l.length + 1 : Nat) : Int) then some (Int.toNat 0) else none else _ : Option Nat).bind _ = _
  rw [if_pos (by decide), if_pos (by omega)]; rfl
@[simp] theorem st_1 : subD (.tup (x :: y :: l)) (.int 1) = some y := by
  show (if (0 : Int) ≤ 1 then if (1 : Int) < ((l.length + 1 + 1 : Nat) : Int) then some (Int.toNat 1) else none else _ : Option Nat).bind _ = _
  rw [if_pos (by decide), if_pos (by omega)]; rfl
@[simp] theorem st_2 : subD (.tup (x :: y :: u :: l)) (.int 2) = some u := by
  show (if (0 : Int) ≤ 2 then if (2 : Int) < ((l.length + 1 + 1 + 1 : Nat) : Int) then some (Int.toNat 2) else none else _ : Option Nat).bind _ = _
  rw [if_pos (by decide), if_pos (by omega)]; rfl
@[simp] theorem st_3 : subD (.tup (x :: y :: u :: v :: l)) (.int 3) = some v := by
  show (if (0 : Int) ≤ 3 then if (3 : Int) < ((l.length + 1 + 1 + 1 + 1 : Nat) : Int) then some (Int.toNat 3) else none else _ : Option Nat).bind _ = _
  rw [if_pos (by decide), if_pos (by omega)]; rfl
@[simp] theorem sl_0 : subD (.lst (x :: l)) (.int 0) = some x := st_0
@[simp] theorem sl_1 : subD (.lst (x :: y :: l)) (.int 1) = some y := st_1
@[simp] theorem sl_2 : subD (.lst (x :: y :: u :: l)) (.int 2) = some u := st_2
@[simp] theorem sl_3 : subD (.lst (x :: y :: u :: v :: l)) (.int 3) = some v := st_3
@[simp] theorem sl_4 : subD (.lst (x :: y :: u :: v :: w :: l)) (.int 4) = some w := by
  show (if (0 : Int) ≤ 4 then if (4 : Int) < ((l.length + 1 + 1 + 1 + 1 + 1 : Nat) : Int) then some (Int.toNat 4) else none else _ : Option Nat).bind _ = _
  rw [if_pos (by decide), if_pos (by omega)]; rfl
theorem ix_ok {n : Nat} (h0 : 0 ≤ i) (h1 : i < (n : Int)) : ixD n i = some i.toNat := by
  unfold ixD
  rw [if_pos h0, if_pos h1]
theorem s_lget (h0 : 0 ≤ i) (h1 : i < (l.length : Int)) : subD (.lst l) (.int i) = some (l.getD i.toNat .non) := by
  show (ixD l.length i).bind _ = _
  rw [ix_ok h0 h1]
  have h2 : i.toNat < l.length := by omega
  show l[i.toNat]? = _
  rw [List.getD_eq_getElem?_getD, List.getElem?_eq_getElem h2]; rfl
theorem s_tget (h0 : 0 ≤ i) (h1 : i < (l.length : Int)) : subD (.tup l) (.int i) = some (l.getD i.toNat .non) := s_lget h0 h1
theorem getD_mem {n : Nat} (h : n < l.length) : l.getD n .non ∈ l := by
  rw [List.getD_eq_getElem?_getD, List.getElem?_eq_getElem h]
  exact List.getElem_mem h
theorem s_sget (hz : z.length ≤ 16777216) (h0 : 0 ≤ i) (h1 : i < (z.length : Int)) : ∃ c ∈ z.cps.toList, subD (.str z) (.int i) = some (.str ⟨#[c]⟩) := by
  have h2 : i.toNat < z.cps.toList.length := by rw [Array.length_toList]; show _ < z.length; omega
  refine ⟨z.cps.toList[i.toNat], List.getElem_mem _, ?_⟩
  show (if z.length ≤ sizeLine then ((ixD z.cps.toList.length i).bind fun j => z.cps.toList[j]?).map fun c => D.str ⟨#[c]⟩ else none) = _
  rw [if_pos (by rw [szl]; exact hz), ix_ok h0 (by rw [Array.length_toList]; exact h1)]
  simp only [Option.bind_some, List.getElem?_eq_getElem h2, Option.map_some]
@[simp] theorem sli_t {lo hi : Option Int} : sliD (.tup l) lo hi = some (.tup (cutD l lo hi)) := rfl
@[simp] theorem sli_s {lo hi : Option Int} : sliD (.str z) lo hi = optB (decide (z.length ≤ 16777216)) (.str (cutS z lo hi)) := by
  rw [← szl]
  rfl
@[simp] theorem ix5_0 : ixD 5 0 = some 0 := rfl
@[simp] theorem ix5_1 : ixD 5 1 = some 1 := rfl
@[simp] theorem ix5_2 : ixD 5 2 = some 2 := rfl
@[simp] theorem ix5_3 : ixD 5 3 = some 3 := rfl
@[simp] theorem ix5_4 : ixD 5 4 = some 4 := rfl
@[simp] theorem b_lenl : biD .len [.lst l] = some (.int l.length) := rfl
@[simp] theorem b_lent : biD .len [.tup l] = some (.int l.length) := rfl
@[simp] theorem b_lens : biD .len [.str z] = optB (decide (z.length ≤ 16777216)) (.int z.length) := by
  rw [← szl]
  rfl
@[simp] theorem b_inti : biD .int [.int i] = some (.int i) := rfl
@[simp] theorem b_intb {b : Bool} : biD .int [.bl b] = some (.int (if b then 1 else 0)) := rfl
@[simp] theorem b_tupl : biD .tuple [.lst l] = some (.tup l) := rfl
@[simp] theorem b_tupt : biD .tuple [.tup l] = some (.tup l) := rfl
@[simp] theorem b_str : biD .str [.int i] = optB (iok i) (.str (istr i)) := rfl
@[simp] theorem b_abs : biD .abs [.int i] = some (.int (if i < 0 then -i else i)) := rfl
theorem blsOf_map : ∀ l : List Bool, blsOf (l.map D.bl) = some l
  | [] => rfl
  | a :: l => by rw [List.map_cons, blsOf, blsOf_map l]; rfl
theorem intsOf_map : ∀ l : List Int, intsOf (l.map D.int) = some l
  | [] => rfl
  | a :: l => by rw [List.map_cons, intsOf, intsOf_map l]; rfl
theorem strsOf_map : ∀ l : List Str, strsOf (l.map D.str) = some l
  | [] => rfl
  | a :: l => by rw [List.map_cons, strsOf, strsOf_map l]; rfl
@[simp] theorem b_all {l : List Bool} : biD .all [.lst (l.map D.bl)] = some (.bl (l.all id)) := by
  show (blsOf _).map _ = _
  rw [blsOf_map]; rfl
@[simp] theorem b_any' {l : List Bool} : biD .any [.lst (l.map D.bl)] = some (.bl (l.any id)) := by
  show (blsOf _).map _ = _
  rw [blsOf_map]; rfl
theorem b_sum {l : List Int} : biD .sum [.lst (l.map D.int)] = some (.int l.sum) := by
  show (intsOf _).map _ = _
  rw [intsOf_map]; rfl
@[simp] theorem f_s : fmtD (.str z) = optB (decide (z.length ≤ 16777216)) z := by
  rw [← szl]
  rfl
@[simp] theorem f_i : fmtD (.int i) = optB (iok i) (istr i) := rfl
@[simp] theorem it_l : itemsD (.lst l) = some l := rfl
@[simp] theorem it_t : itemsD (.tup l) = some l := rfl
@[simp] theorem it_s : itemsD (.str z) = some (z.cps.toList.map fun c => .str ⟨#[c]⟩) := rfl
@[simp] theorem rg_ok {lo hi : Int} : rgD lo hi = optB (decide (-4611686018427387904 ≤ lo ∧ lo < 4611686018427387904 ∧ -4611686018427387904 ≤ hi ∧ hi < 4611686018427387904)) ((List.range (hi - lo).toNat).map fun i => D.int (lo + (i : Nat))) := by
  unfold rgD
  have e : (2 : Int) ^ 62 = 4611686018427387904 := by decide
  rw [e]
  congr 1
  rw [Bool.eq_iff_iff]
  simp
  omega
end
/-! binding -/
section
variable {r : List Sl} {x y u v : D} {i j k : Nat}
@[simp] theorem bg_nm : bindG r (.nm i) x = some (r.set i (.w (.d x))) := rfl
@[simp] theorem bg_2 : bindG r (.tp [i, j]) (.tup [x, y]) = some ((r.set i (.w (.d x))).set j (.w (.d y))) := rfl
@[simp] theorem bg_3 : bindG r (.tp [i, j, k]) (.tup [x, y, u]) = some (((r.set i (.w (.d x))).set j (.w (.d y))).set k (.w (.d u))) := rfl
@[simp] theorem nR_nil : nR r [] = r := rfl
@[simp] theorem nR_cons {vs : List Nat} : nR r (i :: vs) = (nR r vs).set i .no := rfl
def noS (x : Option Sl) : Bool := match x with
  | some (.own _) => false
  | _ => true
@[simp] theorem noOwn_nil : noOwn r [] = true := rfl
@[simp] theorem noOwn_cons {vs : List Nat} : noOwn r (i :: vs) = (noS r[i]? && noOwn r vs) := by
  unfold noOwn noS
  rw [List.all_cons]
  all_goals congr 1
@[simp] theorem noS_w {x : W} : noS (some (.w x)) = true := rfl
@[simp] theorem noS_n : noS (some .no) = true := rfl
@[simp] theorem noS_0 : noS none = true := rfl
def bakS (x : Option Sl) (i : Nat) (r : List Sl) : List Sl := match x with
  | some x => r.set i x
  | none => r
@[simp] theorem bakS_s {x : Sl} {i : Nat} : bakS (some x) i r = r.set i x := rfl
@[simp] theorem backR_nil {r0 : List Sl} : backR r0 r [] = r := rfl
@[simp] theorem backR_cons {r0 : List Sl} {vs : List Nat} : backR r0 r (i :: vs) = bakS r0[i]? i (backR r0 r vs) := by
  unfold bakS
  rw [backR]
  all_goals (cases r0[i]? <;> rfl)
end
@[simp] theorem beq_tt : (true == true) = true := rfl
@[simp] theorem beq_ff : (false == false) = true := rfl
@[simp] theorem beq_tf : (true == false) = false := rfl
@[simp] theorem beq_ft : (false == true) = false := rfl
@[simp] theorem beq_bt {b : Bool} : (b == true) = b := by cases b <;> rfl
@[simp] theorem beq_bf {b : Bool} : (b == false) = !b := by cases b <;> rfl
@[simp] theorem s_lgetI {l : List Int} {i : Int} (h0 : 0 ≤ i) (h1 : i < (l.length : Int)) : subD (.lst (l.map D.int)) (.int i) = some (.int (l.getD i.toNat 0)) := by
  rw [s_lget h0 (by rw [List.length_map]; exact h1)]
  have h2 : i.toNat < l.length := by omega
  rw [List.getD_eq_getElem?_getD, List.getD_eq_getElem?_getD, List.getElem?_map, List.getElem?_eq_getElem h2]
  rfl
section
variable {β : Type} {p : Prop} [Decidable p] {k : KP β} {q : KQ β}
theorem wq_dt (h : p) (h1 : wq k.t (k := q)) : wq (cnd' (decide p) (k := k)) (k := q) := wq_cndT (decide_eq_true h) h1
theorem wq_df (h : ¬p) (h1 : wq k.e (k := q)) : wq (cnd' (decide p) (k := k)) (k := q) := wq_cndF (decide_eq_false h) h1
theorem wq_d (h1 : p → wq k.t (k := q)) (h2 : ¬p → wq k.e (k := q)) : wq (cnd' (decide p) (k := k)) (k := q) := wq_cnd (fun h => h1 (of_decide_eq_true h)) (fun h => h2 (of_decide_eq_false h))
theorem wq_nt (h : ¬p) (h1 : wq k.t (k := q)) : wq (cnd' (!decide p) (k := k)) (k := q) := wq_cndT (by rw [decide_eq_false h]; rfl) h1
theorem wq_nf (h : p) (h1 : wq k.e (k := q)) : wq (cnd' (!decide p) (k := k)) (k := q) := wq_cndF (by rw [decide_eq_true h]; rfl) h1
theorem wq_n (h1 : ¬p → wq k.t (k := q)) (h2 : p → wq k.e (k := q)) : wq (cnd' (!decide p) (k := k)) (k := q) := wq_cnd (fun h => h1 fun hp => by rw [decide_eq_true hp] at h; cases h) (fun h => h2 (by cases e : decide p with | true => exact of_decide_eq_true e | false => rw [e] at h; cases h))
end
@[simp] theorem gz_ok {α : Type} {a : α} {l : List α} : (a :: l)[0]? = some a := rfl
@[simp] theorem gs_ok {α : Type} {a : α} {l : List α} {i : Nat} : (a :: l)[i + 1]? = l[i]? := rfl
@[simp] theorem gn_ok {α : Type} {i : Nat} : ([] : List α)[i]? = none := rfl
theorem s_lmem {l : List D} {i : Int} (h0 : 0 ≤ i) (h1 : i < (l.length : Int)) : ∃ x ∈ l, subD (.lst l) (.int i) = some x := ⟨_, getD_mem (by omega), s_lget h0 h1⟩
theorem s_tmem {l : List D} {i : Int} (h0 : 0 ≤ i) (h1 : i < (l.length : Int)) : ∃ x ∈ l, subD (.tup l) (.int i) = some x := ⟨_, getD_mem (by omega), s_tget h0 h1⟩
@[simp] theorem blsOf_nil : blsOf [] = some [] := rfl
@[simp] theorem blsOf_cons {a : Bool} {l : List D} : blsOf (.bl a :: l) = optM (blsOf l) fun m => some (a :: m) := by
  rw [blsOf]
  cases blsOf l <;> rfl
@[simp] theorem b_all2 {l : List D} : biD .all [.lst l] = optM (blsOf l) fun m => some (.bl (m.all id)) := by
  show (blsOf l).map _ = _
  cases blsOf l <;> rfl
@[simp] theorem b_any2 {l : List D} : biD .any [.lst l] = optM (blsOf l) fun m => some (.bl (m.any id)) := by
  show (blsOf l).map _ = _
  cases blsOf l <;> rfl
@[simp] theorem str_e {a : Str} : Str.empty ++ a = a := by
  obtain ⟨a⟩ := a
  show (⟨#[] ++ a⟩ : Str) = _
  simp
@[simp] theorem str_len {a b : Str} : (a ++ b).length = a.length + b.length := PySem.strLen_append a b
@[simp] theorem enD_eq {l : List D} : enD l = l.zipIdx.map fun p => .tup [.int p.2, p.1] := rfl
@[simp] theorem so_len (s : String) : (Str.ofString s).length = s.toList.length := PyProof.Rows.ofString_length s
@[simp] theorem so_inj {a b : String} : (Str.ofString a = Str.ofString b) ↔ a = b := by
  constructor
  · intro h
    rw [Str.ofString_eq_toList, Str.ofString_eq_toList] at h
    injection h with h
    injection h with h
    have : Function.Injective Char.toNat := fun x y h => Char.ext (UInt32.toNat_inj.mp h)
    have := (List.map_inj_right (f := Char.toNat) fun x y h => this h).mp h
    exact String.toList_inj.mp this
  · rintro rfl; rfl
@[simp] theorem opt_optB {α β : Type} {b : Bool} {x : α} [k : K1 α β] : opt' (optB b x) (k := k) = cnd' b (k := ⟨k.f x, .stuck⟩) := by cases b <;> rfl
@[simp] theorem o_pow {i j : Int} : opD .pow (.int i) (.int j) = optB (decide (0 ≤ j ∧ j ≤ 1000000 ∧ i.natAbs < 18446744073709551616)) (.int (i ^ j.toNat)) := by
  show optB (_ && _ && _) _ = _
  congr 1
  rw [Bool.eq_iff_iff]
  simp [and_assoc]
@[simp] theorem ci_1 {n : Nat} : ((n : Int) = 1) ↔ n = 1 := by omega
@[simp] theorem ci_2 {n : Nat} : ((n : Int) = 2) ↔ n = 2 := by omega
@[simp] theorem ci_3 {n : Nat} : ((n : Int) = 3) ↔ n = 3 := by omega
@[simp] theorem ci_4 {n : Nat} : ((n : Int) = 4) ↔ n = 4 := by omega
@[simp] theorem o_mult {l : List D} {k : Int} : opD .mul (.tup l) (.int k) = optB (!l.isEmpty && decide (2 ≤ k) && decide (k ≤ 1000) && decide (l.length ≤ 1000)) (.tup (List.replicate k.toNat l).flatten) := rfl
@[simp] theorem so_beq {a b : String} : (Str.ofString a == Str.ofString b) = decide (a = b) := by
  by_cases h : a = b
  · subst h; simp
  · rw [decide_eq_false h]
    exact beq_eq_false_iff_ne.mpr fun e => h (so_inj.mp e)
end Pc

set_option Elab.async false
set_option linter.all false
set_option maxRecDepth 100000
set_option maxHeartbeats 4000000
namespace Pc
open PySem
open L2 (cutS)
def b_draw : Sxs :=
    (.cons (.ife (.bop true (.cons (.cmp .lt (.sub (.b 0) (.k (.int 2))) (.v 1)) (.cons (.cmp .lt (.sub (.b 0) (.k (.int 1))) (.bi .len (.cons (.sub (.b 0) (.k (.int 0))) .nil))) .nil)))
    (.cons (.set 2 (.sub (.sub (.b 0) (.k (.int 0))) (.sub (.b 0) (.k (.int 1)))))
    (.cons (.sset (.b 0) (.k (.int 1)) (.op .add (.sub (.b 0) (.k (.int 1))) (.k (.int 1))))
    (.cons (.sset (.b 0) (.k (.int 3)) (.op .mod (.bi .int (.cons (.op .add (.op .add (.op .mul (.sub (.b 0) (.k (.int 3))) (.k (.int 41017))) (.op .mod (.bi .int (.cons (.v 2) .nil)) (.k (.int 2147483563)))) (.k (.int 37))) .nil)) (.k (.int 2147483629))))
    (.cons (.sset (.b 0) (.k (.int 2)) (.ite (.cmp .ge (.v 2) (.op .pow (.k (.int 10)) (.k (.int 18)))) (.v 2) (.k (.int 0))))
    .nil))))
    .nil)
    (.cons (.ife (.cmp .ge (.sub (.b 0) (.k (.int 2))) (.v 1))
    (.cons (.set 3 (.op .mod (.bi .int (.cons (.sub (.b 0) (.k (.int 2))) .nil)) (.v 1)))
    (.cons (.sset (.b 0) (.k (.int 2)) (.op .fdiv (.sub (.b 0) (.k (.int 2))) (.v 1)))
    (.cons (.ret (.v 3))
    .nil)))
    .nil)
    (.cons (.sset (.b 0) (.k (.int 4)) (.op .add (.sub (.b 0) (.k (.int 4))) (.k (.int 1))))
    (.cons (.set 4 (.op .mod (.bi .int (.cons (.op .add (.sub (.b 0) (.k (.int 3))) (.op .mul (.sub (.b 0) (.k (.int 4))) (.k (.int 7907)))) .nil)) (.k (.int 2147483587))))
    (.cons (.set 5 (.op .mul (.op .mod (.bi .int (.cons (.op .mul (.v 4) (.v 4)) .nil)) (.k (.int 2147483549))) (.op .add (.op .mod (.bi .int (.cons (.v 4) .nil)) (.k (.int 40009))) (.k (.int 11)))))
    (.cons (.sset (.b 0) (.k (.int 3)) (.op .mod (.bi .int (.cons (.op .add (.op .add (.v 5) (.op .mul (.k (.int 29009)) (.v 4))) (.k (.int 617))) .nil)) (.k (.int 2147483629))))
    (.cons (.ret (.op .mod (.bi .int (.cons (.op .add (.op .fdiv (.sub (.b 0) (.k (.int 3))) (.k (.int 73))) (.op .mul (.op .mod (.bi .int (.cons (.sub (.b 0) (.k (.int 3))) .nil)) (.k (.int 9007))) (.k (.int 53)))) .nil)) (.v 1)))
    .nil)))))))
def b_bag : Sxs :=
    (.cons (.set 1 (.k (.int 10049)))
    (.cons (.for_ (.nm 2) (.sq (.fz (.sli (.v 0) .no (.so (.k (.int 63))))))
    (.cons (.set 1 (.op .mod (.bi .int (.cons (.op .add (.op .add (.op .mul (.v 1) (.k (.int 52567))) (.op .mod (.bi .int (.cons (.v 2) .nil)) (.k (.int 2147483549)))) (.k (.int 29))) .nil)) (.k (.int 2147483579))))
    .nil))
    (.cons (.ret (.mk (.disp (.cons (.fz (.cpy (.fz (.sli (.v 0) .no (.so (.k (.int 63))))))) (.cons (.k (.int 0)) (.cons (.k (.int 0)) (.cons (.v 1) (.cons (.k (.int 0)) .nil))))))))
    .nil)))
/-- a bag of draws -/
def BagOk (l : List D) : Prop := ∃ (xs : List Int) (i c m t : Int), l = [.lst (xs.map D.int), .int i, .int c, .int m, .int t] ∧ 0 ≤ i
def IsDraw (fd : Fn) : Prop := fd.np = 2 ∧ fd.nm.length = 6 ∧ fd.pats[0]? = some ⟨2, [], [.p 0, .p 1]⟩ ∧ fd.body = b_draw
theorem mb {a b : Int} (h : 0 < b) (h2 : b ≤ 2 ^ 40) : -(2 ^ 64) < a.fmod b ∧ a.fmod b < 2 ^ 64 := by
  have h3 := Int.fmod_nonneg_of_pos a h
  have h4 := Int.fmod_lt_of_pos a h
  omega
theorem mb2 {a b c : Int} (h : 0 < b) (h2 : b ≤ 2 ^ 40) (h3 : 0 ≤ c ∧ c ≤ 2 ^ 40) : -(2 ^ 64) < a.fmod b + c ∧ a.fmod b + c < 2 ^ 64 := by
  have h3 := Int.fmod_nonneg_of_pos a h
  have h4 := Int.fmod_lt_of_pos a h
  omega
local macro_rules | `(tactic| walk_at "pc") => `(tactic| simp -implicitDefEqProofs (disch := first | omega | decide))
local macro_rules | `(tactic| walk_at "ps") => `(tactic| first
  | with_reducible refine wq_dt (by omega) ?_ | with_reducible refine wq_df (by omega) ?_ | with_reducible refine wq_d (fun h => ?_) (fun h => ?_)
  | with_reducible refine wq_nt (by omega) ?_ | with_reducible refine wq_nf (by omega) ?_ | with_reducible refine wq_n (fun h => ?_) (fun h => ?_)
  | with_reducible refine wq_cndT (by simp only [Bool.and_eq_true, Bool.or_eq_true, decide_eq_true_eq, Bool.not_eq_true', decide_eq_false_iff_not]; omega) ?_
  | with_reducible refine wq_cndF (by simp only [Bool.and_eq_false_iff, Bool.or_eq_false_iff, decide_eq_true_eq, Bool.not_eq_false', decide_eq_false_iff_not]; omega) ?_
  | (with_reducible refine wq_cnd ?_ ?_ <;> (intro h; try simp only [h])))
local macro_rules | `(tactic| walk_at "pp") => `(tactic| (repeat' (first | walk_at "pc" | walk_at "ps")))

theorem draw_wp {tab : List Fn} {n f : Nat} {fd : Fn} (h1 : tab[f]? = some fd) (h2 : IsDraw fd) {S l : List D} {ex : List Cl} {most : Int} (hb : BagOk l) (hm : 1 ≤ most) (hm2 : most < 1073741824) :
    (run tab (n + 1) f 0 [.c 1, .d (.int most)] [] (.fz S :: .lst l :: ex)).wp fun w g => ∃ d l', w = .d (.int d) ∧ 0 ≤ d ∧ d < most ∧ BagOk l' ∧ g = .fz S :: .lst l' :: ex := by
  obtain ⟨xs, i, c, m, t, rfl, hi⟩ := hb
  obtain ⟨q1, q2, q3, q4⟩ := h2
  refine of_wc ?_
  rw [q_run (as := [.c 1, .d (.int most)]) h1 (by unfold argsOf; rw [q3]; simp [q1, noB, W.isB, selW]), q4]
  unfold startR
  rw [q2]
  show wc (fin (exs (run tab n) b_draw ⟨.fz S :: .lst [.lst (xs.map D.int), .int i, .int c, .int m, .int t] :: ex, [.w (.c 1), .w (.d (.int most)), .no, .no, .no, .no]⟩)) (k := ⟨_⟩)
  unfold b_draw
  walk_at "pp"
  all_goals refine hold_i ?_
  all_goals exact ⟨_, _, rfl, Int.emod_nonneg _ (by omega), Int.emod_lt_of_pos _ (by omega), ⟨xs, _, _, _, _, rfl, by omega⟩, rfl⟩
def b_any (d : Nat) : Sxs := (.cons (.ret (.sub (.v 1) (.call d 0 (.cons (.v 0) (.cons (.bi .len (.cons (.v 1) .nil)) .nil)) .nil))) .nil)
def IsAny (d : Nat) (fd : Fn) : Prop := fd.np = 2 ∧ fd.nm.length = 2 ∧ fd.pats[0]? = some ⟨2, [], [.p 0, .p 1]⟩ ∧ fd.body = b_any d
def b_same : Sxs := (.cons (.ret (.cmp .eq (.bi .repr (.cons (.v 0) .nil)) (.bi .repr (.cons (.v 1) .nil)))) .nil)
def IsSame (fd : Fn) : Prop := fd.np = 2 ∧ fd.nm.length = 2 ∧ fd.pats[0]? = some ⟨2, [], [.p 0, .p 1]⟩ ∧ fd.body = b_same
def IsBag (fd : Fn) : Prop := fd.np = 1 ∧ fd.nm.length = 3 ∧ fd.pats[0]? = some ⟨1, [], [.p 0]⟩ ∧ fd.body = b_bag
theorem cut_map {α β : Type} (f : α → β) (l : List α) (lo hi : Option Int) : cutD (l.map f) lo hi = (cutD l lo hi).map f := by
  unfold cutD
  rw [List.length_map, ← List.map_drop, ← List.map_take]
theorem any_wp {tab : List Fn} {n f d : Nat} {fd fa : Fn} (h1 : tab[d]? = some fd) (h2 : IsDraw fd) (h3 : tab[f]? = some fa) (h4 : IsAny d fa) {S b l : List D} {ex : List Cl} (hb : BagOk b) (hm : 1 ≤ l.length) (hm2 : l.length < 1073741824) :
    (run tab (n + 2) f 0 [.c 1, .d (.lst l)] [] (.fz S :: .lst b :: ex)).wp fun w g => ∃ x b', x ∈ l ∧ w = .d x ∧ BagOk b' ∧ g = .fz S :: .lst b' :: ex := by
  obtain ⟨q1, q2, q3, q4⟩ := h4
  refine of_wc ?_
  rw [q_run (as := [.c 1, .d (.lst l)]) h3 (by unfold argsOf; rw [q3]; simp [q1, noB, W.isB, selW]), q4]
  unfold startR
  rw [q2]
  show wc (fin (exs (run tab (n + 1)) (b_any d) ⟨.fz S :: .lst b :: ex, [.w (.c 1), .w (.d (.lst l))]⟩)) (k := ⟨_⟩)
  unfold b_any
  walk_at "pp"
  refine wq_cb (draw_wp h1 h2 hb (most := (l.length : Nat)) (by omega) (by omega)) ?_
  rintro w g ⟨i, b', rfl, h5, h6, hb', rfl⟩
  walk_at "pc"
  obtain ⟨x, hx, e⟩ := s_lmem h5 h6
  rw [e]
  walk_at "pc"
  refine hold_i ?_
  exact ⟨_, b', hx, rfl, hb', rfl⟩
theorem anyT_wp {tab : List Fn} {n f d : Nat} {fd fa : Fn} (h1 : tab[d]? = some fd) (h2 : IsDraw fd) (h3 : tab[f]? = some fa) (h4 : IsAny d fa) {S b l : List D} {ex : List Cl} (hb : BagOk b) (hm : 1 ≤ l.length) (hm2 : l.length < 1073741824) :
    (run tab (n + 2) f 0 [.c 1, .d (.tup l)] [] (.fz S :: .lst b :: ex)).wp fun w g => ∃ x b', x ∈ l ∧ w = .d x ∧ BagOk b' ∧ g = .fz S :: .lst b' :: ex := by
  obtain ⟨q1, q2, q3, q4⟩ := h4
  refine of_wc ?_
  rw [q_run (as := [.c 1, .d (.tup l)]) h3 (by unfold argsOf; rw [q3]; simp [q1, noB, W.isB, selW]), q4]
  unfold startR
  rw [q2]
  show wc (fin (exs (run tab (n + 1)) (b_any d) ⟨.fz S :: .lst b :: ex, [.w (.c 1), .w (.d (.tup l))]⟩)) (k := ⟨_⟩)
  unfold b_any
  walk_at "pp"
  refine wq_cb (draw_wp h1 h2 hb (most := (l.length : Nat)) (by omega) (by omega)) ?_
  rintro w g ⟨i, b', rfl, h5, h6, hb', rfl⟩
  walk_at "pc"
  obtain ⟨x, hx, e⟩ := s_tmem h5 h6
  rw [e]
  walk_at "pc"
  refine hold_i ?_
  exact ⟨_, b', hx, rfl, hb', rfl⟩
theorem anyS_wp {tab : List Fn} {n f d : Nat} {fd fa : Fn} (h1 : tab[d]? = some fd) (h2 : IsDraw fd) (h3 : tab[f]? = some fa) (h4 : IsAny d fa) {S b : List D} {ex : List Cl} {z : Str} (hb : BagOk b) (hm : 1 ≤ z.length) (hm2 : z.length < 1000) :
    (run tab (n + 2) f 0 [.c 1, .d (.str z)] [] (.fz S :: .lst b :: ex)).wp fun w g => ∃ c b', c ∈ z.cps.toList ∧ w = .d (.str ⟨#[c]⟩) ∧ BagOk b' ∧ g = .fz S :: .lst b' :: ex := by
  obtain ⟨q1, q2, q3, q4⟩ := h4
  refine of_wc ?_
  rw [q_run (as := [.c 1, .d (.str z)]) h3 (by unfold argsOf; rw [q3]; simp [q1, noB, W.isB, selW]), q4]
  unfold startR
  rw [q2]
  show wc (fin (exs (run tab (n + 1)) (b_any d) ⟨.fz S :: .lst b :: ex, [.w (.c 1), .w (.d (.str z))]⟩)) (k := ⟨_⟩)
  unfold b_any
  walk_at "pp"
  refine wq_cb (draw_wp h1 h2 hb (most := (z.length : Nat)) (by omega) (by omega)) ?_
  rintro w g ⟨i, b', rfl, h5, h6, hb', rfl⟩
  walk_at "pc"
  obtain ⟨c, hc, e⟩ := s_sget (z := z) (by omega) h5 h6
  rw [e]
  walk_at "pc"
  refine hold_i ?_
  exact ⟨_, b', hc, rfl, hb', rfl⟩
theorem bag_wp {tab : List Fn} {n f : Nat} {fd : Fn} (h1 : tab[f]? = some fd) (h2 : IsBag fd) {ns : List Int} :
    (run tab (n + 1) f 0 [.c 0] [] [.fz (ns.map D.int)]).wp fun w g => w = .c 1 ∧ ∃ b, BagOk b ∧ g = [.fz (ns.map D.int), .lst b] := by
  obtain ⟨q1, q2, q3, q4⟩ := h2
  refine of_wc ?_
  rw [q_run (as := [.c 0]) h1 (by unfold argsOf; rw [q3]; simp [q1, noB, W.isB, selW]), q4]
  unfold startR
  rw [q2]
  show wc (fin (exs (run tab n) b_bag ⟨[.fz (ns.map D.int)], [.w (.c 0), .no, .no]⟩)) (k := ⟨_⟩)
  unfold b_bag
  walk_at "pc"
  refine wq_mono (for_inv (fun l s => (∃ xs : List Int, l = xs.map D.int) ∧ ∃ m v, s = ⟨[.fz (ns.map D.int)], [.w (.c 0), .w (.d (.int m)), v]⟩) ⟨⟨_, cut_map _ _ _ _⟩, _, _, rfl⟩ ?_) ?_
  · rintro x r s ⟨⟨xs, e⟩, m, v, rfl⟩
    cases xs with
    | nil => cases e
    | cons y xs =>
      cases e
      refine of_wq ?_
      walk_at "pc"
      refine hold_i ?_
      exact ⟨.inl rfl, ⟨xs, rfl⟩, _, _, rfl⟩
  · rintro c s ⟨rfl, _, m, v, rfl⟩
    walk_at "pp"
    refine hold_i ?_
    exact ⟨rfl, _, ⟨_, _, _, _, _, by rw [cut_map], by omega⟩, rfl⟩

theorem hex_le (c w : Nat) (h : c < 256) : (Nat.toDigits 16 c).length ≤ 2 := by
  have : ∀ c < 256, (Nat.toDigits 16 c).length ≤ 2 := by decide +kernel
  exact this c h
open PySem.Builtin.Str in
theorem reprChar_le (q c : Nat) (h : c < 256) : (reprChar q c).length ≤ 4 := by
  have hh := hex_le c 2 h
  unfold reprChar
  repeat' split
  all_goals simp
  all_goals omega
def asc (z : Str) : Bool := z.cps.toList.all fun c => decide (c < 256)
theorem foldl_len {f : Nat → List Nat} : ∀ (l : List Nat) (n : Nat), (∀ c ∈ l, (f c).length ≤ 4) → l.foldl (fun n c => n + (f c).length) n ≤ n + 4 * l.length
  | [], n, _ => by simp
  | c :: l, n, h => by
    have h1 := h c (List.mem_cons_self ..)
    have h2 := foldl_len l (n + (f c).length) fun d hd => h d (List.mem_cons_of_mem _ hd)
    rw [List.foldl_cons, List.length_cons]
    omega
theorem reprText_le {z : Str} (h : asc z = true) : (PySem.reprText z).length ≤ 2 + 4 * z.length := by
  rw [← PySem.reprLen_eq, ← Array.foldl_toList]
  refine Nat.le_trans (foldl_len z.cps.toList 2 fun c hc => reprChar_le _ _ ?_) ?_
  · exact of_decide_eq_true (List.all_eq_true.mp h c hc)
  · rw [Array.length_toList]
    exact Nat.le_refl _
theorem listText_le : ∀ ts : List Str, (PySem.listText ts).length ≤ 2 + piled ts
  | [] => by decide
  | t :: r => by
    have h := textFrom_length_pos r 1 (("[" : Str) ++ (if (0 : Nat) > 0 then ", " else "" : String) ++ t) (Nat.succ_pos 0)
    have e : ((("[" : Str) ++ (if (0 : Nat) > 0 then ", " else "" : String) ++ t)).length = 1 + t.length := by
      rw [strLen_append, strLen_append]; rfl
    have e2 : (PySem.listText (t :: r)).length = (textFrom 1 (("[" : Str) ++ (if (0 : Nat) > 0 then ", " else "" : String) ++ t) r).length + 1 := by
      show (textFrom 1 (("[" : Str) ++ (if (0 : Nat) > 0 then ", " else "" : String) ++ t) r ++ ("]" : Str)).length = _
      rw [strLen_append]; rfl
    rw [e2, h, e, piled_cons]
    omega
theorem tupleText_le (ts : List Str) : (tupleText ts).length ≤ 3 + piled ts := by
  unfold tupleText
  rw [strLen_append, strLen_append]
  have h1 : (("(" : Str)).length = 1 := by decide
  have h2 : (((if (ts.length == 1) = true then ",)" else ")" : String) : Str)).length ≤ 2 := by split <;> decide
  have h3 : (Str.join ", " ts).length ≤ piled ts := by
    cases ts with
    | nil => decide
    | cons t r =>
      have := join_length_add (t :: r) (by simp)
      omega
  omega
mutual
/-- how long the text of data may be -/
def D.sz : D → Nat
  | .non => 4
  | .bl _ => 5
  | .int _ => 1921
  | .str z => 2 + 4 * z.length
  | .tup l => 3 + D.szs l
  | .lst l => 2 + D.szs l
  | .obj _ _ _ => 0
  | .exn _ _ _ => 0
def D.szs : List D → Nat
  | [] => 0
  | x :: l => D.sz x + 2 + D.szs l
end
mutual
/-- data whose text is told -/
def D.sh : D → Bool
  | .non => true
  | .bl _ => true
  | .int i => iok i
  | .str z => asc z
  | .tup l => D.shs l
  | .lst l => D.shs l
  | .obj _ _ _ => false
  | .exn _ _ _ => false
def D.shs : List D → Bool
  | [] => true
  | x :: l => D.sh x && D.shs l
end
mutual
def D.dp : D → Nat
  | .tup l => D.dps l + 1
  | .lst l => D.dps l + 1
  | _ => 0
def D.dps : List D → Nat
  | [] => 0
  | x :: l => max (D.dp x) (D.dps l)
end
mutual
def D.pd : D → PyData
  | .non => .none
  | .bl b => .bool b
  | .int i => .int i
  | .str s => .str s
  | .tup l => .tuple (D.pds l)
  | .lst l => .list (D.pds l)
  | .obj _ _ _ => .none
  | .exn _ _ _ => .none
def D.pds : List D → List PyData
  | [] => []
  | x :: l => D.pd x :: D.pds l
end
mutual
theorem py_pd : ∀ {d : D}, d.sh = true → d.py = some d.pd
  | .non, _ => rfl
  | .bl _, _ => rfl
  | .int _, _ => rfl
  | .str _, _ => rfl
  | .tup l, h => by
    rw [D.py, pys_pd (l := l) (by rw [D.sh] at h; exact h), D.pd]; rfl
  | .lst l, h => by
    rw [D.py, pys_pd (l := l) (by rw [D.sh] at h; exact h), D.pd]; rfl
  | .obj _ _ _, h => by rw [D.sh] at h; cases h
  | .exn _ _ _, h => by rw [D.sh] at h; cases h
theorem pys_pd : ∀ {l : List D}, D.shs l = true → D.pys l = some (D.pds l)
  | [], _ => rfl
  | x :: l, h => by
    rw [D.shs, Bool.and_eq_true] at h
    rw [D.pys, py_pd h.1, pys_pd h.2, D.pds]
end
mutual
theorem pd_shown : ∀ {d : D}, d.sh = true → d.pd.showable = true ∧ d.pd.shown.length ≤ d.sz
  | .non, _ => ⟨rfl, by rw [D.sz]; decide⟩
  | .bl b, _ => ⟨rfl, by rw [D.sz]; cases b <;> decide⟩
  | .int i, h => by
    rw [D.sh] at h
    refine ⟨h, ?_⟩
    rw [D.sz]
    exact PyProof.Rows.int_text_len_1921 (of_decide_eq_true (show decide _ = true from h))
  | .str z, h => by
    rw [D.sh] at h
    refine ⟨rfl, ?_⟩
    rw [D.sz]
    exact reprText_le h
  | .tup l, h => by
    rw [D.sh] at h
    obtain ⟨h1, h2⟩ := pds_shown h
    refine ⟨by rw [D.pd, PyData.showable]; exact h1, ?_⟩
    rw [D.sz, D.pd, PyData.shown]
    refine Nat.le_trans (tupleText_le _) ?_
    omega
  | .lst l, h => by
    rw [D.sh] at h
    obtain ⟨h1, h2⟩ := pds_shown h
    refine ⟨by rw [D.pd, PyData.showable]; exact h1, ?_⟩
    rw [D.sz, D.pd, PyData.shown]
    refine Nat.le_trans (listText_le _) ?_
    omega
  | .obj _ _ _, h => by rw [D.sh] at h; cases h
  | .exn _ _ _, h => by rw [D.sh] at h; cases h
theorem pds_shown : ∀ {l : List D}, D.shs l = true → PyData.showableAll (D.pds l) = true ∧ piled (PyData.shownAll (D.pds l)) ≤ D.szs l
  | [], _ => ⟨rfl, Nat.le_refl _⟩
  | x :: l, h => by
    rw [D.shs, Bool.and_eq_true] at h
    obtain ⟨a1, a2⟩ := pd_shown h.1
    obtain ⟨b1, b2⟩ := pds_shown h.2
    refine ⟨by rw [D.pds, PyData.showableAll, a1, b1]; rfl, ?_⟩
    rw [D.pds, PyData.shownAll, piled_cons, D.szs]
    omega
end
mutual
theorem pd_depth : ∀ (d : D), d.pd.depth ≤ d.dp
  | .non => Nat.le_refl _
  | .bl _ => Nat.le_refl _
  | .int _ => Nat.le_refl _
  | .str _ => Nat.le_refl _
  | .tup l => by rw [D.pd, PyData.depth, D.dp]; exact Nat.succ_le_succ (pds_depth l)
  | .lst l => by rw [D.pd, PyData.depth, D.dp]; exact Nat.succ_le_succ (pds_depth l)
  | .obj _ _ _ => Nat.zero_le _
  | .exn _ _ _ => Nat.zero_le _
theorem pds_depth : ∀ (l : List D), PyData.depthAll (D.pds l) ≤ D.dps l
  | [] => Nat.le_refl _
  | x :: l => by
    rw [D.pds, PyData.depthAll, D.dps]
    have := pd_depth x
    have := pds_depth l
    omega
end
theorem b_repr {d : D} (h : d.sh = true) (h2 : d.sz ≤ 16777216) (h3 : d.dp ≤ 64) : biD .repr [d] = some (.str d.pd.shown) := by
  obtain ⟨h4, h5⟩ := pd_shown h
  have h6 := pd_depth d
  show d.py.bind _ = _
  rw [py_pd h]
  show optB (_ && _ && _) _ = _
  rw [h4, decide_eq_true (show d.pd.shown.length ≤ sizeLine by rw [szl]; omega), decide_eq_true (show d.pd.depth ≤ 64 by omega)]
  rfl
theorem same_eq {tab : List Fn} {n f : Nat} {fd : Fn} (h1 : tab[f]? = some fd) (h2 : IsSame fd) {d : D} {g : List Cl} (h : d.sh = true) (h3 : d.sz ≤ 16777216) (h4 : d.dp ≤ 64) :
    run tab (n + 1) f 0 [.d d, .d d] [] g = .ok (.d (.bl true)) g := by
  obtain ⟨q1, q2, q3, q4⟩ := h2
  refine wc_eq ?_
  rw [q_run (as := [.d d, .d d]) h1 (by unfold argsOf; rw [q3]; simp [q1, noB, W.isB, selW]), q4]
  unfold startR
  rw [q2]
  show wc (fin (exs (run tab n) b_same ⟨g, [.w (.d d), .w (.d d)]⟩)) (k := ⟨_⟩)
  unfold b_same
  walk_at "pc"
  rw [b_repr h h3 h4]
  walk_at "pc"
  rw [b_repr h h3 h4]
  walk_at "pc"
@[simp] theorem asc_app {a b : Str} : asc (a ++ b) = (asc a && asc b) := by
  unfold asc
  show ((a.cps ++ b.cps).toList.all _) = _
  rw [Array.toList_append, List.all_append]
@[simp] theorem so_asc (s : String) : asc (Str.ofString s) = s.toList.all fun c => decide (c.toNat < 256) := by
  rw [Str.ofString_eq_toList]
  simp [asc]
  rfl
end Pc

set_option Elab.async false
set_option linter.all false
set_option maxRecDepth 100000
set_option maxHeartbeats 4000000
namespace Pc
open PySem
open L2 (cutS)
/-- data without objects, of little length -/
inductive Tm : D → Prop where
  | non : Tm .non
  | bl (b : Bool) : Tm (.bl b)
  | int (i : Int) : Tm (.int i)
  | str (z : Str) (h : z.length ≤ 1000) : Tm (.str z)
  | tup (l : List D) (h : l.length ≤ 1000) (hl : ∀ x ∈ l, Tm x) : Tm (.tup l)
  | lst (l : List D) (h : l.length ≤ 1000) (hl : ∀ x ∈ l, Tm x) : Tm (.lst l)
theorem inS_one (b : Str) (c : Nat) : inS ⟨#[c]⟩ b = decide (c ∈ b.cps.toList) := PySem.StrLaws.found_one b c
theorem one_of {z : Str} (h : z.length = 1) : ∃ c, z = ⟨#[c]⟩ := by
  obtain ⟨a⟩ := z
  have h' : a.size = 1 := h
  obtain ⟨l⟩ := a
  match l, h' with
  | [c], _ => exact ⟨c, rfl⟩
theorem str_one (a b : Nat) : decide ((⟨#[a]⟩ : Str) = ⟨#[b]⟩) = decide (a = b) := by
  by_cases h : a = b
  · subst h; simp
  · have : (⟨#[a]⟩ : Str) ≠ ⟨#[b]⟩ := fun e => h (by injection e with e; injection e with e; injection e)
    simp [h, this]
theorem cut_le {z : Str} {lo hi : Option Int} {n : Nat} (h : z.length ≤ n) : (cutS z lo hi).length ≤ n := Nat.le_trans (L2.cutS_length z lo hi) h
/-- the letters that may stand there -/
def lets (k : Nat) : Str := cutS (Str.ofString "nabc") none (some ((k : Int) + 1))
def earlyB (k : Nat) : D → Bool
  | .str z => decide (z.length = 1) && inS z (lets k)
  | _ => false
theorem early_eq {k : Nat} (hk : k ≤ 3) {z : Str} (hz : z.length = 1) : (decide (z = Str.ofString "n") || inS z (cutS (Str.ofString "abc") none (some (k : Int)))) = inS z (lets k) := by
  obtain ⟨c, rfl⟩ := one_of hz
  unfold lets
  rw [inS_one, inS_one, show Str.ofString "n" = ⟨#[110]⟩ from rfl, str_one]
  match k, hk with
  | 0, _ =>
    rw [show (cutS (Str.ofString "abc") none (some ((0 : Nat) : Int))).cps.toList = [] from rfl, show (cutS (Str.ofString "nabc") none (some (((0 : Nat) : Int) + 1))).cps.toList = [110] from rfl]
    simp
  | 1, _ =>
    rw [show (cutS (Str.ofString "abc") none (some ((1 : Nat) : Int))).cps.toList = [97] from rfl, show (cutS (Str.ofString "nabc") none (some (((1 : Nat) : Int) + 1))).cps.toList = [110, 97] from rfl]
    simp
  | 2, _ =>
    rw [show (cutS (Str.ofString "abc") none (some ((2 : Nat) : Int))).cps.toList = [97, 98] from rfl, show (cutS (Str.ofString "nabc") none (some (((2 : Nat) : Int) + 1))).cps.toList = [110, 97, 98] from rfl]
    simp
  | 3, _ =>
    rw [show (cutS (Str.ofString "abc") none (some ((3 : Nat) : Int))).cps.toList = [97, 98, 99] from rfl, show (cutS (Str.ofString "nabc") none (some (((3 : Nat) : Int) + 1))).cps.toList = [110, 97, 98, 99] from rfl]
    simp
theorem abc_eq {k : Nat} (hk : k ≤ 3) {z : Str} (hz : z.length = 1) : (inS z (lets k) && !decide (z = Str.ofString "n")) = inS z (cutS (Str.ofString "abc") none (some (k : Int))) := by
  obtain ⟨c, rfl⟩ := one_of hz
  unfold lets
  rw [inS_one, inS_one, show Str.ofString "n" = ⟨#[110]⟩ from rfl, str_one]
  match k, hk with
  | 0, _ =>
    rw [show (cutS (Str.ofString "abc") none (some ((0 : Nat) : Int))).cps.toList = [] from rfl, show (cutS (Str.ofString "nabc") none (some (((0 : Nat) : Int) + 1))).cps.toList = [110] from rfl]
    simp
  | 1, _ =>
    rw [show (cutS (Str.ofString "abc") none (some ((1 : Nat) : Int))).cps.toList = [97] from rfl, show (cutS (Str.ofString "nabc") none (some (((1 : Nat) : Int) + 1))).cps.toList = [110, 97] from rfl]
    rw [Bool.eq_iff_iff]
    simp
    omega
  | 2, _ =>
    rw [show (cutS (Str.ofString "abc") none (some ((2 : Nat) : Int))).cps.toList = [97, 98] from rfl, show (cutS (Str.ofString "nabc") none (some (((2 : Nat) : Int) + 1))).cps.toList = [110, 97, 98] from rfl]
    rw [Bool.eq_iff_iff]
    simp
    omega
  | 3, _ =>
    rw [show (cutS (Str.ofString "abc") none (some ((3 : Nat) : Int))).cps.toList = [97, 98, 99] from rfl, show (cutS (Str.ofString "nabc") none (some (((3 : Nat) : Int) + 1))).cps.toList = [110, 97, 98, 99] from rfl]
    rw [Bool.eq_iff_iff]
    simp
    omega
def letterB (k : Nat) : D → Bool
  | .str z => decide (z.length = 1) && inS z (cutS (Str.ofString "abc") none (some (k : Int)))
  | _ => false
def wordB (l : List D) : D → Bool
  | .str z => l.any fun y => eqF y (.str z)
  | _ => false
theorem cut_sub {α : Type} {l : List α} {lo hi : Option Int} : ∀ x ∈ cutD l lo hi, x ∈ l := fun x hx => List.mem_of_mem_drop (List.mem_of_mem_take hx)
theorem cut_len {α : Type} {l : List α} {lo hi : Option Int} : (cutD l lo hi).length ≤ l.length := by
  unfold cutD
  rw [List.length_take, List.length_drop]
  omega
theorem Tm.cut {l : List D} {lo hi : Option Int} (h : Tm (.tup l)) : Tm (.tup (cutD l lo hi)) := by
  cases h with
  | tup _ h1 h2 => exact .tup _ (Nat.le_trans cut_len h1) fun x hx => h2 x (cut_sub x hx)
theorem Tm.app {l m : List D} (h : Tm (.tup l)) (hn : l.length + m.length ≤ 1000) (hm : ∀ x ∈ m, Tm x) : Tm (.tup (l ++ m)) := by
  cases h with
  | tup _ h1 h2 =>
    refine .tup _ (by rw [List.length_append]; omega) fun x hx => ?_
    rcases List.mem_append.mp hx with h | h
    · exact h2 x h
    · exact hm x h
mutual
/-- decided for written data -/
def tmB : D → Bool
  | .non => true
  | .bl _ => true
  | .int _ => true
  | .str z => decide (z.length ≤ 1000)
  | .tup l => decide (l.length ≤ 1000) && tmBs l
  | .lst l => decide (l.length ≤ 1000) && tmBs l
  | .obj _ _ _ => false
  | .exn _ _ _ => false
def tmBs : List D → Bool
  | [] => true
  | x :: l => tmB x && tmBs l
end
mutual
theorem tmB_ok : ∀ {d : D}, tmB d = true → Tm d
  | .non, _ => .non
  | .bl _, _ => .bl _
  | .int _, _ => .int _
  | .str z, h => .str z (by rw [tmB] at h; exact of_decide_eq_true h)
  | .tup l, h => by
    rw [tmB, Bool.and_eq_true] at h
    exact .tup l (of_decide_eq_true h.1) (tmBs_ok h.2)
  | .lst l, h => by
    rw [tmB, Bool.and_eq_true] at h
    exact .lst l (of_decide_eq_true h.1) (tmBs_ok h.2)
  | .obj _ _ _, h => by rw [tmB] at h; cases h
  | .exn _ _ _, h => by rw [tmB] at h; cases h
theorem tmBs_ok : ∀ {l : List D}, tmBs l = true → ∀ x ∈ l, Tm x
  | [], _, x, hx => by cases hx
  | y :: l, h, x, hx => by
    rw [tmBs, Bool.and_eq_true] at h
    have h1 := tmB_ok h.1
    have h2 := tmBs_ok h.2
    rcases List.mem_cons.mp hx with e | hx
    · rw [e]; exact h1
    · exact h2 x hx
end
theorem wc_run {tab : List Fn} {n f p : Nat} {ws zs as : List W} {g : List Cl} {fd : Fn} {q : KR} (h1 : tab[f]? = some fd) (h2 : argsOf fd p ws zs = some as) (h : wc (fin (exs (run tab n) fd.body ⟨g, startR fd as⟩)) (k := q)) : wc (run tab (n + 1) f p ws zs g) (k := q) := by
  rw [q_run h1 h2]
  exact h
theorem comp_map {α : Type} {f : D → List D → Ss → Res (List D)} (I : Ss → Prop) (e : α → D) (h : α → D) {l : List α} {acc : List D} {s : Ss} (hl : acc.length + l.length ≤ 16777216) (hi : I s)
    (H : ∀ x ∈ l, ∀ (acc : List D) (s : Ss), I s → acc.length < 16777216 → (f (e x) acc s).wp fun acc' s' => acc' = acc ++ [h x] ∧ I s') : (comp f (l.map e) acc s).wp fun acc' s' => acc' = acc ++ l.map h ∧ I s' := by
  induction l generalizing acc s with
  | nil => exact ⟨by simp, hi⟩
  | cons x l ih =>
    have h1 := H x (List.mem_cons_self ..) acc s hi (by simp at hl; omega)
    show Res.wp (match f (e x) acc s with | .ok acc' s' => comp f (l.map e) acc' s' | _ => .stuck) _
    cases e1 : f (e x) acc s with
    | ok acc' s' =>
      rw [e1] at h1
      obtain ⟨rfl, hi'⟩ := h1
      have h2 := ih (acc := acc ++ [h x]) (s := s') (by simp at hl ⊢; omega) hi' fun y hy => H y (List.mem_cons_of_mem _ hy)
      rw [List.append_assoc] at h2
      exact h2
    | exc _ _ => rw [e1] at h1; exact h1.elim
    | stuck => rw [e1] at h1; exact h1.elim
@[simp] theorem blsOf_mapf {α : Type} {b : α → Bool} : ∀ l : List α, blsOf (l.map fun x => D.bl (b x)) = some (l.map b)
  | [] => rfl
  | a :: l => by
    show (blsOf _).map _ = _
    rw [blsOf_mapf l]; rfl
theorem runB_fin {o : Or} {fd : Fn} {ws : List W} {g : List Cl} : runB o fd ws g = fin (exs o fd.body ⟨g, startR fd ws⟩) := by
  unfold runB
  cases exs o fd.body ⟨g, startR fd ws⟩ with
  | ok c s => cases c <;> rfl
  | exc _ _ => rfl
  | stuck => rfl
theorem intsOf_mapf {α : Type} {b : α → Int} : ∀ l : List α, intsOf (l.map fun x => D.int (b x)) = some (l.map b)
  | [] => rfl
  | a :: l => by
    show (intsOf _).map _ = _
    rw [intsOf_mapf l]; rfl
@[simp] theorem b_summ {α : Type} {b : α → Int} {l : List α} : biD .sum [.lst (l.map fun x => D.int (b x))] = some (.int (l.map b).sum) := by
  show (intsOf _).map _ = _
  rw [intsOf_mapf]; rfl
theorem istr_asc (i : Int) : asc (istr i) = true := by
  unfold istr
  rw [so_asc, List.all_eq_true]
  intro c hc
  refine decide_eq_true ?_
  rcases PyProof.Rows.int_sign i c hc with h | h
  · have h1 : c.val ≤ 57 := by
      simp only [Char.isDigit, Bool.and_eq_true, decide_eq_true_eq] at h
      exact h.2
    have h2 : c.toNat ≤ 57 := by
      have := UInt32.le_iff_toNat_le.mp h1
      exact this
    omega
  · subst h; decide
theorem iok_small {i : Int} (h : i.natAbs < 2 ^ 200) : iok i = true := by
  refine decide_eq_true ?_
  by_cases h0 : i.natAbs = 0
  · rw [h0]; decide
  · exact Nat.lt_trans ((Nat.log2_lt h0).mpr h) (by decide)
theorem iok_lit {i : Int} (h1 : -1000000000000 ≤ i) (h2 : i ≤ 1000000000000) : iok i = true := iok_small (Nat.lt_of_le_of_lt (show i.natAbs ≤ 1000000000000 by omega) (by decide))
theorem istr_len {i : Int} (h : iok i = true) : (istr i).length ≤ 1921 := PyProof.Rows.int_text_len_1921 (of_decide_eq_true h)
/-- a loop that runs through, by the place -/
theorem for_ix {f : D → Ss → Res Fl} (I : Nat → Ss → Prop) {l : List D} {s : Ss} (h0 : I 0 s) (H : ∀ i x s, l[i]? = some x → I i s → (f x s).wp fun c s' => (c = .nx ∨ c = .ct) ∧ I (i + 1) s') :
    (forL f l s).wp fun c s' => c = .nx ∧ I l.length s' := by
  refine wp_mono (for_inv (fun r s => ∃ i, r = l.drop i ∧ i ≤ l.length ∧ I i s) (s := s) ⟨0, by simp, Nat.zero_le _, h0⟩ ?_) ?_
  · rintro x r s ⟨i, hr, hi, h⟩
    have hx : l[i]? = some x := by
      have := congrArg List.head? hr
      rw [List.head?_drop] at this
      exact this.symm
    have hlt : i < l.length := (List.getElem?_eq_some_iff.mp hx).1
    have ht : r = l.drop (i + 1) := by
      have := congrArg List.tail hr
      rw [List.tail_drop] at this
      exact this
    exact wp_mono (H i x s hx h) fun c s' ⟨a, b⟩ => ⟨a, i + 1, ht, hlt, b⟩
  · rintro c s' ⟨hc, i, hr, hi, h⟩
    have : l.length ≤ i := List.drop_eq_nil_iff.mp hr.symm
    have e : i = l.length := by omega
    subst e
    exact ⟨hc, h⟩
end Pc

set_option Elab.async false
set_option linter.all false
set_option maxRecDepth 100000
set_option maxHeartbeats 4000000
namespace Pc
open PySem
open L2 (cutS)
def gl : List D := [.str "gcd", .str "lcm"]
def plainB (k : Nat) : Nat → D → Bool
  | 0, _ => false
  | d + 1, v => match v with
    | .str z => earlyB k (.str z)
    | .tup [h, x, y] => wordB gl h && (plainB k d x && plainB k d y)
    | _ => false
def coB (k : Nat) : D → Bool
  | .tup [h, x] => wordB [.str "co"] h && letterB k x
  | _ => false
def termB (k : Nat) (p : Bool) (v : D) : Bool := plainB k 3 v || (!p && coB k v)
def textS : D → Str
  | .str z => z
  | .tup [.str _, .str z] => ("co " : Str) ++ z
  | .tup [.str h, x, y] => h ++ ("(" : Str) ++ textS x ++ (", " : Str) ++ textS y ++ (")" : Str)
  | _ => Str.empty
def tl : Nat → Nat
  | 0 => 1
  | d + 1 => 2 * tl d + 7
theorem early_len {k : Nat} {z : Str} (h : earlyB k (.str z) = true) : z.length = 1 := by
  simp [earlyB] at h
  exact h.1
theorem early_asc {k : Nat} (hk : k ≤ 3) {z : Str} (h : earlyB k (.str z) = true) : asc z = true := by
  have hl := early_len h
  simp only [earlyB, Bool.and_eq_true] at h
  obtain ⟨c, rfl⟩ := one_of hl
  have h2 := h.2
  rw [inS_one] at h2
  have h3 := of_decide_eq_true h2
  have h4 : c ∈ (Str.ofString "nabc").cps.toList := by
    unfold lets L2.cutS at h3
    exact List.mem_of_mem_drop (List.mem_of_mem_take (by simpa using h3))
  have h5 : ∀ c ∈ (Str.ofString "nabc").cps.toList, c < 256 := by decide
  have := h5 c h4
  simp [asc, this]
theorem word_cases {l : List D} {h : D} (e : wordB l h = true) : ∃ z, h = .str z ∧ .str z ∈ l := by
  cases h with
  | str z =>
    simp only [wordB, List.any_eq_true] at e
    obtain ⟨y, hy, e⟩ := e
    cases y with
    | str w => rw [ef_ss, beq_iff_eq] at e; subst e; exact ⟨_, rfl, hy⟩
    | _ => cases e
  | _ => cases e
theorem plain_ind {k : Nat} {P : Nat → D → Prop} (h1 : ∀ d z, earlyB k (.str z) = true → P (d + 1) (.str z))
    (h2 : ∀ d (h : Str) x y, (h = Str.ofString "gcd" ∨ h = Str.ofString "lcm") → plainB k d x = true → plainB k d y = true → P d x → P d y → P (d + 1) (.tup [.str h, x, y])) : ∀ {d : Nat} {v : D}, plainB k d v = true → P d v
  | 0, v, h => by rw [plainB] at h; cases h
  | d + 1, v, h => by
    cases v with
    | str z => rw [plainB] at h; exact h1 d z h
    | tup l =>
      match l, h with
      | [w, x, y], h =>
        rw [plainB, Bool.and_eq_true, Bool.and_eq_true] at h
        obtain ⟨z, rfl, hz⟩ := word_cases h.1
        refine h2 d z x y ?_ h.2.1 h.2.2 (plain_ind h1 h2 h.2.1) (plain_ind h1 h2 h.2.2)
        simpa [gl] using hz
      | [], h => rw [plainB] at h; cases h; all_goals simp
      | [_], h => rw [plainB] at h; cases h; all_goals simp
      | [_, _], h => rw [plainB] at h; cases h; all_goals simp
      | _ :: _ :: _ :: _ :: _, h => rw [plainB] at h; cases h; all_goals simp
    | _ => rw [plainB] at h; cases h; all_goals simp
structure Pl (k d : Nat) (v : D) : Prop where
  b : plainB k d v = true
  len : (textS v).length ≤ tl d
  as : asc (textS v) = true
  tm : Tm v
theorem plain_pl {k d : Nat} (hk : k ≤ 3) {v : D} (h : plainB k d v = true) : Pl k d v := by
  refine plain_ind (P := fun d v => plainB k d v = true → Pl k d v) ?_ ?_ h h
  · intro d z hz hp
    have := early_len hz
    exact ⟨hp, by simp [textS, this, tl], by simpa [textS] using early_asc hk hz, .str z (by omega)⟩
  · intro d h x y hh hx hy px py hp
    obtain ⟨_, x2, x3, x4⟩ := px hx
    obtain ⟨_, y2, y3, y4⟩ := py hy
    have e : textS (.tup [.str h, x, y]) = h ++ ("(" : Str) ++ textS x ++ (", " : Str) ++ textS y ++ (")" : Str) := by rw [textS]
    have l1 : (Str.ofString "gcd").length = 3 := by decide
    have l2 : (Str.ofString "lcm").length = 3 := by decide
    have l3 : (Str.ofString "(").length = 1 := by decide
    have l4 : (Str.ofString ")").length = 1 := by decide
    have l5 : (Str.ofString ", ").length = 2 := by decide
    have a1 : asc (Str.ofString "gcd") = true := by decide
    have a2 : asc (Str.ofString "lcm") = true := by decide
    have a3 : asc (Str.ofString "(") = true := by decide
    have a4 : asc (Str.ofString ")") = true := by decide
    have a5 : asc (Str.ofString ", ") = true := by decide
    refine ⟨hp, ?_, ?_, .tup _ (by simp) ?_⟩
    · rw [e]
      rcases hh with rfl | rfl <;> simp [tl, l1, l2, l3, l4, l5] <;> omega
    · rw [e]
      rcases hh with rfl | rfl <;> simp [a1, a2, a3, a4, a5, x3, y3]
    · intro w hw
      simp only [List.mem_cons, List.mem_nil_iff, or_false] at hw
      rcases hw with rfl | rfl | rfl
      · refine .str _ ?_
        rcases hh with rfl | rfl
        · rw [l1]; decide
        · rw [l2]; decide
      · exact x4
      · exact y4
theorem tl_le : ∀ {d : Nat}, d ≤ 3 → tl d ≤ 64
  | 0, _ => by decide
  | 1, _ => by decide
  | 2, _ => by decide
  | 3, _ => by decide
theorem co_cases {k : Nat} {v : D} (h : coB k v = true) : ∃ z, v = .tup [.str "co", .str z] ∧ letterB k (.str z) = true := by
  cases v with
  | tup l =>
    match l, h with
    | [w, x], h =>
      rw [coB, Bool.and_eq_true] at h
      obtain ⟨z, rfl, hz⟩ := word_cases h.1
      have hz : z = Str.ofString "co" := by simpa using hz
      subst hz
      cases x with
      | str z => exact ⟨z, rfl, h.2⟩
      | _ => exact absurd h.2 (by simp [letterB])
    | [], h => simp [coB] at h
    | [_], h => simp [coB] at h
    | _ :: _ :: _ :: _, h => simp [coB] at h
  | _ => simp [coB] at h
theorem letter_early {k : Nat} (hk : k ≤ 3) {z : Str} (h : letterB k (.str z) = true) : earlyB k (.str z) = true := by
  simp only [letterB, Bool.and_eq_true, decide_eq_true_eq] at h
  have e := abc_eq hk h.1
  rw [h.2, Bool.and_eq_true] at e
  simp [earlyB, h.1, e.1]
structure Te' (k : Nat) (v : D) : Prop where
  b : plainB k 3 v = true ∨ coB k v = true
  len : (textS v).length ≤ 64
  as : asc (textS v) = true
  tm : Tm v
theorem term_te {k : Nat} (hk : k ≤ 3) {v : D} (h : plainB k 3 v = true ∨ coB k v = true) : Te' k v := by
  rcases id h with h1 | h1
  · obtain ⟨h1, h2, h3, h4⟩ := plain_pl hk h1
    exact ⟨h, Nat.le_trans h2 (by decide), h3, h4⟩
  · obtain ⟨z, rfl, hz⟩ := co_cases h1
    have h1 := letter_early hk hz
    have h2 := early_len h1
    have h3 := early_asc hk h1
    refine ⟨h, ?_, ?_, .tup _ (by simp) ?_⟩
    · rw [textS]
      simp [h2]
    · rw [textS]
      simp [h3]
    · intro w hw
      simp only [List.mem_cons, List.mem_nil_iff, or_false] at hw
      rcases hw with rfl | rfl
      · exact .str _ (by simp)
      · exact .str _ (by omega)
theorem lets_len {k : Nat} (hk : k ≤ 3) : 1 ≤ (lets k).length ∧ (lets k).length < 1000 := by
  match k, hk with
  | 0, _ => decide
  | 1, _ => decide
  | 2, _ => decide
  | 3, _ => decide
theorem lets_early {k c : Nat} (h : c ∈ (lets k).cps.toList) : earlyB k (.str ⟨#[c]⟩) = true := by
  simp only [earlyB, Bool.and_eq_true, decide_eq_true_eq]
  exact ⟨rfl, by rw [inS_one]; exact decide_eq_true h⟩
theorem abc_len {k : Nat} (hk : k ≤ 3) (h0 : 0 < k) : 1 ≤ (cutS (Str.ofString "abc") none (some (k : Int))).length ∧ (cutS (Str.ofString "abc") none (some (k : Int))).length < 1000 := by
  match k, hk, h0 with
  | 1, _, _ => decide
  | 2, _, _ => decide
  | 3, _, _ => decide
def spotN : D → Nat
  | .str z => if z = "n" then 0 else if z = "a" then 1 else if z = "b" then 2 else 3
  | _ => 0
theorem early_cases {k : Nat} (hk : k ≤ 3) {z : Str} (h : earlyB k (.str z) = true) : z = "n" ∨ (z = "a" ∧ 1 ≤ k) ∨ (z = "b" ∧ 2 ≤ k) ∨ (z = "c" ∧ 3 ≤ k) := by
  have hl := early_len h
  simp only [earlyB, Bool.and_eq_true] at h
  obtain ⟨c, rfl⟩ := one_of hl
  have h2 := h.2
  rw [inS_one] at h2
  have h3 := of_decide_eq_true h2
  match k, hk with
  | 0, _ =>
    rw [show (lets 0).cps.toList = [110] from rfl] at h3
    simp at h3
    subst h3
    exact .inl rfl
  | 1, _ =>
    rw [show (lets 1).cps.toList = [110, 97] from rfl] at h3
    simp at h3
    rcases h3 with rfl | rfl
    · exact .inl rfl
    · exact .inr (.inl ⟨rfl, by decide⟩)
  | 2, _ =>
    rw [show (lets 2).cps.toList = [110, 97, 98] from rfl] at h3
    simp at h3
    rcases h3 with rfl | rfl | rfl
    · exact .inl rfl
    · exact .inr (.inl ⟨rfl, by decide⟩)
    · exact .inr (.inr (.inl ⟨rfl, by decide⟩))
  | 3, _ =>
    rw [show (lets 3).cps.toList = [110, 97, 98, 99] from rfl] at h3
    simp at h3
    rcases h3 with rfl | rfl | rfl | rfl
    · exact .inl rfl
    · exact .inr (.inl ⟨rfl, by decide⟩)
    · exact .inr (.inr (.inl ⟨rfl, by decide⟩))
    · exact .inr (.inr (.inr ⟨rfl, by decide⟩))
theorem ix_a : smD .index (Str.ofString "abc") (.str "a") = some (.int 0) := by kernel_rfl
theorem ix_b : smD .index (Str.ofString "abc") (.str "b") = some (.int 1) := by kernel_rfl
theorem ix_c : smD .index (Str.ofString "abc") (.str "c") = some (.int 2) := by kernel_rfl
theorem jx_n : smD .index (Str.ofString "nabc") (.str "n") = some (.int 0) := by kernel_rfl
theorem jx_a : smD .index (Str.ofString "nabc") (.str "a") = some (.int 1) := by kernel_rfl
theorem jx_b : smD .index (Str.ofString "nabc") (.str "b") = some (.int 2) := by kernel_rfl
theorem jx_c : smD .index (Str.ofString "nabc") (.str "c") = some (.int 3) := by kernel_rfl
theorem abs_nat (a : Nat) : (if (a : Int) < 0 then -(a : Int) else a) = a := by
  rw [if_neg (by omega)]
def mS (i : Nat) (s : Ss) : Nat := match s.r[i]? with
  | some (.w (.d (.int y))) => y.toNat
  | _ => 0
theorem s_tgetN {l : List Nat} {i : Int} (h0 : 0 ≤ i) (h1 : i < (l.length : Int)) : subD (.tup (l.map fun x : Nat => D.int x)) (.int i) = some (.int (l.getD i.toNat 0 : Nat)) := by
  rw [s_tget h0 (by rw [List.length_map]; exact h1)]
  have h2 : i.toNat < l.length := by omega
  rw [List.getD_eq_getElem?_getD, List.getD_eq_getElem?_getD, List.getElem?_map, List.getElem?_eq_getElem h2]
  rfl
def termV (nums : List Nat) : D → Nat
  | .str z => nums.getD (spotN (.str z)) 0
  | .tup [.str h, x, y] => if h = "gcd" then Nat.gcd (termV nums x) (termV nums y) else Nat.lcm (termV nums x) (termV nums y)
  | _ => 0
abbrev nD (nums : List Nat) : List D := nums.map fun x : Nat => D.int x
structure NOk (m k : Nat) (nums : List Nat) : Prop where
  m1 : 1 ≤ m
  m2 : m ≤ 72
  len : nums.length = k + 1
  dv : ∀ x ∈ nums, 1 ≤ x ∧ x ∣ m
theorem spot_lt {k : Nat} (hk : k ≤ 3) {z : Str} (h : earlyB k (.str z) = true) : spotN (.str z) ≤ k := by
  rcases early_cases hk h with rfl | ⟨rfl, _⟩ | ⟨rfl, _⟩ | ⟨rfl, _⟩ <;> simp [spotN] <;> omega
theorem nget {m k : Nat} {nums : List Nat} (N : NOk m k nums) {i : Nat} (h : i ≤ k) : 1 ≤ nums.getD i 0 ∧ nums.getD i 0 ∣ m := by
  have h2 : i < nums.length := by rw [N.len]; omega
  refine N.dv _ ?_
  rw [List.getD_eq_getElem?_getD, List.getElem?_eq_getElem h2]
  exact List.getElem_mem h2
theorem termV_ok {m k d : Nat} (hk : k ≤ 3) {nums : List Nat} (N : NOk m k nums) {v : D} (h : plainB k d v = true) : 1 ≤ termV nums v ∧ termV nums v ∣ m := by
  refine plain_ind (P := fun _ v => 1 ≤ termV nums v ∧ termV nums v ∣ m) ?_ ?_ h
  · intro d z hz
    exact nget N (spot_lt hk hz)
  · intro d h x y hh _ _ hx hy
    rw [termV]
    split
    · exact ⟨Nat.gcd_pos_of_pos_left _ hx.1, Nat.dvd_trans (Nat.gcd_dvd_left _ _) hx.2⟩
    · exact ⟨Nat.lcm_pos hx.1 hy.1, Nat.lcm_dvd hx.2 hy.2⟩
theorem le72 {m x : Nat} (h1 : 1 ≤ m) (h2 : m ≤ 72) (h : x ∣ m) : x ≤ 72 := Nat.le_trans (Nat.le_of_dvd h1 h) h2
theorem lcm1 (a b : Nat) : a / Nat.gcd a b * b = Nat.lcm a b := by
  unfold Nat.lcm
  obtain ⟨c, hc⟩ := Nat.gcd_dvd_left a b
  by_cases hg : Nat.gcd a b = 0
  · rw [hg]; simp
  · generalize Nat.gcd a b = g at hc hg
    subst hc
    rw [Nat.mul_div_cancel_left c (by omega), Nat.mul_assoc, Nat.mul_div_cancel_left _ (by omega)]
structure HOk (k : Nat) (hs : List D) (nums : List Nat) : Prop where
  len : hs.length = k
  src : ∀ i, i < k → ∃ z, hs[i]? = some (.str z) ∧ earlyB i (.str z) = true ∧ nums.getD (i + 1) 0 ∣ nums.getD (spotN (.str z)) 0
def coV (hs : List D) (nums : List Nat) (z : D) : Nat := nums.getD (spotN (hs.getD (spotN z - 1) .non)) 0 / nums.getD (spotN z) 0
theorem letter_pos {k : Nat} (hk : k ≤ 3) {z : Str} (h : letterB k (.str z) = true) : 1 ≤ spotN (.str z) ∧ spotN (.str z) ≤ k := by
  have he := letter_early hk h
  refine ⟨?_, spot_lt hk he⟩
  rcases early_cases hk he with rfl | ⟨rfl, _⟩ | ⟨rfl, _⟩ | ⟨rfl, _⟩
  · have : letterB k (.str "n") = false := by match k, hk with | 0, _ => kernel_rfl | 1, _ => kernel_rfl | 2, _ => kernel_rfl | 3, _ => kernel_rfl
    rw [this] at h
    cases h
  all_goals simp [spotN]
def dvs (x : Nat) : List Nat := ((List.range x).map (· + 1)).filter fun d => x % d == 0
theorem dvs_mem {x d : Nat} (h : d ∈ dvs x) : 1 ≤ d ∧ d ∣ x := by
  obtain ⟨h1, h2⟩ := List.mem_filter.mp h
  obtain ⟨i, _, rfl⟩ := List.mem_map.mp h1
  exact ⟨by omega, Nat.dvd_of_mod_eq_zero (by simpa using h2)⟩
theorem dvs_ne {x : Nat} (h : 1 ≤ x) : 1 ≤ (dvs x).length := by
  have : 1 ∈ dvs x := List.mem_filter.mpr ⟨List.mem_map.mpr ⟨0, List.mem_range.mpr h, rfl⟩, by simp [Nat.mod_one]⟩
  exact List.length_pos_of_mem this
theorem dvs_len {x : Nat} : (dvs x).length ≤ x := by
  have := List.length_filter_le (fun d => x % d == 0) ((List.range x).map (· + 1))
  simpa [dvs] using this
end Pc

set_option Elab.async false
set_option linter.all false
set_option maxRecDepth 100000
set_option maxHeartbeats 4000000
namespace Pc
open PySem
inductive Tr
  | at (v : D) | nt (t : Tr) | j2 (b : Bool) (x y : Tr) | j3 (b : Bool) (x y z : Tr)
def jw : Bool → Str
  | true => "and"
  | false => "or"
namespace Tr
def toD : Tr → D
  | .at v => v
  | .nt t => .tup [.str "not", t.toD]
  | .j2 b x y => .tup [.str (jw b), x.toD, y.toD]
  | .j3 b x y z => .tup [.str (jw b), x.toD, y.toD, z.toD]
def ats : Tr → List D
  | .at v => [v]
  | .nt t => t.ats
  | .j2 _ x y => x.ats ++ y.ats
  | .j3 _ x y z => x.ats ++ (y.ats ++ z.ats)
def val (f : D → Bool) : Tr → Bool
  | .at v => f v
  | .nt t => !t.val f
  | .j2 true x y => x.val f && y.val f
  | .j2 false x y => x.val f || y.val f
  | .j3 true x y z => x.val f && (y.val f && z.val f)
  | .j3 false x y z => x.val f || (y.val f || z.val f)
def dep : Tr → Nat
  | .at _ => 1
  | .nt t => t.dep + 1
  | .j2 _ x y => max x.dep y.dep + 1
  | .j3 _ x y z => max x.dep (max y.dep z.dep) + 1
def Ok (P : D → Prop) : Tr → Prop
  | .at v => P v
  | .nt t => t.Ok P
  | .j2 _ x y => x.Ok P ∧ y.Ok P
  | .j3 _ x y z => x.Ok P ∧ y.Ok P ∧ z.Ok P
theorem ok_ats {P : D → Prop} : ∀ {t : Tr}, t.Ok P → ∀ v ∈ t.ats, P v
  | .at v, h, w, hw => by simp [ats] at hw; subst hw; exact h
  | .nt t, h, w, hw => ok_ats (t := t) h w hw
  | .j2 _ x y, h, w, hw => by
    rcases List.mem_append.mp hw with e | e
    · exact ok_ats h.1 w e
    · exact ok_ats h.2 w e
  | .j3 _ x y z, h, w, hw => by
    rcases List.mem_append.mp hw with e | e
    · exact ok_ats h.1 w e
    · rcases List.mem_append.mp e with e | e
      · exact ok_ats h.2.1 w e
      · exact ok_ats h.2.2 w e
end Tr
inductive Atm (k : Nat) : D → Prop
  | one (t : D) : Te' k t → Atm k (.tup [.str "one", t])
  | free (t : D) : Te' k t → Atm k (.tup [.str "free", t])
  | two (w : Str) (x y : D) : (w = "coprime" ∨ w = "divides" ∨ w = "same") → plainB k 2 x = true → plainB k 2 y = true → Atm k (.tup [.str w, x, y])
  | uni (z : Str) : letterB k (.str z) = true → Atm k (.tup [.str "unitary", .str z])
/-- the head word of a tuple is none of the joining ones -/
def headB : D → Prop
  | .tup (.str w :: _ :: _) => w ≠ "not" ∧ w ≠ "and" ∧ w ≠ "or"
  | _ => False
theorem Atm.head {k : Nat} {v : D} (h : Atm k v) : headB v := by
  cases h with
  | two w x y hw => rcases hw with rfl | rfl | rfl <;> (refine ⟨?_, ?_, ?_⟩ <;> decide)
  | _ => refine ⟨?_, ?_, ?_⟩ <;> decide
theorem headB.cases {v : D} (h : headB v) : ∃ w x l, v = .tup (.str w :: x :: l) ∧ w ≠ "not" ∧ w ≠ "and" ∧ w ≠ "or" := by
  match v, h with
  | .tup (.str w :: x :: l), h => exact ⟨w, x, l, rfl, h⟩
theorem comp_c {f : D → List D → Ss → Res (List D)} {x : D} {l acc : List D} {s : Ss} {Q : List D → Ss → Prop} (h : (f x acc s).wp fun acc' s' => (comp f l acc' s').wp Q) : (comp f (x :: l) acc s).wp Q := by
  show Res.wp (match f x acc s with | .ok acc' s' => comp f l acc' s' | _ => .stuck) _
  cases e1 : f x acc s with
  | ok acc' s' => rw [e1] at h; exact h
  | exc _ _ => rw [e1] at h; exact h.elim
  | stuck => rw [e1] at h; exact h.elim
theorem comp_n {f : D → List D → Ss → Res (List D)} {acc : List D} {s : Ss} {Q : List D → Ss → Prop} (h : Q acc s) : (comp f [] acc s).wp Q := h
/-- a comprehension with two loops: each turn of the outer one appends a list -/
theorem comp_flatE {α : Type} {f : D → List D → Ss → Res (List D)} (I : Ss → Prop) (e : α → D) (h : α → List D) : ∀ {l : List α} {acc : List D} {s : Ss}, acc.length + (l.flatMap h).length ≤ 16777216 → I s →
    (∀ x ∈ l, ∀ (acc : List D) (s : Ss), I s → acc.length + (h x).length ≤ 16777216 → (f (e x) acc s).wp fun acc' s' => acc' = acc ++ h x ∧ I s') → (comp f (l.map e) acc s).wp fun acc' s' => acc' = acc ++ l.flatMap h ∧ I s'
  | [], acc, s, hl, hi, H => comp_n ⟨by simp, hi⟩
  | x :: l, acc, s, hl, hi, H => by
    simp only [List.flatMap_cons, List.length_append] at hl
    have h1 := H x (List.mem_cons_self ..) acc s hi (by omega)
    refine comp_c ?_
    cases e1 : f (e x) acc s with
    | ok acc' s' =>
      rw [e1] at h1
      obtain ⟨rfl, hi'⟩ := h1
      have h2 := comp_flatE I e h (l := l) (acc := acc ++ h x) (s := s') (by rw [List.length_append]; omega) hi' fun y hy => H y (List.mem_cons_of_mem _ hy)
      rw [List.append_assoc] at h2
      exact h2
    | exc _ _ => rw [e1] at h1; exact h1.elim
    | stuck => rw [e1] at h1; exact h1.elim
@[simp] theorem cutD_1 {α : Type} {x : α} {l : List α} : cutD (x :: l) (some 1) none = l := by
  unfold cutD
  have h1 : HT.sIx (x :: l).length 0 (some 1) = 1 := by simp [HT.sIx]; try omega
  have h2 : HT.sIx (x :: l).length (x :: l).length none = l.length + 1 := by simp [HT.sIx]
  rw [h1, h2]
  simp
def freeN (x : Nat) : Bool := x % 4 != 0 && (x % 9 != 0 && (x % 25 != 0 && x % 49 != 0))
end Pc

set_option Elab.async false
set_option linter.all false
set_option maxRecDepth 100000
set_option maxHeartbeats 4000000
namespace Pc
open PySem
/-- a class's function -/
def dspW (s : Ss) (ds : Dps) (x : W) : Option (Nat × Nat) := match clsW s x with
  | some (c, _) => ds.lookup c
  | none => none
def metO (s : Ss) (m : Str) (ds : Dps) (x : W) : Option (Nat × Nat) := match clsW s x with
  | some (c, ns) => if ns.contains m then none else ds.lookup c
  | none => none
def asN {β : Type} (w : W) (f : Res β) : Res β := match w with
  | .d .non => f
  | _ => .stuck
def asN' {β : Type} (w : W) [k : K0 β] : Res β := asN w k.t
@[simp] theorem asN_n {β : Type} [k : K0 β] : asN' (.d .non) (k := k) = k.t := rfl
def popO (n : Nat) (g : List Cl) : Option (D × List Cl) := match g[n]? with
  | some (.obj c fs) => if g.length = n + 1 then some (.obj c (fs.map (·.1)) (fs.map (·.2)), g.take n) else none
  | _ => none
@[simp] theorem popO_app {g : List Cl} {c : Nat} {fs : List (Str × D)} : popO g.length (g ++ [.obj c fs]) = some (.obj c (fs.map (·.1)) (fs.map (·.2)), g) := by
  unfold popO
  rw [List.getElem?_concat_length]
  simp
def psO (g : List Cl) (r : List Sl) (n : Nat) (f : Str) (v : D) (cs : List Nat) (x : Option Cl) : Option Ss := match x with
  | some (.obj c fs) => if cs.contains c && decide (fs.length < 1000) then some ⟨g.set n (.obj c (putD f v fs)), r⟩ else none
  | _ => none
@[simp] theorem psetW_c {g : List Cl} {r : List Sl} {n : Nat} {f : Str} {v : D} {cs : List Nat} : psetW ⟨g, r⟩ f v cs (.c n) = psO g r n f v cs g[n]? := rfl
@[simp] theorem psO_o {g : List Cl} {r : List Sl} {n : Nat} {f : Str} {v : D} {cs : List Nat} {c : Nat} {fs : List (Str × D)} : psO g r n f v cs (some (.obj c fs)) = if cs.contains c && decide (fs.length < 1000) then some ⟨g.set n (.obj c (putD f v fs)), r⟩ else none := rfl
@[simp] theorem get_top {α : Type} {g : List α} {x : α} : (g ++ [x])[g.length]? = some x := List.getElem?_concat_length
@[simp] theorem set_top {α : Type} {g : List α} {x y : α} : (g ++ [x]).set g.length y = g ++ [y] := by simp
@[simp] theorem putD_nil {f : Str} {v : D} : putD f v [] = [(f, v)] := rfl
@[simp] theorem putD_cons {f g : Str} {v x : D} {r : List (Str × D)} : putD f v ((g, x) :: r) = if g = f then (g, v) :: r else (g, x) :: putD f v r := by rw [putD]
@[simp] theorem clsW_o {s : Ss} {c : Nat} {ns : List Str} {l : List D} : clsW s (.d (.obj c ns l)) = some (c, ns) := rfl
@[simp] theorem clsW_i {s : Ss} {i : Int} : clsW s (.d (.int i)) = none := rfl
@[simp] theorem clsW_b {s : Ss} {i : Bool} : clsW s (.d (.bl i)) = none := rfl
@[simp] theorem clsW_l {s : Ss} {i : List D} : clsW s (.d (.lst i)) = none := rfl
@[simp] theorem clsW_t {s : Ss} {i : List D} : clsW s (.d (.tup i)) = none := rfl
@[simp] theorem clsW_s {s : Ss} {i : Str} : clsW s (.d (.str i)) = none := rfl
@[simp] theorem clsW_n {s : Ss} : clsW s (.d .non) = none := rfl
def clC (x : Option Cl) : Option (Nat × List Str) := match x with
  | some (.obj c fs) => some (c, fs.map (·.1))
  | _ => none
@[simp] theorem clsW_c {g : List Cl} {r : List Sl} {n : Nat} : clsW ⟨g, r⟩ (.c n) = clC g[n]? := rfl
@[simp] theorem clC_o {c : Nat} {fs : List (Str × D)} : clC (some (.obj c fs)) = some (c, fs.map (·.1)) := rfl
@[simp] theorem clC_l {l : List D} : clC (some (.lst l)) = none := rfl
@[simp] theorem clC_f {l : List D} : clC (some (.fz l)) = none := rfl
@[simp] theorem fldW_o {s : Ss} {f : Str} {cs : List Nat} {c : Nat} {ns : List Str} {l : List D} : fldW s f cs (.d (.obj c ns l)) = if cs.contains c then (ns.zip l).lookup f else none := rfl
def flC (f : Str) (cs : List Nat) (x : Option Cl) : Option D := match x with
  | some (.obj c fs) => if cs.contains c then fs.lookup f else none
  | _ => none
@[simp] theorem fldW_c {g : List Cl} {r : List Sl} {f : Str} {cs : List Nat} {n : Nat} : fldW ⟨g, r⟩ f cs (.c n) = flC f cs g[n]? := rfl
@[simp] theorem flC_o {f : Str} {cs : List Nat} {c : Nat} {fs : List (Str × D)} : flC f cs (some (.obj c fs)) = if cs.contains c then fs.lookup f else none := rfl
@[simp] theorem lk_hit {β : Type} {f : Str} {x : β} {r : List (Str × β)} : List.lookup f ((f, x) :: r) = some x := by simp [List.lookup]
@[simp] theorem dps_hit {c f p : Nat} {r : Dps} : List.lookup c ((c, f, p) :: r) = some (f, p) := by simp [List.lookup]
theorem dps_no {c c' : Nat} {q : Nat × Nat} {r : Dps} (h : c ≠ c') : List.lookup c ((c', q) :: r) = r.lookup c := by
  have : (c == c') = false := by simpa using h
  simp [List.lookup, this]
section
variable {o : Or} {s : Ss} {α β : Type}
theorem call_cb {f p : Nat} {ws zs : List W} : callR o f p ws zs s = cbind (o f p ws zs s.g) (fun w g => .ok w ⟨g, s.r⟩) (fun e g => .exc e ⟨g, s.r⟩) := by
  unfold callR
  cases o f p ws zs s.g with
  | ok w g => cases w <;> rfl
  | exc _ _ => rfl
  | stuck => rfl
theorem disp_opt {ds : Dps} {c : Nat} {ws zs : List W} : dispR o ds c ws zs s = opt (ds.lookup c) fun q => callR o q.1 q.2 ws zs s := by
  unfold dispR
  cases ds.lookup c with
  | none => rfl
  | some q => rfl
theorem q_fld0 {e : Ex} {f : Str} {cs : List Nat} : ev o (.fld e f cs) s = (ev o e s).bind fun x s1 => opt (fldW s1 f cs x) fun d => .ok (.d d) s1 := by
  rw [ev]
  congr 1
  funext x s1
  rw [of_opt, opt_map]
theorem q_met0 {e : Ex} {m : Str} {ds : Dps} {es kes : Exs} : ev o (.met e m ds es kes) s = (ev o e s).bind fun x s1 => opt (metO s1 m ds x) fun q => (evs o es s1).bind fun ws s2 => (evs o kes s2).bind fun zs s3 =>
    cbind (o q.1 q.2 (x :: ws) zs s3.g) (fun w g => .ok w ⟨g, s3.r⟩) (fun e g => .exc e ⟨g, s3.r⟩) := by
  rw [ev]
  congr 1
  funext x s1
  unfold metR metO
  cases clsW s1 x with
  | none => rfl
  | some q =>
    obtain ⟨c, ns⟩ := q
    dsimp only
    split
    · rfl
    · cases ds.lookup c with
      | none => rfl
      | some q =>
        show (evs o es s1).bind _ = (evs o es s1).bind _
        congr 1
        funext ws s2
        congr 1
        funext zs s3
        exact call_cb
theorem noX_call {f p : Nat} {ws zs : List W} : noX (callR o f p ws zs s) = cbind (o f p ws zs s.g) (fun w g => .ok w ⟨g, s.r⟩) (fun _ _ => .stuck) := by
  unfold callR
  cases o f p ws zs s.g with
  | ok w g => cases w <;> rfl
  | exc _ _ => rfl
  | stuck => rfl
theorem q_prp0 {e : Ex} {f : Str} {ds : Dps} : ev o (.prp e f ds) s = (ev o e s).bind fun x s1 => opt (dspW s1 ds x) fun q => cbind (o q.1 q.2 [x] [] s1.g) (fun w g => .ok w ⟨g, s1.r⟩) (fun _ _ => .stuck) := by
  rw [ev]
  congr 1
  funext x s1
  unfold dspW
  cases clsW s1 x with
  | none => rfl
  | some q =>
    obtain ⟨c, ns⟩ := q
    dsimp only
    unfold dispR
    cases ds.lookup c with
    | none => rfl
    | some q => exact noX_call
theorem q_new0 {c f p : Nat} {fro : Bool} {es kes : Exs} : ev o (.new c f p fro es kes) s = (evs o es s).bind fun ws s1 => (evs o kes s1).bind fun zs s2 =>
    cbind (o f p (.c s2.g.length :: ws) zs (s2.g ++ [.obj c []])) (fun w g => asN w (cnd fro (opt (popO s2.g.length g) fun q => .ok (.d q.1) ⟨q.2, s2.r⟩) (.ok (.c s2.g.length) ⟨g, s2.r⟩))) (fun e g => .exc e ⟨g, s2.r⟩) := by
  rw [ev]
  congr 1
  funext ws s1
  congr 1
  funext zs s2
  unfold newR
  cases o f p (.c s2.g.length :: ws) zs (s2.g ++ [.obj c []]) with
  | exc _ _ => rfl
  | stuck => rfl
  | ok w g =>
    cases w with
    | c _ => rfl
    | b _ => rfl
    | d x =>
      cases x with
      | non =>
        show newD _ _ _ = cnd fro _ _
        unfold newD
        cases fro with
        | false => rfl
        | true =>
          show (match g[s2.g.length]? with
            | some (.obj c fs) => if g.length = s2.g.length + 1 then .ok (.d (.obj c (fs.map (·.1)) (fs.map (·.2)))) _ else .stuck
            | _ => .stuck : Res W) = opt (popO _ _) _
          unfold popO
          cases g[s2.g.length]? with
          | none => rfl
          | some u =>
            cases u with
            | obj c fs =>
              dsimp only
              split <;> rfl
            | _ => rfl
      | _ => rfl
theorem q_opo0 {f : O2} {ds rs : Dps} {a b : Ex} : ev o (.opo f ds rs a b) s = (ev o a s).bind fun x s1 => (ev o b s1).bind fun y s2 => opoR o f ds rs x y s2 := by rw [ev]
theorem q_cmo0 {f : C2} {ds : Dps} {a b : Ex} : ev o (.cmo f ds a b) s = (ev o a s).bind fun x s1 => (ev o b s1).bind fun y s2 => cmoR o f ds x y s2 := by rw [ev]
theorem q_uno0 {u : U1} {ds : Dps} {a : Ex} : ev o (.uno u ds a) s = (ev o a s).bind fun x s1 => unoR o u ds x s1 := by rw [ev]
theorem q_bio0 {b : Bi} {ds : Dps} {a : Ex} : ev o (.bio b ds a) s = (ev o a s).bind fun x s1 => bioR o b ds x s1 := by rw [ev]
theorem q_isc0 {a : Ex} {cs : List Nat} {tys : List String} : ev o (.isc a cs tys) s = (ev o a s).bind fun x s1 => opt (iscR cs tys x s1) fun b => .ok (.d (.bl b)) s1 := by
  rw [ev]
  congr 1
  funext x s1
  rw [of_opt, opt_map]
theorem q_xmk0 {q : Xd} {kw : Bool} {es kes : Exs} : ev o (.xmk q kw es kes) s = (evs o es s).bind fun ws s1 => (evs o kes s1).bind fun zs s2 => xmkR q kw ws zs s2 := by rw [ev]
theorem q_xfld0 {a : Ex} {f : Str} {all : List Xd} : ev o (.xfld a f all) s = (ev o a s).bind fun x s1 => opt (xfldD f all x) fun d => .ok (.d d) s1 := by
  rw [ev]
  refine congrArg (Res.bind _) (funext fun x => funext fun s1 => ?_)
  cases xfldD f all x <;> rfl
theorem q_xis0 {a : Ex} {q : Xk} : ev o (.xis a q) s = (ev o a s).bind fun x s1 => opt (xisD q.all q.yes x) fun b => .ok (.d (.bl b)) s1 := by
  rw [ev]
  refine congrArg (Res.bind _) (funext fun x => funext fun s1 => ?_)
  cases xisD q.all q.yes x <;> rfl
theorem q_lix0 {c e : Ex} : ev o (.lix c e) s = (ev o c s).bind fun x s1 => opt (lookL s1 x) fun _ => (ev o e s1).bind fun y s2 => opt (look s2 x) fun p => opt (look s2 y) fun q => asLD p fun l => opt (lixD l q) fun j => .ok (.d (.int (j : Nat))) s2 := by
  rw [ev]
  congr 1
  funext x s1
  cases lookL s1 x with
  | none => rfl
  | some l0 =>
    show Res.bind _ _ = Res.bind _ _
    congr 1
    funext y s2
    cases look s2 x with
    | none => rfl
    | some p =>
      cases look s2 y with
      | none => cases p <;> rfl
      | some q =>
        cases p with
        | lst l =>
          show Res.of _ _ = opt _ _
          rw [of_opt, opt_map]
          rfl
        | _ => rfl
theorem q_eo0 {ds : Dps} {x : Ex} : evT o (.eo ds x) s = (ev o x s).bind fun w s1 => truR o ds w s1 := by rw [evT]
theorem q_fset0 {c e : Ex} {f : Str} {cs : List Nat} : ex1 o (.fset c f e cs) s = (ev o e s).bind fun v s1 => (ev o c s1).bind fun w s2 => asD v fun d => opt (psetW s2 f d cs w) fun s3 => .ok .nx s3 := by
  rw [ex1]
  congr 1
  funext v s1
  congr 1
  funext w s2
  cases v with
  | d d =>
    dsimp only [asD]
    cases psetW s2 f d cs w <;> rfl
  | _ => rfl
abbrev callB (o : Or) (q : Nat × Nat) (ws : List W) (s : Ss) : Res W := cbind' (o q.1 q.2 ws [] s.g) (k := ⟨fun w g => .ok w ⟨g, s.r⟩, fun e g => .exc e ⟨g, s.r⟩⟩)
@[simp] theorem callB_eq {q : Nat × Nat} {ws : List W} : callB o q ws s = cbind' (o q.1 q.2 ws [] s.g) (k := ⟨fun w g => .ok w ⟨g, s.r⟩, fun e g => .exc e ⟨g, s.r⟩⟩) := rfl
theorem disp_b {ds : Dps} {c : Nat} {ws : List W} : dispR o ds c ws [] s = opt' (ds.lookup c) (k := ⟨fun q => callB o q ws s⟩) := by
  rw [disp_opt]
  show opt _ _ = opt _ _
  congr 1
  funext q
  exact call_cb
@[simp ↓] theorem q_fld {e : Ex} {f : Str} {cs : List Nat} : ev o (.fld e f cs) s = bd (ev o e s) (k := ⟨fun x s1 => opt' (fldW s1 f cs x) (k := ⟨fun d => .ok (.d d) s1⟩)⟩) := q_fld0
@[simp ↓] theorem q_met {e : Ex} {m : Str} {ds : Dps} {es kes : Exs} : ev o (.met e m ds es kes) s = bd (ev o e s) (k := ⟨fun x s1 => opt' (metO s1 m ds x) (k := ⟨fun q => bd (evs o es s1) (k := ⟨fun ws s2 => bd (evs o kes s2) (k := ⟨fun zs s3 =>
    cbind' (o q.1 q.2 (x :: ws) zs s3.g) (k := ⟨fun w g => .ok w ⟨g, s3.r⟩, fun e g => .exc e ⟨g, s3.r⟩⟩)⟩)⟩)⟩)⟩) := q_met0
@[simp ↓] theorem q_prp {e : Ex} {f : Str} {ds : Dps} : ev o (.prp e f ds) s = bd (ev o e s) (k := ⟨fun x s1 => opt' (dspW s1 ds x) (k := ⟨fun q => cbind' (o q.1 q.2 [x] [] s1.g) (k := ⟨fun w g => .ok w ⟨g, s1.r⟩, fun _ _ => .stuck⟩)⟩)⟩) := q_prp0
@[simp ↓] theorem q_new {c f p : Nat} {fro : Bool} {es kes : Exs} : ev o (.new c f p fro es kes) s = bd (evs o es s) (k := ⟨fun ws s1 => bd (evs o kes s1) (k := ⟨fun zs s2 =>
    cbind' (o f p (.c s2.g.length :: ws) zs (s2.g ++ [.obj c []])) (k := ⟨fun w g => asN' w (k := ⟨cnd' fro (k := ⟨opt' (popO s2.g.length g) (k := ⟨fun q => .ok (.d q.1) ⟨q.2, s2.r⟩⟩), .ok (.c s2.g.length) ⟨g, s2.r⟩⟩)⟩), fun e g => .exc e ⟨g, s2.r⟩⟩)⟩)⟩) := q_new0
@[simp ↓] theorem q_opo {f : O2} {ds rs : Dps} {a b : Ex} : ev o (.opo f ds rs a b) s = bd (ev o a s) (k := ⟨fun x s1 => bd (ev o b s1) (k := ⟨fun y s2 => opoR o f ds rs x y s2⟩)⟩) := q_opo0
@[simp ↓] theorem q_cmo {f : C2} {ds : Dps} {a b : Ex} : ev o (.cmo f ds a b) s = bd (ev o a s) (k := ⟨fun x s1 => bd (ev o b s1) (k := ⟨fun y s2 => cmoR o f ds x y s2⟩)⟩) := q_cmo0
@[simp ↓] theorem q_uno {u : U1} {ds : Dps} {a : Ex} : ev o (.uno u ds a) s = bd (ev o a s) (k := ⟨fun x s1 => unoR o u ds x s1⟩) := q_uno0
@[simp ↓] theorem q_bio {b : Bi} {ds : Dps} {a : Ex} : ev o (.bio b ds a) s = bd (ev o a s) (k := ⟨fun x s1 => bioR o b ds x s1⟩) := q_bio0
@[simp ↓] theorem q_xmk {q : Xd} {kw : Bool} {es kes : Exs} : ev o (.xmk q kw es kes) s = bd (evs o es s) (k := ⟨fun ws s1 => bd (evs o kes s1) (k := ⟨fun zs s2 => xmkR q kw ws zs s2⟩)⟩) := q_xmk0
@[simp ↓] theorem q_xfld {a : Ex} {f : Str} {all : List Xd} : ev o (.xfld a f all) s = bd (ev o a s) (k := ⟨fun x s1 => opt' (xfldD f all x) (k := ⟨fun d => .ok (.d d) s1⟩)⟩) := q_xfld0
@[simp ↓] theorem q_xis {a : Ex} {q : Xk} : ev o (.xis a q) s = bd (ev o a s) (k := ⟨fun x s1 => opt' (xisD q.all q.yes x) (k := ⟨fun b => .ok (.d (.bl b)) s1⟩)⟩) := q_xis0
@[simp] theorem xmk_0 {n p : Str} {b : Xb} {s : Ss} : xmkR ⟨n, none, p, b⟩ false [] [] s = .ok (.d (.exn n "" .non)) s := rfl
@[simp] theorem xmk_1 {n p f : Str} {b : Xb} {s : Ss} {d : D} : xmkR ⟨n, some f, p, b⟩ false [.d d] [] s = .ok (.d (.exn n f d)) s := rfl
@[simp] theorem xmk_k {n p f : Str} {b : Xb} {s : Ss} {d : D} : xmkR ⟨n, some f, p, b⟩ true [] [.d d] s = .ok (.d (.exn n f d)) s := rfl
@[simp ↓] theorem q_isc {a : Ex} {cs : List Nat} {tys : List String} : ev o (.isc a cs tys) s = bd (ev o a s) (k := ⟨fun x s1 => opt' (iscR cs tys x s1) (k := ⟨fun b => .ok (.d (.bl b)) s1⟩)⟩) := q_isc0
@[simp ↓] theorem q_lix {c e : Ex} : ev o (.lix c e) s = bd (ev o c s) (k := ⟨fun x s1 => opt' (lookL s1 x) (k := ⟨fun _ => bd (ev o e s1) (k := ⟨fun y s2 => opt' (look s2 x) (k := ⟨fun p => opt' (look s2 y) (k := ⟨fun q => asLD' p (k := ⟨fun l => opt' (lixD l q) (k := ⟨fun j => .ok (.d (.int (j : Nat))) s2⟩)⟩)⟩)⟩)⟩)⟩)⟩) := q_lix0
@[simp ↓] theorem q_eo {ds : Dps} {x : Ex} : evT o (.eo ds x) s = bd (ev o x s) (k := ⟨fun w s1 => truR o ds w s1⟩) := q_eo0
@[simp ↓] theorem q_fset {c e : Ex} {f : Str} {cs : List Nat} : ex1 o (.fset c f e cs) s = bd (ev o e s) (k := ⟨fun v s1 => bd (ev o c s1) (k := ⟨fun w s2 => asD' v (k := ⟨fun d => opt' (psetW s2 f d cs w) (k := ⟨fun s3 => .ok .nx s3⟩)⟩)⟩)⟩) := q_fset0
@[simp] theorem metO_o {m : Str} {ds : Dps} {c : Nat} {ns : List Str} {l : List D} : metO s m ds (.d (.obj c ns l)) = if ns.contains m then none else ds.lookup c := rfl
@[simp] theorem dspW_o {ds : Dps} {c : Nat} {ns : List Str} {l : List D} : dspW s ds (.d (.obj c ns l)) = ds.lookup c := rfl
variable {c : Nat} {ns ns' : List Str} {l l' : List D} {i : Int} {f : O2} {ds rs : Dps}
@[simp] theorem opo_oo : opoR o f ds rs (.d (.obj c ns l)) (.d (.obj c ns' l')) s = opt' (ds.lookup c) (k := ⟨fun q => callB o q [.d (.obj c ns l), .d (.obj c ns' l')] s⟩) := by
  unfold opoR
  show (if c = c then dispR _ _ _ _ _ _ else _ : Res W) = _
  rw [if_pos rfl, disp_b]
@[simp] theorem opo_oi : opoR o f ds rs (.d (.obj c ns l)) (.d (.int i)) s = opt' (ds.lookup c) (k := ⟨fun q => callB o q [.d (.obj c ns l), .d (.int i)] s⟩) := by
  unfold opoR
  show (if _ then dispR _ _ _ _ _ _ else _ : Res W) = _
  rw [if_pos (by rfl), disp_b]
@[simp] theorem opo_io : opoR o f ds rs (.d (.int i)) (.d (.obj c ns l)) s = opt' (rs.lookup c) (k := ⟨fun q => callB o q [.d (.obj c ns l), .d (.int i)] s⟩) := by
  unfold opoR
  show (if _ then dispR _ _ _ _ _ _ else _ : Res W) = _
  rw [if_pos (by rfl), disp_b]
/-- what a truth or a comparison hands back -/
def blK (w : W) (f : Bool → Res W) : Res W := asB w f
theorem cmp_b {g : C2} {b : Bool} {w : W} : Res.of ((isBl w).map fun b => W.d (.bl (if g = .ne then !b else b))) s = asB' w (k := ⟨fun b => .ok (.d (.bl (if g = .ne then !b else b))) s⟩) := by
  cases w with
  | d x => cases x <;> rfl
  | _ => rfl
theorem bind_b {r : Res W} {g : C2} : (r.bind fun w s1 => Res.of ((isBl w).map fun b => W.d (.bl (if g = .ne then !b else b))) s1) = bd r (k := ⟨fun w s1 => asB' w (k := ⟨fun b => .ok (.d (.bl (if g = .ne then !b else b))) s1⟩)⟩) := by
  show Res.bind _ _ = Res.bind _ _
  congr 1
  funext w s1
  exact cmp_b (b := true)
@[simp] theorem cmo_oo {g : C2} {c' : Nat} : cmoR o g ds (.d (.obj c ns l)) (.d (.obj c' ns' l')) s = cnd' (ds.any fun q => q.1 == c') (k := ⟨opt' (ds.lookup c) (k := ⟨fun q => bd (callB o q [.d (.obj c ns l), .d (.obj c' ns' l')] s) (k := ⟨fun w s1 => asB' w (k := ⟨fun b => .ok (.d (.bl (if g = .ne then !b else b))) s1⟩)⟩)⟩), .stuck⟩) := by
  unfold cmoR
  show (if (ds.any fun q => q.1 == c') = true then _ else _ : Res W) = _
  rw [iteb_cnd, bind_b, disp_b]
  cases (ds.any fun q => q.1 == c') with
  | false => rfl
  | true => cases ds.lookup c <;> rfl
@[simp] theorem cmo_oi {g : C2} : cmoR o g ds (.d (.obj c ns l)) (.d (.int i)) s = opt' (ds.lookup c) (k := ⟨fun q => bd (callB o q [.d (.obj c ns l), .d (.int i)] s) (k := ⟨fun w s1 => asB' w (k := ⟨fun b => .ok (.d (.bl (if g = .ne then !b else b))) s1⟩)⟩)⟩) := by
  unfold cmoR
  show (if _ then _ else _ : Res W) = _
  rw [if_pos (by rfl), bind_b, disp_b]
  cases ds.lookup c <;> rfl
@[simp] theorem cmo_ol {g : C2} : cmoR o g ds (.d (.obj c ns l)) (.d (.lst l')) s = opt' (ds.lookup c) (k := ⟨fun q => bd (callB o q [.d (.obj c ns l), .d (.lst l')] s) (k := ⟨fun w s1 => asB' w (k := ⟨fun b => .ok (.d (.bl (if g = .ne then !b else b))) s1⟩)⟩)⟩) := by
  unfold cmoR
  show (if _ then _ else _ : Res W) = _
  rw [if_pos (by rfl), bind_b, disp_b]
  cases ds.lookup c <;> rfl
@[simp] theorem cmo_ot {g : C2} : cmoR o g ds (.d (.obj c ns l)) (.d (.tup l')) s = opt' (ds.lookup c) (k := ⟨fun q => bd (callB o q [.d (.obj c ns l), .d (.tup l')] s) (k := ⟨fun w s1 => asB' w (k := ⟨fun b => .ok (.d (.bl (if g = .ne then !b else b))) s1⟩)⟩)⟩) := by
  unfold cmoR
  show (if _ then _ else _ : Res W) = _
  rw [if_pos (by rfl), bind_b, disp_b]
  cases ds.lookup c <;> rfl
theorem tru_b {r : Res W} : (r.bind fun w s1 => Res.of (isBl w) s1) = bd r (k := ⟨fun w s1 => asB' w (k := ⟨fun b => .ok b s1⟩)⟩) := by
  show Res.bind _ _ = Res.bind _ _
  congr 1
  funext w s1
  cases w with
  | d x => cases x <;> rfl
  | _ => rfl
@[simp] theorem tru_o : truR o ds (.d (.obj c ns l)) s = opt' (ds.lookup c) (k := ⟨fun q => bd (callB o q [.d (.obj c ns l)] s) (k := ⟨fun w s1 => asB' w (k := ⟨fun b => .ok b s1⟩)⟩)⟩) := by
  unfold truR
  show (Res.bind _ _) = _
  rw [tru_b, disp_b]
  cases ds.lookup c <;> rfl
@[simp] theorem uno_n : unoR o .neg ds (.d (.obj c ns l)) s = opt' (ds.lookup c) (k := ⟨fun q => callB o q [.d (.obj c ns l)] s⟩) := by
  unfold unoR
  rw [if_neg (by decide)]
  exact disp_b
@[simp] theorem uno_v : unoR o .inv ds (.d (.obj c ns l)) s = opt' (ds.lookup c) (k := ⟨fun q => callB o q [.d (.obj c ns l)] s⟩) := by
  unfold unoR
  rw [if_neg (by decide)]
  exact disp_b
@[simp] theorem uno_t {x : W} : unoR o .not ds x s = bd (truR o ds x s) (k := ⟨fun b s1 => .ok (.d (.bl !b)) s1⟩) := by
  unfold unoR
  rw [if_pos rfl]
  rfl
@[simp] theorem bio_b : bioR o .bool ds (.d (.obj c ns l)) s = opt' (ds.lookup c) (k := ⟨fun q => bd (callB o q [.d (.obj c ns l)] s) (k := ⟨fun w s1 => asB' w (k := ⟨fun b => .ok (.d (.bl b)) s1⟩)⟩)⟩) := by
  unfold bioR
  show (Res.bind _ _) = _
  rw [disp_b]
  cases ds.lookup c with
  | none => rfl
  | some q =>
    show Res.bind _ _ = Res.bind _ _
    congr 1
    funext w s1
    cases w with
    | d x => cases x <;> rfl
    | _ => rfl
@[simp] theorem isc_o {cs : List Nat} {tys : List String} : iscR cs tys (.d (.obj c ns l)) s = some (cs.contains c) := rfl
@[simp] theorem isc_i {cs : List Nat} {tys : List String} : iscR cs tys (.d (.int i)) s = some (tys.contains "int") := rfl
@[simp] theorem isc_l {cs : List Nat} {tys : List String} : iscR cs tys (.d (.lst l)) s = some (tys.contains "list") := rfl
end
end Pc

set_option Elab.async false
set_option linter.all false
set_option maxRecDepth 100000
set_option maxHeartbeats 4000000
namespace Pc
open PySem L2
/-- a list of numbers -/
def iL (l : List Int) : List D := l.map D.int
@[simp] theorem iL_len {l : List Int} : (iL l).length = l.length := List.length_map _
@[simp] theorem iL_emp {l : List Int} : (iL l).isEmpty = l.isEmpty := by cases l <;> rfl
theorem iL_nil : iL [] = [] := rfl
theorem iL_get {l : List Int} {i : Nat} : (iL l)[i]? = l[i]?.map D.int := List.getElem?_map
theorem iL_app {a b : List Int} : iL a ++ iL b = iL (a ++ b) := List.map_append.symm
theorem iL_app1 {a : List Int} {c : Int} : iL a ++ [.int c] = iL (a ++ [c]) := by unfold iL; simp
@[simp] theorem iL_rev {a : List Int} : (iL a).reverse = iL a.reverse := List.map_reverse.symm
@[simp] theorem iL_drop {a : List Int} : (iL a).dropLast = iL a.dropLast := by unfold iL; rw [List.map_dropLast]
theorem iL_set {a : List Int} {i : Nat} {v : Int} : (iL a).set i (.int v) = iL (a.set i v) := by unfold iL; rw [List.map_set]
theorem iL_inj {a b : List Int} (h : iL a = iL b) : a = b := (List.map_inj_right (fun x y e => by cases e; rfl)).mp h
theorem rep_iL {k : Nat} {c : Int} : (List.replicate k [D.int c]).flatten = iL (List.replicate k c) := by
  induction k with
  | zero => rfl
  | succ k ih => rw [List.replicate_succ, List.flatten_cons, ih]; rfl
theorem rep_iL1 {k : Nat} {c : Int} : List.replicate k (D.int c) = iL (List.replicate k c) := by unfold iL; rw [List.map_replicate]
theorem iL_pys : ∀ {l : List Int}, D.pys (iL l) = some (l.map PyData.int)
  | [] => rfl
  | x :: l => by
    show (match D.py (.int x), D.pys (iL l) with | some a, some b => some (a :: b) | _, _ => none) = _
    rw [iL_pys]; rfl
theorem iL_lay : ∀ {l : List Int}, PyData.canLayAll0 (l.map PyData.int) = true
  | [] => by rw [List.map_nil, PyData.canLayAll0]
  | x :: l => by rw [List.map_cons, PyData.canLayAll0, iL_lay]; simp [PyData.canLay0]
theorem iL_dep : ∀ {l : List Int}, PyData.depthAll (l.map PyData.int) = 0
  | [] => by rw [List.map_nil, PyData.depthAll]
  | x :: l => by rw [List.map_cons, PyData.depthAll, iL_dep]; simp [PyData.depth]
theorem iL_eqv : ∀ {a b : List Int}, PyData.eqvAll (a.map PyData.int) (b.map PyData.int) = decide (a = b)
  | [], [] => by simp [PyData.eqvAll]
  | [], _ :: _ => by simp [PyData.eqvAll]
  | _ :: _, [] => by simp [PyData.eqvAll]
  | x :: a, y :: b => by
    rw [List.map_cons, List.map_cons, PyData.eqvAll, iL_eqv]
    by_cases h : x = y <;> by_cases h' : a = b <;> simp [PyData.eqv, h, h']
theorem iL_eqG {a b : List Int} : eqG (.lst (iL a)) (.lst (iL b)) = some (decide (a = b)) := by
  unfold eqG
  have h : ∀ l : List Int, D.py (.lst (iL l)) = some (.list (l.map PyData.int)) := fun l => by
    show (D.pys _).map _ = _
    rw [iL_pys]; rfl
  rw [h, h]
  show optB (SeqAt.shaped _ && SeqAt.shaped _) _ = _
  have h2 : ∀ l : List Int, SeqAt.shaped (.list (l.map PyData.int)) = true := fun l => by
    unfold SeqAt.shaped
    rw [PyData.canLay0, iL_lay, PyData.depth, iL_dep]; rfl
  rw [h2, h2, PyData.eqv, iL_eqv]; rfl
@[simp] theorem k_eql {a b : List Int} : cmpD .eq (.lst (iL a)) (.lst (iL b)) = some (decide (a = b)) := iL_eqG
@[simp] theorem k_nel {a b : List Int} : cmpD .ne (.lst (iL a)) (.lst (iL b)) = some (!decide (a = b)) := by
  show (eqD _ _).map _ = _
  rw [show eqD (.lst (iL a)) (.lst (iL b)) = some (decide (a = b)) from iL_eqG]; rfl
@[simp] theorem k_eql0 {a : List Int} : cmpD .eq (.lst (iL a)) (.lst []) = some (decide (a = [])) := k_eql (b := [])
@[simp] theorem k_nel0 {a : List Int} : cmpD .ne (.lst (iL a)) (.lst []) = some (!decide (a = [])) := k_nel (b := [])
@[simp] theorem it_iL {l : List Int} : itemsD (.lst (iL l)) = some (iL l) := rfl
theorem s_iL {l : List Int} {i : Int} (h0 : 0 ≤ i) (h1 : i < (l.length : Int)) : subD (.lst (iL l)) (.int i) = some (.int (l.getD i.toNat 0)) := by
  rw [s_lget h0 (by rw [iL_len]; exact h1)]
  congr 1
  rw [List.getD_eq_getElem?_getD, List.getD_eq_getElem?_getD, iL_get, List.getElem?_eq_getElem (by omega)]
  rfl
def gz (l : List Int) (i : Nat) : Int := l.getD i 0
theorem s_gz {l : List Int} {i : Int} (k : Nat) (e : i = k) (h : k < l.length) : subD (.lst (iL l)) (.int i) = some (.int (gz l k)) := by
  subst e
  exact s_iL (by omega) (by omega)
theorem ix_n {n : Nat} {i : Int} (k : Nat) (e : i = k) (h : k < n) : ixD n i = some k := by
  subst e
  rw [ix_ok (by omega) (by omega)]
  rfl
theorem s_last {l : List Int} {c : Int} : subD (.lst (iL (l ++ [c]))) (.int (-1)) = some (.int c) := by
  show (ixD (iL (l ++ [c])).length (-1)).bind (fun j => (iL (l ++ [c]))[j]?) = _
  rw [iL_len]
  have : ixD (l ++ [c]).length (-1) = some l.length := by
    unfold ixD
    rw [if_neg (by decide), if_pos (by simp; omega)]
    congr 1
    simp
    omega
  rw [this]
  show (iL (l ++ [c]))[l.length]? = _
  rw [iL_get, List.getElem?_concat_length]; rfl
theorem s_lastN {l : List Int} {c : Int} : subD (.lst (iL (l ++ [c]))) (.int (l.length : Nat)) = some (.int c) := by
  rw [s_iL (by omega) (by simp <;> omega)]
  simp
theorem last_iL {l : List Int} {c : Int} : (iL (l ++ [c])).getLast? = some (.int c) := by unfold iL; simp
/-- a list is empty or has a last -/
theorem snoc_cases (l : List Int) : l = [] ∨ ∃ m c, l = m ++ [c] := by
  rcases List.eq_nil_or_concat l with h | ⟨m, c, h⟩
  · exact .inl h
  · exact .inr ⟨m, c, by rw [h]; simp⟩
@[simp] theorem b_booll {l : List D} : biD .bool [.lst l] = some (.bl (!l.isEmpty)) := rfl
@[simp] theorem b_maxN {a b : Nat} : biD .max2 [.int a, .int b] = some (.int (max a b : Nat)) := by
  show some (D.int (if (b : Int) > a then (b : Int) else a)) = _
  congr 2
  split <;> omega
theorem b_maxI {i j : Int} : biD .max2 [.int i, .int j] = some (.int (if j > i then j else i)) := rfl
@[simp] theorem dsOf_mapd : ∀ {l : List D}, dsOf (l.map W.d) = some l
  | [] => rfl
  | x :: l => by
    show (dsOf (l.map W.d)).map _ = _
    rw [dsOf_mapd]; rfl
theorem noB_mapd : ∀ {l : List D}, noB (l.map W.d) = true
  | [] => rfl
  | x :: l => by
    show (!W.isB (.d x) && noB (l.map W.d)) = true
    rw [noB_mapd]; rfl
/-- self and a star -/
theorem args_star1 {fd : Fn} {p : Nat} {w : W} {l : List D} (h : fd.pats[p]? = some ⟨1, [], [.p 0, .va 1]⟩) (hn : fd.np = 2) (hw : w.isB = false) (hl : l.length ≤ 16777216) : argsOf fd p (w :: l.map W.d) [] = some [w, .d (.tup l)] := by
  have hl : l.length ≤ sizeLine := by rw [szl]; exact hl
  unfold argsOf
  rw [h]
  have e : [Ar.p 0, .va 1].map (selW (w :: l.map W.d) []) = [w, .d (.tup l)] := by
    show [w, selW _ _ (.va 1)] = _
    congr 1
    show [match dsOf ((w :: l.map W.d).drop 1) with | some l => if l.length ≤ sizeLine then W.d (.tup l) else .b 0 | none => .b 0] = _
    rw [List.drop_succ_cons, List.drop_zero, dsOf_mapd]
    dsimp only
    rw [if_pos hl]
  dsimp only
  rw [e, if_pos]
  refine ⟨.inr ⟨rfl, by simp⟩, rfl, by rw [hn]; rfl, ?_, rfl, ?_⟩
  · show (!w.isB && noB (l.map W.d)) = true
    rw [hw, noB_mapd]; rfl
  · show (!w.isB && _) = true
    rw [hw]; rfl
theorem enD_get {l : List D} {i : Nat} {x : D} (h : (enD l)[i]? = some x) : ∃ d, l[i]? = some d ∧ x = .tup [.int i, d] := by
  unfold enD at h
  rw [List.getElem?_map] at h
  obtain ⟨q, hq, rfl⟩ := Option.map_eq_some_iff.mp h
  rw [List.getElem?_zipIdx] at hq
  obtain ⟨d, hd, rfl⟩ := Option.map_eq_some_iff.mp hq
  exact ⟨d, hd, by simp⟩
theorem enD_iL {l : List Int} {i : Nat} {x : D} (h : (enD (iL l))[i]? = some x) : ∃ c, l[i]? = some c ∧ x = .tup [.int i, .int c] := by
  obtain ⟨d, hd, rfl⟩ := enD_get h
  rw [iL_get] at hd
  obtain ⟨c, hc, rfl⟩ := Option.map_eq_some_iff.mp hd
  exact ⟨c, hc, rfl⟩
@[simp] theorem enD_len {l : List D} : (enD l).length = l.length := by unfold enD; simp
theorem rg_get {m i : Nat} {d : D} (h : ((List.range m).map fun i : Nat => D.int i)[i]? = some d) : i < m ∧ d = .int i := by
  rw [List.getElem?_map] at h
  obtain ⟨j, hj, e⟩ := Option.map_eq_some_iff.mp h
  obtain ⟨h1, h2⟩ := List.getElem?_eq_some_iff.mp hj
  rw [List.length_range] at h1
  rw [List.getElem_range] at h2
  subst h2
  exact ⟨h1, e.symm⟩
/-- a comprehension, by the place -/
theorem comp_ix {f : D → List D → Ss → Res (List D)} (I : Nat → List D → Ss → Prop) {l acc : List D} {s : Ss} (h0 : I 0 acc s) (H : ∀ i x acc s, l[i]? = some x → I i acc s → (f x acc s).wp fun acc' s' => I (i + 1) acc' s') :
    (comp f l acc s).wp fun acc' s' => I l.length acc' s' := by
  have : ∀ {r : List D} {i : Nat} {acc : List D} {s : Ss}, r = l.drop i → i ≤ l.length → I i acc s → (comp f r acc s).wp fun acc' s' => I l.length acc' s' := by
    intro r
    induction r with
    | nil =>
      intro i acc s hr hi h
      have : l.length ≤ i := List.drop_eq_nil_iff.mp hr.symm
      have e : i = l.length := by omega
      subst e
      exact h
    | cons x r ih =>
      intro i acc s hr hi h
      have hx : l[i]? = some x := by
        have := congrArg List.head? hr
        rw [List.head?_drop] at this
        exact this.symm
      have hlt : i < l.length := (List.getElem?_eq_some_iff.mp hx).1
      have ht : r = l.drop (i + 1) := by
        have := congrArg List.tail hr
        rw [List.tail_drop] at this
        exact this
      exact comp_c (wp_mono (H i x acc s hx h) fun acc' s' z => ih ht hlt z)
  exact this (i := 0) (by simp) (Nat.zero_le _) h0
end Pc

set_option Elab.async false
set_option linter.all false
namespace Pc
open PySem L2
theorem tj_eq {a : Str} {l : List Str} : Txt.join a l = Str.join a l := StrLaws.glued_eq_join a l
theorem k_joinB {a : Str} {l : List D} {ys : List Str} (h : strsOf l = some ys) : smD .join a (.lst l) = optB (decide ((ys.map (·.length)).sum + ys.length * a.length ≤ 16777216)) (.str (Str.join a ys)) := by
  rw [smD, h]
  show optB (decide _) _ = _
  rw [tj_eq]
theorem k_joinG {a : Str} {l : List D} {ys : List Str} (h : strsOf l = some ys) (h2 : (ys.map (·.length)).sum + ys.length * a.length ≤ 16777216) : smD .join a (.lst l) = some (.str (Str.join a ys)) := by
  rw [k_joinB h, decide_eq_true h2]
  rfl
@[simp] theorem k_join0 {a : Str} : smD .join a (.lst []) = some (.str Str.empty) := k_joinG (ys := []) rfl (by simp)
@[simp] theorem k_join1 {a x : Str} : smD .join a (.lst [.str x]) = optB (decide (x.length + a.length ≤ 16777216)) (.str x) := by
  have h := k_joinB (a := a) (l := [.str x]) (ys := [x]) rfl
  simpa [Str.join] using h
@[simp] theorem k_join2 {a x y : Str} : smD .join a (.lst [.str x, .str y]) = optB (decide (x.length + y.length + 2 * a.length ≤ 16777216)) (.str (x ++ a ++ y)) := by
  have h := k_joinB (a := a) (l := [.str x, .str y]) (ys := [x, y]) rfl
  simpa [Str.join, Nat.add_assoc] using h
@[simp] theorem k_join3 {a x y z : Str} : smD .join a (.lst [.str x, .str y, .str z]) = optB (decide (x.length + y.length + z.length + 3 * a.length ≤ 16777216)) (.str (x ++ a ++ (y ++ a ++ z))) := by
  have h := k_joinB (a := a) (l := [.str x, .str y, .str z]) (ys := [x, y, z]) rfl
  simpa [Str.join, Nat.add_assoc] using h
theorem k_joinm {a : Str} {l : List Str} (h : (l.map (·.length)).sum + l.length * a.length ≤ 16777216) : smD .join a (.lst (l.map D.str)) = some (.str (Str.join a l)) := k_joinG (strsOf_map l) h
theorem sapp_assoc {a b c : Str} : a ++ b ++ c = a ++ (b ++ c) := Str.append_assoc a b c
theorem sapp_e {a : Str} : a ++ Str.empty = a := Str.append_empty a
theorem se_app {a : Str} : Str.empty ++ a = a := Str.empty_append a
theorem so_empty : Str.ofString "" = Str.empty := rfl
theorem sapp_ne {a s : Str} (h : 0 < a.length) : ¬ (a ++ s = Str.ofString "") := by
  intro e
  have := congrArg Str.length e
  simp at this
  omega
@[simp] theorem sapp_emp {a b : Str} : (a ++ b = Str.ofString "") = (a = Str.ofString "" ∧ b = Str.ofString "") := by
  have e : ∀ c : Str, c = Str.ofString "" ↔ c.length = 0 := fun c => ⟨fun h => by rw [h]; rfl, fun h => by
    cases c with
    | mk x =>
      have : x.size = 0 := h
      rw [Array.eq_empty_of_size_eq_zero this]; rfl⟩
  refine propext ?_
  rw [e, e a, e b]
  simp
@[simp] theorem emp_len : Str.empty.length = 0 := rfl
@[simp] theorem emp_eq : (Str.empty = Str.ofString "") = True := eq_true rfl
@[simp] theorem s_t4 {a b c d e : D} : subD (.tup [a, b, c, d, e]) (.int 4) = some e := rfl
@[simp] theorem lk_if {β : Type} {f f' : Str} {x : β} {r : List (Str × β)} : List.lookup f ((f', x) :: r) = if f = f' then some x else r.lookup f := by
  by_cases h : f = f'
  · subst h; simp
  · have : (f == f') = false := by simpa using h
    simp [List.lookup, this, h]
section
variable {o : Or} {s : Ss}
@[simp ↓] theorem q_sup {f : Nat} {cs : List Nat} {g : List Cl} {r : List Sl} {x : W} : ex1 o (.sup f cs) ⟨g, .w x :: r⟩ = opt' (clsW ⟨g, .w x :: r⟩ x) (k := ⟨fun q => cnd' (cs.contains q.1) (k := ⟨cbind' (o f 0 [x] [] g) (k := ⟨fun _ g' => Res.ok Fl.nx ⟨g', .w x :: r⟩, fun e g' => Res.exc e ⟨g', .w x :: r⟩⟩), Res.stuck⟩)⟩) := by
  rw [ex1]
  show (match clsW ⟨g, .w x :: r⟩ x with
      | some (c, _) => if cs.contains c then (callR o f 0 [x] [] ⟨g, .w x :: r⟩).bind fun _ s1 => (Res.ok Fl.nx s1) else .stuck
      | none => (.stuck : Res Fl)) = _
  cases clsW ⟨g, .w x :: r⟩ x with
  | none => rfl
  | some q =>
    obtain ⟨c, ns⟩ := q
    show (if cs.contains c then (callR o f 0 [x] [] ⟨g, .w x :: r⟩).bind fun _ s1 => (Res.ok Fl.nx s1) else .stuck : Res Fl) = cnd (cs.contains c) (cbind (o f 0 [x] [] g) (fun _ g' => Res.ok Fl.nx ⟨g', .w x :: r⟩) (fun e g' => .exc e ⟨g', .w x :: r⟩)) .stuck
    cases cs.contains c with
    | false => rfl
    | true =>
      rw [if_pos rfl, call_cb]
      cases o f 0 [x] [] g with
      | ok w g => cases w <;> rfl
      | exc _ _ => rfl
      | stuck => rfl
theorem bio_r0 {ds : Dps} {c : Nat} {x : W} {ns : List Str} (h : clsW s x = some (c, ns)) : bioR o .repr ds x s = opt' (ds.lookup c) (k := ⟨fun q => bd (callB o q [x] s) (k := ⟨fun w s1 => asS' w (k := ⟨fun z => .ok (.d (.str z)) s1⟩)⟩)⟩) := by
  unfold bioR
  rw [h]
  show (Res.bind _ _) = _
  rw [disp_b]
  cases ds.lookup c with
  | none => rfl
  | some q =>
    show Res.bind _ _ = Res.bind _ _
    congr 1
    funext w s1
    cases w with
    | d x => cases x <;> rfl
    | _ => rfl
@[simp] theorem bio_r {ds : Dps} {c : Nat} {ns : List Str} {l : List D} : bioR o .repr ds (.d (.obj c ns l)) s = opt' (ds.lookup c) (k := ⟨fun q => bd (callB o q [.d (.obj c ns l)] s) (k := ⟨fun w s1 => asS' w (k := ⟨fun z => .ok (.d (.str z)) s1⟩)⟩)⟩) := bio_r0 rfl
end
end Pc

set_option Elab.async false
set_option linter.all false
set_option maxRecDepth 100000
set_option maxHeartbeats 600000
namespace Gk05
open PySem L2 Pc
local macro_rules | `(tactic| walk_at "pc") => `(tactic| simp -implicitDefEqProofs (disch := first | omega | decide))
local macro_rules | `(tactic| walk_at "ps") => `(tactic| first
  | with_reducible refine wq_dt (by omega) ?_ | with_reducible refine wq_df (by omega) ?_ | with_reducible refine wq_d (fun h => ?_) (fun h => ?_)
  | with_reducible refine wq_nt (by omega) ?_ | with_reducible refine wq_nf (by omega) ?_ | with_reducible refine wq_n (fun h => ?_) (fun h => ?_)
  | with_reducible refine wq_cndT (by simp only [Bool.and_eq_true, Bool.or_eq_true, decide_eq_true_eq, Bool.not_eq_true', decide_eq_false_iff_not]; omega) ?_
  | with_reducible refine wq_cndF (by simp only [Bool.and_eq_false_iff, Bool.or_eq_false_iff, decide_eq_true_eq, Bool.not_eq_false', decide_eq_false_iff_not]; omega) ?_
  | (with_reducible refine wq_cnd ?_ ?_ <;> (intro h; try simp only [h])))
local macro_rules | `(tactic| walk_at "pp") => `(tactic| (repeat' (first | walk_at "pc" | walk_at "ps")))
local macro_rules | `(tactic| walk_at "pa") => `(tactic| (repeat' (first | simp -implicitDefEqProofs (disch := first | omega | decide) [*] | walk_at "ps")))

theorem isd : IsDraw f__law_draw := ⟨rfl, rfl, rfl, rfl⟩
theorem isa : IsAny 1 f__law_any := ⟨rfl, rfl, rfl, rfl⟩
theorem isb : IsBag f__law_bag := ⟨rfl, rfl, rfl, rfl⟩
theorem iss : IsSame f__law_same := ⟨rfl, rfl, rfl, rfl⟩
abbrev GB (S b : List D) (ex : List Cl) : List Cl := .fz S :: .lst b :: ex
theorem dr {ex : List Cl} {n : Nat} {S l : List D} {most : Int} (hb : BagOk l) (hm : 1 ≤ most) (hm2 : most < 1073741824) :
    (Pc.run tab (n + 1) 1 0 [.c 1, .d (.int most)] [] (GB S l ex)).wp fun w g => ∃ d l', w = .d (.int d) ∧ 0 ≤ d ∧ d < most ∧ BagOk l' ∧ g = GB S l' ex := draw_wp t__law_draw isd hb hm hm2
theorem an {ex : List Cl} {n : Nat} {S b l : List D} (hb : BagOk b) (hm : 1 ≤ l.length) (hm2 : l.length < 1073741824) :
    (Pc.run tab (n + 2) 2 0 [.c 1, .d (.lst l)] [] (GB S b ex)).wp fun w g => ∃ x b', x ∈ l ∧ w = .d x ∧ BagOk b' ∧ g = GB S b' ex := any_wp t__law_draw isd t__law_any isa hb hm hm2
theorem anS {ex : List Cl} {n : Nat} {S b : List D} {z : Str} (hb : BagOk b) (hm : 1 ≤ z.length) (hm2 : z.length < 1000) :
    (Pc.run tab (n + 2) 2 0 [.c 1, .d (.str z)] [] (GB S b ex)).wp fun w g => ∃ c b', c ∈ z.cps.toList ∧ w = .d (.str ⟨#[c]⟩) ∧ BagOk b' ∧ g = GB S b' ex := anyS_wp t__law_draw isd t__law_any isa hb hm hm2
theorem same {n : Nat} {d : D} {g : List Cl} (h : d.sh = true) (h3 : d.sz ≤ 16777216) (h4 : d.dp ≤ 64) : Pc.run tab (n + 1) 3 0 [.d d, .d d] [] g = .ok (.d (.bl true)) g := same_eq t__law_same iss h h3 h4
def E (x : D) (q : Xd) : D := .exn q.name (q.fld.getD "") (match q.fld with
  | some _ => x
  | none => .non)
abbrev rowsQ : List Xd := [x_InvalidNumber, x_InvalidPairs, x_InvalidPoly, x_InvalidSources, x_InvalidCondition, x_InvalidWeight, x_InvalidShare, x_InvalidExpression, x_InvalidName, x_DuplicateName, x_Full, x_InUse, x_InvalidDeed, x_InvalidLimit, x_InvalidPage, x_TooDeep, x_TooMany, x_TooSteep, x_UnknownName]
abbrev bareQ : List Xd := [x_InvalidQuotient, x_InvalidText, x_NoInverse, x_NotWhole, x_NothingLeft]
def wholeQ : List Xd := rowsQ ++ bareQ
theorem made_ok {n : Nat} {x : D} {g : List Cl} : Pc.run tab (n + 1) 6 0 [.d x] [] g = .ok (.d (.lst (rowsQ.map (E x)))) g := by
  refine wc_eq ?_
  refine wc_run (as := [.d x]) t__law_made_errors (by rfl) ?_
  show wc (fin (exs (Pc.run tab _) f__law_made_errors.body ⟨_, [.w (.d x)]⟩)) (k := ⟨_⟩)
  unfold f__law_made_errors
  walk_at "pc"
  repeat first | rfl | refine ⟨rfl, ?_⟩
theorem named_ok {n : Nat} {x : D} {g : List Cl} : Pc.run tab (n + 1) 7 0 [.d x] [] g = .ok (.d (.lst (rowsQ.map (E x)))) g := by
  refine wc_eq ?_
  refine wc_run (as := [.d x]) t__law_named_errors (by rfl) ?_
  show wc (fin (exs (Pc.run tab _) f__law_named_errors.body ⟨_, [.w (.d x)]⟩)) (k := ⟨_⟩)
  unfold f__law_named_errors
  walk_at "pc"
  repeat first | rfl | refine ⟨rfl, ?_⟩
theorem words_ok {n : Nat} {g : List Cl} : Pc.run tab (n + 1) 8 0 [] [] g = .ok (.d (.lst (rowsQ.map fun q => D.str q.name))) g := by
  refine wc_eq ?_
  refine wc_run (as := []) t__law_words (by rfl) ?_
  show wc (fin (exs (Pc.run tab _) f__law_words.body ⟨_, []⟩)) (k := ⟨_⟩)
  unfold f__law_words
  walk_at "pc"
  done
structure XOk (x : D) : Prop where
  sh : x.sh = true
  sz : x.sz ≤ 5000
  dp : x.dp ≤ 3
theorem odd_ok : ∀ x ∈ ([.non, .bl true, .bl false, .str "", .str "1", .str "A b", .tup [], .lst [], .lst [.int 1], .tup [.int 2, .str "a"], .tup [.str "co"], .int 3, .int (-7), .int 100000000000000000000] : List D), x.sh = true ∧ x.sz ≤ 5000 ∧ x.dp ≤ 3 := by decide +kernel
theorem odd_dr {ex : List Cl} {n : Nat} {S b : List D} (hb : BagOk b) : (Pc.run tab (n + 3) 4 0 [.c 1, .d (.lst [.int 3, .int (-7), .int 100000000000000000000])] [] (GB S b ex)).wp fun w g => ∃ x b', w = .d x ∧ XOk x ∧ BagOk b' ∧ g = GB S b' ex := by
  refine of_wc ?_
  refine wc_run (as := [.c 1, .d (.lst [.int 3, .int (-7), .int 100000000000000000000])]) t__law_odd (by rfl) ?_
  show wc (fin (exs (Pc.run tab _) f__law_odd.body ⟨_, [.w (.c 1), .w (.d (.lst [.int 3, .int (-7), .int 100000000000000000000]))]⟩)) (k := ⟨_⟩)
  unfold f__law_odd
  walk_at "pc"
  refine wq_cb (an hb (by simp) (by simp)) ?_
  rintro w g ⟨x, b, hx, rfl, hb, rfl⟩
  walk_at "pc"
  obtain ⟨h1, h2, h3⟩ := odd_ok x (by simpa using hx)
  exact hold_i ⟨x, _, rfl, ⟨h1, h2, h3⟩, hb, rfl⟩
theorem whole_all {p : Xd → Prop} (h1 : ∀ q ∈ rowsQ, p q) (h2 : ∀ q ∈ bareQ, p q) : ∀ q ∈ wholeQ, p q := fun q hq => (List.mem_append.mp hq).elim (h1 q) (h2 q)
theorem code_of {x : D} {q : Xd} (h : q ∈ wholeQ) : xfldD "code" xall (.d (E x q)) = some (.str q.name) := by
  simp only [wholeQ, List.cons_append, List.nil_append, List.mem_cons, List.mem_nil_iff, or_false] at h
  rcases h with rfl | rfl | rfl | rfl | rfl | rfl | rfl | rfl | rfl | rfl | rfl | rfl | rfl | rfl | rfl | rfl | rfl | rfl | rfl | rfl | rfl | rfl | rfl | rfl
  all_goals kernel_rfl
theorem in_names : ∀ q ∈ wholeQ, xnames.contains q.name = true := by decide +kernel
theorem is_of {x : D} {q : Xd} {yes : List Str} (h : q ∈ wholeQ) : xisD xnames yes (.d (E x q)) = some (yes.contains q.name) := by
  have e := in_names q h
  show (if xnames.contains q.name = true then some (yes.contains q.name) else none) = _
  rw [if_pos e]
end Gk05

set_option Elab.async false
set_option linter.all false
set_option maxRecDepth 100000
set_option maxHeartbeats 600000
namespace Gk05
open PySem L2 Pc
local macro_rules | `(tactic| walk_at "pc") => `(tactic| simp -implicitDefEqProofs (disch := first | omega | decide))
local macro_rules | `(tactic| walk_at "ps") => `(tactic| first
  | with_reducible refine wq_dt (by omega) ?_ | with_reducible refine wq_df (by omega) ?_ | with_reducible refine wq_d (fun h => ?_) (fun h => ?_)
  | with_reducible refine wq_nt (by omega) ?_ | with_reducible refine wq_nf (by omega) ?_ | with_reducible refine wq_n (fun h => ?_) (fun h => ?_)
  | with_reducible refine wq_cndT (by simp only [Bool.and_eq_true, Bool.or_eq_true, decide_eq_true_eq, Bool.not_eq_true', decide_eq_false_iff_not]; omega) ?_
  | with_reducible refine wq_cndF (by simp only [Bool.and_eq_false_iff, Bool.or_eq_false_iff, decide_eq_true_eq, Bool.not_eq_false', decide_eq_false_iff_not]; omega) ?_
  | (with_reducible refine wq_cnd ?_ ?_ <;> (intro h; try simp only [h])))
local macro_rules | `(tactic| walk_at "pp") => `(tactic| (repeat' (first | walk_at "pc" | walk_at "ps")))
local macro_rules | `(tactic| walk_at "pa") => `(tactic| (repeat' (first | simp -implicitDefEqProofs (disch := first | omega | decide) [*] | walk_at "ps")))

theorem field_ok {n : Nat} {x : D} {q : Xd} (h : q ∈ rowsQ) {g : List Cl} : Pc.run tab (n + 1) 5 0 [.d (E x q)] [] g = .ok (.d x) g := by
  simp only [List.mem_cons, List.mem_nil_iff, or_false] at h
  rcases h with rfl | rfl | rfl | rfl | rfl | rfl | rfl | rfl | rfl | rfl | rfl | rfl | rfl | rfl | rfl | rfl | rfl | rfl | rfl
  all_goals kernel_rfl
def kD (q : Xd) : List D := wholeQ.map fun r => D.bl (decide (r.name = q.name))
theorem kinds_ok {n : Nat} {x : D} {q : Xd} (h : q ∈ wholeQ) {g : List Cl} : Pc.run tab (n + 1) 9 0 [.d (E x q)] [] g = .ok (.d (.lst (kD q))) g := by
  simp only [wholeQ, List.cons_append, List.nil_append, List.mem_cons, List.mem_nil_iff, or_false] at h
  rcases h with rfl | rfl | rfl | rfl | rfl | rfl | rfl | rfl | rfl | rfl | rfl | rfl | rfl | rfl | rfl | rfl | rfl | rfl | rfl | rfl | rfl | rfl | rfl | rfl
  all_goals kernel_rfl
def tD (a : Nat) : List D := (List.range 24).map fun i : Nat => D.bl (decide ((i : Int) = (a : Int)))
theorem kt_all : ((List.range 24).all fun a => match wholeQ[a]? with
  | some q => (match cmpD .ne (.lst (kD q)) (.lst (tD a)) with
    | some b => !b
    | none => false)
  | none => false) = true := by kernel_rfl
theorem kt_ok {a : Nat} (h : a < 24) : ∃ q ∈ wholeQ, wholeQ[a]? = some q ∧ cmpD .ne (.lst (kD q)) (.lst (tD a)) = some false := by
  have e := List.all_eq_true.mp kt_all a (List.mem_range.mpr h)
  split at e
  · rename_i q hq
    split at e
    · rename_i b hb
      refine ⟨q, List.mem_of_getElem? hq, hq, ?_⟩
      cases b
      · exact hb
      · cases e
    · cases e
  · cases e
end Gk05

set_option Elab.async false
set_option linter.all false
set_option maxRecDepth 100000
set_option maxHeartbeats 600000
namespace Gk05
open PySem L2 Pc
local macro_rules | `(tactic| walk_at "pc") => `(tactic| simp -implicitDefEqProofs (disch := first | omega | decide))
local macro_rules | `(tactic| walk_at "ps") => `(tactic| first
  | with_reducible refine wq_dt (by omega) ?_ | with_reducible refine wq_df (by omega) ?_ | with_reducible refine wq_d (fun h => ?_) (fun h => ?_)
  | with_reducible refine wq_nt (by omega) ?_ | with_reducible refine wq_nf (by omega) ?_ | with_reducible refine wq_n (fun h => ?_) (fun h => ?_)
  | with_reducible refine wq_cndT (by simp only [Bool.and_eq_true, Bool.or_eq_true, decide_eq_true_eq, Bool.not_eq_true', decide_eq_false_iff_not]; omega) ?_
  | with_reducible refine wq_cndF (by simp only [Bool.and_eq_false_iff, Bool.or_eq_false_iff, decide_eq_true_eq, Bool.not_eq_false', decide_eq_false_iff_not]; omega) ?_
  | (with_reducible refine wq_cnd ?_ ?_ <;> (intro h; try simp only [h])))
local macro_rules | `(tactic| walk_at "pp") => `(tactic| (repeat' (first | walk_at "pc" | walk_at "ps")))
local macro_rules | `(tactic| walk_at "pa") => `(tactic| (repeat' (first | simp -implicitDefEqProofs (disch := first | omega | decide) [*] | walk_at "ps")))

@[simp] theorem cd_InvalidNumber {x : D} : xfldD "code" xall (.d (E x x_InvalidNumber)) = some (.str "InvalidNumber") := code_of (q := x_InvalidNumber) (by simp [wholeQ])
@[simp] theorem cd_InvalidPairs {x : D} : xfldD "code" xall (.d (E x x_InvalidPairs)) = some (.str "InvalidPairs") := code_of (q := x_InvalidPairs) (by simp [wholeQ])
@[simp] theorem cd_InvalidPoly {x : D} : xfldD "code" xall (.d (E x x_InvalidPoly)) = some (.str "InvalidPoly") := code_of (q := x_InvalidPoly) (by simp [wholeQ])
@[simp] theorem cd_InvalidSources {x : D} : xfldD "code" xall (.d (E x x_InvalidSources)) = some (.str "InvalidSources") := code_of (q := x_InvalidSources) (by simp [wholeQ])
@[simp] theorem cd_InvalidCondition {x : D} : xfldD "code" xall (.d (E x x_InvalidCondition)) = some (.str "InvalidCondition") := code_of (q := x_InvalidCondition) (by simp [wholeQ])
@[simp] theorem cd_InvalidWeight {x : D} : xfldD "code" xall (.d (E x x_InvalidWeight)) = some (.str "InvalidWeight") := code_of (q := x_InvalidWeight) (by simp [wholeQ])
@[simp] theorem cd_InvalidShare {x : D} : xfldD "code" xall (.d (E x x_InvalidShare)) = some (.str "InvalidShare") := code_of (q := x_InvalidShare) (by simp [wholeQ])
@[simp] theorem cd_InvalidExpression {x : D} : xfldD "code" xall (.d (E x x_InvalidExpression)) = some (.str "InvalidExpression") := code_of (q := x_InvalidExpression) (by simp [wholeQ])
@[simp] theorem cd_InvalidName {x : D} : xfldD "code" xall (.d (E x x_InvalidName)) = some (.str "InvalidName") := code_of (q := x_InvalidName) (by simp [wholeQ])
@[simp] theorem cd_DuplicateName {x : D} : xfldD "code" xall (.d (E x x_DuplicateName)) = some (.str "DuplicateName") := code_of (q := x_DuplicateName) (by simp [wholeQ])
@[simp] theorem cd_Full {x : D} : xfldD "code" xall (.d (E x x_Full)) = some (.str "Full") := code_of (q := x_Full) (by simp [wholeQ])
@[simp] theorem cd_InUse {x : D} : xfldD "code" xall (.d (E x x_InUse)) = some (.str "InUse") := code_of (q := x_InUse) (by simp [wholeQ])
@[simp] theorem cd_InvalidDeed {x : D} : xfldD "code" xall (.d (E x x_InvalidDeed)) = some (.str "InvalidDeed") := code_of (q := x_InvalidDeed) (by simp [wholeQ])
@[simp] theorem cd_InvalidLimit {x : D} : xfldD "code" xall (.d (E x x_InvalidLimit)) = some (.str "InvalidLimit") := code_of (q := x_InvalidLimit) (by simp [wholeQ])
@[simp] theorem cd_InvalidPage {x : D} : xfldD "code" xall (.d (E x x_InvalidPage)) = some (.str "InvalidPage") := code_of (q := x_InvalidPage) (by simp [wholeQ])
@[simp] theorem cd_TooDeep {x : D} : xfldD "code" xall (.d (E x x_TooDeep)) = some (.str "TooDeep") := code_of (q := x_TooDeep) (by simp [wholeQ])
@[simp] theorem cd_TooMany {x : D} : xfldD "code" xall (.d (E x x_TooMany)) = some (.str "TooMany") := code_of (q := x_TooMany) (by simp [wholeQ])
@[simp] theorem cd_TooSteep {x : D} : xfldD "code" xall (.d (E x x_TooSteep)) = some (.str "TooSteep") := code_of (q := x_TooSteep) (by simp [wholeQ])
@[simp] theorem cd_UnknownName {x : D} : xfldD "code" xall (.d (E x x_UnknownName)) = some (.str "UnknownName") := code_of (q := x_UnknownName) (by simp [wholeQ])
@[simp] theorem cd_InvalidQuotient {x : D} : xfldD "code" xall (.d (E x x_InvalidQuotient)) = some (.str "InvalidQuotient") := code_of (q := x_InvalidQuotient) (by simp [wholeQ])
@[simp] theorem cd_InvalidText {x : D} : xfldD "code" xall (.d (E x x_InvalidText)) = some (.str "InvalidText") := code_of (q := x_InvalidText) (by simp [wholeQ])
@[simp] theorem cd_NoInverse {x : D} : xfldD "code" xall (.d (E x x_NoInverse)) = some (.str "NoInverse") := code_of (q := x_NoInverse) (by simp [wholeQ])
@[simp] theorem cd_NotWhole {x : D} : xfldD "code" xall (.d (E x x_NotWhole)) = some (.str "NotWhole") := code_of (q := x_NotWhole) (by simp [wholeQ])
@[simp] theorem cd_NothingLeft {x : D} : xfldD "code" xall (.d (E x x_NothingLeft)) = some (.str "NothingLeft") := code_of (q := x_NothingLeft) (by simp [wholeQ])
@[simp] theorem fl_InvalidNumber {n : Nat} {x : D} {g : List Cl} : Pc.run tab (n + 1) 5 0 [.d (E x x_InvalidNumber)] [] g = .ok (.d x) g := field_ok (by simp)
@[simp] theorem fl_InvalidPairs {n : Nat} {x : D} {g : List Cl} : Pc.run tab (n + 1) 5 0 [.d (E x x_InvalidPairs)] [] g = .ok (.d x) g := field_ok (by simp)
@[simp] theorem fl_InvalidPoly {n : Nat} {x : D} {g : List Cl} : Pc.run tab (n + 1) 5 0 [.d (E x x_InvalidPoly)] [] g = .ok (.d x) g := field_ok (by simp)
@[simp] theorem fl_InvalidSources {n : Nat} {x : D} {g : List Cl} : Pc.run tab (n + 1) 5 0 [.d (E x x_InvalidSources)] [] g = .ok (.d x) g := field_ok (by simp)
@[simp] theorem fl_InvalidCondition {n : Nat} {x : D} {g : List Cl} : Pc.run tab (n + 1) 5 0 [.d (E x x_InvalidCondition)] [] g = .ok (.d x) g := field_ok (by simp)
@[simp] theorem fl_InvalidWeight {n : Nat} {x : D} {g : List Cl} : Pc.run tab (n + 1) 5 0 [.d (E x x_InvalidWeight)] [] g = .ok (.d x) g := field_ok (by simp)
@[simp] theorem fl_InvalidShare {n : Nat} {x : D} {g : List Cl} : Pc.run tab (n + 1) 5 0 [.d (E x x_InvalidShare)] [] g = .ok (.d x) g := field_ok (by simp)
@[simp] theorem fl_InvalidExpression {n : Nat} {x : D} {g : List Cl} : Pc.run tab (n + 1) 5 0 [.d (E x x_InvalidExpression)] [] g = .ok (.d x) g := field_ok (by simp)
@[simp] theorem fl_InvalidName {n : Nat} {x : D} {g : List Cl} : Pc.run tab (n + 1) 5 0 [.d (E x x_InvalidName)] [] g = .ok (.d x) g := field_ok (by simp)
@[simp] theorem fl_DuplicateName {n : Nat} {x : D} {g : List Cl} : Pc.run tab (n + 1) 5 0 [.d (E x x_DuplicateName)] [] g = .ok (.d x) g := field_ok (by simp)
@[simp] theorem fl_Full {n : Nat} {x : D} {g : List Cl} : Pc.run tab (n + 1) 5 0 [.d (E x x_Full)] [] g = .ok (.d x) g := field_ok (by simp)
@[simp] theorem fl_InUse {n : Nat} {x : D} {g : List Cl} : Pc.run tab (n + 1) 5 0 [.d (E x x_InUse)] [] g = .ok (.d x) g := field_ok (by simp)
@[simp] theorem fl_InvalidDeed {n : Nat} {x : D} {g : List Cl} : Pc.run tab (n + 1) 5 0 [.d (E x x_InvalidDeed)] [] g = .ok (.d x) g := field_ok (by simp)
@[simp] theorem fl_InvalidLimit {n : Nat} {x : D} {g : List Cl} : Pc.run tab (n + 1) 5 0 [.d (E x x_InvalidLimit)] [] g = .ok (.d x) g := field_ok (by simp)
@[simp] theorem fl_InvalidPage {n : Nat} {x : D} {g : List Cl} : Pc.run tab (n + 1) 5 0 [.d (E x x_InvalidPage)] [] g = .ok (.d x) g := field_ok (by simp)
@[simp] theorem fl_TooDeep {n : Nat} {x : D} {g : List Cl} : Pc.run tab (n + 1) 5 0 [.d (E x x_TooDeep)] [] g = .ok (.d x) g := field_ok (by simp)
@[simp] theorem fl_TooMany {n : Nat} {x : D} {g : List Cl} : Pc.run tab (n + 1) 5 0 [.d (E x x_TooMany)] [] g = .ok (.d x) g := field_ok (by simp)
@[simp] theorem fl_TooSteep {n : Nat} {x : D} {g : List Cl} : Pc.run tab (n + 1) 5 0 [.d (E x x_TooSteep)] [] g = .ok (.d x) g := field_ok (by simp)
@[simp] theorem fl_UnknownName {n : Nat} {x : D} {g : List Cl} : Pc.run tab (n + 1) 5 0 [.d (E x x_UnknownName)] [] g = .ok (.d x) g := field_ok (by simp)
theorem xs_all {x : D} (h : XOk x) : ∀ {l : List D}, (∀ y ∈ l, y = x) → D.shs l = true ∧ D.szs l ≤ 5002 * l.length ∧ D.dps l ≤ 3
  | [], _ => ⟨rfl, by simp [D.szs], by simp [D.dps]⟩
  | y :: l, hl => by
    obtain ⟨a1, a2, a3⟩ := xs_all h (l := l) fun z hz => hl z (List.mem_cons_of_mem _ hz)
    have e := hl y (List.mem_cons_self ..)
    subst e
    have h1 := h.sh
    have h2 := h.sz
    have h3 := h.dp
    refine ⟨by rw [D.shs, h1, a1]; rfl, ?_, ?_⟩
    · rw [D.szs, List.length_cons]; omega
    · rw [D.dps]; omega
theorem xs_lst {x : D} (h : XOk x) {l : List D} (hl : ∀ y ∈ l, y = x) (hn : l.length ≤ 40) : (D.lst l).sh = true ∧ (D.lst l).sz ≤ 16777216 ∧ (D.lst l).dp ≤ 64 := by
  obtain ⟨a1, a2, a3⟩ := xs_all h hl
  exact ⟨by rw [D.sh]; exact a1, by rw [D.sz]; omega, by rw [D.dp]; omega⟩
theorem ne5 {a b c d e : Bool} : cmpD .ne (.lst [.bl a, .bl b, .bl c, .bl d, .bl e]) (.lst [.bl a, .bl b, .bl c, .bl d, .bl e]) = some false := by
  cases a <;> cases b <;> cases c <;> cases d <;> cases e <;> kernel_rfl
theorem law_ok {ns : List Int} : (Pc.run tab 20 10 0 [.c 0] [] [.fz (ns.map D.int)]).wp fun w g => w = .d (.bl true) := by
  refine of_wc ?_
  refine wc_run (as := [.c 0]) t_law (by rfl) ?_
  show wc (fin (exs (Pc.run tab _) f_law.body ⟨_, [.w (.c 0), .no, .no, .no, .no, .no, .no, .no, .no, .no, .no, .no, .no, .no]⟩)) (k := ⟨_⟩)
  unfold f_law
  walk_at "pc"
  refine wq_cb (bag_wp (n := 18) t__law_bag isb) ?_
  rintro w g ⟨rfl, b, hb, rfl⟩
  walk_at "pc"
  refine wq_cb (odd_dr (n := 16) hb) ?_
  rintro w g ⟨x, b, rfl, hx, hb, rfl⟩
  walk_at "pc"
  rw [show ([D.exn "InvalidQuotient" "" .non, D.exn "InvalidText" "" .non, D.exn "NoInverse" "" .non, D.exn "NotWhole" "" .non, D.exn "NothingLeft" "" .non] : List D) = [E x x_InvalidQuotient, E x x_InvalidText, E x x_NoInverse, E x x_NotWhole, E x x_NothingLeft] from rfl]
  rw [made_ok]
  walk_at "pc"
  rw [named_ok]
  walk_at "pc"
  rw [words_ok]
  walk_at "pc"
  rw [same (n := 18) (by decide +kernel) (by decide +kernel) (by decide +kernel)]
  walk_at "pc"
  rw [words_ok]
  walk_at "pc"
  rw [same (n := 18) (by decide +kernel) (by decide +kernel) (by decide +kernel)]
  walk_at "pc"
  have hh := fun (l : List D) (h1 : ∀ y ∈ l, y = x) (h2 : l.length ≤ 40) g => same (n := 18) (d := .lst l) (g := g) (xs_lst hx h1 h2).1 (xs_lst hx h1 h2).2.1 (xs_lst hx h1 h2).2.2
  rw [hh _ (by simp) (by simp)]
  walk_at "pc"
  have hs : ∀ {i : Nat} {q : Xd}, wholeQ[i]? = some q → subD (.lst [E x x_InvalidNumber, E x x_InvalidPairs, E x x_InvalidPoly, E x x_InvalidSources, E x x_InvalidCondition, E x x_InvalidWeight, E x x_InvalidShare, E x x_InvalidExpression, E x x_InvalidName, E x x_DuplicateName, E x x_Full, E x x_InUse, E x x_InvalidDeed, E x x_InvalidLimit, E x x_InvalidPage, E x x_TooDeep, E x x_TooMany, E x x_TooSteep, E x x_UnknownName, E x x_InvalidQuotient, E x x_InvalidText, E x x_NoInverse, E x x_NotWhole, E x x_NothingLeft]) (.int (i : Nat)) = some (E x q) := fun {i q} h => by
    show (ixD (wholeQ.map (E x)).length (i : Int)).bind (fun j => (wholeQ.map (E x))[j]?) = _
    have hi : i < wholeQ.length := by
      obtain ⟨h1, _⟩ := List.getElem?_eq_some_iff.mp h
      exact h1
    unfold ixD
    rw [if_pos (by omega), if_pos (by rw [List.length_map]; omega)]
    show (wholeQ.map (E x))[((i : Nat) : Int).toNat]? = _
    rw [Int.toNat_natCast, List.getElem?_map, h]
    rfl
  generalize ([E x x_InvalidNumber, E x x_InvalidPairs, E x x_InvalidPoly, E x x_InvalidSources, E x x_InvalidCondition, E x x_InvalidWeight, E x x_InvalidShare, E x x_InvalidExpression, E x x_InvalidName, E x x_DuplicateName, E x x_Full, E x x_InUse, E x x_InvalidDeed, E x x_InvalidLimit, E x x_InvalidPage, E x x_TooDeep, E x x_TooMany, E x x_TooSteep, E x x_UnknownName, E x x_InvalidQuotient, E x x_InvalidText, E x x_NoInverse, E x x_NotWhole, E x x_NothingLeft] : List D) = L at hs ⊢
  refine wq_mono (for_ix (fun i s => ∃ z3 z4 z5 z6 y8 y9 y10 y11 y12, s = ⟨GB (ns.map D.int) b [], [.w (.c 0), .w (.c 1), .w (.d x), z3, z4, z5, z6, .w (.d (.lst L)), y8, y9, y10, y11, y12, .no]⟩)
    ⟨_, _, _, _, _, _, _, _, _, rfl⟩ ?_) ?_
  · rintro i y s hy ⟨z3, z4, z5, z6, y8, y9, y10, y11, y12, rfl⟩
    rw [List.getElem?_map] at hy
    obtain ⟨j, hj, rfl⟩ := Option.map_eq_some_iff.mp hy
    obtain ⟨h3, h4⟩ := List.getElem?_eq_some_iff.mp hj
    simp at h3 h4
    subst h4
    obtain ⟨q, hq, hqi, hk⟩ := kt_ok h3
    refine of_wq ?_
    walk_at "pc"
    rw [hs hqi]
    walk_at "pc"
    rw [kinds_ok hq]
    walk_at "pc"
    generalize hR : List.range 24 = R
    have hl : R.length = 24 := by rw [← hR]; rfl
    refine wq_mono (comp_map (fun s => ∃ y, s = ⟨GB (ns.map D.int) b [], [.w (.c 0), .w (.c 1), .w (.d x), z3, z4, z5, z6, .w (.d (.lst L)), .w (.d (.int (i : Nat))), .w (.d (E x q)), y10, y11, y12, y]⟩) (fun k : Nat => D.int k) (fun k : Nat => D.bl (decide ((k : Int) = (i : Int)))) (l := R) (by rw [hl]; exact Nat.le_of_ble_eq_true rfl) ⟨_, rfl⟩ ?_) ?_
    · rintro k hk2 acc s ⟨y, rfl⟩ hacc
      refine of_wq ?_
      walk_at "pp"
      exact hold_i ⟨rfl, _, rfl⟩
    · rintro acc s ⟨rfl, y, rfl⟩
      rw [List.nil_append]
      walk_at "pc"
      rw [show R.map (fun k : Nat => D.bl (decide ((k : Int) = (i : Int)))) = tD i by rw [← hR]; rfl, hk]
      walk_at "pc"
      have c1 := code_of (x := x) hq
      have i1 : ∀ yes, xisD xnames yes (.d (E x q)) = some (yes.contains q.name) := fun yes => is_of hq
      rw [c1]
      walk_at "pc"
      rw [c1]
      walk_at "pc"
      rw [i1]
      walk_at "pc"
      rw [i1]
      walk_at "pc"
      rw [i1]
      walk_at "pc"
      rw [i1]
      walk_at "pc"
      rw [i1]
      walk_at "pc"
      clear hs hk c1 i1 hqi hR hl hh
      simp only [wholeQ, List.cons_append, List.nil_append, List.mem_cons, List.mem_nil_iff, or_false] at hq
      rcases hq with rfl | rfl | rfl | rfl | rfl | rfl | rfl | rfl | rfl | rfl | rfl | rfl | rfl | rfl | rfl | rfl | rfl | rfl | rfl | rfl | rfl | rfl | rfl | rfl
      all_goals
        walk_at "pc"
        rw [ne5]
        walk_at "pc"
        exact hold_i ⟨.inl rfl, _, _, _, _, _, _, _, _, _, rfl⟩
  · rintro c s ⟨rfl, z3, z4, z5, z6, y8, y9, y10, y11, y12, rfl⟩
    walk_at "pc"
    exact hold_i rfl
end Gk05

set_option Elab.async false
set_option linter.all false
set_option maxRecDepth 100000
set_option maxHeartbeats 0
namespace Gk05
open PySem L2 Pc
theorem law_true (ns : List Int) (h : ns.length ≤ 63) : ∃ g', Pc.run tab 20 10 0 [.c 0] [] [.fz (ns.map D.int)] = .ok (.d (.bl true)) g' := by
  obtain ⟨w, g, e, rfl⟩ := wp_eq (law_ok (ns := ns))
  exact ⟨g, e⟩
end Gk05
open PySem PySem.W PySem.Calls PyProof.Rows
theorem PySem.Challenge.cw_partloops_k05_errors_told_holds : PySem.Challenge.rw_partloops_k05_errors_told.Holds := by
  w_on; o_law
  refine HandSHeadRun.head_any (r := OpenLaw.row PySem.Challenge.rw_partloops_k05_errors_told) (q := view (OpenLaw.row PySem.Challenge.rw_partloops_k05_errors_told).prog [38]) (H := Gk05.hk) (ob := Gk05.ob) (M := 12000) (loose := Gk05.loose) (d := HandSHeadRun.topDef (OpenLaw.row PySem.Challenge.rw_partloops_k05_errors_told).prog 38) (kwd := []) Gk05.ob_eq
    (by kernel_rfl) (fun s => by kernel_rfl) Gk05.run (by kernel_rfl) (by kernel_rfl) (by kernel_rfl) (by rfl) (by first | assumption | decide +kernel) (by decide +kernel) ⟨rfl, rfl, rfl, rfl, rfl, by decide +kernel⟩ ?hw ?hc
  case hw => w_witness2
  case hc =>
    refine Pc.walk_G (l := PySem.Challenge.rw_partloops_k05_errors_told) (n := 63) (m := 20) (i := 10) (p := 0) (fd := Gk05.f_law) rfl (by decide) (by kernel_rfl) ⟨⟨rfl, by decide, by decide⟩, rfl⟩ rfl ?F
    intro w mg fa h Y G hmg0
    obtain ⟨K, KX, c⟩ := Y
    have o := c.o
    have hmg : mg ("law" : PySem.Str) = some (.ref fa) := by
      have e : (HandSHeadRun.topDef (OpenLaw.row PySem.Challenge.rw_partloops_k05_errors_told).prog 38).name = ("law" : PySem.Str) := by kernel_rfl
      rw [← e]
      exact hmg0
    have hga : mg ("law" : PySem.Str) = some (.ref (He.ga K "law")) := He.glo_ok KX G (o.fa (.glo "law") (List.mem_append_right _ (List.mem_of_getElem? (i := 10) rfl)))
    have hfa : He.ga K "law" = fa := by rw [hmg] at hga; cases hga; rfl
    exact ⟨K, Gk05.tb K, KX, o.l, hfa, Gk05.law_true, fun base b1 b2 => Gk05.stands b1 b2 c 20 base 10 Gk05.f_law rfl⟩

