import PyProof.Rows.All
import Wide.All
import OpenK.AllK
import Wide.FinOn
import KE.KStateDown
import HandS.ForExc
import HandS.More
import HandS.Words
import HandS.WordsExc
import HandS.ForMost
import HandS.TupAny
import HandS.TupMul
import HandS.IsInst
import HandS.Star
import HandS.SortInts
import HandS.SortRule
import HandS.Conv
import HandS.DictComp
import HandS.Zip
import HandS.HeadHook2
import KE.DataMinMax
import PyProof.Rows.RowBridgeK
import HandS.SortKw
import HandS.Style
import HandS.Deep
import HandS.WordsDict
import HandS.Codes
import HandS.CallLocal
import HandS.Defaults
import HandS.Head0
import HandS.Head1
import HandS.Head2
import HandS.HeadEnd
import HandS.HeadHook1
import PySem.Challenge.RW_pastdeeds_k22_things_by_hand
set_option Elab.async false
set_option linter.all false
set_option maxRecDepth 10000
/-! QSem: a small language of trees (values without addresses) and what its programs are worth. -/
namespace Q
open PySem

/-- a value as a tree. cell h: a shared, changing dict, by its number in the store; fn x: what the module's name x stands for -/
inductive D where
  | non | bl (b : Bool) | int (i : Int) | str (x : Str)
  | tup (ds : List D) | lst (ds : List D) | scr (ds : List D) | dct (t : Bool) (kvs : List (D × D))
  | ty (n : String) | fn (x : Str) | cell (h : Nat) | exc (c : Str) (fs : List (Str × D))

abbrev Cell := List (Str × D)
abbrev Sto := List Cell

/-- an own, changing container of a frame -/
inductive O where
  | lst (xs : List D) | l2 (xss : List (List D)) | dct (t : Bool) (kvs : List (D × D))
def O.d : O → D
  | .lst xs => .lst xs
  | .l2 xss => .lst (xss.map .lst)
  | .dct t kvs => .dct t kvs
/-- a name's slot -/
inductive Sl where
  | no | val (d : D) | own (o : O)
abbrev Env := List Sl

inductive Res (α : Type) where
  | ok (a : α) | exn (c : Str) (fs : List (Str × D)) (S : Sto) | stuck
def Res.bind {α β : Type} : Res α → (α → Res β) → Res β
  | .ok a, f => f a
  | .exn c fs S, _ => .exn c fs S
  | .stuck, _ => .stuck
def ofO {α : Type} : Option α → Res α
  | some a => .ok a
  | none => .stuck

/-- the greatest length -/
def LIM : Nat := 16777216

inductive Op2 where
  | add | sub | mul | fdiv | mod | pow
  deriving DecidableEq
inductive Cp where
  | eq | ne | lt | le | gt | ge | isin | notin | isN | nsN
  deriving DecidableEq
/-- built-ins of values -/
inductive Pr where
  | len | all | int | isi (ts : List String) | list | tuple | sorted | repr | min2 | max2 | minl | index | get1 | dict | str
  deriving DecidableEq
/-- targets of a for, a comprehension, an assignment by names -/
inductive Tg where
  | nm (i : Nat) | tp (l : List Nat) | np (i : Nat) (l : List Nat)
  deriving DecidableEq

mutual
inductive E where
  | lit (d : D) | loc (i : Nat) | bor (i : Nat)
  | neg (a : E) | not (a : E) | bin (op : Op2) (a b : E) | cmp (op : Cp) (a b : E) | chn (o1 o2 : Cp) (a b c : E)
  | and (a b : E) | or (a b : E) | ite (c a b : E)
  | tup (es : Es) | lst (es : Es) | ix (a b : E) | slc (a : E) (lo hi : Oe)
  | cal (f : Str) (es : Es) | calv (i : Nat) (es : Es) | pr (p : Pr) (es : Es)
  | rng (a b : E)
  | mind (a d : E)
  | lc (elt : E) (tg : Tg) (it : It) (c : Oe)
  | lc2 (elt : E) (t1 : Tg) (i1 : It) (t2 : Tg) (i2 : It) (c : Oe)
  | cnew (ks : List Str) (es : Es) | cget (a : E) (k : Str)
  | dnil (t : Bool) | dsing (t : Bool) (k v : E)
  | dc (t : Bool) (k v : E) (tg : Tg) (it : It)
  | bad
inductive Es where
  | nil | cons (e : E) (es : Es) | star (e : E) (es : Es)
inductive Oe where
  | no | yes (e : E)
inductive It where
  | seq (a : E) | rng1 (a : E) | rng2 (a b : E) | enm (a : E) | zip (a b : E) | zip3 (a b c : E) | enz (a b : E)
end
/-- an expression that may shorten an own list first -/
inductive Ef where
  | pure (e : E) | pop (i : Nat) (e : E) | ixpop (a : E) (i : Nat) (e : E)
/-- a place -/
inductive Lv where
  | nm (i : Nat) | ix1 (i : Nat) (a : E) | ix2 (i : Nat) (a b : E)
/-- how a new container is kept -/
inductive Ow where
  | val | lst | l2 | dct
  deriving DecidableEq
mutual
inductive S where
  | asg (tg : Tg) (e : Ef)
  | own (i : Nat) (k : Ow) (e : E)
  | par (l : List (Nat × Ow)) (es : Es)
  | lv (l : Lv) (e : E)
  | lvs (l : List Lv) (e : E)
  | fz (i : Nat)
  | app (i : Nat) (e : Ef)
  | aug (op : Op2) (i : Nat) (e : E)
  | cst (m : E) (k : Str) (e : E)
  | ifs (c : E) (a b : Ss)
  | whl (c : E) (b : Ss)
  | for_ (tg : Tg) (it : It) (b : Ss)
  | forp (tg : Tg) (a : E) (i : Nat) (e : E) (b : Ss)
  | bad
  | ret (e : E) | retN | exp (e : E) | pas | brk | cnt
  | rai (c : Str) (es : Es)
inductive Ss where
  | nil | cons (s : S) (ss : Ss)
end

/-! ### values -/
mutual
def eqD : D → D → Bool
  | .non, .non => true
  | .bl a, .bl b => a == b
  | .bl a, .int b => (if a then 1 else 0) == b
  | .int a, .bl b => a == (if b then 1 else 0)
  | .int a, .int b => a == b
  | .str a, .str b => a == b
  | .tup a, .tup b => eqDs a b
  | .lst a, .lst b => eqDs a b
  | _, _ => false
def eqDs : List D → List D → Bool
  | [], [] => true
  | x :: xs, y :: ys => eqD x y && eqDs xs ys
  | _, _ => false
end
/-- plain data, nested at most n deep -/
def pln : Nat → D → Bool
  | _, .non => true
  | _, .bl _ => true
  | _, .int _ => true
  | _, .str x => PyData.strOk x
  | n + 1, .tup ds => ds.all (pln n)
  | n + 1, .lst ds => ds.all (pln n)
  | _, _ => false
def cmpOk (d : D) : Bool := pln 60 d
def flatD : D → Bool
  | .non => true
  | .bl _ => true
  | .int _ => true
  | .str _ => true
  | _ => false
def isInt : D → Bool
  | .int _ => true
  | _ => false
def isStr : D → Bool
  | .str _ => true
  | _ => false
/-- a key of a dict: an int or a text; a tuple of ints -/
def keyOk : Bool → D → Bool
  | false, .int _ => true
  | false, .str _ => true
  | true, .tup (d :: ds) => (d :: ds).all isInt
  | _, _ => false
def lookD (kvs : List (D × D)) (k : D) : Option D := (kvs.find? fun p => eqD p.1 k).map (·.2)
def putD (kvs : List (D × D)) (k v : D) : List (D × D) :=
  if kvs.any fun p => eqD p.1 k then kvs.map fun p => if eqD p.1 k then (p.1, v) else p else kvs ++ [(k, v)]
abbrev ixZ (n : Nat) (i : Int) : Option Nat := L2.ixN n i
def nthD (ds : List D) (i : Int) : Option D := (ixZ ds.length i).bind fun j => ds[j]?
def cutD (ds : List D) (lo hi : Option Int) : List D := (ds.drop (HT.sIx ds.length 0 lo)).take (HT.sIx ds.length ds.length hi - HT.sIx ds.length 0 lo)
def small (i : Int) : Bool := decide (-(2 ^ 64) < i) && decide (i < 2 ^ 64)
def op2 : Op2 → D → D → Option D
  | .add, .int a, .int b => some (.int (a + b))
  | .add, .str a, .str b => if a.length + b.length ≤ LIM then some (.str (a ++ b)) else none
  | .add, .lst a, .lst b => if a.length + b.length ≤ LIM then some (.lst (a ++ b)) else none
  | .add, .tup a, .tup b => if a.length + b.length ≤ LIM then some (.tup (a ++ b)) else none
  | .sub, .int a, .int b => some (.int (a - b))
  | .mul, .int a, .int b => if small a || small b then some (.int (a * b)) else none
  | .mul, .lst a, .int k => if a.length ≤ 1000 ∧ 0 ≤ k ∧ k ≤ 1000 then some (.lst (List.replicate k.toNat a).flatten) else none
  | .mul, .tup a, .int k => if a ≠ [] ∧ a.length ≤ 1000 ∧ 1 ≤ k ∧ k ≤ 1000 then some (.tup (List.replicate k.toNat a).flatten) else none
  | .fdiv, .int a, .int b => if 0 < b ∧ b < 1073741824 then some (.int (a / b)) else none
  | .mod, .int a, .int b => if 0 < b then some (.int (a % b)) else none
  | .pow, .int a, .int b => if 0 ≤ b ∧ b ≤ 1000000 ∧ small a then some (.int (a ^ b.toNat)) else none
  | _, _, _ => none
def ltInts : List D → List D → Option Bool
  | [], [] => some false
  | [], .int _ :: _ => some true
  | .int _ :: _, [] => some false
  | .int a :: xs, .int b :: ys => if a < b then some true else if b < a then some false else ltInts xs ys
  | _, _ => none
def intsD : List D → Option (List Int)
  | [] => some []
  | .int i :: r => (intsD r).map (i :: ·)
  | _ :: _ => none
/-- x in y -/
def inD (x : D) : D → Option Bool
  | .lst ds => if cmpOk x && ds.all (pln 59) then some (ds.any fun y => eqD y x) else none
  | .tup ds => if flatD x && ds.all flatD then some (ds.any fun y => eqD y x) else none
  | .dct t kvs => if keyOk t x then some (lookD kvs x).isSome else none
  | _ => none
def cmp2 : Cp → D → D → Option Bool
  | .eq, a, b => if cmpOk a && cmpOk b then some (eqD a b) else none
  | .ne, a, b => if cmpOk a && cmpOk b then some (!eqD a b) else none
  | .lt, .int a, .int b => some (decide (a < b))
  | .lt, .tup a, .tup b => (intsD a).bind fun i => (intsD b).map fun j => HT.lexLt i j
  | .le, .int a, .int b => some (decide (a ≤ b))
  | .gt, .int a, .int b => some (decide (b < a))
  | .ge, .int a, .int b => some (decide (b ≤ a))
  | .isin, a, b => inD a b
  | .notin, a, b => (inD a b).map (!·)
  | .isN, a, .non => some (match a with | .non => true | _ => false)
  | .nsN, a, .non => some (match a with | .non => false | _ => true)
  | .isN, .bl a, .bl b => some (decide (a = b))
  | .nsN, .bl a, .bl b => some (!decide (a = b))
  | _, _, _ => none
def tyD : D → String
  | .non => "NoneType"
  | .bl _ => "bool"
  | .int _ => "int"
  | .str _ => "str"
  | .tup _ => "tuple"
  | .lst _ => "list"
  | .scr _ => "list"
  | .dct _ _ => "dict"
  | .ty _ => "type"
  | .fn _ => "function"
  | .cell _ => "dict"
  | .exc _ _ => "exception"
def isiD (ts : List String) (d : D) : Bool := ts.any fun t => t == tyD d || (t == "int" && tyD d == "bool")
def isiOk : D → Bool
  | .non => true
  | .bl _ => true
  | .int _ => true
  | .str _ => true
  | .tup _ => true
  | .lst _ => true
  | .dct false _ => true
  | _ => false
def itemsD : D → Option (List D)
  | .lst ds => some ds
  | .scr ds => some ds
  | .tup ds => some ds
  | .dct _ kvs => some (kvs.map (·.1))
  | _ => none
def leD : D → D → Bool
  | .int a, .int b => decide (a ≤ b)
  | .tup a, .tup b => !(ltInts b a).getD false
  | _, _ => false
def insD (x : D) : List D → List D
  | [] => [x]
  | y :: ys => if leD x y then x :: y :: ys else y :: insD x ys
def sortD (ds : List D) : List D := ds.foldr insD []
def isPair : D → Bool
  | .tup [.int _, .int _] => true
  | _ => false
def srtOk (ds : List D) : Bool := ds.all isInt || ds.all isPair
mutual
def toP : D → PyData
  | .non => .none
  | .bl b => .bool b
  | .int i => .int i
  | .str x => .str x
  | .tup ds => .tuple (toPs ds)
  | .lst ds => .list (toPs ds)
  | _ => .none
def toPs : List D → List PyData
  | [] => []
  | d :: ds => toP d :: toPs ds
end
def reprD (d : D) : Str := (toP d).shown
/-- a bound of the length of the text of a value -/
def shwOk (d : D) : Bool := cmpOk d && (toP d).showable && decide ((toP d).shown.length ≤ LIM)
def boolsD : List D → Option (List Bool)
  | [] => some []
  | .bl b :: r => (boolsD r).map (b :: ·)
  | _ :: _ => none
def pairsD : List D → Option (List (D × D))
  | [] => some []
  | .tup [k, v] :: r => (pairsD r).map ((k, v) :: ·)
  | _ :: _ => none
def putAll (kvs : List (D × D)) (ps : List (D × D)) : List (D × D) := ps.foldl (fun acc p => putD acc p.1 p.2) kvs
/-- values that may be compared with one another -/
def alikeB (ds : List D) : Bool := cmpOk (.lst ds) && ((ds.all fun x => ds.all fun y => PySem.W.alike (toP x) (toP y)) && ds.all fun x => match x with | .non => false | _ => true)
def minDs (x : D) (xs : List D) : D := xs.foldl (fun a y => if PySem.W.dataLt (toP y) (toP a) then y else a) x
def mindD : D → D → Option D
  | .lst [], z => some z
  | .lst (x :: xs), _ => if alikeB (x :: xs) then some (minDs x xs) else none
  | _, _ => none
def pr1 : Pr → List D → Option D
  | .len, [.lst ds] => some (.int ds.length)
  | .len, [.scr ds] => some (.int ds.length)
  | .len, [.tup ds] => some (.int ds.length)
  | .len, [.dct false kvs] => some (.int kvs.length)
  | .all, [.lst ds] => (boolsD ds).map fun bs => .bl (bs.all id)
  | .int, [.int i] => some (.int i)
  | .int, [.bl b] => some (.int (if b then 1 else 0))
  | .isi ts, [d] => if isiOk d then some (.bl (isiD ts d)) else none
  | .list, [.lst ds] => some (.lst ds)
  | .list, [.tup ds] => some (.lst ds)
  | .list, [.dct _ kvs] => some (.lst (kvs.map (·.1)))
  | .tuple, [.lst ds] => some (.tup ds)
  | .tuple, [.tup ds] => some (.tup ds)
  | .sorted, [.lst ds] => if srtOk ds then some (.lst (sortD ds)) else none
  | .repr, [d] => if shwOk d then some (.str (reprD d)) else none
  | .min2, [.int a, .int b] => some (.int (if b < a then b else a))
  | .max2, [.int a, .int b] => some (.int (if b > a then b else a))
  | .minl, [.lst (x :: xs)] => if alikeB (x :: xs) then some (minDs x xs) else none
  | .get1, [.dct t kvs, k] => if keyOk t k then some ((lookD kvs k).getD .non) else none
  | .dict, [.lst ds] => match pairsD ds with
    | some ps => if ps.all (fun p => keyOk true p.1) then some (.dct true (putAll [] ps)) else none
    | none => none
  | _, _ => none
def ixD : D → D → Option D
  | .lst ds, .int i => nthD ds i
  | .tup ds, .int i => nthD ds i
  | .dct t kvs, k => if keyOk t k then lookD kvs k else none
  | _, _ => none
def slcD : D → Option Int → Option Int → Option D
  | .lst ds, lo, hi => some (.lst (cutD ds lo hi))
  | .scr ds, lo, hi => some (.lst (cutD ds lo hi))
  | .tup ds, lo, hi => some (.tup (cutD ds lo hi))
  | _, _, _ => none
def rngD (a b : Int) : List D := (List.range (b - a).toNat).map fun (k : Nat) => .int (a + k)
def rngOk (a b : Int) : Bool := decide (-(2 ^ 60) ≤ a) && decide (a ≤ 2 ^ 60) && decide (-(2 ^ 60) ≤ b) && decide (b ≤ 2 ^ 60) && decide ((b - a).toNat ≤ LIM)
def enmD (ds : List D) : List D := ds.zipIdx.map fun p => .tup [.int p.2, p.1]
def zipD (a b : List D) : List D := (a.zip b).map fun p => .tup [p.1, p.2]
def zip3D (a b c : List D) : List D := (a.zip (b.zip c)).map fun p => .tup [p.1, p.2.1, p.2.2]
/-! ### names -/
def slot (env : Env) (i : Nat) : Sl := env.getD i .no
def setV (env : Env) (i : Nat) (d : D) : Env := env.set i (.val d)
def setVs : Env → List Nat → List D → Option Env
  | env, [], [] => some env
  | env, i :: is, d :: ds => setVs (setV env i d) is ds
  | _, _, _ => none
def bindT : Tg → D → Env → Option Env
  | .nm i, d, env => some (setV env i d)
  | .tp l, .tup ds, env => setVs env l ds
  | .np i l, .tup [a, .tup ds], env => setVs (setV env i a) l ds
  | _, _, _ => none
def lookC (S : Sto) (h : Nat) (k : Str) : Option D := S[h]?.bind fun c => c.lookup k
def putC (c : Cell) (k : Str) (d : D) : Cell := c.map fun p => if p.1 = k then (p.1, d) else p
def hasC (S : Sto) (h : Nat) (k : Str) : Bool := (lookC S h k).isSome
end Q

set_option Elab.async false
set_option linter.all false
set_option maxRecDepth 10000
namespace Q
open PySem
/-! ### expressions -/
abbrev Cl := Str → List D → Sto → Res (D × Sto)
abbrev M (α : Type) := Sto → Res (α × Sto)
def M.bind {α β : Type} (m : M α) (f : α → M β) : M β := fun S => (m S).bind fun p => f p.1 p.2
def M.ret {α : Type} (a : α) : M α := fun S => .ok (a, S)
def M.opt {α : Type} (o : Option α) : M α := fun S => (ofO o).bind fun a => .ok (a, S)
def bD : D → Option Bool
  | .bl b => some b
  | _ => none
def iD : D → Option Int
  | .int i => some i
  | _ => none
/-- within a comprehension nothing may be raised -/
def noX {α : Type} (m : M α) : M α := fun S => match m S with
  | .ok p => .ok p
  | _ => .stuck
/-- a list comprehension's turns -/
def lcT (tg : Tg) (env : Env) (c : Env → M Bool) (e : Env → M D) : List D → M (List D)
  | [] => M.ret []
  | d :: ds => (M.opt (bindT tg d env)).bind fun env1 => (noX (c env1)).bind fun b => if b then (noX (e env1)).bind fun y => (lcT tg env c e ds).bind fun ys => M.ret (y :: ys) else lcT tg env c e ds
def tgV : Tg → List Nat
  | .nm i => [i]
  | .tp l => l
  | .np i l => i :: l
def wipE (env : Env) : List Nat → Env
  | [] => env
  | v :: vs => (wipE env vs).set v .no
def newC (S : Sto) (c : Cell) : Res (D × Sto) := .ok (.cell S.length, S ++ [c])
def getL (env : Env) (i : Nat) : Option D := match slot env i with
  | .val d => some d
  | _ => none
def getF (env : Env) (i : Nat) : Option Str := match slot env i with
  | .val (.fn x) => some x
  | _ => none
/-- what may be borrowed -/
def getB (env : Env) (i : Nat) : Option D := match slot env i with
  | .val d => some d
  | .own (.lst xs) => some (.lst xs)
  | .own (.dct t kvs) => some (.dct t kvs)
  | _ => none
def hasS (env : Env) (i : Nat) : Option Unit := match slot env i with
  | .no => none
  | _ => some ()
def starD : D → Option (List D)
  | .tup ds => some ds
  | .lst ds => some ds
  | _ => none
def zip2 : D → D → Option (List D)
  | .lst a, .lst b => some (zipD a b)
  | .tup a, .tup b => some (zipD a b)
  | _, _ => none
def cellD : D → Option Nat
  | .cell h => some h
  | _ => none
def dcT (t : Bool) (tg : Tg) (env : Env) (k v : Env → M D) : List D → List (D × D) → M (List (D × D))
  | [], acc => M.ret acc
  | d :: ds, acc => (M.opt (bindT tg d env)).bind fun env1 => (noX (k env1)).bind fun kd => (noX (v env1)).bind fun vd => if keyOk t kd then dcT t tg env k v ds (putD acc kd vd) else fun _ => .stuck
section
variable (cl : Cl)
mutual
def ev : E → Env → M D
  | .lit d, _ => M.ret d
  | .loc i, env => M.opt (getL env i)
  | .bor i, env => M.opt (getB env i)
  | .neg a, env => (ev a env).bind fun d => M.opt ((iD d).map fun i => .int (-i))
  | .not a, env => (ev a env).bind fun d => M.opt ((bD d).map fun b => .bl (!b))
  | .bin op a b, env => (ev a env).bind fun x => (ev b env).bind fun y => M.opt (op2 op x y)
  | .cmp op a b, env => (ev a env).bind fun x => (ev b env).bind fun y => M.opt ((cmp2 op x y).map .bl)
  | .chn o1 o2 a b c, env => (ev a env).bind fun x => (ev b env).bind fun y => (M.opt (cmp2 o1 x y)).bind fun k => if k then (ev c env).bind fun z => M.opt ((cmp2 o2 y z).map .bl) else M.ret (.bl false)
  | .and a b, env => (ev a env).bind fun x => (M.opt (bD x)).bind fun k => if k then ev b env else M.ret (.bl false)
  | .or a b, env => (ev a env).bind fun x => (M.opt (bD x)).bind fun k => if k then M.ret (.bl true) else ev b env
  | .ite c a b, env => (ev c env).bind fun x => (M.opt (bD x)).bind fun k => if k then ev a env else ev b env
  | .tup es, env => (evs es env).bind fun ds => if ds.length ≤ LIM then M.ret (.tup ds) else fun _ => .stuck
  | .lst es, env => (evs es env).bind fun ds => if ds.length ≤ LIM then M.ret (.lst ds) else fun _ => .stuck
  | .ix a b, env => (ev a env).bind fun x => (ev b env).bind fun y => M.opt (ixD x y)
  | .slc a lo hi, env => (ev a env).bind fun x => (evo lo env).bind fun l => (evo hi env).bind fun h => M.opt (slcD x l h)
  | .cal f es, env => (evs es env).bind fun ds => cl f ds
  | .calv i es, env => (M.opt (getF env i)).bind fun f => (evs es env).bind fun ds => cl f ds
  | .pr p es, env => (evs es env).bind fun ds => M.opt (pr1 p ds)
  | .rng a b, env => (ev a env).bind fun x => (ev b env).bind fun y => (M.opt (iD x)).bind fun i => (M.opt (iD y)).bind fun j => if rngOk i j then M.ret (.lst (rngD i j)) else fun _ => .stuck
  | .mind a d, env => (ev a env).bind fun x => (ev d env).bind fun z => M.opt (mindD x z)
  | .lc elt tg it c, env => (evi it env).bind fun ds => (lcT tg (wipE env (tgV tg)) (fun env1 => evc c env1) (fun env1 => ev elt env1) ds).bind fun ys => M.ret (.lst ys)
  | .lc2 elt t1 i1 t2 i2 c, env => (evi i1 env).bind fun ds => (lcT t1 (wipE env (tgV t1 ++ tgV t2)) (fun _ => M.ret true) (fun env1 => (evi i2 env1).bind fun ds2 => (lcT t2 (wipE env1 (tgV t2)) (fun env2 => evc c env2) (fun env2 => ev elt env2) ds2).bind fun ys => M.ret (.lst ys)) ds).bind fun yss =>
      if (yss.flatMap fun y => (starD y).getD []).length ≤ LIM then M.ret (.lst (yss.flatMap fun y => (starD y).getD [])) else fun _ => .stuck
  | .cnew ks es, env => (evs es env).bind fun ds => if ds.length = ks.length then fun S => newC S (ks.zip ds) else fun _ => .stuck
  | .cget a k, env => (ev a env).bind fun x => (M.opt (cellD x)).bind fun h => fun S => (ofO (lookC S h k)).bind fun d => .ok (d, S)
  | .dnil t, _ => M.ret (.dct t [])
  | .dsing t k v, env => (ev k env).bind fun kd => (ev v env).bind fun vd => if keyOk t kd = true then M.ret (.dct t [(kd, vd)]) else fun _ => .stuck
  | .dc t k v tg it, env => (evi it env).bind fun ds => (dcT t tg (wipE env (tgV tg)) (fun env1 => ev k env1) (fun env1 => ev v env1) ds []).bind fun kvs => M.ret (.dct t kvs)
  | .bad, _ => fun _ => .stuck
def evs : Es → Env → M (List D)
  | .nil, _ => M.ret []
  | .cons e es, env => (ev e env).bind fun d => (evs es env).bind fun ds => M.ret (d :: ds)
  | .star e es, env => (ev e env).bind fun d => (M.opt (starD d)).bind fun xs => (evs es env).bind fun ds => M.ret (xs ++ ds)
def evo : Oe → Env → M (Option Int)
  | .no, _ => M.ret none
  | .yes e, env => (ev e env).bind fun d => M.opt ((iD d).map some)
def evc : Oe → Env → M Bool
  | .no, _ => M.ret true
  | .yes e, env => (ev e env).bind fun d => M.opt (bD d)
def evi : It → Env → M (List D)
  | .seq a, env => (ev a env).bind fun x => M.opt (itemsD x)
  | .rng1 a, env => (ev a env).bind fun x => (M.opt (iD x)).bind fun j => if rngOk 0 j then M.ret (rngD 0 j) else fun _ => .stuck
  | .rng2 a b, env => (ev a env).bind fun x => (ev b env).bind fun y => (M.opt (iD x)).bind fun i => (M.opt (iD y)).bind fun j => if rngOk i j then M.ret (rngD i j) else fun _ => .stuck
  | .enm a, env => (ev a env).bind fun x => (M.opt (starD x)).bind fun ds => M.ret (enmD ds)
  | .zip a b, env => (ev a env).bind fun x => (ev b env).bind fun y => M.opt (zip2 x y)
  | .zip3 a b c, env => (ev a env).bind fun x => (ev b env).bind fun y => (ev c env).bind fun z => (M.opt (starD x)).bind fun ds => (M.opt (starD y)).bind fun es => (M.opt (starD z)).bind fun fs => M.ret (zip3D ds es fs)
  | .enz a b, env => (ev a env).bind fun x => (ev b env).bind fun y => (M.opt (starD x)).bind fun ds => (M.opt (starD y)).bind fun es => M.ret (enmD (zipD ds es))
end
/-! ### statements -/
inductive Out where
  | nx (env : Env) | rt (d : D) | bk (env : Env) | ct (env : Env)
def unL : D → Option (List D)
  | .lst ys => some ys
  | _ => none
def ownO : Ow → D → Option Sl
  | .val, d => some (.val d)
  | .lst, .lst xs => some (.own (.lst xs))
  | .dct, .dct t kvs => some (.own (.dct t kvs))
  | .l2, .lst xs => (xs.mapM unL).map fun xss => .own (.l2 xss)
  | _, _ => none
def setOs : Env → List (Nat × Ow) → List D → Option Env
  | env, [], [] => some env
  | env, p :: is, d :: ds => (ownO p.2 d).bind fun sl => setOs (env.set p.1 sl) is ds
  | _, _, _ => none
def frzS (env : Env) (i : Nat) : Env := match slot env i with
  | .own o => env.set i (.val o.d)
  | _ => env
def popD (env : Env) (i : Nat) (d : D) : Option (D × Env) := match slot env i, d with
  | .own (.lst xs), .int k => (ixZ xs.length k).bind fun j => xs[j]?.map fun x => (x, env.set i (.own (.lst (xs.eraseIdx j))))
  | _, _ => none
def ownL (env : Env) (i : Nat) : Option Unit := match slot env i with
  | .own (.lst _) => some ()
  | _ => none
def rowO (env : Env) (i : Nat) (d : D) : Option Unit := match slot env i, d with
  | .own (.l2 xss), .int k => (ixZ xss.length k).map fun _ => ()
  | _, _ => none
def evf : Ef → Env → M (D × Env)
  | .pure e, env => (ev cl e env).bind fun d => M.ret (d, env)
  | .pop i e, env => (M.opt (ownL env i)).bind fun _ => (ev cl e env).bind fun d => M.opt (popD env i d)
  | .ixpop a i e, env => (ev cl a env).bind fun x => (M.opt (ownL env i)).bind fun _ => (ev cl e env).bind fun d => (M.opt (popD env i d)).bind fun p => (M.opt (ixD x p.1)).bind fun y => M.ret (y, p.2)
def appD (env : Env) (i : Nat) (d : D) : Option Env := match slot env i with
  | .own (.lst xs) => if xs.length < LIM then some (env.set i (.own (.lst (xs ++ [d])))) else none
  | _ => none
def augD (op : Op2) (env : Env) (i : Nat) (d : D) : Option Env := match slot env i, op, d with
  | .own (.lst xs), .add, .lst ys => if xs.length + ys.length ≤ LIM then some (env.set i (.own (.lst (xs ++ ys)))) else none
  | .val (.int a), .add, .int b => some (env.set i (.val (.int (a + b))))
  | .val (.int a), .mul, .int b => if small a || small b then some (env.set i (.val (.int (a * b)))) else none
  | _, _, _ => none
def stD (env : Env) (i : Nat) (k d : D) : Option Env := match slot env i, k with
  | .own (.lst xs), .int z => (ixZ xs.length z).map fun j => env.set i (.own (.lst (xs.set j d)))
  | .own (.dct t kvs), k => if keyOk t k && decide (kvs.length < LIM) then some (env.set i (.own (.dct t (putD kvs k d)))) else none
  | _, _ => none
def st2D (env : Env) (i : Nat) (a b d : D) : Option Env := match slot env i, a, b with
  | .own (.l2 xss), .int z, .int y => (ixZ xss.length z).bind fun j => xss[j]?.bind fun xs => (ixZ xs.length y).map fun k => env.set i (.own (.l2 (xss.set j (xs.set k d))))
  | _, _, _ => none
def asg1 : Lv → D → Env → M Env
  | .nm i, d, env => M.ret (setV env i d)
  | .ix1 i a, d, env => (M.opt (hasS env i)).bind fun _ => (ev cl a env).bind fun k => M.opt (stD env i k d)
  | .ix2 i a b, d, env => (M.opt (hasS env i)).bind fun _ => (ev cl a env).bind fun k => (M.opt (rowO env i k)).bind fun _ => (ev cl b env).bind fun k2 => M.opt (st2D env i k k2 d)
def asgL : List Lv → List D → Env → M Env
  | [], [], env => M.ret env
  | l :: r, d :: ds, env => (asg1 cl l d env).bind fun env1 => asgL r ds env1
  | _, _, _ => fun _ => .stuck
def tupD : D → Option (List D)
  | .tup ds => some ds
  | _ => none
def forT (tg : Tg) (b : Env → M Out) : List D → Env → M Out
  | [], env => M.ret (.nx env)
  | d :: ds, env => (M.opt (bindT tg d env)).bind fun env1 => (b env1).bind fun o => match o with
    | .nx env2 => forT tg b ds env2
    | .ct env2 => forT tg b ds env2
    | .bk env2 => M.ret (.nx env2)
    | .rt d => M.ret (.rt d)
def whlT (c : Env → M Bool) (b : Env → M Out) : Nat → Env → M Out
  | 0, _ => fun _ => .stuck
  | n + 1, env => (c env).bind fun k => if k then (b env).bind fun o => match o with
    | .nx env2 => whlT c b n env2
    | .ct env2 => whlT c b n env2
    | .bk env2 => M.ret (.nx env2)
    | .rt d => M.ret (.rt d)
    else M.ret (.nx env)
/-- no while goes longer -/
def TURNS : Nat := 1000000
def cstD (S : Sto) (h : Nat) (k : Str) (d : D) : Option Sto := if hasC S h k then S[h]?.map fun c => S.set h (putC c k d) else none
mutual
def ex : S → Env → M Out
  | .asg tg e, env => (evf cl e env).bind fun p => (M.opt (bindT tg p.1 p.2)).bind fun env1 => M.ret (.nx env1)
  | .own i k e, env => (ev cl e env).bind fun d => (M.opt (ownO k d)).bind fun sl => M.ret (.nx (env.set i sl))
  | .par l es, env => (evs cl es env).bind fun ds => (M.opt (setOs env l ds)).bind fun env1 => M.ret (.nx env1)
  | .lv l e, env => (ev cl e env).bind fun d => (asg1 cl l d env).bind fun env1 => M.ret (.nx env1)
  | .lvs l e, env => (ev cl e env).bind fun d => (M.opt (tupD d)).bind fun ds => if ds.length = l.length then (asgL cl l ds env).bind fun env1 => M.ret (.nx env1) else fun _ => .stuck
  | .fz i, env => M.ret (.nx (frzS env i))
  | .app i e, env => (M.opt (ownL env i)).bind fun _ => (evf cl e env).bind fun p => (M.opt (appD p.2 i p.1)).bind fun env1 => M.ret (.nx env1)
  | .aug op i e, env => (M.opt (hasS env i)).bind fun _ => (ev cl e env).bind fun d => (M.opt (augD op env i d)).bind fun env1 => M.ret (.nx env1)
  | .cst m k e, env => (ev cl e env).bind fun d => (ev cl m env).bind fun x => (M.opt (cellD x)).bind fun h => fun S => (ofO (cstD S h k d)).bind fun S1 => .ok (.nx env, S1)
  | .ifs c a b, env => (ev cl c env).bind fun x => (M.opt (bD x)).bind fun k => if k then exs a env else exs b env
  | .whl c b, env => whlT (fun env1 => (ev cl c env1).bind fun x => M.opt (bD x)) (fun env1 => exs b env1) TURNS env
  | .for_ tg it b, env => (evi cl it env).bind fun ds => forT tg (fun env1 => exs b env1) ds env
  | .forp tg a i e b, env => (evf cl (.ixpop a i e) env).bind fun p => (M.opt (itemsD p.1)).bind fun ds => forT tg (fun env1 => exs b env1) ds p.2
  | .bad, _ => fun _ => .stuck
  | .ret e, env => (ev cl e env).bind fun d => M.ret (.rt d)
  | .retN, _ => M.ret (.rt .non)
  | .exp e, env => (ev cl e env).bind fun _ => M.ret (.nx env)
  | .pas, env => M.ret (.nx env)
  | .brk, env => M.ret (.bk env)
  | .cnt, env => M.ret (.ct env)
  | .rai _ _, _ => fun _ => .stuck
def exs : Ss → Env → M Out
  | .nil, env => M.ret (.nx env)
  | .cons s ss, env => (ex s env).bind fun o => match o with
    | .nx env1 => exs ss env1
    | .rt d => M.ret (.rt d)
    | .bk env1 => M.ret (.bk env1)
    | .ct env1 => M.ret (.ct env1)
end
end
/-- a def: how many parameters, how many names, its body -/
structure Fn where
  np : Nat
  nn : Nat
  body : Ss
def env0 (nn : Nat) (ds : List D) : Env := ds.map .val ++ List.replicate (nn - ds.length) .no
def runF (cl : Cl) (f : Fn) (ds : List D) : M D := if ds.length = f.np then (exs cl f.body (env0 f.nn ds)).bind fun o => match o with
  | .nx _ => M.ret .non
  | .rt d => M.ret d
  | _ => fun _ => .stuck
  else fun _ => .stuck
abbrev Prog := List (Str × Fn)
def callN (pg : Prog) : Nat → Cl
  | 0 => fun _ _ _ => .stuck
  | n + 1 => fun f ds => match pg.lookup f with
    | some fn => runF (callN pg n) fn ds
    | none => fun _ => .stuck
end Q

set_option Elab.async false
set_option linter.all false
set_option autoImplicit false
set_option maxRecDepth 10000
set_option maxHeartbeats 1000000
/-! QRep: how trees stand in the abstract heap. -/
namespace Q
open PySem L2

def keyd : Key → D
  | .inl i => .int i
  | .inr x => .str x
def KT (K : PySem.W.Frag) (a : Addr) (xs : List Str) : Prop := ∃ (o : Obj) (its : Array Value) (n : Nat), K.lookup a = some o ∧ o.cls = .type "tuple" ∧ o.data = .seq its n ∧ its.size ≤ sizeLine ∧ Vals (xs.map V.str) its.toList

def KL (K : PySem.W.Frag) (a : Addr) (xs : List V) : Prop := ∃ (o : Obj) (its : Array Value) (n : Nat), K.lookup a = some o ∧ o.cls = .type "list" ∧ o.dict = none ∧ o.data = .seq its n ∧ its.size ≤ sizeLine ∧ Vals xs its.toList
mutual
inductive Rp (K : PySem.W.Frag) (mg : Str → Option Value) (γ : List Addr) (Z : Addr → Prop) (H : Hp) : V → D → Prop
  | non : Rp K mg γ Z H .non .non
  | bl (b : Bool) : Rp K mg γ Z H (.bl b) (.bl b)
  | int (i : Int) : Rp K mg γ Z H (.int i) (.int i)
  | str (x : Str) : Rp K mg γ Z H (.str x) (.str x)
  | tup {a : Addr} {vs : List V} {ds : List D} : H a = some (.tup vs) → ds.length ≤ LIM → RpL K mg γ Z H vs ds → Rp K mg γ Z H (.ref a) (.tup ds)
  | ktup {a : Addr} {xs : List Str} : xs ≠ [] → KT K a xs → Rp K mg γ Z H (.ref a) (.tup (xs.map .str))
  | lst {a : Addr} {vs : List V} {ds : List D} : Z a → H a = some (.lst vs) → ds.length ≤ LIM → RpL K mg γ Z H vs ds → Rp K mg γ Z H (.ref a) (.lst ds)
  | scr {a : Addr} {vs : List V} {ds : List D} : Z a → Rd H a (.lst vs) → ds.length ≤ LIM → RpL K mg γ Z H vs ds → Rp K mg γ Z H (.ref a) (.scr ds)
  | scrK {a : Addr} {vs : List V} {ds : List D} : KL K a vs → ds.length ≤ LIM → RpL K mg γ Z H vs ds → Rp K mg γ Z H (.ref a) (.scr ds)
  | dctK {a : Addr} {o : Obj} {kvs : List (Key × V)} {es : List (D × D)} : Z a → H a = some (.frz o (.dK kvs)) → es.length ≤ LIM → es.map (·.1) = kvs.map (fun p => keyd p.1) → RpL K mg γ Z H (kvs.map (·.2)) (es.map (·.2)) → Rp K mg γ Z H (.ref a) (.dct false es)
  | dctT {a : Addr} {o : Obj} {kvs : List (List Key × V)} {es : List (D × D)} : Z a → H a = some (.frz o (.dT kvs)) → es.length ≤ LIM → es.map (·.1) = kvs.map (fun p => D.tup (p.1.map keyd)) → (∀ p ∈ kvs, p.1.length ≤ LIM) → RpL K mg γ Z H (kvs.map (·.2)) (es.map (·.2)) → Rp K mg γ Z H (.ref a) (.dct true es)
  | ty (n : String) : Rp K mg γ Z H (.ty n) (.ty n)
  | fn {x : Str} {a : Addr} : mg x = some (.ref a) → Rp K mg γ Z H (.ref a) (.fn x)
  | cell {h : Nat} {a : Addr} : γ[h]? = some a → Rp K mg γ Z H (.ref a) (.cell h)
inductive RpL (K : PySem.W.Frag) (mg : Str → Option Value) (γ : List Addr) (Z : Addr → Prop) (H : Hp) : List V → List D → Prop
  | nil : RpL K mg γ Z H [] []
  | cons {v : V} {d : D} {vs : List V} {ds : List D} : Rp K mg γ Z H v d → RpL K mg γ Z H vs ds → RpL K mg γ Z H (v :: vs) (d :: ds)
end

/-- a later world -/
structure Le (γ : List Addr) (Z : Addr → Prop) (H : Hp) (γ' : List Addr) (Z' : Addr → Prop) (H' : Hp) : Prop where
  keep : ∀ a o, H a = some o → a ∉ γ → H' a = some o
  there : ∀ a o, H a = some o → ∃ o', H' a = some o'
  pre : ∃ t, γ' = γ ++ t
  zz : ∀ a, Z a → Z' a
  znew : ∀ a, Z' a → Z a ∨ H a = none
  gnew : ∀ a, a ∈ γ' → a ∈ γ ∨ H a = none

variable {K : PySem.W.Frag} {mg : Str → Option Value} {γ γ' γ'' : List Addr} {Z Z' Z'' : Addr → Prop} {H H' H'' : Hp} {S S' : Sto}

theorem Le.refl : Le γ Z H γ Z H := ⟨fun _ _ h _ => h, fun _ _ h => ⟨_, h⟩, ⟨[], by simp⟩, fun _ h => h, fun _ h => .inl h, fun _ h => .inl h⟩
theorem Le.fresh (l : Le γ Z H γ' Z' H') {a : Addr} (h : H' a = none) : H a = none := by
  cases e : H a with
  | none => rfl
  | some o =>
    obtain ⟨o', e'⟩ := l.there a o e
    rw [h] at e'; cases e'
theorem Le.trans (l : Le γ Z H γ' Z' H') (l' : Le γ' Z' H' γ'' Z'' H'') : Le γ Z H γ'' Z'' H'' where
  keep := fun a o h n => l'.keep a o (l.keep a o h n) fun m => by
    rcases l.gnew a m with z | z
    · exact n z
    · rw [h] at z; cases z
  there := fun a o h => let ⟨o', h'⟩ := l.there a o h; l'.there a o' h'
  pre := by
    obtain ⟨t, e⟩ := l.pre
    obtain ⟨t', e'⟩ := l'.pre
    exact ⟨t ++ t', by rw [e', e, List.append_assoc]⟩
  zz := fun a h => l'.zz a (l.zz a h)
  znew := fun a h => by
    rcases l'.znew a h with z | z
    · exact l.znew a z
    · exact .inr (l.fresh z)
  gnew := fun a h => by
    rcases l'.gnew a h with z | z
    · exact l.gnew a z
    · exact .inr (l.fresh z)

/-- a shared dict with text keys -/
def CellAt (K : PySem.W.Frag) (mg : Str → Option Value) (γ : List Addr) (Z : Addr → Prop) (H : Hp) (a : Addr) (c : Cell) : Prop :=
  ∃ kvs : List (Key × V), H a = some (.dK kvs) ∧ kvs.map (·.1) = c.map (fun p => Sum.inr p.1) ∧ RpL K mg γ Z H (kvs.map (·.2)) (c.map (·.2))
structure Ok (K : PySem.W.Frag) (mg : Str → Option Value) (γ : List Addr) (Z : Addr → Prop) (H : Hp) (S : Sto) : Prop where
  len : γ.length = S.length
  nd : γ.Nodup
  nz : ∀ a, a ∈ γ → ¬ Z a
  zt : ∀ a, Z a → ∃ o, H a = some o
  cells : ∀ (h : Nat) (a : Addr) (c : Cell), γ[h]? = some a → S[h]? = some c → CellAt K mg γ Z H a c
theorem Ok.at (w : Ok K mg γ Z H S) {a : Addr} (h : a ∈ γ) : ∃ kvs, H a = some (.dK kvs) := by
  obtain ⟨i, hi, e⟩ := List.getElem_of_mem h
  have hs : i < S.length := by rw [← w.len]; exact hi
  obtain ⟨kvs, e1, _⟩ := w.cells i a S[i] (by rw [List.getElem?_eq_getElem hi, e]) (List.getElem?_eq_getElem hs)
  exact ⟨kvs, e1⟩
theorem Ok.ntup (w : Ok K mg γ Z H S) {a : Addr} {vs : List V} (h : H a = some (.tup vs)) : a ∉ γ := fun m => by
  obtain ⟨kvs, e⟩ := w.at m
  rw [h] at e; cases e
/-- what stands stands: enough for reading -/
structure Lz (γ : List Addr) (Z : Addr → Prop) (H : Hp) (γ' : List Addr) (Z' : Addr → Prop) (H' : Hp) : Prop where
  tup : ∀ a vs, H a = some (.tup vs) → H' a = some (.tup vs)
  kz : ∀ a o, Z a → H a = some o → H' a = some o
  pre : ∃ t, γ' = γ ++ t
  zz : ∀ a, Z a → Z' a
theorem Lz.refl : Lz γ Z H γ Z H := ⟨fun _ _ h => h, fun _ _ _ h => h, ⟨[], by simp⟩, fun _ h => h⟩
theorem Lz.trans (l : Lz γ Z H γ' Z' H') (l' : Lz γ' Z' H' γ'' Z'' H'') : Lz γ Z H γ'' Z'' H'' :=
  ⟨fun a vs h => l'.tup a vs (l.tup a vs h), fun a o z h => l'.kz a o (l.zz a z) (l.kz a o z h), by
    obtain ⟨t, e⟩ := l.pre
    obtain ⟨t', e'⟩ := l'.pre
    exact ⟨t ++ t', by rw [e', e, List.append_assoc]⟩, fun a h => l'.zz a (l.zz a h)⟩
theorem Le.lz (w : Ok K mg γ Z H S) (l : Le γ Z H γ' Z' H') : Lz γ Z H γ' Z' H' :=
  ⟨fun a vs h => l.keep a _ h (w.ntup h), fun a o z h => l.keep a o h fun m => w.nz a m z, l.pre, l.zz⟩
theorem Rd.lz (l : Lz γ Z H γ' Z' H') {a : Addr} {u : HO} (z : Z a) (h : Rd H a u) : Rd H' a u := by
  rcases h with h | ⟨o, h⟩
  · exact .inl (l.kz a _ z h)
  · exact .inr ⟨o, l.kz a _ z h⟩
mutual
theorem Rp.lz (l : Lz γ Z H γ' Z' H') : ∀ {v : V} {d : D}, Rp K mg γ Z H v d → Rp K mg γ' Z' H' v d
  | _, _, .non => .non
  | _, _, .bl b => .bl b
  | _, _, .int i => .int i
  | _, _, .str x => .str x
  | _, _, .tup h n r => .tup (l.tup _ _ h) n (RpL.lz l r)
  | _, _, .ktup n k => .ktup n k
  | _, _, .lst z h n r => .lst (l.zz _ z) (l.kz _ _ z h) n (RpL.lz l r)
  | _, _, .scr z h n r => .scr (l.zz _ z) (Rd.lz l z h) n (RpL.lz l r)
  | _, _, .scrK h n r => .scrK h n (RpL.lz l r)
  | _, _, .dctK z h y e r => .dctK (l.zz _ z) (l.kz _ _ z h) y e (RpL.lz l r)
  | _, _, .dctT z h y e q r => .dctT (l.zz _ z) (l.kz _ _ z h) y e q (RpL.lz l r)
  | _, _, .ty n => .ty n
  | _, _, .fn h => .fn h
  | _, _, .cell h => .cell (by
      obtain ⟨t, e⟩ := l.pre
      have hl := (List.getElem?_eq_some_iff.mp h).1
      rw [e, List.getElem?_append_left hl]; exact h)
theorem RpL.lz (l : Lz γ Z H γ' Z' H') : ∀ {vs : List V} {ds : List D}, RpL K mg γ Z H vs ds → RpL K mg γ' Z' H' vs ds
  | _, _, .nil => .nil
  | _, _, .cons r t => .cons (Rp.lz l r) (RpL.lz l t)
end
theorem Rp.mono (w : Ok K mg γ Z H S) (l : Le γ Z H γ' Z' H') {v : V} {d : D} (r : Rp K mg γ Z H v d) : Rp K mg γ' Z' H' v d := r.lz (l.lz w)
theorem RpL.mono (w : Ok K mg γ Z H S) (l : Le γ Z H γ' Z' H') {vs : List V} {ds : List D} (r : RpL K mg γ Z H vs ds) : RpL K mg γ' Z' H' vs ds := r.lz (l.lz w)
theorem RpL.len : ∀ {vs : List V} {ds : List D}, RpL K mg γ Z H vs ds → vs.length = ds.length
  | _, _, .nil => rfl
  | _, _, .cons _ t => congrArg (· + 1) (RpL.len t)
theorem RpL.get : ∀ {vs : List V} {ds : List D} {i : Nat} {d : D}, RpL K mg γ Z H vs ds → ds[i]? = some d → ∃ v, vs[i]? = some v ∧ Rp K mg γ Z H v d
  | _, _, _, _, .nil, e => by simp at e
  | _, _, 0, _, .cons r _, e => by simp at e; subst e; exact ⟨_, rfl, r⟩
  | _, _, i + 1, d, .cons _ t, e => by
    obtain ⟨v, h1, h2⟩ := RpL.get (i := i) (d := d) t (by simpa using e)
    exact ⟨v, by simpa using h1, h2⟩
theorem RpL.getV : ∀ {vs : List V} {ds : List D} {i : Nat} {v : V}, RpL K mg γ Z H vs ds → vs[i]? = some v → ∃ d, ds[i]? = some d ∧ Rp K mg γ Z H v d
  | _, _, _, _, .nil, e => by simp at e
  | _, _, 0, _, .cons r _, e => by simp at e; subst e; exact ⟨_, rfl, r⟩
  | _, _, i + 1, v, .cons _ t, e => by
    obtain ⟨d, h1, h2⟩ := RpL.getV (i := i) (v := v) t (by simpa using e)
    exact ⟨d, by simpa using h1, h2⟩
theorem RpL.append : ∀ {vs ws : List V} {ds es : List D}, RpL K mg γ Z H vs ds → RpL K mg γ Z H ws es → RpL K mg γ Z H (vs ++ ws) (ds ++ es)
  | _, _, _, _, .nil, s => s
  | _, _, _, _, .cons r t, s => .cons r (RpL.append t s)
theorem RpL.take : ∀ {vs : List V} {ds : List D} (n : Nat), RpL K mg γ Z H vs ds → RpL K mg γ Z H (vs.take n) (ds.take n)
  | _, _, 0, _ => .nil
  | _, _, _ + 1, .nil => .nil
  | _, _, n + 1, .cons r t => .cons r (RpL.take n t)
theorem RpL.drop : ∀ {vs : List V} {ds : List D} (n : Nat), RpL K mg γ Z H vs ds → RpL K mg γ Z H (vs.drop n) (ds.drop n)
  | _, _, 0, r => r
  | _, _, _ + 1, .nil => .nil
  | _, _, n + 1, .cons _ t => RpL.drop n t
theorem RpL.set {v : V} {d : D} (r : Rp K mg γ Z H v d) : ∀ {vs : List V} {ds : List D} (i : Nat), RpL K mg γ Z H vs ds → RpL K mg γ Z H (vs.set i v) (ds.set i d)
  | _, _, _, .nil => .nil
  | _, _, 0, .cons _ t => .cons r t
  | _, _, i + 1, .cons q t => .cons q (RpL.set r i t)
theorem RpL.eraseIdx : ∀ {vs : List V} {ds : List D} (i : Nat), RpL K mg γ Z H vs ds → RpL K mg γ Z H (vs.eraseIdx i) (ds.eraseIdx i)
  | _, _, _, .nil => .nil
  | _, _, 0, .cons _ t => t
  | _, _, i + 1, .cons q t => .cons q (RpL.eraseIdx i t)
theorem RpL.rep (k : Nat) {vs : List V} {ds : List D} (r : RpL K mg γ Z H vs ds) : RpL K mg γ Z H (List.replicate k vs).flatten (List.replicate k ds).flatten := by
  induction k with
  | zero => exact .nil
  | succ k ih => rw [List.replicate_succ, List.replicate_succ, List.flatten_cons, List.flatten_cons]; exact r.append ih

/-! ### a frame -/
/-- the entry's world -/
structure Bs where
  γ : List Addr
  Z : Addr → Prop
  H : Hp
inductive Rows (K : PySem.W.Frag) (mg : Str → Option Value) (γ : List Addr) (Z : Addr → Prop) (H : Hp) : List Addr → List (List D) → Prop
  | nil : Rows K mg γ Z H [] []
  | cons {a : Addr} {as : List Addr} {vs : List V} {ds : List D} {dss : List (List D)} : H a = some (.lst vs) → ds.length ≤ LIM → RpL K mg γ Z H vs ds → Rows K mg γ Z H as dss → Rows K mg γ Z H (a :: as) (ds :: dss)
/-- an own container at a, its objects F -/
inductive OwnAt (K : PySem.W.Frag) (mg : Str → Option Value) (γ : List Addr) (Z : Addr → Prop) (H : Hp) (a : Addr) : O → List Addr → Prop
  | lst {vs : List V} {xs : List D} : H a = some (.lst vs) → xs.length ≤ LIM → RpL K mg γ Z H vs xs → OwnAt K mg γ Z H a (.lst xs) [a]
  | l2 {as : List Addr} {xss : List (List D)} : H a = some (.lst (as.map V.ref)) → xss.length ≤ LIM → Rows K mg γ Z H as xss → OwnAt K mg γ Z H a (.l2 xss) (a :: as)
  | dctK {kvs : List (Key × V)} {es : List (D × D)} : H a = some (.dK kvs) → es.length ≤ LIM → es.map (·.1) = kvs.map (fun p => keyd p.1) → RpL K mg γ Z H (kvs.map (·.2)) (es.map (·.2)) → OwnAt K mg γ Z H a (.dct false es) [a]
  | dctT {kvs : List (List Key × V)} {es : List (D × D)} : H a = some (.dT kvs) → es.length ≤ LIM → es.map (·.1) = kvs.map (fun p => D.tup (p.1.map keyd)) → (∀ p ∈ kvs, p.1.length ≤ LIM) → RpL K mg γ Z H (kvs.map (·.2)) (es.map (·.2)) → OwnAt K mg γ Z H a (.dct true es) [a]
/-- what each own container holds, by slots -/
structure Owns (K : PySem.W.Frag) (mg : Str → Option Value) (b : Bs) (σ : L2.St) (env : Env) (γ : List Addr) (Z : Addr → Prop) (H : Hp) (F : Nat → List Addr) : Prop where
  at_ : ∀ i o, slot env i = .own o → ∃ a, σ[i]? = some (some (.ref a)) ∧ OwnAt K mg γ Z H a o (F i)
  nd : ∀ i o, slot env i = .own o → (F i).Nodup
  free : ∀ i o, slot env i = .own o → ∀ x, x ∈ F i → ¬ Z x ∧ x ∉ γ ∧ b.H x = none
  apart : ∀ i j o p, i ≠ j → slot env i = .own o → slot env j = .own p → ∀ x, x ∈ F i → x ∉ F j
structure Fr (K : PySem.W.Frag) (mg : Str → Option Value) (b : Bs) (σ : L2.St) (env : Env) (γ : List Addr) (Z : Addr → Prop) (H : Hp) (S : Sto) : Prop where
  ok : Ok K mg γ Z H S
  le : Le b.γ b.Z b.H γ Z H
  len : env.length = σ.length
  val : ∀ i d, slot env i = .val d → ∃ v, σ[i]? = some (some v) ∧ Rp K mg γ Z H v d
  own : ∃ F, Owns K mg b σ env γ Z H F

variable {b : Bs} {σ : L2.St} {env : Env}
theorem Rows.mono (w : Ok K mg γ Z H S) (l : Le γ Z H γ' Z' H') : ∀ {as : List Addr} {dss : List (List D)}, (∀ a ∈ as, a ∉ γ) → Rows K mg γ Z H as dss → Rows K mg γ' Z' H' as dss
  | _, _, _, .nil => .nil
  | _, _, n, .cons h z r t => .cons (l.keep _ _ h (n _ (by simp))) z (r.mono w l) (Rows.mono w l (fun a m => n a (by simp [m])) t)
theorem OwnAt.mono (w : Ok K mg γ Z H S) (l : Le γ Z H γ' Z' H') {a : Addr} {o : O} {F : List Addr} (n : ∀ x ∈ F, x ∉ γ) (h : OwnAt K mg γ Z H a o F) : OwnAt K mg γ' Z' H' a o F := by
  cases h with
  | lst h z r => exact .lst (l.keep _ _ h (n _ (by simp))) z (r.mono w l)
  | l2 h z r => exact .l2 (l.keep _ _ h (n _ (by simp))) z (r.mono w l fun a m => n a (by simp [m]))
  | dctK h y e r => exact .dctK (l.keep _ _ h (n _ (by simp))) y e (r.mono w l)
  | dctT h y e q r => exact .dctT (l.keep _ _ h (n _ (by simp))) y e q (r.mono w l)
theorem Rows.there : ∀ {as : List Addr} {dss : List (List D)}, Rows K mg γ Z H as dss → ∀ a ∈ as, ∃ o, H a = some o
  | _, _, .nil, a, m => by simp at m
  | _, _, .cons h _ _ t, a, m => by
    rcases List.mem_cons.mp m with rfl | m
    · exact ⟨_, h⟩
    · exact Rows.there t a m
theorem OwnAt.there {a : Addr} {o : O} {F : List Addr} (h : OwnAt K mg γ Z H a o F) : ∀ x ∈ F, ∃ o, H x = some o := by
  intro x hx
  cases h with
  | lst h z r => simp at hx; subst hx; exact ⟨_, h⟩
  | l2 h z r =>
    rcases List.mem_cons.mp hx with rfl | hx
    · exact ⟨_, h⟩
    · exact r.there x hx
  | dctK h y e r => simp at hx; subst hx; exact ⟨_, h⟩
  | dctT h y e q r => simp at hx; subst hx; exact ⟨_, h⟩
/-- behind a pure step (a new store that stands in the new world) -/
theorem Fr.step (f : Fr K mg b σ env γ Z H S) (l : Le γ Z H γ' Z' H') (w : Ok K mg γ' Z' H' S') : Fr K mg b σ env γ' Z' H' S' := by
  obtain ⟨F, o⟩ := f.own
  refine ⟨w, f.le.trans l, f.len, fun i d e => ?_, F, fun i p e => ?_, o.nd, fun i p e x hx => ?_, o.apart⟩
  · obtain ⟨v, h1, h2⟩ := f.val i d e
    exact ⟨v, h1, h2.mono f.ok l⟩
  · obtain ⟨a, h1, h2⟩ := o.at_ i p e
    exact ⟨a, h1, h2.mono f.ok l fun x hx => (o.free i p e x hx).2.1⟩
  · obtain ⟨h1, h2, h3⟩ := o.free i p e x hx
    obtain ⟨a, _, h4⟩ := o.at_ i p e
    obtain ⟨u, hu⟩ := h4.there x hx
    refine ⟨fun z => ?_, fun z => ?_, h3⟩
    · rcases l.znew x z with q | q
      · exact h1 q
      · rw [hu] at q; cases q
    · rcases l.gnew x z with q | q
      · exact h2 q
      · rw [hu] at q; cases q
/-! ### readings from values -/
abbrev XQ := Str → List (Str × D) → Sto → Prop
abbrev Rel (β α : Type) := List Addr → (Addr → Prop) → Hp → β → α → Prop
section
variable {β α β' α' : Type}
/-- what must follow -/
def Pst (K : PySem.W.Frag) (mg : Str → Option Value) (b : Bs) (X : XQ) (rel : Rel β α) (σ : L2.St) (env : Env) (Q : β → Hp → Prop) (γ : List Addr) (Z : Addr → Prop) (H : Hp) : Res (α × Sto) → Prop
  | .ok p => ∀ v H' γ' Z', Le γ Z H γ' Z' H' → Fr K mg b σ env γ' Z' H' p.2 → rel γ' Z' H' v p.1 → Q v H'
  | .exn c fs S' => X c fs S'
  | .stuck => False
def tG (K : PySem.W.Frag) (mg : Str → Option Value) (b : Bs) (X : XQ) (rel : Rel β α) (m : Env → M α) : L2.St → Hp → (β → Hp → Prop) → Prop := fun σ H Q =>
  ∃ env S γ Z, Fr K mg b σ env γ Z H S ∧ Pst K mg b X rel σ env Q γ Z H (m env S)
variable {X : XQ} {rel : Rel β α} {rel' : Rel β' α'}
theorem Pst.mono {Q : β → Hp → Prop} (l : Le γ Z H γ' Z' H') : ∀ {r : Res (α × Sto)}, Pst K mg b X rel σ env Q γ Z H r → Pst K mg b X rel σ env Q γ' Z' H' r
  | .ok p, h => fun v H2 γ2 Z2 l2 f r => h v H2 γ2 Z2 (l.trans l2) f r
  | .exn c fs S', h => h
  | .stuck, h => h
theorem Pst.bind {Q : β' → Hp → Prop} {N : β → Hp → Prop} {m : M α} {f : α → M α'} (p : Pst K mg b X rel' σ env Q γ Z H (m.bind f S))
    (k : ∀ x a H1 γ1 Z1 S1, Le γ Z H γ1 Z1 H1 → Fr K mg b σ env γ1 Z1 H1 S1 → rel γ1 Z1 H1 x a → Pst K mg b X rel' σ env Q γ1 Z1 H1 (f a S1) → N x H1) : Pst K mg b X rel σ env N γ Z H (m S) := by
  unfold M.bind at p
  cases e : m S with
  | ok q =>
    rw [e] at p
    intro v H' γ' Z' l fr r
    exact k v q.1 H' γ' Z' q.2 l fr r (Pst.mono l p)
  | exn c fs S' => rw [e] at p; exact p
  | stuck => rw [e] at p; exact p
/-- an option of the value -/
theorem Pst.opt {Q : β → Hp → Prop} {o : Option α} (p : Pst K mg b X rel σ env Q γ Z H (M.opt o S)) : ∃ a, o = some a ∧ Pst K mg b X rel σ env Q γ Z H (.ok (a, S)) := by
  cases o with
  | none => exact p.elim
  | some a => exact ⟨a, rfl, p⟩
theorem Pst.optB {Q : β → Hp → Prop} {α2 : Type} {o : Option α2} {f : α2 → M α} (p : Pst K mg b X rel σ env Q γ Z H ((M.opt o).bind f S)) : ∃ a, o = some a ∧ Pst K mg b X rel σ env Q γ Z H (f a S) := by
  cases o with
  | none => exact p.elim
  | some a => exact ⟨a, rfl, p⟩
theorem Pst.iteS {Q : β → Hp → Prop} {c : Prop} [Decidable c] {m : M α} (p : Pst K mg b X rel σ env Q γ Z H ((if c then m else fun _ => .stuck) S)) : c ∧ Pst K mg b X rel σ env Q γ Z H (m S) := by
  by_cases h : c
  · rw [if_pos h] at p; exact ⟨h, p⟩
  · rw [if_neg h] at p; exact p.elim
/-- the value is here -/
theorem Pst.here {Q : β → Hp → Prop} {a : α} {v : β} (p : Pst K mg b X rel σ env Q γ Z H (.ok (a, S))) (f : Fr K mg b σ env γ Z H S) (r : rel γ Z H v a) : Q v H := p v H γ Z .refl f r
end
abbrev rD (K : PySem.W.Frag) (mg : Str → Option Value) : Rel V D := fun γ Z H v d => Rp K mg γ Z H v d
abbrev rL (K : PySem.W.Frag) (mg : Str → Option Value) : Rel (List V) (List D) := fun γ Z H v d => RpL K mg γ Z H v d
abbrev rB : Rel Bool Bool := fun _ _ _ b c => b = c
abbrev rO : Rel (Option Int) (Option Int) := fun _ _ _ b c => b = c
abbrev tE (K : PySem.W.Frag) (mg : Str → Option Value) (b : Bs) (X : XQ) (m : Env → M D) : TE := tG K mg b X (rD K mg) m
abbrev tAs (K : PySem.W.Frag) (mg : Str → Option Value) (b : Bs) (X : XQ) (m : Env → M (List D)) : TA := tG K mg b X (rL K mg) m
abbrev tBs (K : PySem.W.Frag) (mg : Str → Option Value) (b : Bs) (X : XQ) (m : Env → M Bool) : TT := tG K mg b X rB m

/-! ### a new object -/
theorem Le.new {a : Addr} {o : HO} (h : H a = none) : Le γ Z H γ Z (upd H a o) :=
  ⟨fun c u e n => by rw [upd_ne (ne_of_none e h)]; exact e, fun c u e => ⟨u, by rw [upd_ne (ne_of_none e h)]; exact e⟩, ⟨[], by simp⟩, fun _ z => z, fun _ z => .inl z, fun _ z => .inl z⟩
/-- .. that is never changed from now on -/
theorem Le.newZ {a : Addr} {o : HO} (h : H a = none) : Le γ Z H γ (fun c => Z c ∨ c = a) (upd H a o) :=
  ⟨fun c u e n => by rw [upd_ne (ne_of_none e h)]; exact e, fun c u e => ⟨u, by rw [upd_ne (ne_of_none e h)]; exact e⟩, ⟨[], by simp⟩, fun _ z => .inl z, fun c z => by
    rcases z with z | z
    · exact .inl z
    · rw [z]; exact .inr h, fun _ z => .inl z⟩
theorem CellAt.mono (w : Ok K mg γ Z H S) (l : Le γ Z H γ' Z' H') {a : Addr} {c : Cell} (e : H' a = H a) (h : CellAt K mg γ Z H a c) : CellAt K mg γ' Z' H' a c := by
  obtain ⟨kvs, h1, h2, h3⟩ := h
  exact ⟨kvs, by rw [e]; exact h1, h2, h3.mono w l⟩
theorem Ok.new (w : Ok K mg γ Z H S) {a : Addr} {o : HO} (h : H a = none) : Ok K mg γ Z (upd H a o) S :=
  ⟨w.len, w.nd, w.nz, fun c z => by
    obtain ⟨u, e⟩ := w.zt c z
    exact ⟨u, by rw [upd_ne (ne_of_none e h)]; exact e⟩, fun i c d e1 e2 => (w.cells i c d e1 e2).mono w (Le.new h) (upd_ne (by
    obtain ⟨kvs, q⟩ := w.at (List.mem_of_getElem? e1)
    exact ne_of_none q h))⟩
theorem Ok.newZ (w : Ok K mg γ Z H S) {a : Addr} {o : HO} (h : H a = none) : Ok K mg γ (fun c => Z c ∨ c = a) (upd H a o) S :=
  ⟨w.len, w.nd, fun c hc z => by
    rcases z with z | z
    · exact w.nz c hc z
    · subst z
      obtain ⟨kvs, q⟩ := w.at hc
      rw [h] at q
      exact (nomatch q), fun c z => by
    rcases z with z | z
    · obtain ⟨u, e⟩ := w.zt c z
      exact ⟨u, by rw [upd_ne (ne_of_none e h)]; exact e⟩
    · rw [z]; exact ⟨o, upd_same⟩, fun i c d e1 e2 => (w.cells i c d e1 e2).mono w (Le.newZ h) (upd_ne (by
    obtain ⟨kvs, q⟩ := w.at (List.mem_of_getElem? e1)
    exact ne_of_none q h))⟩
section
variable {X : XQ} {Q : VK}
/-- a new tuple is the value -/
theorem Pst.newTup {vs : List V} {ds : List D} {p : Addr} (h : Pst K mg b X (rD K mg) σ env Q γ Z H (.ok (.tup ds, S))) (f : Fr K mg b σ env γ Z H S) (r : RpL K mg γ Z H vs ds) (hz : ds.length ≤ LIM) (hp : H p = none) : Q (.ref p) (upd H p (.tup vs)) :=
  h (.ref p) _ γ Z (Le.new hp) (f.step (Le.new hp) (f.ok.new hp)) (.tup upd_same hz (r.mono f.ok (Le.new hp)))
/-- a new list is the value -/
theorem Pst.newLst {vs : List V} {ds : List D} {p : Addr} (h : Pst K mg b X (rD K mg) σ env Q γ Z H (.ok (.lst ds, S))) (f : Fr K mg b σ env γ Z H S) (r : RpL K mg γ Z H vs ds) (hz : ds.length ≤ LIM) (hp : H p = none) : Q (.ref p) (upd H p (.lst vs)) :=
  h (.ref p) _ γ _ (Le.newZ hp) (f.step (Le.newZ hp) (f.ok.newZ hp)) (.lst (.inr rfl) upd_same hz (r.mono f.ok (Le.newZ hp)))
end
end Q

set_option Elab.async false
set_option linter.all false
set_option autoImplicit false
set_option maxRecDepth 100000
set_option maxHeartbeats 1000000
/-! QVal: operations by values. -/
namespace Q
open PySem PySem.Spec PyProof.Rows L2

theorem lim_eq : LIM = sizeLine := by rw [sizeLine_eq]; rfl
section
variable {K : PySem.W.Frag} {mg : Str → Option Value} {γ : List Addr} {Z : Addr → Prop} {H : Hp} {S : Sto}
theorem RpL.strs : ∀ xs : List Str, RpL K mg γ Z H (xs.map V.str) (xs.map D.str)
  | [] => .nil
  | x :: xs => .cons (.str x) (RpL.strs xs)
theorem Rp.sqT {v : V} {ds : List D} (r : Rp K mg γ Z H v (.tup ds)) : ∃ a vs, v = .ref a ∧ SqT K H a vs ∧ RpL K mg γ Z H vs ds := by
  generalize e : D.tup ds = d at r
  cases r with
  | tup h n r => cases e; exact ⟨_, _, rfl, .inl (.inl h), r⟩
  | ktup n k => cases e; exact ⟨_, _, rfl, .inr k, RpL.strs _⟩
  | _ => cases e
theorem Rp.tupI {v : V} {d : D} {ds : List D} (r : Rp K mg γ Z H v (.tup (d :: ds))) (hi : isInt d = true) : ∃ a vs, v = .ref a ∧ H a = some (.tup vs) ∧ RpL K mg γ Z H vs (d :: ds) := by
  generalize e : D.tup (d :: ds) = d0 at r
  cases r with
  | tup h n r => cases e; exact ⟨_, _, rfl, h, r⟩
  | ktup n k =>
    rename_i xs
    cases xs with
    | nil => exact absurd rfl n
    | cons x xs =>
      simp only [List.map_cons, D.tup.injEq, List.cons.injEq] at e
      rw [e.1] at hi; cases hi
  | _ => cases e
theorem Rp.lst' {v : V} {ds : List D} (r : Rp K mg γ Z H v (.lst ds)) : ∃ a vs, v = .ref a ∧ Z a ∧ H a = some (.lst vs) ∧ ds.length ≤ LIM ∧ RpL K mg γ Z H vs ds := by
  cases r with
  | lst z h n r => exact ⟨_, _, rfl, z, h, n, r⟩
theorem Rp.scr' {v : V} {ds : List D} (r : Rp K mg γ Z H v (.scr ds)) : ∃ a vs, v = .ref a ∧ SqL K H a vs ∧ ds.length ≤ LIM ∧ RpL K mg γ Z H vs ds := by
  cases r with
  | scr z h n r => exact ⟨_, _, rfl, .inl h, n, r⟩
  | scrK h n r => exact ⟨_, _, rfl, .inr h, n, r⟩
theorem Rp.int' {v : V} {i : Int} (r : Rp K mg γ Z H v (.int i)) : v = .int i := by cases r; rfl
theorem Rp.bl' {v : V} {i : Bool} (r : Rp K mg γ Z H v (.bl i)) : v = .bl i := by cases r; rfl
theorem Rp.str' {v : V} {i : Str} (r : Rp K mg γ Z H v (.str i)) : v = .str i := by cases r; rfl
theorem Rp.non' {v : V} (r : Rp K mg γ Z H v .non) : v = .non := by cases r; rfl
theorem Rp.tlen {v : V} {ds : List D} (r : Rp K mg γ Z H v (.tup ds)) : (∃ xs : List Str, ds = xs.map .str) ∨ ds.length ≤ LIM := by
  generalize e : D.tup ds = d at r
  cases r with
  | tup h n r => cases e; exact .inr n
  | ktup n k => cases e; exact .inl ⟨_, rfl⟩
  | _ => cases e
theorem Rp.tlen' {v : V} {ds : List D} (r : Rp K mg γ Z H v (.tup ds)) : ds.length ≤ LIM := by
  generalize e : D.tup ds = d at r
  cases r with
  | tup h n r => cases e; exact n
  | ktup n k =>
    cases e
    obtain ⟨o, its, m, _, _, _, hz, r⟩ := k
    have := r.length
    rw [List.length_map] at this ⊢
    rw [lim_eq]
    simp only [Array.length_toList] at this
    omega
  | _ => cases e
/-! ### plain data -/
theorem strs_dp {n : Nat} : ∀ xs : List Str, (xs.map D.str).all (pln n) = true → DpAll K H (xs.map V.str) (toPs (xs.map D.str)) ∧ PyData.canLayAll0 (toPs (xs.map D.str)) = true ∧ PyData.depthAll (toPs (xs.map D.str)) ≤ n
  | [], _ => by simp only [List.map_nil, toPs]; exact ⟨.nil, rfl, Nat.zero_le _⟩
  | x :: xs, p => by
    simp only [List.map_cons, List.all_cons, Bool.and_eq_true] at p
    obtain ⟨a, b, c⟩ := strs_dp xs p.2
    simp only [List.map_cons, toPs, toP]
    have hx : PyData.strOk x = true := by simpa [pln] using p.1
    exact ⟨.cons (.str x) a, by simp only [PyData.canLayAll0, PyData.canLay0, hx, b]; rfl, by simp only [PyData.depthAll, PyData.depth]; omega⟩
mutual
theorem Rp.dp : ∀ {v : V} {d : D} {n : Nat}, Rp K mg γ Z H v d → pln n d = true → Dp K H v (toP d) ∧ (toP d).canLay0 = true ∧ (toP d).depth ≤ n
  | _, _, n, .non, _ => by simp only [toP]; exact ⟨.non, rfl, Nat.zero_le _⟩
  | _, _, n, .bl b, _ => by simp only [toP]; exact ⟨.bl b, rfl, Nat.zero_le _⟩
  | _, _, n, .int i, _ => by simp only [toP]; exact ⟨.int i, rfl, Nat.zero_le _⟩
  | _, _, n, .str x, h => by
    simp only [toP]
    refine ⟨.str x, ?_, Nat.zero_le _⟩
    simp only [PyData.canLay0]
    simpa [pln] using h
  | _, _, 0, .tup h z r, p => by simp [pln] at p
  | _, _, n + 1, .tup h z r, p => by
    simp only [pln] at p
    obtain ⟨a, b, c⟩ := RpL.dp r p
    simp only [toP]
    exact ⟨.tup (.inl (.inl h)) a, by simp only [PyData.canLay0]; exact b, by simp only [PyData.depth]; omega⟩
  | _, _, 0, .ktup h z, p => by simp [pln] at p
  | _, _, n + 1, .ktup h z, p => by
    simp only [pln] at p
    obtain ⟨a, b, c⟩ := strs_dp (K := K) (H := H) (n := n) _ p
    simp only [toP]
    exact ⟨.tup (.inr z) a, by simp only [PyData.canLay0]; exact b, by simp only [PyData.depth]; omega⟩
  | _, _, 0, .lst z h _ r, p => by simp [pln] at p
  | _, _, n + 1, .lst z h _ r, p => by
    simp only [pln] at p
    obtain ⟨a, b, c⟩ := RpL.dp r p
    simp only [toP]
    exact ⟨.lst (.inl (.inl h)) a, by simp only [PyData.canLay0]; exact b, by simp only [PyData.depth]; omega⟩
  | _, _, n, .scr .., p => by cases n <;> simp [pln] at p
  | _, _, n, .scrK .., p => by cases n <;> simp [pln] at p
  | _, _, n, .dctK .., p => by cases n <;> simp [pln] at p
  | _, _, n, .dctT .., p => by cases n <;> simp [pln] at p
  | _, _, n, .ty _, p => by cases n <;> simp [pln] at p
  | _, _, n, .fn _, p => by cases n <;> simp [pln] at p
  | _, _, n, .cell _, p => by cases n <;> simp [pln] at p
theorem RpL.dp : ∀ {vs : List V} {ds : List D} {n : Nat}, RpL K mg γ Z H vs ds → ds.all (pln n) = true → DpAll K H vs (toPs ds) ∧ PyData.canLayAll0 (toPs ds) = true ∧ PyData.depthAll (toPs ds) ≤ n
  | _, _, n, .nil, _ => by simp only [toPs]; exact ⟨.nil, rfl, Nat.zero_le _⟩
  | _, _, n, .cons r t, p => by
    simp only [List.all_cons, Bool.and_eq_true] at p
    obtain ⟨a, b, c⟩ := Rp.dp r p.1
    obtain ⟨a', b', c'⟩ := RpL.dp t p.2
    simp only [toPs]
    exact ⟨.cons a a', by simp only [PyData.canLayAll0, b, b']; rfl, by simp only [PyData.depthAll]; omega⟩
end
mutual
theorem eqv_toP : ∀ (n m : Nat) (a b : D), pln n a = true → pln m b = true → PyData.eqv (toP a) (toP b) = eqD a b
  | n, m, .non, b, ha, hb => by cases b <;> first | rfl | (cases m <;> simp [pln] at hb)
  | n, m, .bl x, b, ha, hb => by cases b <;> first | rfl | (cases m <;> simp [pln] at hb)
  | n, m, .int x, b, ha, hb => by cases b <;> first | rfl | (cases m <;> simp [pln] at hb)
  | n, m, .str x, b, ha, hb => by cases b <;> first | rfl | (cases m <;> simp [pln] at hb)
  | n, m, .tup xs, b, ha, hb => by
    cases n with
    | zero => simp [pln] at ha
    | succ n =>
      simp only [pln] at ha
      cases b with
      | tup ys =>
        cases m with
        | zero => simp [pln] at hb
        | succ m => simp only [pln] at hb; simp only [toP, PyData.eqv, eqD]; exact eqvs_toP n m xs ys ha hb
      | _ => first | rfl | (cases m <;> simp [pln] at hb)
  | n, m, .lst xs, b, ha, hb => by
    cases n with
    | zero => simp [pln] at ha
    | succ n =>
      simp only [pln] at ha
      cases b with
      | lst ys =>
        cases m with
        | zero => simp [pln] at hb
        | succ m => simp only [pln] at hb; simp only [toP, PyData.eqv, eqD]; exact eqvs_toP n m xs ys ha hb
      | _ => first | rfl | (cases m <;> simp [pln] at hb)
  | n, m, .scr _, b, ha, _ => by cases n <;> simp [pln] at ha
  | n, m, .dct _ _, b, ha, _ => by cases n <;> simp [pln] at ha
  | n, m, .ty _, b, ha, _ => by cases n <;> simp [pln] at ha
  | n, m, .fn _, b, ha, _ => by cases n <;> simp [pln] at ha
  | n, m, .cell _, b, ha, _ => by cases n <;> simp [pln] at ha
  | n, m, .exc _ _, b, ha, _ => by cases n <;> simp [pln] at ha
theorem eqvs_toP : ∀ (n m : Nat) (a b : List D), a.all (pln n) = true → b.all (pln m) = true → PyData.eqvAll (toPs a) (toPs b) = eqDs a b
  | n, m, [], [], _, _ => by simp [toPs, PyData.eqvAll, eqDs]
  | n, m, [], y :: ys, _, _ => by simp [toPs, PyData.eqvAll, eqDs]
  | n, m, x :: xs, [], _, _ => by simp [toPs, PyData.eqvAll, eqDs]
  | n, m, x :: xs, y :: ys, ha, hb => by
    simp only [List.all_cons, Bool.and_eq_true] at ha hb
    simp only [toPs, PyData.eqvAll, eqDs, eqv_toP n m x y ha.1 hb.1, eqvs_toP n m xs ys ha.2 hb.2]
end
theorem Rp.shaped {v : V} {d : D} (r : Rp K mg γ Z H v d) (h : cmpOk d = true) : Dp K H v (toP d) ∧ SeqAt.shaped (toP d) = true := by
  obtain ⟨a, b, c⟩ := r.dp h
  refine ⟨a, ?_⟩
  unfold SeqAt.shaped
  rw [b]
  simp only [Bool.true_and, decide_eq_true_eq]
  omega
end
end Q

set_option Elab.async false
set_option linter.all false
set_option autoImplicit false
set_option maxRecDepth 100000
set_option maxHeartbeats 1000000
/-! QOp: operators, comparisons, subscripts. -/
namespace Q
open PySem PySem.Spec PyProof.Rows L2

theorem pe_weak {X : Cx} {e : Expr} {t t' : TE} (h : PE X e t) (k : ∀ σ H Q, t' σ H Q → t σ H Q) : PE X e t' := ⟨fun pins s σ H Q I hw => h.run pins s σ H Q I (k σ H Q hw)⟩
theorem pt_weak {X : Cx} {e : Expr} {t t' : TT} (h : PT X e t) (k : ∀ σ H Q, t' σ H Q → t σ H Q) : PT X e t' := ⟨fun pins s σ H Q I hw => h.run pins s σ H Q I (k σ H Q hw)⟩
theorem pa_weak {X : Cx} {e : List Expr} {t t' : TA} (h : PA X e t) (k : ∀ σ H Q, t' σ H Q → t σ H Q) : PA X e t' := ⟨fun pos pins s σ H Q I hw => h.run pos pins s σ H Q I (k σ H Q hw)⟩
theorem ps_weak {X : Cx} {e : Stmt} {t t' : TS} (h : PS X e t) (k : ∀ D σ H, t' D σ H → t D σ H) : PS X e t' := ⟨fun pins s σ H D I hw => h.run pins s σ H D I (k D σ H hw)⟩
theorem pss_weak {X : Cx} {e : List Stmt} {t t' : TS} (h : PSs X e t) (k : ∀ D σ H, t' D σ H → t D σ H) : PSs X e t' := ⟨fun pins s σ H D I hw => h.run pins s σ H D I (k D σ H hw)⟩

/-! ### tuple * 1 -/
theorem tuple_mul1 (l : Addr) (items : Array Value) (n : Nat) (dd : Option Addr) (sl : Array (Option Value)) (u : Tok) :
    Meets (Builtin.«tuple.__mul__» ⟨[.ref l, .int 1 u], []⟩) (fun _ R s => s.heap.get? l = some { cls := .type "tuple", dict := dd, data := .seq items n, slots := sl } ∧
      R (.ok (.ret (Value.ref l))) s) :=
  .of_wp fun prog w A R s h => by
    obtain ⟨hp, g, d, tk, os⟩ := s
    obtain ⟨hl, h⟩ := h
    have f1 := AutoSeq1.idx_int
    have c1 : (items.isEmpty || (1 : Int) == 1) = true := by simp
    wp_walk using wpAny_loadPart' hl
    repeat (first
      | (refine wpAny_ite_false (decide_eq_false (by decide)) ?_; wp_walk using wpAny_loadPart' hl)
      | (refine wpAny_ite_true (decide_eq_true c1) ?_; wp_walk using wpAny_loadPart' hl))
    all_goals first | exact ⟨_, rfl, h⟩ | skip

def rRep1 (K : PySem.W.Frag) : R2 := fun x y H Q => ∃ l xs, x = .ref l ∧ y = .int 1 ∧ SqT K H l xs ∧ Q (.ref l) H
theorem op_rep1 {X : Cx} : OpR X (binaryOp .Mult) (rRep1 X.K) := by
  intro pins s σ H x y v u Q I rx ry h
  obtain ⟨l, xs, rfl, rfl, hT, q⟩ := h
  cases rx
  obtain ⟨t, rfl⟩ := ry
  obtain ⟨its, r, ⟨⟨cls, dd, data, sl⟩, ho, hc, n, hd⟩, hs⟩ := I.tuple hT
  simp only at hc hd
  subst hc hd
  refine wpAny_binaryOp_repeat_ref (T := "tuple") (U := "int") (by decide) ⟨_, ho, rfl⟩ (fun s' => typeIs_int s' 1 t) noFill_tuple_mul F.fills_int_mul F.slot_int_rmul repeat_tuple F.slot_int_index.lookup
    (call_meets F.slot_int_rmul (typeIs_int s 1 t) F.entry_int_rmul (F.args_int_rmul_2 _ _) (int_rmul_tuple 1 t l its.toArray n dd sl)
      ⟨ho, rfl, ⟨_, ho, rfl⟩, call_meets F.slot_tuple_mul ⟨_, ho, rfl⟩ F.entry_tuple_mul (F.args_tuple_mul_2 _ _) (tuple_mul1 l its.toArray n dd sl t) ⟨ho, ?_⟩⟩)
  exact ⟨.ref l, H, I, rfl, q⟩
section
variable {X : Cx} {bs : Bs} {Xq : XQ}
abbrev tEx (X : Cx) (bs : Bs) (Xq : XQ) (m : Env → M D) : TE := tE X.K X.mg bs Xq m
/-- a binary operator by the rule of its values -/
theorem q_bin {op : Operator} {o : D → D → Option D} {r : R2} {a b : Expr} {pos : Pos} {ma mb : Env → M D} (ho : OpR X (binaryOp op) r)
    (hr : ∀ {σ : L2.St} {env : Env} {γ : List Addr} {Z : Addr → Prop} {H : Hp} {S : Sto} {x y : V} {d e f : D} {Q : VK}, Fr X.K X.mg bs σ env γ Z H S → Rp X.K X.mg γ Z H x d → Rp X.K X.mg γ Z H y e → o d e = some f →
      Pst X.K X.mg bs Xq (rD X.K X.mg) σ env Q γ Z H (.ok (f, S)) → r x y H Q)
    (ha : PE X a (tEx X bs Xq ma)) (hb : PE X b (tEx X bs Xq mb)) : PE X (.BinOp a op b pos) (tEx X bs Xq fun env => (ma env).bind fun x => (mb env).bind fun y => M.opt (o x y)) := by
  refine pe_weak (pe_op ho ha hb) fun σ H Q ⟨env, S, γ, Z, f, p⟩ => ⟨env, S, γ, Z, f, p.bind fun x d H1 γ1 Z1 S1 l1 f1 r1 p1 => ⟨env, S1, γ1, Z1, f1, p1.bind fun y e H2 γ2 Z2 S2 l2 f2 r2 p2 => ?_⟩⟩
  obtain ⟨g, e1, p3⟩ := p2.opt
  exact hr f2 (r1.mono f1.ok l2) r2 e1 p3
def rAddQ (K : PySem.W.Frag) : R2 := fun x y H Q => (rI0 (fun i j => .int (i + j)) x y H Q) ∨ ((∃ i j, x = .str i ∧ y = .str j ∧ i.length + j.length ≤ sizeLine ∧ Q (.str (i ++ j)) H) ∨ (rCat x y H Q ∨ rCatA K x y H Q))
theorem op_addQ : OpR X (binaryOp .Add) (rAddQ X.K) := op_add.or (op_add_str.or (op_cat.or op_catA))
section
variable {σ : L2.St} {env : Env} {γ : List Addr} {Z : Addr → Prop} {H : Hp} {S : Sto} {x y : V} {d e f : D} {Q : VK} {K : PySem.W.Frag} {mg : Str → Option Value}
theorem ent_add (F : Fr K mg bs σ env γ Z H S) (rx : Rp K mg γ Z H x d) (ry : Rp K mg γ Z H y e) (h : op2 .add d e = some f) (p : Pst K mg bs Xq (rD K mg) σ env Q γ Z H (.ok (f, S))) : rAddQ K x y H Q := by
  unfold op2 at h
  split at h <;> try contradiction
  all_goals (rename_i he; first | cases he | skip)
  · cases h; cases rx; cases ry; exact .inl ⟨_, _, rfl, rfl, p.here F (.int _)⟩
  · split at h <;> cases h
    cases rx; cases ry
    exact .inr (.inl ⟨_, _, rfl, rfl, by rw [← lim_eq]; assumption, p.here F (.str _)⟩)
  · split at h <;> cases h
    rename_i hz
    obtain ⟨a, vs, rfl, _, h1, _, r1⟩ := rx.lst'
    obtain ⟨b, ws, rfl, _, h2, _, r2⟩ := ry.lst'
    refine .inr (.inr (.inl ⟨a, b, vs, ws, rfl, rfl, h1, h2, by rw [r1.len, r2.len, ← lim_eq]; exact hz, fun q hq => p.newLst F (r1.append r2) (by rw [List.length_append]; exact hz) hq⟩))
  · split at h <;> cases h
    rename_i hz
    obtain ⟨a, vs, rfl, h1, r1⟩ := rx.sqT
    obtain ⟨b, ws, rfl, h2, r2⟩ := ry.sqT
    refine .inr (.inr (.inr ⟨a, b, vs, ws, rfl, rfl, h1, h2, by rw [r1.len, r2.len, ← lim_eq]; exact hz, fun z => ?_, fun _ z => ?_, fun _ _ q hq => p.newTup F (r1.append r2) (by rw [List.length_append]; exact hz) hq⟩))
    · subst z
      cases r1
      exact p.here F ry
    · subst z
      cases r2
      rw [List.append_nil] at p
      exact p.here F rx
def rMulQ (K : PySem.W.Frag) : R2 := fun x y H Q => (rI CMul (fun i j => .int (i * j)) x y H Q) ∨ (rRep x y H Q ∨ (rRepT K x y H Q ∨ rRep1 K x y H Q))
theorem op_mulQ : OpR X (binaryOp .Mult) (rMulQ X.K) := op_mul.or (op_rep.or (op_repT.or op_rep1))
theorem small_ok {i : Int} (h : small i = true) : -(2 ^ 64) < i ∧ i < 2 ^ 64 := by
  simpa [small] using h
theorem rep_len {α : Type} (k : Nat) (l : List α) : (List.replicate k l).flatten.length = k * l.length := by simp
theorem ent_mul (F : Fr K mg bs σ env γ Z H S) (rx : Rp K mg γ Z H x d) (ry : Rp K mg γ Z H y e) (h : op2 .mul d e = some f) (p : Pst K mg bs Xq (rD K mg) σ env Q γ Z H (.ok (f, S))) : rMulQ K x y H Q := by
  unfold op2 at h
  split at h <;> try contradiction
  all_goals (rename_i he; first | cases he | skip)
  · split at h <;> cases h
    rename_i hs
    cases rx; cases ry
    refine .inl ⟨_, _, rfl, rfl, ?_, p.here F (.int _)⟩
    rcases Bool.or_eq_true_iff.mp hs with q | q
    · exact .inl (small_ok q)
    · exact .inr (small_ok q)
  · split at h <;> cases h
    rename_i k hs
    obtain ⟨h1, h2, h3⟩ := hs
    obtain ⟨a, vs, rfl, _, g1, _, r1⟩ := rx.lst'
    cases ry with
    | int _ =>
      have hb : k.toNat * vs.length ≤ 1000 * 1000 := Nat.mul_le_mul (by omega) (by rw [r1.len]; exact h1)
      refine .inr (.inl ⟨a, k, vs, rfl, rfl, g1, by omega, by omega, by rw [sizeLine_eq, Nat.mul_comm]; omega, fun q hq => p.newLst F (r1.rep _) (by
        rw [rep_len, ← r1.len]; show _ ≤ 16777216; omega) hq⟩)
  · split at h <;> cases h
    rename_i ds k hs
    obtain ⟨h0, h1, h2, h3⟩ := hs
    obtain ⟨a, vs, rfl, g1, r1⟩ := rx.sqT
    cases ry with
    | int _ =>
      have hv : vs ≠ [] := fun z => h0 (by
        have := r1.len
        rw [z] at this
        exact List.eq_nil_of_length_eq_zero this.symm)
      by_cases hk : k = 1
      · subst hk
        refine .inr (.inr (.inr ⟨a, vs, rfl, rfl, g1, ?_⟩))
        have e1 : (List.replicate (1 : Int).toNat ds).flatten = ds := by simp
        rw [e1] at p
        exact p.here F rx
      · have hb : k.toNat * vs.length ≤ 1000 * 1000 := Nat.mul_le_mul (by omega) (by rw [r1.len]; exact h1)
        exact .inr (.inr (.inl ⟨a, k, vs, rfl, rfl, g1, hv, by omega, h3, by rw [r1.len]; exact h1, fun q hq => p.newTup F (r1.rep _) (by
          rw [rep_len, ← r1.len]; show _ ≤ 16777216; omega) hq⟩))
theorem ent_sub (F : Fr K mg bs σ env γ Z H S) (rx : Rp K mg γ Z H x d) (ry : Rp K mg γ Z H y e) (h : op2 .sub d e = some f) (p : Pst K mg bs Xq (rD K mg) σ env Q γ Z H (.ok (f, S))) : rI0 (fun i j => .int (i - j)) x y H Q := by
  unfold op2 at h
  split at h <;> try contradiction
  all_goals (rename_i he; first | cases he | skip)
  cases h; cases rx; cases ry
  exact ⟨_, _, rfl, rfl, p.here F (.int _)⟩
theorem ent_fdiv (F : Fr K mg bs σ env γ Z H S) (rx : Rp K mg γ Z H x d) (ry : Rp K mg γ Z H y e) (h : op2 .fdiv d e = some f) (p : Pst K mg bs Xq (rD K mg) σ env Q γ Z H (.ok (f, S))) : rI CDiv (fun i j => .int (i / j)) x y H Q := by
  unfold op2 at h
  split at h <;> try contradiction
  all_goals (rename_i he; first | cases he | skip)
  split at h <;> cases h
  cases rx; cases ry
  exact ⟨_, _, rfl, rfl, ⟨by omega, by omega⟩, p.here F (.int _)⟩
theorem ent_mod (F : Fr K mg bs σ env γ Z H S) (rx : Rp K mg γ Z H x d) (ry : Rp K mg γ Z H y e) (h : op2 .mod d e = some f) (p : Pst K mg bs Xq (rD K mg) σ env Q γ Z H (.ok (f, S))) : rI (fun _ j => 0 < j) (fun i j => .int (i % j)) x y H Q := by
  unfold op2 at h
  split at h <;> try contradiction
  all_goals (rename_i he; first | cases he | skip)
  split at h <;> cases h
  cases rx; cases ry
  exact ⟨_, _, rfl, rfl, by assumption, p.here F (.int _)⟩
theorem ent_pow (F : Fr K mg bs σ env γ Z H S) (rx : Rp K mg γ Z H x d) (ry : Rp K mg γ Z H y e) (h : op2 .pow d e = some f) (p : Pst K mg bs Xq (rD K mg) σ env Q γ Z H (.ok (f, S))) : rI CPow (fun i j => .int (i ^ j.toNat)) x y H Q := by
  unfold op2 at h
  split at h <;> try contradiction
  all_goals (rename_i he; first | cases he | skip)
  split at h <;> cases h
  rename_i hs
  cases rx; cases ry
  refine ⟨_, _, rfl, rfl, ⟨hs.1, hs.2.1, ?_⟩, p.here F (.int _)⟩
  have := small_ok hs.2.2
  omega
end
def opOf : Op2 → Operator
  | .add => .Add
  | .sub => .Sub
  | .mul => .Mult
  | .fdiv => .FloorDiv
  | .mod => .Mod
  | .pow => .Pow
theorem q_op2 (op : Op2) {a b : Expr} {pos : Pos} {ma mb : Env → M D} (ha : PE X a (tEx X bs Xq ma)) (hb : PE X b (tEx X bs Xq mb)) :
    PE X (.BinOp a (opOf op) b pos) (tEx X bs Xq fun env => (ma env).bind fun x => (mb env).bind fun y => M.opt (op2 op x y)) := by
  cases op with
  | add => exact q_bin op_addQ (fun F r1 r2 h p => ent_add F r1 r2 h p) ha hb
  | sub => exact q_bin op_sub (fun F r1 r2 h p => ent_sub F r1 r2 h p) ha hb
  | mul => exact q_bin op_mulQ (fun F r1 r2 h p => ent_mul F r1 r2 h p) ha hb
  | fdiv => exact q_bin op_fdiv (fun F r1 r2 h p => ent_fdiv F r1 r2 h p) ha hb
  | mod => exact q_bin op_mod (fun F r1 r2 h p => ent_mod F r1 r2 h p) ha hb
  | pow => exact q_bin op_pow (fun F r1 r2 h p => ent_pow F r1 r2 h p) ha hb
end
end Q

set_option Elab.async false
set_option linter.all false
set_option autoImplicit false
set_option maxRecDepth 100000
set_option maxHeartbeats 1000000
/-! QExp: names, constants, tests, comparisons, subscripts. -/
namespace Q
open PySem PySem.Spec PyProof.Rows L2

/-! ### keys -/
theorem keyd_eq (a b : Key) : eqD (keyd a) (keyd b) = decide (a = b) := by
  cases a <;> cases b
  · simp only [keyd, eqD, key_ll]
  · simp only [keyd, eqD, key_lr]
  · simp only [keyd, eqD, key_rl]
  · simp only [keyd, eqD, key_rr]
    rw [Bool.eq_iff_iff]; simp
theorem keyds_eq : ∀ (a b : List Key), eqDs (a.map keyd) (b.map keyd) = decide (a = b)
  | [], [] => by simp [eqDs]
  | [], _ :: _ => by simp [eqDs]
  | _ :: _, [] => by simp [eqDs]
  | x :: xs, y :: ys => by
    simp only [List.map_cons, eqDs, keyd_eq, keyds_eq xs ys]
    rw [Bool.eq_iff_iff]; simp
theorem keyt_eq (a b : List Key) : eqD (.tup (a.map keyd)) (.tup (b.map keyd)) = decide (a = b) := by simp only [eqD, keyds_eq]
section
variable {K : PySem.W.Frag} {mg : Str → Option Value} {γ : List Addr} {Z : Addr → Prop} {H : Hp} {S : Sto}
theorem ints_keys : ∀ (ds : List D), ds.all isInt = true → ∃ k : List Key, ds = k.map keyd
  | [], _ => ⟨[], rfl⟩
  | .int i :: ds, h => by
    obtain ⟨k, e⟩ := ints_keys ds (by simp only [List.all_cons, Bool.and_eq_true] at h; exact h.2)
    exact ⟨.inl i :: k, by simp [keyd, e]⟩
  | .non :: _, h => by simp [isInt] at h
  | .bl _ :: _, h => by simp [isInt] at h
  | .str _ :: _, h => by simp [isInt] at h
  | .tup _ :: _, h => by simp [isInt] at h
  | .lst _ :: _, h => by simp [isInt] at h
  | .scr _ :: _, h => by simp [isInt] at h
  | .dct _ _ :: _, h => by simp [isInt] at h
  | .ty _ :: _, h => by simp [isInt] at h
  | .fn _ :: _, h => by simp [isInt] at h
  | .cell _ :: _, h => by simp [isInt] at h
  | .exc _ _ :: _, h => by simp [isInt] at h
theorem RpL.keys : ∀ {vs : List V} (k : List Key), RpL K mg γ Z H vs (k.map keyd) → vs = k.map kV
  | _, [], .nil => rfl
  | _, .inl i :: k, .cons r t => by
    have e := Rp.int' (i := i) r
    rw [e, RpL.keys k t]; rfl
  | _, .inr x :: k, .cons r t => by
    have e := Rp.str' (i := x) r
    rw [e, RpL.keys k t]; rfl
/-- what a key is -/
theorem Rp.keyK {v : V} {d : D} (h : keyOk false d = true) (r : Rp K mg γ Z H v d) : ∃ k : Key, v = kV k ∧ d = keyd k := by
  cases r with
  | int i => exact ⟨.inl i, rfl, rfl⟩
  | str x => exact ⟨.inr x, rfl, rfl⟩
  | _ => simp [keyOk] at h
theorem Rp.keyT {v : V} {d : D} (h : keyOk true d = true) (r : Rp K mg γ Z H v d) : ∃ (b : Addr) (k : List Key), v = .ref b ∧ H b = some (.tup (k.map kV)) ∧ d = .tup (k.map keyd) := by
  cases d with
  | tup ds =>
    cases ds with
    | nil => simp [keyOk] at h
    | cons d ds =>
      simp only [keyOk] at h
      obtain ⟨k, e⟩ := ints_keys _ h
      obtain ⟨a, vs, e1, e2, e3⟩ := r.tupI (by simp only [List.all_cons, Bool.and_eq_true] at h; exact h.1)
      rw [e] at e3
      rw [e3.keys k] at e2
      exact ⟨a, k, e1, e2, by rw [e]⟩
  | _ => simp [keyOk] at h
theorem look_rel {κ : Type} [DecidableEq κ] (f : κ → D) (hf : ∀ a b, eqD (f a) (f b) = decide (a = b)) (k : κ) : ∀ (kvs : List (κ × V)) (es : List (D × D)), es.map (·.1) = kvs.map (fun p => f p.1) → RpL K mg γ Z H (kvs.map (·.2)) (es.map (·.2)) →
    (∃ v d, valV kvs k = some v ∧ lookD es (f k) = some d ∧ Rp K mg γ Z H v d) ∨ (valV kvs k = none ∧ lookD es (f k) = none)
  | [], [], _, _ => .inr ⟨rfl, rfl⟩
  | [], _ :: _, e, _ => by simp at e
  | _ :: _, [], e, _ => by simp at e
  | (a, v) :: kvs, (b, d) :: es, e, r => by
    simp only [List.map_cons, List.cons.injEq] at e
    obtain ⟨e1, e2⟩ := e
    cases r with
    | cons r t =>
      by_cases h : a = k
      · refine .inl ⟨v, d, ?_, ?_, r⟩
        · unfold valV; simp [h]
        · unfold lookD
          rw [List.find?_cons]
          simp only [e1, hf, h, decide_true, Option.map_some]
      · rcases look_rel f hf k kvs es e2 t with ⟨v', d', h1, h2, h3⟩ | ⟨h1, h2⟩
        · refine .inl ⟨v', d', ?_, ?_, h3⟩
          · unfold valV at h1 ⊢; rw [List.find?_cons]; simp only [h, decide_false]; exact h1
          · unfold lookD at h2 ⊢; rw [List.find?_cons]; simp only [e1, hf, h, decide_false]; exact h2
        · refine .inr ⟨?_, ?_⟩
          · unfold valV at h1 ⊢; rw [List.find?_cons]; simp only [h, decide_false]; exact h1
          · unfold lookD at h2 ⊢; rw [List.find?_cons]; simp only [e1, hf, h, decide_false]; exact h2
/-- a dict at a, of any standing -/
def DctAt (K : PySem.W.Frag) (mg : Str → Option Value) (γ : List Addr) (Z : Addr → Prop) (H : Hp) (a : Addr) (t : Bool) (es : List (D × D)) : Prop :=
  (t = false ∧ ∃ kvs : List (Key × V), Rd H a (.dK kvs) ∧ es.map (·.1) = kvs.map (fun p => keyd p.1) ∧ RpL K mg γ Z H (kvs.map (·.2)) (es.map (·.2))) ∨
  (t = true ∧ ∃ kvs : List (List Key × V), Rd H a (.dT kvs) ∧ es.map (·.1) = kvs.map (fun p => D.tup (p.1.map keyd)) ∧ (∀ p ∈ kvs, p.1.length ≤ LIM) ∧ RpL K mg γ Z H (kvs.map (·.2)) (es.map (·.2)))
theorem Rp.dct' {v : V} {t : Bool} {es : List (D × D)} (r : Rp K mg γ Z H v (.dct t es)) : ∃ a, v = .ref a ∧ Z a ∧ DctAt K mg γ Z H a t es := by
  cases r with
  | dctK z h y e r => exact ⟨_, rfl, z, .inl ⟨rfl, _, .inr ⟨_, h⟩, e, r⟩⟩
  | dctT z h y e q r => exact ⟨_, rfl, z, .inr ⟨rfl, _, .inr ⟨_, h⟩, e, q, r⟩⟩
theorem Rp.dlen {v : V} {t : Bool} {es : List (D × D)} (r : Rp K mg γ Z H v (.dct t es)) : es.length ≤ LIM := by
  cases r with
  | dctK z h y e r => exact y
  | dctT z h y e q r => exact y
/-- what a dict holds at a key -/
theorem DctAt.get {a : Addr} {t : Bool} {es : List (D × D)} {y : V} {k : D} (h : DctAt K mg γ Z H a t es) (hk : keyOk t k = true) (ry : Rp K mg γ Z H y k) :
    (∃ v d, DGet H a y (some v) ∧ lookD es k = some d ∧ Rp K mg γ Z H v d) ∨ (DGet H a y none ∧ lookD es k = none) := by
  rcases h with ⟨rfl, kvs, h1, h2, h3⟩ | ⟨rfl, kvs, h1, h2, _, h3⟩
  · obtain ⟨q, rfl, rfl⟩ := ry.keyK hk
    rcases look_rel keyd keyd_eq q kvs es h2 h3 with ⟨v, d, e1, e2, e3⟩ | ⟨e1, e2⟩
    · exact .inl ⟨v, d, .inl ⟨kvs, q, h1, rfl, e1.symm⟩, e2, e3⟩
    · exact .inr ⟨.inl ⟨kvs, q, h1, rfl, e1.symm⟩, e2⟩
  · obtain ⟨b, q, rfl, hb, rfl⟩ := ry.keyT hk
    rcases look_rel (fun k => D.tup (k.map keyd)) keyt_eq q kvs es h2 h3 with ⟨v, d, e1, e2, e3⟩ | ⟨e1, e2⟩
    · exact .inl ⟨v, d, .inr ⟨kvs, q, b, h1, rfl, hb, e1.symm⟩, e2, e3⟩
    · exact .inr ⟨.inr ⟨kvs, q, b, h1, rfl, hb, e1.symm⟩, e2⟩
end
section
variable {X : Cx} {bs : Bs} {Xq : XQ}
def rDIn (K : PySem.W.Frag) (neg : Bool) : R2 := fun y x H Q => ∃ a o, x = .ref a ∧ DGet H a y o ∧ Q (.bl (if neg then !o.isSome else o.isSome)) H
theorem op_dIn (hu : X.A.units + 1 < cLine) : OpR X (compareOp .In) (rDIn X.K false) := by
  intro pins s σ H y x v u Q I ry rx h
  obtain ⟨a, o, rfl, g, q⟩ := h
  cases rx
  exact d_in hu I g ry fun s' I' => ⟨.bl o.isSome, H, I', rfl, q⟩
theorem op_dNotIn (hu : X.A.units + 1 < cLine) : OpR X (compareOp .NotIn) (rDIn X.K true) := by
  intro pins s σ H y x v u Q I ry rx h
  obtain ⟨a, o, rfl, g, q⟩ := h
  cases rx
  exact d_notIn hu I g ry fun s' I' => ⟨.bl (!o.isSome), H, I', rfl, q⟩
def rIxD (K : PySem.W.Frag) : R2 := fun x y H Q => ∃ a v, x = .ref a ∧ DGet H a y (some v) ∧ Q v H
theorem ix_dct (hu : X.A.units + 1 < cLine) : IxR X (rIxD X.K) := by
  intro value slice pins s σ H x y v u Q I rx ry h hs
  obtain ⟨a, z, rfl, g, q⟩ := h
  cases rx
  exact tail_any (dict_typeIs I g) PySem.F.slot_dict_getitem.lookup (d_getItem hu I g ry fun w' s' I' rw' => ⟨z, H, I', rw', q⟩) hs
/-! ### comparisons -/
def cpOf : Cp → CmpOp
  | .eq => .Eq
  | .ne => .NotEq
  | .lt => .Lt
  | .le => .LtE
  | .gt => .Gt
  | .ge => .GtE
  | .isin => .In
  | .notin => .NotIn
  | .isN => .Is
  | .nsN => .IsNot
def rInQ (K : PySem.W.Frag) (neg : Bool) : R2 := fun x y H Q => rIn K neg x y H Q ∨ ((if neg then rNotInD K x y H Q else rInD K x y H Q) ∨ rDIn K neg x y H Q)
def rCp (K : PySem.W.Frag) : Cp → R2
  | .eq => rEqD K
  | .ne => rNeD K
  | .lt => fun x y H Q => rI0 (fun i j => .bl (decide (i < j))) x y H Q ∨ rLtT K x y H Q
  | .le => rI0 fun i j => .bl (decide (i ≤ j))
  | .gt => rI0 fun i j => .bl (decide (j < i))
  | .ge => rI0 fun i j => .bl (decide (j ≤ i))
  | .isin => rInQ K false
  | .notin => rInQ K true
  | .isN => fun x y H Q => (y = .non ∧ Q (.bl (decide (x = .non))) H) ∨ rIsB x y H Q
  | .nsN => fun x y H Q => (y = .non ∧ Q (.bl (!decide (x = .non))) H) ∨ rNotB x y H Q
theorem op_cp (hu : X.A.units + 65 < cLine) (c : Cp) : OpR X (compareOp (cpOf c)) (rCp X.K c) := by
  cases c with
  | eq => exact op_eqD (by omega)
  | ne => exact op_neD (by omega)
  | lt => exact op_lt.or (op_ltT (by omega))
  | le => exact op_le
  | gt => exact op_gt
  | ge => exact op_ge
  | isin => exact op_in_seq.or ((op_inD hu).or (op_dIn (by omega)))
  | notin => exact op_notIn_seq.or ((op_notInD hu).or (op_dNotIn (by omega)))
  | isN => exact op_isN.or op_isBl
  | nsN => exact op_notN.or op_notBl
section
variable {γ : List Addr} {Z : Addr → Prop} {H : Hp} {S : Sto} {x y : V} {d e f : D} {Q : VK} {K : PySem.W.Frag} {mg : Str → Option Value}
theorem flat_of (r : Rp K mg γ Z H x d) (h : flatD d = true) : flatV x = true := by cases r <;> first | rfl | simp [flatD] at h
theorem eqV_of {x y : V} {d e : D} (rx : Rp K mg γ Z H x d) (ry : Rp K mg γ Z H y e) (hx : flatD d = true) (hy : flatD e = true) : eqV x y = eqD d e := by
  cases rx <;> first | (simp [flatD] at hx; done) | skip
  all_goals (cases ry <;> first | (simp [flatD] at hy; done) | rfl | skip)
theorem inV_of (rx : Rp K mg γ Z H x d) (hx : flatD d = true) : ∀ {vs : List V} {ds : List D}, RpL K mg γ Z H vs ds → ds.all flatD = true → inV x vs = (ds.any fun y => eqD y d) ∧ vs.all flatV = true
  | _, _, .nil, _ => ⟨rfl, rfl⟩
  | _, _, .cons r t, h => by
    simp only [List.all_cons, Bool.and_eq_true] at h
    obtain ⟨a, b⟩ := inV_of rx hx t h.2
    unfold inV at a ⊢
    rw [List.any_cons, List.any_cons, a, eqV_of r rx h.1 hx, List.all_cons, flat_of r h.1, b]
    exact ⟨rfl, rfl⟩
theorem any_toPs (n m : Nat) (hd : pln m d = true) : ∀ ds : List D, ds.all (pln n) = true → ((toPs ds).any fun z => PyData.eqv z (toP d)) = ds.any fun y => eqD y d
  | [], _ => rfl
  | z :: zs, h => by
    simp only [List.all_cons, Bool.and_eq_true] at h
    simp only [toPs, List.any_cons, eqv_toP n m z d h.1 hd, any_toPs n m hd zs h.2]
theorem RpL.intsD : ∀ {vs : List V} {ds : List D} {is : List Int}, RpL K mg γ Z H vs ds → _root_.Q.intsD ds = some is → vs = is.map V.int
  | _, _, _, .nil, h => by cases h; rfl
  | _, d :: ds, is, .cons r t, h => by
    cases d <;> first | (simp [_root_.Q.intsD] at h; done) | skip
    simp only [_root_.Q.intsD] at h
    cases e : _root_.Q.intsD ds with
    | none => rw [e] at h; cases h
    | some js =>
      rw [e] at h
      cases h
      cases r
      rw [RpL.intsD t e]; rfl
/-- the rule of a comparison, by what the values are -/
theorem ent_cp (c : Cp) {k : Bool} (rx : Rp K mg γ Z H x d) (ry : Rp K mg γ Z H y e) (h : cmp2 c d e = some k) (q : Q (.bl k) H) : rCp K c x y H Q := by
  cases c with
  | eq =>
    simp only [cmp2] at h
    split at h <;> cases h
    rename_i hc
    simp only [Bool.and_eq_true] at hc
    obtain ⟨a1, a2⟩ := rx.shaped hc.1
    obtain ⟨b1, b2⟩ := ry.shaped hc.2
    exact ⟨_, _, a1, b1, a2, b2, by rw [eqv_toP 60 60 d e hc.1 hc.2]; exact q⟩
  | ne =>
    simp only [cmp2] at h
    split at h <;> cases h
    rename_i hc
    simp only [Bool.and_eq_true] at hc
    obtain ⟨a1, a2⟩ := rx.shaped hc.1
    obtain ⟨b1, b2⟩ := ry.shaped hc.2
    exact ⟨_, _, a1, b1, a2, b2, by rw [eqv_toP 60 60 d e hc.1 hc.2]; exact q⟩
  | lt => cases d <;> first | (simp [cmp2] at h; done) | skip
          · cases e <;> first | (simp [cmp2] at h; done) | skip
            cases rx; cases ry; cases h; exact .inl ⟨_, _, rfl, rfl, q⟩
          · cases e <;> first | (simp [cmp2] at h; done) | skip
            rename_i da db
            simp only [cmp2] at h
            cases ha : intsD da with
            | none => rw [ha] at h; cases h
            | some is =>
            cases hb : intsD db with
            | none => rw [ha, hb] at h; cases h
            | some js =>
            rw [ha, hb] at h
            cases h
            obtain ⟨a, vs, rfl, h1, r1⟩ := rx.sqT
            obtain ⟨b, ws, rfl, h2, r2⟩ := ry.sqT
            have e1 := RpL.intsD r1 ha
            have e2 := RpL.intsD r2 hb
            subst e1 e2
            exact .inr ⟨a, b, is, js, rfl, rfl, h1, h2, q⟩
  | le => cases d <;> first | (simp [cmp2] at h; done) | skip
          cases e <;> first | (simp [cmp2] at h; done) | skip
          cases rx; cases ry; cases h; exact ⟨_, _, rfl, rfl, q⟩
  | gt => cases d <;> first | (simp [cmp2] at h; done) | skip
          cases e <;> first | (simp [cmp2] at h; done) | skip
          cases rx; cases ry; cases h; exact ⟨_, _, rfl, rfl, q⟩
  | ge => cases d <;> first | (simp [cmp2] at h; done) | skip
          cases e <;> first | (simp [cmp2] at h; done) | skip
          cases rx; cases ry; cases h; exact ⟨_, _, rfl, rfl, q⟩
  | isN => cases e <;> first | (cases d <;> simp [cmp2] at h; done) | skip
           · cases ry
             simp only [cmp2, Option.some.injEq] at h
             refine .inl ⟨rfl, ?_⟩
             have e1 : decide (x = V.non) = k := by subst h; cases rx <;> simp
             rw [e1]; exact q
           · cases d <;> first | (simp [cmp2] at h; done) | skip
             cases rx; cases ry; cases h
             exact .inr ⟨_, _, rfl, rfl, q⟩
  | nsN => cases e <;> first | (cases d <;> simp [cmp2] at h; done) | skip
           · cases ry
             simp only [cmp2, Option.some.injEq] at h
             refine .inl ⟨rfl, ?_⟩
             have e1 : (!decide (x = V.non)) = k := by subst h; cases rx <;> simp
             rw [e1]; exact q
           · cases d <;> first | (simp [cmp2] at h; done) | skip
             cases rx; cases ry; cases h
             exact .inr ⟨_, _, rfl, rfl, q⟩
  | isin =>
    simp only [cmp2] at h
    cases e <;> first | (simp [inD] at h; done) | skip
    · simp only [inD] at h
      split at h <;> cases h
      rename_i hc
      simp only [Bool.and_eq_true] at hc
      obtain ⟨a, vs, rfl, h1, r1⟩ := ry.sqT
      obtain ⟨e1, e2⟩ := inV_of rx hc.1 r1 hc.2
      exact .inl ⟨a, vs, rfl, .inr h1, flat_of rx hc.1, e2, by simp only [Bool.false_eq_true, if_false]; rw [e1]; exact q⟩
    · simp only [inD] at h
      split at h <;> cases h
      rename_i ds hc
      simp only [Bool.and_eq_true] at hc
      obtain ⟨a1, a2⟩ := rx.shaped hc.1
      obtain ⟨b1, b2⟩ := ry.shaped (d := .lst ds) (by unfold cmpOk; simp only [pln]; exact hc.2)
      refine .inr (.inl ?_)
      show rInD K x y H Q
      simp only [toP] at b1 b2
      exact ⟨_, _, a1, b1, a2, b2, by rw [any_toPs 59 60 hc.1 ds hc.2]; exact q⟩
    · simp only [inD] at h
      split at h <;> cases h
      rename_i hc
      obtain ⟨a, rfl, _, h1⟩ := ry.dct'
      refine .inr (.inr ?_)
      rcases h1.get hc rx with ⟨v, d', g, e1, _⟩ | ⟨g, e1⟩
      · exact ⟨a, _, rfl, g, by simp only [e1, Option.isSome_some] at q; exact q⟩
      · exact ⟨a, _, rfl, g, by simp only [e1, Option.isSome_none] at q; exact q⟩
  | notin =>
    simp only [cmp2] at h
    cases e <;> first | (simp [inD] at h; done) | skip
    · simp only [inD] at h
      split at h <;> cases h
      rename_i hc
      simp only [Bool.and_eq_true] at hc
      obtain ⟨a, vs, rfl, h1, r1⟩ := ry.sqT
      obtain ⟨e1, e2⟩ := inV_of rx hc.1 r1 hc.2
      exact .inl ⟨a, vs, rfl, .inr h1, flat_of rx hc.1, e2, by simp only [if_true]; rw [e1]; exact q⟩
    · simp only [inD] at h
      split at h <;> cases h
      rename_i ds hc
      simp only [Bool.and_eq_true] at hc
      obtain ⟨a1, a2⟩ := rx.shaped hc.1
      obtain ⟨b1, b2⟩ := ry.shaped (d := .lst ds) (by unfold cmpOk; simp only [pln]; exact hc.2)
      refine .inr (.inl ?_)
      show rNotInD K x y H Q
      simp only [toP] at b1 b2
      exact ⟨_, _, a1, b1, a2, b2, by rw [any_toPs 59 60 hc.1 ds hc.2]; exact q⟩
    · simp only [inD] at h
      split at h <;> cases h
      rename_i hc
      obtain ⟨a, rfl, _, h1⟩ := ry.dct'
      refine .inr (.inr ?_)
      rcases h1.get hc rx with ⟨v, d', g, e1, _⟩ | ⟨g, e1⟩
      · exact ⟨a, _, rfl, g, by simp only [e1, Option.isSome_some] at q; exact q⟩
      · exact ⟨a, _, rfl, g, by simp only [e1, Option.isSome_none] at q; exact q⟩
end
end
end Q

set_option Elab.async false
set_option linter.all false
set_option autoImplicit false
set_option maxRecDepth 100000
set_option maxHeartbeats 1000000
/-! QExp2: expressions as readings. -/
namespace Q
open PySem PySem.Spec PyProof.Rows L2

theorem M.bind_assoc {α β γ : Type} (m : M α) (f : α → M β) (g : β → M γ) : (m.bind f).bind g = m.bind fun a => (f a).bind g := by
  funext S
  show (Res.bind (Res.bind (m S) _) _) = Res.bind (m S) _
  cases m S <;> rfl
theorem M.ret_bind {α β : Type} (a : α) (f : α → M β) : (M.ret a).bind f = f a := rfl
section
variable {X : Cx} {bs : Bs} {Xq : XQ} {a b c : Expr} {ma mb mc : Env → M D} {pos : Pos}
abbrev tBx (X : Cx) (bs : Bs) (Xq : XQ) (m : Env → M Bool) : TT := tBs X.K X.mg bs Xq m
abbrev tAx (X : Cx) (bs : Bs) (Xq : XQ) (m : Env → M (List D)) : TA := tAs X.K X.mg bs Xq m
/-- the truth of a value -/
abbrev mB (m : Env → M D) : Env → M Bool := fun env => (m env).bind fun d => M.opt (bD d)
theorem bD_some {d : D} {k : Bool} (h : bD d = some k) : d = .bl k := by cases d <;> first | (simp [bD] at h; done) | (simp only [bD, Option.some.injEq] at h; rw [h])
theorem iD_some {d : D} {k : Int} (h : iD d = some k) : d = .int k := by cases d <;> first | (simp [iD] at h; done) | (simp only [iD, Option.some.injEq] at h; rw [h])

/-! ### names, constants -/
theorem q_loc {i : Nat} (h : PE X a (tVar i)) : PE X a (tEx X bs Xq fun env => M.opt (getL env i)) := by
  refine pe_weak h fun σ H Q ⟨env, S, γ, Z, f, p⟩ => ?_
  obtain ⟨d, e, p⟩ := p.opt
  have e' : slot env i = .val d := by
    unfold getL at e
    split at e <;> cases e
    assumption
  obtain ⟨v, h1, h2⟩ := f.val i d e'
  exact ⟨v, h1, p.here f h2⟩
theorem q_lit {v : V} {d : D} (h : PE X a (tC v)) (r : ∀ (γ : List Addr) (Z : Addr → Prop) (H : Hp), Rp X.K X.mg γ Z H v d) : PE X a (tEx X bs Xq fun _ => M.ret d) :=
  pe_weak h fun σ H Q ⟨env, S, γ, Z, f, p⟩ => Pst.here (a := d) p f (r γ Z H)
theorem q_neg (ha : PE X a (tEx X bs Xq ma)) : PE X (.UnaryOp .USub a pos) (tEx X bs Xq fun env => (ma env).bind fun d => M.opt ((iD d).map fun i => .int (-i))) := by
  refine pe_weak (pe_un un_neg ha) fun σ H Q ⟨env, S, γ, Z, f, p⟩ => ⟨env, S, γ, Z, f, p.bind fun x d H1 γ1 Z1 S1 l1 f1 r1 p1 => ?_⟩
  obtain ⟨g, e, p2⟩ := p1.opt
  cases hd : iD d with
  | none => rw [hd] at e; cases e
  | some i =>
    rw [hd] at e
    cases e
    have := iD_some hd
    subst this
    cases r1
    exact ⟨_, rfl, p2.here f1 (.int _)⟩
/-! ### comparisons -/
theorem q_cmp (cp : Cp) (hu : X.A.units + 65 < cLine) (ha : PE X a (tEx X bs Xq ma)) (hb : PE X b (tEx X bs Xq mb)) (hm : behindInMarks (cpOf cp) b = false) :
    PE X (.Compare a [cpOf cp] [b] pos) (tEx X bs Xq fun env => (ma env).bind fun x => (mb env).bind fun y => M.opt ((cmp2 cp x y).map .bl)) := by
  refine pe_weak (pe_cmpR (op_cp hu cp) ha hb hm) fun σ H Q ⟨env, S, γ, Z, f, p⟩ => ⟨env, S, γ, Z, f, p.bind fun x d H1 γ1 Z1 S1 l1 f1 r1 p1 => ⟨env, S1, γ1, Z1, f1, p1.bind fun y e H2 γ2 Z2 S2 l2 f2 r2 p2 => ?_⟩⟩
  obtain ⟨g, e1, p3⟩ := p2.opt
  cases hk : cmp2 cp d e with
  | none => rw [hk] at e1; cases e1
  | some k =>
    rw [hk] at e1
    cases e1
    exact ent_cp cp (r1.mono f1.ok l2) r2 hk (p3.here f2 (.bl k))
theorem qt_cmp (cp : Cp) (hu : X.A.units + 65 < cLine) (ha : PE X a (tEx X bs Xq ma)) (hb : PE X b (tEx X bs Xq mb)) (hm : behindInMarks (cpOf cp) b = false) :
    PT X (.Compare a [cpOf cp] [b] pos) (tBx X bs Xq (mB fun env => (ma env).bind fun x => (mb env).bind fun y => M.opt ((cmp2 cp x y).map .bl))) := by
  refine pt_weak (pt_cmpR (op_cp hu cp) ha hb hm) fun σ H Q ⟨env, S, γ, Z, f, p⟩ => ?_
  simp only [mB, M.bind_assoc] at p
  refine ⟨env, S, γ, Z, f, p.bind fun x d H1 γ1 Z1 S1 l1 f1 r1 p1 => ⟨env, S1, γ1, Z1, f1, p1.bind fun y e H2 γ2 Z2 S2 l2 f2 r2 p2 => ?_⟩⟩
  obtain ⟨g, e1, p3⟩ := p2.optB
  cases hk : cmp2 cp d e with
  | none => rw [hk] at e1; cases e1
  | some k =>
    rw [hk] at e1
    cases e1
    exact ent_cp cp (r1.mono f1.ok l2) r2 hk ⟨k, rfl, Pst.here (a := k) p3 f2 rfl⟩
/-- a value as a test -/
theorem qt_val (ha : PE X a (tEx X bs Xq ma)) (he : ∀ whole, isTrue a X.env whole = (do let v ← whole; standAt a.pos; holding [v] (truthy v))) : PT X a (tBx X bs Xq (mB ma)) := by
  refine pt_weak (pt_val ha he) fun σ H Q ⟨env, S, γ, Z, f, p⟩ => ⟨env, S, γ, Z, f, p.bind fun x d H1 γ1 Z1 S1 l1 f1 r1 p1 => ?_⟩
  obtain ⟨k, e, p2⟩ := p1.opt
  have := bD_some e
  subst this
  cases r1
  exact ⟨k, rfl, p2.here f1 rfl⟩
/-! ### a op b op c -/
theorem chn_ent (o1 o2 : Cp) {σ : L2.St} {H : Hp} {Q : VK} (h : tEx X bs Xq (fun env => (ma env).bind fun x => (mb env).bind fun y => (M.opt (cmp2 o1 x y)).bind fun k => if k then (mc env).bind fun z => M.opt ((cmp2 o2 y z).map .bl) else M.ret (.bl false)) σ H Q) :
    tChain (rCp X.K o1) (rCp X.K o2) (tEx X bs Xq ma) (tEx X bs Xq mb) (tEx X bs Xq mc) σ H Q := by
  obtain ⟨env, S, γ, Z, f, p⟩ := h
  refine ⟨env, S, γ, Z, f, p.bind fun x d H1 γ1 Z1 S1 l1 f1 r1 p1 => ⟨env, S1, γ1, Z1, f1, p1.bind fun y e H2 γ2 Z2 S2 l2 f2 r2 p2 => ?_⟩⟩
  obtain ⟨k, e1, p3⟩ := p2.optB
  refine ent_cp o1 (r1.mono f1.ok l2) r2 e1 ⟨k, rfl, ?_⟩
  cases k with
  | false => exact Pst.here (a := D.bl false) p3 f2 (.bl false)
  | true =>
    rw [if_pos rfl] at p3
    refine ⟨env, S2, γ2, Z2, f2, Pst.bind p3 fun z g H3 γ3 Z3 S3 l3 f3 r3 p4 => ?_⟩
    obtain ⟨g, e1, p5⟩ := p4.opt
    cases hk : cmp2 o2 e _ with
    | none => rw [hk] at e1; cases e1
    | some k =>
      rw [hk] at e1
      cases e1
      exact ent_cp o2 (r2.mono f2.ok l3) r3 hk (p5.here f3 (.bl k))
theorem q_chn (o1 o2 : Cp) (hu : X.A.units + 65 < cLine) (ha : PE X a (tEx X bs Xq ma)) (hb : PE X b (tEx X bs Xq mb)) (hc : PE X c (tEx X bs Xq mc)) (hm : lastMarks [cpOf o1, cpOf o2] [b, c] = false) :
    PE X (.Compare a [cpOf o1, cpOf o2] [b, c] pos) (tEx X bs Xq fun env => (ma env).bind fun x => (mb env).bind fun y => (M.opt (cmp2 o1 x y)).bind fun k => if k then (mc env).bind fun z => M.opt ((cmp2 o2 y z).map .bl) else M.ret (.bl false)) :=
  pe_weak (pe_chain (op_cp hu o1) (op_cp hu o2) ha hb hc hm) fun σ H Q h => chn_ent o1 o2 h
theorem test_ent {m : Env → M D} {σ : L2.St} {H : Hp} {Q : Bool → Hp → Prop} (h : tBx X bs Xq (mB m) σ H Q) : tEx X bs Xq m σ H fun v H1 => ∃ k, v = .bl k ∧ Q k H1 := by
  obtain ⟨env, S, γ, Z, f, p⟩ := h
  refine ⟨env, S, γ, Z, f, p.bind fun x d H1 γ1 Z1 S1 l1 f1 r1 p1 => ?_⟩
  obtain ⟨k, e, p2⟩ := p1.opt
  have := bD_some e
  subst this
  cases r1
  exact ⟨k, rfl, p2.here f1 rfl⟩
theorem qt_chn (o1 o2 : Cp) (hu : X.A.units + 65 < cLine) (ha : PE X a (tEx X bs Xq ma)) (hb : PE X b (tEx X bs Xq mb)) (hc : PE X c (tEx X bs Xq mc)) (hm : lastMarks [cpOf o1, cpOf o2] [b, c] = false) :
    PT X (.Compare a [cpOf o1, cpOf o2] [b, c] pos) (tBx X bs Xq (mB fun env => (ma env).bind fun x => (mb env).bind fun y => (M.opt (cmp2 o1 x y)).bind fun k => if k then (mc env).bind fun z => M.opt ((cmp2 o2 y z).map .bl) else M.ret (.bl false))) :=
  pt_weak (pt_chain (op_cp hu o1) (op_cp hu o2) ha hb hc hm) fun σ H Q h => chn_ent o1 o2 (test_ent h)
/-- a if c else b, as a test -/
theorem qt_ite (hc : PT X c (tBx X bs Xq (mB mc))) (ha : PT X a (tBx X bs Xq (mB ma))) (hb : PT X b (tBx X bs Xq (mB mb))) : PT X (.IfExp c a b pos) (tBx X bs Xq (mB fun env => (mc env).bind fun x => (M.opt (bD x)).bind fun k => if k then ma env else mb env)) := by
  refine ⟨fun pins s σ H Q I h => ?_⟩
  rw [arm_isTrue_IfExp]
  obtain ⟨env, S, γ, Z, f, p⟩ := h
  have p' : Pst X.K X.mg bs Xq rB σ env Q γ Z H (((mB mc env).bind fun k => if k then mB ma env else mB mb env) S) := by
    have e : (((mB mc env).bind fun k => if k then mB ma env else mB mb env) S) = (mB (fun env => (mc env).bind fun x => (M.opt (bD x)).bind fun k => if k then ma env else mb env) env) S := by
      simp only [mB, M.bind_assoc]
      congr 1
      congr 1
      funext x
      congr 1
      funext k
      cases k <;> rfl
    rw [e]; exact p
  refine wpAny_bind (thn (hc.run pins s σ H (fun k H1 => ∃ env S γ Z, Fr X.K X.mg bs σ env γ Z H1 S ∧ Pst X.K X.mg bs Xq rB σ env Q γ Z H1 ((if k then mB ma env else mB mb env) S)) I ⟨env, S, γ, Z, f, p'.bind fun x k H1 γ1 Z1 S1 l1 f1 r1 p1 => ?_⟩) fun k s1 hk => ?_)
  · have r1 : x = k := r1
    subst r1
    exact ⟨env, S1, γ1, Z1, f1, p1⟩
  · obtain ⟨H1, I1, env1, S1, γ1, Z1, f1, p1⟩ := hk
    cases k with
    | true => exact ha.run pins s1 σ H1 Q I1 ⟨env1, S1, γ1, Z1, f1, p1⟩
    | false => exact hb.run pins s1 σ H1 Q I1 ⟨env1, S1, γ1, Z1, f1, p1⟩
/-! ### and, or, not, if else -/
theorem qt_not (ha : PT X a (tBx X bs Xq (mB ma))) : PT X (.UnaryOp .Not a pos) (tBx X bs Xq (mB fun env => (ma env).bind fun d => M.opt ((bD d).map fun b => .bl (!b)))) := by
  refine pt_weak (pt_not ha) fun σ H Q ⟨env, S, γ, Z, f, p⟩ => ⟨env, S, γ, Z, f, ?_⟩
  simp only [mB, M.bind_assoc] at p ⊢
  unfold M.bind at p ⊢
  cases e : ma env S with
  | exn c fs S' => rw [e] at p; exact p
  | stuck => rw [e] at p; exact p
  | ok q =>
    rw [e] at p
    cases hd : bD q.1 with
    | none => simp only [Res.bind, hd] at p; exact p.elim
    | some k =>
      simp only [Res.bind, hd] at p
      show Pst _ _ _ _ _ _ _ _ _ _ _ (M.opt (bD q.1) q.2)
      rw [hd]
      intro v H' γ' Z' l fr r
      exact p (!v) H' γ' Z' l fr (by rw [r])
theorem q_not (ha : PE X a (tEx X bs Xq ma)) : PE X (.UnaryOp .Not a pos) (tEx X bs Xq fun env => (ma env).bind fun d => M.opt ((bD d).map fun b => .bl (!b))) := by
  refine pe_weak (pe_not ha) fun σ H Q ⟨env, S, γ, Z, f, p⟩ => ⟨env, S, γ, Z, f, p.bind fun x d H1 γ1 Z1 S1 l1 f1 r1 p1 => ?_⟩
  obtain ⟨g, e, p2⟩ := p1.opt
  cases hd : bD d with
  | none => rw [hd] at e; cases e
  | some k =>
    rw [hd] at e
    cases e
    have := bD_some hd
    subst this
    cases r1
    exact ⟨k, rfl, p2.here f1 (.bl _)⟩
abbrev mAnd (ma mb : Env → M D) : Env → M D := fun env => (ma env).bind fun x => (M.opt (bD x)).bind fun k => if k then mb env else M.ret (.bl false)
abbrev mOr (ma mb : Env → M D) : Env → M D := fun env => (ma env).bind fun x => (M.opt (bD x)).bind fun k => if k then M.ret (.bl true) else mb env
abbrev mIte (mc ma mb : Env → M D) : Env → M D := fun env => (mc env).bind fun x => (M.opt (bD x)).bind fun k => if k then ma env else mb env
theorem q_and {rest : List Expr} (ha : PE X a (tEx X bs Xq ma)) (hb : PE X (.BoolOp .And (b :: rest) pos) (tEx X bs Xq mb)) : PE X (.BoolOp .And (a :: b :: rest) pos) (tEx X bs Xq (mAnd ma mb)) := by
  refine pe_weak (pe_and ha hb) fun σ H Q ⟨env, S, γ, Z, f, p⟩ => ⟨env, S, γ, Z, f, p.bind fun x d H1 γ1 Z1 S1 l1 f1 r1 p1 => ?_⟩
  obtain ⟨k, e, p2⟩ := p1.optB
  have := bD_some e
  subst this
  cases r1
  refine ⟨k, rfl, ?_⟩
  cases k with
  | true => exact ⟨env, S1, γ1, Z1, f1, p2⟩
  | false => exact Pst.here (a := D.bl false) p2 f1 (.bl false)
theorem q_or {rest : List Expr} (ha : PE X a (tEx X bs Xq ma)) (hb : PE X (.BoolOp .Or (b :: rest) pos) (tEx X bs Xq mb)) : PE X (.BoolOp .Or (a :: b :: rest) pos) (tEx X bs Xq (mOr ma mb)) := by
  refine pe_weak (pe_or ha hb) fun σ H Q ⟨env, S, γ, Z, f, p⟩ => ⟨env, S, γ, Z, f, p.bind fun x d H1 γ1 Z1 S1 l1 f1 r1 p1 => ?_⟩
  obtain ⟨k, e, p2⟩ := p1.optB
  have := bD_some e
  subst this
  cases r1
  refine ⟨k, rfl, ?_⟩
  cases k with
  | true => exact Pst.here (a := D.bl true) p2 f1 (.bl true)
  | false => exact ⟨env, S1, γ1, Z1, f1, p2⟩
theorem q_ite (hc : PT X c (tBx X bs Xq (mB mc))) (ha : PE X a (tEx X bs Xq ma)) (hb : PE X b (tEx X bs Xq mb)) : PE X (.IfExp c a b pos) (tEx X bs Xq (mIte mc ma mb)) := by
  refine pe_weak (pe_ifExp hc ha hb) fun σ H Q ⟨env, S, γ, Z, f, p⟩ => ⟨env, S, γ, Z, f, ?_⟩
  simp only [mIte, ← M.bind_assoc] at p
  refine Pst.bind (m := (mc env).bind fun d => M.opt (bD d)) p fun x k H1 γ1 Z1 S1 l1 f1 r1 p1 => ?_
  subst r1
  cases x with
  | true => exact ⟨env, S1, γ1, Z1, f1, p1⟩
  | false => exact ⟨env, S1, γ1, Z1, f1, p1⟩
/-- tests by and, or -/
def PWx (X : Cx) (bs : Bs) (Xq : XQ) (e : Expr) (m : Env → M D) : Prop := PW X e (tBx X bs Xq (mB m))
theorem pw_weak {e : Expr} {t t' : TT} (h : PW X e t) (k : ∀ σ H Q, t' σ H Q → t σ H Q) : PW X e t' := ⟨fun wh pins s σ H Q I hw => h.run wh pins s σ H Q I (k σ H Q hw)⟩
theorem qw_and1 (ha : PT X a (tBx X bs Xq (mB ma))) : PWx X bs Xq (.BoolOp .And [a] pos) ma := pw_and1 ha
theorem qw_or1 (ha : PT X a (tBx X bs Xq (mB ma))) : PWx X bs Xq (.BoolOp .Or [a] pos) ma := pw_or1 ha
theorem qw_and {rest : List Expr} (ha : PT X a (tBx X bs Xq (mB ma))) (hb : PWx X bs Xq (.BoolOp .And (b :: rest) pos) mb) : PWx X bs Xq (.BoolOp .And (a :: b :: rest) pos) (mAnd ma mb) := by
  refine pw_weak (pw_and ha hb) fun σ H Q ⟨env, S, γ, Z, f, p⟩ => ⟨env, S, γ, Z, f, ?_⟩
  simp only [mB, mAnd, M.bind_assoc] at p
  simp only [← M.bind_assoc (ma env)] at p
  refine Pst.bind (m := (ma env).bind fun d => M.opt (bD d)) p fun x k H1 γ1 Z1 S1 l1 f1 r1 p1 => ?_
  subst r1
  cases x with
  | true => exact ⟨env, S1, γ1, Z1, f1, p1⟩
  | false => exact Pst.here (a := false) p1 f1 rfl
theorem qw_or {rest : List Expr} (ha : PT X a (tBx X bs Xq (mB ma))) (hb : PWx X bs Xq (.BoolOp .Or (b :: rest) pos) mb) : PWx X bs Xq (.BoolOp .Or (a :: b :: rest) pos) (mOr ma mb) := by
  refine pw_weak (pw_or ha hb) fun σ H Q ⟨env, S, γ, Z, f, p⟩ => ⟨env, S, γ, Z, f, ?_⟩
  simp only [mB, mOr, M.bind_assoc] at p
  simp only [← M.bind_assoc (ma env)] at p
  refine Pst.bind (m := (ma env).bind fun d => M.opt (bD d)) p fun x k H1 γ1 Z1 S1 l1 f1 r1 p1 => ?_
  subst r1
  cases x with
  | true => exact Pst.here (a := true) p1 f1 rfl
  | false => exact ⟨env, S1, γ1, Z1, f1, p1⟩
/-! ### displays -/
section
variable {e : Expr} {es : List Expr} {m : Env → M D} {ms : Env → M (List D)}
theorem qa_nil : PA X [] (tAx X bs Xq fun _ => M.ret []) := pa_weak pa_nil fun σ H Q ⟨env, S, γ, Z, f, p⟩ => Pst.here (a := ([] : List D)) p f .nil
theorem qa_cons (he : PE X e (tEx X bs Xq m)) (hs : PA X es (tAx X bs Xq ms)) (h : starEach (e :: es) X.env = (false, eval e X.env) :: starEach es X.env) :
    PA X (e :: es) (tAx X bs Xq fun env => (m env).bind fun d => (ms env).bind fun ds => M.ret (d :: ds)) := by
  refine pa_weak (pa_cons he hs h) fun σ H Q ⟨env, S, γ, Z, f, p⟩ => ⟨env, S, γ, Z, f, p.bind fun x d H1 γ1 Z1 S1 l1 f1 r1 p1 => ⟨env, S1, γ1, Z1, f1, p1.bind fun xs ds H2 γ2 Z2 S2 l2 f2 r2 p2 => ?_⟩⟩
  exact Pst.here (a := d :: ds) p2 f2 (.cons (r1.mono f1.ok l2) r2)
theorem qa_star {sp : Pos} (he : PE X e (tEx X bs Xq m)) (hs : PA X es (tAx X bs Xq ms)) :
    PA X (.Starred e sp :: es) (tAx X bs Xq fun env => (m env).bind fun d => (M.opt (starD d)).bind fun xs => (ms env).bind fun ds => M.ret (xs ++ ds)) := by
  refine pa_weak (StX.pa_star he hs) fun σ H Q ⟨env, S, γ, Z, f, p⟩ => ⟨env, S, γ, Z, f, p.bind fun x d H1 γ1 Z1 S1 l1 f1 r1 p1 => ?_⟩
  obtain ⟨xs, e1, p2⟩ := p1.optB
  have : ∃ a vs, x = .ref a ∧ (SqT X.K H1 a vs ∨ SqL X.K H1 a vs) ∧ RpL X.K X.mg γ1 Z1 H1 vs xs := by
    cases d <;> first | (simp [starD] at e1; done) | skip
    · cases e1
      obtain ⟨a, vs, h1, h2, h3⟩ := r1.sqT
      exact ⟨a, vs, h1, .inl h2, h3⟩
    · cases e1
      obtain ⟨a, vs, h1, _, h2, _, h3⟩ := r1.lst'
      exact ⟨a, vs, h1, .inr (SqL.of h2), h3⟩
  obtain ⟨a, vs, h1, h2, h3⟩ := this
  refine ⟨a, vs, h1, h2, env, S1, γ1, Z1, f1, p2.bind fun ys ds H2 γ2 Z2 S2 l2 f2 r2 p3 => ?_⟩
  exact Pst.here (a := xs ++ ds) p3 f2 ((h3.mono f1.ok l2).append r2)
theorem q_tup {k : Nat} (h : PA X es (tAx X bs Xq ms)) : PE X (.Tuple es k pos) (tEx X bs Xq fun env => (ms env).bind fun ds => if ds.length ≤ LIM then M.ret (.tup ds) else fun _ => .stuck) := by
  refine pe_weak (pe_tup h) fun σ H Q ⟨env, S, γ, Z, f, p⟩ => ⟨env, S, γ, Z, f, p.bind fun xs ds H1 γ1 Z1 S1 l1 f1 r1 p1 => ?_⟩
  obtain ⟨hz, p2⟩ := p1.iteS
  exact ⟨by rw [r1.len, ← lim_eq]; exact hz, fun q hq => Pst.newTup p2 f1 r1 hz hq⟩
theorem q_lst (h : PA X es (tAx X bs Xq ms)) : PE X (.List es pos) (tEx X bs Xq fun env => (ms env).bind fun ds => if ds.length ≤ LIM then M.ret (.lst ds) else fun _ => .stuck) := by
  refine pe_weak (pe_lst h) fun σ H Q ⟨env, S, γ, Z, f, p⟩ => ⟨env, S, γ, Z, f, p.bind fun xs ds H1 γ1 Z1 S1 l1 f1 r1 p1 => ?_⟩
  obtain ⟨hz, p2⟩ := p1.iteS
  exact ⟨by rw [r1.len, ← lim_eq]; exact hz, fun q hq => Pst.newLst p2 f1 r1 hz hq⟩
end
/-! ### subscripts -/
def rIxQ (K : PySem.W.Frag) : R2 := fun x y H Q => (rIxL K x y H Q ∨ rIxT K x y H Q) ∨ rIxD K x y H Q
theorem ix_q (hu : X.A.units + 65 < cLine) : IxR X (rIxQ X.K) := (ix_list.or ix_tup).or (ix_dct (by omega))
theorem nth_rel {K : PySem.W.Frag} {mg : Str → Option Value} {γ : List Addr} {Z : Addr → Prop} {H : Hp} {vs : List V} {ds : List D} {i : Int} {d : D} (r : RpL K mg γ Z H vs ds) (h : nthD ds i = some d) : ∃ v, atI vs i = some v ∧ Rp K mg γ Z H v d := by
  unfold nthD at h
  cases e : ixZ ds.length i with
  | none => rw [e] at h; cases h
  | some j =>
    rw [e] at h
    obtain ⟨v, h1, h2⟩ := r.get (i := j) h
    refine ⟨v, ?_, h2⟩
    unfold atI
    have e' : ixN ds.length i = some j := e
    rw [r.len, e']
    exact h1
theorem q_ix (hu : X.A.units + 65 < cLine) (ha : PE X a (tEx X bs Xq ma)) (hb : PE X b (tEx X bs Xq mb)) (hs : PlainIx b) :
    PE X (.Subscript a b pos) (tEx X bs Xq fun env => (ma env).bind fun x => (mb env).bind fun y => M.opt (ixD x y)) := by
  refine pe_weak (pe_ix (ix_q hu) ha hb hs) fun σ H Q ⟨env, S, γ, Z, f, p⟩ => ⟨env, S, γ, Z, f, p.bind fun x d H1 γ1 Z1 S1 l1 f1 r1 p1 => ⟨env, S1, γ1, Z1, f1, p1.bind fun y e H2 γ2 Z2 S2 l2 f2 r2 p2 => ?_⟩⟩
  obtain ⟨g, e1, p3⟩ := p2.opt
  have r1 := r1.mono f1.ok l2
  unfold ixD at e1
  split at e1 <;> try contradiction
  · obtain ⟨p, vs, rfl, _, h1, _, h2⟩ := r1.lst'
    cases r2
    obtain ⟨v, h3, h4⟩ := nth_rel h2 e1
    exact .inl (.inl ⟨p, vs, _, v, rfl, rfl, SqL.of h1, h3, p3.here f2 h4⟩)
  · obtain ⟨p, vs, rfl, h1, h2⟩ := r1.sqT
    cases r2
    obtain ⟨v, h3, h4⟩ := nth_rel h2 e1
    exact .inl (.inr ⟨p, vs, _, v, rfl, rfl, h1, h3, p3.here f2 h4⟩)
  · split at e1 <;> try contradiction
    rename_i hk
    obtain ⟨p, rfl, _, h1⟩ := r1.dct'
    rcases h1.get hk r2 with ⟨v, d', g1, g2, g3⟩ | ⟨g1, g2⟩
    · rw [g2] at e1
      cases e1
      exact .inr ⟨p, v, rfl, g1, p3.here f2 g3⟩
    · rw [g2] at e1; cases e1
/-! ### slices -/
def rSlQ (K : PySem.W.Frag) : V → Option Int → Option Int → Hp → VK → Prop := fun x lo hi H Q => rSlL K x lo hi H Q ∨ rSlA K x lo hi H Q
theorem sl_q : SlR X (rSlQ X.K) := sl_list.or sl_tupA
theorem cut_rel {K : PySem.W.Frag} {mg : Str → Option Value} {γ : List Addr} {Z : Addr → Prop} {H : Hp} {vs : List V} {ds : List D} (lo hi : Option Int) (r : RpL K mg γ Z H vs ds) : RpL K mg γ Z H (cutV vs lo hi) (cutD ds lo hi) := by
  unfold cutV cutD
  rw [r.len]
  exact (r.drop _).take _
theorem cut_len (ds : List D) (lo hi : Option Int) : (cutD ds lo hi).length ≤ ds.length := by
  unfold cutD
  rw [List.length_take, List.length_drop]
  omega
theorem cut_whole {lo hi : Option Int} (ds : List D) (h1 : HT.sIx ds.length 0 lo = 0) (h2 : HT.sIx ds.length ds.length hi = ds.length) : cutD ds lo hi = ds := by
  unfold cutD
  rw [h1, h2, List.drop_zero, Nat.sub_zero, List.take_length]
abbrev tOx (X : Cx) (bs : Bs) (Xq : XQ) (m : Env → M (Option Int)) : TO := tG X.K X.mg bs Xq rO m
theorem qo_none : PO X none (tOx X bs Xq fun _ => M.ret none) := by
  refine ⟨fun pins s σ H Q I h => ?_⟩
  obtain ⟨env, S, γ, Z, f, p⟩ := h
  exact po_none.run pins s σ H Q I (Pst.here (a := (none : Option Int)) p f rfl)
theorem qo_some (ha : PE X a (tEx X bs Xq ma)) : PO X (some a) (tOx X bs Xq fun env => (ma env).bind fun d => M.opt ((iD d).map some)) := by
  refine ⟨fun pins s σ H Q I h => ?_⟩
  obtain ⟨env, S, γ, Z, f, p⟩ := h
  refine (po_some ha).run pins s σ H Q I ⟨env, S, γ, Z, f, p.bind fun x d H1 γ1 Z1 S1 l1 f1 r1 p1 => ?_⟩
  obtain ⟨g, e, p2⟩ := p1.opt
  cases hd : iD d with
  | none => rw [hd] at e; cases e
  | some i =>
    rw [hd] at e
    cases e
    have := iD_some hd
    subst this
    cases r1
    exact ⟨_, rfl, p2.here f1 rfl⟩
theorem q_slc {lo hi : Option Expr} {p2 : Pos} {ml mh : Env → M (Option Int)} (ha : PE X a (tEx X bs Xq ma)) (hl : PO X lo (tOx X bs Xq ml)) (hh : PO X hi (tOx X bs Xq mh)) :
    PE X (.Subscript a (.Slice lo hi none p2) pos) (tEx X bs Xq fun env => (ma env).bind fun x => (ml env).bind fun l => (mh env).bind fun h => M.opt (slcD x l h)) := by
  refine pe_weak (pe_slice sl_q ha hl hh) fun σ H Q ⟨env, S, γ, Z, f, p⟩ => ⟨env, S, γ, Z, f, p.bind fun x d H1 γ1 Z1 S1 l1 f1 r1 p1 => ⟨env, S1, γ1, Z1, f1, p1.bind fun l l' H2 γ2 Z2 S2 l2 f2 r2 p2 => ⟨env, S2, γ2, Z2, f2, p2.bind fun h h' H3 γ3 Z3 S3 l3 f3 r3 p3 => ?_⟩⟩⟩
  subst r2 r3
  obtain ⟨g, e1, p4⟩ := p3.opt
  have r1 := (r1.mono f1.ok l2).mono f2.ok l3
  unfold slcD at e1
  split at e1 <;> try contradiction
  · cases e1
    obtain ⟨p, vs, rfl, _, h1, h0, h2⟩ := r1.lst'
    exact .inl ⟨p, vs, rfl, SqL.of h1, fun q hq => p4.newLst f3 (cut_rel _ _ h2) (Nat.le_trans (cut_len _ _ _) h0) hq⟩
  · cases e1
    obtain ⟨p, vs, rfl, h1, h0, h2⟩ := r1.scr'
    exact .inl ⟨p, vs, rfl, h1, fun q hq => p4.newLst f3 (cut_rel _ _ h2) (Nat.le_trans (cut_len _ _ _) h0) hq⟩
  · cases e1
    have h0 := r1.tlen'
    obtain ⟨p, vs, e, h1, h2⟩ := r1.sqT
    refine .inr ⟨p, vs, e, h1, fun hw => ?_, fun _ q hq => p4.newTup f3 (cut_rel _ _ h2) (Nat.le_trans (cut_len _ _ _) h0) hq⟩
    rw [cut_whole _ (by rw [← h2.len]; exact hw.1) (by rw [← h2.len]; exact hw.2)] at p4
    subst e
    exact p4.here f3 r1
end
end Q

set_option Elab.async false
set_option linter.all false
set_option autoImplicit false
set_option maxRecDepth 100000
set_option maxHeartbeats 1000000
/-! QPrim: built-ins. -/
namespace Q
open PySem PySem.Spec PyProof.Rows L2
section
variable {X : Cx} {bs : Bs} {Xq : XQ}
abbrev RC := List V → Hp → VK → Prop
theorem CallR.or {f : Value} {r r' : RC} (h : CallR X f r) (h' : CallR X f r') : CallR X f (fun vs H Q => r vs H Q ∨ r' vs H Q) := by
  intro pins s σ H xs us Q I rv q
  rcases q with q | q
  · exact h pins s σ H xs us Q I rv q
  · exact h' pins s σ H xs us Q I rv q
/-- from values to the rule -/
def Ent (K : PySem.W.Frag) (mg : Str → Option Value) (bs : Bs) (Xq : XQ) (g : List D → Option D) (r : RC) : Prop :=
  ∀ {σ : L2.St} {env : Env} {γ : List Addr} {Z : Addr → Prop} {H : Hp} {S : Sto} {vs : List V} {ds : List D} {f : D} {Q : VK}, Fr K mg bs σ env γ Z H S → RpL K mg γ Z H vs ds → g ds = some f →
    Pst K mg bs Xq (rD K mg) σ env Q γ Z H (.ok (f, S)) → r vs H Q
theorem q_callB {id : String} {x : Str} {p pos : Pos} {e : Expr} {es : List Expr} {ms : Env → M (List D)} {g : List D → Option D} {r : RC} (hc : CallR X (.builtin id) r) (hent : Ent X.K X.mg bs Xq g r) (hg : Gl X x) (hm : X.mg x = none) (hv : bootBuiltins x = some (.builtin id))
    (ha : PA X (e :: es) (tAx X bs Xq ms)) (hn : x ≠ "__name__") (hdb : (x == ("__debug__" : Str)) = false) (he : starEach (e :: es) X.env = (false, eval e X.env) :: starEach es X.env) (hpl : (backTo pos (starEach es X.env)).any (·.1) = false) :
    PE X (.Call (.Name x p) (e :: es) [] pos) (tEx X bs Xq fun env => (ms env).bind fun ds => M.opt (g ds)) := by
  refine pe_weak (pe_callB hc hg hm hv ha hn hdb he hpl) fun σ H Q ⟨env, S, γ, Z, f, p⟩ => ⟨env, S, γ, Z, f, p.bind fun xs ds H1 γ1 Z1 S1 l1 f1 r1 p1 => ?_⟩
  obtain ⟨d, e1, p2⟩ := p1.opt
  exact hent f1 r1 e1 p2
theorem q_callTy {T : String} {x : Str} {p pos : Pos} {e : Expr} {es : List Expr} {ms : Env → M (List D)} {g : List D → Option D} {r : RC} (hc : CallR X (.type T) r) (hent : Ent X.K X.mg bs Xq g r) (hg : Gl X x) (hm : X.mg x = none) (hv : bootBuiltins x = some (.type T))
    (ha : PA X (e :: es) (tAx X bs Xq ms)) (hn : x ≠ "__name__") (hdb : (x == ("__debug__" : Str)) = false) (he : starEach (e :: es) X.env = (false, eval e X.env) :: starEach es X.env) (hpl : (backTo pos (starEach es X.env)).any (·.1) = false) :
    PE X (.Call (.Name x p) (e :: es) [] pos) (tEx X bs Xq fun env => (ms env).bind fun ds => M.opt (g ds)) := by
  refine pe_weak (pe_callTy hc hg hm hv ha hn hdb he hpl) fun σ H Q ⟨env, S, γ, Z, f, p⟩ => ⟨env, S, γ, Z, f, p.bind fun xs ds H1 γ1 Z1 S1 l1 f1 r1 p1 => ?_⟩
  obtain ⟨d, e1, p2⟩ := p1.opt
  exact hent f1 r1 e1 p2
/-! ### len -/
theorem call_lenDR : CallR X (.builtin "len") (fun xs H Q => ∃ a kvs, xs = [V.ref a] ∧ Rd H a (.dK kvs) ∧ Q (.int kvs.length) H) := by
  intro pins s σ H xs us Q I r h
  obtain ⟨a, kvs, rfl, ha, q⟩ := h
  obtain ⟨u, rfl, ru⟩ := vals1 r
  cases ru
  exact d_len I ha fun t s' I' => ⟨.int kvs.length, H, I', ⟨t, rfl⟩, q⟩
def rLenQ (K : PySem.W.Frag) : RC := fun xs H Q => (∃ x n, xs = [x] ∧ LenV K x H n ∧ Q (.int n) H) ∨ (∃ a kvs, xs = [V.ref a] ∧ Rd H a (.dK kvs) ∧ Q (.int kvs.length) H)
theorem call_lenQ : CallR X (.builtin "len") (rLenQ X.K) := CallR.or call_len call_lenDR
variable {K : PySem.W.Frag} {mg : Str → Option Value}
theorem ent_len : Ent K mg bs Xq (pr1 .len) (rLenQ K) := by
  intro σ env γ Z H S vs ds f Q F r h p
  unfold pr1 at h
  split at h <;> try contradiction
  all_goals (rename_i he; first | cases he | skip)
  · cases h
    cases r with
    | cons r t =>
      cases t
      obtain ⟨a, ws, rfl, _, h1, _, h2⟩ := r.lst'
      exact .inl ⟨_, ws.length, rfl, .inl ⟨ws, SqL.of h1, rfl⟩, p.here F (by rw [h2.len]; exact .int _)⟩
  · cases h
    cases r with
    | cons r t =>
      cases t
      obtain ⟨a, ws, rfl, h1, _, h2⟩ := r.scr'
      exact .inl ⟨_, ws.length, rfl, .inl ⟨ws, h1, rfl⟩, p.here F (by rw [h2.len]; exact .int _)⟩
  · cases h
    cases r with
    | cons r t =>
      cases t
      obtain ⟨a, ws, rfl, h1, h2⟩ := r.sqT
      exact .inl ⟨_, ws.length, rfl, .inr ⟨ws, h1, rfl⟩, p.here F (by rw [h2.len]; exact .int _)⟩
  · cases h
    cases r with
    | cons r t =>
      cases t
      obtain ⟨a, rfl, _, h1⟩ := r.dct'
      rcases h1 with ⟨_, kvs, g1, g2, g3⟩ | ⟨e, _⟩
      · have e := congrArg List.length g2
        simp only [List.length_map] at e
        exact .inr ⟨a, kvs, rfl, g1, p.here F (by rw [e]; exact .int _)⟩
      · cases e
/-! ### all, int, min, max -/
theorem bools_rel {γ : List Addr} {Z : Addr → Prop} {H : Hp} : ∀ {vs : List V} {ds : List D} {bl : List Bool}, RpL K mg γ Z H vs ds → boolsD ds = some bl → vs = bl.map V.bl
  | _, _, _, .nil, h => by simp only [boolsD, Option.some.injEq] at h; subst h; rfl
  | _, _, bl, .cons r t, h => by
    rename_i v d vs ds
    cases d <;> first | (simp [boolsD] at h; done) | skip
    rename_i k
    simp only [boolsD] at h
    cases e : boolsD ds with
    | none => rw [e] at h; cases h
    | some bl' =>
      rw [e] at h
      simp only [Option.map_some, Option.some.injEq] at h
      subst h
      rw [bools_rel t e, r.bl']
      rfl
theorem ent_all : Ent K mg bs Xq (pr1 .all) (rAll K) := by
  intro σ env γ Z H S vs ds f Q F r h p
  unfold pr1 at h
  split at h <;> try contradiction
  all_goals (rename_i he; first | cases he | skip)
  rename_i ds
  cases e : boolsD ds with
  | none => rw [e] at h; cases h
  | some bl =>
    rw [e] at h
    cases h
    cases r with
    | cons r t =>
      cases t
      obtain ⟨a, ws, rfl, _, h1, _, h2⟩ := r.lst'
      refine ⟨a, bl, rfl, ?_, p.here F (.bl _)⟩
      rw [← bools_rel h2 e]
      exact SqL.of h1
theorem ent_int : Ent K mg bs Xq (pr1 .int) (fun xs H Q => (∃ i, xs = [.int i] ∧ Q (.int i) H) ∨ ∃ k, xs = [.bl k] ∧ Q (.int (if k then 1 else 0)) H) := by
  intro σ env γ Z H S vs ds f Q F r h p
  unfold pr1 at h
  split at h <;> try contradiction
  all_goals (rename_i he; first | cases he | skip)
  · cases h
    cases r with
    | cons r t => cases t; cases r; exact .inl ⟨_, rfl, p.here F (.int _)⟩
  · cases h
    cases r with
    | cons r t => cases t; cases r; exact .inr ⟨_, rfl, p.here F (.int _)⟩
theorem ent_min2 : Ent K mg bs Xq (pr1 .min2) (fun xs H Q => ∃ i j, xs = [.int i, .int j] ∧ Q (.int (if j < i then j else i)) H) := by
  intro σ env γ Z H S vs ds f Q F r h p
  unfold pr1 at h
  split at h <;> try contradiction
  all_goals (rename_i he; first | cases he | skip)
  cases h
  cases r with
  | cons r t => cases r; cases t with
    | cons r t => cases r; cases t; exact ⟨_, _, rfl, p.here F (.int _)⟩
theorem ent_max2 : Ent K mg bs Xq (pr1 .max2) (fun xs H Q => ∃ i j, xs = [.int i, .int j] ∧ Q (.int (if j > i then j else i)) H) := by
  intro σ env γ Z H S vs ds f Q F r h p
  unfold pr1 at h
  split at h <;> try contradiction
  all_goals (rename_i he; first | cases he | skip)
  cases h
  cases r with
  | cons r t => cases r; cases t with
    | cons r t => cases r; cases t; exact ⟨_, _, rfl, p.here F (.int _)⟩
/-! ### list, tuple -/
def rListQ (K : PySem.W.Frag) : RC := fun xs H Q => (∃ p ys, xs = [.ref p] ∧ (SqL K H p ys ∨ SqT K H p ys) ∧ ∀ l, H l = none → Q (.ref l) (upd H l (.lst ys))) ∨
  ((∃ (a : Addr) (kvs : List (Key × V)), xs = [.ref a] ∧ Rd H a (.dK kvs) ∧ ∀ p, H p = none → Q (.ref p) (upd H p (.lst (kvs.map fun kv => kV kv.1)))) ∨
   ∃ d kvs, xs = [V.ref d] ∧ Rd H d (.dT kvs) ∧ ∀ p bs, H p = none → IsKeys H kvs bs → Q (.ref p) (upd H p (.lst (bs.map V.ref))))
theorem call_listQ (hc : X.calm = true) : CallR X (.type "list") (rListQ X.K) := CallR.or call_list_of (CallR.or (call_listD hc) (call_list_dT hc))
theorem RpL.keyds {γ : List Addr} {Z : Addr → Prop} {H : Hp} : ∀ k : List Key, RpL K mg γ Z H (k.map kV) (k.map keyd)
  | [] => .nil
  | .inl i :: k => .cons (.int i) (RpL.keyds k)
  | .inr x :: k => .cons (.str x) (RpL.keyds k)
theorem keysT_rel {γ : List Addr} {Z : Addr → Prop} {H : Hp} : ∀ {kvs : List (List Key × V)} {as : List Addr}, IsKeys H kvs as → (∀ p ∈ kvs, p.1.length ≤ LIM) → RpL K mg γ Z H (as.map V.ref) (kvs.map fun p => D.tup (p.1.map keyd))
  | _, _, .nil, _ => .nil
  | _, _, .cons h t, n => .cons (.tup h (by rw [List.length_map]; exact n _ (by simp)) (RpL.keyds _)) (keysT_rel t fun p m => n p (by simp [m]))
theorem ent_list : Ent K mg bs Xq (pr1 .list) (rListQ K) := by
  intro σ env γ Z H S vs ds f Q F r h p
  unfold pr1 at h
  split at h <;> try contradiction
  all_goals (rename_i he; first | cases he | skip)
  · cases h
    cases r with
    | cons r t =>
      cases t
      obtain ⟨a, ws, rfl, _, h1, hz, h2⟩ := r.lst'
      exact .inl ⟨a, ws, rfl, .inl (SqL.of h1), fun l hl => p.newLst F h2 hz hl⟩
  · cases h
    cases r with
    | cons r t =>
      cases t
      have hz := r.tlen'
      obtain ⟨a, ws, rfl, h1, h2⟩ := r.sqT
      exact .inl ⟨a, ws, rfl, .inr h1, fun l hl => p.newLst F h2 hz hl⟩
  · cases h
    cases r with
    | cons r t =>
      cases t
      have hz := r.dlen
      obtain ⟨a, rfl, _, h1⟩ := r.dct'
      rcases h1 with ⟨_, kvs, g1, g2, g3⟩ | ⟨_, kvs, g1, g2, g3, g4⟩
      · refine .inr (.inl ⟨a, kvs, rfl, g1, fun l hl => p.newLst F ?_ (by rw [List.length_map]; exact hz) hl⟩)
        rw [g2]
        have := RpL.keyds (K := K) (mg := mg) (γ := γ) (Z := Z) (H := H) (kvs.map (·.1))
        rw [List.map_map, List.map_map] at this
        exact this
      · refine .inr (.inr ⟨a, kvs, rfl, g1, fun l as hl hk => p.newLst F ?_ (by rw [List.length_map]; exact hz) hl⟩)
        rw [g2]
        exact keysT_rel hk g3
theorem ent_tuple : Ent K mg bs Xq (pr1 .tuple) (fun xs H Q => ∃ p ys, xs = [.ref p] ∧ ((SqL K H p ys ∧ ∀ l, H l = none → Q (.ref l) (upd H l (.tup ys))) ∨ (SqT K H p ys ∧ Q (.ref p) H))) := by
  intro σ env γ Z H S vs ds f Q F r h p
  unfold pr1 at h
  split at h <;> try contradiction
  all_goals (rename_i he; first | cases he | skip)
  · cases h
    cases r with
    | cons r t =>
      cases t
      obtain ⟨a, ws, rfl, _, h1, hz, h2⟩ := r.lst'
      exact ⟨a, ws, rfl, .inl ⟨SqL.of h1, fun l hl => p.newTup F h2 hz hl⟩⟩
  · cases h
    cases r with
    | cons r t =>
      cases t
      obtain ⟨a, ws, e, h1, h2⟩ := r.sqT
      subst e
      exact ⟨a, ws, rfl, .inr ⟨h1, p.here F r⟩⟩
/-! ### isinstance -/
theorem tyx_of {γ : List Addr} {Z : Addr → Prop} {H : Hp} {v : V} {d : D} (r : Rp K mg γ Z H v d) (hi : isiOk d = true) : TyX K H v (.type (tyD d)) := by
  cases r with
  | non => exact .base .non
  | bl b => exact .base (.bl b)
  | int i => exact .base (.int i)
  | str x => exact .base (.str x)
  | tup h _ _ => exact .base (.tup h)
  | ktup n k => obtain ⟨o, its, m, h1, h2, _⟩ := k; exact .kTuple h1 h2
  | lst z h _ _ => exact .base (.lst h)
  | dctK z h _ _ _ => exact .fDict h
  | _ => simp [isiOk] at hi
def isiTab : List String := ["NoneType", "bool", "int", "str", "tuple", "list", "dict"]
def isiTys : List String := ["bool", "int", "str", "tuple", "list", "dict"]
theorem isi_tab (a b : String) (ha : a ∈ isiTab) (hb : b ∈ isiTys) : PySem.W.kitOne K (.type a) (.type b) = some (b == a || (b == "int" && a == "bool")) := by
  simp only [isiTab, isiTys, List.mem_cons, List.not_mem_nil, or_false] at ha hb
  rcases ha with rfl | rfl | rfl | rfl | rfl | rfl | rfl <;> rcases hb with rfl | rfl | rfl | rfl | rfl | rfl <;> rfl
theorem tyD_tab {d : D} (h : isiOk d = true) : tyD d ∈ isiTab := by
  cases d <;> first | (simp [isiOk] at h; done) | decide | (simp [tyD, isiTab])
end
end Q

set_option Elab.async false
set_option linter.all false
set_option autoImplicit false
set_option maxRecDepth 100000
set_option maxHeartbeats 1000000
/-! QPrim2: repr, sorted, isinstance, get. -/
namespace Q
open PySem PySem.Spec PyProof.Rows L2
section
variable {X : Cx} {bs : Bs} {Xq : XQ} {K : PySem.W.Frag} {mg : Str → Option Value}
/-! ### repr -/
def rReprQ (K : PySem.W.Frag) : RC := fun xs H Q => ∃ x d, xs = [x] ∧ Dp K H x d ∧ d.showable = true ∧ d.hasDict = false ∧ d.depth ≤ 60 ∧ d.shown.length ≤ sizeLine ∧ Q (.str d.shown) H
theorem call_reprQ (hg : X.A.guards = some []) (hu : X.A.units + 65 < cLine) : CallR X (.builtin "repr") (rReprQ X.K) := by
  intro pins s σ H xs us Q I r h
  obtain ⟨x, d, rfl, hd, hs, hn, hdp, hz, q⟩ := h
  obtain ⟨u, rfl, ru⟩ := vals1 r
  obtain ⟨as, rd⟩ := Dp.reads I d x u hd ru
  have byRef : ∀ a, u = .ref a → wpAny (model X.prog X.w) X.A (call (.builtin "repr") [u]) (EP X pins σ Q) X.xe s := fun a e => by
    subst e
    exact repr_of_reads' rd hs (PyData.noDict_hsm hn) hg (by omega) (fun _ _ e => e) (fun h' u tk hk => ⟨.str d.shown, H, I.kept hk, ⟨_, rfl⟩, q⟩) hz
  cases hd with
  | non => cases ru; exact PySem.P.repr_of_none ⟨.str _, H, I.tok _, ⟨_, rfl⟩, q⟩
  | bl b => cases ru; exact PySem.P.repr_of_bool ⟨.str _, H, I.tok _, ⟨_, rfl⟩, q⟩
  | int i => obtain ⟨t, rfl⟩ := ru; exact PySem.P.repr_of_int (by simpa [PyData.showable] using hs) ⟨.str _, H, I.tok _, ⟨_, rfl⟩, q⟩
  | str y => obtain ⟨t, rfl⟩ := ru; exact PySem.P.repr_of_str ⟨.str _, H, I.tok _, ⟨_, rfl⟩, q⟩ hz
  | lst _ _ => exact byRef _ ru
  | tup _ _ => exact byRef _ ru
theorem ent_repr : Ent K mg bs Xq (pr1 .repr) (rReprQ K) := by
  intro σ env γ Z H S vs ds f Q F r h p
  unfold pr1 at h
  split at h <;> try contradiction
  all_goals (rename_i he; first | cases he | skip)
  split at h <;> cases h
  rename_i hs
  simp only [shwOk, Bool.and_eq_true, decide_eq_true_eq] at hs
  obtain ⟨⟨h1, h2⟩, h3⟩ := hs
  cases r with
  | cons r t =>
    cases t
    obtain ⟨a, b, c⟩ := r.dp h1
    exact ⟨_, _, rfl, a, h2, PyData.hasDict_of_canLay _ b, c, by rw [← lim_eq]; exact h3, p.here F (.str _)⟩
/-! ### sorted -/
theorem ins_perm (x : D) : ∀ l : List D, (insD x l).Perm (x :: l)
  | [] => .refl _
  | y :: ys => by
    unfold insD
    split
    · exact .refl _
    · exact ((ins_perm x ys).cons y).trans (.swap x y ys)
theorem sort_perm : ∀ l : List D, (sortD l).Perm l
  | [] => .refl _
  | x :: xs => (ins_perm x (sortD xs)).trans ((sort_perm xs).cons x)
/-- a lot of values on which leD is a total order -/
structure LeOk (P : D → Prop) : Prop where
  tot : ∀ a b, P a → P b → leD a b = true ∨ leD b a = true
  tr : ∀ a b c, P a → P b → P c → leD a b = true → leD b c = true → leD a c = true
  anti : ∀ a b, P a → P b → leD a b = true → leD b a = true → a = b
theorem ins_sorted {P : D → Prop} (L : LeOk P) (x : D) (hx : P x) : ∀ l : List D, (∀ y ∈ l, P y) → l.Pairwise (fun a b => leD a b = true) → (insD x l).Pairwise (fun a b => leD a b = true)
  | [], _, _ => by simp [insD]
  | y :: ys, hp, hs => by
    unfold insD
    have hs' := List.pairwise_cons.mp hs
    split
    · rename_i h
      refine List.pairwise_cons.mpr ⟨fun z hz => ?_, hs⟩
      rcases List.mem_cons.mp hz with rfl | hz
      · exact h
      · exact L.tr _ _ _ hx (hp y (by simp)) (hp z (by simp [hz])) h (hs'.1 z hz)
    · rename_i h
      refine List.pairwise_cons.mpr ⟨fun z hz => ?_, ins_sorted L x hx ys (fun z hz => hp z (by simp [hz])) hs'.2⟩
      rcases List.mem_cons.mp ((ins_perm x ys).mem_iff.mp hz) with rfl | hz
      · rcases L.tot _ _ hx (hp y (by simp)) with q | q
        · exact absurd q h
        · exact q
      · exact hs'.1 z hz
theorem sort_sorted {P : D → Prop} (L : LeOk P) : ∀ l : List D, (∀ y ∈ l, P y) → (sortD l).Pairwise (fun a b => leD a b = true)
  | [], _ => .nil
  | x :: xs, hp => by
    show (insD x (sortD xs)).Pairwise _
    exact ins_sorted L x (hp x (by simp)) _ (fun y hy => hp y (by simp [(sort_perm xs).mem_iff.mp hy])) (sort_sorted L xs fun y hy => hp y (by simp [hy]))
theorem sort_unique {P : D → Prop} (L : LeOk P) {l m : List D} (hp : ∀ y ∈ l, P y) (p : m.Perm l) (s : m.Pairwise (fun a b => leD a b = true)) : m = sortD l :=
  List.Perm.eq_of_pairwise (fun a b ha hb h1 h2 => L.anti a b (hp a (p.mem_iff.mp ha)) (hp b ((sort_perm l).mem_iff.mp hb)) h1 h2) s (sort_sorted L l hp) (p.trans (sort_perm l).symm)
def IsI (d : D) : Prop := ∃ i, d = .int i
def IsP (d : D) : Prop := ∃ i j, d = .tup [.int i, .int j]
theorem leOk_int : LeOk IsI := by
  refine ⟨?_, ?_, ?_⟩
  · rintro _ _ ⟨i, rfl⟩ ⟨j, rfl⟩
    simp only [leD, decide_eq_true_eq]; omega
  · rintro _ _ _ ⟨i, rfl⟩ ⟨j, rfl⟩ ⟨k, rfl⟩
    simp only [leD, decide_eq_true_eq]; omega
  · rintro _ _ ⟨i, rfl⟩ ⟨j, rfl⟩
    simp only [leD, decide_eq_true_eq]
    intro h1 h2
    rw [show i = j by omega]
theorem ltI2 (c d a b : Int) : ltInts [.int c, .int d] [.int a, .int b] = some (decide (c < a ∨ (c = a ∧ d < b))) := by
  simp only [ltInts]
  by_cases h1 : c < a
  · rw [if_pos h1]; congr 1; symm; rw [decide_eq_true_eq]; omega
  · rw [if_neg h1]
    by_cases h2 : a < c
    · rw [if_pos h2]; congr 1; symm; rw [decide_eq_false_iff_not]; omega
    · rw [if_neg h2]
      by_cases h3 : d < b
      · rw [if_pos h3]; congr 1; symm; rw [decide_eq_true_eq]; omega
      · rw [if_neg h3]
        by_cases h4 : b < d
        · rw [if_pos h4]; congr 1; symm; rw [decide_eq_false_iff_not]; omega
        · rw [if_neg h4]; congr 1; symm; rw [decide_eq_false_iff_not]; omega
theorem leD_pair (a b c d : Int) : leD (.tup [.int a, .int b]) (.tup [.int c, .int d]) = decide (a < c ∨ (a = c ∧ b ≤ d)) := by
  simp only [leD, ltI2, Option.getD_some]
  rw [Bool.eq_iff_iff, Bool.not_eq_true', decide_eq_false_iff_not, decide_eq_true_eq]
  omega
theorem leOk_pair : LeOk IsP := by
  refine ⟨?_, ?_, ?_⟩
  · rintro _ _ ⟨i, i', rfl⟩ ⟨j, j', rfl⟩
    simp only [leD_pair, decide_eq_true_eq]; omega
  · rintro _ _ _ ⟨i, i', rfl⟩ ⟨j, j', rfl⟩ ⟨k, k', rfl⟩
    simp only [leD_pair, decide_eq_true_eq]; omega
  · rintro _ _ ⟨i, i', rfl⟩ ⟨j, j', rfl⟩
    simp only [leD_pair, decide_eq_true_eq]
    intro h1 h2
    rw [show i = j by omega, show i' = j' by omega]
theorem ints_of : ∀ (ds : List D), ds.all isInt = true → ∃ ns : List Int, ds = ns.map D.int
  | [], _ => ⟨[], rfl⟩
  | d :: ds, h => by
    simp only [List.all_cons, Bool.and_eq_true] at h
    obtain ⟨ns, e⟩ := ints_of ds h.2
    cases d <;> first | (simp [isInt] at h; done) | skip
    rename_i i
    exact ⟨i :: ns, by rw [e]; rfl⟩
theorem RpL.ints {γ : List Addr} {Z : Addr → Prop} {H : Hp} : ∀ {vs : List V} (ns : List Int), RpL K mg γ Z H vs (ns.map D.int) → vs = ns.map V.int
  | _, [], .nil => rfl
  | _, n :: ns, .cons r t => by rw [Rp.int' (i := n) r, RpL.ints ns t]; rfl
theorem RpL.ofInts {γ : List Addr} {Z : Addr → Prop} {H : Hp} : ∀ (ns : List Int), RpL K mg γ Z H (ns.map V.int) (ns.map D.int)
  | [] => .nil
  | n :: ns => .cons (.int n) (RpL.ofInts ns)
def rSortQ (K : PySem.W.Frag) : RC := fun vs H Q => rSortedI K vs H Q ∨ rSortedPO K vs H Q
theorem call_sortQ : CallR X (.builtin "sorted") (rSortQ X.K) := CallR.or cr_sortedI cr_sortedPO
def keyV (H : Hp) : V → Int × Int
  | .ref t => match H t with
    | some (.tup [.int a, .int b]) => (a, b)
    | _ => (0, 0)
  | _ => (0, 0)
def dOfV (H : Hp) (x : V) : D := .tup [.int (keyV H x).1, .int (keyV H x).2]
theorem pairs_rel {γ : List Addr} {Z : Addr → Prop} {H : Hp} : ∀ {vs : List V} {ds : List D}, RpL K mg γ Z H vs ds → ds.all isPair = true → ds = vs.map (dOfV H) ∧ ∀ x ∈ vs, (∃ t, x = V.ref t ∧ H t = some (.tup [.int (keyV H x).1, .int (keyV H x).2])) ∧ Rp K mg γ Z H x (dOfV H x)
  | _, _, .nil, _ => ⟨rfl, fun x hx => by simp at hx⟩
  | _, _, .cons (v := v) (d := d) r t, h => by
    simp only [List.all_cons, Bool.and_eq_true] at h
    obtain ⟨e, g⟩ := pairs_rel t h.2
    have hd : ∃ i j, d = .tup [.int i, .int j] := by
      have h1 := h.1
      unfold isPair at h1
      split at h1
      · exact ⟨_, _, rfl⟩
      · cases h1
    obtain ⟨i, j, rfl⟩ := hd
    obtain ⟨a, ws, rfl, h1, h2⟩ := r.tupI rfl
    have e2 : ws = [.int i, .int j] := RpL.ints [i, j] h2
    subst e2
    have k1 : keyV H (.ref a) = (i, j) := by simp only [keyV, h1]
    refine ⟨by rw [List.map_cons, ← e]; simp only [dOfV, k1], fun x hx => ?_⟩
    rcases List.mem_cons.mp hx with rfl | hx
    · exact ⟨⟨a, rfl, by rw [k1]; exact h1⟩, by simp only [dOfV, k1]; exact r⟩
    · exact g x hx
theorem RpL.ofAll {γ : List Addr} {Z : Addr → Prop} {H : Hp} {f : V → D} : ∀ (vs : List V), (∀ x ∈ vs, Rp K mg γ Z H x (f x)) → RpL K mg γ Z H vs (vs.map f)
  | [], _ => .nil
  | v :: vs, h => .cons (h v (by simp)) (RpL.ofAll vs fun x hx => h x (by simp [hx]))
theorem ent_sorted : Ent K mg bs Xq (pr1 .sorted) (rSortQ K) := by
  intro σ env γ Z H S vs ds f Q F r h p
  unfold pr1 at h
  split at h <;> try contradiction
  all_goals (rename_i he; first | cases he | skip)
  split at h <;> cases h
  rename_i ds hs
  cases r with
  | cons r t =>
    cases t
    obtain ⟨a, ws, rfl, _, h1, hz, h2⟩ := r.lst'
    have hz2 : (sortD ds).length ≤ LIM := by rw [(sort_perm ds).length_eq]; exact hz
    rcases Bool.or_eq_true_iff.mp hs with hi | hi
    · obtain ⟨ns, rfl⟩ := ints_of ds hi
      rw [h2.ints ns] at h1
      refine .inl ⟨a, ns, rfl, SqL.of h1, fun ns' q pm so hq => ?_⟩
      have e : ns'.map D.int = sortD (ns.map D.int) := sort_unique leOk_int (fun y hy => by
        obtain ⟨i, _, e⟩ := List.mem_map.mp hy
        exact ⟨i, e.symm⟩) (pm.map _) (by
        rw [List.pairwise_map]
        exact so.imp fun {a b} h => by simp only [leD, decide_eq_true_eq]; exact h)
      rw [← e] at p hz2
      exact p.newLst F (RpL.ofInts ns') hz2 hq
    · obtain ⟨e, g⟩ := pairs_rel h2 hi
      refine .inr ⟨a, ws, keyV H, rfl, SqL.of h1, fun x hx => (g x hx).1, fun ys q so st hq => ?_⟩
      have e2 : ys.map (dOfV H) = sortD ds := by
        rw [e]
        refine sort_unique leOk_pair (fun y hy => ?_) (st.perm.map _) ?_
        · obtain ⟨v, _, e⟩ := List.mem_map.mp hy
          exact ⟨_, _, e.symm⟩
        · rw [List.pairwise_map]
          refine so.imp fun {x y} h => ?_
          simp only [dOfV, leD_pair, decide_eq_true_eq]
          have h' : SrtO.lexB (keyV H y) (keyV H x) = false := h
          have h2 := mt SrtO.lexB_iff.mpr (by rw [h']; exact Bool.false_ne_true)
          omega
      rw [← e2] at p hz2
      exact p.newLst F (RpL.ofAll ys fun x hx => (g x (st.perm.mem_iff.mp hx)).2) hz2 hq
/-! ### isinstance -/
theorem kit_any {t : String} (ht : t ∈ isiTab) : ∀ ts : List String, (∀ x ∈ ts, x ∈ isiTys) → PySem.W.kitAny K (.type t) (ts.map Value.type) = some (ts.any fun x => x == t || (x == "int" && t == "bool"))
  | [], _ => rfl
  | x :: xs, h => by
    simp only [List.map_cons, PySem.W.kitAny, isi_tab t x ht (h x (by simp)), List.any_cons]
    cases (x == t || (x == "int" && t == "bool")) with
    | true => rfl
    | false => simp only [Bool.false_or]; exact kit_any ht xs fun y hy => h y (by simp [hy])
theorem boot_ty {t : String} (h : t ∈ isiTys) : bootBuiltins (Str.ofString t) = some (.type t) := by
  simp only [isiTys, List.mem_cons, List.not_mem_nil, or_false] at h
  rcases h with rfl | rfl | rfl | rfl | rfl | rfl <;> decide +kernel
abbrev mIsi (ts : List String) (m : Env → M D) : Env → M D := fun env => ((m env).bind fun d => (M.ret []).bind fun ds => M.ret (d :: ds)).bind fun ds => M.opt (pr1 (.isi ts) ds)
theorem isi_opt {ts : List String} {ds : List D} {f : D} {d : D} (h : pr1 (.isi ts) [d] = some f) : isiOk d = true ∧ f = .bl (isiD ts d) := by
  simp only [pr1] at h
  split at h <;> cases h
  exact ⟨by assumption, rfl⟩
theorem q_isi1 {t : String} {e : Expr} {p pT pos : Pos} {m : Env → M D} (ht : t ∈ isiTys) (hg : Gl X "isinstance") (hm : X.mg "isinstance" = none) (gT : Gl X (Str.ofString t)) (mT : X.mg (Str.ofString t) = none) (he : PE X e (tEx X bs Xq m))
    (hn : (Str.ofString t) ≠ "__name__") (hdb : (Str.ofString t == ("__debug__" : Str)) = false) (hs : starEach (e :: [.Name (Str.ofString t) pT]) X.env = (false, eval e X.env) :: starEach [.Name (Str.ofString t) pT] X.env) :
    PE X (.Call (.Name "isinstance" p) [e, .Name (Str.ofString t) pT] [] pos) (tEx X bs Xq (mIsi [t] m)) := by
  refine pe_weak (pe_callB call_isi hg hm (by decide +kernel) (pa_cons he (pa_cons (pe_bltn (v := .ty t) gT mT (boot_ty ht) rfl hn hdb) pa_nil rfl) hs) (by decide) (by decide) hs (by rfl)) fun σ H Q ⟨env, S, γ, Z, f, p⟩ => ⟨env, S, γ, Z, f, ?_⟩
  simp only [mIsi, M.bind_assoc, M.ret_bind] at p
  refine p.bind fun x d H1 γ1 Z1 S1 l1 f1 r1 p1 => ?_
  obtain ⟨g, e1, p2⟩ := p1.opt
  obtain ⟨h1, rfl⟩ := isi_opt (ds := []) e1
  refine ⟨x, .ty t, .type (tyD d), .type t, _, rfl, .ty t, tyx_of r1 h1, isi_tab _ _ (tyD_tab h1) ht, ?_⟩
  have e2 : isiD [t] d = (t == tyD d || (t == "int" && tyD d == "bool")) := by simp [isiD]
  rw [e2] at p2
  exact p2.here f1 (.bl _)
/-- a tuple of built-in types -/
theorem pa_tys : ∀ (ts : List (String × Pos)), (∀ x ∈ ts, x.1 ∈ isiTys ∧ Gl X (Str.ofString x.1) ∧ X.mg (Str.ofString x.1) = none ∧ (Str.ofString x.1) ≠ "__name__" ∧ (Str.ofString x.1 == ("__debug__" : Str)) = false) →
    PA X (ts.map fun x => Expr.Name (Str.ofString x.1) x.2) (fun _ H Q => Q (ts.map fun x => V.ty x.1) H)
  | [], _ => pa_nil
  | x :: xs, h => by
    obtain ⟨h1, h2, h3, h4, h5⟩ := h x (by simp)
    exact pa_cons (pe_bltn (v := .ty x.1) h2 h3 (boot_ty h1) rfl h4 h5) (pa_tys xs fun y hy => h y (by simp [hy])) rfl
theorem paired_tys : ∀ ts : List (String × Pos), Paired ClsV (ts.map fun x => V.ty x.1) (ts.map (Value.type ∘ fun x => x.1))
  | [] => .nil
  | x :: xs => .cons (.ty _) (paired_tys xs)
theorem q_isiT {ts : List (String × Pos)} {e : Expr} {k : Nat} {p pT pos : Pos} {m : Env → M D} (hz : ts.length ≤ 100) (ht : ∀ x ∈ ts, x.1 ∈ isiTys ∧ Gl X (Str.ofString x.1) ∧ X.mg (Str.ofString x.1) = none ∧ (Str.ofString x.1) ≠ "__name__" ∧ (Str.ofString x.1 == ("__debug__" : Str)) = false)
    (hg : Gl X "isinstance") (hm : X.mg "isinstance" = none) (he : PE X e (tEx X bs Xq m))
    (hs : starEach (e :: [.Tuple (ts.map fun x => Expr.Name (Str.ofString x.1) x.2) k pT]) X.env = (false, eval e X.env) :: starEach [.Tuple (ts.map fun x => Expr.Name (Str.ofString x.1) x.2) k pT] X.env) :
    PE X (.Call (.Name "isinstance" p) [e, .Tuple (ts.map fun x => Expr.Name (Str.ofString x.1) x.2) k pT] [] pos) (tEx X bs Xq (mIsi (ts.map (·.1)) m)) := by
  refine pe_weak (pe_callB call_isiT hg hm (by decide +kernel) (pa_cons he (pa_cons (pe_tup (pa_tys ts ht)) pa_nil rfl) hs) (by decide) (by decide) hs (by rfl)) fun σ H Q ⟨env, S, γ, Z, f, p⟩ => ⟨env, S, γ, Z, f, ?_⟩
  simp only [mIsi, M.bind_assoc, M.ret_bind] at p
  refine p.bind fun x d H1 γ1 Z1 S1 l1 f1 r1 p1 => ?_
  obtain ⟨g, e1, p2⟩ := p1.opt
  obtain ⟨h1, rfl⟩ := isi_opt (ds := []) e1
  refine ⟨by rw [List.length_map, sizeLine_eq]; omega, fun q hq => ?_⟩
  have F2 := f1.step (Le.new (o := .tup (ts.map fun x => V.ty x.1)) hq) (f1.ok.new hq)
  refine ⟨x, q, _, .type (tyD d), (ts.map (·.1)).map Value.type, _, rfl, upd_same, ?_, tyx_of (r1.mono f1.ok (Le.new hq)) h1, kit_any (tyD_tab h1) _ (fun y hy => ?_), ?_⟩
  · rw [List.map_map]
    exact paired_tys ts
  · obtain ⟨z, hz', e⟩ := List.mem_map.mp hy
    rw [← e]; exact (ht z hz').1
  · exact p2 _ _ _ _ (Le.new hq) F2 (.bl _)
end
end Q

set_option Elab.async false
set_option linter.all false
set_option autoImplicit false
set_option maxRecDepth 100000
set_option maxHeartbeats 1000000
/-! QIt: what is walked. -/
namespace Q
open PySem PySem.Spec PyProof.Rows L2 RZ
section
variable {K : PySem.W.Frag} {mg : Str → Option Value} {bs : Bs} {Xq : XQ} {γ γ' : List Addr} {Z Z' : Addr → Prop} {H H' : Hp} {S : Sto} {σ : L2.St} {env : Env}
/-- J yields ds, in this world and every later one -/
def ItD (K : PySem.W.Frag) (mg : Str → Option Value) (γ : List Addr) (Z : Addr → Prop) (H : Hp) (J : L2.It) (ds : List D) : Prop :=
  ∀ (i : Nat) (γ1 : List Addr) (Z1 : Addr → Prop) (H1 : Hp), Lz γ Z H γ1 Z1 H1 →
    (∀ d, ds[i]? = some d → J.go i H1 ∧ ∀ x H2, J.yld i H1 x H2 → (H2 = H1 ∧ Rp K mg γ1 Z1 H1 x d) ∨ ∃ T ws es, H1 T = none ∧ H2 = upd H1 T (.tup ws) ∧ x = .ref T ∧ d = .tup es ∧ es.length ≤ LIM ∧ RpL K mg γ1 Z1 H1 ws es) ∧ (ds.length ≤ i → J.stop i H1)
theorem ItD.lz (l : Lz γ Z H γ' Z' H') {J : L2.It} {ds : List D} (h : ItD K mg γ Z H J ds) : ItD K mg γ' Z' H' J ds := fun i γ1 Z1 H1 l1 => h i γ1 Z1 H1 (l.trans l1)
abbrev rIt (K : PySem.W.Frag) (mg : Str → Option Value) : Rel L2.It (List D) := fun γ Z H J ds => ItD K mg γ Z H J ds ∧ ds.length ≤ LIM
theorem ItD.list {a : Addr} {vs : List V} {ds : List D} (z : Z a) (h : Rd H a (.lst vs)) (r : RpL K mg γ Z H vs ds) : ItD K mg γ Z H (Itl K a) ds := by
  intro i γ1 Z1 H1 l
  have h1 : SqL K H1 a vs := .inl (Rd.lz l z h)
  have r1 := r.lz l
  refine ⟨fun d e => ?_, fun hi => ⟨vs, h1, by rw [r1.len]; exact hi⟩⟩
  obtain ⟨v, e1, e2⟩ := r1.get e
  refine ⟨⟨vs, v, h1, e1⟩, fun x H2 y => ?_⟩
  obtain ⟨y1, y2⟩ := y
  have := y2 vs h1
  rw [e1] at this
  cases this
  exact .inl ⟨y1, e2⟩
theorem ItD.scr {a : Addr} {ds : List D} (r : Rp K mg γ Z H (.ref a) (.scr ds)) : ItD K mg γ Z H (Itl K a) ds := by
  intro i γ1 Z1 H1 l
  obtain ⟨_, vs, e0, h1, _, r1⟩ := (r.lz l).scr'
  cases e0
  refine ⟨fun d e => ?_, fun hi => ⟨vs, h1, by rw [r1.len]; exact hi⟩⟩
  obtain ⟨v, e1, e2⟩ := r1.get e
  refine ⟨⟨vs, v, h1, e1⟩, fun x H2 y => ?_⟩
  obtain ⟨y1, y2⟩ := y
  have := y2 vs h1
  rw [e1] at this
  cases this
  exact .inl ⟨y1, e2⟩
theorem SqT.lz' (l : Lz γ Z H γ' Z' H') {v : V} {ds : List D} (r : Rp K mg γ Z H v (.tup ds)) : ∃ a vs, v = .ref a ∧ SqT K H' a vs ∧ RpL K mg γ' Z' H' vs ds := (r.lz l).sqT
theorem ItD.tuple {a : Addr} {ds : List D} (r : Rp K mg γ Z H (.ref a) (.tup ds)) : ItD K mg γ Z H (Itt K a) ds := by
  intro i γ1 Z1 H1 l
  obtain ⟨b, vs, e0, h1, r1⟩ := (r.lz l).sqT
  cases e0
  refine ⟨fun d e => ?_, fun hi => ⟨vs, h1, by rw [r1.len]; exact hi⟩⟩
  obtain ⟨v, e1, e2⟩ := r1.get e
  refine ⟨⟨vs, v, h1, e1⟩, fun x H2 y => ?_⟩
  obtain ⟨y1, y2⟩ := y
  have := y2 vs h1
  rw [e1] at this
  cases this
  exact .inl ⟨y1, e2⟩
theorem rng_get {a : Int} {n i : Nat} {d : D} (h : ((List.range n).map fun (k : Nat) => D.int (a + k))[i]? = some d) : i < n ∧ d = .int (a + i) := by
  rw [List.getElem?_map] at h
  cases e : (List.range n)[i]? with
  | none => rw [e] at h; cases h
  | some j =>
    rw [e] at h
    obtain ⟨h1, h2⟩ := List.getElem?_eq_some_iff.mp e
    simp at h1 h2
    subst h2
    cases h
    exact ⟨h1, rfl⟩
theorem ItD.range (a b : Int) : ItD K mg γ Z H (Itr a (b - a).toNat) (rngD a b) := by
  intro i γ1 Z1 H1 l
  refine ⟨fun d e => ?_, fun hi => ?_⟩
  · obtain ⟨h1, rfl⟩ := rng_get e
    refine ⟨h1, fun x H2 y => ?_⟩
    obtain ⟨y1, rfl⟩ := y
    exact .inl ⟨y1, .int _⟩
  · show (b - a).toNat ≤ i
    simpa [rngD] using hi
theorem ItD.keys {a : Addr} {t : Bool} {es : List (D × D)} (r : Rp K mg γ Z H (.ref a) (.dct t es)) :
    ∃ o, (∃ kvs, H a = some (.frz o (.dK kvs)) ∧ ItD K mg γ Z H (Itk a o kvs) (es.map (·.1))) ∨ ∃ kvs, H a = some (.frz o (.dT kvs)) ∧ ItD K mg γ Z H (Itkt a o kvs) (es.map (·.1)) := by
  cases r with
  | dctK z h y e r =>
    rename_i o kvs
    refine ⟨o, .inl ⟨kvs, h, fun i γ1 Z1 H1 l => ⟨fun d q => ?_, fun hi => ⟨l.kz _ _ z h, ?_⟩⟩⟩⟩
    · rw [e, List.getElem?_map] at q
      cases q1 : kvs[i]? with
      | none => rw [q1] at q; cases q
      | some p =>
        rw [q1] at q
        cases q
        refine ⟨⟨l.kz _ _ z h, (List.getElem?_eq_some_iff.mp q1).1⟩, fun x H2 y => ?_⟩
        obtain ⟨y1, k, v, y2, rfl⟩ := y
        rw [q1] at y2
        cases y2
        refine .inl ⟨y1, ?_⟩
        cases k with
        | inl i => exact .int i
        | inr x => exact .str x
    · have := congrArg List.length e
      simp only [List.length_map] at this hi
      omega
  | dctT z h y e q r =>
    rename_i o kvs
    refine ⟨o, .inr ⟨kvs, h, fun i γ1 Z1 H1 l => ⟨fun d q' => ?_, fun hi => ⟨l.kz _ _ z h, ?_⟩⟩⟩⟩
    · rw [e, List.getElem?_map] at q'
      cases q1 : kvs[i]? with
      | none => rw [q1] at q'; cases q'
      | some p =>
        rw [q1] at q'
        cases q'
        refine ⟨⟨l.kz _ _ z h, (List.getElem?_eq_some_iff.mp q1).1⟩, fun x H2 y => ?_⟩
        obtain ⟨y1, k, v, b, y2, rfl, y3⟩ := y
        rw [q1] at y2
        cases y2
        exact .inl ⟨y1, .tup y3 (by rw [List.length_map]; exact q _ (List.mem_of_getElem? q1)) (RpL.keyds _)⟩
    · have := congrArg List.length e
      simp only [List.length_map] at this hi
      omega
theorem enm_get {ds : List D} {i : Nat} {d : D} (h : (enmD ds)[i]? = some d) : ∃ x, ds[i]? = some x ∧ d = .tup [.int i, x] := by
  unfold enmD at h
  rw [List.getElem?_map, List.getElem?_zipIdx] at h
  cases e : ds[i]? with
  | none => rw [e] at h; cases h
  | some x => rw [e] at h; simp at h; exact ⟨x, rfl, h.symm⟩
theorem two_lim : (2 : Nat) ≤ LIM := by decide
theorem ItD.enum {a : Addr} {vs : List V} {ds : List D} (z : Z a) (h : Rd H a (.lst vs)) (r : RpL K mg γ Z H vs ds) : ItD K mg γ Z H (Ite K a) (enmD ds) := by
  intro i γ1 Z1 H1 l
  have h1 : SqL K H1 a vs := .inl (Rd.lz l z h)
  have r1 := r.lz l
  refine ⟨fun d e => ?_, fun hi => ⟨vs, h1, by rw [r1.len]; simpa [enmD] using hi⟩⟩
  obtain ⟨x, e', rfl⟩ := enm_get e
  obtain ⟨v, e1, e2⟩ := r1.get e'
  refine ⟨⟨vs, v, h1, e1⟩, fun y H2 q => ?_⟩
  obtain ⟨T, w, rfl, hT, rfl, y2⟩ := q
  have := y2 vs h1
  rw [e1] at this
  cases this
  exact .inr ⟨T, _, _, hT, rfl, rfl, rfl, two_lim, .cons (.int _) (.cons e2 .nil)⟩
theorem zip_get {as es : List D} {i : Nat} {d : D} (h : (zipD as es)[i]? = some d) : ∃ x y, as[i]? = some x ∧ es[i]? = some y ∧ d = .tup [x, y] := by
  unfold zipD at h
  rw [List.getElem?_map] at h
  cases e : (as.zip es)[i]? with
  | none => rw [e] at h; cases h
  | some p =>
    rw [e] at h
    cases h
    obtain ⟨h1, h2⟩ := List.getElem?_zip_eq_some.mp e
    exact ⟨_, _, h1, h2, rfl⟩
theorem zip_len (as es : List D) : (zipD as es).length = min as.length es.length := by simp [zipD]
theorem ItD.zipL {a b : Addr} {vs ws : List V} {ds es : List D} (z : Z a) (z' : Z b) (h : Rd H a (.lst vs)) (h' : Rd H b (.lst ws)) (r : RpL K mg γ Z H vs ds) (r' : RpL K mg γ Z H ws es) : ItD K mg γ Z H (Itz K a b) (zipD ds es) := by
  intro i γ1 Z1 H1 l
  have h1 : SqL K H1 a vs := .inl (Rd.lz l z h)
  have r1 := r.lz l
  have h1' : SqL K H1 b ws := .inl (Rd.lz l z' h')
  have r1' := r'.lz l
  refine ⟨fun d e => ?_, fun hi => ⟨vs, ws, h1, h1', ?_⟩⟩
  · obtain ⟨x, y, e1, e2, rfl⟩ := zip_get e
    obtain ⟨v, g1, g2⟩ := r1.get e1
    obtain ⟨w, g3, g4⟩ := r1'.get e2
    refine ⟨⟨vs, ws, v, w, h1, h1', g1, g3⟩, fun q H2 y => ?_⟩
    obtain ⟨T, v', w', rfl, hT, rfl, y1, y2⟩ := y
    have q1 := y1 vs h1
    have q2 := y2 ws h1'
    rw [g1] at q1
    rw [g3] at q2
    cases q1; cases q2
    exact .inr ⟨T, _, _, hT, rfl, rfl, rfl, two_lim, .cons g2 (.cons g4 .nil)⟩
  · rw [r1.len, r1'.len]
    rw [zip_len] at hi
    omega
theorem ItD.zipT {a b : Addr} {ds es : List D} (r : Rp K mg γ Z H (.ref a) (.tup ds)) (r' : Rp K mg γ Z H (.ref b) (.tup es)) : ItD K mg γ Z H (ItzT K a b) (zipD ds es) := by
  intro i γ1 Z1 H1 l
  obtain ⟨_, vs, e0, h1, r1⟩ := (r.lz l).sqT
  cases e0
  obtain ⟨_, ws, e0, h1', r1'⟩ := (r'.lz l).sqT
  cases e0
  refine ⟨fun d e => ?_, fun hi => ⟨vs, ws, h1, h1', ?_⟩⟩
  · obtain ⟨x, y, e1, e2, rfl⟩ := zip_get e
    obtain ⟨v, g1, g2⟩ := r1.get e1
    obtain ⟨w, g3, g4⟩ := r1'.get e2
    refine ⟨⟨vs, ws, v, w, h1, h1', g1, g3⟩, fun q H2 y => ?_⟩
    obtain ⟨T, v', w', rfl, hT, rfl, y1, y2⟩ := y
    have q1 := y1 vs h1
    have q2 := y2 ws h1'
    rw [g1] at q1
    rw [g3] at q2
    cases q1; cases q2
    exact .inr ⟨T, _, _, hT, rfl, rfl, rfl, two_lim, .cons g2 (.cons g4 .nil)⟩
  · rw [r1.len, r1'.len]
    rw [zip_len] at hi
    omega
end
section
variable {X : Cx} {bs : Bs} {Xq : XQ} {tg : Expr} {a b : Expr} {ma mb : Env → M D} {pos : Pos}
abbrev tIx (X : Cx) (bs : Bs) (Xq : XQ) (m : Env → M (List D)) : TI := tG X.K X.mg bs Xq (rIt X.K X.mg) m
theorem pi_weak {iter : Expr} {t t' : TI} (h : PI X tg iter t) (k : ∀ σ H R, t' σ H R → t σ H R) : PI X tg iter t' := ⟨fun pins s σ H R I hw => h.run pins s σ H R I (k σ H R hw)⟩
theorem pi_or {iter : Expr} {t1 t2 : TI} (h1 : PI X tg iter t1) (h2 : PI X tg iter t2) : PI X tg iter (fun σ H R => t1 σ H R ∨ t2 σ H R) :=
  ⟨fun pins s σ H R I h => h.elim (h1.run pins s σ H R I) (h2.run pins s σ H R I)⟩
theorem q_seq (ha : PE X a (tEx X bs Xq ma)) : PI X tg a (tIx X bs Xq fun env => (ma env).bind fun x => M.opt (itemsD x)) := by
  refine pi_weak (pi_or (pi_list ha) (pi_or (pi_tup ha) (pi_keys ha))) fun σ H R ⟨env, S, γ, Z, f, p⟩ => ?_
  cases e : ma env S with
  | exn c fs S' =>
    unfold M.bind at p; dsimp only at p; rw [e] at p
    exact .inl ⟨env, S, γ, Z, f, by rw [e]; exact p⟩
  | stuck => unfold M.bind at p; dsimp only at p; rw [e] at p; exact p.elim
  | ok q =>
    obtain ⟨d, S1⟩ := q
    unfold M.bind at p; dsimp only at p; rw [e] at p
    obtain ⟨ds, e1, p1⟩ := Pst.opt (o := itemsD d) p
    unfold itemsD at e1
    split at e1 <;> cases e1
    · refine .inl ⟨env, S, γ, Z, f, ?_⟩
      rw [e]
      intro v H1 γ1 Z1 l1 f1 r1
      obtain ⟨a, vs, rfl, z, h1, hz, h2⟩ := r1.lst'
      exact ⟨a, rfl, ⟨vs, SqL.of h1⟩, p1 _ _ _ _ l1 f1 ⟨ItD.list z (.inl h1) h2, hz⟩⟩
    · refine .inl ⟨env, S, γ, Z, f, ?_⟩
      rw [e]
      intro v H1 γ1 Z1 l1 f1 r1
      obtain ⟨a, vs, e2, h1, hz, h2⟩ := r1.scr'
      subst e2
      exact ⟨a, rfl, ⟨vs, h1⟩, p1 _ _ _ _ l1 f1 ⟨ItD.scr r1, hz⟩⟩
    · refine .inr (.inl ⟨env, S, γ, Z, f, ?_⟩)
      rw [e]
      intro v H1 γ1 Z1 l1 f1 r1
      have hz := r1.tlen'
      obtain ⟨a, vs, e2, h1, h2⟩ := r1.sqT
      subst e2
      exact ⟨a, rfl, ⟨vs, h1⟩, p1 _ _ _ _ l1 f1 ⟨ItD.tuple r1, hz⟩⟩
    · refine .inr (.inr ⟨env, S, γ, Z, f, ?_⟩)
      rw [e]
      intro v H1 γ1 Z1 l1 f1 r1
      have hz := r1.dlen
      obtain ⟨a, e2, _, _⟩ := r1.dct'
      subst e2
      obtain ⟨o, ⟨kvs, h1, h2⟩ | ⟨kvs, h1, h2⟩⟩ := ItD.keys r1
      · exact ⟨a, o, rfl, .inl ⟨kvs, h1, p1 _ _ _ _ l1 f1 ⟨h2, by rw [List.length_map]; exact hz⟩⟩⟩
      · exact ⟨a, o, rfl, .inr ⟨kvs, h1, p1 _ _ _ _ l1 f1 ⟨h2, by rw [List.length_map]; exact hz⟩⟩⟩
theorem rng_ok {i j : Int} (h : rngOk i j = true) : -(2 ^ 62) ≤ i ∧ i < 2 ^ 62 ∧ -(2 ^ 62) ≤ j ∧ j < 2 ^ 62 ∧ (rngD i j).length ≤ LIM := by
  simp only [rngOk, Bool.and_eq_true, decide_eq_true_eq] at h
  refine ⟨by omega, by omega, by omega, by omega, ?_⟩
  simp only [rngD, List.length_map, List.length_range]
  exact h.2
abbrev m1 (m : Env → M D) : Env → M (List D) := fun env => (m env).bind fun d => (M.ret []).bind fun ds => M.ret (d :: ds)
theorem q_rng1 {p : Pos} (hg : Gl X "range") (hm : X.mg "range" = none) (ha : PE X a (tEx X bs Xq ma)) (hs : starEach [a] X.env = [(false, eval a X.env)]) :
    PI X tg (.Call (.Name "range" p) [a] [] pos) (tIx X bs Xq fun env => (ma env).bind fun x => (M.opt (iD x)).bind fun j => if rngOk 0 j then M.ret (rngD 0 j) else fun _ => .stuck) := by
  refine pi_weak (pi_range1 hg hm (pa_cons ha pa_nil (by rw [hs]; rfl)) hs) fun σ H R ⟨env, S, γ, Z, f, p⟩ => ⟨env, S, γ, Z, f, p.bind fun x d H1 γ1 Z1 S1 l1 f1 r1 p1 => ?_⟩
  obtain ⟨j, e1, p2⟩ := p1.optB
  obtain ⟨h1, p3⟩ := p2.iteS
  have := iD_some e1
  subst this
  cases r1
  obtain ⟨g1, g2, g3, g4, g5⟩ := rng_ok h1
  refine ⟨j, rfl, g3, g4, ?_⟩
  have e2 : (j - 0).toNat = j.toNat := by simp
  have := ItD.range (K := X.K) (mg := X.mg) (γ := γ1) (Z := Z1) (H := H1) 0 j
  rw [e2] at this
  exact Pst.here (a := rngD 0 j) p3 f1 ⟨this, g5⟩
theorem q_rng2 {p : Pos} (hg : Gl X "range") (hm : X.mg "range" = none) (ha : PE X a (tEx X bs Xq ma)) (hb : PE X b (tEx X bs Xq mb)) (hs : starEach [a, b] X.env = [(false, eval a X.env), (false, eval b X.env)]) (hs2 : starEach [b] X.env = [(false, eval b X.env)]) :
    PI X tg (.Call (.Name "range" p) [a, b] [] pos) (tIx X bs Xq fun env => (ma env).bind fun x => (mb env).bind fun y => (M.opt (iD x)).bind fun i => (M.opt (iD y)).bind fun j => if rngOk i j then M.ret (rngD i j) else fun _ => .stuck) := by
  refine pi_weak (pi_range2 hg hm (pa_cons ha (pa_cons hb pa_nil (by rw [hs2]; rfl)) (by rw [hs, hs2])) hs hs2) fun σ H R ⟨env, S, γ, Z, f, p⟩ => ⟨env, S, γ, Z, f, p.bind fun x d H1 γ1 Z1 S1 l1 f1 r1 p1 => ⟨env, S1, γ1, Z1, f1, p1.bind fun y e H2 γ2 Z2 S2 l2 f2 r2 p2 => ?_⟩⟩
  obtain ⟨i, e1, p3⟩ := p2.optB
  obtain ⟨j, e2, p4⟩ := p3.optB
  obtain ⟨h1, p5⟩ := p4.iteS
  have := iD_some e1
  subst this
  have := iD_some e2
  subst this
  cases r1; cases r2
  obtain ⟨g1, g2, g3, g4, g5⟩ := rng_ok h1
  exact ⟨i, j, rfl, ⟨g1, g2, g3, g4⟩, Pst.here (a := rngD i j) p5 f2 ⟨ItD.range i j, g5⟩⟩
theorem q_zip {p tpos : Pos} {elts : List Expr} {kk : Nat} (hg : Gl X "zip") (hm : X.mg "zip" = none) (ha : PE X a (tEx X bs Xq ma)) (hb : PE X b (tEx X bs Xq mb)) (hs2 : starEach [b] X.env = [(false, eval b X.env)])
    (hs : starEach [a, b] X.env = (false, eval a X.env) :: starEach [b] X.env)
    (hz : PI X (.Tuple elts kk tpos) (.Call (.Name "zip" p) [a, b] [] pos) (iZipA X.K (tCons (tEx X bs Xq ma) (tCons (tEx X bs Xq mb) tNil)))) :
    PI X (.Tuple elts kk tpos) (.Call (.Name "zip" p) [a, b] [] pos) (tIx X bs Xq fun env => (ma env).bind fun x => (mb env).bind fun y => M.opt (zip2 x y)) := by
  refine pi_weak hz fun σ H R ⟨env, S, γ, Z, f, p⟩ => ⟨env, S, γ, Z, f, p.bind fun x d H1 γ1 Z1 S1 l1 f1 r1 p1 => ⟨env, S1, γ1, Z1, f1, p1.bind fun y e H2 γ2 Z2 S2 l2 f2 r2 p2 => ?_⟩⟩
  obtain ⟨ds, e1, p3⟩ := p2.opt
  have r1 := r1.mono f1.ok l2
  unfold zip2 at e1
  split at e1 <;> cases e1
  · obtain ⟨a, vs, rfl, z, h1, hz, h2⟩ := r1.lst'
    obtain ⟨b, ws, rfl, z', h1', hz', h2'⟩ := r2.lst'
    exact ⟨a, b, vs, ws, rfl, .inl ⟨SqL.of h1, SqL.of h1', p3.here f2 ⟨ItD.zipL z z' (.inl h1) (.inl h1') h2 h2', by rw [zip_len]; omega⟩⟩⟩
  · have hz := r1.tlen'
    obtain ⟨a, vs, e3, h1, h2⟩ := r1.sqT
    obtain ⟨b, ws, e4, h1', h2'⟩ := r2.sqT
    subst e3 e4
    exact ⟨a, b, vs, ws, rfl, .inr ⟨h1, h1', p3.here f2 ⟨ItD.zipT r1 r2, by rw [zip_len]; omega⟩⟩⟩
end
end Q

set_option Elab.async false
set_option linter.all false
set_option autoImplicit false
set_option maxRecDepth 100000
set_option maxHeartbeats 1000000
/-! QComp: targets, list comprehensions. -/
namespace Q
open PySem PySem.Spec PyProof.Rows L2
section
variable {K : PySem.W.Frag} {mg : Str → Option Value} {bs : Bs} {Xq : XQ} {γ γ' : List Addr} {Z Z' : Addr → Prop} {H H' : Hp} {S S' : Sto} {σ : L2.St} {env env1 : Env}
theorem slot_set (env : Env) (i j : Nat) (s : Sl) : slot (env.set i s) j = if i = j ∧ i < env.length then s else slot env j := by
  unfold slot
  rw [List.getD_eq_getElem?_getD, List.getD_eq_getElem?_getD, List.getElem?_set]
  by_cases h : i = j
  · subst h
    by_cases h2 : i < env.length
    · simp [h2]
    · simp [h2]
  · simp [h]
theorem slot_lt {i : Nat} (h : slot env i ≠ .no) : i < env.length := by
  apply Decidable.byContradiction
  intro n
  apply h
  unfold slot
  rw [List.getD_eq_getElem?_getD, List.getElem?_eq_none (by omega)]
  rfl
/-- a slot gets a value that is not its own -/
theorem Fr.set (f : Fr K mg bs σ env γ Z H S) (i : Nat) {s : Sl} {x : Option V} (hs : ∀ d, s = .val d → ∃ v, x = some v ∧ Rp K mg γ Z H v d) (hn : ∀ o, s ≠ .own o) : Fr K mg bs (σ.set i x) (env.set i s) γ Z H S := by
  obtain ⟨F, o⟩ := f.own
  have own_of : ∀ {j : Nat} {p : O}, slot (env.set i s) j = .own p → j ≠ i ∧ slot env j = .own p := fun {j p} e => by
    rw [slot_set] at e
    split at e
    · exact absurd e (hn p)
    · rename_i h
      refine ⟨fun z => h ⟨z.symm, ?_⟩, e⟩
      rw [← z]; exact slot_lt (by rw [e]; exact fun z => nomatch z)
  refine ⟨f.ok, f.le, by rw [List.length_set, List.length_set]; exact f.len, fun j d e => ?_, F, fun j p e => ?_, fun j p e => o.nd j p (own_of e).2, fun j p e => o.free j p (own_of e).2, fun j k p q hjk e1 e2 => o.apart j k p q hjk (own_of e1).2 (own_of e2).2⟩
  · rw [slot_set] at e
    split at e
    · rename_i h
      obtain ⟨v, rfl, h2⟩ := hs d e
      refine ⟨v, ?_, h2⟩
      rw [← h.1, List.getElem?_set_self (by rw [← f.len]; exact h.2)]
    · rename_i h
      obtain ⟨v, h1, h2⟩ := f.val j d e
      refine ⟨v, ?_, h2⟩
      have hj : i ≠ j := fun z => h ⟨z, by rw [z]; exact slot_lt (by rw [e]; exact fun z => nomatch z)⟩
      rw [List.getElem?_set_ne hj]
      exact h1
  · obtain ⟨h1, h2⟩ := own_of e
    obtain ⟨a, g1, g2⟩ := o.at_ j p h2
    exact ⟨a, by rw [List.getElem?_set_ne (Ne.symm h1)]; exact g1, g2⟩
theorem Fr.setV (f : Fr K mg bs σ env γ Z H S) (i : Nat) {d : D} {v : V} (r : Rp K mg γ Z H v d) : Fr K mg bs (σ.set i (some v)) (setV env i d) γ Z H S :=
  f.set i (fun d' e => by cases e; exact ⟨v, rfl, r⟩) fun _ z => nomatch z
theorem Fr.wipe (f : Fr K mg bs σ env γ Z H S) : ∀ vs : List Nat, Fr K mg bs (L2.wipe σ vs) (wipE env vs) γ Z H S
  | [] => f
  | v :: vs => (Fr.wipe f vs).set v (fun _ z => nomatch z) fun _ z => nomatch z
theorem wipe_set {x : Option V} {i : Nat} : ∀ {vs : List Nat} (σ : L2.St), i ∈ vs → L2.wipe (σ.set i x) vs = L2.wipe σ vs
  | [], _, h => by simp at h
  | v :: vs, σ, h => by
    unfold L2.wipe
    by_cases hi : i ∈ vs
    · rw [wipe_set σ hi]
    · have e : i = v := by
        rcases List.mem_cons.mp h with h | h
        · exact h
        · exact absurd h hi
      subst e
      have : ∀ vs : List Nat, i ∉ vs → L2.wipe (σ.set i x) vs = (L2.wipe σ vs).set i x := fun vs => by
        induction vs with
        | nil => intro _; rfl
        | cons w ws ih =>
          intro hn
          simp only [List.mem_cons, not_or] at hn
          unfold L2.wipe
          rw [ih hn.2, List.set_comm _ _ (fun z => hn.1 z)]
      rw [this vs hi, List.set_set]
theorem wipe_wipe (σ : L2.St) : ∀ vs : List Nat, ∀ ws : List Nat, (∀ x ∈ ws, x ∈ vs) → L2.wipe (L2.wipe σ ws) vs = L2.wipe σ vs
  | vs, [], _ => rfl
  | vs, w :: ws, h => by
    show L2.wipe ((L2.wipe σ ws).set w none) vs = _
    rw [wipe_set _ (h w (by simp)), wipe_wipe σ vs ws fun x hx => h x (by simp [hx])]
/-- σ' is σ but at these slots -/
def SameOff (vs : List Nat) (σ σ' : L2.St) : Prop := L2.wipe σ' vs = L2.wipe σ vs
/-- a target and its reading -/
def TgR (K : PySem.W.Frag) (mg : Str → Option Value) (bs : Bs) (tg : Tg) (g : TG) : Prop :=
  ∀ {σ : L2.St} {env env1 : Env} {γ : List Addr} {Z : Addr → Prop} {H : Hp} {S : Sto} {x : V} {d : D} {Q : L2.St → Hp → Prop}, Fr K mg bs σ env γ Z H S → Rp K mg γ Z H x d → bindT tg d env = some env1 →
    (∀ σ', Fr K mg bs σ' env1 γ Z H S → SameOff (tgV tg) σ σ' → Q σ' H) → g x σ H Q
theorem tg_name (i : Nat) : TgR K mg bs (.nm i) (gName i) := by
  intro σ env env1 γ Z H S x d Q f r e k
  cases e
  exact k _ (f.setV i r) (wipe_set σ (by simp [tgV]))
def gNames : List Nat → TGs
  | [] => gNil
  | i :: is => gCons (gName i) (gNames is)
theorem gnames_ok (vs : List Nat) {σ0 : L2.St} : ∀ (l : List Nat) {σ : L2.St} {env env1 : Env} {γ : List Addr} {Z : Addr → Prop} {H : Hp} {S : Sto} {xs : List V} {ds : List D} {Q : L2.St → Hp → Prop}, (∀ i ∈ l, i ∈ vs) → SameOff vs σ0 σ → Fr K mg bs σ env γ Z H S → RpL K mg γ Z H xs ds → setVs env l ds = some env1 →
    (∀ σ', Fr K mg bs σ' env1 γ Z H S → SameOff vs σ0 σ' → Q σ' H) → gNames l xs σ H Q
  | [], σ, env, env1, γ, Z, H, S, xs, ds, Q, _, so, f, r, e, k => by
    cases r with
    | nil => cases e; exact ⟨rfl, k σ f so⟩
    | cons _ _ => simp [setVs] at e
  | i :: l, σ, env, env1, γ, Z, H, S, xs, ds, Q, hv, so, f, r, e, k => by
    cases r with
    | nil => simp [setVs] at e
    | cons r t =>
      rename_i v d vs' ds'
      refine ⟨v, vs', rfl, ?_⟩
      show gNames l vs' (σ.set i (some v)) H Q
      exact gnames_ok vs l (fun j hj => hv j (by simp [hj])) (by
        unfold SameOff at so ⊢
        rw [wipe_set _ (hv i (by simp)), so]) (f.setV i r) t e k
theorem setVs_len : ∀ {l : List Nat} {ds : List D} {env env1 : Env}, setVs env l ds = some env1 → ds.length = l.length
  | [], [], _, _, _ => rfl
  | [], _ :: _, _, _, e => by simp [setVs] at e
  | _ :: _, [], _, _, e => by simp [setVs] at e
  | _ :: l, _ :: ds, _, _, e => by
    simp only [setVs] at e
    simp only [List.length_cons, setVs_len e]
theorem tg_tup (l : List Nat) : TgR K mg bs (.tp l) (gTup K l.length (gNames l)) := by
  intro σ env env1 γ Z H S x d Q f r e k
  cases d <;> first | (simp [bindT] at e; done) | skip
  rename_i ds
  obtain ⟨a, vs, rfl, h1, h2⟩ := r.sqT
  simp only [bindT] at e
  exact ⟨a, vs, rfl, h1, by rw [h2.len]; exact setVs_len e, gnames_ok l l (fun _ h => h) rfl f h2 e k⟩
theorem np_some {i : Nat} {l : List Nat} {d : D} (e : bindT (.np i l) d env = some env1) : ∃ a ds, d = .tup [a, .tup ds] ∧ setVs (setV env i a) l ds = some env1 := by
  unfold bindT at e
  split at e
  · rename_i h; cases h
  · rename_i h; cases h
  · rename_i h; cases h; exact ⟨_, _, rfl, e⟩
  · cases e
theorem tg_np (i : Nat) (l : List Nat) : TgR K mg bs (.np i l) (gTup K 2 (gCons (gName i) (gCons (gTup K l.length (gNames l)) gNil))) := by
  intro σ env env1 γ Z H S x d Q f r e k
  obtain ⟨a, ds, rfl, e⟩ := np_some e
  obtain ⟨q, vs, rfl, h1, h2⟩ := r.sqT
  cases h2 with
  | cons r1 t =>
    cases t with
    | cons r2 t =>
      cases t
      refine ⟨q, _, rfl, h1, rfl, _, _, rfl, ?_⟩
      refine ⟨_, _, rfl, ?_⟩
      obtain ⟨q2, ws, rfl, h3, h4⟩ := r2.sqT
      refine ⟨q2, ws, rfl, h3, by rw [h4.len]; exact setVs_len e, ?_⟩
      refine gnames_ok (i :: l) l (fun j hj => by simp [hj]) (by
        unfold SameOff
        exact wipe_set σ (by simp)) (f.setV i r1) h4 e fun σ' f' so => ⟨rfl, k σ' f' so⟩
end
/-! ### a list that grows while a comprehension runs -/
section
variable {K : PySem.W.Frag} {mg : Str → Option Value} {bs : Bs} {Xq : XQ} {γ γ1 γ' : List Addr} {Z Z1 Z' : Addr → Prop} {H H1 H' : Hp} {S S' : Sto} {σ : L2.St} {env env1 : Env} {L : Addr} {o : HO}
theorem Le.updNew (l : Le γ1 Z1 H1 γ Z H) (hn : H1 L = none) (o : HO) : Le γ1 Z1 H1 γ Z (upd H L o) :=
  ⟨fun a u e n => by rw [upd_ne (ne_of_none e hn)]; exact l.keep a u e n, fun a u e => by rw [upd_ne (ne_of_none e hn)]; exact l.there a u e, l.pre, l.zz, l.znew, l.gnew⟩
theorem Lz.updAt {o0 : HO} (h : H L = some o0) (nz : ¬ Z L) (o : HO) (ht : ∀ vs, o0 ≠ .tup vs := by intro _ z; cases z) : Lz γ Z H γ Z (upd H L o) :=
  ⟨fun a ws e => by rw [upd_ne (fun z => by rw [z, h] at e; exact ht ws (Option.some.inj e))]; exact e, fun a u z e => by rw [upd_ne (show a ≠ L from fun q => nz (q ▸ z))]; exact e, ⟨[], by simp⟩, fun _ z => z⟩
theorem Ok.updAt {o0 : HO} (w : Ok K mg γ Z H S) (h : H L = some o0) (nz : ¬ Z L) (ng : L ∉ γ) (o : HO) (ht : ∀ vs, o0 ≠ .tup vs := by intro _ z; cases z) : Ok K mg γ Z (upd H L o) S :=
  ⟨w.len, w.nd, w.nz, fun a z => by rw [upd_ne (show a ≠ L from fun q => nz (q ▸ z))]; exact w.zt a z, fun i a c e1 e2 => by
    obtain ⟨kvs, g1, g2, g3⟩ := w.cells i a c e1 e2
    exact ⟨kvs, by rw [upd_ne (show a ≠ L from fun q => ng (q ▸ List.mem_of_getElem? e1))]; exact g1, g2, g3.lz (Lz.updAt h nz o ht)⟩⟩
/-- the new list is done with -/
theorem Ok.seal {vs : List V} (w : Ok K mg γ Z H S) (h : H L = some (.lst vs)) (ng : L ∉ γ) : Ok K mg γ (fun a => Z a ∨ a = L) H S ∧ Lz γ Z H γ (fun a => Z a ∨ a = L) H := by
  have l : Lz γ Z H γ (fun a => Z a ∨ a = L) H := ⟨fun _ _ e => e, fun _ _ _ e => e, ⟨[], by simp⟩, fun _ z => .inl z⟩
  refine ⟨⟨w.len, w.nd, fun a m z => ?_, fun a z => ?_, fun i a c e1 e2 => ?_⟩, l⟩
  · rcases z with z | z
    · exact w.nz a m z
    · exact ng (z ▸ m)
  · rcases z with z | z
    · exact w.zt a z
    · rw [z]; exact ⟨_, h⟩
  · obtain ⟨kvs, g1, g2, g3⟩ := w.cells i a c e1 e2
    exact ⟨kvs, g1, g2, g3.lz l⟩
theorem Le.seal (l : Le γ1 Z1 H1 γ Z H) (hn : H1 L = none) : Le γ1 Z1 H1 γ (fun a => Z a ∨ a = L) H :=
  ⟨l.keep, l.there, l.pre, fun a z => .inl (l.zz a z), fun a z => by
    rcases z with z | z
    · exact l.znew a z
    · rw [z]; exact .inr hn, l.gnew⟩
theorem Ok.fresh (w : Ok K mg γ Z H S) (h : H L = none) : ¬ Z L ∧ L ∉ γ := by
  refine ⟨fun z => ?_, fun m => ?_⟩
  · obtain ⟨u, e⟩ := w.zt L z
    rw [h] at e; cases e
  · obtain ⟨u, e⟩ := w.at m
    rw [h] at e; cases e
theorem Le.off (l : Le γ Z H γ' Z' H') {u : HO} (h : H L = some u) (nz : ¬ Z L) (ng : L ∉ γ) : H' L = some u ∧ ¬ Z' L ∧ L ∉ γ' := by
  refine ⟨l.keep L u h ng, fun z => ?_, fun m => ?_⟩
  · rcases l.znew L z with q | q
    · exact nz q
    · rw [h] at q; cases q
  · rcases l.gnew L m with q | q
    · exact ng q
    · rw [h] at q; cases q
theorem noX_ok {α : Type} {m : M α} {p : α × Sto} (h : noX m S = .ok p) : m S = .ok p := by
  unfold noX at h
  split at h
  · rename_i e; rw [e]; exact h
  · cases h
theorem Pst.noX {α β : Type} {rel : Rel β α} {α' β' : Type} {rel' : Rel β' α'} {Q : β' → Hp → Prop} {σ2 : L2.St} {env2 : Env} {m : M α} {f : α → M α'} (p : Pst K mg bs Xq rel' σ env Q γ Z H ((noX m).bind f S)) :
    ∃ q : α × Sto, m S = .ok q ∧ Pst K mg bs Xq rel' σ env Q γ Z H (f q.1 q.2) := by
  unfold M.bind at p
  cases e : m S with
  | ok q =>
    refine ⟨q, rfl, ?_⟩
    have e2 : _root_.Q.noX m S = .ok q := by unfold _root_.Q.noX; rw [e]
    rw [e2] at p
    exact p
  | exn c fs S' =>
    have e2 : _root_.Q.noX m S = .stuck := by unfold _root_.Q.noX; rw [e]
    rw [e2] at p
    exact p.elim
  | stuck =>
    have e2 : _root_.Q.noX m S = .stuck := by unfold _root_.Q.noX; rw [e]
    rw [e2] at p
    exact p.elim
abbrev noXq : XQ := fun _ _ _ => False
theorem M.opt_some_bind {α β : Type} (a : α) (f : α → M β) : (M.opt (some a)).bind f = f a := rfl
theorem noX_bind_ok {α β : Type} {m : M α} {f : α → M β} {q : α × Sto} (h : m S = .ok q) : ((noX m).bind f) S = f q.1 q.2 := by
  unfold M.bind noX
  rw [h]; rfl
theorem noX_bind_bad {α β : Type} {m : M α} {f : α → M β} (h : ∀ q, m S ≠ .ok q) : ((noX m).bind f) S = .stuck := by
  unfold M.bind noX
  cases e : m S with
  | ok q => exact absurd e (h q)
  | exn _ _ _ => rfl
  | stuck => rfl
/-- the reading of a list comprehension, from what it is worth; Fin: what is wanted of the list -/
theorem ent_lc0 {tg : Tg} {g : TG} {mc : Env → M Bool} {me : Env → M D} {J : L2.It} {ds : List D} {vs : List Nat} {Q : VK} (hT : TgR K mg bs tg g) (hv : vs = tgV tg) (f1 : Fr K mg bs σ env γ1 Z1 H1 S) (rI : ItD K mg γ1 Z1 H1 J ds) (hz : ds.length ≤ LIM) (Fin : Res (List D × Sto) → Prop)
    (hs : ¬ Fin .stuck) (p1 : Fin (lcT tg (wipE env vs) mc me ds S)) (L : Addr) (hL : H1 L = none)
    (fin : ∀ ys S2 H2 γ2 Z2 acc, Fin (.ok (ys, S2)) → Le γ1 Z1 H1 γ2 Z2 H2 → Ok K mg γ2 Z2 H2 S2 → H2 L = some (.lst acc) → ¬ Z2 L → L ∉ γ2 → ys.length ≤ LIM → RpL K mg γ2 Z2 H2 acc ys → Q (.ref L) H2) :
    ∃ W : Nat → Nat → Hp → Prop, (∃ m, W 0 m (upd H1 L (.lst []))) ∧ ∀ i m H, W i m H →
      (J.stop i H ∧ Q (.ref L) H) ∨ (J.go i H ∧ ∃ Nx : Hp → Prop, (∀ H', Nx H' → ∃ m', m' < m ∧ W (i + 1) m' H') ∧ ∀ x H', J.yld i H x H' → g x (L2.wipe σ vs) H' fun σ2 H2 => L2.wipe σ2 vs = L2.wipe σ vs ∧ tBs K mg bs noXq mc σ2 H2 fun b H3 =>
        if b = true then tE K mg bs noXq me σ2 H3 fun y H4 => ∃ acc, H4 L = some (.lst acc) ∧ acc.length < sizeLine ∧ Nx (upd H4 L (.lst (acc ++ [y]))) else Nx H3) := by
  obtain ⟨nz1, ng1⟩ := f1.ok.fresh hL
  refine ⟨fun i m H2 => m = ds.length - i ∧ i ≤ ds.length ∧ ∃ γ2 Z2 S2 acc ys, Le γ1 Z1 H1 γ2 Z2 H2 ∧ Ok K mg γ2 Z2 H2 S2 ∧ H2 L = some (.lst acc) ∧ ¬ Z2 L ∧ L ∉ γ2 ∧ RpL K mg γ2 Z2 H2 acc ys ∧ ys.length ≤ i ∧
    Fin (((lcT tg (wipE env vs) mc me (ds.drop i)).bind fun zs => M.ret (ys ++ zs)) S2), ?_, ?_⟩
  · refine ⟨ds.length, by simp, Nat.zero_le _, γ1, Z1, S, [], [], Le.new hL, f1.ok.new hL, upd_same, nz1, ng1, .nil, Nat.zero_le _, ?_⟩
    have e : ((lcT tg (wipE env vs) mc me (ds.drop 0)).bind fun zs => M.ret ([] ++ zs)) S = lcT tg (wipE env vs) mc me ds S := by
      rw [List.drop_zero]
      unfold M.bind
      cases lcT tg (wipE env vs) mc me ds S <;> rfl
    rw [e]; exact p1
  · rintro i m H2 ⟨rfl, hi, γ2, Z2, S2, acc, ys, l2, w2, hD, nz2, ng2, ra, hy, p⟩
    have lz12 := l2.lz f1.ok
    obtain ⟨hgo, hstop⟩ := rI i γ2 Z2 H2 lz12
    by_cases hlt : i < ds.length
    · refine .inr ?_
      have ed : ds[i]? = some ds[i] := List.getElem?_eq_getElem hlt
      obtain ⟨g1, g2⟩ := hgo _ ed
      refine ⟨g1, fun H' => ∃ γ2 Z2 S2 acc ys, Le γ1 Z1 H1 γ2 Z2 H' ∧ Ok K mg γ2 Z2 H' S2 ∧ H' L = some (.lst acc) ∧ ¬ Z2 L ∧ L ∉ γ2 ∧ RpL K mg γ2 Z2 H' acc ys ∧ ys.length ≤ i + 1 ∧
        Fin (((lcT tg (wipE env vs) mc me (ds.drop (i + 1))).bind fun zs => M.ret (ys ++ zs)) S2), fun H' q => ⟨ds.length - (i + 1), by omega, rfl, hlt, q⟩, fun x H3 y => ?_⟩
      rw [List.drop_eq_getElem_cons hlt] at p
      simp only [lcT, M.bind_assoc] at p
      cases e1 : bindT tg ds[i] (wipE env vs) with
      | none => rw [e1] at p; exact (hs p).elim
      | some env1 =>
      rw [e1] at p
      simp only [M.opt_some_bind] at p
      cases e2 : mc env1 S2 with
      | exn _ _ _ => rw [noX_bind_bad (fun q => by rw [e2]; exact fun z => nomatch z)] at p; exact (hs p).elim
      | stuck => rw [noX_bind_bad (fun q => by rw [e2]; exact fun z => nomatch z)] at p; exact (hs p).elim
      | ok q1 =>
      rw [noX_bind_ok e2] at p
      -- the world in which the item stands
      have item : ∃ γ3 Z3, Le γ2 Z2 H2 γ3 Z3 H3 ∧ Ok K mg γ3 Z3 H3 S2 ∧ Rp K mg γ3 Z3 H3 x ds[i] := by
        rcases g2 x H3 y with ⟨rfl, r⟩ | ⟨T, ws, es, hT', rfl, rfl, hd, hz', r⟩
        · exact ⟨γ2, Z2, .refl, w2, r⟩
        · refine ⟨γ2, Z2, Le.new hT', w2.new hT', ?_⟩
          rw [hd]
          exact .tup upd_same hz' (r.mono w2 (Le.new hT'))
      obtain ⟨γ3, Z3, l3, w3, r3⟩ := item
      obtain ⟨hD3, nz3, ng3⟩ := l3.off hD nz2 ng2
      have l13 := l2.trans l3
      have f3 := (f1.step l13 w3).wipe vs
      refine hT f3 r3 e1 fun σ' f' so => ⟨?_, ?_⟩
      · unfold SameOff at so
        rw [← hv] at so
        rw [so, wipe_wipe σ vs vs fun _ h => h]
      refine ⟨env1, S2, γ3, Z3, f', ?_⟩
      rw [e2]
      intro bv H4 γ4 Z4 l4 f4 eb
      have eb' : bv = q1.1 := eb
      subst eb'
      obtain ⟨hD4, nz4, ng4⟩ := l4.off hD3 nz3 ng3
      have l14 := l13.trans l4
      have ra4 := (ra.mono w2 l3).mono w3 l4
      cases hb : q1.1 with
      | false =>
        rw [hb] at p
        simp only [Bool.false_eq_true, if_false] at p ⊢
        exact ⟨γ4, Z4, q1.2, acc, ys, l14, f4.ok, hD4, nz4, ng4, ra4, by omega, p⟩
      | true =>
        rw [hb] at p
        simp only [if_true, M.bind_assoc] at p ⊢
        cases e3 : me env1 q1.2 with
        | exn _ _ _ => rw [noX_bind_bad (fun q => by rw [e3]; exact fun z => nomatch z)] at p; exact (hs p).elim
        | stuck => rw [noX_bind_bad (fun q => by rw [e3]; exact fun z => nomatch z)] at p; exact (hs p).elim
        | ok q2 =>
        rw [noX_bind_ok e3] at p
        refine ⟨env1, q1.2, γ4, Z4, f4, ?_⟩
        rw [e3]
        intro yv H5 γ5 Z5 l5 f5 ry
        obtain ⟨hD5, nz5, ng5⟩ := l5.off hD4 nz4 ng4
        have l15 := l14.trans l5
        have ra5 := ra4.mono f4.ok l5
        have lzu := Lz.updAt (γ := γ5) hD5 nz5 (.lst (acc ++ [yv]))
        refine ⟨acc, hD5, by rw [ra5.len, ← lim_eq]; omega, γ5, Z5, q2.2, acc ++ [yv], ys ++ [q2.1], l15.updNew hL _, f5.ok.updAt hD5 nz5 ng5 _, upd_same, nz5, ng5, (ra5.lz lzu).append (.cons (ry.lz lzu) .nil), by rw [List.length_append]; simp; omega, ?_⟩
        simp only [M.ret_bind, List.append_assoc, List.singleton_append] at p ⊢
        exact p
    · have ei : i = ds.length := by omega
      refine .inl ⟨hstop (by omega), ?_⟩
      rw [ei, List.drop_length] at p
      have p' : Fin (.ok (ys ++ [], S2)) := p
      rw [List.append_nil] at p'
      exact fin ys S2 H2 γ2 Z2 acc p' l2 w2 hD nz2 ng2 (by omega) ra
theorem ent_lc {tg : Tg} {g : TG} {mc : Env → M Bool} {me : Env → M D} {J : L2.It} {ds : List D} {vs : List Nat} {Q : VK} (hT : TgR K mg bs tg g) (hv : vs = tgV tg) (f1 : Fr K mg bs σ env γ1 Z1 H1 S) (rI : ItD K mg γ1 Z1 H1 J ds) (hz : ds.length ≤ LIM)
    (p1 : Pst K mg bs Xq (rD K mg) σ env Q γ1 Z1 H1 (((lcT tg (wipE env vs) mc me ds).bind fun ys => M.ret (D.lst ys)) S)) (L : Addr) (hL : H1 L = none) :
    ∃ W : Nat → Nat → Hp → Prop, (∃ m, W 0 m (upd H1 L (.lst []))) ∧ ∀ i m H, W i m H →
      (J.stop i H ∧ Q (.ref L) H) ∨ (J.go i H ∧ ∃ Nx : Hp → Prop, (∀ H', Nx H' → ∃ m', m' < m ∧ W (i + 1) m' H') ∧ ∀ x H', J.yld i H x H' → g x (L2.wipe σ vs) H' fun σ2 H2 => L2.wipe σ2 vs = L2.wipe σ vs ∧ tBs K mg bs noXq mc σ2 H2 fun b H3 =>
        if b = true then tE K mg bs noXq me σ2 H3 fun y H4 => ∃ acc, H4 L = some (.lst acc) ∧ acc.length < sizeLine ∧ Nx (upd H4 L (.lst (acc ++ [y]))) else Nx H3) := by
  refine ent_lc0 hT hv f1 rI hz (fun r => Pst K mg bs Xq (rD K mg) σ env Q γ1 Z1 H1 (r.bind fun p => .ok (D.lst p.1, p.2))) (fun h => h) p1 L hL fun ys S2 H2 γ2 Z2 acc p l w hD nz ng hy ra => ?_
  obtain ⟨ws, lzs⟩ := w.seal hD ng
  have ls := l.seal hL
  exact p (.ref L) H2 γ2 _ ls (f1.step ls ws) (.lst (.inr rfl) hD hy (ra.lz lzs))
end
section
variable {X : Cx} {bs : Bs} {Xq : XQ} {tgE iter elt : Expr} {ifs : List Expr} {scope : Scope} {own : List (Str × Nat)} {pos : Pos} {mi : Env → M (List D)} {mc : Env → M Bool} {me : Env → M D}
abbrev mLc (tg : Tg) (mi : Env → M (List D)) (mc : Env → M Bool) (me : Env → M D) : Env → M D := fun env => (mi env).bind fun ds => (lcT tg (wipE env (tgV tg)) mc me ds).bind fun ys => M.ret (.lst ys)
theorem q_lc (tg : Tg) {g : TG} (hc : X.calm = true) (hN : X.N.Nodup) (hi : PI X tgE iter (tIx X bs Xq mi)) (ok : BlkOk X.N X.env.scope scope own) (hown : own.map (·.2) = tgV tg) (hT : TgR X.K X.mg bs tg g)
    (hg : ∀ (s : Shared) (H : Hp) (C : Addr) (cl : List (Str × Addr)) (fp : List Addr), PG (X.blk s H scope (compEnvC scope cl C X.env) fp) tgE g)
    (ht : ∀ (s : Shared) (H : Hp) (C : Addr) (cl : List (Str × Addr)) (fp : List Addr), PTs (X.blk s H scope (compEnvC scope cl C X.env) fp) ifs (tBs X.K X.mg bs noXq mc))
    (he : ∀ (s : Shared) (H : Hp) (C : Addr) (cl : List (Str × Addr)) (fp : List Addr), PE (X.blk s H scope (compEnvC scope cl C X.env) fp) elt (tE X.K X.mg bs noXq me)) (hs : ∀ x, foldedSetIterable iter X.env x = pure x) :
    PE X (.ListComp elt [⟨tgE, iter, ifs, 0⟩] scope pos) (tEx X bs Xq (mLc tg mi mc me)) := by
  refine pe_weak (pe_lc hc hN hi ok hg ht he hs) fun σ H Q ⟨env, S, γ, Z, f, p⟩ => ⟨env, S, γ, Z, f, p.bind fun J ds H1 γ1 Z1 S1 l1 f1 r1 p1 => ?_⟩
  rw [hown]
  exact ent_lc hT rfl f1 r1.1 r1.2 p1
end
end Q

set_option Elab.async false
set_option linter.all false
set_option autoImplicit false
set_option maxRecDepth 100000
set_option maxHeartbeats 1000000
/-! QOwn: new containers that a frame keeps for itself. -/
namespace Q
open PySem PySem.Spec PyProof.Rows L2
/-- a value that is kept as k; its new objects -/
inductive Fk (K : PySem.W.Frag) (mg : Str → Option Value) (H0 : Hp) (γ : List Addr) (Z : Addr → Prop) (H : Hp) : Ow → V → D → List Addr → Prop
  | val {v : V} {d : D} : Rp K mg γ Z H v d → Fk K mg H0 γ Z H .val v d []
  | lst {a : Addr} {vs : List V} {ds : List D} : H0 a = none → ¬ Z a → a ∉ γ → H a = some (.lst vs) → ds.length ≤ LIM → RpL K mg γ Z H vs ds → Fk K mg H0 γ Z H .lst (.ref a) (.lst ds) [a]
  | l2 {a : Addr} {as : List Addr} {yss : List (List D)} : (∀ x ∈ a :: as, H0 x = none ∧ ¬ Z x ∧ x ∉ γ) → (a :: as).Nodup → H a = some (.lst (as.map V.ref)) → yss.length ≤ LIM → Rows K mg γ Z H as yss → Fk K mg H0 γ Z H .l2 (.ref a) (.lst (yss.map D.lst)) (a :: as)
  | dctK {a : Addr} {kvs : List (Key × V)} {es : List (D × D)} : H0 a = none → ¬ Z a → a ∉ γ → H a = some (.dK kvs) → es.length ≤ LIM → es.map (·.1) = kvs.map (fun p => keyd p.1) → RpL K mg γ Z H (kvs.map (·.2)) (es.map (·.2)) → Fk K mg H0 γ Z H .dct (.ref a) (.dct false es) [a]
  | dctT {a : Addr} {kvs : List (List Key × V)} {es : List (D × D)} : H0 a = none → ¬ Z a → a ∉ γ → H a = some (.dT kvs) → es.length ≤ LIM → es.map (·.1) = kvs.map (fun p => D.tup (p.1.map keyd)) → (∀ p ∈ kvs, p.1.length ≤ LIM) → RpL K mg γ Z H (kvs.map (·.2)) (es.map (·.2)) → Fk K mg H0 γ Z H .dct (.ref a) (.dct true es) [a]
section
variable {K : PySem.W.Frag} {mg : Str → Option Value} {bs : Bs} {Xq : XQ} {γ γ' : List Addr} {Z Z' : Addr → Prop} {H0 H00 H H' : Hp} {S S' : Sto} {σ : L2.St} {env env1 : Env} {k : Ow} {v : V} {d : D} {F : List Addr}
theorem Fk.new (h : Fk K mg H0 γ Z H k v d F) : ∀ x ∈ F, H0 x = none ∧ ¬ Z x ∧ x ∉ γ ∧ ∃ o, H x = some o := by
  intro x hx
  cases h with
  | val _ => simp at hx
  | lst h0 h1 h2 h3 _ _ => simp at hx; subst hx; exact ⟨h0, h1, h2, _, h3⟩
  | l2 h0 _ h3 _ r =>
    obtain ⟨g1, g2, g3⟩ := h0 x hx
    refine ⟨g1, g2, g3, ?_⟩
    rcases List.mem_cons.mp hx with rfl | hx
    · exact ⟨_, h3⟩
    · exact r.there x hx
  | dctK h0 h1 h2 h3 _ _ _ => simp at hx; subst hx; exact ⟨h0, h1, h2, _, h3⟩
  | dctT h0 h1 h2 h3 _ _ _ _ => simp at hx; subst hx; exact ⟨h0, h1, h2, _, h3⟩
theorem Fk.nodup (h : Fk K mg H0 γ Z H k v d F) : F.Nodup := by
  cases h with
  | val _ => exact .nil
  | l2 _ h _ _ _ => exact h
  | _ => simp
theorem Fk.base (h : Fk K mg H0 γ Z H k v d F) (hb : ∀ a, H0 a = none → H00 a = none) : Fk K mg H00 γ Z H k v d F := by
  cases h with
  | val r => exact .val r
  | lst h0 h1 h2 h3 h4 h5 => exact .lst (hb _ h0) h1 h2 h3 h4 h5
  | l2 h0 h1 h2 h3 h4 => exact .l2 (fun x hx => ⟨hb x (h0 x hx).1, (h0 x hx).2⟩) h1 h2 h3 h4
  | dctK h0 h1 h2 h3 h4 h5 h6 => exact .dctK (hb _ h0) h1 h2 h3 h4 h5 h6
  | dctT h0 h1 h2 h3 h4 h5 h6 h7 => exact .dctT (hb _ h0) h1 h2 h3 h4 h5 h6 h7
theorem Fk.mono (w : Ok K mg γ Z H S) (l : Le γ Z H γ' Z' H') (h : Fk K mg H0 γ Z H k v d F) : Fk K mg H0 γ' Z' H' k v d F := by
  have n := h.new
  have off : ∀ x ∈ F, ∀ u, H x = some u → H' x = some u ∧ ¬ Z' x ∧ x ∉ γ' := fun x hx u e => l.off e (n x hx).2.1 (n x hx).2.2.1
  cases h with
  | val r => exact .val (r.mono w l)
  | lst h0 h1 h2 h3 h4 h5 =>
    obtain ⟨g1, g2, g3⟩ := off _ (by simp) _ h3
    exact .lst h0 g2 g3 g1 h4 (h5.mono w l)
  | l2 h0 h1 h2 h3 h4 =>
    refine .l2 (fun x hx => ?_) h1 (off _ (by simp) _ h2).1 h3 (h4.mono w l fun x hx => (h0 x (by simp [hx])).2.2)
    obtain ⟨u, e⟩ := (n x hx).2.2.2
    exact ⟨(h0 x hx).1, (off x hx u e).2⟩
  | dctK h0 h1 h2 h3 h4 h5 h6 =>
    obtain ⟨g1, g2, g3⟩ := off _ (by simp) _ h3
    exact .dctK h0 g2 g3 g1 h4 h5 (h6.mono w l)
  | dctT h0 h1 h2 h3 h4 h5 h6 h7 =>
    obtain ⟨g1, g2, g3⟩ := off _ (by simp) _ h3
    exact .dctT h0 g2 g3 g1 h4 h5 h6 (h7.mono w l)
/-- the slot that keeps it -/
theorem l2_map : ∀ yss : List (List D), (yss.map D.lst).mapM unL = some yss
  | [] => rfl
  | y :: ys => by
    rw [List.map_cons, List.mapM_cons, l2_map ys]
    rfl
theorem Fk.sl (h : Fk K mg H0 γ Z H k v d F) : (∃ o a, ownO k d = some (.own o) ∧ v = .ref a ∧ OwnAt K mg γ Z H a o F) ∨ (ownO k d = some (.val d) ∧ Rp K mg γ Z H v d ∧ F = []) := by
  cases h with
  | val r => exact .inr ⟨rfl, r, rfl⟩
  | lst h0 h1 h2 h3 h4 h5 => exact .inl ⟨_, _, rfl, rfl, .lst h3 h4 h5⟩
  | l2 h0 h1 h2 h3 h4 =>
    refine .inl ⟨.l2 _, _, ?_, rfl, .l2 h2 h3 h4⟩
    simp only [ownO, l2_map, Option.map_some]
  | dctK h0 h1 h2 h3 h4 h5 h6 => exact .inl ⟨_, _, rfl, rfl, .dctK h3 h4 h5 h6⟩
  | dctT h0 h1 h2 h3 h4 h5 h6 h7 => exact .inl ⟨_, _, rfl, rfl, .dctT h3 h4 h5 h6 h7⟩
/-- a slot gets it -/
theorem Fr.setK {Hs : Hp} {γs : List Addr} {Zs : Addr → Prop} {Ss : Sto} (fs : Fr K mg bs σ env γs Zs Hs Ss) (ls : Le γs Zs Hs γ Z H) (f : Fr K mg bs σ env γ Z H S) (h : Fk K mg Hs γ Z H k v d F) (i : Nat) {sl : Sl} (e : ownO k d = some sl)
    (hF : ∃ G, Owns K mg bs σ env γ Z H G ∧ ∀ j o, slot env j = .own o → ∀ x ∈ G j, x ∉ F) : Fr K mg bs (σ.set i (some v)) (env.set i sl) γ Z H S := by
  rcases h.sl with ⟨o, a, e1, rfl, oa⟩ | ⟨e1, r, _⟩
  · rw [e] at e1; cases e1
    obtain ⟨G, og, hd⟩ := hF
    have n := h.new
    have hb : ∀ x ∈ F, bs.H x = none := fun x hx => fs.le.fresh (n x hx).1
    refine ⟨f.ok, f.le, by rw [List.length_set, List.length_set]; exact f.len, fun j d' ej => ?_, fun j => if j = i then F else G j, fun j p ej => ?_, fun j p ej => ?_, fun j p ej => ?_, fun j j' p q hjj e1 e2 => ?_⟩
    · rw [slot_set] at ej
      split at ej
      · cases ej
      · rename_i hh
        obtain ⟨v', h1, h2⟩ := f.val j d' ej
        refine ⟨v', ?_, h2⟩
        rw [List.getElem?_set_ne (fun z => hh ⟨z, by rw [z]; exact slot_lt (by rw [ej]; exact fun z => nomatch z)⟩)]
        exact h1
    · rw [slot_set] at ej
      split at ej
      · rename_i hh
        cases ej
        refine ⟨a, ?_, ?_⟩
        · rw [← hh.1, List.getElem?_set_self (by rw [← f.len]; exact hh.2)]
        · rw [if_pos hh.1.symm]; exact oa
      · rename_i hh
        have hji : j ≠ i := fun z => hh ⟨z.symm, by rw [← z]; exact slot_lt (by rw [ej]; exact fun z => nomatch z)⟩
        obtain ⟨a', g1, g2⟩ := og.at_ j p ej
        refine ⟨a', by rw [List.getElem?_set_ne (Ne.symm hji)]; exact g1, ?_⟩
        rw [if_neg hji]; exact g2
    · show (if j = i then F else G j).Nodup
      by_cases hji : j = i
      · rw [if_pos hji]; exact h.nodup
      · rw [if_neg hji]
        rw [slot_set, if_neg (fun z => hji z.1.symm)] at ej
        exact og.nd j p ej
    · show ∀ x, x ∈ (if j = i then F else G j) → _
      by_cases hji : j = i
      · rw [if_pos hji]; exact fun x hx => ⟨(n x hx).2.1, (n x hx).2.2.1, hb x hx⟩
      · rw [if_neg hji]
        rw [slot_set, if_neg (fun z => hji z.1.symm)] at ej
        exact og.free j p ej
    · show ∀ x, x ∈ (if j = i then F else G j) → x ∉ (if j' = i then F else G j')
      by_cases hji : j = i
      · have hji' : j' ≠ i := fun z => hjj (hji.trans z.symm)
        rw [if_pos hji, if_neg hji']
        rw [slot_set, if_neg (fun z => hji' z.1.symm)] at e2
        exact fun x hx hx' => hd j' q e2 x hx' hx
      · rw [if_neg hji]
        rw [slot_set, if_neg (fun z => hji z.1.symm)] at e1
        by_cases hji' : j' = i
        · rw [if_pos hji']
          exact fun x hx => hd j p e1 x hx
        · rw [if_neg hji']
          rw [slot_set, if_neg (fun z => hji' z.1.symm)] at e2
          exact og.apart j j' p q hjj e1 e2
  · rw [e] at e1; cases e1
    exact f.setV i r
/-- own containers of the frame lie apart from what is new -/
theorem Owns.step {Hs : Hp} {γs : List Addr} {Zs : Addr → Prop} {Ss : Sto} {G : Nat → List Addr} (w : Ok K mg γs Zs Hs Ss) (ls : Le γs Zs Hs γ Z H) (o : Owns K mg bs σ env γs Zs Hs G) : Owns K mg bs σ env γ Z H G := by
  refine ⟨fun i p e => ?_, o.nd, fun i p e x hx => ?_, o.apart⟩
  · obtain ⟨a, h1, h2⟩ := o.at_ i p e
    exact ⟨a, h1, h2.mono w ls fun x hx => (o.free i p e x hx).2.1⟩
  · obtain ⟨h1, h2, h3⟩ := o.free i p e x hx
    obtain ⟨a, _, h4⟩ := o.at_ i p e
    obtain ⟨u, hu⟩ := h4.there x hx
    obtain ⟨g1, g2, g3⟩ := ls.off hu h1 h2
    exact ⟨g2, g3, h3⟩
theorem Fk.apart {Hs : Hp} {γs : List Addr} {Zs : Addr → Prop} {Ss : Sto} (fs : Fr K mg bs σ env γs Zs Hs Ss) (ls : Le γs Zs Hs γ Z H) (h : Fk K mg Hs γ Z H k v d F) : ∃ G, Owns K mg bs σ env γ Z H G ∧ ∀ j o, slot env j = .own o → ∀ x ∈ G j, x ∉ F := by
  obtain ⟨G, og⟩ := fs.own
  refine ⟨G, og.step fs.ok ls, fun j o e x hx hxF => ?_⟩
  obtain ⟨a, _, h4⟩ := og.at_ j o e
  obtain ⟨u, hu⟩ := h4.there x hx
  rw [(h.new x hxF).1] at hu; cases hu
end
/-! ### readings -/
section
variable {K : PySem.W.Frag} {mg : Str → Option Value} {bs : Bs} {Xq : XQ} {γ γ' : List Addr} {Z Z' : Addr → Prop} {H H' : Hp} {S S' : Sto} {σ : L2.St} {env env1 : Env} {k : Ow}
def PstK (K : PySem.W.Frag) (mg : Str → Option Value) (bs : Bs) (X : XQ) (k : Ow) (σ : L2.St) (env : Env) (Q : VK) (γ : List Addr) (Z : Addr → Prop) (H : Hp) : Res (D × Sto) → Prop
  | .ok p => ∀ v F H' γ' Z', Le γ Z H γ' Z' H' → Fr K mg bs σ env γ' Z' H' p.2 → Fk K mg H γ' Z' H' k v p.1 F → Q v H'
  | .exn c fs S' => X c fs S'
  | .stuck => False
def tK (K : PySem.W.Frag) (mg : Str → Option Value) (bs : Bs) (X : XQ) (k : Ow) (m : Env → M D) : TE := fun σ H Q => ∃ env S γ Z, Fr K mg bs σ env γ Z H S ∧ PstK K mg bs X k σ env Q γ Z H (m env S)
theorem PstK.mono {Q : VK} (l : Le γ Z H γ' Z' H') : ∀ {r : Res (D × Sto)}, PstK K mg bs Xq k σ env Q γ Z H r → PstK K mg bs Xq k σ env Q γ' Z' H' r
  | .ok p, h => fun v F H2 γ2 Z2 l2 f r => h v F H2 γ2 Z2 (l.trans l2) f (r.base fun a e => l.fresh e)
  | .exn c fs S', h => h
  | .stuck, h => h
theorem PstK.bind {α β : Type} {rel : Rel β α} {Q : VK} {N : β → Hp → Prop} {m : M α} {f : α → M D} (p : PstK K mg bs Xq k σ env Q γ Z H (m.bind f S))
    (c : ∀ x a H1 γ1 Z1 S1, Le γ Z H γ1 Z1 H1 → Fr K mg bs σ env γ1 Z1 H1 S1 → rel γ1 Z1 H1 x a → PstK K mg bs Xq k σ env Q γ1 Z1 H1 (f a S1) → N x H1) : Pst K mg bs Xq rel σ env N γ Z H (m S) := by
  unfold M.bind at p
  cases e : m S with
  | ok q =>
    rw [e] at p
    intro v H' γ' Z' l fr r
    exact c v q.1 H' γ' Z' q.2 l fr r (PstK.mono l p)
  | exn c fs S' => rw [e] at p; exact p
  | stuck => rw [e] at p; exact p
theorem PstK.bindAt {α β : Type} {rel : Rel β α} {Q : VK} {N : β → Hp → Prop} {m : M α} {f : α → M D} {γ0 : List Addr} {Z0 : Addr → Prop} {H0 : Hp} (p : PstK K mg bs Xq k σ env Q γ Z H (m.bind f S))
    (c : ∀ x a H1 γ1 Z1 S1, Le γ0 Z0 H0 γ1 Z1 H1 → Fr K mg bs σ env γ1 Z1 H1 S1 → rel γ1 Z1 H1 x a → PstK K mg bs Xq k σ env Q γ Z H (f a S1) → N x H1) : Pst K mg bs Xq rel σ env N γ0 Z0 H0 (m S) := by
  unfold M.bind at p
  cases e : m S with
  | ok q =>
    rw [e] at p
    intro v H' γ' Z' l fr r
    exact c v q.1 H' γ' Z' q.2 l fr r p
  | exn c fs S' => rw [e] at p; exact p
  | stuck => rw [e] at p; exact p
theorem PstK.opt {Q : VK} {o : Option D} (p : PstK K mg bs Xq k σ env Q γ Z H (M.opt o S)) : ∃ a, o = some a ∧ PstK K mg bs Xq k σ env Q γ Z H (.ok (a, S)) := by
  cases o with
  | none => exact p.elim
  | some a => exact ⟨a, rfl, p⟩
theorem PstK.optB {Q : VK} {α2 : Type} {o : Option α2} {f : α2 → M D} (p : PstK K mg bs Xq k σ env Q γ Z H ((M.opt o).bind f S)) : ∃ a, o = some a ∧ PstK K mg bs Xq k σ env Q γ Z H (f a S) := by
  cases o with
  | none => exact p.elim
  | some a => exact ⟨a, rfl, p⟩
theorem PstK.iteS {Q : VK} {c : Prop} [Decidable c] {m : M D} (p : PstK K mg bs Xq k σ env Q γ Z H ((if c then m else fun _ => .stuck) S)) : c ∧ PstK K mg bs Xq k σ env Q γ Z H (m S) := by
  by_cases h : c
  · rw [if_pos h] at p; exact ⟨h, p⟩
  · rw [if_neg h] at p; exact p.elim
theorem PstK.newLst {Q : VK} {vs : List V} {ds : List D} {p : Addr} (h : PstK K mg bs Xq .lst σ env Q γ Z H (.ok (.lst ds, S))) (f : Fr K mg bs σ env γ Z H S) (r : RpL K mg γ Z H vs ds) (hz : ds.length ≤ LIM) (hp : H p = none) : Q (.ref p) (upd H p (.lst vs)) := by
  obtain ⟨nz, ng⟩ := f.ok.fresh hp
  exact h (.ref p) [p] _ γ Z (Le.new hp) (f.step (Le.new hp) (f.ok.new hp)) (.lst hp nz ng upd_same hz (r.mono f.ok (Le.new hp)))
theorem PstK.newK {Q : VK} {kvs : List (Key × V)} {es : List (D × D)} {p : Addr} (h : PstK K mg bs Xq .dct σ env Q γ Z H (.ok (.dct false es, S))) (f : Fr K mg bs σ env γ Z H S) (hp : H p = none) (hz : es.length ≤ LIM) (e : es.map (·.1) = kvs.map (fun p => keyd p.1)) (r : RpL K mg γ Z H (kvs.map (·.2)) (es.map (·.2))) : Q (.ref p) (upd H p (.dK kvs)) := by
  obtain ⟨nz, ng⟩ := f.ok.fresh hp
  exact h (.ref p) [p] _ γ Z (Le.new hp) (f.step (Le.new hp) (f.ok.new hp)) (.dctK hp nz ng upd_same hz e (r.mono f.ok (Le.new hp)))
theorem PstK.newT {Q : VK} {p : Addr} (h : PstK K mg bs Xq .dct σ env Q γ Z H (.ok (.dct true [], S))) (f : Fr K mg bs σ env γ Z H S) (hp : H p = none) : Q (.ref p) (upd H p (.dT [])) := by
  obtain ⟨nz, ng⟩ := f.ok.fresh hp
  exact h (.ref p) [p] _ γ Z (Le.new hp) (f.step (Le.new hp) (f.ok.new hp)) (.dctT hp nz ng upd_same (Nat.zero_le _) rfl (fun _ m => by simp at m) .nil)
end
section
variable {X : Cx} {bs : Bs} {Xq : XQ} {a b : Expr} {ma mb : Env → M D} {pos : Pos}
abbrev tKx (X : Cx) (bs : Bs) (Xq : XQ) (k : Ow) (m : Env → M D) : TE := tK X.K X.mg bs Xq k m
theorem k_val (ha : PE X a (tEx X bs Xq ma)) : PE X a (tKx X bs Xq .val ma) := by
  refine pe_weak ha fun σ H Q ⟨env, S, γ, Z, f, p⟩ => ⟨env, S, γ, Z, f, ?_⟩
  cases e : ma env S with
  | ok q =>
    rw [e] at p
    exact fun v H' γ' Z' l fr r => p v [] H' γ' Z' l fr (.val r)
  | exn _ _ _ => rw [e] at p; exact p
  | stuck => rw [e] at p; exact p
theorem k_lst {es : List Expr} {ms : Env → M (List D)} (h : PA X es (tAx X bs Xq ms)) : PE X (.List es pos) (tKx X bs Xq .lst fun env => (ms env).bind fun ds => if ds.length ≤ LIM then M.ret (.lst ds) else fun _ => .stuck) := by
  refine pe_weak (pe_lst h) fun σ H Q ⟨env, S, γ, Z, f, p⟩ => ⟨env, S, γ, Z, f, p.bind fun xs ds H1 γ1 Z1 S1 l1 f1 r1 p1 => ?_⟩
  obtain ⟨hz, p2⟩ := p1.iteS
  exact ⟨by rw [r1.len, ← lim_eq]; exact hz, fun q hq => PstK.newLst p2 f1 r1 hz hq⟩
theorem k_dnewK : PE X (.Dict [] [] pos) (tKx X bs Xq .dct fun _ => M.ret (.dct false [])) :=
  pe_weak pe_dnewK fun σ H Q ⟨env, S, γ, Z, f, p⟩ => fun q hq => PstK.newK p f hq (Nat.zero_le _) rfl .nil
theorem k_dnewT : PE X (.Dict [] [] pos) (tKx X bs Xq .dct fun _ => M.ret (.dct true [])) :=
  pe_weak pe_dnewT fun σ H Q ⟨env, S, γ, Z, f, p⟩ => fun q hq => PstK.newT p f hq
/-- {k: v} -/
theorem k_disp1 (ha : PE X a (tEx X bs Xq ma)) (hb : PE X b (tEx X bs Xq mb)) :
    PE X (.Dict [some a] [b] pos) (tKx X bs Xq .dct fun env => (ma env).bind fun kd => (mb env).bind fun vd => if keyOk false kd = true then M.ret (.dct false [(kd, vd)]) else fun _ => .stuck) := by
  refine pe_weak (pe_disp (pps_cons ha hb pps_nil) (by rfl) (by rfl) (fun z => by cases z) (by show 1 ≤ 15; decide)) fun σ H Q ⟨env, S, γ, Z, f, p⟩ => fun L hL => ?_
  obtain ⟨nz, ng⟩ := f.ok.fresh hL
  have l0 := Le.new (γ := γ) (Z := Z) (o := .dK []) hL
  have f0 := f.step l0 (f.ok.new hL)
  refine ⟨env, S, γ, Z, f0, p.bindAt fun x kd H1 γ1 Z1 S1 l1 f1 r1 p1 => ⟨env, S1, γ1, Z1, f1, p1.bindAt fun y vd H2 γ2 Z2 S2 l2 f2 r2 p2 => ?_⟩⟩
  obtain ⟨hk, p3⟩ := p2.iteS
  obtain ⟨g1, g2, g3⟩ := l1.off upd_same nz ng
  obtain ⟨g1, g2, g3⟩ := l2.off g1 g2 g3
  obtain ⟨q, rfl, rfl⟩ := (r1.mono f1.ok l2).keyK hk
  refine ⟨g1, [(q, y)], rfl, by show 1 ≤ 15; decide, ?_⟩
  have lf := (l0.trans (l1.trans l2)).updNew hL (.dK (mergeK [] [(q, y)]))
  have wf := f2.ok.updAt g1 g2 g3 (.dK (mergeK [] [(q, y)]))
  exact p3 (.ref L) [L] _ γ2 Z2 lf (f.step lf wf) (.dctK hL g2 g3 upd_same (by show 1 ≤ 16777216; decide) rfl (.cons (r2.lz (Lz.updAt g1 g2 _)) .nil))
end
end Q

set_option Elab.async false
set_option linter.all false
set_option autoImplicit false
set_option maxRecDepth 100000
set_option maxHeartbeats 1000000
/-! QOwn2: more new containers. -/
namespace Q
open PySem PySem.Spec PyProof.Rows L2
section
variable {X : Cx} {bs : Bs} {Xq : XQ} {a b : Expr} {ma mb : Env → M D} {p p2 pos : Pos}
/-! ### list(range(..)), tuple(range(..)) -/
theorem RpL.rg {K : PySem.W.Frag} {mg : Str → Option Value} {γ : List Addr} {Z : Addr → Prop} {H : Hp} (i j : Int) : RpL K mg γ Z H (rgV i j) (rngD i j) := by
  unfold rgV rngD
  generalize List.range (j - i).toNat = l
  induction l with
  | nil => exact .nil
  | cons x xs ih => exact .cons (.int _) ih
theorem rg_ok {i j : Int} (h : rngOk i j = true) : RgOk i j ∧ (rngD i j).length ≤ LIM := by
  obtain ⟨g1, g2, g3, g4, g5⟩ := rng_ok h
  refine ⟨⟨g1, g2, g3, g4, ?_⟩, g5⟩
  simp only [rngOk, Bool.and_eq_true, decide_eq_true_eq] at h
  exact h.2
abbrev mRng (ma mb : Env → M D) : Env → M D := fun env => (ma env).bind fun x => (mb env).bind fun y => (M.opt (iD x)).bind fun i => (M.opt (iD y)).bind fun j => if rngOk i j then M.ret (.lst (rngD i j)) else fun _ => .stuck
/-- what a range expression gives -/
def RgE (X : Cx) (bs : Bs) (Xq : XQ) (te : L2.St → Hp → (Int → Int → Hp → Prop) → Prop) (ma mb : Env → M D) : Prop :=
  ∀ σ H (Q : Int → Int → Hp → Prop) env S γ Z (N : Res (D × Sto) → Prop), Fr X.K X.mg bs σ env γ Z H S → N (mRng ma mb env S) → ¬ N .stuck → (∀ c fs S', N (.exn c fs S') → Xq c fs S') →
    (∀ i j H' γ' Z' S', Le γ Z H γ' Z' H' → Fr X.K X.mg bs σ env γ' Z' H' S' → rngOk i j = true → N (.ok (.lst (rngD i j), S')) → Q i j H') → te σ H Q
theorem rge1 (ha : True) : RgE X bs Xq (tRg1 (tEx X bs Xq ma)) (fun _ => M.ret (.int 0)) ma := by
  intro σ H Q env S γ Z N f n ns nx c
  refine ⟨env, S, γ, Z, f, ?_⟩
  unfold mRng at n
  simp only [M.ret_bind] at n
  cases e : ma env S with
  | exn c' fs S' => unfold M.bind at n; dsimp only at n; rw [e] at n; exact nx _ _ _ n
  | stuck => unfold M.bind at n; dsimp only at n; rw [e] at n; exact (ns n).elim
  | ok q =>
    have n' : N (((M.opt (iD (D.int 0))).bind fun i => (M.opt (iD q.1)).bind fun j => if rngOk i j then M.ret (.lst (rngD i j)) else fun _ => .stuck) q.2) := by
      unfold M.bind at n; dsimp only at n; rw [e] at n; exact n
    intro v H' γ' Z' l fr r
    cases hi : iD q.1 with
    | none => rw [hi] at n'; exact (ns n').elim
    | some j =>
      rw [hi] at n'
      have ej := iD_some hi
      rw [ej] at r
      cases r
      refine ⟨j, rfl, ?_⟩
      by_cases hr : rngOk 0 j = true
      · refine c 0 j H' γ' Z' q.2 l fr hr ?_
        have : N ((if rngOk 0 j then M.ret (D.lst (rngD 0 j)) else fun _ => .stuck) q.2) := n'
        rw [if_pos hr] at this; exact this
      · have : N ((if rngOk 0 j then M.ret (D.lst (rngD 0 j)) else fun _ => .stuck) q.2) := n'
        rw [if_neg hr] at this; exact (ns this).elim
theorem rge2 (ha : True) : RgE X bs Xq (tRg2 (tEx X bs Xq ma) (tEx X bs Xq mb)) ma mb := by
  intro σ H Q env S γ Z N f n ns nx c
  refine ⟨env, S, γ, Z, f, ?_⟩
  cases e : ma env S with
  | exn c' fs S' => unfold mRng M.bind at n; dsimp only at n; rw [e] at n; exact nx _ _ _ n
  | stuck => unfold mRng M.bind at n; dsimp only at n; rw [e] at n; exact (ns n).elim
  | ok q =>
    intro v H' γ' Z' l fr r
    refine ⟨env, q.2, γ', Z', fr, ?_⟩
    have n' : N (((mb env).bind fun y => (M.opt (iD q.1)).bind fun i => (M.opt (iD y)).bind fun j => if rngOk i j then M.ret (.lst (rngD i j)) else fun _ => .stuck) q.2) := by
      unfold mRng M.bind at n; dsimp only at n; rw [e] at n; exact n
    cases e2 : mb env q.2 with
    | exn c' fs S' => unfold M.bind at n'; dsimp only at n'; rw [e2] at n'; exact nx _ _ _ n'
    | stuck => unfold M.bind at n'; dsimp only at n'; rw [e2] at n'; exact (ns n').elim
    | ok q2 =>
      intro v2 H2 γ2 Z2 l2 fr2 r2
      have n2 : N (((M.opt (iD q.1)).bind fun i => (M.opt (iD q2.1)).bind fun j => if rngOk i j then M.ret (.lst (rngD i j)) else fun _ => .stuck) q2.2) := by
        unfold M.bind at n'; dsimp only at n'; rw [e2] at n'; exact n'
      cases hi : iD q.1 with
      | none => rw [hi] at n2; exact (ns n2).elim
      | some i =>
        cases hj : iD q2.1 with
        | none => rw [hi, hj] at n2; exact (ns n2).elim
        | some j =>
          rw [hi, hj] at n2
          have ei := iD_some hi
          have ej := iD_some hj
          rw [ei] at r
          rw [ej] at r2
          cases r; cases r2
          refine ⟨i, j, rfl, rfl, ?_⟩
          by_cases hr : rngOk i j = true
          · refine c i j H2 γ2 Z2 q2.2 (l.trans l2) fr2 hr ?_
            have : N ((if rngOk i j then M.ret (D.lst (rngD i j)) else fun _ => .stuck) q2.2) := n2
            rw [if_pos hr] at this; exact this
          · have : N ((if rngOk i j then M.ret (D.lst (rngD i j)) else fun _ => .stuck) q2.2) := n2
            rw [if_neg hr] at this; exact (ns this).elim
theorem q_rngL {e : Expr} {te : L2.St → Hp → (Int → Int → Hp → Prop) → Prop} (hc : X.calm = true) (hg : Gl X "list") (hm : X.mg "list" = none) (he : PRg X e te) (hr : RgE X bs Xq te ma mb) (na : starEach [e] X.env = (false, eval e X.env) :: starEach [] X.env) :
    PE X (.Call (.Name "list" p) [e] [] pos) (tEx X bs Xq (mRng ma mb)) := by
  refine pe_weak (pe_listRg hc hg hm he na) fun σ H Q ⟨env, S, γ, Z, f, n⟩ => ?_
  refine hr σ H _ env S γ Z (fun r => Pst X.K X.mg bs Xq (rD X.K X.mg) σ env Q γ Z H r) f n (fun h => h) (fun _ _ _ h => h) fun i j H' γ' Z' S' l fr ok n' => ?_
  obtain ⟨h1, h2⟩ := rg_ok ok
  exact ⟨h1, fun q hq => Pst.newLst (Pst.mono l n') fr (RpL.rg i j) h2 hq⟩
theorem k_rngL {e : Expr} {te : L2.St → Hp → (Int → Int → Hp → Prop) → Prop} (hc : X.calm = true) (hg : Gl X "list") (hm : X.mg "list" = none) (he : PRg X e te) (hr : RgE X bs Xq te ma mb) (na : starEach [e] X.env = (false, eval e X.env) :: starEach [] X.env) :
    PE X (.Call (.Name "list" p) [e] [] pos) (tKx X bs Xq .lst (mRng ma mb)) := by
  refine pe_weak (pe_listRg hc hg hm he na) fun σ H Q ⟨env, S, γ, Z, f, n⟩ => ?_
  refine hr σ H _ env S γ Z (fun r => PstK X.K X.mg bs Xq .lst σ env Q γ Z H r) f n (fun h => h) (fun _ _ _ h => h) fun i j H' γ' Z' S' l fr ok n' => ?_
  obtain ⟨h1, h2⟩ := rg_ok ok
  exact ⟨h1, fun q hq => PstK.newLst (PstK.mono l n') fr (RpL.rg i j) h2 hq⟩
theorem q_rngT {e : Expr} {te : L2.St → Hp → (Int → Int → Hp → Prop) → Prop} (hc : X.calm = true) (hg : Gl X "tuple") (hm : X.mg "tuple" = none) (he : PRg X e te) (hr : RgE X bs Xq te ma mb) (na : starEach [e] X.env = (false, eval e X.env) :: starEach [] X.env) :
    PE X (.Call (.Name "tuple" p) [e] [] pos) (tEx X bs Xq fun env => (m1 (mRng ma mb) env).bind fun ds => M.opt (pr1 .tuple ds)) := by
  refine pe_weak (pe_tupRg hc hg hm he na) fun σ H Q ⟨env, S, γ, Z, f, n⟩ => ?_
  simp only [m1, M.bind_assoc (mRng ma mb env), M.ret_bind] at n
  refine hr σ H _ env S γ Z (fun r => Pst X.K X.mg bs Xq (rD X.K X.mg) σ env Q γ Z H (r.bind fun q => M.opt (pr1 .tuple [q.1]) q.2)) f n (fun h => h) (fun _ _ _ h => h) fun i j H' γ' Z' S' l fr ok n' => ?_
  obtain ⟨h1, h2⟩ := rg_ok ok
  have n2 : Pst X.K X.mg bs Xq (rD X.K X.mg) σ env Q γ Z H (.ok (D.tup (rngD i j), S')) := n'
  exact ⟨h1, fun q hq => Pst.newTup (Pst.mono l n2) fr (RpL.rg i j) h2 hq⟩
/-! ### [..], list(..), [..] * n kept -/
theorem k_list {x : Expr} {ms : Env → M (List D)} (hc : X.calm = true) (hg : Gl X "list") (hm : X.mg "list" = none) (ha : PA X [x] (tAx X bs Xq ms)) (he : starEach [x] X.env = (false, eval x X.env) :: starEach [] X.env) :
    PE X (.Call (.Name "list" p) [x] [] pos) (tKx X bs Xq .lst fun env => (ms env).bind fun ds => M.opt (pr1 .list ds)) := by
  refine pe_weak (pe_callTy (call_listQ hc) hg hm (by decide +kernel) ha (by decide) (by decide) he (by rfl)) fun σ H Q ⟨env, S, γ, Z, f, p⟩ => ⟨env, S, γ, Z, f, p.bind fun xs ds H1 γ1 Z1 S1 l1 f1 r1 p1 => ?_⟩
  obtain ⟨d, h, p2⟩ := p1.opt
  unfold pr1 at h
  split at h <;> try contradiction
  all_goals (rename_i he; first | cases he | skip)
  · cases h
    cases r1 with
    | cons r t =>
      cases t
      obtain ⟨a, ws, rfl, _, h1, hz, h2⟩ := r.lst'
      exact .inl ⟨a, ws, rfl, .inl (SqL.of h1), fun l hl => p2.newLst f1 h2 hz hl⟩
  · cases h
    cases r1 with
    | cons r t =>
      cases t
      have hz := r.tlen'
      obtain ⟨a, ws, rfl, h1, h2⟩ := r.sqT
      exact .inl ⟨a, ws, rfl, .inr h1, fun l hl => p2.newLst f1 h2 hz hl⟩
  · cases h
    cases r1 with
    | cons r t =>
      cases t
      have hz := r.dlen
      obtain ⟨a, rfl, _, h1⟩ := r.dct'
      rcases h1 with ⟨_, kvs, g1, g2, g3⟩ | ⟨_, kvs, g1, g2, g3, g4⟩
      · refine .inr (.inl ⟨a, kvs, rfl, g1, fun l hl => p2.newLst f1 ?_ (by rw [List.length_map]; exact hz) hl⟩)
        rw [g2]
        have := RpL.keyds (K := X.K) (mg := X.mg) (γ := γ1) (Z := Z1) (H := H1) (kvs.map (·.1))
        rw [List.map_map, List.map_map] at this
        exact this
      · refine .inr (.inr ⟨a, kvs, rfl, g1, fun l as hl hk => p2.newLst f1 ?_ (by rw [List.length_map]; exact hz) hl⟩)
        rw [g2]
        exact keysT_rel hk g3
theorem k_rep (ha : PE X a (tEx X bs Xq ma)) (hb : PE X b (tEx X bs Xq mb)) :
    PE X (.BinOp a .Mult b pos) (tKx X bs Xq .lst fun env => (ma env).bind fun x => (mb env).bind fun y => M.opt (match x with | .lst l => op2 .mul (.lst l) y | _ => none)) := by
  refine pe_weak (pe_op op_rep ha hb) fun σ H Q ⟨env, S, γ, Z, f, p⟩ => ⟨env, S, γ, Z, f, p.bind fun x d H1 γ1 Z1 S1 l1 f1 r1 p1 => ⟨env, S1, γ1, Z1, f1, p1.bind fun y e H2 γ2 Z2 S2 l2 f2 r2 p2 => ?_⟩⟩
  obtain ⟨g, h, p3⟩ := p2.opt
  cases d <;> first | (simp at h; done) | skip
  rename_i ds
  have r1 := r1.mono f1.ok l2
  cases e <;> first | (simp [op2] at h; done) | skip
  rename_i k
  simp only [op2] at h
  split at h <;> cases h
  rename_i hs
  obtain ⟨h1, h2, h3⟩ := hs
  obtain ⟨a, vs, rfl, _, g1, _, r1⟩ := r1.lst'
  cases r2
  have hb : k.toNat * vs.length ≤ 1000 * 1000 := Nat.mul_le_mul (by omega) (by rw [r1.len]; exact h1)
  exact ⟨a, k, vs, rfl, rfl, g1, by omega, by omega, by rw [sizeLine_eq, Nat.mul_comm]; omega, fun q hq => p3.newLst f2 (r1.rep _) (by
    rw [rep_len, ← r1.len]; show _ ≤ 16777216; omega) hq⟩
end
section
variable {X : Cx} {bs : Bs} {Xq : XQ} {tgE iter elt : Expr} {ifs : List Expr} {scope : Scope} {own : List (Str × Nat)} {pos : Pos} {mi : Env → M (List D)} {mc : Env → M Bool} {me : Env → M D}
theorem k_lc (tg : Tg) {g : TG} (hi : PI X tgE iter (tIx X bs Xq mi)) (hown : own.map (·.2) = tgV tg) (hT : TgR X.K X.mg bs tg g) {e : Expr}
    (h : PE X e (tLc (tIx X bs Xq mi) g (tBs X.K X.mg bs noXq mc) (tE X.K X.mg bs noXq me) (own.map (·.2)))) :
    PE X e (tKx X bs Xq .lst (mLc tg mi mc me)) := by
  refine pe_weak h fun σ H Q ⟨env, S, γ, Z, f, p⟩ => ⟨env, S, γ, Z, f, p.bind fun J ds H1 γ1 Z1 S1 l1 f1 r1 p1 => ?_⟩
  rw [hown]
  intro L hL
  refine ent_lc0 hT rfl f1 r1.1 r1.2 (fun r => PstK X.K X.mg bs Xq .lst σ env Q γ1 Z1 H1 (r.bind fun p => .ok (D.lst p.1, p.2))) (fun h => h) p1 L hL fun ys S2 H2 γ2 Z2 acc p l w hD nz ng hy ra => ?_
  exact p (.ref L) [L] H2 γ2 Z2 l (f1.step l w) (.lst hL nz ng hD hy ra)
end
section
variable {K : PySem.W.Frag} {mg : Str → Option Value} {bs : Bs} {Xq : XQ} {γ γ1 γ' : List Addr} {Z Z1 Z' : Addr → Prop} {H H1 H' : Hp} {S S' : Sto} {σ : L2.St} {env env1 : Env} {L : Addr} {o : HO}
theorem Rows.len : ∀ {as : List Addr} {yss : List (List D)}, Rows K mg γ Z H as yss → as.length = yss.length
  | _, _, .nil => rfl
  | _, _, .cons _ _ _ t => congrArg (· + 1) (Rows.len t)
theorem Rows.updAt (l : Lz γ Z H γ Z (upd H L o)) : ∀ {as : List Addr} {yss : List (List D)}, Rows K mg γ Z H as yss → (∀ x ∈ as, x ≠ L) → Rows K mg γ Z (upd H L o) as yss
  | _, _, .nil, _ => .nil
  | _, _, .cons h z r t, n => .cons (by rw [upd_ne (n _ (by simp))]; exact h) z (r.lz l) (Rows.updAt l t fun x hx => n x (by simp [hx]))
theorem Rows.snoc : ∀ {as : List Addr} {yss : List (List D)} {b : Addr} {ws : List V} {es : List D}, Rows K mg γ Z H as yss → H b = some (.lst ws) → es.length ≤ LIM → RpL K mg γ Z H ws es → Rows K mg γ Z H (as ++ [b]) (yss ++ [es])
  | _, _, _, _, _, .nil, h, z, r => .cons h z r .nil
  | _, _, _, _, _, .cons h' z' r' t, h, z, r => .cons h' z' r' (Rows.snoc t h z r)
/-- the same for new lists as items -/
theorem ent_lcR {tg : Tg} {g : TG} {mc : Env → M Bool} {me : Env → M D} {J : L2.It} {ds : List D} {vs : List Nat} {Q : VK} (hT : TgR K mg bs tg g) (hv : vs = tgV tg) (f1 : Fr K mg bs σ env γ1 Z1 H1 S) (rI : ItD K mg γ1 Z1 H1 J ds) (hz : ds.length ≤ LIM) (Fin : Res (List D × Sto) → Prop)
    (hs : ¬ Fin .stuck) (p1 : Fin (lcT tg (wipE env vs) mc me ds S)) (L : Addr) (hL : H1 L = none)
    (fin : ∀ yss S2 H2 γ2 Z2 as, Fin (.ok (yss.map D.lst, S2)) → Le γ1 Z1 H1 γ2 Z2 H2 → Ok K mg γ2 Z2 H2 S2 → H2 L = some (.lst (as.map V.ref)) → (∀ x ∈ L :: as, H1 x = none ∧ ¬ Z2 x ∧ x ∉ γ2) → (L :: as).Nodup → yss.length ≤ LIM → Rows K mg γ2 Z2 H2 as yss → Q (.ref L) H2) :
    ∃ W : Nat → Nat → Hp → Prop, (∃ m, W 0 m (upd H1 L (.lst []))) ∧ ∀ i m H, W i m H →
      (J.stop i H ∧ Q (.ref L) H) ∨ (J.go i H ∧ ∃ Nx : Hp → Prop, (∀ H', Nx H' → ∃ m', m' < m ∧ W (i + 1) m' H') ∧ ∀ x H', J.yld i H x H' → g x (L2.wipe σ vs) H' fun σ2 H2 => L2.wipe σ2 vs = L2.wipe σ vs ∧ tBs K mg bs noXq mc σ2 H2 fun b H3 =>
        if b = true then tK K mg bs noXq .lst me σ2 H3 fun y H4 => ∃ acc, H4 L = some (.lst acc) ∧ acc.length < sizeLine ∧ Nx (upd H4 L (.lst (acc ++ [y]))) else Nx H3) := by
  obtain ⟨nz1, ng1⟩ := f1.ok.fresh hL
  refine ⟨fun i m H2 => m = ds.length - i ∧ i ≤ ds.length ∧ ∃ γ2 Z2 S2 as yss, Le γ1 Z1 H1 γ2 Z2 H2 ∧ Ok K mg γ2 Z2 H2 S2 ∧ H2 L = some (.lst (as.map V.ref)) ∧ (∀ x ∈ L :: as, H1 x = none ∧ ¬ Z2 x ∧ x ∉ γ2) ∧ (L :: as).Nodup ∧ Rows K mg γ2 Z2 H2 as yss ∧ yss.length ≤ i ∧
    Fin (((lcT tg (wipE env vs) mc me (ds.drop i)).bind fun zs => M.ret (yss.map D.lst ++ zs)) S2), ?_, ?_⟩
  · refine ⟨ds.length, by simp, Nat.zero_le _, γ1, Z1, S, [], [], Le.new hL, f1.ok.new hL, upd_same, fun x hx => by simp at hx; subst hx; exact ⟨hL, nz1, ng1⟩, by simp, .nil, Nat.zero_le _, ?_⟩
    have e : ((lcT tg (wipE env vs) mc me (ds.drop 0)).bind fun zs => M.ret (([] : List (List D)).map D.lst ++ zs)) S = lcT tg (wipE env vs) mc me ds S := by
      rw [List.drop_zero]
      unfold M.bind
      cases lcT tg (wipE env vs) mc me ds S <;> rfl
    rw [e]; exact p1
  · rintro i m H2 ⟨rfl, hi, γ2, Z2, S2, as, yss, l2, w2, hD, hx2, hnd, ra, hy, p⟩
    obtain ⟨_, nz2, ng2⟩ := hx2 L (by simp)
    have lz12 := l2.lz f1.ok
    obtain ⟨hgo, hstop⟩ := rI i γ2 Z2 H2 lz12
    by_cases hlt : i < ds.length
    · refine .inr ?_
      have ed : ds[i]? = some ds[i] := List.getElem?_eq_getElem hlt
      obtain ⟨g1, g2⟩ := hgo _ ed
      refine ⟨g1, fun H' => ∃ γ2 Z2 S2 as yss, Le γ1 Z1 H1 γ2 Z2 H' ∧ Ok K mg γ2 Z2 H' S2 ∧ H' L = some (.lst (as.map V.ref)) ∧ (∀ x ∈ L :: as, H1 x = none ∧ ¬ Z2 x ∧ x ∉ γ2) ∧ (L :: as).Nodup ∧ Rows K mg γ2 Z2 H' as yss ∧ yss.length ≤ i + 1 ∧
        Fin (((lcT tg (wipE env vs) mc me (ds.drop (i + 1))).bind fun zs => M.ret (yss.map D.lst ++ zs)) S2), fun H' q => ⟨ds.length - (i + 1), by omega, rfl, hlt, q⟩, fun x H3 y => ?_⟩
      rw [List.drop_eq_getElem_cons hlt] at p
      simp only [lcT, M.bind_assoc] at p
      cases e1 : bindT tg ds[i] (wipE env vs) with
      | none => rw [e1] at p; exact (hs p).elim
      | some env1 =>
      rw [e1] at p
      simp only [M.opt_some_bind] at p
      cases e2 : mc env1 S2 with
      | exn _ _ _ => rw [noX_bind_bad (fun q => by rw [e2]; exact fun z => nomatch z)] at p; exact (hs p).elim
      | stuck => rw [noX_bind_bad (fun q => by rw [e2]; exact fun z => nomatch z)] at p; exact (hs p).elim
      | ok q1 =>
      rw [noX_bind_ok e2] at p
      -- the world in which the item stands
      have item : ∃ γ3 Z3, Le γ2 Z2 H2 γ3 Z3 H3 ∧ Ok K mg γ3 Z3 H3 S2 ∧ Rp K mg γ3 Z3 H3 x ds[i] := by
        rcases g2 x H3 y with ⟨rfl, r⟩ | ⟨T, ws, es, hT', rfl, rfl, hd, hz', r⟩
        · exact ⟨γ2, Z2, .refl, w2, r⟩
        · refine ⟨γ2, Z2, Le.new hT', w2.new hT', ?_⟩
          rw [hd]
          exact .tup upd_same hz' (r.mono w2 (Le.new hT'))
      obtain ⟨γ3, Z3, l3, w3, r3⟩ := item
      obtain ⟨hD3, nz3, ng3⟩ := l3.off hD nz2 ng2
      have l13 := l2.trans l3
      have f3 := (f1.step l13 w3).wipe vs
      refine hT f3 r3 e1 fun σ' f' so => ⟨?_, ?_⟩
      · unfold SameOff at so
        rw [← hv] at so
        rw [so, wipe_wipe σ vs vs fun _ h => h]
      refine ⟨env1, S2, γ3, Z3, f', ?_⟩
      rw [e2]
      intro bv H4 γ4 Z4 l4 f4 eb
      have eb' : bv = q1.1 := eb
      subst eb'
      obtain ⟨hD4, nz4, ng4⟩ := l4.off hD3 nz3 ng3
      have l14 := l13.trans l4
      have l24 := l3.trans l4
      have ra4 := ra.mono w2 l24 fun x hx => (hx2 x (by simp [hx])).2.2
      have hx4 : ∀ x ∈ L :: as, H1 x = none ∧ ¬ Z4 x ∧ x ∉ γ4 := fun x hx => by
        obtain ⟨g1, g2, g3⟩ := hx2 x hx
        obtain ⟨u, hu⟩ : ∃ u, H2 x = some u := by
          rcases List.mem_cons.mp hx with rfl | hx
          · exact ⟨_, hD⟩
          · exact ra.there x hx
        exact ⟨g1, (l24.off hu g2 g3).2⟩
      cases hb : q1.1 with
      | false =>
        rw [hb] at p
        simp only [Bool.false_eq_true, if_false] at p ⊢
        exact ⟨γ4, Z4, q1.2, as, yss, l14, f4.ok, hD4, hx4, hnd, ra4, by omega, p⟩
      | true =>
        rw [hb] at p
        simp only [if_true, M.bind_assoc] at p ⊢
        cases e3 : me env1 q1.2 with
        | exn _ _ _ => rw [noX_bind_bad (fun q => by rw [e3]; exact fun z => nomatch z)] at p; exact (hs p).elim
        | stuck => rw [noX_bind_bad (fun q => by rw [e3]; exact fun z => nomatch z)] at p; exact (hs p).elim
        | ok q2 =>
        rw [noX_bind_ok e3] at p
        refine ⟨env1, q1.2, γ4, Z4, f4, ?_⟩
        rw [e3]
        intro yv F H5 γ5 Z5 l5 f5 ry
        obtain ⟨hD5, nz5, ng5⟩ := l5.off hD4 nz4 ng4
        have l15 := l14.trans l5
        have ra5 := ra4.mono f4.ok l5 fun x hx => (hx4 x (by simp [hx])).2.2
        generalize hd : q2.1 = dy at ry p
        cases ry with
        | lst h0 h1 h2 h3 h4 h5 =>
          rename_i b ws es
          have tr4 : ∀ x ∈ L :: as, ∃ u, H4 x = some u := fun x hx => by
            rcases List.mem_cons.mp hx with rfl | hx
            · exact ⟨_, hD4⟩
            · exact ra4.there x hx
          have hb' : b ∉ L :: as := fun m => by
            obtain ⟨u, hu⟩ := tr4 b m
            rw [h0] at hu; cases hu
          have lzu := Lz.updAt (γ := γ5) hD5 nz5 (.lst (as.map V.ref ++ [V.ref b]))
          refine ⟨as.map V.ref, hD5, by rw [List.length_map, ra5.len, ← lim_eq]; omega, γ5, Z5, q2.2, as ++ [b], yss ++ [es], l15.updNew hL _, f5.ok.updAt hD5 nz5 ng5 _, by rw [List.map_append]; exact upd_same, fun x hx => ?_, ?_, ?_, by rw [List.length_append]; simp; omega, ?_⟩
          · rcases List.mem_cons.mp hx with rfl | hx
            · exact ⟨hL, nz5, ng5⟩
            · rcases List.mem_append.mp hx with hx | hx
              · have hx' : x ∈ L :: as := by simp [hx]
                obtain ⟨u, hu⟩ := tr4 x hx'
                obtain ⟨g1, g2, g3⟩ := hx4 x hx'
                exact ⟨g1, (l5.off hu g2 g3).2⟩
              · simp at hx
                subst hx
                exact ⟨l14.fresh h0, h1, h2⟩
          · have : (L :: (as ++ [b])) = (L :: as) ++ [b] := rfl
            rw [this, List.nodup_append]
            exact ⟨hnd, by simp, fun x hx y hy => by simp at hy; subst hy; exact fun z => hb' (z ▸ hx)⟩
          · refine Rows.snoc (ra5.updAt lzu (fun x hx => ?_)) ?_ h4 (h5.lz lzu)
            · exact fun z => (List.nodup_cons.mp hnd).1 (z ▸ hx)
            · rw [upd_ne (fun z => hb' (by rw [z]; simp))]; exact h3
          · simp only [M.ret_bind, List.map_append, List.map_cons, List.map_nil, List.append_assoc, List.singleton_append] at p ⊢
            exact p
    · have ei : i = ds.length := by omega
      refine .inl ⟨hstop (by omega), ?_⟩
      rw [ei, List.drop_length] at p
      have p' : Fin (.ok (yss.map D.lst ++ [], S2)) := p
      rw [List.append_nil] at p'
      exact fin yss S2 H2 γ2 Z2 as p' l2 w2 hD hx2 hnd (by omega) ra
end
section
variable {X : Cx} {bs : Bs} {Xq : XQ} {tgE iter elt : Expr} {ifs : List Expr} {scope : Scope} {own : List (Str × Nat)} {pos : Pos} {mi : Env → M (List D)} {mc : Env → M Bool} {me : Env → M D}
theorem k_l2 (tg : Tg) {g : TG} (hown : own.map (·.2) = tgV tg) (hT : TgR X.K X.mg bs tg g) {e : Expr}
    (h : PE X e (tLc (tIx X bs Xq mi) g (tBs X.K X.mg bs noXq mc) (tK X.K X.mg bs noXq .lst me) (own.map (·.2)))) :
    PE X e (tKx X bs Xq .l2 (mLc tg mi mc me)) := by
  refine pe_weak h fun σ H Q ⟨env, S, γ, Z, f, p⟩ => ⟨env, S, γ, Z, f, p.bind fun J ds H1 γ1 Z1 S1 l1 f1 r1 p1 => ?_⟩
  rw [hown]
  intro L hL
  refine ent_lcR hT rfl f1 r1.1 r1.2 (fun r => PstK X.K X.mg bs Xq .l2 σ env Q γ1 Z1 H1 (r.bind fun p => .ok (D.lst p.1, p.2))) (fun h => h) p1 L hL fun yss S2 H2 γ2 Z2 as p l w hD hx hnd hy ra => ?_
  exact p (.ref L) (L :: as) H2 γ2 Z2 l (f1.step l w) (.l2 hx hnd hD hy ra)
end
end Q

set_option Elab.async false
set_option linter.all false
set_option autoImplicit false
set_option maxRecDepth 100000
set_option maxHeartbeats 1000000
/-! QStm: statements. -/
namespace Q
open PySem PySem.Spec PyProof.Rows L2
section
variable {K : PySem.W.Frag} {mg : Str → Option Value} {bs : Bs} {Xq : XQ} {γ γ' : List Addr} {Z Z' : Addr → Prop} {H H' : Hp} {S S' : Sto} {σ σ' : L2.St} {env env1 : Env}
def PstS (K : PySem.W.Frag) (mg : Str → Option Value) (bs : Bs) (X : XQ) (E : Ends) (γ : List Addr) (Z : Addr → Prop) (H : Hp) : Res (Out × Sto) → Prop
  | .ok (.nx env', S') => ∀ σ' H' γ' Z', Lz γ Z H γ' Z' H' → Fr K mg bs σ' env' γ' Z' H' S' → E.nx σ' H'
  | .ok (.bk env', S') => ∀ σ' H' γ' Z', Lz γ Z H γ' Z' H' → Fr K mg bs σ' env' γ' Z' H' S' → E.bk σ' H'
  | .ok (.ct env', S') => ∀ σ' H' γ' Z', Lz γ Z H γ' Z' H' → Fr K mg bs σ' env' γ' Z' H' S' → E.ct σ' H'
  | .ok (.rt d, S') => ∀ v H' γ' Z', Le bs.γ bs.Z bs.H γ' Z' H' → Ok K mg γ' Z' H' S' → Rp K mg γ' Z' H' v d → E.rt v H'
  | .exn c fs S' => X c fs S'
  | .stuck => False
def tS (K : PySem.W.Frag) (mg : Str → Option Value) (bs : Bs) (X : XQ) (m : Env → M Out) : TS := fun E σ H => ∃ env S γ Z, Fr K mg bs σ env γ Z H S ∧ PstS K mg bs X E γ Z H (m env S)
theorem PstS.mono {E : Ends} (l : Lz γ Z H γ' Z' H') {r : Res (Out × Sto)} (h : PstS K mg bs Xq E γ Z H r) : PstS K mg bs Xq E γ' Z' H' r := by
  cases r with
  | stuck => exact h
  | exn _ _ _ => exact h
  | ok p =>
    obtain ⟨o, S'⟩ := p
    cases o with
    | nx e => exact fun σ2 H2 γ2 Z2 l2 f => h σ2 H2 γ2 Z2 (l.trans l2) f
    | bk e => exact fun σ2 H2 γ2 Z2 l2 f => h σ2 H2 γ2 Z2 (l.trans l2) f
    | ct e => exact fun σ2 H2 γ2 Z2 l2 f => h σ2 H2 γ2 Z2 (l.trans l2) f
    | rt d => exact h
/-- from an expression to the rest of the statement -/
theorem PstS.bind {α β : Type} {rel : Rel β α} {E : Ends} {N : β → Hp → Prop} {m : M α} {f : α → M Out} (w : Fr K mg bs σ env γ Z H S) (p : PstS K mg bs Xq E γ Z H (m.bind f S))
    (c : ∀ x a H1 γ1 Z1 S1, Le γ Z H γ1 Z1 H1 → Fr K mg bs σ env γ1 Z1 H1 S1 → rel γ1 Z1 H1 x a → PstS K mg bs Xq E γ1 Z1 H1 (f a S1) → N x H1) : Pst K mg bs Xq rel σ env N γ Z H (m S) := by
  unfold M.bind at p
  cases e : m S with
  | ok q =>
    rw [e] at p
    intro v H' γ' Z' l fr r
    exact c v q.1 H' γ' Z' q.2 l fr r (PstS.mono (l.lz w.ok) p)
  | exn c fs S' => rw [e] at p; exact p
  | stuck => rw [e] at p; exact p
theorem PstS.bindK {k : Ow} {E : Ends} {N : VK} {m : M D} {f : D → M Out} (w : Fr K mg bs σ env γ Z H S) (p : PstS K mg bs Xq E γ Z H (m.bind f S))
    (c : ∀ x a F H1 γ1 Z1 S1, Le γ Z H γ1 Z1 H1 → Fr K mg bs σ env γ1 Z1 H1 S1 → Fk K mg H γ1 Z1 H1 k x a F → PstS K mg bs Xq E γ1 Z1 H1 (f a S1) → N x H1) : PstK K mg bs Xq k σ env N γ Z H (m S) := by
  unfold M.bind at p
  cases e : m S with
  | ok q =>
    rw [e] at p
    intro v F H' γ' Z' l fr r
    exact c v q.1 F H' γ' Z' q.2 l fr r (PstS.mono (l.lz w.ok) p)
  | exn c fs S' => rw [e] at p; exact p
  | stuck => rw [e] at p; exact p
theorem PstS.optB {E : Ends} {α2 : Type} {o : Option α2} {f : α2 → M Out} (p : PstS K mg bs Xq E γ Z H ((M.opt o).bind f S)) : ∃ a, o = some a ∧ PstS K mg bs Xq E γ Z H (f a S) := by
  cases o with
  | none => exact p.elim
  | some a => exact ⟨a, rfl, p⟩
theorem PstS.iteS {E : Ends} {c : Prop} [Decidable c] {m : M Out} (p : PstS K mg bs Xq E γ Z H ((if c then m else fun _ => .stuck) S)) : c ∧ PstS K mg bs Xq E γ Z H (m S) := by
  by_cases h : c
  · rw [if_pos h] at p; exact ⟨h, p⟩
  · rw [if_neg h] at p; exact p.elim
/-! ### an own container is changed -/
theorem OwnAt.updAt {x : Addr} {u : HO} (l : Lz γ Z H γ Z (upd H x u)) {a : Addr} {o : O} {F : List Addr} (n : ∀ y ∈ F, y ≠ x) (h : OwnAt K mg γ Z H a o F) : OwnAt K mg γ Z (upd H x u) a o F := by
  cases h with
  | lst h z r => exact .lst (by rw [upd_ne (n _ (by simp))]; exact h) z (r.lz l)
  | l2 h z r => exact .l2 (by rw [upd_ne (n _ (by simp))]; exact h) z (r.updAt l fun y hy => n y (by simp [hy]))
  | dctK h y e r => exact .dctK (by rw [upd_ne (n _ (by simp))]; exact h) y e (r.lz l)
  | dctT h y e q r => exact .dctT (by rw [upd_ne (n _ (by simp))]; exact h) y e q (r.lz l)
/-- the world behind it -/
theorem Fr.updOwn {x : Addr} {u o0 : HO} {i : Nat} {o o' : O} {a : Addr} (f : Fr K mg bs σ env γ Z H S) {F : Nat → List Addr} (ow : Owns K mg bs σ env γ Z H F) (ei : slot env i = .own o) (ha : σ[i]? = some (some (.ref a))) (hx : x ∈ F i) (hx0 : H x = some o0) (ht : ∀ vs, o0 ≠ .tup vs)
    (hn : OwnAt K mg γ Z (upd H x u) a o' (F i)) : Lz γ Z H γ Z (upd H x u) ∧ Fr K mg bs σ (env.set i (.own o')) γ Z (upd H x u) S := by
  obtain ⟨nz, ng, nb⟩ := ow.free i o ei x hx
  have l := Lz.updAt (γ := γ) hx0 nz u ht
  have hlt : i < env.length := slot_lt (by rw [ei]; exact fun z => nomatch z)
  refine ⟨l, f.ok.updAt hx0 nz ng u ht, f.le.updNew nb u, by rw [List.length_set]; exact f.len, fun j d e => ?_, F, fun j p e => ?_, fun j p e => ?_, fun j p e => ?_, fun j k p q hjk e1 e2 => ?_⟩
  · rw [slot_set] at e
    split at e
    · cases e
    · obtain ⟨v, h1, h2⟩ := f.val j d e
      exact ⟨v, h1, h2.lz l⟩
  · rw [slot_set] at e
    split at e
    · rename_i hh
      cases e
      obtain ⟨rfl, _⟩ := hh
      exact ⟨a, ha, hn⟩
    · rename_i hh
      have hji : j ≠ i := fun z => hh ⟨z.symm, hlt⟩
      obtain ⟨b, h1, h2⟩ := ow.at_ j p e
      exact ⟨b, h1, h2.updAt l fun y hy z => ow.apart j i p o hji e ei y hy (z ▸ hx)⟩
  · by_cases hji : j = i
    · rw [hji]; exact ow.nd i o ei
    · rw [slot_set, if_neg (fun z => hji z.1.symm)] at e
      exact ow.nd j p e
  · by_cases hji : j = i
    · rw [hji]; exact ow.free i o ei
    · rw [slot_set, if_neg (fun z => hji z.1.symm)] at e
      exact ow.free j p e
  · have s1 : ∃ p', slot env j = .own p' := by
      by_cases hji : j = i
      · rw [hji]; exact ⟨o, ei⟩
      · rw [slot_set, if_neg (fun z => hji z.1.symm)] at e1; exact ⟨p, e1⟩
    have s2 : ∃ p', slot env k = .own p' := by
      by_cases hji : k = i
      · rw [hji]; exact ⟨o, ei⟩
      · rw [slot_set, if_neg (fun z => hji z.1.symm)] at e2; exact ⟨q, e2⟩
    obtain ⟨p', s1⟩ := s1
    obtain ⟨q', s2⟩ := s2
    exact ow.apart j k p' q' hjk s1 s2
/-- an own list of a slot -/
theorem Fr.ownL (f : Fr K mg bs σ env γ Z H S) {i : Nat} {xs : List D} (e : slot env i = .own (.lst xs)) : ∃ a vs, σ[i]? = some (some (.ref a)) ∧ H a = some (.lst vs) ∧ xs.length ≤ LIM ∧ RpL K mg γ Z H vs xs ∧ ¬ Z a ∧ a ∉ γ ∧
    ∀ (ws : List V) (ys : List D), ys.length ≤ LIM → (∀ u, Lz γ Z H γ Z (upd H a u) → RpL K mg γ Z (upd H a u) ws ys) → Lz γ Z H γ Z (upd H a (.lst ws)) ∧ Fr K mg bs σ (env.set i (.own (.lst ys))) γ Z (upd H a (.lst ws)) S := by
  obtain ⟨F, ow⟩ := f.own
  obtain ⟨a, h1, h2⟩ := ow.at_ i _ e
  generalize hF : F i = Fi at h2
  cases h2 with
  | lst h z r =>
    have hx : a ∈ F i := by rw [hF]; simp
    obtain ⟨nz, ng, nb⟩ := ow.free i _ e a hx
    refine ⟨a, _, h1, h, z, r, nz, ng, fun ws ys hy hr => ?_⟩
    have l := Lz.updAt (γ := γ) h nz (.lst ws)
    exact f.updOwn ow e h1 hx h (fun _ z => nomatch z) (by rw [hF]; exact .lst upd_same hy (hr _ l))
end
section
variable {X : Cx} {bs : Bs} {Xq : XQ} {pos : Pos}
abbrev tSx (X : Cx) (bs : Bs) (Xq : XQ) (m : Env → M Out) : TS := tS X.K X.mg bs Xq m
theorem s_nil : PSs X [] (tSx X bs Xq fun env => M.ret (.nx env)) := pss_weak pss_nil fun E σ H ⟨env, S, γ, Z, f, p⟩ => p σ H γ Z .refl f
abbrev mSeq (m1 m2 : Env → M Out) : Env → M Out := fun env => (m1 env).bind fun o => match o with
  | .nx env1 => m2 env1
  | .rt d => M.ret (.rt d)
  | .bk env1 => M.ret (.bk env1)
  | .ct env1 => M.ret (.ct env1)
theorem seq_ent {K : PySem.W.Frag} {mg : Str → Option Value} {m1 m2 : Env → M Out} {E : Ends} {σ : L2.St} {H : Hp} (h : tS K mg bs Xq (mSeq m1 m2) E σ H) : tS K mg bs Xq m1 { E with nx := tS K mg bs Xq m2 E } σ H := by
  obtain ⟨env, S, γ, Z, f, p⟩ := h
  refine ⟨env, S, γ, Z, f, ?_⟩
  unfold mSeq M.bind at p
  dsimp only at p
  cases e : m1 env S with
  | stuck => rw [e] at p; exact p
  | exn _ _ _ => rw [e] at p; exact p
  | ok q =>
    obtain ⟨o, S'⟩ := q
    rw [e] at p
    cases o with
    | nx env1 => exact fun σ' H' γ' Z' l f' => ⟨env1, S', γ', Z', f', PstS.mono l p⟩
    | rt d => exact p
    | bk env1 => exact p
    | ct env1 => exact p
theorem s_cons {st : Stmt} {rest : List Stmt} {m1 m2 : Env → M Out} (h1 : PS X st (tSx X bs Xq m1)) (h2 : PSs X rest (tSx X bs Xq m2)) : PSs X (st :: rest) (tSx X bs Xq (mSeq m1 m2)) :=
  pss_weak (pss_cons h1 h2) fun E σ H h => seq_ent h
/-! ### assignments -/
theorem s_set {i : Nat} {e : Expr} {st : Stmt} {me : Env → M D} (h : PS X st (tAsg (tEx X bs Xq me) (gName i))) : PS X st (tSx X bs Xq fun env => (me env).bind fun d => M.ret (.nx (setV env i d))) := by
  refine ps_weak h fun E σ H ⟨env, S, γ, Z, f, p⟩ => ⟨env, S, γ, Z, f, p.bind f fun x d H1 γ1 Z1 S1 l1 f1 r1 p1 => ?_⟩
  exact p1 _ H1 γ1 Z1 .refl (f1.setV i r1)
theorem s_tgt {tg : Tg} {g : TG} {st : Stmt} {me : Env → M D} (hT : TgR X.K X.mg bs tg g) (h : PS X st (tAsg (tEx X bs Xq me) g)) : PS X st (tSx X bs Xq fun env => (me env).bind fun d => (M.opt (bindT tg d env)).bind fun env1 => M.ret (.nx env1)) := by
  refine ps_weak h fun E σ H ⟨env, S, γ, Z, f, p⟩ => ⟨env, S, γ, Z, f, p.bind f fun x d H1 γ1 Z1 S1 l1 f1 r1 p1 => ?_⟩
  obtain ⟨env1, e1, p2⟩ := p1.optB
  exact hT f1 r1 e1 fun σ' f' so => p2 σ' H1 γ1 Z1 .refl f'
theorem s_own {i : Nat} {k : Ow} {st : Stmt} {me : Env → M D} (h : PS X st (tAsg (tKx X bs Xq k me) (gName i))) : PS X st (tSx X bs Xq fun env => (me env).bind fun d => (M.opt (ownO k d)).bind fun sl => M.ret (.nx (env.set i sl))) := by
  refine ps_weak h fun E σ H ⟨env, S, γ, Z, f, p⟩ => ⟨env, S, γ, Z, f, p.bindK f fun x d F H1 γ1 Z1 S1 l1 f1 r1 p1 => ?_⟩
  obtain ⟨sl, e1, p2⟩ := p1.optB
  exact p2 _ H1 γ1 Z1 .refl (Fr.setK f l1 f1 r1 i e1 (r1.apart f l1))
/-! ### return, expressions, if -/
theorem s_ret {e : Expr} {me : Env → M D} (he : PE X e (tEx X bs Xq me)) : PS X (.Return (some e) pos) (tSx X bs Xq fun env => (me env).bind fun d => M.ret (.rt d)) := by
  refine ps_weak (ps_ret he) fun E σ H ⟨env, S, γ, Z, f, p⟩ => ⟨env, S, γ, Z, f, p.bind f fun x d H1 γ1 Z1 S1 l1 f1 r1 p1 => ?_⟩
  exact p1 x H1 γ1 Z1 f1.le f1.ok r1
theorem s_retN : PS X (.Return none pos) (tSx X bs Xq fun _ => M.ret (.rt .non)) :=
  ps_weak ps_retN fun E σ H ⟨env, S, γ, Z, f, p⟩ => p .non H γ Z f.le f.ok .non
theorem s_pass : PS X (.Pass pos) (tSx X bs Xq fun env => M.ret (.nx env)) := ps_weak ps_pass fun E σ H ⟨env, S, γ, Z, f, p⟩ => p σ H γ Z .refl f
theorem s_brk : PS X (.Break pos) (tSx X bs Xq fun env => M.ret (.bk env)) := ps_weak ps_break fun E σ H ⟨env, S, γ, Z, f, p⟩ => p σ H γ Z .refl f
theorem s_cnt : PS X (.Continue pos) (tSx X bs Xq fun env => M.ret (.ct env)) := ps_weak ps_continue fun E σ H ⟨env, S, γ, Z, f, p⟩ => p σ H γ Z .refl f
theorem s_exp {e : Expr} {me : Env → M D} (he : PE X e (tEx X bs Xq me)) (hs : swapsWith e none pos.line X.env = pure false) : PS X (.Expr e pos) (tSx X bs Xq fun env => (me env).bind fun _ => M.ret (.nx env)) := by
  refine ps_weak (ps_expr he hs) fun E σ H ⟨env, S, γ, Z, f, p⟩ => ⟨env, S, γ, Z, f, p.bind f fun x d H1 γ1 Z1 S1 l1 f1 r1 p1 => ?_⟩
  exact p1 σ H1 γ1 Z1 .refl f1
theorem s_if {c : Expr} {a b : List Stmt} {mc : Env → M D} {m1 m2 : Env → M Out} (hc : PT X c (tBx X bs Xq (mB mc))) (ha : PSs X a (tSx X bs Xq m1)) (hb : PSs X b (tSx X bs Xq m2)) :
    PS X (.If c a b pos) (tSx X bs Xq fun env => (mc env).bind fun x => (M.opt (bD x)).bind fun k => if k then m1 env else m2 env) := by
  refine ps_weak (ps_if hc ha hb) fun E σ H ⟨env, S, γ, Z, f, p⟩ => ⟨env, S, γ, Z, f, ?_⟩
  simp only [← M.bind_assoc] at p
  refine PstS.bind (m := (mc env).bind fun d => M.opt (bD d)) f p fun x k H1 γ1 Z1 S1 l1 f1 r1 p1 => ?_
  subst r1
  cases x with
  | true => exact ⟨env, S1, γ1, Z1, f1, p1⟩
  | false => exact ⟨env, S1, γ1, Z1, f1, p1⟩
/-! ### loops -/
theorem whl_ent {K : PySem.W.Frag} {mg : Str → Option Value} {mc : Env → M Bool} {mb : Env → M Out} {E : Ends} {n : Nat} {σ : L2.St} {H : Hp} (h : tS K mg bs Xq (whlT mc mb n) E σ H) : tWhile (tBs K mg bs Xq mc) (tS K mg bs Xq mb) E σ H := by
  obtain ⟨env, S, γ, Z, f, p⟩ := h
  refine ⟨fun m σ H => ∃ env S γ Z, Fr K mg bs σ env γ Z H S ∧ PstS K mg bs Xq E γ Z H (whlT mc mb m env S), ⟨n, env, S, γ, Z, f, p⟩, ?_⟩
  rintro m σ H ⟨env, S, γ, Z, f, p⟩
  cases m with
  | zero => exact p.elim
  | succ m =>
    simp only [whlT] at p
    refine ⟨env, S, γ, Z, f, PstS.bind (rel := rB) f p fun k k' H1 γ1 Z1 S1 l1 f1 r1 p1 => ?_⟩
    subst r1
    cases k with
    | false => exact p1 σ H1 γ1 Z1 .refl f1
    | true =>
      simp only [if_true] at p1 ⊢
      refine ⟨fun σ' H' => ∃ env S γ Z, Fr K mg bs σ' env γ Z H' S ∧ PstS K mg bs Xq E γ Z H' (whlT mc mb m env S), fun σ' H' q => ⟨m, Nat.lt_succ_self m, q⟩, env, S1, γ1, Z1, f1, ?_⟩
      unfold M.bind at p1
      cases e : mb env S1 with
      | stuck => rw [e] at p1; exact p1
      | exn _ _ _ => rw [e] at p1; exact p1
      | ok q =>
        obtain ⟨o, S'⟩ := q
        rw [e] at p1
        cases o with
        | nx env1 => exact fun σ' H' γ' Z' l f' => ⟨env1, S', γ', Z', f', PstS.mono l p1⟩
        | ct env1 => exact fun σ' H' γ' Z' l f' => ⟨env1, S', γ', Z', f', PstS.mono l p1⟩
        | bk env1 => exact p1
        | rt d => exact p1
theorem s_while {c : Expr} {body : List Stmt} {mc : Env → M D} {mb : Env → M Out} (hp : PassesOwn (model X.prog X.w) X.A X.env X.xe) (hc : PT X c (tBx X bs Xq (mB mc))) (hb : PSs X body (tSx X bs Xq mb)) : PS X (.While c body [] pos) (tSx X bs Xq (whlT (mB mc) mb TURNS)) :=
  ps_weak (ps_while hp hc hb) fun E σ H h => whl_ent h
theorem for_ent {K : PySem.W.Frag} {mg : Str → Option Value} {tg : Tg} {g : TG} {mi : Env → M (List D)} {mb : Env → M Out} (hT : TgR K mg bs tg g) {E : Ends} {σ : L2.St} {H : Hp} (h : tS K mg bs Xq (fun env => (mi env).bind fun ds => forT tg mb ds env) E σ H) :
    tFor (tG K mg bs Xq (rIt K mg) mi) g (tS K mg bs Xq mb) E σ H := by
  obtain ⟨env, S, γ, Z, f, p⟩ := h
  refine ⟨env, S, γ, Z, f, p.bind f fun J ds H1 γ1 Z1 S1 l1 f1 r1 p1 => ?_⟩
  obtain ⟨rI, hz⟩ := r1
  refine ⟨fun i m σ H => m = ds.length - i ∧ i ≤ ds.length ∧ ∃ env S γ Z, Lz γ1 Z1 H1 γ Z H ∧ Fr K mg bs σ env γ Z H S ∧ PstS K mg bs Xq E γ Z H (forT tg mb (ds.drop i) env S), ⟨ds.length, by simp, Nat.zero_le _, env, S1, γ1, Z1, .refl, f1, by simpa using p1⟩, ?_⟩
  rintro i m σ2 H2 ⟨rfl, hi, env2, S2, γ2, Z2, lz, f2, p2⟩
  obtain ⟨hgo, hstop⟩ := rI i γ2 Z2 H2 lz
  by_cases hlt : i < ds.length
  · have ed : ds[i]? = some ds[i] := List.getElem?_eq_getElem hlt
    obtain ⟨g1, g2⟩ := hgo _ ed
    refine .inr ⟨g1, fun σ' H' => ∃ env S γ Z, Lz γ1 Z1 H1 γ Z H' ∧ Fr K mg bs σ' env γ Z H' S ∧ PstS K mg bs Xq E γ Z H' (forT tg mb (ds.drop (i + 1)) env S), fun σ' H' q => ⟨ds.length - (i + 1), by omega, rfl, hlt, q⟩, fun x H3 y => ?_⟩
    rw [List.drop_eq_getElem_cons hlt] at p2
    simp only [forT] at p2
    obtain ⟨env3, e1, p3⟩ := p2.optB
    have item : ∃ γ3 Z3, Le γ2 Z2 H2 γ3 Z3 H3 ∧ Ok K mg γ3 Z3 H3 S2 ∧ Rp K mg γ3 Z3 H3 x ds[i] := by
      rcases g2 x H3 y with ⟨rfl, r⟩ | ⟨T, ws, es, hT', rfl, rfl, hd, hz', r⟩
      · exact ⟨γ2, Z2, .refl, f2.ok, r⟩
      · refine ⟨γ2, Z2, Le.new hT', f2.ok.new hT', ?_⟩
        rw [hd]
        exact .tup upd_same hz' (r.mono f2.ok (Le.new hT'))
    obtain ⟨γ3, Z3, l3, w3, r3⟩ := item
    have f3 := f2.step l3 w3
    have lz3 := l3.lz f2.ok
    refine hT f3 r3 e1 fun σ' f' so => ⟨env3, S2, γ3, Z3, f', ?_⟩
    have p4 := PstS.mono lz3 p3
    unfold M.bind at p4
    cases e : mb env3 S2 with
    | stuck => rw [e] at p4; exact p4
    | exn _ _ _ => rw [e] at p4; exact p4
    | ok q =>
      obtain ⟨o, S'⟩ := q
      rw [e] at p4
      cases o with
      | nx env1 => exact fun σ' H' γ' Z' l f' => ⟨env1, S', γ', Z', (lz.trans lz3).trans l, f', PstS.mono l p4⟩
      | ct env1 => exact fun σ' H' γ' Z' l f' => ⟨env1, S', γ', Z', (lz.trans lz3).trans l, f', PstS.mono l p4⟩
      | bk env1 => exact p4
      | rt d => exact p4
  · have ei : i = ds.length := by omega
    refine .inl ⟨hstop (by omega), ?_⟩
    rw [ei, List.drop_length] at p2
    exact p2 σ2 H2 γ2 Z2 .refl f2
theorem s_for {tg : Tg} {g : TG} {tgE iter : Expr} {body : List Stmt} {mi : Env → M (List D)} {mb : Env → M Out} (hp : PassesOwn (model X.prog X.w) X.A X.env X.xe) (hc : X.calm = true) (hi : PI X tgE iter (tIx X bs Xq mi)) (hg : PG X tgE g) (hT : TgR X.K X.mg bs tg g) (hb : PSs X body (tSx X bs Xq mb))
    (hs : ∀ x, foldedSetIterable iter X.env x = pure x) : PS X (.For tgE iter body [] pos) (tSx X bs Xq fun env => (mi env).bind fun ds => forT tg mb ds env) :=
  ps_weak (ps_for hp hc hi hg hb hs) fun E σ H h => for_ent hT h
end
end Q

set_option Elab.async false
set_option linter.all false
set_option autoImplicit false
set_option maxRecDepth 100000
set_option maxHeartbeats 1000000
/-! QStm2: statements that change own containers. -/
namespace Q
open PySem PySem.Spec PyProof.Rows L2
section
variable {K : PySem.W.Frag} {mg : Str → Option Value} {bs : Bs} {Xq : XQ} {γ γ' : List Addr} {Z Z' : Addr → Prop} {H H' : Hp} {S S' : Sto} {σ σ' : L2.St} {env env1 : Env}
/-- an expression that may change the frame's own containers -/
def PstF (K : PySem.W.Frag) (mg : Str → Option Value) (bs : Bs) (X : XQ) (σ : L2.St) (Q : VK) (γ : List Addr) (Z : Addr → Prop) (H : Hp) : Res ((D × Env) × Sto) → Prop
  | .ok p => ∀ v H' γ' Z', Lz γ Z H γ' Z' H' → Fr K mg bs σ p.1.2 γ' Z' H' p.2 → Rp K mg γ' Z' H' v p.1.1 → Q v H'
  | .exn c fs S' => X c fs S'
  | .stuck => False
def tF (K : PySem.W.Frag) (mg : Str → Option Value) (bs : Bs) (X : XQ) (m : Env → M (D × Env)) : TE := fun σ H Q => ∃ env S γ Z, Fr K mg bs σ env γ Z H S ∧ PstF K mg bs X σ Q γ Z H (m env S)
theorem PstF.mono {Q : VK} (l : Lz γ Z H γ' Z' H') : ∀ {r : Res ((D × Env) × Sto)}, PstF K mg bs Xq σ Q γ Z H r → PstF K mg bs Xq σ Q γ' Z' H' r
  | .ok p, h => fun v H2 γ2 Z2 l2 f r => h v H2 γ2 Z2 (l.trans l2) f r
  | .exn c fs S', h => h
  | .stuck, h => h
theorem PstF.bind {α β : Type} {rel : Rel β α} {Q : VK} {N : β → Hp → Prop} {m : M α} {f : α → M (D × Env)} (w : Fr K mg bs σ env γ Z H S) (p : PstF K mg bs Xq σ Q γ Z H (m.bind f S))
    (c : ∀ x a H1 γ1 Z1 S1, Le γ Z H γ1 Z1 H1 → Fr K mg bs σ env γ1 Z1 H1 S1 → rel γ1 Z1 H1 x a → PstF K mg bs Xq σ Q γ1 Z1 H1 (f a S1) → N x H1) : Pst K mg bs Xq rel σ env N γ Z H (m S) := by
  unfold M.bind at p
  cases e : m S with
  | ok q =>
    rw [e] at p
    intro v H' γ' Z' l fr r
    exact c v q.1 H' γ' Z' q.2 l fr r (PstF.mono (l.lz w.ok) p)
  | exn c fs S' => rw [e] at p; exact p
  | stuck => rw [e] at p; exact p
theorem PstF.opt {Q : VK} {o : Option (D × Env)} (p : PstF K mg bs Xq σ Q γ Z H (M.opt o S)) : ∃ a, o = some a ∧ PstF K mg bs Xq σ Q γ Z H (.ok (a, S)) := by
  cases o with
  | none => exact p.elim
  | some a => exact ⟨a, rfl, p⟩
theorem PstF.optB {Q : VK} {α2 : Type} {o : Option α2} {f : α2 → M (D × Env)} (p : PstF K mg bs Xq σ Q γ Z H ((M.opt o).bind f S)) : ∃ a, o = some a ∧ PstF K mg bs Xq σ Q γ Z H (f a S) := by
  cases o with
  | none => exact p.elim
  | some a => exact ⟨a, rfl, p⟩
theorem PstS.bindF {E : Ends} {N : VK} {m : M (D × Env)} {f : D × Env → M Out} (p : PstS K mg bs Xq E γ Z H (m.bind f S))
    (c : ∀ x a H1 γ1 Z1 S1, Lz γ Z H γ1 Z1 H1 → Fr K mg bs σ a.2 γ1 Z1 H1 S1 → Rp K mg γ1 Z1 H1 x a.1 → PstS K mg bs Xq E γ1 Z1 H1 (f a S1) → N x H1) : PstF K mg bs Xq σ N γ Z H (m S) := by
  unfold M.bind at p
  cases e : m S with
  | ok q =>
    rw [e] at p
    intro v H' γ' Z' l fr r
    exact c v q.1 H' γ' Z' q.2 l fr r (PstS.mono l p)
  | exn c fs S' => rw [e] at p; exact p
  | stuck => rw [e] at p; exact p
end
section
variable {X : Cx} {bs : Bs} {Xq : XQ} {pos : Pos} {a b o e : Expr} {ma mb me : Env → M D} {apos cpos : Pos}
abbrev tFx (X : Cx) (bs : Bs) (Xq : XQ) (m : Env → M (D × Env)) : TE := tF X.K X.mg bs Xq m
theorem f_pure (ha : PE X a (tEx X bs Xq ma)) : PE X a (tFx X bs Xq fun env => (ma env).bind fun d => M.ret (d, env)) := by
  refine pe_weak ha fun σ H Q ⟨env, S, γ, Z, f, p⟩ => ⟨env, S, γ, Z, f, p.bind f fun x d H1 γ1 Z1 S1 l1 f1 r1 p1 => ?_⟩
  exact p1 x H1 γ1 Z1 .refl f1 r1
theorem ixN_idx {n : Nat} {i : Int} {j : Nat} (h : ixN n i = some j) : seqIndex? i n = some j ∧ j < n ∧ -(n : Int) ≤ i ∧ i < n := ixN_seq h
theorem ownL_some {env : Env} {i : Nat} {u : Unit} (h : ownL env i = some u) : ∃ xs, slot env i = .own (.lst xs) := by
  unfold ownL at h
  split at h
  · rename_i xs e; exact ⟨xs, e⟩
  · cases h
theorem popD_some {env : Env} {i : Nat} {d : D} {xs : List D} {q : D × Env} (hs : slot env i = .own (.lst xs)) (h : popD env i d = some q) : ∃ k j x, d = .int k ∧ ixN xs.length k = some j ∧ xs[j]? = some x ∧ q = (x, env.set i (.own (.lst (xs.eraseIdx j)))) := by
  unfold popD at h
  rw [hs] at h
  cases d <;> first | (simp at h; done) | skip
  rename_i k
  simp only at h
  cases hk : ixZ xs.length k with
  | none => rw [hk] at h; cases h
  | some j =>
    rw [hk] at h
    simp only [Option.bind_some] at h
    cases hx : xs[j]? with
    | none => rw [hx] at h; cases h
    | some x =>
      rw [hx] at h
      cases h
      exact ⟨k, j, x, rfl, hk, hx, rfl⟩
theorem pop_ent {K : PySem.W.Frag} {mg : Str → Option Value} {γ : List Addr} {Z : Addr → Prop} {H : Hp} {S : Sto} {σ : L2.St} {env : Env} {i : Nat} {xs : List D} {A : Addr} {y : V} {d : D} {q : D × Env} {Q : VK} (f : Fr K mg bs σ env γ Z H S) (hs : slot env i = .own (.lst xs)) (h1 : σ[i]? = some (some (.ref A)))
    (r1 : Rp K mg γ Z H y d) (e1 : popD env i d = some q) (c : ∀ v H', Lz γ Z H γ Z H' → Fr K mg bs σ q.2 γ Z H' S → Rp K mg γ Z H' v q.1 → Q v H') : rPopAt (.ref A) [y] H Q := by
  obtain ⟨A', vs', g1, g2, g3, g4, nz', ng', g5⟩ := f.ownL hs
  rw [h1] at g1
  cases g1
  obtain ⟨k, j, x, rfl, hk, hx, rfl⟩ := popD_some hs e1
  obtain ⟨b1, b2, b3, b4⟩ := ixN_seq hk
  obtain ⟨v, c1, c2⟩ := g4.get hx
  cases r1
  have hl : xs.length ≤ 16777216 := g3
  have hlen := g4.len
  obtain ⟨d1, d2⟩ := g5 (vs'.eraseIdx j) (xs.eraseIdx j) (Nat.le_trans (List.length_eraseIdx_le _ _) g3) fun u l => (g4.lz l).eraseIdx j
  exact ⟨A, vs', k, j, v, rfl, rfl, g2, by omega, by omega, by rw [hlen]; exact b1, c1, c v _ d1 d2 (c2.lz d1)⟩
theorem ix_ent {K : PySem.W.Frag} {mg : Str → Option Value} {γ : List Addr} {Z : Addr → Prop} {H : Hp} {x y : V} {d e g : D} {Q : VK} (r1 : Rp K mg γ Z H x d) (r2 : Rp K mg γ Z H y e) (e1 : ixD d e = some g) (q : ∀ v, Rp K mg γ Z H v g → Q v H) : rIxQ K x y H Q := by
  unfold ixD at e1
  split at e1 <;> try contradiction
  · obtain ⟨p, vs, rfl, _, h1, _, h2⟩ := r1.lst'
    cases r2
    obtain ⟨v, h3, h4⟩ := nth_rel h2 e1
    exact .inl (.inl ⟨p, vs, _, v, rfl, rfl, SqL.of h1, h3, q v h4⟩)
  · obtain ⟨p, vs, rfl, h1, h2⟩ := r1.sqT
    cases r2
    obtain ⟨v, h3, h4⟩ := nth_rel h2 e1
    exact .inl (.inr ⟨p, vs, _, v, rfl, rfl, h1, h3, q v h4⟩)
  · split at e1 <;> try contradiction
    rename_i hk
    obtain ⟨p, rfl, _, h1⟩ := r1.dct'
    rcases h1.get hk r2 with ⟨v, d', g1, g2, g3⟩ | ⟨g1, g2⟩
    · rw [g2] at e1
      cases e1
      exact .inr ⟨p, v, rfl, g1, q v g3⟩
    · rw [g2] at e1; cases e1
/-- x.pop(e) of an own list -/
theorem f_pop {i : Nat} (ho : PE X (.Call (.Attribute o "pop" apos) [e] [] cpos) (tBM X.K "list" rPopAt (tVar i) (tCons (tEx X bs Xq me) tNil))) :
    PE X (.Call (.Attribute o "pop" apos) [e] [] cpos) (tFx X bs Xq fun env => (M.opt (ownL env i)).bind fun _ => (me env).bind fun d => M.opt (popD env i d)) := by
  refine pe_weak ho fun σ H Q ⟨env, S, γ, Z, f, p⟩ => ?_
  obtain ⟨u, hu, p⟩ := p.optB
  obtain ⟨xs, hs⟩ := ownL_some hu
  obtain ⟨A, vs, h1, h2, h3, h4, nz, ng, h5⟩ := f.ownL hs
  refine ⟨.ref A, h1, .inl ⟨rfl, vs, SqL.of h2⟩, env, S, γ, Z, f, p.bind f fun y d H1 γ1 Z1 S1 l1 f1 r1 p1 => ?_⟩
  obtain ⟨q, e1, p2⟩ := p1.opt
  exact pop_ent f1 hs h1 r1 e1 fun v H' l f' r => p2 v H' γ1 Z1 l f' r
/-- a[x.pop(e)] -/
theorem f_ixpop {i : Nat} {b : Expr} (hu : X.A.units + 65 < cLine) (ha : PE X a (tEx X bs Xq ma)) (hb : PE X b (tBM X.K "list" rPopAt (tVar i) (tCons (tEx X bs Xq me) tNil))) (hs : PlainIx b) :
    PE X (.Subscript a b pos) (tFx X bs Xq fun env => (ma env).bind fun x => (M.opt (ownL env i)).bind fun _ => (me env).bind fun d => (M.opt (popD env i d)).bind fun p => (M.opt (ixD x p.1)).bind fun y => M.ret (y, p.2)) := by
  refine pe_weak (pe_ix (ix_q hu) ha hb hs) fun σ H Q ⟨env, S, γ, Z, f, p⟩ => ⟨env, S, γ, Z, f, p.bind f fun x xd H1 γ1 Z1 S1 l1 f1 r1 p1 => ?_⟩
  obtain ⟨u, hu, p1⟩ := p1.optB
  obtain ⟨xs, hs⟩ := ownL_some hu
  obtain ⟨A, vs, h1, h2, h3, h4, nz, ng, h5⟩ := f1.ownL hs
  refine ⟨.ref A, h1, .inl ⟨rfl, vs, SqL.of h2⟩, env, S1, γ1, Z1, f1, p1.bind f1 fun y d H2 γ2 Z2 S2 l2 f2 r2 p2 => ?_⟩
  obtain ⟨q, e1, p3⟩ := p2.optB
  show rPopAt (V.ref A) [y] H2 (fun y H2 => rIxQ X.K x y H2 Q)
  refine pop_ent f2 hs h1 r2 e1 fun v H' l f' r => ?_
  have rx := (r1.mono f1.ok l2).lz l
  obtain ⟨g, e2, p4⟩ := p3.optB
  have p4 : PstF X.K X.mg bs Xq σ Q γ2 Z2 H' (.ok ((g, q.2), S2)) := PstF.mono l p4
  exact ix_ent rx r e2 fun w rw => p4 w H' γ2 Z2 .refl f' rw
/-- target = an expression that may shorten an own list -/
theorem s_tgtF {tg : Tg} {g : TG} {st : Stmt} {me : Env → M (D × Env)} (hT : TgR X.K X.mg bs tg g) (h : PS X st (tAsg (tFx X bs Xq me) g)) : PS X st (tSx X bs Xq fun env => (me env).bind fun p => (M.opt (bindT tg p.1 p.2)).bind fun env1 => M.ret (.nx env1)) := by
  refine ps_weak h fun E σ H ⟨env, S, γ, Z, f, p⟩ => ⟨env, S, γ, Z, f, p.bindF fun x d H1 γ1 Z1 S1 l1 f1 r1 p1 => ?_⟩
  obtain ⟨env1, e1, p2⟩ := p1.optB
  exact hT f1 r1 e1 fun σ' f' so => p2 σ' H1 γ1 Z1 .refl f'
theorem app_some {env env1 : Env} {i : Nat} {d : D} (h : appD env i d = some env1) : ∃ xs, slot env i = .own (.lst xs) ∧ xs.length < LIM ∧ env1 = env.set i (.own (.lst (xs ++ [d]))) := by
  unfold appD at h
  split at h
  · rename_i xs e
    split at h
    · rename_i hl; cases h; exact ⟨xs, e, hl, rfl⟩
    · cases h
  · cases h
/-- x.append(e) -/
theorem s_app {i : Nat} {st : Stmt} {me : Env → M (D × Env)} (h : PS X st (fun E σ H => tBM X.K "list" rAppend (tVar i) (tCons (tFx X bs Xq me) tNil) σ H fun _ H1 => E.nx σ H1)) :
    PS X st (tSx X bs Xq fun env => (M.opt (ownL env i)).bind fun _ => (me env).bind fun p => (M.opt (appD p.2 i p.1)).bind fun env1 => M.ret (.nx env1)) := by
  refine ps_weak h fun E σ H ⟨env, S, γ, Z, f, p⟩ => ?_
  obtain ⟨u, hu, p⟩ := p.optB
  obtain ⟨xs, hs⟩ := ownL_some hu
  obtain ⟨A, vs, h1, h2, h3, h4, nz, ng, h5⟩ := f.ownL hs
  refine ⟨.ref A, h1, .inl ⟨rfl, vs, SqL.of h2⟩, env, S, γ, Z, f, p.bindF fun y q H1 γ1 Z1 S1 l1 f1 r1 p1 => ?_⟩
  obtain ⟨env1, e1, p2⟩ := p1.optB
  obtain ⟨ys, hs1, hl, rfl⟩ := app_some e1
  obtain ⟨A', ws, g1, g2, g3, g4, nz', ng', g5⟩ := f1.ownL hs1
  rw [h1] at g1
  cases g1
  obtain ⟨d1, d2⟩ := g5 (ws ++ [y]) (ys ++ [q.1]) (by rw [List.length_append]; simp; omega) fun u l => (g4.lz l).append (.cons (r1.lz l) .nil)
  exact ⟨A, ws, y, rfl, rfl, g2, by rw [g4.len, ← lim_eq]; exact hl, p2 σ _ γ1 Z1 d1 d2⟩
/-! ### x op= e -/
theorem hasS_some {K' : PySem.W.Frag} {mg' : Str → Option Value} {σ' : L2.St} {γ' : List Addr} {Z' : Addr → Prop} {H' : Hp} {S' : Sto} {env : Env} {i : Nat} {d : Unit} (f : Fr K' mg' bs σ' env γ' Z' H' S') (h : hasS env i = some d) : ∃ v, σ'[i]? = some (some v) := by
  unfold hasS at h
  cases e : slot env i with
  | no => rw [e] at h; cases h
  | val d' => obtain ⟨v, h1, _⟩ := f.val i _ e; exact ⟨v, h1⟩
  | own o => obtain ⟨F, ow⟩ := f.own; obtain ⟨a, h1, _⟩ := ow.at_ i _ e; exact ⟨_, h1⟩
def rAugA : R2 := fun x y H Q => rI0 (fun i j => .int (i + j)) x y H Q ∨ rExt2 x y H Q
theorem iop_augA : OpR X (inplaceOp .Add) rAugA := iop_add.or iop_ext
theorem set_same {K : PySem.W.Frag} {mg : Str → Option Value} {γ : List Addr} {Z : Addr → Prop} {H : Hp} {S : Sto} {σ : L2.St} {env : Env} {i : Nat} {v : V} (h : σ[i]? = some (some v)) (f : Fr K mg bs σ env γ Z H S) : Fr K mg bs (σ.set i (some v)) env γ Z H S := by
  have : σ.set i (some v) = σ := by
    refine List.ext_getElem? fun j => ?_
    rw [List.getElem?_set]
    split
    · rename_i hj
      subst hj
      obtain ⟨hl, _⟩ := List.getElem?_eq_some_iff.mp h
      rw [if_pos hl, h]
    · rfl
  rw [this]; exact f
theorem s_augA {i : Nat} {st : Stmt} (h : PS X st (tAug i (tEx X bs Xq me) rAugA)) :
    PS X st (tSx X bs Xq fun env => (M.opt (hasS env i)).bind fun _ => (me env).bind fun d => (M.opt (augD .add env i d)).bind fun env1 => M.ret (.nx env1)) := by
  refine ps_weak h fun E σ H ⟨env, S, γ, Z, f, p⟩ => ?_
  obtain ⟨u, hu, p⟩ := p.optB
  obtain ⟨v, hv⟩ := hasS_some f hu
  refine ⟨v, hv, env, S, γ, Z, f, p.bind f fun y d H1 γ1 Z1 S1 l1 f1 r1 p1 => ?_⟩
  obtain ⟨env1, e1, p2⟩ := p1.optB
  unfold augD at e1
  split at e1 <;> try contradiction
  · rename_i xs ys hs _
    split at e1 <;> cases e1
    rename_i hl
    obtain ⟨A', ws, g1, g2, g3, g4, nz', ng', g5⟩ := f1.ownL hs
    rw [hv] at g1
    cases g1
    obtain ⟨b, zs, rfl, _, h1, _, h2⟩ := r1.lst'
    obtain ⟨d1, d2⟩ := g5 (ws ++ zs) (xs ++ ys) (by rw [List.length_append]; exact hl) fun u l => (g4.lz l).append (h2.lz l)
    exact .inr ⟨A', b, ws, zs, rfl, rfl, g2, h1, by rw [g4.len, h2.len, ← lim_eq]; exact hl, p2 _ _ γ1 Z1 d1 (set_same hv d2)⟩
  · rename_i a b hs _
    cases e1
    obtain ⟨w, g1, g2⟩ := f1.val i _ hs
    rw [hv] at g1
    cases g1
    cases g2
    cases r1
    exact .inl ⟨_, _, rfl, rfl, p2 _ _ γ1 Z1 .refl (f1.setV i (.int _))⟩
theorem s_augM {i : Nat} {st : Stmt} (h : PS X st (tAug i (tEx X bs Xq me) (rI CMul fun i j => .int (i * j)))) :
    PS X st (tSx X bs Xq fun env => (M.opt (hasS env i)).bind fun _ => (me env).bind fun d => (M.opt (augD .mul env i d)).bind fun env1 => M.ret (.nx env1)) := by
  refine ps_weak h fun E σ H ⟨env, S, γ, Z, f, p⟩ => ?_
  obtain ⟨u, hu, p⟩ := p.optB
  obtain ⟨v, hv⟩ := hasS_some f hu
  refine ⟨v, hv, env, S, γ, Z, f, p.bind f fun y d H1 γ1 Z1 S1 l1 f1 r1 p1 => ?_⟩
  obtain ⟨env1, e1, p2⟩ := p1.optB
  unfold augD at e1
  split at e1 <;> try contradiction
  rename_i a b hs _
  split at e1 <;> cases e1
  rename_i hl
  obtain ⟨w, g1, g2⟩ := f1.val i _ hs
  rw [hv] at g1
  cases g1
  cases g2
  cases r1
  refine ⟨_, _, rfl, rfl, ?_, p2 _ _ γ1 Z1 .refl (f1.setV i (.int _))⟩
  rcases Bool.or_eq_true_iff.mp hl with q | q
  · exact .inl (small_ok q)
  · exact .inr (small_ok q)
end
/-! ### x[i] = v -/
section
variable {K : PySem.W.Frag} {mg : Str → Option Value} {bs : Bs} {Xq : XQ} {γ γ' : List Addr} {Z Z' : Addr → Prop} {H H' : Hp} {S S' : Sto} {σ σ' : L2.St} {env env1 : Env}
theorem putK_rel {κ : Type} [DecidableEq κ] {kf : κ → D} (hk : ∀ a b, eqD (kf a) (kf b) = decide (a = b)) {v : V} {d : D} (k : κ) (r : Rp K mg γ Z H v d) : ∀ {kvs : List (κ × V)} {es : List (D × D)}, es.map (·.1) = kvs.map (fun p => kf p.1) → RpL K mg γ Z H (kvs.map (·.2)) (es.map (·.2)) →
    (putD es (kf k) d).map (·.1) = (putK kvs k v).map (fun p => kf p.1) ∧ RpL K mg γ Z H ((putK kvs k v).map (·.2)) ((putD es (kf k) d).map (·.2)) := by
  have any : ∀ {kvs : List (κ × V)} {es : List (D × D)}, es.map (·.1) = kvs.map (fun p => kf p.1) → (es.any fun p => eqD p.1 (kf k)) = (kvs.any fun kv => decide (kv.1 = k)) := by
    intro kvs
    induction kvs with
    | nil => intro es e; cases es with
      | nil => rfl
      | cons _ _ => simp at e
    | cons q kvs ih => intro es e; cases es with
      | nil => simp at e
      | cons p es =>
        simp only [List.map_cons, List.cons.injEq] at e
        rw [List.any_cons, List.any_cons, ih e.2, e.1, hk]
  have mp : ∀ {kvs : List (κ × V)} {es : List (D × D)}, es.map (·.1) = kvs.map (fun p => kf p.1) → RpL K mg γ Z H (kvs.map (·.2)) (es.map (·.2)) →
      (es.map fun p => if eqD p.1 (kf k) then (p.1, d) else p).map (·.1) = (kvs.map fun kv => if kv.1 = k then (kv.1, v) else kv).map (fun p => kf p.1) ∧
      RpL K mg γ Z H ((kvs.map fun kv => if kv.1 = k then (kv.1, v) else kv).map (·.2)) ((es.map fun p => if eqD p.1 (kf k) then (p.1, d) else p).map (·.2)) := by
    intro kvs
    induction kvs with
    | nil => intro es e _; cases es with
      | nil => exact ⟨rfl, .nil⟩
      | cons _ _ => simp at e
    | cons q kvs ih => intro es e rl; cases es with
      | nil => simp at e
      | cons p es =>
        simp only [List.map_cons, List.cons.injEq] at e
        simp only [List.map_cons] at rl
        cases rl with
        | cons r1 rr =>
          obtain ⟨i1, i2⟩ := ih e.2 rr
          simp only [List.map_cons]
          rw [e.1, hk]
          by_cases hq : q.1 = k
          · simp only [hq, decide_true, if_true]
            exact ⟨by rw [i1], .cons r i2⟩
          · simp only [hq, decide_false, if_false, Bool.false_eq_true]
            exact ⟨by rw [i1, e.1], .cons r1 i2⟩
  intro kvs es e rl
  unfold putD putK
  rw [any e]
  split
  · exact mp e rl
  · simp only [List.map_append, List.map_cons, List.map_nil]
    exact ⟨by rw [e], rl.append (.cons r .nil)⟩
theorem putD_len (es : List (D × D)) (k d : D) : (putD es k d).length ≤ es.length + 1 := by
  unfold putD
  split
  · rw [List.length_map]; omega
  · rw [List.length_append]; simp
theorem Fr.ownD (f : Fr K mg bs σ env γ Z H S) {i : Nat} {t : Bool} {es : List (D × D)} (e : slot env i = .own (.dct t es)) : ∃ a, σ[i]? = some (some (.ref a)) ∧ es.length ≤ LIM ∧ ¬ Z a ∧ a ∉ γ ∧
    ∀ {y v : V} {k d : D}, keyOk t k = true → Rp K mg γ Z H y k → Rp K mg γ Z H v d → es.length < LIM → ∃ H', DPut H a y v H' ∧ Lz γ Z H γ Z H' ∧ Fr K mg bs σ (env.set i (.own (.dct t (putD es k d)))) γ Z H' S := by
  obtain ⟨F, ow⟩ := f.own
  obtain ⟨a, h1, h2⟩ := ow.at_ i _ e
  generalize hF : F i = Fi at h2
  cases h2 with
  | dctK h z q r =>
    rename_i kvs
    have hx : a ∈ F i := by rw [hF]; simp
    obtain ⟨nz, ng, nb⟩ := ow.free i _ e a hx
    refine ⟨a, h1, z, nz, ng, fun {y v k d} hk ry rv hl => ?_⟩
    obtain ⟨k', rfl, rfl⟩ := ry.keyK hk
    have l := Lz.updAt (γ := γ) h nz (.dK (putK kvs k' v))
    obtain ⟨g1, g2⟩ := putK_rel (kf := keyd) keyd_eq k' (rv.lz l) q (r.lz l)
    have hlen : kvs.length = es.length := by have := congrArg List.length q; simpa using this.symm
    refine ⟨_, DPut.k h (by rw [hlen, ← lim_eq]; exact hl), f.updOwn ow e h1 hx h (fun _ z => nomatch z) ?_⟩
    rw [hF]
    exact .dctK upd_same (Nat.le_trans (putD_len _ _ _) hl) g1 g2
  | dctT h z q zk r =>
    rename_i kvs
    have hx : a ∈ F i := by rw [hF]; simp
    obtain ⟨nz, ng, nb⟩ := ow.free i _ e a hx
    refine ⟨a, h1, z, nz, ng, fun {y v k d} hk ry rv hl => ?_⟩
    have hkl : ∀ ds, k = .tup ds → ds.length ≤ LIM := fun ds e => by
      subst e; exact ry.tlen'
    obtain ⟨b, k', rfl, hb, rfl⟩ := ry.keyT hk
    have l := Lz.updAt (γ := γ) h nz (.dT (putK kvs k' v))
    obtain ⟨g1, g2⟩ := putK_rel (kf := fun k => D.tup (k.map keyd)) keyt_eq k' (rv.lz l) q (r.lz l)
    have hlen : kvs.length = es.length := by have := congrArg List.length q; simpa using this.symm
    refine ⟨_, DPut.t h hb (by rw [hlen, ← lim_eq]; exact hl), f.updOwn ow e h1 hx h (fun _ z => nomatch z) ?_⟩
    rw [hF]
    refine .dctT upd_same (Nat.le_trans (putD_len _ _ _) hl) g1 (fun p hp => ?_) g2
    unfold putK at hp
    split at hp
    · obtain ⟨p', hp', rfl⟩ := List.mem_map.mp hp
      split <;> exact zk p' hp'
    · rcases List.mem_append.mp hp with hp | hp
      · exact zk p hp
      · simp at hp; subst hp; have := hkl _ rfl; simpa using this
end
section
variable {X : Cx} {bs : Bs} {Xq : XQ} {pos : Pos} {me mk : Env → M D}
def rSetD : TSet := fun o i v H Q => ∃ a H', o = .ref a ∧ DPut H a i v H' ∧ Q H'
theorem set_dct (hu : X.A.units + 1 < cLine) : PSet X rSetD := by
  intro pins s σ H o i v ov iv u Q I ro ri rv h
  obtain ⟨a, H', rfl, g, q⟩ := h
  cases ro
  exact d_setItem hu I g ri rv fun s' I' => ⟨H', I', q⟩
def rSetQ : TSet := fun o i v H Q => rSetL o i v H Q ∨ rSetD o i v H Q
theorem set_q (hu : X.A.units + 1 < cLine) : PSet X rSetQ := by
  intro pins s σ H o i v ov iv u Q I ro ri rv h
  rcases h with h | h
  · exact set_list pins s σ H o i v ov iv u Q I ro ri rv h
  · exact set_dct hu pins s σ H o i v ov iv u Q I ro ri rv h
/-- a place of an own container: what a store there asks for -/
def LvR (X : Cx) (bs : Bs) (Xq : XQ) (m : D → Env → M Env) (g : TG) : Prop :=
  ∀ {σ : L2.St} {env : Env} {γ : List Addr} {Z : Addr → Prop} {H : Hp} {S : Sto} {v : V} {d : D} {E : Ends} {N : L2.St → Hp → Prop} {c : Env → M Out}, Fr X.K X.mg bs σ env γ Z H S → Rp X.K X.mg γ Z H v d → PstS X.K X.mg bs Xq E γ Z H ((m d env).bind c S) →
    (∀ σ' env' γ' Z' H' S', Lz γ Z H γ' Z' H' → Fr X.K X.mg bs σ' env' γ' Z' H' S' → PstS X.K X.mg bs Xq E γ' Z' H' (c env' S') → N σ' H') → g v σ H N
theorem PstS.bindL {K : PySem.W.Frag} {mg : Str → Option Value} {γ : List Addr} {Z : Addr → Prop} {H : Hp} {S : Sto} {σ : L2.St} {env : Env} {α β : Type} {rel : Rel β α} {E : Ends} {N : β → Hp → Prop} {m : M α} {f : α → M Env} {c : Env → M Out} (w : Fr K mg bs σ env γ Z H S) (p : PstS K mg bs Xq E γ Z H ((m.bind f).bind c S))
    (k : ∀ x a H1 γ1 Z1 S1, Le γ Z H γ1 Z1 H1 → Fr K mg bs σ env γ1 Z1 H1 S1 → rel γ1 Z1 H1 x a → PstS K mg bs Xq E γ1 Z1 H1 ((f a).bind c S1) → N x H1) : Pst K mg bs Xq rel σ env N γ Z H (m S) := by
  rw [M.bind_assoc] at p
  exact p.bind w k
theorem lv_ix1 {i : Nat} : LvR X bs Xq (fun d env => (M.opt (hasS env i)).bind fun _ => (mk env).bind fun k => M.opt (stD env i k d)) (gSub (tVar i) (tEx X bs Xq mk) rSetQ) := by
  intro σ env γ Z H S v d E N c f rv p k
  rw [M.bind_assoc] at p
  obtain ⟨u, hu, p⟩ := p.optB
  obtain ⟨o, ho⟩ := hasS_some f hu
  refine ⟨o, ho, env, S, γ, Z, f, p.bindL f fun y kd H1 γ1 Z1 S1 l1 f1 r1 p1 => ?_⟩
  obtain ⟨env1, e1, p2⟩ := p1.optB
  have rv := rv.mono f.ok l1
  have lz := l1.lz f.ok
  unfold stD at e1
  split at e1 <;> try contradiction
  · rename_i xs z hs
    cases hz : ixZ xs.length z with
    | none => rw [hz] at e1; cases e1
    | some j =>
      rw [hz] at e1
      cases e1
      obtain ⟨A', ws, g1, g2, g3, g4, nz', ng', g5⟩ := f1.ownL hs
      rw [ho] at g1
      cases g1
      cases r1
      obtain ⟨d1, d2⟩ := g5 (ws.set j v) (xs.set j d) (by rw [List.length_set]; exact g3) fun u l => RpL.set (rv.lz l) j (g4.lz l)
      exact .inl ⟨A', ws, z, j, rfl, rfl, g2, by rw [g4.len]; exact hz, k σ _ γ1 Z1 _ S1 (lz.trans d1) d2 (PstS.mono d1 p2)⟩
  · rename_i t kvs hs
    split at e1 <;> cases e1
    rename_i hk
    obtain ⟨hk1, hk2⟩ := Bool.and_eq_true_iff.mp hk
    obtain ⟨A', g1, g2, g3, g4, g5⟩ := f1.ownD hs
    rw [ho] at g1
    cases g1
    obtain ⟨H', g6, g7, g8⟩ := g5 hk1 r1 rv (of_decide_eq_true hk2)
    exact .inr ⟨A', H', rfl, g6, k σ _ γ1 Z1 H' S1 (lz.trans g7) g8 (PstS.mono g7 p2)⟩
theorem s_lv {st : Stmt} {m : D → Env → M Env} {g : TG} (hL : LvR X bs Xq m g) (h : PS X st (tAsg (tEx X bs Xq me) g)) : PS X st (tSx X bs Xq fun env => (me env).bind fun d => (m d env).bind fun env1 => M.ret (.nx env1)) := by
  refine ps_weak h fun E σ H ⟨env, S, γ, Z, f, p⟩ => ⟨env, S, γ, Z, f, p.bind f fun x d H1 γ1 Z1 S1 l1 f1 r1 p1 => ?_⟩
  exact hL f1 r1 p1 fun σ' env' γ' Z' H' S' lz f' p' => p' σ' H' γ' Z' .refl f'
/-! ### rows of an own list of lists -/
theorem Rows.get {K : PySem.W.Frag} {mg : Str → Option Value} {γ : List Addr} {Z : Addr → Prop} {H : Hp} : ∀ {as : List Addr} {yss : List (List D)} {j : Nat} {xs : List D}, Rows K mg γ Z H as yss → yss[j]? = some xs → ∃ b vs, as[j]? = some b ∧ H b = some (.lst vs) ∧ xs.length ≤ LIM ∧ RpL K mg γ Z H vs xs
  | _, _, _, _, .nil, e => by simp at e
  | _, _, 0, _, .cons h z r _, e => by simp at e; subst e; exact ⟨_, _, rfl, h, z, r⟩
  | _, _, j + 1, xs, .cons _ _ _ t, e => by
    obtain ⟨b, vs, h⟩ := Rows.get (j := j) (xs := xs) t (by simpa using e)
    exact ⟨b, vs, by simpa using h.1, h.2⟩
theorem Rows.set {K : PySem.W.Frag} {mg : Str → Option Value} {γ : List Addr} {Z : Addr → Prop} {H : Hp} {b : Addr} {ws : List V} {ys : List D} (l : Lz γ Z H γ Z (upd H b (.lst ws))) (hy : ys.length ≤ LIM) (hr : RpL K mg γ Z (upd H b (.lst ws)) ws ys) : ∀ {as : List Addr} {yss : List (List D)} {j : Nat}, as.Nodup → Rows K mg γ Z H as yss → as[j]? = some b → Rows K mg γ Z (upd H b (.lst ws)) as (yss.set j ys)
  | _, _, _, _, .nil, e => by simp at e
  | a :: as, _ :: yss, 0, nd, .cons h z r t, e => by
    simp at e
    subst e
    exact .cons upd_same hy hr (Rows.updAt l t fun x hx q => (List.nodup_cons.mp nd).1 (q ▸ hx))
  | a :: as, _ :: yss, j + 1, nd, .cons h z r t, e => by
    have e : as[j]? = some b := by simpa using e
    have hab : a ≠ b := fun q => (List.nodup_cons.mp nd).1 (q ▸ List.mem_of_getElem? e)
    exact .cons (by rw [upd_ne hab]; exact h) z (r.lz l) (Rows.set l hy hr (List.nodup_cons.mp nd).2 t e)
theorem Fr.ownR {K : PySem.W.Frag} {mg : Str → Option Value} {γ : List Addr} {Z : Addr → Prop} {H : Hp} {S : Sto} {σ : L2.St} {env : Env} (f : Fr K mg bs σ env γ Z H S) {i : Nat} {xss : List (List D)} (e : slot env i = .own (.l2 xss)) : ∃ (a : Addr) (as : List Addr), σ[i]? = some (some (.ref a)) ∧ H a = some (.lst (as.map V.ref)) ∧ as.length = xss.length ∧
    ∀ (j : Nat) (xs : List D), xss[j]? = some xs → ∃ b vs, as[j]? = some b ∧ H b = some (.lst vs) ∧ xs.length ≤ LIM ∧ RpL K mg γ Z H vs xs ∧
    ∀ (ws : List V) (ys : List D), ys.length ≤ LIM → (∀ u, Lz γ Z H γ Z (upd H b u) → RpL K mg γ Z (upd H b u) ws ys) → Lz γ Z H γ Z (upd H b (.lst ws)) ∧ Fr K mg bs σ (env.set i (.own (.l2 (xss.set j ys)))) γ Z (upd H b (.lst ws)) S := by
  obtain ⟨F, ow⟩ := f.own
  obtain ⟨a, h1, h2⟩ := ow.at_ i _ e
  have nd := ow.nd i _ e
  generalize hF : F i = Fi at h2 nd
  cases h2 with
  | l2 h z r =>
    rename_i as
    refine ⟨a, as, h1, h, r.len, fun j xs hj => ?_⟩
    obtain ⟨b, vs, g1, g2, g3, g4⟩ := r.get hj
    have hm : b ∈ as := List.mem_of_getElem? g1
    have hx : b ∈ F i := by rw [hF]; simp [hm]
    obtain ⟨nz, ng, nb⟩ := ow.free i _ e b hx
    refine ⟨b, vs, g1, g2, g3, g4, fun ws ys hy hr => ?_⟩
    have l := Lz.updAt (γ := γ) g2 nz (.lst ws)
    have hab : a ≠ b := fun q => (List.nodup_cons.mp nd).1 (q ▸ hm)
    refine f.updOwn ow e h1 hx g2 (fun _ z => nomatch z) ?_
    rw [hF]
    exact .l2 (by rw [upd_ne hab]; exact h) (by rw [List.length_set]; exact z) (Rows.set l hy (hr _ l) (List.nodup_cons.mp nd).2 r g1)
theorem rowO_some {env : Env} {i : Nat} {d : D} {u : Unit} (h : rowO env i d = some u) : ∃ xss k j xs, slot env i = .own (.l2 xss) ∧ d = .int k ∧ ixN xss.length k = some j ∧ xss[j]? = some xs := by
  unfold rowO at h
  split at h
  · rename_i xss k e
    cases hk : ixZ xss.length k with
    | none => rw [hk] at h; cases h
    | some j =>
      have hj := (ixN_seq hk).2.1
      exact ⟨xss, k, j, xss[j], e, rfl, hk, List.getElem?_eq_getElem hj⟩
  · cases h
theorem lv_ix2 {mb : Env → M D} {i : Nat} : LvR X bs Xq (fun d env => (M.opt (hasS env i)).bind fun _ => (mk env).bind fun k => (M.opt (rowO env i k)).bind fun _ => (mb env).bind fun k2 => M.opt (st2D env i k k2 d)) (gSub (fun σ H Q => tVar i σ H fun x H1 => tEx X bs Xq mk σ H1 fun y H2 => rIxQ X.K x y H2 Q) (tEx X bs Xq mb) rSetQ) := by
  intro σ env γ Z H S v d E N c f rv p k
  rw [M.bind_assoc] at p
  obtain ⟨u, hu, p⟩ := p.optB
  obtain ⟨o, ho⟩ := hasS_some f hu
  refine ⟨o, ho, env, S, γ, Z, f, p.bindL f fun y kd H1 γ1 Z1 S1 l1 f1 r1 p1 => ?_⟩
  rw [M.bind_assoc] at p1
  obtain ⟨w, hw, p1⟩ := p1.optB
  obtain ⟨xss, k0, j, xs, hs, rfl, hk0, hj⟩ := rowO_some hw
  obtain ⟨a, as, g1, g2, g3, g4⟩ := f1.ownR hs
  rw [ho] at g1
  cases g1
  cases r1
  obtain ⟨b, vs, c1, c2, c3, c4, c5⟩ := g4 j xs hj
  have hat : atI (as.map V.ref) k0 = some (.ref b) := by
    unfold atI
    rw [List.length_map, g3, hk0]
    show (as.map V.ref)[j]? = _
    rw [List.getElem?_map, c1]; rfl
  refine .inl (.inl ⟨a, as.map V.ref, k0, .ref b, rfl, rfl, SqL.of g2, hat, env, S1, γ1, Z1, f1, p1.bindL f1 fun y2 kd2 H2 γ2 Z2 S2 l2 f2 r2 p2 => ?_⟩)
  obtain ⟨env1, e1, p3⟩ := p2.optB
  obtain ⟨a', as', g1', g2', g3', g4'⟩ := f2.ownR hs
  rw [ho] at g1'
  cases g1'
  have hF : H2 a = some (.lst (as.map V.ref)) := by
    obtain ⟨F, ow⟩ := f1.own
    obtain ⟨a2, q1, q2⟩ := ow.at_ i _ hs
    rw [ho] at q1
    cases q1
    have hm : a ∈ F i := by
      generalize F i = Fi at q2
      cases q2; simp
    exact l2.keep a _ g2 (ow.free i _ hs a hm).2.1
  rw [hF] at g2'
  have has : as = as' := by
    have q := Option.some.inj g2'
    have q := HO.lst.inj q
    exact (List.map_inj_right (fun _ _ h => V.ref.inj h)).mp q
  subst has
  obtain ⟨b', vs', c1', c2', c3', c4', c5'⟩ := g4' j xs hj
  rw [c1] at c1'
  cases c1'
  have rv := (rv.mono f.ok l1).mono f1.ok l2
  have lz := (l1.lz f.ok).trans (l2.lz f1.ok)
  unfold st2D at e1
  rw [hs] at e1
  cases kd2 <;> first | (simp at e1; done) | skip
  rename_i z
  simp only at e1
  have hk0' : ixZ xss.length k0 = some j := hk0
  rw [hk0'] at e1
  simp only [Option.bind_some, hj] at e1
  cases hz : ixZ xs.length z with
  | none => rw [hz] at e1; cases e1
  | some q =>
    rw [hz] at e1
    cases e1
    cases r2
    obtain ⟨d1, d2⟩ := c5' (vs'.set q v) (xs.set q d) (by rw [List.length_set]; exact c3') fun u l => RpL.set (rv.lz l) q (c4'.lz l)
    exact .inl ⟨b, vs', z, q, rfl, rfl, c2', by rw [c4'.len]; exact hz, k σ _ γ2 Z2 _ S2 (lz.trans d1) d2 (PstS.mono d1 p3)⟩
/-- several places -/
inductive LvsR (X : Cx) (bs : Bs) (Xq : XQ) (cl : Cl) : List Lv → TGs → Prop
  | nil : LvsR X bs Xq cl [] gNil
  | cons {l : Lv} {ls : List Lv} {g : TG} {gs : TGs} : LvR X bs Xq (asg1 cl l) g → LvsR X bs Xq cl ls gs → LvsR X bs Xq cl (l :: ls) (gCons g gs)
theorem LvsR.go {cl : Cl} {c : Env → M Out} : ∀ {ls : List Lv} {gs : TGs}, LvsR X bs Xq cl ls gs → ∀ {σ : L2.St} {env : Env} {γ : List Addr} {Z : Addr → Prop} {H : Hp} {S : Sto} {vs : List V} {ds : List D} {E : Ends} {N : L2.St → Hp → Prop}, Fr X.K X.mg bs σ env γ Z H S → RpL X.K X.mg γ Z H vs ds → PstS X.K X.mg bs Xq E γ Z H ((asgL cl ls ds env).bind c S) →
    (∀ σ' env' γ' Z' H' S', Lz γ Z H γ' Z' H' → Fr X.K X.mg bs σ' env' γ' Z' H' S' → PstS X.K X.mg bs Xq E γ' Z' H' (c env' S') → N σ' H') → gs vs σ H N
  | _, _, .nil, σ, env, γ, Z, H, S, vs, ds, E, N, f, r, p, k => by
    cases r with
    | nil => exact ⟨rfl, k σ env γ Z H S .refl f p⟩
    | cons _ _ => exact p.elim
  | _, _, .cons hl ht, σ, env, γ, Z, H, S, vs, ds, E, N, f, r, p, k => by
    cases r with
    | nil => exact p.elim
    | cons r1 rr =>
      simp only [asgL] at p
      rw [M.bind_assoc] at p
      exact ⟨_, _, rfl, hl f r1 p fun σ' env' γ' Z' H' S' lz f' p' => LvsR.go ht f' (rr.lz lz) p' fun σ2 env2 γ2 Z2 H2 S2 lz2 f2 p2 => k σ2 env2 γ2 Z2 H2 S2 (lz.trans lz2) f2 p2⟩
theorem s_lvs {st : Stmt} {cl : Cl} {ls : List Lv} {gs : TGs} (hL : LvsR X bs Xq cl ls gs) (h : PS X st (tAsg (tEx X bs Xq me) (gTup X.K ls.length gs))) :
    PS X st (tSx X bs Xq fun env => (me env).bind fun d => (M.opt (tupD d)).bind fun ds => if ds.length = ls.length then (asgL cl ls ds env).bind fun env1 => M.ret (.nx env1) else fun _ => .stuck) := by
  refine ps_weak h fun E σ H ⟨env, S, γ, Z, f, p⟩ => ⟨env, S, γ, Z, f, p.bind f fun x d H1 γ1 Z1 S1 l1 f1 r1 p1 => ?_⟩
  obtain ⟨ds, e1, p2⟩ := p1.optB
  obtain ⟨hz, p3⟩ := p2.iteS
  unfold tupD at e1
  split at e1 <;> cases e1
  obtain ⟨q, vs, rfl, h1, h2⟩ := r1.sqT
  exact ⟨q, vs, rfl, h1, by rw [h2.len]; exact hz, hL.go f1 h2 p3 fun σ' env' γ' Z' H' S' lz f' p' => p' σ' H' γ' Z' .refl f'⟩
end
end Q

set_option Elab.async false
set_option linter.all false
set_option autoImplicit false
set_option maxRecDepth 100000
set_option maxHeartbeats 1000000
/-! QStm3: pairs of names, freezing, borrowing. -/
namespace Q
open PySem PySem.Spec PyProof.Rows L2
section
variable {X : Cx} {bs : Bs} {Xq : XQ} {pos : Pos} {ma mb mc : Env → M D} {a b c : Expr}
theorem s_par2 {i j : Nat} {k1 k2 : Ow} {st : Stmt} (h : PS X st (tPar i j (tCons (tKx X bs Xq k1 ma) (tCons (tKx X bs Xq k2 mb) tNil)))) :
    PS X st (tSx X bs Xq fun env => (ma env).bind fun d1 => (mb env).bind fun d2 => (M.opt (setOs env [(i, k1), (j, k2)] [d1, d2])).bind fun env1 => M.ret (.nx env1)) := by
  refine ps_weak h fun E σ H ⟨env, S, γ, Z, f, p⟩ => ⟨env, S, γ, Z, f, p.bindK f fun x d1 F1 H1 γ1 Z1 S1 l1 f1 r1 p1 => ⟨env, S1, γ1, Z1, f1, p1.bindK f1 fun y d2 F2 H2 γ2 Z2 S2 l2 f2 r2 p2 => ?_⟩⟩
  obtain ⟨env2, e1, p3⟩ := p2.optB
  simp only [setOs] at e1
  cases o1 : ownO k1 d1 with
  | none => rw [o1] at e1; cases e1
  | some sl1 =>
  cases o2 : ownO k2 d2 with
  | none => rw [o1, o2] at e1; cases e1
  | some sl2 =>
  rw [o1, o2] at e1
  cases e1
  have fs1 := Fr.setK f l1 f1 r1 i o1 (r1.apart f l1)
  have fr1 := fs1.step l2 f2.ok
  exact ⟨x, y, rfl, p3 _ H2 γ2 Z2 .refl (Fr.setK fs1 l2 fr1 r2 j o2 (r2.apart fs1 l2))⟩
theorem s_par3 {i j l : Nat} {k1 k2 k3 : Ow} {st : Stmt} (h : PS X st (tPar3 i j l (tCons (tKx X bs Xq k1 ma) (tCons (tKx X bs Xq k2 mb) (tCons (tKx X bs Xq k3 mc) tNil))))) :
    PS X st (tSx X bs Xq fun env => (ma env).bind fun d1 => (mb env).bind fun d2 => (mc env).bind fun d3 => (M.opt (setOs env [(i, k1), (j, k2), (l, k3)] [d1, d2, d3])).bind fun env1 => M.ret (.nx env1)) := by
  refine ps_weak h fun E σ H ⟨env, S, γ, Z, f, p⟩ => ⟨env, S, γ, Z, f, p.bindK f fun x d1 F1 H1 γ1 Z1 S1 l1 f1 r1 p1 => ⟨env, S1, γ1, Z1, f1, p1.bindK f1 fun y d2 F2 H2 γ2 Z2 S2 l2 f2 r2 p2 => ⟨env, S2, γ2, Z2, f2, p2.bindK f2 fun z d3 F3 H3 γ3 Z3 S3 l3 f3 r3 p3 => ?_⟩⟩⟩
  obtain ⟨env2, e1, p4⟩ := p3.optB
  simp only [setOs] at e1
  cases o1 : ownO k1 d1 with
  | none => rw [o1] at e1; cases e1
  | some sl1 =>
  cases o2 : ownO k2 d2 with
  | none => rw [o1, o2] at e1; cases e1
  | some sl2 =>
  cases o3 : ownO k3 d3 with
  | none => rw [o1, o2, o3] at e1; cases e1
  | some sl3 =>
  rw [o1, o2, o3] at e1
  cases e1
  have fs1 := Fr.setK f l1 f1 r1 i o1 (r1.apart f l1)
  have fr1 := fs1.step l2 f2.ok
  have fs2 := Fr.setK fs1 l2 fr1 r2 j o2 (r2.apart fs1 l2)
  have fr2 := fs2.step l3 f3.ok
  exact ⟨x, y, z, rfl, p4 _ H3 γ3 Z3 .refl (Fr.setK fs2 l3 fr2 r3 l o3 (r3.apart fs2 l3))⟩
end
/-! ### an own container is done with -/
section
variable {K : PySem.W.Frag} {mg : Str → Option Value} {bs : Bs} {Xq : XQ} {γ γ' : List Addr} {Z Z' : Addr → Prop} {H H' : Hp} {S S' : Sto} {σ σ' : L2.St} {env env1 : Env}
/-- the worlds of freezing: more is frozen, and the heap differs at most at one own object -/
theorem Fr.freeze (f : Fr K mg bs σ env γ Z H S) {F : Nat → List Addr} (ow : Owns K mg bs σ env γ Z H F) {i : Nat} {o : O} (ei : slot env i = .own o) {d : D} {a : Addr} (ha : σ[i]? = some (some (.ref a))) (l : Lz γ Z H γ (fun x => Z x ∨ x ∈ F i) H') (w : Ok K mg γ (fun x => Z x ∨ x ∈ F i) H' S) (hle : Le bs.γ bs.Z bs.H γ (fun x => Z x ∨ x ∈ F i) H')
    (hr : Rp K mg γ (fun x => Z x ∨ x ∈ F i) H' (.ref a) d) (ho : ∀ j p b, j ≠ i → slot env j = .own p → OwnAt K mg γ Z H b p (F j) → OwnAt K mg γ (fun x => Z x ∨ x ∈ F i) H' b p (F j)) :
    Fr K mg bs σ (env.set i (.val d)) γ (fun x => Z x ∨ x ∈ F i) H' S := by
  have hlt : i < env.length := slot_lt (by rw [ei]; exact fun z => nomatch z)
  have off : ∀ j p, slot (env.set i (.val d)) j = .own p → j ≠ i ∧ slot env j = .own p := fun j p e => by
    rw [slot_set] at e
    split at e
    · cases e
    · rename_i hh
      exact ⟨fun z => hh ⟨z.symm, hlt⟩, e⟩
  refine ⟨w, hle, by rw [List.length_set]; exact f.len, fun j d' e => ?_, F, fun j p e => ?_, fun j p e => ?_, fun j p e x hx => ?_, fun j k p q hjk e1 e2 => ?_⟩
  · rw [slot_set] at e
    split at e
    · rename_i hh
      cases e
      rw [← hh.1]
      exact ⟨_, ha, hr⟩
    · obtain ⟨v, h1, h2⟩ := f.val j d' e
      exact ⟨v, h1, h2.lz l⟩
  · obtain ⟨hji, e⟩ := off j p e
    obtain ⟨b, h1, h2⟩ := ow.at_ j p e
    exact ⟨b, h1, ho j p b hji e h2⟩
  · exact ow.nd j p (off j p e).2
  · obtain ⟨hji, e⟩ := off j p e
    obtain ⟨h1, h2, h3⟩ := ow.free j p e x hx
    exact ⟨fun z => z.elim h1 fun z => ow.apart j i p o hji e ei x hx z, h2, h3⟩
  · exact ow.apart j k p q hjk (off j p e1).2 (off k q e2).2
theorem Rows.lz (l : Lz γ Z H γ' Z' H') : ∀ {as : List Addr} {yss : List (List D)}, Rows K mg γ Z H as yss → (∀ x ∈ as, ∀ u, H x = some u → H' x = some u) → Rows K mg γ' Z' H' as yss
  | _, _, .nil, _ => .nil
  | _, _, .cons h z r t, n => .cons (n _ (by simp) _ h) z (r.lz l) (Rows.lz l t fun x hx => n x (by simp [hx]))
theorem OwnAt.lz (l : Lz γ Z H γ' Z' H') {a : Addr} {o : O} {F : List Addr} (n : ∀ x ∈ F, ∀ u, H x = some u → H' x = some u) (h : OwnAt K mg γ Z H a o F) : OwnAt K mg γ' Z' H' a o F := by
  cases h with
  | lst h z r => exact .lst (n _ (by simp) _ h) z (r.lz l)
  | l2 h z r => exact .l2 (n _ (by simp) _ h) z (r.lz l fun x hx => n x (by simp [hx]))
  | dctK h y e r => exact .dctK (n _ (by simp) _ h) y e (r.lz l)
  | dctT h y e q r => exact .dctT (n _ (by simp) _ h) y e q (r.lz l)
theorem Rows.rp (l : Lz γ Z H γ Z' H) : ∀ {as : List Addr} {yss : List (List D)}, Rows K mg γ Z H as yss → (∀ x ∈ as, Z' x) → RpL K mg γ Z' H (as.map V.ref) (yss.map D.lst)
  | _, _, .nil, _ => .nil
  | _, _, .cons h z r t, n => .cons (.lst (n _ (by simp)) h z (r.lz l)) (Rows.rp l t fun x hx => n x (by simp [hx]))
theorem Fr.zmore (f : Fr K mg bs σ env γ Z H S) {F : List Addr} (hf : ∀ x ∈ F, ¬ Z x ∧ x ∉ γ ∧ bs.H x = none ∧ ∃ u, H x = some u) : Lz γ Z H γ (fun x => Z x ∨ x ∈ F) H ∧ Ok K mg γ (fun x => Z x ∨ x ∈ F) H S ∧ Le bs.γ bs.Z bs.H γ (fun x => Z x ∨ x ∈ F) H := by
  have l : Lz γ Z H γ (fun x => Z x ∨ x ∈ F) H := ⟨fun _ _ e => e, fun _ _ _ e => e, ⟨[], by simp⟩, fun _ z => .inl z⟩
  have w := f.ok
  refine ⟨l, ⟨w.len, w.nd, fun a m z => z.elim (w.nz a m) fun z => (hf a z).2.1 m, fun a z => z.elim (w.zt a) fun z => (hf a z).2.2.2, fun i a c e1 e2 => ?_⟩, ⟨f.le.keep, f.le.there, f.le.pre, fun a z => .inl (f.le.zz a z), fun a z => z.elim (f.le.znew a) fun z => .inr (hf a z).2.2.1, f.le.gnew⟩⟩
  obtain ⟨kvs, g1, g2, g3⟩ := w.cells i a c e1 e2
  exact ⟨kvs, g1, g2, g3.lz l⟩
end
section
variable {X : Cx} {bs : Bs} {Xq : XQ}
theorem ss_fz {ss : List Stmt} {m : Env → M Out} (i : Nat) (h : PSs X ss (tSx X bs Xq m)) : PSs X ss (tSx X bs Xq fun env => m (frzS env i)) := by
  refine ⟨fun pins s σ H D I hw => ?_⟩
  obtain ⟨env, S, γ, Z, f, p⟩ := hw
  cases ei : slot env i with
  | no =>
    have e : frzS env i = env := by unfold frzS; rw [ei]
    dsimp only at p
    rw [e] at p
    exact h.run pins s σ H D I ⟨env, S, γ, Z, f, p⟩
  | val d =>
    have e : frzS env i = env := by unfold frzS; rw [ei]
    dsimp only at p
    rw [e] at p
    exact h.run pins s σ H D I ⟨env, S, γ, Z, f, p⟩
  | own o =>
    have e : frzS env i = env.set i (.val o.d) := by unfold frzS; rw [ei]
    dsimp only at p
    rw [e] at p
    obtain ⟨F, ow⟩ := f.own
    obtain ⟨a, h1, h2⟩ := ow.at_ i _ ei
    have hf : ∀ x ∈ F i, ¬ Z x ∧ x ∉ γ ∧ bs.H x = none ∧ ∃ u, H x = some u := fun x hx => by
      obtain ⟨q1, q2, q3⟩ := ow.free i o ei x hx
      exact ⟨q1, q2, q3, h2.there x hx⟩
    obtain ⟨l, w, hle⟩ := f.zmore hf
    have same : ∀ j p b, j ≠ i → slot env j = .own p → OwnAt X.K X.mg γ Z H b p (F j) → OwnAt X.K X.mg γ (fun x => Z x ∨ x ∈ F i) H b p (F j) := fun j p b _ _ h => h.lz l fun _ _ _ e => e
    have keep : ∀ {u : HO} {od : Obj}, H a = some u → (∀ vs, u ≠ .tup vs) → a ∈ F i → Lz γ Z H γ (fun x => Z x ∨ x ∈ F i) (upd H a (.frz od u)) ∧ Ok X.K X.mg γ (fun x => Z x ∨ x ∈ F i) (upd H a (.frz od u)) S ∧ Le bs.γ bs.Z bs.H γ (fun x => Z x ∨ x ∈ F i) (upd H a (.frz od u)) ∧
        ∀ j p b, j ≠ i → slot env j = .own p → OwnAt X.K X.mg γ Z H b p (F j) → OwnAt X.K X.mg γ (fun x => Z x ∨ x ∈ F i) (upd H a (.frz od u)) b p (F j) := by
      intro u od hu ht hm
      obtain ⟨q1, q2, q3⟩ := ow.free i o ei a hm
      have l1 := Lz.updAt (γ := γ) hu q1 (.frz od u) ht
      have l2 : Lz γ Z H γ (fun x => Z x ∨ x ∈ F i) (upd H a (.frz od u)) := ⟨l1.tup, l1.kz, l1.pre, fun _ z => .inl z⟩
      have w1 := f.ok.updAt hu q1 q2 (.frz od u) ht
      refine ⟨l2, ⟨w1.len, w1.nd, fun b m z => z.elim (w1.nz b m) fun z => (hf b z).2.1 m, fun b z => ?_, fun j b c e1 e2 => ?_⟩, ?_, fun j p b hji ej hj => ?_⟩
      · by_cases hb : b = a
        · rw [hb]; exact ⟨_, upd_same⟩
        · rw [upd_ne hb]
          exact w.zt b z
      · obtain ⟨kvs, g1, g2, g3⟩ := w1.cells j b c e1 e2
        exact ⟨kvs, g1, g2, g3.lz ⟨fun _ _ e => e, fun _ _ _ e => e, ⟨[], by simp⟩, fun _ z => .inl z⟩⟩
      · have l3 := f.le.updNew q3 (.frz od u)
        exact ⟨l3.keep, l3.there, l3.pre, fun b z => .inl (l3.zz b z), fun b z => z.elim (l3.znew b) fun z => .inr (hf b z).2.2.1, l3.gnew⟩
      · refine hj.lz l2 fun x hx v ev => ?_
        rw [upd_ne (show x ≠ a from fun z => ow.apart j i p o hji ej ei x hx (by rw [z]; exact hm))]
        exact ev
    generalize hF : F i = Fi at h2
    cases h2 with
    | lst g1 g2 g3 =>
      have hr : Rp X.K X.mg γ (fun x => Z x ∨ x ∈ F i) H (.ref a) _ := .lst (.inr (by rw [hF]; simp)) g1 g2 (g3.lz l)
      exact h.run pins s σ H D I ⟨_, S, γ, _, f.freeze ow ei h1 l w hle hr same, PstS.mono l p⟩
    | l2 g1 g2 g3 =>
      have hr : Rp X.K X.mg γ (fun x => Z x ∨ x ∈ F i) H (.ref a) _ := .lst (.inr (by rw [hF]; simp)) g1 (by rw [List.length_map]; exact g2) (g3.rp l fun x hx => .inr (by rw [hF]; simp [hx]))
      exact h.run pins s σ H D I ⟨_, S, γ, _, f.freeze ow ei h1 l w hle hr same, PstS.mono l p⟩
    | dctK g1 g2 g3 g4 =>
      obtain ⟨od, I'⟩ := I.lock g1 trivial
      have hm : a ∈ F i := by rw [hF]; simp
      obtain ⟨l', w', hle', same'⟩ := keep (od := od) g1 (fun _ z => nomatch z) hm
      have hr : Rp X.K X.mg γ (fun x => Z x ∨ x ∈ F i) (upd H a (.frz od _)) (.ref a) _ := .dctK (.inr hm) upd_same g2 g3 (g4.lz l')
      exact h.run pins s σ _ D I' ⟨_, S, γ, _, f.freeze ow ei h1 l' w' hle' hr same', PstS.mono l' p⟩
    | dctT g1 g2 g3 g4 g5 =>
      obtain ⟨od, I'⟩ := I.lock g1 trivial
      have hm : a ∈ F i := by rw [hF]; simp
      obtain ⟨l', w', hle', same'⟩ := keep (od := od) g1 (fun _ z => nomatch z) hm
      have hr : Rp X.K X.mg γ (fun x => Z x ∨ x ∈ F i) (upd H a (.frz od _)) (.ref a) _ := .dctT (.inr hm) upd_same g2 g3 g4 (g5.lz l')
      exact h.run pins s σ _ D I' ⟨_, S, γ, _, f.freeze ow ei h1 l' w' hle' hr same', PstS.mono l' p⟩
end
/-! ### an own container is looked into -/
section
variable {K : PySem.W.Frag} {mg : Str → Option Value} {bs : Bs} {Xq : XQ} {γ γ' : List Addr} {Z Z' : Addr → Prop} {H H' : Hp} {S S' : Sto} {σ σ' : L2.St} {env env1 : Env}
/-- what stands at a slot: a value, an own list, an own dict -/
theorem Fr.look (f : Fr K mg bs σ env γ Z H S) {i : Nat} {d : D} (h : getB env i = some d) : ∃ v, σ[i]? = some (some v) ∧ (Rp K mg γ Z H v d ∨ (∃ a vs xs, v = .ref a ∧ d = .lst xs ∧ H a = some (.lst vs) ∧ xs.length ≤ LIM ∧ RpL K mg γ Z H vs xs) ∨ ∃ a t es, v = .ref a ∧ d = .dct t es ∧ DctAt K mg γ Z H a t es) := by
  unfold getB at h
  split at h
  · rename_i d' e
    cases h
    obtain ⟨v, h1, h2⟩ := f.val i _ e
    exact ⟨v, h1, .inl h2⟩
  · rename_i xs e
    cases h
    obtain ⟨a, vs, h1, h2, h3, h4, _⟩ := f.ownL e
    exact ⟨_, h1, .inr (.inl ⟨a, vs, xs, rfl, rfl, h2, h3, h4⟩)⟩
  · rename_i t es e
    cases h
    obtain ⟨F, ow⟩ := f.own
    obtain ⟨a, h1, h2⟩ := ow.at_ i _ e
    refine ⟨_, h1, .inr (.inr ⟨a, t, es, rfl, rfl, ?_⟩)⟩
    generalize F i = Fi at h2
    cases h2 with
    | dctK g1 g2 g3 g4 => exact .inl ⟨rfl, _, .inl g1, g3, g4⟩
    | dctT g1 g2 g3 g4 g5 => exact .inr ⟨rfl, _, .inl g1, g3, g4, g5⟩
  · cases h
theorem in_brw {x y : V} {d e : D} {k : Bool} {Q : VK} (c : Cp) (hc : c = .isin ∨ c = .notin) (rx : Rp K mg γ Z H x d) (ry : Rp K mg γ Z H y e ∨ (∃ a vs xs, y = .ref a ∧ e = .lst xs ∧ H a = some (.lst vs) ∧ xs.length ≤ LIM ∧ RpL K mg γ Z H vs xs) ∨ ∃ a t es, y = .ref a ∧ e = .dct t es ∧ DctAt K mg γ Z H a t es)
    (h : cmp2 c d e = some k) (q : Q (.bl k) H) : rCp K c x y H Q := by
  rcases ry with ry | ⟨a, vs, xs, rfl, rfl, h1, h2, h3⟩ | ⟨a, t, es, rfl, rfl, h1⟩
  · exact ent_cp c rx ry h q
  · have l : Lz γ Z H γ (fun x => Z x ∨ x = a) H := ⟨fun _ _ e => e, fun _ _ _ e => e, ⟨[], by simp⟩, fun _ z => .inl z⟩
    exact ent_cp c (rx.lz l) (.lst (.inr rfl) h1 h2 (h3.lz l)) h q
  · rcases hc with rfl | rfl
    all_goals
      simp only [cmp2, inD] at h
      split at h <;> cases h
      rename_i hk
      refine .inr (.inr ?_)
      rcases h1.get hk rx with ⟨v, d', g, e1, _⟩ | ⟨g, e1⟩
      · exact ⟨a, _, rfl, g, by simp only [e1, Option.isSome_some] at q; exact q⟩
      · exact ⟨a, _, rfl, g, by simp only [e1, Option.isSome_none] at q; exact q⟩
end
section
variable {X : Cx} {bs : Bs} {Xq : XQ} {pos : Pos} {ma mb mc : Env → M D} {a b c : Expr}
theorem q_inB (cp : Cp) (hc : cp = .isin ∨ cp = .notin) {i : Nat} (hu : X.A.units + 65 < cLine) (ha : PE X a (tEx X bs Xq ma)) (hb : PE X b (tVar i)) (hm : behindInMarks (cpOf cp) b = false) :
    PE X (.Compare a [cpOf cp] [b] pos) (tEx X bs Xq fun env => (ma env).bind fun x => (M.opt (getB env i)).bind fun y => M.opt ((cmp2 cp x y).map .bl)) := by
  refine pe_weak (pe_cmpR (op_cp hu cp) ha hb hm) fun σ H Q ⟨env, S, γ, Z, f, p⟩ => ⟨env, S, γ, Z, f, p.bind fun x d H1 γ1 Z1 S1 l1 f1 r1 p1 => ?_⟩
  obtain ⟨e, eb, p2⟩ := p1.optB
  obtain ⟨v, hv, hr⟩ := f1.look eb
  obtain ⟨g, e1, p3⟩ := p2.opt
  cases hk : cmp2 cp d e with
  | none => rw [hk] at e1; cases e1
  | some k =>
    rw [hk] at e1
    cases e1
    exact ⟨v, hv, in_brw cp hc r1 hr hk (p3.here f1 (.bl k))⟩
theorem qt_inB (cp : Cp) (hc : cp = .isin ∨ cp = .notin) {i : Nat} (hu : X.A.units + 65 < cLine) (ha : PE X a (tEx X bs Xq ma)) (hb : PE X b (tVar i)) (hm : behindInMarks (cpOf cp) b = false) :
    PT X (.Compare a [cpOf cp] [b] pos) (tBx X bs Xq (mB fun env => (ma env).bind fun x => (M.opt (getB env i)).bind fun y => M.opt ((cmp2 cp x y).map .bl))) := by
  refine pt_weak (pt_cmpR (op_cp hu cp) ha hb hm) fun σ H Q ⟨env, S, γ, Z, f, p⟩ => ?_
  simp only [mB, M.bind_assoc] at p
  refine ⟨env, S, γ, Z, f, p.bind fun x d H1 γ1 Z1 S1 l1 f1 r1 p1 => ?_⟩
  obtain ⟨e, eb, p2⟩ := p1.optB
  obtain ⟨v, hv, hr⟩ := f1.look eb
  obtain ⟨g, e1, p3⟩ := p2.optB
  cases hk : cmp2 cp d e with
  | none => rw [hk] at e1; cases e1
  | some k =>
    rw [hk] at e1
    cases e1
    exact ⟨v, hv, in_brw cp hc r1 hr hk ⟨k, rfl, Pst.here (a := k) p3 f1 rfl⟩⟩
theorem q_ixB {i : Nat} (hu : X.A.units + 65 < cLine) (ha : PE X a (tVar i)) (hb : PE X b (tEx X bs Xq mb)) (hs : PlainIx b) :
    PE X (.Subscript a b pos) (tEx X bs Xq fun env => (M.opt (getB env i)).bind fun x => (mb env).bind fun y => M.opt (ixD x y)) := by
  refine pe_weak (pe_ix (ix_q hu) ha hb hs) fun σ H Q ⟨env, S, γ, Z, f, p⟩ => ?_
  obtain ⟨d, eb, p⟩ := p.optB
  obtain ⟨v, hv, _⟩ := f.look eb
  refine ⟨v, hv, env, S, γ, Z, f, p.bind fun y e H2 γ2 Z2 S2 l2 f2 r2 p2 => ?_⟩
  obtain ⟨v', hv', hr⟩ := f2.look eb
  rw [hv] at hv'
  cases hv'
  obtain ⟨g, e1, p3⟩ := p2.opt
  rcases hr with hr | ⟨a, vs, xs, rfl, rfl, h1, h2, h3⟩ | ⟨a, t, es, rfl, rfl, h1⟩
  · exact ix_ent hr r2 e1 fun w rw => p3.here f2 rw
  · cases e <;> first | (simp [ixD] at e1; done) | skip
    simp only [ixD] at e1
    cases r2
    obtain ⟨w, h4, h5⟩ := nth_rel h3 e1
    exact .inl (.inl ⟨a, vs, _, w, rfl, rfl, SqL.of h1, h4, p3.here f2 h5⟩)
  · simp only [ixD] at e1
    split at e1 <;> try contradiction
    rename_i hk
    rcases h1.get hk r2 with ⟨w, d', g1, g2, g3⟩ | ⟨g1, g2⟩
    · rw [g2] at e1
      cases e1
      exact .inr ⟨a, w, rfl, g1, p3.here f2 g3⟩
    · rw [g2] at e1; cases e1
end
end Q

set_option Elab.async false
set_option linter.all false
set_option autoImplicit false
set_option maxRecDepth 100000
set_option maxHeartbeats 1000000
/-! QDct: displays of dicts with tuples as keys. -/
namespace Q
open PySem PySem.Spec PyProof.Rows L2
section
variable {X : Cx} {bs : Bs} {Xq : XQ} {a b : Expr} {ma mb : Env → M D} {pos : Pos} {ta tb : TE}
/-- dictSet of a tracked dict with tuples as keys -/
theorem dset_t {pins : List (Addr × Obj)} {σ : L2.St} {H : Hp} {s : Shared} {A : Around} {E : Value → Shared → Prop} {d c : Addr} {kvs : List (List Key × V)} {k : List Key} {v : V} {r : Value} {Q : Unit → Shared → Prop} (hu : A.units + 1 < cLine) (I : Inv X pins σ H s) (e : H d = some (.dT kvs)) (ec : H c = some (.tup (k.map kV))) (l : kvs.length < sizeLine) (rv : RelV v r)
    (h : ∀ s', Inv X pins σ (upd H d (.dT (putK kvs k v))) s' → Q () s') : wpAny (model X.prog X.w) A (dictSet d (.ref c) r) Q E s := by
  obtain ⟨z, hd, xs, rel, dd⟩ := dt_of I.hok e
  have hz : xs.length ≤ sizeLine := by rw [← Paired.length rel]; exact z
  have hl : (putK kvs k v).length ≤ sizeLine := Nat.le_trans (length_putK kvs k v) l
  refine wpAny_dictSet_heap (hsz := hz) (show A.units < cLine by omega) (key_of I.hok ec) dd fun h' dd' hs => h _ ?_
  obtain ⟨q, es, ep, hq, h2, h3, h4, _, h5⟩ := dd'
  refine d_write I (by rw [e]; trivial) hs ⟨q, hq⟩ ⟨hl, hd, _, (rel.put k ec rv).keeps fun c' ys e' => ?_, q, es, ep, hq, h2, h3, h4, h5⟩
  exact (upd_ne (ne_of e' e (fun z => nomatch z))).trans e'
def tDisp1T (ta tb : TE) : TE := fun σ H Q => ∀ p, H p = none → ta σ (upd H p (.dT [])) fun x H1 => tb σ H1 fun y H2 => ∃ (c : Addr) (k : List Key), x = .ref c ∧ H2 p = some (.dT []) ∧ H2 c = some (.tup (k.map kV)) ∧ Q (.ref p) (upd H2 p (.dT [(k, y)]))
theorem pe_disp1T (hu : X.A.units + 2 < cLine) (ha : PE X a ta) (hb : PE X b tb) : PE X (.Dict [some a] [b] pos) (tDisp1T ta tb) := by
  refine ⟨fun pins s σ H Q I h => ?_⟩
  have hn := I.hok.fresh (Nat.le_refl s.heap.objs.size)
  have I1 := I.laid (a := s.heap.objs.size) (o := .dT []) (h' := s.heap.push { cls := .type "dict", data := .dict #[] }) (t' := s.toks) (fun _ _ q => Heap.get?_push_of_some _ q) (Nat.le_refl _) (dt_empty s.heap I.big)
  rw [arm_eval_Dict]
  refine wpAny_bind (wpAny_standAt ?_)
  show wpAny _ _ (dictDisplay ([(eval a X.env, (do let x ← eval b X.env; standAt pos; pure x))].map fun p => (some p.1, p.2))) _ _ _
  rw [dictDisplay_pairs _ (by simp) (by simp)]
  refine wpAny_bind ?_
  unfold subDict
  refine wpAny_bind (wpAny_alloc (wpAny_bind (wpAny_holding ?_)))
  rw [if_pos (by simp)]
  refine wpAny_bind (evalPairs_cons (thn (ha.run pins _ σ _ _ I1 (h _ hn)) fun kv s1 ⟨x, H1, I2, r1, q1⟩ => ?_))
  refine wpAny_bind (thn (hb.run pins s1 σ H1 _ I2 q1) fun vv s2 ⟨y, H2, I3, r2, c, k, ex, h1, h2, q2⟩ => wpAny_bind (wpAny_standAt (wpAny_pure (evalPairs_nil ?_))))
  subst ex
  cases r1
  refine wpAny_holding ?_
  rw [List.forIn_cons]
  refine wpAny_bind (wpAny_bind (wpAny_bind (dset_t (by omega) I3 h1 h2 (by decide) r2 fun s3 I4 => wpAny_pure ?_)))
  dsimp only
  rw [List.forIn_nil]
  exact wpAny_pure (wpAny_pure (wpAny_pure (wpAny_pure ⟨.ref s.heap.objs.size, _, I4, rfl, q2⟩)))
theorem k_disp1T (hu : X.A.units + 65 < cLine) (ha : PE X a (tEx X bs Xq ma)) (hb : PE X b (tEx X bs Xq mb)) :
    PE X (.Dict [some a] [b] pos) (tKx X bs Xq .dct fun env => (ma env).bind fun kd => (mb env).bind fun vd => if keyOk true kd = true then M.ret (.dct true [(kd, vd)]) else fun _ => .stuck) := by
  refine pe_weak (pe_disp1T (by omega) ha hb) fun σ H Q ⟨env, S, γ, Z, f, p⟩ => fun L hL => ?_
  obtain ⟨nz, ng⟩ := f.ok.fresh hL
  have l0 := Le.new (γ := γ) (Z := Z) (o := .dT []) hL
  have f0 := f.step l0 (f.ok.new hL)
  refine ⟨env, S, γ, Z, f0, p.bindAt fun x kd H1 γ1 Z1 S1 l1 f1 r1 p1 => ⟨env, S1, γ1, Z1, f1, p1.bindAt fun y vd H2 γ2 Z2 S2 l2 f2 r2 p2 => ?_⟩⟩
  obtain ⟨hk, p3⟩ := p2.iteS
  obtain ⟨g1, g2, g3⟩ := l1.off upd_same nz ng
  obtain ⟨g1, g2, g3⟩ := l2.off g1 g2 g3
  have rk := r1.mono f1.ok l2
  have hkl : ∀ ds, kd = .tup ds → ds.length ≤ LIM := fun ds e => by
    subst e; exact rk.tlen'
  obtain ⟨c, q, rfl, hc, rfl⟩ := rk.keyT hk
  have hql := hkl _ rfl
  refine ⟨c, q, rfl, g1, hc, ?_⟩
  have lf := (l0.trans (l1.trans l2)).updNew hL (.dT [(q, y)])
  have wf := f2.ok.updAt g1 g2 g3 (.dT [(q, y)])
  refine p3 (.ref L) [L] _ γ2 Z2 lf (f.step lf wf) (.dctT hL g2 g3 upd_same (by show 1 ≤ 16777216; decide) rfl (fun p hp => ?_) (.cons (r2.lz (Lz.updAt g1 g2 _)) .nil))
  simp at hp
  subst hp
  simpa using hql
end
end Q

set_option Elab.async false
set_option linter.all false
set_option autoImplicit false
set_option maxRecDepth 100000
set_option maxHeartbeats 1000000
/-! QMin: min of a list of data. -/
namespace Q
open PySem PySem.Spec PySem.W PyProof.Rows L2
mutual
theorem toP_inj : ∀ (n m : Nat) (a b : D), pln n a = true → pln m b = true → toP a = toP b → a = b
  | n, m, .tup xs, b, ha, hb, e => by
    cases n with
    | zero => simp [pln] at ha
    | succ n =>
      cases b with
      | tup ys =>
        cases m with
        | zero => simp [pln] at hb
        | succ m =>
          simp only [pln] at ha hb
          simp only [toP, PyData.tuple.injEq] at e
          rw [toPs_inj n m xs ys ha hb e]
      | _ => first | (simp [toP] at e; done) | (cases m <;> simp [pln] at hb; done)
  | n, m, .lst xs, b, ha, hb, e => by
    cases n with
    | zero => simp [pln] at ha
    | succ n =>
      cases b with
      | lst ys =>
        cases m with
        | zero => simp [pln] at hb
        | succ m =>
          simp only [pln] at ha hb
          simp only [toP, PyData.list.injEq] at e
          rw [toPs_inj n m xs ys ha hb e]
      | _ => first | (simp [toP] at e; done) | (cases m <;> simp [pln] at hb; done)
  | n, m, .non, b, ha, hb, e => by
    cases b <;> first | rfl | (simp [toP] at e; done) | (cases m <;> simp [pln] at hb; done)
  | n, m, .bl x, b, ha, hb, e => by
    cases b <;> first | (simp only [toP, PyData.bool.injEq] at e; rw [e]; done) | (simp [toP] at e; done) | (cases m <;> simp [pln] at hb; done)
  | n, m, .int x, b, ha, hb, e => by
    cases b <;> first | (simp only [toP, PyData.int.injEq] at e; rw [e]; done) | (simp [toP] at e; done) | (cases m <;> simp [pln] at hb; done)
  | n, m, .str x, b, ha, hb, e => by
    cases b <;> first | (simp only [toP, PyData.str.injEq] at e; rw [e]; done) | (simp [toP] at e; done) | (cases m <;> simp [pln] at hb; done)
  | n, m, .scr _, b, ha, _, _ => by cases n <;> simp [pln] at ha
  | n, m, .dct _ _, b, ha, _, _ => by cases n <;> simp [pln] at ha
  | n, m, .ty _, b, ha, _, _ => by cases n <;> simp [pln] at ha
  | n, m, .fn _, b, ha, _, _ => by cases n <;> simp [pln] at ha
  | n, m, .cell _, b, ha, _, _ => by cases n <;> simp [pln] at ha
  | n, m, .exc _ _, b, ha, _, _ => by cases n <;> simp [pln] at ha
theorem toPs_inj : ∀ (n m : Nat) (a b : List D), a.all (pln n) = true → b.all (pln m) = true → toPs a = toPs b → a = b
  | n, m, [], [], _, _, _ => rfl
  | n, m, [], y :: ys, _, _, e => by simp [toPs] at e
  | n, m, x :: xs, [], _, _, e => by simp [toPs] at e
  | n, m, x :: xs, y :: ys, ha, hb, e => by
    simp only [List.all_cons, Bool.and_eq_true] at ha hb
    simp only [toPs, List.cons.injEq] at e
    rw [toP_inj n m x y ha.1 hb.1 e.1, toPs_inj n m xs ys ha.2 hb.2 e.2]
end
theorem toPs_map : ∀ ds : List D, toPs ds = ds.map toP
  | [] => rfl
  | d :: ds => by simp only [toPs, List.map_cons, toPs_map ds]
theorem minDs_toP : ∀ (xs : List D) (x : D), toP (minDs x xs) = minD (toP x) (toPs xs)
  | [], _ => rfl
  | y :: ys, x => by
    simp only [minDs, minD, toPs, List.foldl_cons]
    have ih := minDs_toP ys (if dataLt (toP y) (toP x) then y else x)
    simp only [minDs, minD] at ih
    rw [ih]
    congr 1
    split <;> rfl
theorem minDs_mem : ∀ (xs : List D) (x : D), minDs x xs ∈ x :: xs
  | [], _ => by simp [minDs]
  | y :: ys, x => by
    have ih := minDs_mem ys (if dataLt (toP y) (toP x) then y else x)
    simp only [minDs, List.foldl_cons] at ih ⊢
    rcases List.mem_cons.mp ih with h | h
    · rw [h]
      split <;> simp
    · simp [h]
section
variable {X : Cx} {bs : Bs} {Xq : XQ} {K : PySem.W.Frag} {mg : Str → Option Value}
def rMinL (K : PySem.W.Frag) : RC := fun vs H Q => ∃ a ws p ps, vs = [.ref a] ∧ SqL K H a ws ∧ DpAll K H ws (p :: ps) ∧ AlikeAll (p :: ps) ∧ PyData.depthAll (p :: ps) ≤ 60 ∧ ∀ (i : Nat) (v : V), ws[i]? = some v → (p :: ps)[i]? = some (minD p ps) → Q v H
theorem call_minL (hc : X.calm = true) (hu : X.A.units + 65 < cLine) : CallR X (.builtin "min") (rMinL X.K) := by
  intro pins s σ H xs us Q I r h
  obtain ⟨a, ws, p, ps, rfl, hs, hd, ha, hdp, q⟩ := h
  rw [Vals.ref1 r]
  obtain ⟨its, rv, hl, _⟩ := I.list hs
  obtain ⟨as, rd⟩ := Dp.readsAll I (p :: ps) ws its hd rv
  refine min_list_data (I.ok.hd hc) hl.isList (by simpa using rd) ha (by omega) fun i v h' tk bs' hv hr hk => ?_
  have hv' : its[i]? = some v := by simpa using hv
  obtain ⟨bs2, r2, hi, _, _⟩ := readsAll_at rd i v hv'
  obtain ⟨e, _⟩ := reads_det (fun b o e _ => hk b o e) r2 hr
  have hi2 : i < ws.length := by
    rw [rv.length]
    exact (List.getElem?_eq_some_iff.mp hv').1
  obtain ⟨u, hu, ry⟩ := rv.get (List.getElem?_eq_getElem hi2)
  rw [hv'] at hu
  cases hu
  refine ⟨_, H, I.kept hk, ry, q i _ (List.getElem?_eq_getElem hi2) ?_⟩
  rw [e, List.getElem?_eq_getElem hi, List.getD_eq_getElem?_getD, List.getElem?_eq_getElem hi]
  rfl
theorem alike_ok {ds : List D} (h : alikeB ds = true) : ds.all (pln 59) = true ∧ AlikeAll (toPs ds) := by
  unfold alikeB cmpOk at h
  simp only [Bool.and_eq_true, pln, List.all_eq_true] at h
  obtain ⟨h1, h2, h3⟩ := h
  refine ⟨List.all_eq_true.mpr h1, ?_, ?_⟩
  · rw [toPs_map]
    intro x hx y hy
    obtain ⟨a, ha, rfl⟩ := List.mem_map.mp hx
    obtain ⟨b, hb, rfl⟩ := List.mem_map.mp hy
    exact h2 a ha b hb
  · rw [toPs_map]
    intro x hx
    obtain ⟨a, ha, rfl⟩ := List.mem_map.mp hx
    have h4 := h3 a ha
    have h5 := h1 a ha
    cases a <;> simp [toP] at h4 ⊢ <;> (simp [pln] at h5)
theorem min_at {x : D} {xs : List D} {i : Nat} {d : D} (hp : (x :: xs).all (pln 59) = true) (hd : (x :: xs)[i]? = some d) (h : (toP x :: toPs xs)[i]? = some (minD (toP x) (toPs xs))) : d = minDs x xs := by
  have e : (toP x :: toPs xs) = (x :: xs).map toP := by rw [List.map_cons, toPs_map]
  rw [e, List.getElem?_map, hd] at h
  have h := Option.some.inj h
  rw [← minDs_toP] at h
  have m1 := List.all_eq_true.mp hp d (List.mem_of_getElem? hd)
  have m2 := List.all_eq_true.mp hp _ (minDs_mem xs x)
  exact toP_inj 59 59 d (minDs x xs) m1 m2 h
theorem ent_minL : Ent K mg bs Xq (pr1 .minl) (rMinL K) := by
  intro σ env γ Z H S vs ds f Q F r h p
  unfold pr1 at h
  split at h <;> try contradiction
  all_goals (rename_i he; first | cases he | skip)
  split at h <;> cases h
  rename_i x xs hs
  obtain ⟨h1, h2⟩ := alike_ok hs
  cases r with
  | cons r t =>
    cases t
    obtain ⟨a, ws, rfl, _, g1, _, g2⟩ := r.lst'
    obtain ⟨d1, _, d3⟩ := g2.dp h1
    refine ⟨a, ws, toP x, toPs xs, rfl, SqL.of g1, d1, h2, by have : PyData.depthAll (toPs (x :: xs)) ≤ 59 := d3; exact Nat.le_trans this (by decide), fun i v hv hi => ?_⟩
    obtain ⟨d, hd, rd⟩ := g2.getV hv
    have := min_at h1 hd hi
    subst this
    exact p.here F rd
/-! ### min(xs, default=d) -/
def rMinK (K : PySem.W.Frag) : List V → List V → Hp → VK → Prop := fun vs zs H Q => ∃ a ws ps z, vs = [.ref a] ∧ zs = [z] ∧ SqL K H a ws ∧ DpAll K H ws ps ∧ AlikeAll ps ∧ PyData.depthAll ps ≤ 60 ∧ (ps = [] → Q z H) ∧ ∀ p ps', ps = p :: ps' → ∀ (i : Nat) (v : V), ws[i]? = some v → ps[i]? = some (minD p ps') → Q v H
theorem call_minK (hc : X.calm = true) (hu : X.A.units + 65 < cLine) : CallRK X (.builtin "min") ["default"] (rMinK X.K) := by
  intro pins s σ H xs zs us wz Q I r rz h
  obtain ⟨a, ws, ps, z, rfl, rfl, hs, hd, ha, hdp, q0, q⟩ := h
  rw [Vals.ref1 r]
  obtain ⟨uz, rfl, ruz⟩ := rz.one
  obtain ⟨its, rv, hl, _⟩ := I.list hs
  obtain ⟨as, rd⟩ := Dp.readsAll I ps ws its hd rv
  refine min_list_default (I.ok.hd hc) hl.isList (by simpa using rd) ha (by omega) (fun e h' tk hk => ⟨z, H, I.kept hk, ruz, q0 e⟩) fun y ys i v h' tk bs' ey hv hr hk => ?_
  subst ey
  have hv' : its[i]? = some v := by simpa using hv
  obtain ⟨bs2, r2, hi, _, _⟩ := readsAll_at rd i v hv'
  obtain ⟨e, _⟩ := reads_det (fun b o e _ => hk b o e) r2 hr
  have hi2 : i < ws.length := by
    rw [rv.length]
    exact (List.getElem?_eq_some_iff.mp hv').1
  obtain ⟨u, hu, ry⟩ := rv.get (List.getElem?_eq_getElem hi2)
  rw [hv'] at hu
  cases hu
  refine ⟨_, H, I.kept hk, ry, q y ys rfl i _ (List.getElem?_eq_getElem hi2) ?_⟩
  rw [e, List.getElem?_eq_getElem hi, List.getD_eq_getElem?_getD, List.getElem?_eq_getElem hi]
  rfl
theorem q_mind {a d : Expr} {ma md : Env → M D} {p pos kp : Pos} (hc : X.calm = true) (hu : X.A.units + 65 < cLine) (hg : Gl X "min") (hm : X.mg "min" = none) (ha : PE X a (tEx X bs Xq ma)) (hd : PE X d (tEx X bs Xq md)) (hs : starEach [a] X.env = (false, eval a X.env) :: starEach [] X.env) :
    PE X (.Call (.Name "min" p) [a] [⟨some "default", d, kp⟩] pos) (tEx X bs Xq fun env => (ma env).bind fun x => (md env).bind fun z => M.opt (mindD x z)) := by
  refine pe_weak (pe_callBK (call_minK hc hu) hg hm (by decide +kernel) (pa_cons ha pa_nil hs) (pk_cons hd pk_nil) (by decide) (by decide) (by rw [hs]; rfl) (by rw [hs]; rfl) rfl rfl rfl) fun σ H Q ⟨env, S, γ, Z, f, p⟩ => ⟨env, S, γ, Z, f, p.bind fun x xd H1 γ1 Z1 S1 l1 f1 r1 p1 => ⟨env, S1, γ1, Z1, f1, p1.bind fun z zd H2 γ2 Z2 S2 l2 f2 r2 p2 => ?_⟩⟩
  obtain ⟨g, e1, p3⟩ := p2.opt
  have r1 := r1.mono f1.ok l2
  unfold mindD at e1
  split at e1 <;> try contradiction
  · cases e1
    obtain ⟨q, ws, rfl, _, g1, _, g2⟩ := r1.lst'
    cases g2
    exact ⟨q, [], [], z, rfl, rfl, SqL.of g1, .nil, ⟨fun x hx => by simp at hx, fun x hx => by simp at hx⟩, Nat.zero_le _, fun _ => p3.here f2 r2, fun p ps' e => by cases e⟩
  · rename_i y ys _
    split at e1 <;> cases e1
    rename_i hs
    obtain ⟨h1, h2⟩ := alike_ok hs
    obtain ⟨q, ws, rfl, _, g1, _, g2⟩ := r1.lst'
    obtain ⟨d1, _, d3⟩ := g2.dp h1
    refine ⟨q, ws, toPs (y :: ys), z, rfl, rfl, SqL.of g1, d1, h2, Nat.le_trans d3 (by decide), (fun e => by simp [toPs] at e), fun p ps' e i v hv hi => ?_⟩
    simp only [toPs, List.cons.injEq] at e
    obtain ⟨rfl, rfl⟩ := e
    obtain ⟨d, hd, rd⟩ := g2.getV hv
    have := min_at h1 hd hi
    subst this
    exact p3.here f2 rd
end
end Q

set_option Elab.async false
set_option linter.all false
set_option autoImplicit false
set_option maxRecDepth 100000
set_option maxHeartbeats 1000000
/-! QDc: dict comprehensions with tuples as keys. -/
namespace Q
open PySem PySem.Spec PyProof.Rows L2
section
variable {X : Cx} {bs : Bs} {Xq : XQ}
/-- what a dict comprehension with tuples as keys asks for; L: the new dict -/
def tDcT (wi : TI) (g : TG) (tk tv : TE) (vs : List Nat) : TE := fun σ H Q => wi σ H fun J H1 => ∀ L, H1 L = none →
  ∃ W : Nat → Nat → Hp → Prop, (∃ m, W 0 m (upd H1 L (.dT []))) ∧ ∀ i m H, W i m H → (J.stop i H ∧ Q (.ref L) H) ∨ (J.go i H ∧ ∃ Nx : Hp → Prop, (∀ H', Nx H' → ∃ m', m' < m ∧ W (i + 1) m' H') ∧
    ∀ x H', J.yld i H x H' → g x (wipe σ vs) H' fun σ2 H2 => wipe σ2 vs = wipe σ vs ∧ tk σ2 H2 fun y H3 => tv σ2 H3 fun z H4 =>
      ∃ kvs c k, y = .ref c ∧ H4 c = some (.tup (k.map kV)) ∧ H4 L = some (.dT kvs) ∧ kvs.length < sizeLine ∧ Nx (upd H4 L (.dT (putK kvs k z))))
abbrev emptyD : Obj := { cls := .type "dict", data := .dict #[] }
theorem pe_dcT {kx vx tg iter : Expr} {scope : Scope} {own : List (Str × Nat)} {pos : Pos} {wi : TI} {g : TG} {tk tv : TE} (hc : X.calm = true) (hu : X.A.units + 1 < cLine) (hN : X.N.Nodup) (hi : PI X tg iter wi) (ok : BlkOk X.N X.env.scope scope own)
    (hg : ∀ (s : Shared) (H : Hp) (C : Addr) (cl : List (Str × Addr)) (fp : List Addr), PG (X.blk s H scope (compEnvC scope cl C X.env) fp) tg g)
    (hk : ∀ (s : Shared) (H : Hp) (C : Addr) (cl : List (Str × Addr)) (fp : List Addr), PE (X.blk s H scope (compEnvC scope cl C X.env) fp) kx tk)
    (he : ∀ (s : Shared) (H : Hp) (C : Addr) (cl : List (Str × Addr)) (fp : List Addr), PE (X.blk s H scope (compEnvC scope cl C X.env) fp) vx tv) (hs : ∀ x, foldedSetIterable iter X.env x = pure x) :
    PE X (.DictComp kx vx [⟨tg, iter, [], 0⟩] scope pos) (tDcT wi g tk tv (own.map (·.2))) := by
  refine ⟨fun pins s σ H Q I h => ?_⟩
  rw [arm_eval_DictComp]
  have cells : ∀ y ∈ scope.names, y.2 = .free → ∃ c, X.env.cells.lookup y.1 = some c := fun y hy e => (ok.free y hy e).elim (fun k => I.ok.has _ (.inl k)) fun k => I.ok.has _ (.inr k)
  refine wpAny_comprehension_free rfl hs (closure_ok cells) ok.kind (fun y hy e => by rw [ok.uniq y hy, e]) (thn (hi.run pins s σ H _ I h) fun _ s1 hx => thn hx fun _ s2 hx2 => ?_)
  obtain ⟨it, fp, tn, J, H2, rfl, I2, T, st2, f2, q⟩ := hx2
  refine wpAny_newObj_type (newEnv_comp ?_)
  generalize eL : s2.heap.objs.size = L
  have freeL : H2 L = none := I2.hok.fresh (Nat.le_of_eq eL)
  obtain ⟨W, ⟨m0, w0⟩, turn⟩ := q L freeL
  generalize es3 : ({ s2 with heap := s2.heap.push emptyD } : Shared) = s3
  have eh3 : s3.heap = s2.heap.push emptyD := by rw [← es3]
  have I3 : Inv X pins σ (upd H2 L (.dT [])) s3 := by
    subst es3; subst eL
    exact I2.laid (t' := s2.toks) (fun _ _ e => Heap.get?_push_of_some _ e) (Nat.le_refl _) (dt_empty s2.heap I2.big)
  have fp3 : ∀ b ∈ fp, FpOk X pins (upd H2 L (.dT [])) b ∧ b < s3.heap.objs.size := fun b hb => by
    obtain ⟨_, e, _⟩ := T.obj _ _ st2 b hb
    have lt := Heap.lt_size e
    exact ⟨⟨(upd_ne (eL ▸ Nat.ne_of_lt lt)).trans (f2 b hb).1, (f2 b hb).2⟩, by rw [eh3, Heap.size_push]; exact Nat.lt_succ_of_lt lt⟩
  have st3 : tn 0 s3.heap := T.keep _ _ _ st2 fun _ _ _ e => eh3 ▸ Heap.get?_push_of_some _ e
  have I4 := block_start I3 ok hN fp3
  generalize eC : s3.heap.objs.size = C at I4 ⊢
  generalize eH : upd H2 L (.dT []) = H3 at I3 I4 w0 fp3
  generalize ecl : cellsFrom (C + 1) scope.names (cloFrom X.env.cells scope.names []) = cl at I4
  have pg := hg s3 H3 C cl fp
  have pk := hk s3 H3 C cl fp
  have pv := he s3 H3 C cl fp
  generalize ece : compEnvC scope cl C X.env = ce at I4 pg pk pv
  have eloc : ce.locals = C := by rw [← ece]; rfl
  generalize es4 : ({ s3 with heap := pushCells (s3.heap.push emptyD) scope.names } : Shared) = s4 at I4
  have st4 : tn 0 s4.heap := T.keep _ _ _ st3 fun _ _ _ e => es4 ▸ pushCells_keeps _ _ _ _ (Heap.get?_push_of_some _ e)
  have stat : ∀ {σ' : L2.St} {H' : Hp} {s' : Shared}, Inv (X.blk s3 H3 scope ce fp) [] σ' H' s' → (∀ b ∈ fp, H' b = none) → ∀ b ∈ fp, FpOk (X.blk s3 H3 scope ce fp) [] H' b := fun I' no b hb =>
    ⟨no b hb, (I'.ok.exf b hb).1, I'.ok.exfs b hb, .inl hb, fun x c e => (I'.ok.exf b hb).2 x c e, fun p hp => by cases hp⟩
  let post := compPost (model X.prog X.w) X.A X.xe none (fun v s' => ∃ x H', Inv X pins σ H' s' ∧ RelV x v ∧ Q x H') (.ref L) C
  have loop : codeAny (model X.prog X.w) X.A (.compLoop (.DictComp kx vx [⟨tg, iter, [], 0⟩] scope pos) 0 (.ref it) (.ref L) ce) post s4 := by
    refine compLoop_anyD (fun n s' => ∃ i H', Inv (X.blk s3 H3 scope ce fp) [] (wipe σ (own.map (·.2))) H' s' ∧ tn i s'.heap ∧ (∀ b ∈ fp, H' b = none) ∧ W i n H') ?_ m0 ⟨0, H3, I4, st4, fun b hb => (fp3 b hb).1.1, w0⟩
    rintro n s5 ⟨i, H5, I5, st5, n5, w5⟩
    rcases turn i n H5 w5 with ⟨stop, done⟩ | ⟨go, Nx, hNx, step⟩
    · refine thnF (T.done (X.blk s3 H3 scope ce fp) rfl rfl rfl hc i [] s5 _ H5 (fun _ _ => False) I5 (stat I5 n5) st5 stop) fun _ s6 ⟨hr, I6⟩ => ?_
      subst hr
      have I7 : Inv X pins σ H5 s6 := I3.call' (ch := fp) I6.os I6.base I6.hok I6.bare fun b hb => by
        obtain ⟨_, z1, _, z3, z4, z5⟩ := (fp3 b hb).1
        exact ⟨z3, z1, z4, z5⟩
      have noC : H5 C = none := eloc ▸ I6.free
      obtain ⟨mm, hmm, _⟩ := I6.loc
      have hmm : s6.heap.Ns C mm := eloc ▸ hmm
      obtain ⟨z0, z1, _, z3, z4, z5⟩ := I3.fpOk (Nat.le_of_eq eC) noC
      exact ⟨mm, hmm, fun h'' sb => ⟨.ref L, H5, I7.turned (t' := s6.toks) (fun b o hb e => (sb.2 b hb).trans e) z0 z1 z3 z4 z5, rfl, done⟩⟩
    · refine thnF (T.item (X.blk s3 H3 scope ce fp) rfl rfl rfl hc i [] s5 _ H5 (fun _ _ => False) I5 (stat I5 n5) st5 go) fun _ s6 ⟨u, hr, h6⟩ => ?_
      subst hr
      refine thnF h6 fun _ s7 ⟨x, H7, I7, r7, y7, st7, n7⟩ => ?_
      refine thnF (pg.run _ s7 _ H7 x u _ (I7.pinned (stat I7 n7) (T.obj _ _ st7)) r7 (step x H7 y7)) fun _ s8 ⟨σ8, H8, I8, hw8, q8⟩ => ?_
      show wpAny _ _ (forIn [] true _) _ _ _
      rw [List.forIn_nil]
      refine wpAny_pure ?_
      rw [if_pos rfl]
      refine thnF (pk.run _ s8 σ8 H8 _ I8 q8) fun _ s9 ⟨yk, H9, I9, r9, q9⟩ => thnF (pv.run _ s9 σ8 H9 _ I9 q9) fun _ s10 ⟨yv, H10, I10, r10, kvs, c, k, ek, hck, hD, hz, nx⟩ => ?_
      subst ek
      cases r9
      refine dset_t (X := X.blk s3 H3 scope ce fp) (A := X.A) hu I10 hD hck hz r10 fun s' I' => ?_
      obtain ⟨m', hm, w'⟩ := hNx _ nx
      have held : ∀ b ∈ fp, ∀ o, s7.heap.get? b = some o → s'.heap.get? b = some o ∧ (upd H10 L (.dT (putK kvs k yv))) b = none := fun b hb o e =>
        let z := I'.pin (b, o) (List.mem_append_right _ (List.mem_append_right _ (mem_pinsAt hb e)))
        ⟨z.1, z.2.1⟩
      refine ⟨m', hm, i + 1, _, (I'.unpinned (pins := [])).weak (by rw [← hw8, wipe_length]) (fun j v e => ?_), T.keep _ _ _ st7 fun b hb o e => (held b hb o e).1, fun b hb => ?_, w'⟩
      · rw [← hw8] at e
        exact (wipe_some e).1
      · obtain ⟨o, e, _⟩ := T.obj _ _ st7 b hb
        exact (held b hb o e).2
  have := codeAny_compStart_dict loop (T.self X.A 0 _ _ _ st4 loop)
  subst ece; subst ecl; subst es4; subst eC
  exact this
end
/-! ### what it is worth -/
section
variable {K : PySem.W.Frag} {mg : Str → Option Value} {bs : Bs} {Xq : XQ} {γ γ1 γ' : List Addr} {Z Z1 Z' : Addr → Prop} {H H1 H' : Hp} {S S' : Sto} {σ : L2.St} {env env1 : Env} {L : Addr}
/-- a dict with tuples as keys and what it is worth -/
structure DtR (K : PySem.W.Frag) (mg : Str → Option Value) (γ : List Addr) (Z : Addr → Prop) (H : Hp) (kvs : List (List Key × V)) (es : List (D × D)) : Prop where
  ks : es.map (·.1) = kvs.map (fun p => D.tup (p.1.map keyd))
  le : ∀ p ∈ kvs, p.1.length ≤ LIM
  vs : RpL K mg γ Z H (kvs.map (·.2)) (es.map (·.2))
theorem DtR.lz {kvs : List (List Key × V)} {es : List (D × D)} (h : DtR K mg γ Z H kvs es) (l : Lz γ Z H γ' Z' H') : DtR K mg γ' Z' H' kvs es := ⟨h.ks, h.le, h.vs.lz l⟩
theorem DtR.put {kvs : List (List Key × V)} {es : List (D × D)} (h : DtR K mg γ Z H kvs es) {k : List Key} {v : V} {d : D} (hk : k.length ≤ LIM) (r : Rp K mg γ Z H v d) : DtR K mg γ Z H (putK kvs k v) (putD es (.tup (k.map keyd)) d) := by
  obtain ⟨g1, g2⟩ := putK_rel (kf := fun k => D.tup (k.map keyd)) keyt_eq k r h.ks h.vs
  refine ⟨g1, fun p hp => ?_, g2⟩
  unfold putK at hp
  split at hp
  · obtain ⟨p', hp', rfl⟩ := List.mem_map.mp hp
    split <;> exact h.le p' hp'
  · rcases List.mem_append.mp hp with hp | hp
    · exact h.le p hp
    · simp at hp; subst hp; exact hk
theorem DtR.len {kvs : List (List Key × V)} {es : List (D × D)} (h : DtR K mg γ Z H kvs es) : kvs.length = es.length := by
  have := congrArg List.length h.ks
  simpa using this.symm
theorem ent_dcT {tg : Tg} {g : TG} {mk mv : Env → M D} {J : L2.It} {ds : List D} {vs : List Nat} {Q : VK} (hT : TgR K mg bs tg g) (hv : vs = tgV tg) (f1 : Fr K mg bs σ env γ1 Z1 H1 S) (rI : ItD K mg γ1 Z1 H1 J ds) (hz : ds.length ≤ LIM) (Fin : Res (List (D × D) × Sto) → Prop)
    (hs : ¬ Fin .stuck) (p1 : Fin (dcT true tg (wipE env vs) mk mv ds [] S)) (L : Addr) (hL : H1 L = none)
    (fin : ∀ es S2 H2 γ2 Z2 kvs, Fin (.ok (es, S2)) → Le γ1 Z1 H1 γ2 Z2 H2 → Ok K mg γ2 Z2 H2 S2 → H2 L = some (.dT kvs) → ¬ Z2 L → L ∉ γ2 → es.length ≤ LIM → DtR K mg γ2 Z2 H2 kvs es → Q (.ref L) H2) :
    ∃ W : Nat → Nat → Hp → Prop, (∃ m, W 0 m (upd H1 L (.dT []))) ∧ ∀ i m H, W i m H → (J.stop i H ∧ Q (.ref L) H) ∨ (J.go i H ∧ ∃ Nx : Hp → Prop, (∀ H', Nx H' → ∃ m', m' < m ∧ W (i + 1) m' H') ∧
      ∀ x H', J.yld i H x H' → g x (L2.wipe σ vs) H' fun σ2 H2 => L2.wipe σ2 vs = L2.wipe σ vs ∧ tE K mg bs noXq mk σ2 H2 fun y H3 => tE K mg bs noXq mv σ2 H3 fun z H4 =>
        ∃ kvs c k, y = .ref c ∧ H4 c = some (.tup (k.map kV)) ∧ H4 L = some (.dT kvs) ∧ kvs.length < sizeLine ∧ Nx (upd H4 L (.dT (putK kvs k z)))) := by
  obtain ⟨nz1, ng1⟩ := f1.ok.fresh hL
  refine ⟨fun i m H2 => m = ds.length - i ∧ i ≤ ds.length ∧ ∃ γ2 Z2 S2 kvs es, Le γ1 Z1 H1 γ2 Z2 H2 ∧ Ok K mg γ2 Z2 H2 S2 ∧ H2 L = some (.dT kvs) ∧ ¬ Z2 L ∧ L ∉ γ2 ∧ DtR K mg γ2 Z2 H2 kvs es ∧ es.length ≤ i ∧
    Fin (dcT true tg (wipE env vs) mk mv (ds.drop i) es S2), ?_, ?_⟩
  · exact ⟨ds.length, by simp, Nat.zero_le _, γ1, Z1, S, [], [], Le.new hL, f1.ok.new hL, upd_same, nz1, ng1, ⟨rfl, fun _ h => by simp at h, .nil⟩, Nat.zero_le _, by rw [List.drop_zero]; exact p1⟩
  · rintro i m H2 ⟨rfl, hi, γ2, Z2, S2, kvs, es, l2, w2, hD, nz2, ng2, rd, hy, p⟩
    obtain ⟨hgo, hstop⟩ := rI i γ2 Z2 H2 (l2.lz f1.ok)
    by_cases hlt : i < ds.length
    · refine .inr ?_
      obtain ⟨g1, g2⟩ := hgo _ (List.getElem?_eq_getElem hlt)
      refine ⟨g1, fun H' => ∃ γ2 Z2 S2 kvs es, Le γ1 Z1 H1 γ2 Z2 H' ∧ Ok K mg γ2 Z2 H' S2 ∧ H' L = some (.dT kvs) ∧ ¬ Z2 L ∧ L ∉ γ2 ∧ DtR K mg γ2 Z2 H' kvs es ∧ es.length ≤ i + 1 ∧
        Fin (dcT true tg (wipE env vs) mk mv (ds.drop (i + 1)) es S2), fun H' q => ⟨ds.length - (i + 1), by omega, rfl, hlt, q⟩, fun x H3 y => ?_⟩
      rw [List.drop_eq_getElem_cons hlt] at p
      simp only [dcT] at p
      cases e1 : bindT tg ds[i] (wipE env vs) with
      | none => rw [e1] at p; exact (hs p).elim
      | some env1 =>
      rw [e1] at p
      simp only [M.opt_some_bind] at p
      cases e2 : mk env1 S2 with
      | exn _ _ _ => rw [noX_bind_bad (fun q => by rw [e2]; exact fun z => nomatch z)] at p; exact (hs p).elim
      | stuck => rw [noX_bind_bad (fun q => by rw [e2]; exact fun z => nomatch z)] at p; exact (hs p).elim
      | ok q1 =>
      rw [noX_bind_ok e2] at p
      cases e3 : mv env1 q1.2 with
      | exn _ _ _ => rw [noX_bind_bad (fun q => by rw [e3]; exact fun z => nomatch z)] at p; exact (hs p).elim
      | stuck => rw [noX_bind_bad (fun q => by rw [e3]; exact fun z => nomatch z)] at p; exact (hs p).elim
      | ok q2 =>
      rw [noX_bind_ok e3] at p
      by_cases hk : keyOk true q1.1 = true
      · rw [if_pos hk] at p
        have item : ∃ γ3 Z3, Le γ2 Z2 H2 γ3 Z3 H3 ∧ Ok K mg γ3 Z3 H3 S2 ∧ Rp K mg γ3 Z3 H3 x ds[i] := by
          rcases g2 x H3 y with ⟨rfl, r⟩ | ⟨T, ws, es', hT', rfl, rfl, hd, hz', r⟩
          · exact ⟨γ2, Z2, .refl, w2, r⟩
          · refine ⟨γ2, Z2, Le.new hT', w2.new hT', ?_⟩
            rw [hd]
            exact .tup upd_same hz' (r.mono w2 (Le.new hT'))
        obtain ⟨γ3, Z3, l3, w3, r3⟩ := item
        obtain ⟨hD3, nz3, ng3⟩ := l3.off hD nz2 ng2
        have l13 := l2.trans l3
        have f3 := (f1.step l13 w3).wipe vs
        refine hT f3 r3 e1 fun σ' f' so => ⟨?_, ?_⟩
        · unfold SameOff at so
          rw [← hv] at so
          rw [so, wipe_wipe σ vs vs fun _ h => h]
        refine ⟨env1, S2, γ3, Z3, f', ?_⟩
        rw [e2]
        intro yv H4 γ4 Z4 l4 f4 ry
        obtain ⟨hD4, nz4, ng4⟩ := l4.off hD3 nz3 ng3
        refine ⟨env1, q1.2, γ4, Z4, f4, ?_⟩
        rw [e3]
        intro zv H5 γ5 Z5 l5 f5 rz
        obtain ⟨hD5, nz5, ng5⟩ := l5.off hD4 nz4 ng4
        have l15 := (l13.trans l4).trans l5
        have rk := ry.mono f4.ok l5
        have rd5 := ((rd.lz (l3.lz w2)).lz (l4.lz w3)).lz (l5.lz f4.ok)
        have hkl : ∀ ds, q1.1 = .tup ds → ds.length ≤ LIM := fun ds e => by
          rw [e] at rk; exact rk.tlen'
        obtain ⟨c, k, rfl, hc, ek⟩ := rk.keyT hk
        have hkl := hkl _ ek
        rw [List.length_map] at hkl
        have lzu := Lz.updAt (γ := γ5) hD5 nz5 (.dT (putK kvs k zv))
        rw [ek] at p
        refine ⟨kvs, c, k, rfl, hc, hD5, by rw [rd5.len, ← lim_eq]; omega, γ5, Z5, q2.2, _, _, l15.updNew hL _, f5.ok.updAt hD5 nz5 ng5 _, upd_same, nz5, ng5, (rd5.lz lzu).put hkl (rz.lz lzu), Nat.le_trans (putD_len _ _ _) (by omega), p⟩
      · rw [if_neg hk] at p
        exact (hs p).elim
    · have ei : i = ds.length := by omega
      refine .inl ⟨hstop (by omega), ?_⟩
      rw [ei, List.drop_length] at p
      exact fin es S2 H2 γ2 Z2 kvs p l2 w2 hD nz2 ng2 (by omega) rd
end
section
variable {X : Cx} {bs : Bs} {Xq : XQ} {tgE iter kx vx : Expr} {scope : Scope} {own : List (Str × Nat)} {pos : Pos} {mi : Env → M (List D)} {mk mv : Env → M D}
theorem k_dcT (tg : Tg) {g : TG} (hc : X.calm = true) (hu : X.A.units + 1 < cLine) (hN : X.N.Nodup) (hi : PI X tgE iter (tIx X bs Xq mi)) (ok : BlkOk X.N X.env.scope scope own) (hown : own.map (·.2) = tgV tg) (hT : TgR X.K X.mg bs tg g)
    (hg : ∀ (s : Shared) (H : Hp) (C : Addr) (cl : List (Str × Addr)) (fp : List Addr), PG (X.blk s H scope (compEnvC scope cl C X.env) fp) tgE g)
    (hk : ∀ (s : Shared) (H : Hp) (C : Addr) (cl : List (Str × Addr)) (fp : List Addr), PE (X.blk s H scope (compEnvC scope cl C X.env) fp) kx (tE X.K X.mg bs noXq mk))
    (he : ∀ (s : Shared) (H : Hp) (C : Addr) (cl : List (Str × Addr)) (fp : List Addr), PE (X.blk s H scope (compEnvC scope cl C X.env) fp) vx (tE X.K X.mg bs noXq mv)) (hs : ∀ x, foldedSetIterable iter X.env x = pure x) :
    PE X (.DictComp kx vx [⟨tgE, iter, [], 0⟩] scope pos) (tKx X bs Xq .dct fun env => (mi env).bind fun ds => (dcT true tg (wipE env (tgV tg)) mk mv ds []).bind fun kvs => M.ret (.dct true kvs)) := by
  refine pe_weak (pe_dcT hc hu hN hi ok hg hk he hs) fun σ H Q ⟨env, S, γ, Z, f, p⟩ => ⟨env, S, γ, Z, f, p.bindAt fun J ds H1 γ1 Z1 S1 l1 f1 r1 p1 => ?_⟩
  rw [hown]
  intro L hL
  have hL0 := l1.fresh hL
  refine ent_dcT hT rfl f1 r1.1 r1.2 (fun r => PstK X.K X.mg bs Xq .dct σ env Q γ Z H (r.bind fun p => .ok (D.dct true p.1, p.2))) (fun h => h) p1 L hL fun es S2 H2 γ2 Z2 kvs p2 l w hD nz ng hy rd => ?_
  have lf := l1.trans l
  exact p2 (.ref L) [L] _ γ2 Z2 lf (f.step lf w) (.dctT hL0 nz ng hD hy rd.ks rd.le rd.vs)
end
end Q

set_option Elab.async false
set_option linter.all false
set_option autoImplicit false
set_option maxRecDepth 100000
set_option maxHeartbeats 1000000
/-! QCp: from the text's tree to the small language, each step with its proof. Expressions. -/
namespace Q
open PySem PySem.Spec PyProof.Rows L2
/-- what does not change within a run of the law -/
structure Wd where
  P : Program
  w : World
  K : PySem.W.Frag
  mg : Str → Option Value
  base : Heap
  n : Nat
  cl : Cl
inductive Gv where
  | free | int (i : Int) | str (x : Str) | tups (xs : List Str) | fn
/-- the block: its names, scope, whether it is a def's, how names are kept, what global names stand for -/
structure Ct where
  N : List Str
  sc : Scope
  top : Bool
  ow : List (Str × (Ow × Bool))
  G : List (Str × Gv)
def spC (W : Wd) (x : Str) : Sp := fun vs H Q _ => ∃ γ Z S ds, Ok W.K W.mg γ Z H S ∧ RpL W.K W.mg γ Z H vs ds ∧ (match W.cl x ds S with
  | .ok p => ∀ v H' γ' Z', Le γ Z H γ' Z' H' → Ok W.K W.mg γ' Z' H' p.2 → Rp W.K W.mg γ' Z' H' v p.1 → Q v H'
  | _ => False)
def FnQ (W : Wd) (x : Str) : Prop := ∃ f fd ps, FnOk W.P W.w W.K W.mg W.base CX0 W.n f fd ps (spC W x) ∧ W.mg x = some (.ref f) ∧ PySem.W.keepIn W.K (.ref f) = true ∧ Binds W.K fd ps []
def GOk (W : Wd) (x : Str) : Gv → Prop
  | .free => W.mg x = none
  | .int i => ∃ t, W.mg x = some (.int i t)
  | .str z => ∃ t, W.mg x = some (.str z t)
  | .tups xs => xs ≠ [] ∧ ∃ a, W.mg x = some (.ref a) ∧ KT W.K a xs
  | .fn => FnQ W x
structure Good (W : Wd) (ct : Ct) (X : Cx) : Prop where
  P : X.prog = W.P
  w : X.w = W.w
  K : X.K = W.K
  mg : X.mg = W.mg
  base : X.base = W.base
  N : X.N = ct.N
  nd : X.N.Nodup
  sc : X.env.scope = ct.sc
  calm : X.calm = true
  xe : X.xe = fun _ _ => False
  room : Room W.n X.A
  fn : ct.top = true → ∀ x, X.fn x = true
  glob : ∀ x g, ct.G.lookup x = some g → GOk W x g
  cls : ∀ f ds S p, W.cl f ds S = .ok p → FnQ W f
section
variable {W : Wd} {ct : Ct} {X : Cx} {bs : Bs}
theorem Good.un (g : Good W ct X) : X.A.units + 65 < cLine := by have := g.room.un; omega
theorem Good.passes (g : Good W ct X) : PassesOwn (model X.prog X.w) X.A X.env X.xe := by
  rw [g.xe]
  exact fun _ _ h => h.elim
/-! ### what holds of each -/
structure SE (W : Wd) (ct : Ct) (e : Expr) (c : E) : Prop where
  pe : ∀ {X : Cx} {bs : Bs}, Good W ct X → PE X e (tEx X bs noXq (ev W.cl c))
  pt : ∀ {X : Cx} {bs : Bs}, Good W ct X → PT X e (tBx X bs noXq (mB (ev W.cl c)))
structure SA (W : Wd) (ct : Ct) (es : List Expr) (c : Es) : Prop where
  pa : ∀ {X : Cx} {bs : Bs}, Good W ct X → PA X es (tAx X bs noXq (evs W.cl c))
abbrev CE_ (W : Wd) (ct : Ct) (e : Expr) := { c : E // SE W ct e c }
abbrev CA_ (W : Wd) (ct : Ct) (es : List Expr) := { c : Es // SA W ct es c }
theorem pe_no {e : Expr} {m : Env → M D} (h : ∀ env S, m env S = .stuck) : PE X e (tEx X bs noXq m) := ⟨fun _ _ _ _ _ _ ⟨env, S, _, _, _, p⟩ => by rw [h] at p; exact p.elim⟩
theorem pt_no {e : Expr} {m : Env → M Bool} (h : ∀ env S, m env S = .stuck) : PT X e (tBx X bs noXq m) := ⟨fun _ _ _ _ _ _ ⟨env, S, _, _, _, p⟩ => by rw [h] at p; exact p.elim⟩
def no (e : Expr) : CE_ W ct e := ⟨.bad, ⟨fun _ => pe_no fun _ _ => rfl, fun _ => pt_no fun _ _ => rfl⟩⟩
def noA (es : List Expr) : CA_ W ct es := ⟨.cons .bad .nil, ⟨fun _ => ⟨fun _ _ _ _ _ _ _ ⟨env, S, _, _, _, p⟩ => p.elim⟩⟩⟩
/-- from a value to a test -/
theorem SE.of {e : Expr} {c : E} (h : ∀ {X : Cx} {bs : Bs}, Good W ct X → PE X e (tEx X bs noXq (ev W.cl c))) (he : ∀ (env : PySem.Env) (whole : Sem Value), isTrue e env whole = (do let v ← whole; standAt e.pos; holding [v] (truthy v))) : SE W ct e c :=
  ⟨h, fun g => qt_val (h g) fun whole => he _ whole⟩
/-! ### names -/
def ixOf : List Str → Str → Option Nat
  | [], _ => none
  | y :: ys, x => if y = x then some 0 else (ixOf ys x).map (· + 1)
theorem ixOf_ok : ∀ {N : List Str} {x : Str} {i : Nat}, ixOf N x = some i → N[i]? = some x
  | [], _, _, h => by cases h
  | y :: ys, x, i, h => by
    unfold ixOf at h
    split at h
    · cases h; rename_i e; rw [e]; rfl
    · cases e : ixOf ys x with
      | none => rw [e] at h; cases h
      | some j => rw [e] at h; cases h; simpa using ixOf_ok e
def visB (sc : Scope) (x : Str) : Bool := sc.names.lookup x == some .local || (sc.names.lookup x == some .cell || sc.names.lookup x == some .free)
theorem nk_eq {a b : Option NameKind} (h : (a == b) = true) : a = b := by
  cases a <;> cases b <;> first | rfl | (simp at h; done) | skip
  rename_i x y
  cases x <;> cases y <;> first | rfl | (revert h; decide)
theorem visB_ok {sc : Scope} {x : Str} (h : visB sc x = true) : Vis sc x := by
  unfold visB at h
  rcases Bool.or_eq_true_iff.mp h with h | h
  · exact .inl (nk_eq h)
  · rcases Bool.or_eq_true_iff.mp h with h | h
    · exact .inr (.inl (nk_eq h))
    · exact .inr (.inr (nk_eq h))
def glB (sc : Scope) (x : Str) : Bool := sc.names.lookup x == some .globalImplicit
theorem Good.gl (g : Good W ct X) {x : Str} (h : glB ct.sc x = true) : Gl X x := by
  show X.env.scope.names.lookup x = _
  rw [g.sc]
  exact nk_eq h
def okN (x : Str) : Bool := !(x == ("__debug__" : Str)) && (!(x == ("__classdict__" : Str)) && decide (x ≠ "__name__"))
theorem okN_ok {x : Str} (h : okN x = true) : (x == ("__debug__" : Str)) = false ∧ (x == ("__classdict__" : Str)) = false ∧ x ≠ "__name__" := by
  unfold okN at h
  simp only [Bool.and_eq_true, Bool.not_eq_true', decide_eq_true_eq] at h
  exact ⟨h.1, h.2.1, h.2.2⟩
/-- a local name's place -/
def lcl (ct : Ct) (x : Str) : Option Nat := if visB ct.sc x && okN x then ixOf ct.N x else none
theorem lcl_ok {x : Str} {i : Nat} {pos : Pos} (g : Good W ct X) (h : lcl ct x = some i) : PE X (.Name x pos) (tVar i) := by
  unfold lcl at h
  split at h
  · rename_i hh
    obtain ⟨h1, h2⟩ := Bool.and_eq_true_iff.mp hh
    obtain ⟨d1, d2, _⟩ := okN_ok h2
    exact pe_var (by rw [g.N]; exact ixOf_ok h) (by rw [g.sc]; exact visB_ok h1) d1 d2
  · cases h
/-- a global name's meaning -/
def glo (ct : Ct) (x : Str) : Option Gv := if glB ct.sc x && okN x then ct.G.lookup x else none
theorem glo_ok {x : Str} {v : Gv} (g : Good W ct X) (h : glo ct x = some v) : Gl X x ∧ GOk W x v ∧ (x == ("__debug__" : Str)) = false ∧ x ≠ "__name__" := by
  unfold glo at h
  split at h
  · rename_i hh
    obtain ⟨h1, h2⟩ := Bool.and_eq_true_iff.mp hh
    obtain ⟨d1, _, d3⟩ := okN_ok h2
    exact ⟨g.gl h1, g.glob x v h, d1, d3⟩
  · cases h
/-- a built-in's name -/
def bltB (ct : Ct) (x : Str) : Bool := match glo ct x with
  | some .free => true
  | _ => false
theorem bltB_ok {x : Str} (g : Good W ct X) (h : bltB ct x = true) : Gl X x ∧ X.mg x = none ∧ (x == ("__debug__" : Str)) = false ∧ x ≠ "__name__" := by
  unfold bltB at h
  split at h
  · rename_i e
    obtain ⟨h1, h2, h3, h4⟩ := glo_ok g e
    exact ⟨h1, by rw [g.mg]; exact h2, h3, h4⟩
  · cases h
theorem lit_se {e : Expr} {v : V} {d : D} (h : ∀ {X : Cx}, Good W ct X → PE X e (tC v)) (r : ∀ (γ : List Addr) (Z : Addr → Prop) (H : Hp), Rp W.K W.mg γ Z H v d) (he : ∀ (env : PySem.Env) (whole : Sem Value), isTrue e env whole = (do let v ← whole; standAt e.pos; holding [v] (truthy v))) : SE W ct e (.lit d) :=
  SE.of (fun g => q_lit (h g) fun γ Z H => by rw [g.K, g.mg]; exact r γ Z H) he
def cName (x : Str) (pos : Pos) : CE_ W ct (.Name x pos) :=
  match h : lcl ct x with
  | some i => ⟨.loc i, SE.of (fun g => q_loc (lcl_ok g h)) fun _ _ => rfl⟩
  | none => match h : glo ct x with
    | some (.int i) => ⟨.lit (.int i), SE.of (fun {X bs} g => by
        obtain ⟨h1, ⟨t, h2⟩, h3, _⟩ := glo_ok g h
        exact q_lit (pe_glob (v := .int i) h1 (by rw [g.mg]; exact h2) ⟨t, rfl⟩ h3) fun _ _ _ => .int i) fun _ _ => rfl⟩
    | some (.str z) => ⟨.lit (.str z), SE.of (fun {X bs} g => by
        obtain ⟨h1, ⟨t, h2⟩, h3, _⟩ := glo_ok g h
        exact q_lit (pe_glob (v := .str z) h1 (by rw [g.mg]; exact h2) ⟨t, rfl⟩ h3) fun _ _ _ => .str z) fun _ _ => rfl⟩
    | some (.tups xs) => ⟨.lit (.tup (xs.map .str)), SE.of (fun {X bs} g => by
        obtain ⟨h1, ⟨h5, a, h2, h6⟩, h3, _⟩ := glo_ok g h
        exact q_lit (pe_glob (v := .ref a) h1 (by rw [g.mg]; exact h2) rfl h3) fun _ _ _ => .ktup h5 (by rw [g.K]; exact h6)) fun _ _ => rfl⟩
    | some .fn => ⟨.lit (.fn x), SE.of (fun {X bs} g => by
        obtain ⟨h1, ⟨f, fd, ps, _, h2, _⟩, h3, _⟩ := glo_ok g h
        exact q_lit (pe_glob (v := .ref f) h1 (by rw [g.mg]; exact h2) rfl h3) fun _ _ _ => .fn (by rw [g.mg]; exact h2)) fun _ _ => rfl⟩
    | _ => no _
def cConst (c : Const) (k : Nat) (pos : Pos) : CE_ W ct (.Constant c k pos) := match c with
  | .int i => ⟨.lit (.int i), lit_se (fun _ => pe_int) (fun _ _ _ => .int i) fun _ _ => rfl⟩
  | .bool b => ⟨.lit (.bl b), lit_se (fun _ => pe_bl) (fun _ _ _ => .bl b) fun _ _ => rfl⟩
  | .str x => ⟨.lit (.str x), lit_se (fun _ => pe_str) (fun _ _ _ => .str x) fun _ _ => rfl⟩
  | .none => ⟨.lit .non, lit_se (fun _ => pe_non) (fun _ _ _ => .non) fun _ _ => rfl⟩
  | _ => no _
/-! ### operators -/
def opC : Operator → Option Op2
  | .Add => some .add
  | .Sub => some .sub
  | .Mult => some .mul
  | .FloorDiv => some .fdiv
  | .Mod => some .mod
  | .Pow => some .pow
  | _ => none
def cpC : CmpOp → Option Cp
  | .Eq => some .eq
  | .NotEq => some .ne
  | .Lt => some .lt
  | .LtE => some .le
  | .Gt => some .gt
  | .GtE => some .ge
  | .In => some .isin
  | .NotIn => some .notin
  | .Is => some .isN
  | .IsNot => some .nsN
theorem cpC_ok {o : CmpOp} {c : Cp} (h : cpC o = some c) : cpOf c = o := by cases o <;> cases h <;> rfl
def isSet : Expr → Bool
  | .Set .. => true
  | _ => false
theorem noMark {o : CmpOp} {e : Expr} (h : isSet e = false) : behindInMarks o e = false := by cases e <;> first | rfl | (cases h)
def isStar : Expr → Bool
  | .Starred .. => true
  | _ => false
theorem star_cons {e : Expr} (es : List Expr) (env : PySem.Env) (h : isStar e = false) : starEach (e :: es) env = (false, eval e env) :: starEach es env := by cases e <;> first | rfl | (cases h)
def isSlice : Expr → Bool
  | .Slice .. => true
  | _ => false
theorem plainIx {e : Expr} (h : isSlice e = false) : PlainIx e := by
  intro o i
  cases e <;> first | rfl | (cases h)
theorem noFold {e : Expr} (h : isSet e = false) (env : PySem.Env) (x : Value) : foldedSetIterable e env x = pure x := by cases e <;> first | rfl | (cases h)
def cArgs (r : ∀ e, CE_ W ct e) : (es : List Expr) → CA_ W ct es
  | [] => ⟨.nil, ⟨fun _ => qa_nil⟩⟩
  | .Starred e p :: es => ⟨.star (r e).1 (cArgs r es).1, ⟨fun g => qa_star ((r e).2.pe g) ((cArgs r es).2.pa g)⟩⟩
  | e :: es => if h : isStar e = false then ⟨.cons (r e).1 (cArgs r es).1, ⟨fun g => qa_cons ((r e).2.pe g) ((cArgs r es).2.pa g) (star_cons es _ h)⟩⟩ else noA _
end
end Q

set_option Elab.async false
set_option linter.all false
set_option autoImplicit false
set_option maxRecDepth 100000
set_option maxHeartbeats 1000000
/-! QCp2: operators, displays, subscripts, calls. -/
namespace Q
open PySem PySem.Spec PyProof.Rows L2
section
variable {W : Wd} {ct : Ct} {X : Cx} {bs : Bs}
theorem opC_ok {o : Operator} {c : Op2} (h : opC o = some c) : opOf c = o := by cases o <;> cases h <;> rfl
def cBin (r : ∀ e, CE_ W ct e) (a : Expr) (op : Operator) (b : Expr) (pos : Pos) : CE_ W ct (.BinOp a op b pos) :=
  match h : opC op with
  | some o => ⟨.bin o (r a).1 (r b).1, SE.of (fun {X bs} g => by
      have q := q_op2 (X := X) (bs := bs) (Xq := noXq) (pos := pos) o ((r a).2.pe g) ((r b).2.pe g)
      rw [opC_ok h] at q
      exact q) fun _ _ => rfl⟩
  | none => no _
def cUn (r : ∀ e, CE_ W ct e) (op : UnaryOp) (a : Expr) (pos : Pos) : CE_ W ct (.UnaryOp op a pos) := match op with
  | .USub => ⟨.neg (r a).1, SE.of (fun g => q_neg ((r a).2.pe g)) fun _ _ => rfl⟩
  | .Not => ⟨.not (r a).1, ⟨fun g => q_not ((r a).2.pe g), fun g => qt_not ((r a).2.pt g)⟩⟩
  | _ => no _
/-- a name that holds a container of the frame -/
def brw (ct : Ct) : Expr → Option Nat
  | .Name x _ => if (ct.ow.lookup x).isSome then lcl ct x else none
  | _ => none
theorem brw_ok {e : Expr} {i : Nat} (g : Good W ct X) (h : brw ct e = some i) : PE X e (tVar i) := by
  cases e <;> first | (simp [brw] at h; done) | skip
  simp only [brw] at h
  split at h
  · exact lcl_ok g h
  · cases h
def cCmp (r : ∀ e, CE_ W ct e) (a : Expr) (ops : List CmpOp) (es : List Expr) (pos : Pos) : CE_ W ct (.Compare a ops es pos) := match ops, es with
  | [o], [b] => match h : cpC o with
    | some c => if h1 : isSet b = false then
        if hc : c = .isin ∨ c = .notin then
          match hb : brw ct b with
          | some i => ⟨.cmp c (r a).1 (.bor i), ⟨fun {X bs} g => by
              have q := q_inB (X := X) (bs := bs) (Xq := noXq) (pos := pos) c hc g.un ((r a).2.pe g) (brw_ok g hb) (noMark h1)
              rw [cpC_ok h] at q
              exact q, fun {X bs} g => by
              have q := qt_inB (X := X) (bs := bs) (Xq := noXq) (pos := pos) c hc g.un ((r a).2.pe g) (brw_ok g hb) (noMark h1)
              rw [cpC_ok h] at q
              exact q⟩⟩
          | none => ⟨.cmp c (r a).1 (r b).1, ⟨fun {X bs} g => by
              have q := q_cmp (X := X) (bs := bs) (Xq := noXq) (pos := pos) c g.un ((r a).2.pe g) ((r b).2.pe g) (noMark h1)
              rw [cpC_ok h] at q
              exact q, fun {X bs} g => by
              have q := qt_cmp (X := X) (bs := bs) (Xq := noXq) (pos := pos) c g.un ((r a).2.pe g) ((r b).2.pe g) (noMark h1)
              rw [cpC_ok h] at q
              exact q⟩⟩
        else ⟨.cmp c (r a).1 (r b).1, ⟨fun {X bs} g => by
              have q := q_cmp (X := X) (bs := bs) (Xq := noXq) (pos := pos) c g.un ((r a).2.pe g) ((r b).2.pe g) (noMark h1)
              rw [cpC_ok h] at q
              exact q, fun {X bs} g => by
              have q := qt_cmp (X := X) (bs := bs) (Xq := noXq) (pos := pos) c g.un ((r a).2.pe g) ((r b).2.pe g) (noMark h1)
              rw [cpC_ok h] at q
              exact q⟩⟩
      else no _
    | none => no _
  | [o1, o2], [b, c] => match h1 : cpC o1, h2 : cpC o2 with
    | some k1, some k2 => if hs : isSet c = false then ⟨.chn k1 k2 (r a).1 (r b).1 (r c).1, ⟨fun {X bs} g => by
          have q := q_chn (X := X) (bs := bs) (Xq := noXq) (pos := pos) k1 k2 g.un ((r a).2.pe g) ((r b).2.pe g) ((r c).2.pe g) (noMark hs)
          rw [cpC_ok h1, cpC_ok h2] at q
          exact q, fun {X bs} g => by
          have q := qt_chn (X := X) (bs := bs) (Xq := noXq) (pos := pos) k1 k2 g.un ((r a).2.pe g) ((r b).2.pe g) ((r c).2.pe g) (noMark hs)
          rw [cpC_ok h1, cpC_ok h2] at q
          exact q⟩⟩ else no _
    | _, _ => no _
  | _, _ => no _
/-! ### and, or -/
structure SW (W : Wd) (ct : Ct) (e : Expr) (c : E) : Prop where
  pe : ∀ {X : Cx} {bs : Bs}, Good W ct X → PE X e (tEx X bs noXq (ev W.cl c))
  pw : ∀ {X : Cx} {bs : Bs}, Good W ct X → PWx X bs noXq e (ev W.cl c)
def cBoolL (r : ∀ e, CE_ W ct e) (op : BoolOp) (pos : Pos) : (vs : List Expr) → { c : E // SW W ct (.BoolOp op vs pos) c }
  | [] => ⟨.bad, ⟨fun _ => pe_no fun _ _ => rfl, fun _ => ⟨fun _ _ _ _ _ _ _ ⟨env, S, _, _, _, p⟩ => p.elim⟩⟩⟩
  | [a] => ⟨(r a).1, ⟨fun g => ⟨fun pins s σ H Q I h => ((r a).2.pe g).run pins s σ H Q I h⟩, fun g => by
      cases op with
      | And => exact qw_and1 ((r a).2.pt g)
      | Or => exact qw_or1 ((r a).2.pt g)⟩⟩
  | a :: b :: rest => match op with
    | .And => ⟨.and (r a).1 (cBoolL r .And pos (b :: rest)).1, ⟨fun g => q_and ((r a).2.pe g) ((cBoolL r .And pos (b :: rest)).2.pe g), fun g => qw_and ((r a).2.pt g) ((cBoolL r .And pos (b :: rest)).2.pw g)⟩⟩
    | .Or => ⟨.or (r a).1 (cBoolL r .Or pos (b :: rest)).1, ⟨fun g => q_or ((r a).2.pe g) ((cBoolL r .Or pos (b :: rest)).2.pe g), fun g => qw_or ((r a).2.pt g) ((cBoolL r .Or pos (b :: rest)).2.pw g)⟩⟩
def cBool (r : ∀ e, CE_ W ct e) (op : BoolOp) (vs : List Expr) (pos : Pos) : CE_ W ct (.BoolOp op vs pos) :=
  ⟨(cBoolL r op pos vs).1, ⟨fun g => (cBoolL r op pos vs).2.pe g, fun g => PW.pt ((cBoolL r op pos vs).2.pw g)⟩⟩
/-! ### subscripts -/
structure SO (W : Wd) (ct : Ct) (o : Option Expr) (c : Oe) : Prop where
  po : ∀ {X : Cx} {bs : Bs}, Good W ct X → PO X o (tOx X bs noXq (evo W.cl c))
def cOpt (r : ∀ e, CE_ W ct e) : (o : Option Expr) → { c : Oe // SO W ct o c }
  | none => ⟨.no, ⟨fun _ => qo_none⟩⟩
  | some e => ⟨.yes (r e).1, ⟨fun g => qo_some ((r e).2.pe g)⟩⟩
def cSub (r : ∀ e, CE_ W ct e) (a b : Expr) (pos : Pos) : CE_ W ct (.Subscript a b pos) := match b with
  | .Slice lo hi none p2 => ⟨.slc (r a).1 (cOpt r lo).1 (cOpt r hi).1, SE.of (fun g => q_slc ((r a).2.pe g) ((cOpt r lo).2.po g) ((cOpt r hi).2.po g)) fun _ _ => rfl⟩
  | b => if h : isSlice b = false then
      match hb : brw ct a with
      | some i => ⟨.ix (.bor i) (r b).1, SE.of (fun g => q_ixB g.un (brw_ok g hb) ((r b).2.pe g) (plainIx h)) fun _ _ => rfl⟩
      | none => ⟨.ix (r a).1 (r b).1, SE.of (fun g => q_ix g.un ((r a).2.pe g) ((r b).2.pe g) (plainIx h)) fun _ _ => rfl⟩
    else no _
/-! ### calls -/
def plainL : List Expr → Bool
  | [] => true
  | e :: es => !isStar e && plainL es
theorem plain_any {pos : Pos} {env : PySem.Env} : ∀ {es : List Expr}, plainL es = true → (backTo pos (starEach es env)).any (·.1) = false
  | [], _ => rfl
  | e :: es, h => by
    simp only [plainL, Bool.and_eq_true, Bool.not_eq_true'] at h
    rw [star_cons es env h.1]
    show (false || (backTo pos (starEach es env)).any (·.1)) = false
    rw [plain_any h.2]; rfl
theorem plain_head {env : PySem.Env} {e : Expr} {es : List Expr} (h : plainL (e :: es) = true) : starEach (e :: es) env = (false, eval e env) :: starEach es env ∧ plainL es = true := by
  simp only [plainL, Bool.and_eq_true, Bool.not_eq_true'] at h
  exact ⟨star_cons es env h.1, h.2⟩
theorem call_ent {f : Str} {γ : List Addr} {Z : Addr → Prop} {H : Hp} {S : Sto} {σ : L2.St} {env : Env} {vs : List V} {ds : List D} {Q : VK} (g : Good W ct X) (F : Fr X.K X.mg bs σ env γ Z H S) (r : RpL X.K X.mg γ Z H vs ds) (p : Pst X.K X.mg bs noXq (rD X.K X.mg) σ env Q γ Z H (W.cl f ds S)) : spC W f (vs ++ []) H Q E0 := by
  rw [List.append_nil]
  refine ⟨γ, Z, S, ds, by rw [← g.K, ← g.mg]; exact F.ok, by rw [← g.K, ← g.mg]; exact r, ?_⟩
  cases e : W.cl f ds S with
  | ok q =>
    rw [e] at p
    intro v H' γ' Z' l w rv
    rw [← g.K, ← g.mg] at w rv
    exact p v H' γ' Z' l (F.step l w) rv
  | exn _ _ _ => rw [e] at p; exact p
  | stuck => rw [e] at p; exact p
theorem q_call {f : Str} {p pos : Pos} {e : Expr} {es : List Expr} {ms : Env → M (List D)} (g : Good W ct X) (hf : FnQ W f) (hg : Gl X f) (hdb : (f == ("__debug__" : Str)) = false) (ha : PA X (e :: es) (tAx X bs noXq ms)) (hp : plainL (e :: es) = true) :
    PE X (.Call (.Name f p) (e :: es) [] pos) (tEx X bs noXq fun env => (ms env).bind fun ds => W.cl f ds) := by
  obtain ⟨fa, fd, ps, F, hm, hk, hb⟩ := hf
  obtain ⟨h1, h2⟩ := plain_head (env := X.env) hp
  have gP := g.P; have gw := g.w; have gK := g.K; have gmg := g.mg; have gb := g.base
  rw [← gP, ← gw, ← gK, ← gmg, ← gb] at F
  rw [← gK] at hb hk
  rw [← gmg] at hm
  refine pe_weak (pe_call F g.room hg hm hk hb .nil pass0 ha hdb h1 (plain_any h2)) fun σ H Q ⟨env, S, γ, Z, f1, p⟩ => ⟨env, S, γ, Z, f1, p.bind fun vs ds H1 γ1 Z1 S1 l1 f2 r1 p1 => ?_⟩
  exact call_ent g f2 r1 p1
theorem q_call0 {f : Str} {p pos : Pos} (g : Good W ct X) (hf : FnQ W f) (hg : Gl X f) (hdb : (f == ("__debug__" : Str)) = false) :
    PE X (.Call (.Name f p) [] [] pos) (tEx X bs noXq fun env => (M.ret []).bind fun ds => W.cl f ds) := by
  obtain ⟨fa, fd, ps, F, hm, hk, hb⟩ := hf
  have gP := g.P; have gw := g.w; have gK := g.K; have gmg := g.mg; have gb := g.base
  rw [← gP, ← gw, ← gK, ← gmg, ← gb] at F
  rw [← gK] at hb hk
  rw [← gmg] at hm
  refine pe_weak (pe_call0 F g.room hg hm hk hb .nil pass0 hdb) fun σ H Q ⟨env, S, γ, Z, f1, p⟩ => ?_
  exact call_ent (vs := []) (ds := []) g f1 .nil p
theorem lcl_parts {x : Str} {i : Nat} (h : lcl ct x = some i) : visB ct.sc x = true ∧ okN x = true ∧ ixOf ct.N x = some i := by
  unfold lcl at h
  split at h
  · rename_i hh
    obtain ⟨v1, v2⟩ := Bool.and_eq_true_iff.mp hh
    exact ⟨v1, v2, h⟩
  · cases h
theorem q_calv {i : Nat} {x : Str} {p pos : Pos} {e : Expr} {es : List Expr} {ms : Env → M (List D)} (g : Good W ct X) (hx : lcl ct x = some i) (ha : PA X (e :: es) (tAx X bs noXq ms)) (hp : plainL (e :: es) = true) :
    PE X (.Call (.Name x p) (e :: es) [] pos) (tEx X bs noXq fun env => (M.opt (getF env i)).bind fun f => (ms env).bind fun ds => W.cl f ds) := by
  obtain ⟨h1, h2⟩ := plain_head (env := X.env) hp
  obtain ⟨v1, v2, hx⟩ := lcl_parts hx
  obtain ⟨d1, d2, _⟩ := okN_ok v2
  refine ⟨fun pins s σ H Q I ⟨env, S, γ, Z, f, p⟩ => ?_⟩
  obtain ⟨y, hy, p⟩ := p.optB
  unfold getF at hy
  split at hy <;> cases hy
  rename_i hs
  obtain ⟨v, hv, rv⟩ := f.val i _ hs
  cases rv with
  | fn hm =>
  rename_i a
  -- the call itself does not get stuck, so the def is one of ours
  have go : FnQ W y := by
    unfold M.bind at p
    cases e1 : ms env S with
    | ok q =>
      rw [e1] at p
      simp only [Res.bind] at p
      cases e2 : W.cl y q.1 q.2 with
      | ok q2 => exact g.cls _ _ _ _ e2
      | exn _ _ _ => rw [e2] at p; exact p.elim
      | stuck => rw [e2] at p; exact p.elim
    | exn _ _ _ => rw [e1] at p; exact p.elim
    | stuck => rw [e1] at p; exact p.elim
  obtain ⟨fa, fd, ps, F, hm2, hk, hb⟩ := go
  have gP := g.P; have gw := g.w; have gK := g.K; have gmg := g.mg; have gb := g.base
  rw [← gP, ← gw, ← gK, ← gmg, ← gb] at F
  rw [← gK] at hb hk
  rw [← gmg, hm] at hm2
  cases hm2
  refine (pe_callL (i := i) (E := E0) F g.room (by rw [g.N]; exact ixOf_ok hx) (by rw [g.sc]; exact visB_ok v1) hk hb .nil pass0 ha d1 d2 h1 (plain_any h2)).run pins s σ H Q I ⟨hv, env, S, γ, Z, f, p.bind fun vs ds H1 γ1 Z1 S1 l1 f2 r1 p1 => ?_⟩
  exact call_ent g f2 r1 p1
/-- a built-in function, a built-in type -/
theorem blt_se {id : String} {x : Str} {p pos : Pos} {e : Expr} {es : List Expr} {c : Es} {q : Pr} {rc : PySem.W.Frag → RC} (hx : bltB ct x = true) (hv : bootBuiltins x = some (.builtin id)) (hc : ∀ X, Good W ct X → CallR X (.builtin id) (rc X.K)) (hent : ∀ K mg bs, Ent K mg bs noXq (pr1 q) (rc K)) (ha : SA W ct (e :: es) c) (hp : plainL (e :: es) = true) :
    SE W ct (.Call (.Name x p) (e :: es) [] pos) (.pr q c) :=
  SE.of (fun g => by
    obtain ⟨h1, h2, h3, h4⟩ := bltB_ok g hx
    obtain ⟨s1, s2⟩ := plain_head (env := _) hp
    exact q_callB (hc _ g) (hent _ _ _) h1 h2 hv (ha.pa g) h4 h3 s1 (plain_any s2)) fun _ _ => rfl
theorem ty_se {T : String} {x : Str} {p pos : Pos} {e : Expr} {es : List Expr} {c : Es} {q : Pr} {rc : PySem.W.Frag → RC} (hx : bltB ct x = true) (hv : bootBuiltins x = some (.type T)) (hc : ∀ X, Good W ct X → CallR X (.type T) (rc X.K)) (hent : ∀ K mg bs, Ent K mg bs noXq (pr1 q) (rc K)) (ha : SA W ct (e :: es) c) (hp : plainL (e :: es) = true) :
    SE W ct (.Call (.Name x p) (e :: es) [] pos) (.pr q c) :=
  SE.of (fun g => by
    obtain ⟨h1, h2, h3, h4⟩ := bltB_ok g hx
    obtain ⟨s1, s2⟩ := plain_head (env := _) hp
    exact q_callTy (hc _ g) (hent _ _ _) h1 h2 hv (ha.pa g) h4 h3 s1 (plain_any s2)) fun _ _ => rfl
/-- the built-in type of a name -/
def tyN (ct : Ct) : Expr → Option (String × Pos)
  | .Name x p => if bltB ct x then (isiTys.find? fun t => decide (Str.ofString t = x)).map fun t => (t, p) else none
  | _ => none
theorem tyN_ok {e : Expr} {t : String × Pos} (h : tyN ct e = some t) : e = .Name (Str.ofString t.1) t.2 ∧ t.1 ∈ isiTys ∧ bltB ct (Str.ofString t.1) = true := by
  cases e <;> first | (simp [tyN] at h; done) | skip
  simp only [tyN] at h
  split at h
  · rename_i x p hx
    cases hf : isiTys.find? fun t => decide (Str.ofString t = x) with
    | none => rw [hf] at h; cases h
    | some t' =>
      rw [hf] at h
      cases h
      have h1 := List.find?_some hf
      have h2 := List.mem_of_find?_eq_some hf
      simp only [decide_eq_true_eq] at h1
      exact ⟨by rw [h1], h2, by rw [h1]; exact hx⟩
  · cases h
def tysN (ct : Ct) : List Expr → Option (List (String × Pos))
  | [] => some []
  | e :: es => (tyN ct e).bind fun t => (tysN ct es).map (t :: ·)
theorem tysN_ok : ∀ {es : List Expr} {ts : List (String × Pos)}, tysN ct es = some ts → es = ts.map (fun x => Expr.Name (Str.ofString x.1) x.2) ∧ ∀ x ∈ ts, x.1 ∈ isiTys ∧ bltB ct (Str.ofString x.1) = true
  | [], ts, h => by cases h; exact ⟨rfl, fun x hx => by simp at hx⟩
  | e :: es, ts, h => by
    simp only [tysN] at h
    cases h1 : tyN ct e with
    | none => rw [h1] at h; cases h
    | some t =>
      cases h2 : tysN ct es with
      | none => rw [h1, h2] at h; cases h
      | some us =>
        rw [h1, h2] at h
        cases h
        obtain ⟨a, b⟩ := tysN_ok h2
        obtain ⟨c, d⟩ := tyN_ok h1
        refine ⟨by rw [a, c]; rfl, fun x hx => ?_⟩
        rcases List.mem_cons.mp hx with rfl | hx
        · exact d
        · exact b x hx
def cIsi (r : ∀ e, CE_ W ct e) (p : Pos) (e T : Expr) (pos : Pos) : CE_ W ct (.Call (.Name "isinstance" p) [e, T] [] pos) :=
  if hb : bltB ct "isinstance" = true ∧ isStar e = false then
    match h : tyN ct T with
    | some t => ⟨.pr (.isi [t.1]) (.cons (r e).1 .nil), SE.of (fun g => by
        obtain ⟨h1, h2, h3, h4⟩ := bltB_ok g hb.1
        obtain ⟨rfl, t1, t2⟩ := tyN_ok h
        obtain ⟨g1, g2, g3, g4⟩ := bltB_ok g t2
        exact q_isi1 t1 h1 h2 g1 g2 ((r e).2.pe g) g4 g3 (star_cons _ _ hb.2)) fun _ _ => rfl⟩
    | none => match T with
      | .Tuple es k pT => match h : tysN ct es with
        | some ts => if hz : ts.length ≤ 100 then ⟨.pr (.isi (ts.map (·.1))) (.cons (r e).1 .nil), SE.of (fun g => by
            obtain ⟨h1, h2, h3, h4⟩ := bltB_ok g hb.1
            obtain ⟨rfl, t1⟩ := tysN_ok h
            refine q_isiT hz (fun x hx => ?_) h1 h2 ((r e).2.pe g) (star_cons _ _ hb.2)
            obtain ⟨t2, t3⟩ := t1 x hx
            obtain ⟨g1, g2, g3, g4⟩ := bltB_ok g t3
            exact ⟨t2, g1, g2, g4, g3⟩) fun _ _ => rfl⟩ else no _
        | none => no _
      | _ => no _
  else no _
end
end Q

set_option Elab.async false
set_option linter.all false
set_option autoImplicit false
set_option maxRecDepth 100000
set_option maxHeartbeats 1000000
/-! QCp3: calls by name, iterables, comprehensions, the step. -/
namespace Q
open PySem PySem.Spec PyProof.Rows L2
section
variable {W : Wd} {ct : Ct} {X : Cx} {bs : Bs}
/-! ### range as an argument -/
inductive RgC where
  | one (a : Expr) (p pos : Pos) | two (a b : Expr) (p pos : Pos)
def RgC.e : RgC → Expr
  | .one a p pos => .Call (.Name "range" p) [a] [] pos
  | .two a b p pos => .Call (.Name "range" p) [a, b] [] pos
def rgOf : (e : Expr) → Option { c : RgC // e = c.e }
  | .Call (.Name x p) [a] [] pos => if h : x = "range" then some ⟨.one a p pos, by rw [h]; rfl⟩ else none
  | .Call (.Name x p) [a, b] [] pos => if h : x = "range" then some ⟨.two a b p pos, by rw [h]; rfl⟩ else none
  | _ => none
def cB1 (r : ∀ e, CE_ W ct e) (x : Str) (hx : bltB ct x = true) (p : Pos) (e : Expr) (pos : Pos) : CE_ W ct (.Call (.Name x p) [e] [] pos) :=
  if hp : plainL [e] = true then
    if h : x = "len" then ⟨.pr .len (cArgs r [e]).1, by subst h; exact blt_se (rc := rLenQ) hx (by decide +kernel) (fun _ _ => call_lenQ) (fun _ _ _ => ent_len) (cArgs r [e]).2 hp⟩
    else if h : x = "all" then ⟨.pr .all (cArgs r [e]).1, by subst h; exact blt_se (rc := rAll) hx (by decide +kernel) (fun _ g => cr_all g.calm) (fun _ _ _ => ent_all) (cArgs r [e]).2 hp⟩
    else if h : x = "sorted" then ⟨.pr .sorted (cArgs r [e]).1, by subst h; exact blt_se (rc := rSortQ) hx (by decide +kernel) (fun _ _ => call_sortQ) (fun _ _ _ => ent_sorted) (cArgs r [e]).2 hp⟩
    else if h : x = "min" then ⟨.pr .minl (cArgs r [e]).1, by subst h; exact blt_se (rc := rMinL) hx (by decide +kernel) (fun _ g => call_minL g.calm g.un) (fun _ _ _ => ent_minL) (cArgs r [e]).2 hp⟩
    else if h : x = "int" then ⟨.pr .int (cArgs r [e]).1, by subst h; exact ty_se (rc := fun _ => _) hx (by decide +kernel) (fun _ _ => call_int1) (fun _ _ _ => ent_int) (cArgs r [e]).2 hp⟩
    else if h : x = "list" then match rgOf e with
      | some ⟨.one a p1 pos1, he⟩ => if hr : bltB ct "range" = true ∧ isStar a = false then ⟨.rng (.lit (.int 0)) (r a).1, by
          subst h; subst he
          exact SE.of (fun g => by
            obtain ⟨h1, h2, _, _⟩ := bltB_ok g hx
            obtain ⟨h3, h4, _, _⟩ := bltB_ok g hr.1
            exact q_rngL g.calm h1 h2 (prg_1 h3 h4 ((r a).2.pe g) (star_cons _ _ hr.2)) (rge1 trivial) (star_cons _ _ rfl)) fun _ _ => rfl⟩ else no _
      | some ⟨.two a b p1 pos1, he⟩ => if hr : bltB ct "range" = true ∧ isStar a = false ∧ isStar b = false then ⟨.rng (r a).1 (r b).1, by
          subst h; subst he
          exact SE.of (fun g => by
            obtain ⟨h1, h2, _, _⟩ := bltB_ok g hx
            obtain ⟨h3, h4, _, _⟩ := bltB_ok g hr.1
            exact q_rngL g.calm h1 h2 (prg_2 h3 h4 ((r a).2.pe g) ((r b).2.pe g) (star_cons _ _ hr.2.1) (star_cons _ _ hr.2.2) (plain_any (by simp [plainL, hr.2.2]))) (rge2 trivial) (star_cons _ _ rfl)) fun _ _ => rfl⟩ else no _
      | none => ⟨.pr .list (cArgs r [e]).1, by subst h; exact ty_se (rc := rListQ) hx (by decide +kernel) (fun _ g => call_listQ g.calm) (fun _ _ _ => ent_list) (cArgs r [e]).2 hp⟩
    else if h : x = "tuple" then match rgOf e with
      | some _ => no _
      | none => ⟨.pr .tuple (cArgs r [e]).1, by subst h; exact ty_se (rc := fun K => _) hx (by decide +kernel) (fun _ g => call_tuple_of) (fun _ _ _ => ent_tuple) (cArgs r [e]).2 hp⟩
    else no _
  else no _
def cB2 (r : ∀ e, CE_ W ct e) (x : Str) (hx : bltB ct x = true) (p : Pos) (a b : Expr) (pos : Pos) : CE_ W ct (.Call (.Name x p) [a, b] [] pos) :=
  if h : x = "isinstance" then ⟨(cIsi r p a b pos).1, by subst h; exact (cIsi r p a b pos).2⟩
  else if hp : plainL [a, b] = true then
    if h : x = "min" then ⟨.pr .min2 (cArgs r [a, b]).1, by subst h; exact blt_se (rc := fun _ => _) hx (by decide +kernel) (fun _ g => call_min2 g.calm) (fun _ _ _ => ent_min2) (cArgs r [a, b]).2 hp⟩
    else if h : x = "max" then ⟨.pr .max2 (cArgs r [a, b]).1, by subst h; exact blt_se (rc := fun _ => _) hx (by decide +kernel) (fun _ g => call_max2 g.calm) (fun _ _ _ => ent_max2) (cArgs r [a, b]).2 hp⟩
    else no _
  else no _
theorem free_blt {x : Str} (h : glo ct x = some .free) : bltB ct x = true := by unfold bltB; rw [h]
def cCallN (r : ∀ e, CE_ W ct e) (x : Str) (p : Pos) (args : List Expr) (pos : Pos) : CE_ W ct (.Call (.Name x p) args [] pos) :=
  match hl : lcl ct x with
  | some i => match args with
    | [] => no _
    | e :: es => if hp : plainL (e :: es) = true then ⟨.calv i (cArgs r (e :: es)).1, SE.of (fun g => q_calv g hl ((cArgs r (e :: es)).2.pa g) hp) fun _ _ => rfl⟩ else no _
  | none => match hg : glo ct x with
    | some .fn => match args with
      | [] => ⟨.cal x .nil, SE.of (fun g => by
          obtain ⟨h1, h2, h3, _⟩ := glo_ok g hg
          exact q_call0 g h2 h1 h3) fun _ _ => rfl⟩
      | e :: es => if hp : plainL (e :: es) = true then ⟨.cal x (cArgs r (e :: es)).1, SE.of (fun g => by
          obtain ⟨h1, h2, h3, _⟩ := glo_ok g hg
          exact q_call g h2 h1 h3 ((cArgs r (e :: es)).2.pa g) hp) fun _ _ => rfl⟩ else no _
    | some .free => match args with
      | [e] => cB1 r x (free_blt hg) p e pos
      | [a, b] => cB2 r x (free_blt hg) p a b pos
      | _ => no _
    | _ => no _
/-- min(xs, default=d) -/
def cMinK (r : ∀ e, CE_ W ct e) (x : Str) (p : Pos) (args : List Expr) (kws : List Keyword) (pos : Pos) : CE_ W ct (.Call (.Name x p) args kws pos) := match args, kws with
  | [a], [⟨some k, d, kp⟩] => if h : x = "min" ∧ k = "default" ∧ bltB ct x = true ∧ isStar a = false then ⟨.mind (r a).1 (r d).1, SE.of (fun {X bs} g => by
      obtain ⟨rfl, rfl, h1, h2⟩ := h
      obtain ⟨g1, g2, _, _⟩ := bltB_ok g h1
      exact q_mind g.calm g.un g1 g2 ((r a).2.pe g) ((r d).2.pe g) (star_cons _ _ h2)) fun _ _ => rfl⟩ else no _
  | _, _ => no _
/-! ### iterables -/
structure SI (W : Wd) (ct : Ct) (tg iter : Expr) (c : It) : Prop where
  pi : ∀ {X : Cx} {bs : Bs}, Good W ct X → PI X tg iter (tIx X bs noXq (evi W.cl c))
abbrev CI_ (W : Wd) (ct : Ct) (tg iter : Expr) := { c : It // SI W ct tg iter c }
def cSeq (r : ∀ e, CE_ W ct e) (tg iter : Expr) : CI_ W ct tg iter := ⟨.seq (r iter).1, ⟨fun g => q_seq ((r iter).2.pe g)⟩⟩
def isTup : (e : Expr) → Option { q : List Expr × Nat × Pos // e = .Tuple q.1 q.2.1 q.2.2 }
  | .Tuple es k p => some ⟨(es, k, p), rfl⟩
  | _ => none
def cIt (r : ∀ e, CE_ W ct e) (tg : Expr) : (iter : Expr) → CI_ W ct tg iter
  | .Call (.Name x p) [a] [] pos => if h : x = "range" ∧ bltB ct x = true ∧ isStar a = false then ⟨.rng1 (r a).1, ⟨fun g => by
      obtain ⟨rfl, h2, h3⟩ := h
      obtain ⟨g1, g2, _, _⟩ := bltB_ok g h2
      exact q_rng1 g1 g2 ((r a).2.pe g) (star_cons _ _ h3)⟩⟩ else cSeq r tg _
  | .Call (.Name x p) [a, b] [] pos => if h : x = "range" ∧ bltB ct x = true ∧ isStar a = false ∧ isStar b = false then ⟨.rng2 (r a).1 (r b).1, ⟨fun {X bs} g => by
      obtain ⟨rfl, h2, h3, h4⟩ := h
      obtain ⟨g1, g2, _, _⟩ := bltB_ok g h2
      have s2 := star_cons (e := b) [] X.env h4
      exact q_rng2 g1 g2 ((r a).2.pe g) ((r b).2.pe g) (by rw [star_cons _ _ h3, s2]; rfl) s2⟩⟩
    else if h : x = "zip" ∧ bltB ct x = true ∧ isStar a = false ∧ isStar b = false then match isTup tg with
      | some ⟨q, hq⟩ => ⟨.zip (r a).1 (r b).1, ⟨fun {X bs} g => by
          obtain ⟨rfl, h2, h3, h4⟩ := h
          obtain ⟨g1, g2, _, _⟩ := bltB_ok g h2
          have s2 := star_cons (e := b) [] X.env h4
          have s1 := star_cons (e := a) [b] X.env h3
          subst hq
          exact q_zip g1 g2 ((r a).2.pe g) ((r b).2.pe g) s2 s1 (RZ.pi_zipA g1 g2 (pa_cons ((r a).2.pe g) (pa_cons ((r b).2.pe g) pa_nil s2) s1) s1 (plain_any (by simp [plainL, h4])))⟩⟩
      | none => cSeq r tg _
    else cSeq r tg _
  | iter => cSeq r tg iter
/-! ### targets -/
structure STg (W : Wd) (ct : Ct) (tg : Expr) (t : Tg) : Prop where
  ex : ∃ g : TG, (∀ {X : Cx}, Good W ct X → PG X tg g) ∧ ∀ bs, TgR W.K W.mg bs t g
def locB (sc : Scope) (x : Str) : Bool := sc.names.lookup x == some .local
/-- where a name may be stored -/
def stN (ct : Ct) (x : Str) : Option Nat := if locB ct.sc x || (ct.top && ct.sc.names.lookup x == some .cell) then ixOf ct.N x else none
theorem stN_ok {x : Str} {i : Nat} (g : Good W ct X) (h : stN ct x = some i) : X.N[i]? = some x ∧ Loc X.env.scope x ∧ (X.fn x = true ∨ X.env.scope.names.lookup x = some .local) := by
  unfold stN at h
  split at h
  · rename_i hh
    rw [g.N, g.sc]
    refine ⟨ixOf_ok h, ?_⟩
    rcases Bool.or_eq_true_iff.mp hh with q | q
    · exact ⟨.inl (nk_eq q), .inr (nk_eq q)⟩
    · obtain ⟨q1, q2⟩ := Bool.and_eq_true_iff.mp q
      exact ⟨.inr (nk_eq q2), .inl (g.fn q1 x)⟩
  · cases h
def nmT (ct : Ct) : Expr → Option Nat
  | .Name x _ => stN ct x
  | _ => none
theorem nmT_ok {e : Expr} {i : Nat} (g : Good W ct X) (h : nmT ct e = some i) : PG X e (gName i) ∧ isStar e = false := by
  cases e <;> first | (simp [nmT] at h; done) | skip
  obtain ⟨h1, h2, h3⟩ := stN_ok g h
  exact ⟨pg_name g.nd h1 h2 h3, rfl⟩
def nmTs (ct : Ct) : List Expr → Option (List Nat)
  | [] => some []
  | e :: es => (nmT ct e).bind fun i => (nmTs ct es).map (i :: ·)
theorem asg_cons {e : Expr} (es : List Expr) (env : PySem.Env) (h : isStar e = false) : assignEach (e :: es) env = (false, assign e env) :: assignEach es env := by cases e <;> first | rfl | (cases h)
theorem nmTs_ok (g : Good W ct X) : ∀ {es : List Expr} {l : List Nat}, nmTs ct es = some l → PGs X es (gNames l) ∧ (assignEach es X.env).length = l.length ∧ (assignEach es X.env).findIdx? (·.1) = none
  | [], l, h => by cases h; exact ⟨pgs_nil, rfl, rfl⟩
  | e :: es, l, h => by
    simp only [nmTs] at h
    cases h1 : nmT ct e with
    | none => rw [h1] at h; cases h
    | some i =>
      cases h2 : nmTs ct es with
      | none => rw [h1, h2] at h; cases h
      | some is =>
        rw [h1, h2] at h
        cases h
        obtain ⟨a, b, c⟩ := nmTs_ok g h2
        obtain ⟨d, e1⟩ := nmT_ok g h1
        have ea := asg_cons es X.env e1
        refine ⟨pgs_cons d a (by rw [ea]; rfl), by rw [ea]; simp [b], ?_⟩
        rw [ea, List.findIdx?_cons]
        simp only [Bool.false_eq_true, if_false, c]
        rfl
def cTg (tg : Expr) : Option { t : Tg // STg W ct tg t } := match tg with
  | .Name x p => match h : nmT ct (.Name x p) with
    | some i => some ⟨.nm i, ⟨gName i, fun g => (nmT_ok g h).1, fun _ => tg_name i⟩⟩
    | none => none
  | .Tuple es k p => match h : nmTs ct es with
    | some l => some ⟨.tp l, ⟨gTup W.K l.length (gNames l), fun {X} g => by
        obtain ⟨a, b, c⟩ := nmTs_ok g h
        rw [← g.K]
        exact pg_tup g.calm a b c, fun _ => tg_tup l⟩⟩
    | none => none
  | _ => none
/-! ### comprehensions -/
def relS (scope sc : Scope) : Scope := { scope with names := scope.names.map fun (n, k) => if (k == .free && sc.kind == .function && sc.names.lookup n == some .cell) then (n, .cell) else (n, k) }
def blkCt (ct : Ct) (scope : Scope) : Ct := { ct with sc := relS scope ct.sc, top := false }
theorem Good.blk (g : Good W ct X) (s : Shared) (H : Hp) (scope : Scope) (C : Addr) (cl : List (Str × Addr)) (fp : List Addr) : Good W (blkCt ct scope) (X.blk s H scope (compEnvC scope cl C X.env) fp) where
  P := g.P
  w := g.w
  K := g.K
  mg := g.mg
  base := g.base
  N := g.N
  nd := g.nd
  sc := by
    show relS scope X.env.scope = relS scope ct.sc
    rw [g.sc]
  calm := g.calm
  xe := rfl
  room := g.room
  fn := fun h => nomatch h
  glob := g.glob
  cls := g.cls
structure LcOk (W : Wd) (ct : Ct) (elt tgE iter : Expr) (ifs : List Expr) (scope : Scope) (tg : Tg) (it : It) (c : Oe) (e : E) (own : List (Str × Nat)) : Prop where
  it : SI W ct tgE iter it
  blk : blkC ct.N ct.sc scope own = true
  own : own.map (·.2) = tgV tg
  tg : STg W (blkCt ct scope) tgE tg
  ifs : ∀ {X : Cx} {bs : Bs}, Good W (blkCt ct scope) X → PTs X ifs (tBs X.K X.mg bs noXq (evc W.cl c))
  elt : SE W (blkCt ct scope) elt e
  ns : isSet iter = false
structure LcP (W : Wd) (ct : Ct) (elt tgE iter : Expr) (ifs : List Expr) (scope : Scope) where
  tg : Tg
  it : It
  c : Oe
  e : E
  own : List (Str × Nat)
  ok : LcOk W ct elt tgE iter ifs scope tg it c e own
def cIfs (r : ∀ e, CE_ W ct e) : (ifs : List Expr) → Option { c : Oe // ∀ {X : Cx} {bs : Bs}, Good W ct X → PTs X ifs (tBs X.K X.mg bs noXq (evc W.cl c)) }
  | [] => some ⟨.no, fun {X bs} _ => ⟨fun pins s σ H Q I ⟨env, S, γ, Z, f, p⟩ => pts_nil.run pins s σ H Q I (Pst.here (a := true) p f rfl)⟩⟩
  | [c] => some ⟨.yes (r c).1, fun g => pts_one ((r c).2.pt g)⟩
  | _ => none
def cLc (r : ∀ ct e, CE_ W ct e) (elt tgE iter : Expr) (ifs : List Expr) (scope : Scope) : Option (LcP W ct elt tgE iter ifs scope) :=
  match cTg (W := W) (ct := blkCt ct scope) tgE, cIfs (r (blkCt ct scope)) ifs with
  | some ⟨t, ht⟩, some ⟨c, hc⟩ =>
    if h : blkC ct.N ct.sc scope ((tgV t).map fun i => (ct.N.getD i Str.empty, i)) = true ∧ isSet iter = false then
      some ⟨t, (cIt (r ct) tgE iter).1, c, (r (blkCt ct scope) elt).1, _, ⟨(cIt (r ct) tgE iter).2, h.1, by rw [List.map_map]; show (tgV t).map (fun i => i) = _; simp, ht, hc, (r (blkCt ct scope) elt).2, h.2⟩⟩
    else none
  | _, _ => none
theorem q_lcP {elt tgE iter : Expr} {ifs : List Expr} {scope : Scope} {pos : Pos} (g : Good W ct X) (P : LcP W ct elt tgE iter ifs scope) : PE X (.ListComp elt [⟨tgE, iter, ifs, 0⟩] scope pos) (tEx X bs noXq (ev W.cl (.lc P.e P.tg P.it P.c))) := by
  obtain ⟨tg, it, c, e, own, ok⟩ := P
  obtain ⟨gt, h1, h2⟩ := ok.tg.ex
  have hb := blkOk_by ok.blk
  rw [← g.N, ← g.sc] at hb
  exact q_lc tg g.calm g.nd (ok.it.pi g) hb ok.own (by rw [g.K, g.mg]; exact h2 bs) (fun s H C cl fp => h1 (g.blk s H scope C cl fp)) (fun s H C cl fp => ok.ifs (g.blk s H scope C cl fp)) (fun s H C cl fp => ok.elt.pe (g.blk s H scope C cl fp)) (noFold ok.ns _)
def cLcE (r : ∀ ct e, CE_ W ct e) (elt : Expr) (gs : List Comprehension) (scope : Scope) (pos : Pos) : CE_ W ct (.ListComp elt gs scope pos) := match gs with
  | [⟨tgE, iter, ifs, 0⟩] => match cLc r elt tgE iter ifs scope with
    | some P => ⟨.lc P.e P.tg P.it P.c, SE.of (fun g => q_lcP g P) fun _ _ => rfl⟩
    | none => no _
  | _ => no _
def cCallK (r : ∀ e, CE_ W ct e) (x : Str) (p : Pos) (args : List Expr) (kws : List Keyword) (pos : Pos) : CE_ W ct (.Call (.Name x p) args kws pos) := match kws with
  | [] => cCallN r x p args pos
  | k :: ks => cMinK r x p args (k :: ks) pos
/-! ### the step -/
def stepE (r : ∀ ct e, CE_ W ct e) (ct : Ct) : (e : Expr) → CE_ W ct e
  | .Name x pos => cName x pos
  | .Constant c k pos => cConst c k pos
  | .BinOp a op b pos => cBin (r ct) a op b pos
  | .UnaryOp op a pos => cUn (r ct) op a pos
  | .Compare a ops es pos => cCmp (r ct) a ops es pos
  | .BoolOp op vs pos => cBool (r ct) op vs pos
  | .IfExp c a b pos => ⟨.ite (r ct c).1 (r ct a).1 (r ct b).1, ⟨fun g => q_ite ((r ct c).2.pt g) ((r ct a).2.pe g) ((r ct b).2.pe g), fun g => qt_ite ((r ct c).2.pt g) ((r ct a).2.pt g) ((r ct b).2.pt g)⟩⟩
  | .Tuple es k pos => ⟨.tup (cArgs (r ct) es).1, SE.of (fun g => q_tup ((cArgs (r ct) es).2.pa g)) fun _ _ => rfl⟩
  | .List es pos => ⟨.lst (cArgs (r ct) es).1, SE.of (fun g => q_lst ((cArgs (r ct) es).2.pa g)) fun _ _ => rfl⟩
  | .Subscript a b pos => cSub (r ct) a b pos
  | .ListComp elt gs scope pos => cLcE r elt gs scope pos
  | .Call (.Name x p) args kws pos => cCallK (r ct) x p args kws pos
  | _ => no _
def comp (W : Wd) : Nat → (ct : Ct) → (e : Expr) → CE_ W ct e
  | 0, _, e => no e
  | n + 1, ct, e => stepE (comp W n) ct e
end
end Q

set_option Elab.async false
set_option linter.all false
set_option autoImplicit false
set_option maxRecDepth 100000
set_option maxHeartbeats 1000000
/-! QCp4: statements. -/
namespace Q
open PySem PySem.Spec PyProof.Rows L2
section
variable {W : Wd} {ct : Ct} {X : Cx} {bs : Bs} {Xq : XQ}
structure SS (W : Wd) (ct : Ct) (st : Stmt) (c : S) : Prop where
  ps : ∀ {X : Cx} {bs : Bs}, Good W ct X → PS X st (tSx X bs noXq (ex W.cl c))
structure SSs (W : Wd) (ct : Ct) (st : List Stmt) (c : Ss) : Prop where
  pss : ∀ {X : Cx} {bs : Bs}, Good W ct X → PSs X st (tSx X bs noXq (exs W.cl c))
abbrev CS_ (W : Wd) (ct : Ct) (st : Stmt) := { c : S // SS W ct st c }
abbrev CSs_ (W : Wd) (ct : Ct) (st : List Stmt) := { c : Ss // SSs W ct st c }
def noS (st : Stmt) : CS_ W ct st := ⟨.bad, ⟨fun _ => ⟨fun _ _ _ _ _ _ ⟨env, S, _, _, _, p⟩ => p.elim⟩⟩⟩
/-! ### comprehensions: what a list asks for -/
section
variable {tgE iter elt : Expr} {ifs : List Expr} {scope : Scope} {own : List (Str × Nat)} {pos : Pos} {mi : Env → M (List D)} {mc : Env → M Bool} {me : Env → M D} {σ : L2.St} {H : Hp} {Q : VK}
theorem qlc_ent {tg : Tg} {g : TG} (hown : own.map (·.2) = tgV tg) (hT : TgR X.K X.mg bs tg g) (h : tEx X bs Xq (mLc tg mi mc me) σ H Q) : tLc (tIx X bs Xq mi) g (tBs X.K X.mg bs noXq mc) (tE X.K X.mg bs noXq me) (own.map (·.2)) σ H Q := by
  obtain ⟨env, S, γ, Z, f, p⟩ := h
  refine ⟨env, S, γ, Z, f, p.bind fun J ds H1 γ1 Z1 S1 l1 f1 r1 p1 => ?_⟩
  rw [hown]
  exact ent_lc hT rfl f1 r1.1 r1.2 p1
theorem klc_ent {tg : Tg} {g : TG} (hown : own.map (·.2) = tgV tg) (hT : TgR X.K X.mg bs tg g) (h : tKx X bs Xq .lst (mLc tg mi mc me) σ H Q) : tLc (tIx X bs Xq mi) g (tBs X.K X.mg bs noXq mc) (tE X.K X.mg bs noXq me) (own.map (·.2)) σ H Q := by
  obtain ⟨env, S, γ, Z, f, p⟩ := h
  refine ⟨env, S, γ, Z, f, p.bind fun J ds H1 γ1 Z1 S1 l1 f1 r1 p1 => ?_⟩
  rw [hown]
  intro L hL
  refine ent_lc0 hT rfl f1 r1.1 r1.2 (fun r => PstK X.K X.mg bs Xq .lst σ env Q γ1 Z1 H1 (r.bind fun p => .ok (D.lst p.1, p.2))) (fun h => h) p1 L hL fun ys S2 H2 γ2 Z2 acc p l w hD nz ng hy ra => ?_
  exact p (.ref L) [L] H2 γ2 Z2 l (f1.step l w) (.lst hL nz ng hD hy ra)
theorem kl2_ent {tg : Tg} {g : TG} (hown : own.map (·.2) = tgV tg) (hT : TgR X.K X.mg bs tg g) (h : tKx X bs Xq .l2 (mLc tg mi mc me) σ H Q) : tLc (tIx X bs Xq mi) g (tBs X.K X.mg bs noXq mc) (tK X.K X.mg bs noXq .lst me) (own.map (·.2)) σ H Q := by
  obtain ⟨env, S, γ, Z, f, p⟩ := h
  refine ⟨env, S, γ, Z, f, p.bind fun J ds H1 γ1 Z1 S1 l1 f1 r1 p1 => ?_⟩
  rw [hown]
  intro L hL
  refine ent_lcR hT rfl f1 r1.1 r1.2 (fun r => PstK X.K X.mg bs Xq .l2 σ env Q γ1 Z1 H1 (r.bind fun p => .ok (D.lst p.1, p.2))) (fun h => h) p1 L hL fun yss S2 H2 γ2 Z2 as p l w hD hx hnd hy ra => ?_
  exact p (.ref L) (L :: as) H2 γ2 Z2 l (f1.step l w) (.l2 hx hnd hD hy ra)
end
/-! ### which stores are swapped -/
def fnK (sc : Scope) : Bool := match sc.kind with
  | .function => true
  | _ => false
theorem fnK_ok {sc : Scope} (h : fnK sc = true) : sc.kind = .function := by
  unfold fnK at h
  split at h
  · assumption
  · cases h
theorem blockK {env : PySem.Env} (h : env.scope.kind = .function) : env.blockKind = .function := by unfold Env.blockKind; rw [h]; rfl
def isComp : Expr → Bool
  | .ListComp .. => true
  | .SetComp .. => true
  | .DictComp .. => true
  | _ => false
theorem sw_no {e : Expr} {t : Option Expr} {l : Nat} {env : PySem.Env} (h : isComp e = false) : swapsWith e t l env = pure false := by cases e <;> first | rfl | (cases h)
theorem sw_sub {e o i : Expr} {p : Pos} {l : Nat} {env : PySem.Env} : swapsWith e (some (.Subscript o i p)) l env = pure false := by cases e <;> rfl
theorem sw_tup {e : Expr} {es : List Expr} {k : Nat} {p : Pos} {l : Nat} {env : PySem.Env} : swapsWith e (some (.Tuple es k p)) l env = pure false := by cases e <;> rfl
def isTupE : Expr → Bool
  | .Tuple .. => true
  | _ => false
theorem sst_no {es : List Expr} {k : Nat} {p : Pos} {e : Expr} {env : PySem.Env} (h : isTupE e = false) : swappedStores [.Tuple es k p] e env = pure none := by cases e <;> first | rfl | (cases h)
theorem sst_sub {o i : Expr} {p : Pos} {e : Expr} {env : PySem.Env} : swappedStores [.Subscript o i p] e env = pure none := by cases e <;> rfl
def swB (sc : Scope) (y : Str) (py : Pos) (scope : Scope) (pos : Pos) : Bool := locB sc y && (py.line == pos.line && !(scope.names.any fun (n, k) => n == y && (k == .local || k == .cell)))
theorem sw_false {elt : Expr} {gs : List Comprehension} {scope : Scope} {pos py : Pos} {y : Str} {l : Nat} {env : PySem.Env} (hk : env.scope.kind = .function) (h : swB env.scope y py scope pos = false) : swapsWith (.ListComp elt gs scope pos) (some (.Name y py)) l env = pure false := by
  unfold swapsWith
  have hb := blockK hk
  have e1 : (env.kindOf y == some .local) = locB env.scope y := rfl
  simp only [hb, e1, Expr.pos]
  have e2 : (((ScopeKind.function == ScopeKind.function && locB env.scope y) && py.line == pos.line) && !(scope.names.any fun (n, k) => n == y && (k == .local || k == .cell))) = swB env.scope y py scope pos := by
    unfold swB
    cases locB env.scope y <;> rfl
  show (pure (((ScopeKind.function == ScopeKind.function && locB env.scope y) && py.line == pos.line) && !(scope.names.any fun (n, k) => n == y && (k == .local || k == .cell))) : Sem Bool) = _
  rw [e2, h]
theorem sw_falseD {kx vx : Expr} {gs : List Comprehension} {scope : Scope} {pos py : Pos} {y : Str} {l : Nat} {env : PySem.Env} (hk : env.scope.kind = .function) (h : swB env.scope y py scope pos = false) : swapsWith (.DictComp kx vx gs scope pos) (some (.Name y py)) l env = pure false := by
  unfold swapsWith
  have hb := blockK hk
  have e1 : (env.kindOf y == some .local) = locB env.scope y := rfl
  simp only [hb, e1, Expr.pos]
  have e2 : (((ScopeKind.function == ScopeKind.function && locB env.scope y) && py.line == pos.line) && !(scope.names.any fun (n, k) => n == y && (k == .local || k == .cell))) = swB env.scope y py scope pos := by
    unfold swB
    cases locB env.scope y <;> rfl
  show (pure (((ScopeKind.function == ScopeKind.function && locB env.scope y) && py.line == pos.line) && !(scope.names.any fun (n, k) => n == y && (k == .local || k == .cell))) : Sem Bool) = _
  rw [e2, h]
theorem asgLc {elt tgE iter : Expr} {ifs : List Expr} {scope : Scope} {own : List (Str × Nat)} {pos spos py : Pos} {y : Str} {i : Nat} {wi : TI} {gt : TG} {tt : TT} {te : TE} (g : Good W ct X) (hk : fnK ct.sc = true) (hy : stN ct y = some i) (hi : PI X tgE iter wi) (ok : BlkOk X.N X.env.scope scope own)
    (hg : ∀ (s : Shared) (H : Hp) (C : Addr) (cl : List (Str × Addr)) (fp : List Addr), PG (X.blk s H scope (compEnvC scope cl C X.env) fp) tgE gt) (ht : ∀ (s : Shared) (H : Hp) (C : Addr) (cl : List (Str × Addr)) (fp : List Addr), PTs (X.blk s H scope (compEnvC scope cl C X.env) fp) ifs tt)
    (he : ∀ (s : Shared) (H : Hp) (C : Addr) (cl : List (Str × Addr)) (fp : List Addr), PE (X.blk s H scope (compEnvC scope cl C X.env) fp) elt te) (hs : ∀ x, foldedSetIterable iter X.env x = pure x) :
    PS X (.Assign [.Name y py] (.ListComp elt [⟨tgE, iter, ifs, 0⟩] scope pos) spos) (tAsg (tLc wi gt tt te (own.map (·.2))) (gName i)) := by
  obtain ⟨h1, h2, h3⟩ := stN_ok g hy
  have hk' : X.env.scope.kind = .function := by rw [g.sc]; exact fnK_ok hk
  cases hb : swB X.env.scope y py scope pos with
  | true =>
    unfold swB at hb
    simp only [Bool.and_eq_true, Bool.not_eq_true'] at hb
    obtain ⟨b1, b2, b3⟩ := hb
    exact ps_setLc g.calm g.nd h1 (nk_eq b1) (sw_true hk' (nk_eq b1) b2 b3) hi ok hg ht he hs
  | false => exact ps_set g.nd h1 h2 (pe_lc g.calm g.nd hi ok hg ht he hs) (sw_false hk' hb) h3
/-! ### kept values -/
structure SK (W : Wd) (ct : Ct) (e : Expr) (p : E × Ow) : Prop where
  pk : ∀ {X : Cx} {bs : Bs}, Good W ct X → PE X e (tKx X bs noXq p.2 (ev W.cl p.1))
abbrev CK_ (W : Wd) (ct : Ct) (e : Expr) := { p : E × Ow // SK W ct e p }
def kVal (r : ∀ ct e, CE_ W ct e) (e : Expr) : CK_ W ct e := ⟨((r ct e).1, .val), ⟨fun g => k_val ((r ct e).2.pe g)⟩⟩
theorem lcK {elt tgE iter : Expr} {ifs : List Expr} {scope : Scope} {pos : Pos} (g : Good W ct X) (P : LcP W ct elt tgE iter ifs scope) : PE X (.ListComp elt [⟨tgE, iter, ifs, 0⟩] scope pos) (tKx X bs noXq .lst (ev W.cl (.lc P.e P.tg P.it P.c))) := by
  obtain ⟨tg, it, c, e, own, ok⟩ := P
  obtain ⟨gt, h1, h2⟩ := ok.tg.ex
  have hb := blkOk_by ok.blk
  rw [← g.N, ← g.sc] at hb
  exact pe_weak (pe_lc g.calm g.nd (ok.it.pi g) hb (fun s H C cl fp => h1 (g.blk s H scope C cl fp)) (fun s H C cl fp => ok.ifs (g.blk s H scope C cl fp)) (fun s H C cl fp => ok.elt.pe (g.blk s H scope C cl fp)) (noFold ok.ns _))
    fun σ H Q h => klc_ent ok.own (by rw [g.K, g.mg]; exact h2 bs) h
/-- list(x) as a row -/
def cRow (r : ∀ ct e, CE_ W ct e) : (e : Expr) → Option { c : E // ∀ {X : Cx} {bs : Bs}, Good W ct X → PE X e (tKx X bs noXq .lst (ev W.cl c)) }
  | .Call (.Name x p) [a] [] pos => if h : x = "list" ∧ bltB ct x = true ∧ isStar a = false ∧ (rgOf a).isNone = true then some ⟨.pr .list (cArgs (r ct) [a]).1, fun {X bs} g => by
      obtain ⟨rfl, h2, h3, _⟩ := h
      obtain ⟨g1, g2, _, _⟩ := bltB_ok g h2
      exact k_list g.calm g1 g2 ((cArgs (r ct) [a]).2.pa g) (star_cons _ _ h3)⟩ else none
  | _ => none
theorem lc2K {elt tgE iter : Expr} {ifs : List Expr} {scope : Scope} {pos : Pos} {e2 : E} (g : Good W ct X) (P : LcP W ct elt tgE iter ifs scope) (h2 : ∀ {X : Cx} {bs : Bs}, Good W (blkCt ct scope) X → PE X elt (tKx X bs noXq .lst (ev W.cl e2))) : PE X (.ListComp elt [⟨tgE, iter, ifs, 0⟩] scope pos) (tKx X bs noXq .l2 (ev W.cl (.lc e2 P.tg P.it P.c))) := by
  obtain ⟨tg, it, c, e, own, ok⟩ := P
  obtain ⟨gt, h1, h3⟩ := ok.tg.ex
  have hb := blkOk_by ok.blk
  rw [← g.N, ← g.sc] at hb
  exact pe_weak (pe_lc g.calm g.nd (ok.it.pi g) hb (fun s H C cl fp => h1 (g.blk s H scope C cl fp)) (fun s H C cl fp => ok.ifs (g.blk s H scope C cl fp)) (fun s H C cl fp => h2 (g.blk s H scope C cl fp)) (noFold ok.ns _))
    fun σ H Q h => kl2_ent ok.own (by rw [g.K, g.mg]; exact h3 bs) h
theorem dcK {kx vx tgE iter : Expr} {scope : Scope} {pos : Pos} {ck : E} (g : Good W ct X) (P : LcP W ct vx tgE iter [] scope) (hk : SE W (blkCt ct scope) kx ck) : PE X (.DictComp kx vx [⟨tgE, iter, [], 0⟩] scope pos) (tKx X bs noXq .dct (ev W.cl (.dc true ck P.e P.tg P.it))) := by
  obtain ⟨tg, it, c, e, own, ok⟩ := P
  obtain ⟨gt, h1, h3⟩ := ok.tg.ex
  have hb := blkOk_by ok.blk
  rw [← g.N, ← g.sc] at hb
  exact k_dcT tg g.calm (by have := g.un; omega) g.nd (ok.it.pi g) hb ok.own (by rw [g.K, g.mg]; exact h3 bs) (fun s H C cl fp => h1 (g.blk s H scope C cl fp)) (fun s H C cl fp => hk.pe (g.blk s H scope C cl fp)) (fun s H C cl fp => ok.elt.pe (g.blk s H scope C cl fp)) (noFold ok.ns _)
def cK (r : ∀ ct e, CE_ W ct e) (o : Ow) (t : Bool) (e : Expr) : CK_ W ct e := match o with
  | .val => kVal r e
  | .lst => match e with
    | .List es pos => ⟨(.lst (cArgs (r ct) es).1, .lst), ⟨fun g => k_lst ((cArgs (r ct) es).2.pa g)⟩⟩
    | .ListComp elt [⟨tgE, iter, ifs, 0⟩] scope pos => match cLc (ct := ct) r elt tgE iter ifs scope with
      | some P => ⟨(.lc P.e P.tg P.it P.c, .lst), ⟨fun g => lcK g P⟩⟩
      | none => kVal r _
    | e => match cRow (ct := ct) r e with
      | some ⟨c, h⟩ => ⟨(c, .lst), ⟨fun g => h g⟩⟩
      | none => kVal r e
  | .l2 => match e with
    | .ListComp elt [⟨tgE, iter, ifs, 0⟩] scope pos => match cLc (ct := ct) r elt tgE iter ifs scope, cRow (ct := blkCt ct scope) r elt with
      | some P, some ⟨c2, h2⟩ => ⟨(.lc c2 P.tg P.it P.c, .l2), ⟨fun g => lc2K g P h2⟩⟩
      | _, _ => kVal r _
    | e => kVal r e
  | .dct => match e with
    | .Dict [] [] pos => if t then ⟨(.dnil true, .dct), ⟨fun g => k_dnewT⟩⟩ else ⟨(.dnil false, .dct), ⟨fun g => k_dnewK⟩⟩
    | .Dict [some a] [b] pos => if t then ⟨(.dsing true (r ct a).1 (r ct b).1, .dct), ⟨fun g => k_disp1T g.un ((r ct a).2.pe g) ((r ct b).2.pe g)⟩⟩ else ⟨(.dsing false (r ct a).1 (r ct b).1, .dct), ⟨fun g => k_disp1 ((r ct a).2.pe g) ((r ct b).2.pe g)⟩⟩
    | .DictComp kx vx [⟨tgE, iter, [], 0⟩] scope pos => if t then match cLc (ct := ct) r vx tgE iter [] scope with
      | some P => ⟨(.dc true (r (blkCt ct scope) kx).1 P.e P.tg P.it, .dct), ⟨fun g => dcK g P (r (blkCt ct scope) kx).2⟩⟩
      | none => kVal r _
      else kVal r _
    | e => kVal r e
end
end Q

set_option Elab.async false
set_option linter.all false
set_option autoImplicit false
set_option maxRecDepth 100000
set_option maxHeartbeats 1000000
/-! QCp5: statements, the step. -/
namespace Q
open PySem PySem.Spec PyProof.Rows L2
section
variable {W : Wd} {ct : Ct} {X : Cx} {bs : Bs}
/-! ### a, b = x, y -/
theorem sst2 {env : PySem.Env} {x y : Str} {px py pt pt2 : Pos} {kt k2 : Nat} {a b : Expr} (hk : env.scope.kind = .function) (ha : isStar a = false) (hb : isStar b = false) (hl : (py.line == px.line) = true) (hxy : (x == y) = false) (hf : (foldedForSure 8 a && foldedForSure 8 b) = false) (hc : (constantsAlone 8 a && constantsAlone 8 b) = false) (lx : env.kindOf x = some .local) (ly : env.kindOf y = some .local) :
    swappedStores [.Tuple [.Name x px, .Name y py] kt pt] (.Tuple [a, b] k2 pt2) env = pure (some [x, y]) := by
  have hbk := blockK hk
  have hyx : (y == x) = false := by
    cases h : (y == x) with
    | false => rfl
    | true =>
      have e : y = x := by simpa using h
      rw [e] at hxy
      simp at hxy
  unfold swappedStores
  simp only [List.length_cons, List.length_nil, hbk, List.any_cons, List.any_nil, List.head?_cons, Option.map_some, Option.getD_some, Expr.pos, List.filterMap_cons, List.filterMap_nil, lx, ly, hl, List.all_cons, List.all_nil, Bool.and_true, hf, hc]
  simp [List.eraseDups_cons, hyx, hl]
  intro h
  exfalso
  rcases h with h | h
  · cases a <;> first | (cases h; done) | (cases ha; done)
  · cases b <;> first | (cases h; done) | (cases hb; done)
theorem sst2n {env : PySem.Env} {x y : Str} {px py pt pt2 : Pos} {kt k2 : Nat} {a b : Expr} (hk : env.scope.kind = .function) (l : (env.kindOf x == some .local && env.kindOf y == some .local) = false) :
    swappedStores [.Tuple [.Name x px, .Name y py] kt pt] (.Tuple [a, b] k2 pt2) env = pure none := by
  have hbk := blockK hk
  unfold swappedStores
  simp only [List.length_cons, List.length_nil, hbk, List.any_cons, List.any_nil, List.head?_cons, Option.map_some, Option.getD_some, Expr.pos, List.filterMap_cons, List.filterMap_nil]
  rcases Bool.eq_false_or_eq_true (env.kindOf x == some .local) with hx | hx
  · rw [hx] at l
    simp only [Bool.true_and] at l
    simp [hx, l]
  · rcases Bool.eq_false_or_eq_true (env.kindOf y == some .local && py.line == px.line) with hy | hy
    · simp [hx, hy]
    · simp [hx, hy]
/-- a, b = x, y by a tuple -/
theorem s_parT {ma mb : Env → M D} {i j : Nat} {k1 k2 : Ow} {st : Stmt} (h : PS X st (tAsg (tTup (tCons (tKx X bs noXq k1 ma) (tCons (tKx X bs noXq k2 mb) tNil))) (gTup X.K 2 (gNames [i, j])))) :
    PS X st (tSx X bs noXq fun env => (ma env).bind fun d1 => (mb env).bind fun d2 => (M.opt (setOs env [(i, k1), (j, k2)] [d1, d2])).bind fun env1 => M.ret (.nx env1)) := by
  refine ps_weak h fun E σ H ⟨env, S, γ, Z, f, p⟩ => ⟨env, S, γ, Z, f, p.bindK f fun x d1 F1 H1 γ1 Z1 S1 l1 f1 r1 p1 => ⟨env, S1, γ1, Z1, f1, p1.bindK f1 fun y d2 F2 H2 γ2 Z2 S2 l2 f2 r2 p2 => ⟨by show 2 ≤ sizeLine; decide, fun q hq => ?_⟩⟩⟩
  obtain ⟨env2, e1, p3⟩ := p2.optB
  simp only [setOs] at e1
  cases o1 : ownO k1 d1 with
  | none => rw [o1] at e1; cases e1
  | some sl1 =>
  cases o2 : ownO k2 d2 with
  | none => rw [o1, o2] at e1; cases e1
  | some sl2 =>
  rw [o1, o2] at e1
  cases e1
  have fs1 := Fr.setK f l1 f1 r1 i o1 (r1.apart f l1)
  have fr1 := fs1.step l2 f2.ok
  have fr2 := Fr.setK fs1 l2 fr1 r2 j o2 (r2.apart fs1 l2)
  have l3 := Le.new (γ := γ2) (Z := Z2) (o := .tup [x, y]) hq
  have fr3 := fr2.step l3 (f2.ok.new hq)
  exact ⟨q, [x, y], rfl, .inl (.inl upd_same), rfl, x, [y], rfl, y, [], rfl, rfl, p3 _ _ γ2 Z2 (l3.lz f2.ok) fr3⟩
/-! ### places -/
theorem asg_sub {o i : Expr} {p : Pos} {env : PySem.Env} (h : isSlice i = false) (v : Value) : assign (.Subscript o i p) env v = (do
      let ov ← holding [v] (eval o env)
      let iv ← holding [v, ov] (eval i env)
      standAt p
      holding [v, ov, iv] (setItem ov iv v)
      release [v, ov, iv] []) := by cases i <;> first | rfl | (cases h)
structure SLv (W : Wd) (ct : Ct) (e : Expr) (l : Lv) : Prop where
  ex : ∀ {X : Cx} {bs : Bs}, Good W ct X → ∃ g : TG, PG X e g ∧ LvR X bs noXq (asg1 W.cl l) g
  ns : isStar e = false
def cLv (r : ∀ e, CE_ W ct e) : (e : Expr) → Option { l : Lv // SLv W ct e l }
  | .Subscript (.Name x px) i p => match hx : lcl ct x with
    | some k => if h : isSlice i = false then some ⟨.ix1 k (r i).1, ⟨fun g => ⟨_, pg_sub (lcl_ok g hx) ((r i).2.pe g) (set_q (by have := g.un; omega)) (asg_sub h), lv_ix1⟩, rfl⟩⟩ else none
    | none => none
  | .Subscript (.Subscript (.Name x px) i p1) j p => match hx : lcl ct x with
    | some k => if h : isSlice i = false ∧ isSlice j = false then some ⟨.ix2 k (r i).1 (r j).1, ⟨fun g => ⟨_, pg_sub (pe_ix (ix_q g.un) (lcl_ok g hx) ((r i).2.pe g) (plainIx h.1)) ((r j).2.pe g) (set_q (by have := g.un; omega)) (asg_sub h.2), lv_ix2⟩, rfl⟩⟩ else none
    | none => none
  | _ => none
structure SLvs (W : Wd) (ct : Ct) (es : List Expr) (ls : List Lv) : Prop where
  ex : ∀ {X : Cx} {bs : Bs}, Good W ct X → ∃ gs : TGs, PGs X es gs ∧ LvsR X bs noXq W.cl ls gs ∧ (assignEach es X.env).length = ls.length ∧ (assignEach es X.env).findIdx? (·.1) = none
def cLvs (r : ∀ e, CE_ W ct e) : (es : List Expr) → Option { ls : List Lv // SLvs W ct es ls }
  | [] => some ⟨[], ⟨fun g => ⟨_, pgs_nil, .nil, rfl, rfl⟩⟩⟩
  | e :: es => match cLv r e, cLvs r es with
    | some ⟨l, hl⟩, some ⟨ls, hls⟩ => some ⟨l :: ls, ⟨fun {X bs} g => by
        obtain ⟨g1, h1, h2⟩ := hl.ex (bs := bs) g
        obtain ⟨gs, h3, h4, h5, h6⟩ := hls.ex (bs := bs) g
        have ea := asg_cons es X.env hl.ns
        refine ⟨_, pgs_cons h1 h3 (by rw [ea]; rfl), .cons h2 h4, by rw [ea]; simp [h5], ?_⟩
        rw [ea, List.findIdx?_cons]
        simp only [Bool.false_eq_true, if_false, h6]
        rfl⟩⟩
    | _, _ => none
end
end Q

set_option Elab.async false
set_option linter.all false
set_option autoImplicit false
set_option maxRecDepth 100000
set_option maxHeartbeats 1000000
/-! QCp6: statements, the step. -/
namespace Q
open PySem PySem.Spec PyProof.Rows L2
section
variable {W : Wd} {ct : Ct} {X : Cx} {bs : Bs}
def owOf (ct : Ct) (x : Str) : Ow × Bool := (ct.ow.lookup x).getD (.val, false)
theorem sws_tup {e : Expr} {es : List Expr} {k : Nat} {p : Pos} {l : Nat} {env : PySem.Env} : swapsWithSole [.Tuple es k p] e l env = pure false := by
  show swapsWith e (some (.Tuple es k p)) l env = _
  exact sw_tup
theorem sws_sub {e o i : Expr} {p : Pos} {l : Nat} {env : PySem.Env} : swapsWithSole [.Subscript o i p] e l env = pure false := by
  show swapsWith e (some (.Subscript o i p)) l env = _
  exact sw_sub
theorem kval_ent {Xq : XQ} {m : Env → M D} {σ : L2.St} {H : Hp} {Q : VK} (h : tKx X bs Xq .val m σ H Q) : tEx X bs Xq m σ H Q := by
  obtain ⟨env, S, γ, Z, f, p⟩ := h
  refine ⟨env, S, γ, Z, f, ?_⟩
  cases e : m env S with
  | ok q =>
    rw [e] at p
    exact fun v H' γ' Z' l fr r => p v [] H' γ' Z' l fr (.val r)
  | exn _ _ _ => rw [e] at p; exact p
  | stuck => rw [e] at p; exact p
/-- x = a list comprehension -/
def cAsgLc (r : ∀ ct e, CE_ W ct e) (y : Str) (py : Pos) (elt tgE iter : Expr) (ifs : List Expr) (scope : Scope) (p2 pos : Pos) : CS_ W ct (.Assign [.Name y py] (.ListComp elt [⟨tgE, iter, ifs, 0⟩] scope p2) pos) :=
  match hy : stN ct y with
  | none => noS _
  | some i => if hk : fnK ct.sc = true then match cLc (ct := ct) r elt tgE iter ifs scope with
    | none => noS _
    | some P => match (owOf ct y).1 with
      | .lst => ⟨.own i .lst (.lc P.e P.tg P.it P.c), ⟨fun {X bs} g => by
          obtain ⟨tg, it, c, e, own, ok⟩ := P
          obtain ⟨gt, h1, h2⟩ := ok.tg.ex
          have hb := blkOk_by ok.blk
          rw [← g.N, ← g.sc] at hb
          exact s_own (ps_weak (asgLc g hk hy (ok.it.pi g) hb (fun s H C cl fp => h1 (g.blk s H scope C cl fp)) (fun s H C cl fp => ok.ifs (g.blk s H scope C cl fp)) (fun s H C cl fp => ok.elt.pe (g.blk s H scope C cl fp)) (noFold ok.ns _))
            fun E σ H h => klc_ent ok.own (by rw [g.K, g.mg]; exact h2 bs) h)⟩⟩
      | .l2 => match cRow (ct := blkCt ct scope) r elt with
        | none => noS _
        | some ⟨e2, he2⟩ => ⟨.own i .l2 (.lc e2 P.tg P.it P.c), ⟨fun {X bs} g => by
          obtain ⟨tg, it, c, e, own, ok⟩ := P
          obtain ⟨gt, h1, h2⟩ := ok.tg.ex
          have hb := blkOk_by ok.blk
          rw [← g.N, ← g.sc] at hb
          exact s_own (ps_weak (asgLc g hk hy (ok.it.pi g) hb (fun s H C cl fp => h1 (g.blk s H scope C cl fp)) (fun s H C cl fp => ok.ifs (g.blk s H scope C cl fp)) (fun s H C cl fp => he2 (g.blk s H scope C cl fp)) (noFold ok.ns _))
            fun E σ H h => kl2_ent ok.own (by rw [g.K, g.mg]; exact h2 bs) h)⟩⟩
      | _ => ⟨.own i .val (.lc P.e P.tg P.it P.c), ⟨fun {X bs} g => by
          obtain ⟨tg, it, c, e, own, ok⟩ := P
          obtain ⟨gt, h1, h2⟩ := ok.tg.ex
          have hb := blkOk_by ok.blk
          rw [← g.N, ← g.sc] at hb
          exact s_own (ps_weak (asgLc g hk hy (ok.it.pi g) hb (fun s H C cl fp => h1 (g.blk s H scope C cl fp)) (fun s H C cl fp => ok.ifs (g.blk s H scope C cl fp)) (fun s H C cl fp => ok.elt.pe (g.blk s H scope C cl fp)) (noFold ok.ns _))
            fun E σ H h => qlc_ent ok.own (by rw [g.K, g.mg]; exact h2 bs) (kval_ent h))⟩⟩
    else noS _
/-- x = e -/
def cAsgNm (r : ∀ ct e, CE_ W ct e) (y : Str) (py : Pos) (e : Expr) (pos : Pos) : CS_ W ct (.Assign [.Name y py] e pos) :=
  match hy : stN ct y with
  | none => noS _
  | some i => if hc : isComp e = false then ⟨.own i (cK (ct := ct) r (owOf ct y).1 (owOf ct y).2 e).1.2 (cK (ct := ct) r (owOf ct y).1 (owOf ct y).2 e).1.1, ⟨fun {X bs} g => by
      obtain ⟨h1, h2, h3⟩ := stN_ok g hy
      exact s_own (ps_set g.nd h1 h2 ((cK (ct := ct) r (owOf ct y).1 (owOf ct y).2 e).2.pk g) (sw_no hc) h3)⟩⟩
    else noS _
/-- x = a dict comprehension, x no plain local -/
def cAsgDc (r : ∀ ct e, CE_ W ct e) (y : Str) (py : Pos) (kx vx : Expr) (gs : List Comprehension) (scope : Scope) (p2 pos : Pos) : CS_ W ct (.Assign [.Name y py] (.DictComp kx vx gs scope p2) pos) :=
  match hy : stN ct y with
  | none => noS _
  | some i => if hk : fnK ct.sc = true ∧ swB ct.sc y py scope p2 = false then ⟨.own i (cK (ct := ct) r (owOf ct y).1 (owOf ct y).2 (.DictComp kx vx gs scope p2)).1.2 (cK (ct := ct) r (owOf ct y).1 (owOf ct y).2 (.DictComp kx vx gs scope p2)).1.1, ⟨fun {X bs} g => by
      obtain ⟨h1, h2, h3⟩ := stN_ok g hy
      have hk' : X.env.scope.kind = .function := by rw [g.sc]; exact fnK_ok hk.1
      exact s_own (ps_set g.nd h1 h2 ((cK (ct := ct) r (owOf ct y).1 (owOf ct y).2 (.DictComp kx vx gs scope p2)).2.pk g) (sw_falseD hk' (by rw [g.sc]; exact hk.2)) h3)⟩⟩
    else noS _
/-- x, y = a, b -/
def cPar (r : ∀ ct e, CE_ W ct e) (x : Str) (px : Pos) (y : Str) (py : Pos) (kt : Nat) (pt : Pos) (a b : Expr) (k2 : Nat) (pt2 pos : Pos) : CS_ W ct (.Assign [.Tuple [.Name x px, .Name y py] kt pt] (.Tuple [a, b] k2 pt2) pos) :=
  match hx : stN ct x, hy : stN ct y with
  | some i, some j =>
    if h : fnK ct.sc = true ∧ isStar a = false ∧ isStar b = false ∧ i ≠ j then
      if h2 : locB ct.sc x = true ∧ locB ct.sc y = true then
        if h3 : (py.line == px.line) = true ∧ (x == y) = false ∧ (foldedForSure 8 a && foldedForSure 8 b) = false ∧ (constantsAlone 8 a && constantsAlone 8 b) = false then
          ⟨.par [(i, (cK (ct := ct) r (owOf ct x).1 (owOf ct x).2 a).1.2), (j, (cK (ct := ct) r (owOf ct y).1 (owOf ct y).2 b).1.2)] (.cons (cK (ct := ct) r (owOf ct x).1 (owOf ct x).2 a).1.1 (.cons (cK (ct := ct) r (owOf ct y).1 (owOf ct y).2 b).1.1 .nil)), ⟨fun {X bs} g => by
            obtain ⟨h1, _, _⟩ := stN_ok g hx
            obtain ⟨h4, _, _⟩ := stN_ok g hy
            have hk : X.env.scope.kind = .function := by rw [g.sc]; exact fnK_ok h.1
            have lx : X.env.scope.names.lookup x = some .local := by rw [g.sc]; exact nk_eq h2.1
            have ly : X.env.scope.names.lookup y = some .local := by rw [g.sc]; exact nk_eq h2.2
            refine ps_weak (s_par2 (bs := bs) (ps_par g.calm g.nd h1 h4 h.2.2.2 lx ly (pa_cons ((cK (ct := ct) r (owOf ct x).1 (owOf ct x).2 a).2.pk g) (pa_cons ((cK (ct := ct) r (owOf ct y).1 (owOf ct y).2 b).2.pk g) pa_nil (star_cons _ _ h.2.2.1)) (star_cons _ _ h.2.1)) (sst2 hk h.2.1 h.2.2.1 h3.1 h3.2.1 h3.2.2.1 h3.2.2.2 lx ly) sws_tup)) fun E σ H hh => ?_
            obtain ⟨env, S, γ, Z, f, p⟩ := hh
            refine ⟨env, S, γ, Z, f, ?_⟩
            simp only [ex, evs, M.bind_assoc, M.ret_bind] at p
            exact p⟩⟩
        else noS _
      else
        ⟨.par [(i, (cK (ct := ct) r (owOf ct x).1 (owOf ct x).2 a).1.2), (j, (cK (ct := ct) r (owOf ct y).1 (owOf ct y).2 b).1.2)] (.cons (cK (ct := ct) r (owOf ct x).1 (owOf ct x).2 a).1.1 (.cons (cK (ct := ct) r (owOf ct y).1 (owOf ct y).2 b).1.1 .nil)), ⟨fun {X bs} g => by
            have hk : X.env.scope.kind = .function := by rw [g.sc]; exact fnK_ok h.1
            have hl : (X.env.kindOf x == some .local && X.env.kindOf y == some .local) = false := by
              show (locB X.env.scope x && locB X.env.scope y) = false
              rw [g.sc]
              cases e1 : locB ct.sc x with
              | false => rfl
              | true => cases e2 : locB ct.sc y with
                | false => rfl
                | true => exact absurd ⟨e1, e2⟩ h2
            obtain ⟨q1, q2, q3⟩ := nmTs_ok (es := [.Name x px, .Name y py]) (l := [i, j]) g (by simp only [nmTs, nmT, hx, hy]; rfl)
            refine ps_weak (s_parT (bs := bs) (ps_asg (pe_tup (pa_cons ((cK (ct := ct) r (owOf ct x).1 (owOf ct x).2 a).2.pk g) (pa_cons ((cK (ct := ct) r (owOf ct y).1 (owOf ct y).2 b).2.pk g) pa_nil (star_cons _ _ h.2.2.1)) (star_cons _ _ h.2.1))) (pg_tup g.calm q1 q2 q3) sws_tup (sst2n hk hl) rfl)) fun E σ H hh => ?_
            obtain ⟨env, S, γ, Z, f, p⟩ := hh
            refine ⟨env, S, γ, Z, f, ?_⟩
            simp only [ex, evs, M.bind_assoc, M.ret_bind] at p
            exact p⟩⟩
    else noS _
  | _, _ => noS _
/-- places = e -/
def cAsgPl (r : ∀ ct e, CE_ W ct e) (tg e : Expr) (pos : Pos) : CS_ W ct (.Assign [tg] e pos) := match tg with
  | .Subscript o i p => match cLv (r ct) (.Subscript o i p) with
    | some ⟨l, hl⟩ => ⟨.lv l (r ct e).1, ⟨fun {X bs} g => by
        obtain ⟨gt, h1, h2⟩ := hl.ex (bs := bs) g
        exact s_lv h2 (ps_asg ((r ct e).2.pe g) h1 sws_sub sst_sub rfl)⟩⟩
    | none => noS _
  | .Tuple es k p => if ht : isTupE e = false then match h : nmTs ct es with
      | some l => ⟨.asg (.tp l) (.pure (r ct e).1), ⟨fun {X bs} g => by
          obtain ⟨q1, q2, q3⟩ := nmTs_ok g h
          exact s_tgtF (tg_tup l) (ps_asg (f_pure ((r ct e).2.pe g)) (pg_tup g.calm q1 q2 q3) sws_tup (sst_no ht) rfl)⟩⟩
      | none => match cLvs (r ct) es with
        | some ⟨ls, hls⟩ => ⟨.lvs ls (r ct e).1, ⟨fun {X bs} g => by
            obtain ⟨gs, h1, h2, h3, h4⟩ := hls.ex (bs := bs) g
            exact s_lvs h2 (ps_asg ((r ct e).2.pe g) (pg_tup g.calm h1 h3 h4) sws_tup (sst_no ht) rfl)⟩⟩
        | none => noS _
    else noS _
  | _ => noS _
def asLc : (e : Expr) → Option { q : Expr × Expr × Expr × List Expr × Scope × Pos // e = .ListComp q.1 [⟨q.2.1, q.2.2.1, q.2.2.2.1, 0⟩] q.2.2.2.2.1 q.2.2.2.2.2 }
  | .ListComp elt [⟨tgE, iter, ifs, 0⟩] scope p2 => some ⟨(elt, tgE, iter, ifs, scope, p2), rfl⟩
  | _ => none
def asDc : (e : Expr) → Option { q : Expr × Expr × List Comprehension × Scope × Pos // e = .DictComp q.1 q.2.1 q.2.2.1 q.2.2.2.1 q.2.2.2.2 }
  | .DictComp kx vx gs scope p2 => some ⟨(kx, vx, gs, scope, p2), rfl⟩
  | _ => none
def asNm2 : (e : Expr) → Option { q : Str × Pos × Str × Pos × Nat × Pos // e = .Tuple [.Name q.1 q.2.1, .Name q.2.2.1 q.2.2.2.1] q.2.2.2.2.1 q.2.2.2.2.2 }
  | .Tuple [.Name x px, .Name y py] kt pt => some ⟨(x, px, y, py, kt, pt), rfl⟩
  | _ => none
def asTup2 : (e : Expr) → Option { q : Expr × Expr × Nat × Pos // e = .Tuple [q.1, q.2.1] q.2.2.1 q.2.2.2 }
  | .Tuple [a, b] kt pt => some ⟨(a, b, kt, pt), rfl⟩
  | _ => none
def cAsgN (r : ∀ ct e, CE_ W ct e) (y : Str) (py : Pos) (e : Expr) (pos : Pos) : CS_ W ct (.Assign [.Name y py] e pos) := match asLc e with
  | some ⟨q, h⟩ => ⟨(cAsgLc (ct := ct) r y py q.1 q.2.1 q.2.2.1 q.2.2.2.1 q.2.2.2.2.1 q.2.2.2.2.2 pos).1, by rw [h]; exact (cAsgLc (ct := ct) r y py q.1 q.2.1 q.2.2.1 q.2.2.2.1 q.2.2.2.2.1 q.2.2.2.2.2 pos).2⟩
  | none => match asDc e with
    | some ⟨q, h⟩ => ⟨(cAsgDc (ct := ct) r y py q.1 q.2.1 q.2.2.1 q.2.2.2.1 q.2.2.2.2 pos).1, by rw [h]; exact (cAsgDc (ct := ct) r y py q.1 q.2.1 q.2.2.1 q.2.2.2.1 q.2.2.2.2 pos).2⟩
    | none => cAsgNm r y py e pos
def cAsgT (r : ∀ ct e, CE_ W ct e) (tg e : Expr) (pos : Pos) : CS_ W ct (.Assign [tg] e pos) := match asNm2 tg, asTup2 e with
  | some ⟨q, h⟩, some ⟨v, h2⟩ => ⟨(cPar (ct := ct) r q.1 q.2.1 q.2.2.1 q.2.2.2.1 q.2.2.2.2.1 q.2.2.2.2.2 v.1 v.2.1 v.2.2.1 v.2.2.2 pos).1, by rw [h, h2]; exact (cPar (ct := ct) r q.1 q.2.1 q.2.2.1 q.2.2.2.1 q.2.2.2.2.1 q.2.2.2.2.2 v.1 v.2.1 v.2.2.1 v.2.2.2 pos).2⟩
  | _, _ => cAsgPl r tg e pos
def cAsg (r : ∀ ct e, CE_ W ct e) (tg e : Expr) (pos : Pos) : CS_ W ct (.Assign [tg] e pos) := match tg with
  | .Name y py => cAsgN r y py e pos
  | tg => cAsgT r tg e pos
def cAug (r : ∀ ct e, CE_ W ct e) (y : Str) (py : Pos) (op : Operator) (e : Expr) (pos : Pos) : CS_ W ct (.AugAssign (.Name y py) op e pos) :=
  match hy : stN ct y with
  | none => noS _
  | some i => match op with
    | .Add => ⟨.aug .add i (r ct e).1, ⟨fun {X bs} g => by
        obtain ⟨h1, h2, h3⟩ := stN_ok g hy
        exact s_augA (ps_aug g.nd h1 h2 ((r ct e).2.pe g) iop_augA h3)⟩⟩
    | .Mult => ⟨.aug .mul i (r ct e).1, ⟨fun {X bs} g => by
        obtain ⟨h1, h2, h3⟩ := stN_ok g hy
        exact s_augM (ps_aug g.nd h1 h2 ((r ct e).2.pe g) iop_mul h3)⟩⟩
    | _ => noS _
theorem few1 {e : Expr} {cpos : Pos} {env : PySem.Env} (h : isStar e = false) : ((backTo cpos (starEach [e] env)).all (fun x => !x.1) && (backToKw cpos (keywordEach [] env)).all (fun x => x.1.isSome)
      && decide ([e].length + ([] : List Keyword).length + (if ([] : List Keyword).isEmpty then 0 else 1) < 30)) = true := by
  rw [star_cons [] env h]; rfl
def cApp (r : ∀ ct e, CE_ W ct e) (y : Str) (py ap : Pos) (e : Expr) (cp pos : Pos) : CS_ W ct (.Expr (.Call (.Attribute (.Name y py) "append" ap) [e] [] cp) pos) :=
  match hy : lcl ct y with
  | none => noS _
  | some i => if h : (ap.endLine == cp.line) = true ∧ isStar e = false then ⟨.app i (.pure (r ct e).1), ⟨fun {X bs} g =>
      s_app (ps_expr (pe_bm PySem.F.plainAttrs_list PySem.F.slot_list_append PySem.F.type_list_append mt_append (lcl_ok g hy) (pa_cons (f_pure ((r ct e).2.pe g)) pa_nil (star_cons _ _ h.2)) rfl (few1 h.2) h.1 (star_cons _ _ h.2) rfl) rfl)⟩⟩ else noS _
def asApp : (e : Expr) → Option { q : Str × Pos × Pos × Expr × Pos // e = .Call (.Attribute (.Name q.1 q.2.1) "append" q.2.2.1) [q.2.2.2.1] [] q.2.2.2.2 }
  | .Call (.Attribute (.Name y py) m ap) [a] [] cp => if h : m = "append" then some ⟨(y, py, ap, a, cp), by rw [h]⟩ else none
  | _ => none
def cExp (r : ∀ ct e, CE_ W ct e) (e : Expr) (pos : Pos) : CS_ W ct (.Expr e pos) := match asApp e with
  | some ⟨q, h⟩ => ⟨(cApp (ct := ct) r q.1 q.2.1 q.2.2.1 q.2.2.2.1 q.2.2.2.2 pos).1, by rw [h]; exact (cApp (ct := ct) r q.1 q.2.1 q.2.2.1 q.2.2.2.1 q.2.2.2.2 pos).2⟩
  | none => if h : isComp e = false then ⟨.exp (r ct e).1, ⟨fun g => s_exp ((r ct e).2.pe g) (sw_no h)⟩⟩ else noS _
/-! ### which own containers a statement lets out -/
def occ : Nat → List Str → Expr → List Str
  | 0, _, _ => []
  | n + 1, own, e => match e with
    | .Name x _ => if own.contains x then [x] else []
    | .Subscript (.Name x p) i _ => (if isSlice i then occ n own (.Name x p) else []) ++ occ n own i
    | .Subscript a i _ => occ n own a ++ occ n own i
    | .Slice a b c _ => [a, b, c].flatMap fun o => match o with | some e => occ n own e | none => []
    | .Compare a [.In] [.Name _ _] _ => occ n own a
    | .Compare a [.NotIn] [.Name _ _] _ => occ n own a
    | .Compare a _ es _ => occ n own a ++ es.flatMap (occ n own)
    | .Call (.Attribute (.Name _ _) _ _) args _ _ => args.flatMap (occ n own)
    | .Call _ args kws _ => args.flatMap (occ n own) ++ kws.flatMap fun k => occ n own k.value
    | .BinOp a _ b _ => occ n own a ++ occ n own b
    | .UnaryOp _ a _ => occ n own a
    | .BoolOp _ es _ => es.flatMap (occ n own)
    | .IfExp a b c _ => occ n own a ++ (occ n own b ++ occ n own c)
    | .Tuple es _ _ => es.flatMap (occ n own)
    | .List es _ => es.flatMap (occ n own)
    | .Starred a _ => occ n own a
    | .Dict ks vs _ => (ks.flatMap fun o => match o with | some e => occ n own e | none => []) ++ vs.flatMap (occ n own)
    | .ListComp a gs _ _ => occ n own a ++ gs.flatMap fun g => occ n own g.iter ++ g.ifs.flatMap (occ n own)
    | .DictComp a b gs _ _ => occ n own a ++ (occ n own b ++ gs.flatMap fun g => occ n own g.iter ++ g.ifs.flatMap (occ n own))
    | _ => []
def topE : Stmt → Option Expr
  | .Return e _ => e
  | .Assign _ e _ => some e
  | .AugAssign _ _ e _ => some e
  | .Expr e _ => some e
  | .If e _ _ _ => some e
  | .For _ e _ _ _ => some e
  | _ => none
def escs (ct : Ct) (st : Stmt) : List Nat := match topE st with
  | some e => (occ 20 (ct.ow.map Prod.fst) e).eraseDups.filterMap (ixOf ct.N)
  | none => []
theorem S_cons {s : S} {ss : Ss} {st : Stmt} {rest : List Stmt} (h1 : SS W ct st s) (h2 : SSs W ct rest ss) : SSs W ct (st :: rest) (.cons s ss) := ⟨fun g => s_cons (h1.ps g) (h2.pss g)⟩
theorem S_fz {ss : Ss} {rest : List Stmt} (i : Nat) (h2 : SSs W ct rest ss) : SSs W ct rest (.cons (.fz i) ss) := ⟨fun g => ss_fz i (h2.pss g)⟩
def fzs {ss : List Stmt} (c : CSs_ W ct ss) : List Nat → CSs_ W ct ss
  | [] => c
  | i :: is => ⟨.cons (.fz i) (fzs c is).1, S_fz i (fzs c is).2⟩
def cSs (rs : ∀ st, CS_ W ct st) : (ss : List Stmt) → CSs_ W ct ss
  | [] => ⟨.nil, ⟨fun _ => s_nil⟩⟩
  | st :: rest => fzs ⟨.cons (rs st).1 (cSs rs rest).1, S_cons (rs st).2 (cSs rs rest).2⟩ (escs ct st)
def sRet (r : ∀ ct e, CE_ W ct e) (pos : Pos) : (o : Option Expr) → CS_ W ct (.Return o pos)
  | none => ⟨.retN, ⟨fun _ => s_retN⟩⟩
  | some e => ⟨.ret (r ct e).1, ⟨fun g => s_ret ((r ct e).2.pe g)⟩⟩
theorem ex_whl (cl : Cl) (c : E) (b : Ss) : ex cl (.whl c b) = whlT (mB (ev cl c)) (exs cl b) TURNS := by
  funext env
  rw [ex]
theorem S_whl {c : Expr} {body : List Stmt} {pos : Pos} {e : E} {b : Ss} (h1 : SE W ct c e) (h2 : SSs W ct body b) : SS W ct (.While c body [] pos) (.whl e b) := ⟨fun g => by
  rw [ex_whl]
  exact s_while g.passes (h1.pt g) (h2.pss g)⟩
def sWhl (r : ∀ ct e, CE_ W ct e) (rs : ∀ st, CS_ W ct st) (c : Expr) (body : List Stmt) (pos : Pos) : (o : List Stmt) → CS_ W ct (.While c body o pos)
  | [] => ⟨.whl (r ct c).1 (cSs rs body).1, S_whl (r ct c).2 (cSs rs body).2⟩
  | _ :: _ => noS _
def sFor (r : ∀ ct e, CE_ W ct e) (rs : ∀ st, CS_ W ct st) (tg iter : Expr) (body : List Stmt) (pos : Pos) : (o : List Stmt) → CS_ W ct (.For tg iter body o pos)
  | [] => match cTg (W := W) (ct := ct) tg with
    | some ⟨t, ht⟩ => if hs : isSet iter = false then ⟨.for_ t (cIt (r ct) tg iter).1 (cSs rs body).1, ⟨fun {X bs} g => by
        obtain ⟨gt, h1, h2⟩ := ht.ex
        exact s_for g.passes g.calm ((cIt (r ct) tg iter).2.pi g) (h1 g) (by rw [g.K, g.mg]; exact h2 bs) ((cSs rs body).2.pss g) (noFold hs _)⟩⟩ else noS _
    | none => noS _
  | _ :: _ => noS _
def sAsg (r : ∀ ct e, CE_ W ct e) (e : Expr) (pos : Pos) : (tgs : List Expr) → CS_ W ct (.Assign tgs e pos)
  | [tg] => cAsg r tg e pos
  | _ => noS _
def sAug (r : ∀ ct e, CE_ W ct e) (op : Operator) (e : Expr) (pos : Pos) : (t : Expr) → CS_ W ct (.AugAssign t op e pos)
  | .Name y py => cAug r y py op e pos
  | _ => noS _
def stepS (r : ∀ ct e, CE_ W ct e) (rs : ∀ st, CS_ W ct st) : (st : Stmt) → CS_ W ct st
  | .Return o pos => sRet r pos o
  | .Pass pos => ⟨.pas, ⟨fun _ => s_pass⟩⟩
  | .Break pos => ⟨.brk, ⟨fun _ => s_brk⟩⟩
  | .Continue pos => ⟨.cnt, ⟨fun _ => s_cnt⟩⟩
  | .If c a b pos => ⟨.ifs (r ct c).1 (cSs rs a).1 (cSs rs b).1, ⟨fun g => s_if ((r ct c).2.pt g) ((cSs rs a).2.pss g) ((cSs rs b).2.pss g)⟩⟩
  | .While c body o pos => sWhl r rs c body pos o
  | .For tg iter body o pos => sFor r rs tg iter body pos o
  | .Expr e pos => cExp r e pos
  | .Assign tgs e pos => sAsg r e pos tgs
  | .AugAssign t op e pos => sAug r op e pos t
  | _ => noS _
def compS (W : Wd) (ct : Ct) : Nat → (st : Stmt) → CS_ W ct st
  | 0, st => noS st
  | n + 1, st => stepS (comp W 40) (compS W ct n) st
/-- a def's body -/
def compB (W : Wd) (ct : Ct) (body : List Stmt) : CSs_ W ct body := cSs (compS W ct 20) body
end
end Q

set_option Elab.async false
set_option linter.all false
set_option autoImplicit false
set_option maxRecDepth 100000
set_option maxHeartbeats 1000000
/-! QCall: the defs of a text, by their codes. -/
namespace Q
open PySem PySem.Spec PyProof.Rows L2
/-- a def of the text -/
structure Fd where
  x : Str
  params : Arguments
  body : List Stmt
  scope : Scope
  N : List Str
  ps : List Str
  ow : List (Str × (Ow × Bool))
  code : Ss
def Fd.ct (d : Fd) (G : List (Str × Gv)) : Ct := ⟨d.N, d.scope, true, d.ow, G⟩
def Fd.fn (d : Fd) : Fn := ⟨d.ps.length, d.N.length, d.code⟩
def pgOf (fs : List Fd) : Prog := fs.map fun d => (d.x, d.fn)
theorem pg_mem : ∀ {fs : List Fd} {x : Str} {fn : Fn}, (pgOf fs).lookup x = some fn → ∃ d ∈ fs, d.x = x ∧ d.fn = fn
  | [], _, _, h => by cases h
  | d :: fs, x, fn, h => by
    simp only [pgOf, List.map_cons, List.lookup_cons] at h
    split at h
    · rename_i e
      cases h
      exact ⟨d, by simp, (by simpa using e : x = d.x).symm, rfl⟩
    · obtain ⟨d', h1, h2⟩ := pg_mem (fs := fs) h
      exact ⟨d', by simp [h1], h2⟩
section
variable {P : Program} {w : World} {K : PySem.W.Frag} {mg : Str → Option Value} {base : Heap} {G : List (Str × Gv)} {fs : List Fd}
/-- what a global name stands for, but for defs -/
def GOk0 (K : PySem.W.Frag) (mg : Str → Option Value) (x : Str) : Gv → Prop
  | .free => mg x = none
  | .int i => ∃ t, mg x = some (.int i t)
  | .str z => ∃ t, mg x = some (.str z t)
  | .tups xs => xs ≠ [] ∧ ∃ a, mg x = some (.ref a) ∧ KT K a xs
  | .fn => False
structure Txt (K : PySem.W.Frag) (mg : Str → Option Value) (G : List (Str × Gv)) (fs : List Fd) : Prop where
  fun_ : ∀ d ∈ fs, ∃ f fd, FunD K d.x d.x d.params d.body d.scope [] [] f fd ∧ mg d.x = some (.ref f) ∧ Binds K fd d.ps []
  sc : ∀ d ∈ fs, FnScope d.N d.ps d.scope
  look : ∀ d ∈ fs, (pgOf fs).lookup d.x = some d.fn
  code : ∀ d ∈ fs, ∀ W, (compB W (d.ct G) d.body).1 = d.code
  glob : ∀ x g, G.lookup x = some g → GOk0 K mg x g ∨ (g = .fn ∧ ∃ d ∈ fs, d.x = x)
theorem slot_env0 {nn : Nat} {ds : List D} {i : Nat} : (∀ d, slot (env0 nn ds) i = .val d → ds[i]? = some d) ∧ ∀ o, slot (env0 nn ds) i ≠ .own o := by
  unfold slot env0
  rw [List.getD_eq_getElem?_getD]
  by_cases h : i < ds.length
  · rw [List.getElem?_append_left (by simpa using h), List.getElem?_map, List.getElem?_eq_getElem h]
    refine ⟨fun d e => ?_, fun o e => ?_⟩
    · simp at e; rw [e]
    · simp at e
  · rw [List.getElem?_append_right (by simpa using h), List.getElem?_replicate]
    split
    · exact ⟨fun d e => by simp at e, fun o e => by simp at e⟩
    · exact ⟨fun d e => by simp at e, fun o e => by simp at e⟩
theorem fr_start {N : List Str} {vs : List V} {ds : List D} {γ : List Addr} {Z : Addr → Prop} {H : Hp} {S : Sto} (w : Ok K mg γ Z H S) (r : RpL K mg γ Z H vs ds) : Fr K mg ⟨γ, Z, H⟩ (L2.start N vs) (env0 N.length ds) γ Z H S := by
  refine ⟨w, .refl, ?_, fun i d e => ?_, fun _ => [], fun i o e => absurd e ((slot_env0).2 o), fun i o e => absurd e ((slot_env0).2 o), fun i o e => absurd e ((slot_env0).2 o), fun i j o p _ e _ => absurd e ((slot_env0).2 o)⟩
  · unfold env0 L2.start
    rw [List.length_append, List.length_append, List.length_map, List.length_map, List.length_replicate, List.length_replicate, r.len]
  · have h := (slot_env0).1 d e
    obtain ⟨v, h1, h2⟩ := r.get h
    refine ⟨v, ?_, h2⟩
    unfold L2.start
    have hl := (List.getElem?_eq_some_iff.mp h1).1
    rw [List.getElem?_append_left (by simpa using hl), List.getElem?_map, h1]
    rfl
/-- the facts of one def -/
structure At (K : PySem.W.Frag) (mg : Str → Option Value) (d : Fd) (f : Addr) (fd : FuncData) : Prop where
  F : FunD K d.x d.x d.params d.body d.scope [] [] f fd
  m : mg d.x = some (.ref f)
  b : Binds K fd d.ps []
theorem calls (T : Txt K mg G fs) : ∀ n, ∀ d ∈ fs, ∀ f fd, At K mg d f fd → FnOk P w K mg base CX0 n f fd d.ps (spC ⟨P, w, K, mg, base, n, callN (pgOf fs) n⟩ d.x) := by
  intro n
  induction n with
  | zero =>
    intro d hd f fd A
    have no : ∀ {vs H Q E}, ¬ spC ⟨P, w, K, mg, base, 0, callN (pgOf fs) 0⟩ d.x vs H Q E := fun ⟨_, _, _, _, _, _, h⟩ => h
    exact ⟨fun _ _ _ _ h => (no h).elim, fun _ _ _ _ _ _ _ _ _ _ _ _ _ h => (no h).elim⟩
  | succ n ih0 =>
    intro d hd f fd A
    obtain ⟨F, hm, hb⟩ := A
    have ih : ∀ d ∈ fs, FnQ ⟨P, w, K, mg, base, n, callN (pgOf fs) n⟩ d.x := fun d' hd' => by
      obtain ⟨f', fd', F', hm', hb'⟩ := T.fun_ d' hd'
      exact ⟨f', fd', d'.ps, ih0 d' hd' f' fd' ⟨F', hm', hb'⟩, hm', F'.kp, hb'⟩
    have look := T.look d hd
    have run : ∀ ds S, callN (pgOf fs) (n + 1) d.x ds S = runF (callN (pgOf fs) n) d.fn ds S := fun ds S => by
      simp only [callN, look]
    refine F.ok (T.sc d hd) (fun vs H Q E h => ?_) (fun cdv A outer s H vs Q E hr hsp => ?_)
    · obtain ⟨γ, Z, S, ds, _, r, h⟩ := h
      have h : (match callN (pgOf fs) (n + 1) d.x ds S with
        | .ok p => ∀ v H' γ' Z', Le γ Z H γ' Z' H' → Ok K mg γ' Z' H' p.2 → Rp K mg γ' Z' H' v p.1 → Q v H'
        | _ => False) := h
      rw [run] at h
      unfold runF at h
      rw [r.len]
      by_cases hl : ds.length = d.fn.np
      · exact hl
      · rw [if_neg hl] at h; exact h.elim
    · obtain ⟨γ, Z, S, ds, ok, r, h⟩ := hsp
      have h : (match callN (pgOf fs) (n + 1) d.x ds S with
        | .ok p => ∀ v H' γ' Z', Le γ Z H γ' Z' H' → Ok K mg γ' Z' H' p.2 → Rp K mg γ' Z' H' v p.1 → Q v H'
        | _ => False) := h
      rw [run] at h
      unfold runF at h
      have hl : ds.length = d.fn.np := by
        by_cases hl : ds.length = d.fn.np
        · exact hl
        · rw [if_neg hl] at h; exact h.elim
      rw [if_pos hl] at h
      have good : Good ⟨P, w, K, mg, base, n, callN (pgOf fs) n⟩ (d.ct G) (cxOf CX0 P w K mg base d.N d.x d.scope f cdv A outer s H E).nox :=
        ⟨rfl, rfl, rfl, rfl, rfl, rfl, (T.sc d hd).nd, rfl, rfl, rfl, hr, fun _ _ => rfl, fun x g hx => by
          rcases T.glob x g hx with z | ⟨rfl, d', hd', rfl⟩
          · cases g with
            | fn => exact z.elim
            | free => exact z
            | int i => exact z
            | str z' => exact z
            | tups xs => exact z
          · exact ih d' hd', fun y ys S' p e => by
          cases n with
          | zero => cases e
          | succ m =>
            have e : (match (pgOf fs).lookup y with
              | some fn => runF (callN (pgOf fs) m) fn ys
              | none => fun _ => Res.stuck) S' = .ok p := e
            cases hy : (pgOf fs).lookup y with
            | none => rw [hy] at e; cases e
            | some fn =>
              obtain ⟨d', hd', rfl, _⟩ := pg_mem hy
              exact ih d' hd'⟩
      have body := (compB ⟨P, w, K, mg, base, n, callN (pgOf fs) n⟩ (d.ct G) d.body).2.pss (bs := ⟨γ, Z, H⟩) good
      rw [T.code d hd] at body
      refine ⟨_, PSs.nox body, env0 d.N.length ds, S, γ, Z, fr_start ok r, ?_⟩
      show PstS K mg ⟨γ, Z, H⟩ noXq _ γ Z H (exs (callN (pgOf fs) n) d.code (env0 d.N.length ds) S)
      unfold M.bind at h
      cases e : exs (callN (pgOf fs) n) d.code (env0 d.N.length ds) S with
      | stuck =>
        have e' : exs (callN (pgOf fs) n) d.fn.body (env0 d.fn.nn ds) S = .stuck := e
        rw [e'] at h; exact h
      | exn c fx S' =>
        have e' : exs (callN (pgOf fs) n) d.fn.body (env0 d.fn.nn ds) S = .exn c fx S' := e
        rw [e'] at h; exact h.elim
      | ok q =>
        obtain ⟨o, S'⟩ := q
        have e' : exs (callN (pgOf fs) n) d.fn.body (env0 d.fn.nn ds) S = .ok (o, S') := e
        rw [e'] at h
        cases o with
        | nx env' => exact fun σ' H' γ' Z' l f' => h .non H' γ' Z' f'.le f'.ok .non
        | rt dd => exact fun v H' γ' Z' l w' rv => h v H' γ' Z' l w' rv
        | bk env' => exact h.elim
        | ct env' => exact h.elim
end
end Q

set_option Elab.async false
set_option linter.all false
set_option autoImplicit false
set_option maxRecDepth 100000
set_option maxHeartbeats 1000000
/-! QHead: what the head tells, and a law's end. -/
namespace Q
open PySem PySem.Spec PyProof.Rows L2
def dq (d : Fd) : He.DefD := ⟨(d.x, none), d.x, d.x, d.params, d.body, d.scope, [], []⟩
def obsQ (fa : List He.Fa) (fn : List He.DefD) (tb : List (Str × List Str)) (K : PySem.W.Frag) : He.AlD :=
  ((fa.all fun f => f.ok K) && (fn.all (fun d => d.ok K) && tb.all fun p => He.tupB K p.1 (p.2.map He.Dv.str)), fn.map fun d => He.fnW K d.at_)
def SaysQ (fa : List He.Fa) (fn : List He.DefD) (tb : List (Str × List Str)) (K : PySem.W.Frag) : Prop := obsQ fa fn tb K = He.valD fn
def obsQG (n : Nat) (fa : List He.Fa) (fn : List He.DefD) (tb : List (Str × List Str)) (g : Addr → Option Obj) : He.AlD := obsQ fa fn tb (He.frG g (He.asD g n))
def hookQ (n : Nat) (fa : List He.Fa) (fn : List He.DefD) (tb : List (Str × List Str)) : PySem.W.Hook where
  α := He.AlD
  obs := fun s => obsQG n fa fn tb s.heap.get?
  val := fun _ => He.valD fn
  says := fun _ h => ∃ K : PySem.W.Frag, K.In h ∧ SaysQ fa fn tb K
  of := fun _ _ e => ⟨_, He.frG_in, e⟩
  keeps := fun _ _ _ ⟨K, hK, c⟩ k => ⟨K, PySem.W.Frag.In.keeps hK k, c⟩
theorem obsQG_eq {n : Nat} {fa : List He.Fa} {fn : List He.DefD} {tb : List (Str × List Str)} {g : Addr → Option Obj} {s : Shared} (h : ∀ a, g a = s.heap.get? a) : obsQG n fa fn tb g = (hookQ n fa fn tb).obs s := by
  obtain rfl : g = s.heap.get? := funext h
  rfl
section
variable {fa : List He.Fa} {fn : List He.DefD} {tb : List (Str × List Str)} {K : PySem.W.Frag} {h : Heap} {mg : Str → Option Value}
theorem SaysQ.all (c : SaysQ fa fn tb K) : (∀ f ∈ fa, f.ok K = true) ∧ (∀ d ∈ fn, ∃ fd, FunD K d.name d.qual d.params d.body d.scope (d.dvs K) (d.kws K) (He.fAd K d.at_) fd) ∧ ∀ p ∈ tb, He.tupB K p.1 (p.2.map He.Dv.str) = true := by
  have c1 : ((fa.all fun f => f.ok K) && (fn.all (fun d => d.ok K) && tb.all fun p => He.tupB K p.1 (p.2.map He.Dv.str))) = true := congrArg (fun z : He.AlD => z.1) c
  have c2 : fn.map (fun d => He.fnW K d.at_) = fn.map He.DefD.val := congrArg (fun z : He.AlD => z.2) c
  simp only [Bool.and_eq_true, List.all_eq_true] at c1
  refine ⟨c1.1, fun d hd => ?_, c1.2.2⟩
  have e : He.fnW K d.at_ = d.val := by
    have := List.map_inj_left.mp c2 d hd
    exact this
  exact He.DefD.funD e (c1.2.1 d hd)
theorem kt_of {x : Str} {xs : List Str} (e : He.tupB K x (xs.map He.Dv.str) = true) : KT K (He.ga K x) xs := by
  have t := He.tupB_ok e (fun _ => none)
  have ev : (xs.map He.Dv.str).map (He.Dv.v K) = xs.map V.str := by rw [List.map_map]; rfl
  rw [ev] at t
  rcases t with (t | ⟨_, t⟩) | t
  · cases t
  · cases t
  · exact t
def isGlo (x : Str) : He.Fa → Bool
  | .glo y => y == x
  | _ => false
def isFree (x : Str) : He.Fa → Bool
  | .free y => y == x
  | _ => false
def isIntF (x : Str) (i : Int) : He.Fa → Bool
  | .int y j => y == x && decide (j = i)
  | _ => false
def isStrF (x z : Str) : He.Fa → Bool
  | .str y u => y == x && u == z
  | _ => false
theorem glo_in (c : ∀ f ∈ fa, f.ok K = true) (X : K.In h) (G : h.Ns mainGlobals mg) {x : Str} (e : fa.any (isGlo x) = true) : mg x = some (.ref (He.ga K x)) := by
  obtain ⟨f, hf, e⟩ := List.any_eq_true.mp e
  cases f <;> first | (simp [isGlo] at e; done) | skip
  rename_i y
  have : y = x := by simpa [isGlo] using e
  subst this
  exact He.glo_ok X G (c _ hf)
theorem free_in (c : ∀ f ∈ fa, f.ok K = true) (X : K.In h) (G : h.Ns mainGlobals mg) {x : Str} (e : fa.any (isFree x) = true) : mg x = none := by
  obtain ⟨f, hf, e⟩ := List.any_eq_true.mp e
  cases f <;> first | (simp [isFree] at e; done) | skip
  rename_i y
  have : y = x := by simpa [isFree] using e
  subst this
  exact He.free_ok X G (c _ hf)
theorem int_in (c : ∀ f ∈ fa, f.ok K = true) (X : K.In h) (G : h.Ns mainGlobals mg) {x : Str} {i : Int} (e : fa.any (isIntF x i) = true) : ∃ t, mg x = some (.int i t) := by
  obtain ⟨f, hf, e⟩ := List.any_eq_true.mp e
  cases f <;> first | (simp [isIntF] at e; done) | skip
  rename_i y j
  obtain ⟨rfl, rfl⟩ : y = x ∧ j = i := by simpa [isIntF] using e
  exact He.int_ok X G (c _ hf)
theorem str_in (c : ∀ f ∈ fa, f.ok K = true) (X : K.In h) (G : h.Ns mainGlobals mg) {x z : Str} (e : fa.any (isStrF x z) = true) : ∃ t, mg x = some (.str z t) := by
  obtain ⟨f, hf, e⟩ := List.any_eq_true.mp e
  cases f <;> first | (simp [isStrF] at e; done) | skip
  rename_i y u
  obtain ⟨rfl, rfl⟩ : y = x ∧ u = z := by simpa [isStrF] using e
  exact He.str_ok X G (c _ hf)
/-- each global name's meaning is told by the head -/
def chkG (fa : List He.Fa) (tb : List (Str × List Str)) (fs : List Fd) : List (Str × Gv) → Bool
  | [] => true
  | (x, g) :: r => (match g with
    | .free => fa.any (isFree x)
    | .int i => fa.any (isIntF x i)
    | .str z => fa.any (isStrF x z)
    | .tups xs => fa.any (isGlo x) && (!xs.isEmpty && tb.any fun p => p.1 == x && p.2 == xs)
    | .fn => fs.any fun d => d.x == x) && chkG fa tb fs r
theorem chkG_ok {fs : List Fd} (c : SaysQ fa fn tb K) (X : K.In h) (N : h.Ns mainGlobals mg) : ∀ {G : List (Str × Gv)}, chkG fa tb fs G = true → ∀ x g, G.lookup x = some g → GOk0 K mg x g ∨ (g = .fn ∧ ∃ d ∈ fs, d.x = x)
  | [], _, x, g, e => by cases e
  | (y, v) :: r, hc, x, g, e => by
    obtain ⟨c1, c2, c3⟩ := c.all
    simp only [chkG, Bool.and_eq_true] at hc
    rw [List.lookup_cons] at e
    split at e
    · rename_i exy
      have : x = y := by simpa using exy
      subst this
      cases e
      have h1 := hc.1
      cases v with
      | free => exact .inl (free_in c1 X N h1)
      | int i => exact .inl (int_in c1 X N h1)
      | str z => exact .inl (str_in c1 X N h1)
      | tups xs =>
        simp only [Bool.and_eq_true] at h1
        obtain ⟨p, hp, e⟩ := List.any_eq_true.mp h1.2.2
        obtain ⟨p1, p2⟩ := p
        obtain ⟨rfl, rfl⟩ : p1 = x ∧ p2 = xs := by simpa using e
        exact .inl ⟨by simpa using h1.2.1, _, glo_in c1 X N h1.1, kt_of (c3 _ hp)⟩
      | fn =>
        obtain ⟨d, hd, e⟩ := List.any_eq_true.mp h1
        exact .inr ⟨rfl, d, hd, by simpa using e⟩
    · exact chkG_ok c X N hc.2 x g e
/-- the arguments of a def are bound one by one -/
def BindsP (d : Fd) : Prop := ∀ (kV doc pm : Value) (an : Option Addr) (cdv ct : Value) (us : List Value), us.length = d.ps.length → bindArgs (PySem.W.fnOf d.x d.x d.params d.body d.scope .none kV doc pm an cdv ct) ⟨us, []⟩ = pure (d.ps.zip us)
theorem ats_of {fs : List Fd} (c : SaysQ fa (fs.map dq) tb K) (X : K.In h) (N : h.Ns mainGlobals mg) (hg : (fs.all fun d => fa.any (isGlo d.x)) = true) (hb : ∀ d ∈ fs, BindsP d) : ∀ d ∈ fs, ∃ fd, At K mg d (He.ga K d.x) fd := by
  obtain ⟨c1, c2, c3⟩ := c.all
  intro d hd
  obtain ⟨fd, F⟩ := c2 (dq d) (List.mem_map_of_mem hd)
  have F : FunD K d.x d.x d.params d.body d.scope [] [] (He.ga K d.x) fd := F
  exact ⟨fd, F, glo_in c1 X N (List.all_eq_true.mp hg d hd), F.bindsN (hb d hd)⟩
theorem txt_of {fs : List Fd} {G : List (Str × Gv)} (c : SaysQ fa (fs.map dq) tb K) (X : K.In h) (N : h.Ns mainGlobals mg) (hg : (fs.all fun d => fa.any (isGlo d.x)) = true) (hb : ∀ d ∈ fs, BindsP d) (hG : chkG fa tb fs G = true)
    (hs : ∀ d ∈ fs, FnScope d.N d.ps d.scope) (hl : ∀ d ∈ fs, (pgOf fs).lookup d.x = some d.fn) (hc : ∀ d ∈ fs, ∀ W, (compB W (d.ct G) d.body).1 = d.code) : Txt K mg G fs where
  fun_ := fun d hd => by
    obtain ⟨fd, A⟩ := ats_of c X N hg hb d hd
    exact ⟨_, fd, A.F, A.m, A.b⟩
  sc := hs
  look := hl
  code := hc
  glob := chkG_ok c X N hG
theorem At.same {d : Fd} {f g : Addr} {fd : FuncData} (A : At K mg d f fd) (e : mg d.x = some (.ref g)) : f = g := by
  have e := A.m.symm.trans e
  simpa using e
theorem call_rt {pg : Prog} {n : Nat} {x : Str} {fn : Fn} {ds : List D} {S S' : Sto} {d : D} (look : pg.lookup x = some fn) (hl : ds.length = fn.np) (e : exs (callN pg n) fn.body (env0 fn.nn ds) S = .ok (.rt d, S')) : callN pg (n + 1) x ds S = .ok (d, S') := by
  simp only [callN, look, runF, if_pos hl, M.bind, e]
  rfl
theorem law_sp {P : Program} {w : World} {base : Heap} {n : Nat} {cl : Cl} {x : Str} {H : Hp} {a : Addr} {ns : List Int} (hn : ns.length ≤ 63) (hS : SqL K H a (ns.map V.int)) (hl : ∃ S', cl x [.scr (ns.map .int)] [] = .ok (.bl true, S')) :
    spC ⟨P, w, K, mg, base, n, cl⟩ x [.ref a] H (fun v _ => v = .bl true) fun _ _ _ => False := by
  obtain ⟨S', e⟩ := hl
  have ri : ∀ (Z : Addr → Prop) (ns : List Int), RpL K mg [] Z H (ns.map V.int) (ns.map D.int) := fun Z ns => by
    induction ns with
    | nil => exact .nil
    | cons i ns ih => exact .cons (.int i) ih
  have hlen : (ns.map D.int).length ≤ LIM := by rw [List.length_map]; exact Nat.le_trans hn (by decide)
  have fin : ∀ Z, Ok K mg [] Z H [] → Rp K mg [] Z H (.ref a) (.scr (ns.map .int)) → spC ⟨P, w, K, mg, base, n, cl⟩ x [.ref a] H (fun v _ => v = .bl true) fun _ _ _ => False := fun Z ok r => by
    refine ⟨[], Z, [], [.scr (ns.map .int)], ok, .cons r .nil, ?_⟩
    show (match cl x [.scr (ns.map .int)] [] with
      | .ok p => ∀ v H' γ' Z', Le [] Z H γ' Z' H' → Ok K mg γ' Z' H' p.2 → Rp K mg γ' Z' H' v p.1 → v = .bl true
      | _ => False)
    rw [e]
    intro v H' γ' Z' _ _ rv
    cases rv
    rfl
  have ok0 : ∀ Z : Addr → Prop, (∀ b, Z b → ∃ o, H b = some o) → Ok K mg [] Z H [] := fun Z hz => ⟨rfl, List.nodup_nil, fun _ m => by simp at m, hz, fun i b c e1 _ => by simp at e1⟩
  rcases hS with hS | hS
  · refine fin (fun b => b = a) (ok0 _ fun b e => ?_) (.scr rfl hS hlen (ri _ ns))
    subst e
    rcases hS with q | ⟨o, q⟩
    · exact ⟨_, q⟩
    · exact ⟨_, q⟩
  · exact fin (fun _ => False) (ok0 _ fun _ z => z.elim) (.scrK hS hlen (ri _ ns))
end
end Q

set_option Elab.async false
set_option linter.all false
set_option maxRecDepth 100000
namespace C
open PySem Q
def c_is_integer : Ss := (.cons (.ret (.and (.pr (.isi ["int"]) (.cons (.loc 0) .nil)) (.and (.not (.pr (.isi ["bool"]) (.cons (.loc 0) .nil))) (.chn .le .le (.loc 1) (.loc 0) (.loc 2))))) .nil)
def c_is_table : Ss := (.cons (.ifs (.or (.not (.pr (.isi ["tuple"]) (.cons (.loc 0) .nil))) (.cmp .ne (.pr .len (.cons (.loc 0) .nil)) (.loc 1))) (.cons (.ret (.lit (.bl false))) .nil) .nil) (.cons (.for_ (.nm 5) (.seq (.loc 0)) (.cons (.ifs (.or (.not (.pr (.isi ["tuple"]) (.cons (.loc 5) .nil))) (.or (.cmp .ne (.pr .len (.cons (.loc 5) .nil)) (.loc 2)) (.not (.pr .all (.cons (.lc (.cal "is_integer" (.cons (.loc 6) (.cons (.loc 3) (.cons (.loc 4) .nil)))) (.nm 6) (.seq (.loc 5)) .no) .nil))))) (.cons (.ret (.lit (.bl false))) .nil) .nil) .nil)) (.cons (.ret (.lit (.bl true))) .nil)))
def c_are_wishes : Ss := (.cons (.ifs (.or (.not (.pr (.isi ["tuple"]) (.cons (.loc 0) .nil))) (.cmp .ne (.pr .len (.cons (.loc 0) .nil)) (.loc 2))) (.cons (.ret (.lit (.bl false))) .nil) .nil) (.cons (.for_ (.nm 3) (.seq (.loc 0)) (.cons (.ifs (.or (.not (.pr (.isi ["tuple"]) (.cons (.loc 3) .nil))) (.not (.pr .all (.cons (.lc (.cal "is_integer" (.cons (.loc 4) (.cons (.lit (.int 0)) (.cons (.bin .sub (.loc 1) (.lit (.int 1))) .nil)))) (.nm 4) (.seq (.loc 3)) .no) .nil)))) (.cons (.ret (.lit (.bl false))) .nil) .nil) (.cons (.ifs (.not (.pr .all (.cons (.lc (.cmp .lt (.loc 4) (.loc 5)) (.tp [4, 5]) (.zip (.loc 3) (.slc (.loc 3) (.yes (.lit (.int 1))) .no)) .no) .nil))) (.cons (.ret (.lit (.bl false))) .nil) .nil) .nil))) (.cons (.ret (.lit (.bl true))) .nil)))
def c_sizes_of : Ss := (.cons (.ifs (.or (.not (.pr (.isi ["tuple"]) (.cons (.loc 0) .nil))) (.not (.chn .le .le (.lit (.int 1)) (.pr .len (.cons (.loc 0) .nil)) (.lit (.int 8))))) (.cons (.ret (.tup (.cons (.lit (.int 0)) (.cons (.lit (.int 0)) .nil)))) .nil) .nil) (.cons (.ifs (.or (.not (.pr (.isi ["tuple"]) (.cons (.ix (.loc 0) (.lit (.int 0))) .nil))) (.not (.chn .le .le (.lit (.int 1)) (.pr .len (.cons (.ix (.loc 0) (.lit (.int 0))) .nil)) (.lit (.int 5))))) (.cons (.ret (.tup (.cons (.lit (.int 0)) (.cons (.lit (.int 0)) .nil)))) .nil) .nil) (.cons (.ret (.tup (.cons (.pr .len (.cons (.loc 0) .nil)) (.cons (.pr .len (.cons (.ix (.loc 0) (.lit (.int 0))) .nil)) .nil)))) .nil)))
def c_wrong_place : Ss := (.cons (.ifs (.or (.not (.pr (.isi ["tuple"]) (.cons (.loc 0) .nil))) (.cmp .ne (.pr .len (.cons (.loc 0) .nil)) (.lit (.int 7)))) (.cons (.ret (.tup .nil)) .nil) .nil) (.cons (.asg (.tp [2, 3]) (.pure (.cal "sizes_of" (.cons (.ix (.loc 0) (.lit (.int 0))) .nil)))) (.cons (.ifs (.cmp .eq (.loc 2) (.lit (.int 0))) (.cons (.ret (.tup (.cons (.lit (.int 0)) .nil))) .nil) .nil) (.cons (.own 1 .lst (.lst (.cons (.cal "is_table" (.cons (.ix (.loc 0) (.lit (.int 0))) (.cons (.loc 2) (.cons (.loc 3) (.cons (.lit (.int 0)) (.cons (.bin .sub (.loc 2) (.lit (.int 1))) .nil)))))) (.cons (.cal "is_table" (.cons (.ix (.loc 0) (.lit (.int 1))) (.cons (.loc 2) (.cons (.loc 3) (.cons (.lit (.int 0)) (.cons (.lit (.int 9)) .nil)))))) .nil)))) (.cons (.aug .add 1 (.lc (.cal "is_table" (.cons (.loc 4) (.cons (.loc 3) (.cons (.loc 3) (.cons (.lit (.int (-1))) (.cons (.bin .sub (.loc 3) (.lit (.int 1))) .nil)))))) (.nm 4) (.seq (.slc (.loc 0) (.yes (.lit (.int 2))) (.yes (.lit (.int 4))))) .no)) (.cons (.app 1 (.pure (.cal "is_table" (.cons (.ix (.loc 0) (.lit (.int 4))) (.cons (.loc 2) (.cons (.loc 3) (.cons (.lit (.int (-1))) (.cons (.bin .sub (.loc 3) (.lit (.int 1))) .nil)))))))) (.cons (.aug .add 1 (.lst (.cons (.cal "are_wishes" (.cons (.ix (.loc 0) (.lit (.int 5))) (.cons (.loc 2) (.cons (.loc 3) .nil)))) (.cons (.cal "is_integer" (.cons (.ix (.loc 0) (.lit (.int 6))) (.cons (.lit (.int 0)) (.cons (.bin .sub (.loc 2) (.lit (.int 1))) .nil)))) .nil)))) (.cons (.ret (.ite (.cmp .isin (.lit (.bl false)) (.bor 1)) (.tup (.cons .bad .nil)) (.lit .non))) .nil))))))))
def c_need_book : Ss := (.cons (.own 1 .val (.cal "wrong_place" (.cons (.loc 0) .nil))) (.cons (.ifs (.cmp .nsN (.loc 1) (.lit .non)) (.cons .bad .nil) .nil) (.cons (.ret (.loc 0)) .nil)))
def c_kinds_of : Ss := (.cons (.ret (.rng (.lit (.int 0)) (.pr .len (.cons (.ix (.loc 0) (.lit (.int 2))) .nil)))) .nil)
def c_is_kind : Ss := (.cons (.ret (.cal "is_integer" (.cons (.loc 1) (.cons (.lit (.int 0)) (.cons (.bin .sub (.pr .len (.cons (.ix (.loc 0) (.lit (.int 2))) .nil)) (.lit (.int 1))) .nil))))) .nil)
def c_is_deed : Ss := (.cons (.ret (.cal "is_integer" (.cons (.loc 1) (.cons (.lit (.int (-1))) (.cons (.bin .sub (.pr .len (.cons (.ix (.loc 0) (.lit (.int 2))) .nil)) (.lit (.int 1))) .nil))))) .nil)
def c_is_state : Ss := (.cons (.ret (.cal "is_integer" (.cons (.loc 1) (.cons (.lit (.int 0)) (.cons (.bin .sub (.pr .len (.cons (.ix (.loc 0) (.lit (.int 0))) .nil)) (.lit (.int 1))) .nil))))) .nil)
def c_need_state : Ss := (.cons (.ifs (.not (.cal "is_state" (.cons (.loc 0) (.cons (.loc 1) .nil)))) (.cons .bad .nil) .nil) .nil)
def c_need_kind : Ss := (.cons (.ifs (.not (.cal "is_kind" (.cons (.loc 0) (.cons (.loc 1) .nil)))) (.cons .bad .nil) .nil) .nil)
def c_done_at : Ss := (.cons (.ret (.ite (.cmp .eq (.loc 2) (.lit (.int (-1)))) (.loc 1) (.ix (.ix (.ix (.loc 0) (.lit (.int 0))) (.loc 1)) (.loc 2)))) .nil)
def c_all_done : Ss := (.cons (.for_ (.nm 3) (.seq (.loc 2)) (.cons (.own 1 .val (.cal "done_at" (.cons (.loc 0) (.cons (.loc 1) (.cons (.loc 3) .nil))))) .nil)) (.cons (.ret (.loc 1)) .nil))
def c_rows_in : Ss := (.cons (.par [(1, .dct), (2, .val)] (.cons (.dsing false (.ix (.loc 0) (.lit (.int 6))) (.tup .nil)) (.cons (.lst (.cons (.ix (.loc 0) (.lit (.int 6))) .nil)) .nil))) (.cons (.whl (.cmp .ne (.loc 2) (.lst .nil)) (.cons (.own 3 .lst (.lst .nil)) (.cons (.for_ (.nm 4) (.seq (.loc 2)) (.cons (.for_ (.nm 5) (.seq (.cal "kinds_of" (.cons (.loc 0) .nil))) (.cons (.own 6 .val (.ix (.ix (.ix (.loc 0) (.lit (.int 0))) (.loc 4)) (.loc 5))) (.cons (.ifs (.cmp .notin (.loc 6) (.bor 1)) (.cons (.lv (.ix1 1 (.loc 6)) (.tup (.star (.ix (.bor 1) (.loc 4)) (.cons (.loc 5) .nil)))) (.cons (.app 3 (.pure (.loc 6))) .nil)) .nil) .nil))) .nil)) (.cons (.fz 3) (.cons (.own 2 .val (.loc 3)) .nil))))) (.cons (.fz 1) (.cons (.ret (.loc 1)) .nil))))
def c_closings_in : Ss := (.cons (.own 4 .lst (.lst .nil)) (.cons (.for_ (.nm 5) (.rng2 (.lit (.int (-1))) (.pr .len (.cons (.ix (.loc 0) (.lit (.int 2))) .nil))) (.cons (.for_ (.nm 6) (.rng2 (.lit (.int (-1))) (.pr .len (.cons (.ix (.loc 0) (.lit (.int 2))) .nil))) (.cons (.own 7 .val (.lit (.bl true))) (.cons (.for_ (.nm 8) (.seq (.loc 1)) (.cons (.own 9 .val (.cal "done_at" (.cons (.loc 0) (.cons (.ix (.ix (.ix (.loc 0) (.lit (.int 0))) (.loc 8)) (.loc 2)) (.cons (.loc 5) .nil))))) (.cons (.own 7 .val (.and (.loc 7) (.cmp .eq (.loc 9) (.cal "done_at" (.cons (.loc 0) (.cons (.ix (.ix (.ix (.loc 0) (.lit (.int 0))) (.loc 8)) (.loc 3)) (.cons (.loc 6) .nil))))))) .nil))) (.cons (.ifs (.loc 7) (.cons (.app 4 (.pure (.tup (.cons (.loc 5) (.cons (.loc 6) .nil))))) .nil) .nil) .nil)))) .nil)) (.cons (.fz 4) (.cons (.ret (.loc 4)) .nil))))
def c_closings : Ss := (.cons (.exp (.cal "need_book" (.cons (.loc 0) .nil))) (.cons (.exp (.cal "need_kind" (.cons (.loc 0) (.cons (.loc 1) .nil)))) (.cons (.exp (.cal "need_kind" (.cons (.loc 0) (.cons (.loc 2) .nil)))) (.cons (.ret (.pr .tuple (.cons (.cal "closings_in" (.cons (.loc 0) (.cons (.pr .list (.cons (.cal "rows_in" (.cons (.loc 0) .nil)) .nil)) (.cons (.loc 1) (.cons (.loc 2) .nil))))) .nil))) .nil))))
def c_closed_books : Ss := (.cons (.par [(2, .val), (3, .val)] (.cons (.pr .list (.cons (.cal "rows_in" (.cons (.cal "need_book" (.cons (.loc 0) .nil)) .nil)) .nil)) (.cons (.lit (.int 1)) .nil))) (.cons (.for_ (.nm 1) (.seq (.cal "kinds_of" (.cons (.loc 0) .nil))) (.cons (.for_ (.nm 4) (.seq (.cal "kinds_of" (.cons (.loc 0) .nil))) (.cons (.aug .mul 3 (.pr .len (.cons (.cal "closings_in" (.cons (.loc 0) (.cons (.loc 2) (.cons (.loc 1) (.cons (.loc 4) .nil))))) .nil))) .nil)) .nil)) (.cons (.ret (.loc 3)) .nil)))
def c_unlike_entries : Ss := (.cons (.ret (.bin .add (.pr .int (.cons (.cmp .ne (.ix (.loc 0) (.lit (.int 0))) (.ix (.loc 1) (.lit (.int 0)))) .nil)) (.pr .int (.cons (.cmp .ne (.ix (.loc 0) (.lit (.int 1))) (.ix (.loc 1) (.lit (.int 1)))) .nil)))) .nil)
def c_mended : Ss := (.cons (.own 1 .val (.pr .list (.cons (.cal "rows_in" (.cons (.cal "need_book" (.cons (.loc 0) .nil)) .nil)) .nil))) (.cons (.par [(4, .l2), (5, .l2)] (.cons (.lc (.pr .list (.cons (.loc 9) .nil)) (.nm 9) (.seq (.ix (.loc 0) (.lit (.int 2)))) .no) (.cons (.lc (.pr .list (.cons (.loc 9) .nil)) (.nm 9) (.seq (.ix (.loc 0) (.lit (.int 3)))) .no) .nil))) (.cons (.for_ (.nm 2) (.seq (.cal "kinds_of" (.cons (.loc 0) .nil))) (.cons (.for_ (.nm 6) (.seq (.cal "kinds_of" (.cons (.loc 0) .nil))) (.cons (.own 7 .val (.tup (.cons (.ix (.ix (.ix (.loc 0) (.lit (.int 2))) (.loc 6)) (.loc 2)) (.cons (.ix (.ix (.ix (.loc 0) (.lit (.int 3))) (.loc 2)) (.loc 6)) .nil)))) (.cons (.own 8 .val (.lc (.tup (.cons (.cal "unlike_entries" (.cons (.loc 10) (.cons (.loc 7) .nil))) (.cons (.loc 10) .nil))) (.nm 10) (.seq (.cal "closings_in" (.cons (.loc 0) (.cons (.loc 1) (.cons (.loc 2) (.cons (.loc 6) .nil)))))) .no)) (.cons (.ifs (.cmp .eq (.loc 8) (.lst .nil)) (.cons (.ret (.lit .non)) .nil) .nil) (.cons (.lvs [(.ix2 4 (.loc 6) (.loc 2)), (.ix2 5 (.loc 2) (.loc 6))] (.ix (.pr .minl (.cons (.loc 8) .nil)) (.lit (.int 1)))) .nil))))) .nil)) (.cons (.fz 4) (.cons (.fz 5) (.cons (.own 3 .val (.tup (.cons (.pr .tuple (.cons (.lc (.pr .tuple (.cons (.loc 9) .nil)) (.nm 9) (.seq (.loc 4)) .no) .nil)) (.cons (.pr .tuple (.cons (.lc (.pr .tuple (.cons (.loc 9) .nil)) (.nm 9) (.seq (.loc 5)) .no) .nil)) .nil)))) (.cons (.ret (.bin .add (.bin .add (.slc (.loc 0) .no (.yes (.lit (.int 2)))) (.loc 3)) (.slc (.loc 0) (.yes (.lit (.int 4))) .no))) .nil)))))))
def c_changes : Ss := (.cons (.exp (.cal "need_book" (.cons (.loc 0) .nil))) (.cons (.exp (.cal "need_book" (.cons (.loc 1) .nil))) (.cons (.ifs (.cmp .ne (.bin .add (.slc (.loc 0) .no (.yes (.lit (.int 2)))) (.slc (.loc 0) (.yes (.lit (.int 4))) .no)) (.bin .add (.slc (.loc 1) .no (.yes (.lit (.int 2)))) (.slc (.loc 1) (.yes (.lit (.int 4))) .no))) (.cons .bad .nil) .nil) (.cons (.own 2 .val (.lit (.int 0))) (.cons (.for_ (.tp [3, 4]) (.zip (.bin .add (.ix (.loc 0) (.lit (.int 2))) (.ix (.loc 0) (.lit (.int 3)))) (.bin .add (.ix (.loc 1) (.lit (.int 2))) (.ix (.loc 1) (.lit (.int 3))))) (.cons (.aug .add 2 (.pr .len (.cons (.lc (.loc 5) (.tp [5, 6]) (.zip (.loc 3) (.loc 4)) (.yes (.cmp .ne (.loc 5) (.loc 6)))) .nil))) .nil)) (.cons (.ret (.loc 2)) .nil))))))
def c_late_past : Ss := (.cons (.ret (.ite (.cmp .isin (.lit (.int (-1))) (.tup (.cons (.loc 1) (.cons (.loc 2) .nil)))) (.loc 1) (.ix (.ix (.ix (.loc 0) (.lit (.int 2))) (.loc 1)) (.loc 2)))) .nil)
def c_does_close : Ss := (.cons (.own 4 .val (.cal "done_at" (.cons (.loc 0) (.cons (.ix (.ix (.ix (.loc 0) (.lit (.int 0))) (.loc 1)) (.loc 2)) (.cons (.ix (.ix (.ix (.loc 0) (.lit (.int 2))) (.loc 3)) (.loc 2)) .nil))))) (.cons (.ret (.cmp .eq (.loc 4) (.cal "done_at" (.cons (.loc 0) (.cons (.ix (.ix (.ix (.loc 0) (.lit (.int 0))) (.loc 1)) (.loc 3)) (.cons (.ix (.ix (.ix (.loc 0) (.lit (.int 3))) (.loc 2)) (.loc 3)) .nil)))))) .nil))
def c_open_in : Ss := (.cons (.par [(3, .val), (4, .lst)] (.cons (.cal "kinds_of" (.cons (.loc 0) .nil)) (.cons (.lst .nil) .nil))) (.cons (.for_ (.nm 2) (.seq (.pr .sorted (.cons (.pr .list (.cons (.loc 1) .nil)) .nil))) (.cons (.for_ (.nm 5) (.seq (.loc 3)) (.cons (.aug .add 4 (.lc (.tup (.cons (.loc 2) (.cons (.loc 5) (.cons (.loc 6) .nil)))) (.nm 6) (.seq (.loc 3)) (.yes (.not (.cal "does_close" (.cons (.loc 0) (.cons (.loc 2) (.cons (.loc 5) (.cons (.loc 6) .nil))))))))) .nil)) .nil)) (.cons (.fz 4) (.cons (.ret (.loc 4)) .nil))))
def c_open_squares : Ss := (.cons (.ret (.pr .tuple (.cons (.cal "open_in" (.cons (.cal "need_book" (.cons (.loc 0) .nil)) (.cons (.cal "rows_in" (.cons (.loc 0) .nil)) .nil))) .nil))) .nil)
def c_need_closed : Ss := (.cons (.ifs (.cmp .ne (.cal "open_in" (.cons (.loc 0) (.cons (.cal "rows_in" (.cons (.loc 0) .nil)) .nil))) (.lst .nil)) (.cons .bad .nil) .nil) .nil)
def c_need_asked : Ss := (.cons (.exp (.cal "need_book" (.cons (.loc 0) .nil))) (.cons (.ifs (.or (.not (.pr (.isi ["str"]) (.cons (.loc 1) .nil))) (.cmp .notin (.loc 1) (.lit (.tup [(.str "alike"), (.str "backs"), (.str "answers"), (.str "stays"), (.str "wishes")])))) (.cons .bad .nil) .nil) (.cons (.ifs (.cmp .notin (.loc 1) (.tup (.cons (.lit (.str "alike")) (.cons (.lit (.str "backs")) .nil)))) (.cons (.exp (.cal "need_closed" (.cons (.loc 0) .nil))) .nil) .nil) .nil)))
def c_fate_rows : Ss := (.cons (.own 3 .val (.tup (.cons (.loc 1) (.cons (.loc 2) .nil)))) (.cons (.par [(4, .dct), (5, .val)] (.cons (.dsing true (.loc 3) (.tup .nil)) (.cons (.lst (.cons (.loc 3) .nil)) .nil))) (.cons (.whl (.cmp .ne (.loc 5) (.lst .nil)) (.cons (.own 6 .lst (.lst .nil)) (.cons (.for_ (.nm 7) (.seq (.loc 5)) (.cons (.for_ (.nm 8) (.seq (.cal "kinds_of" (.cons (.loc 0) .nil))) (.cons (.own 9 .val (.tup (.cons (.ix (.ix (.ix (.loc 0) (.lit (.int 0))) (.ix (.loc 7) (.lit (.int 0)))) (.loc 8)) (.cons (.cal "late_past" (.cons (.loc 0) (.cons (.ix (.loc 7) (.lit (.int 1))) (.cons (.loc 8) .nil)))) .nil)))) (.cons (.ifs (.cmp .notin (.loc 9) (.bor 4)) (.cons (.lv (.ix1 4 (.loc 9)) (.tup (.star (.ix (.bor 4) (.loc 7)) (.cons (.loc 8) .nil)))) (.cons (.app 6 (.pure (.loc 9))) .nil)) .nil) .nil))) .nil)) (.cons (.fz 6) (.cons (.own 5 .val (.loc 6)) .nil))))) (.cons (.fz 4) (.cons (.ret (.loc 4)) .nil)))))
def c_fate : Ss := (.cons (.exp (.cal "need_book" (.cons (.loc 0) .nil))) (.cons (.exp (.cal "need_state" (.cons (.loc 0) (.cons (.loc 1) .nil)))) (.cons (.exp (.cal "need_kind" (.cons (.loc 0) (.cons (.loc 2) .nil)))) (.cons (.ret (.pr .tuple (.cons (.pr .sorted (.cons (.pr .list (.cons (.cal "fate_rows" (.cons (.loc 0) (.cons (.loc 1) (.cons (.loc 2) .nil)))) .nil)) .nil)) .nil))) .nil))))
def c_is_as_told : Ss := (.cons (.asg (.tp [6, 7]) (.pure (.loc 4))) (.cons (.ifs (.cmp .eq (.loc 1) (.lit (.str "stays"))) (.cons (.ret (.cmp .ne (.loc 7) (.lit (.int (-1))))) .nil) .nil) (.cons (.ifs (.cmp .eq (.loc 1) (.lit (.str "answers"))) (.cons (.ret (.or (.cmp .eq (.loc 7) (.lit (.int (-1)))) (.cmp .eq (.ix (.ix (.ix (.loc 0) (.lit (.int 1))) (.loc 6)) (.loc 7)) (.ix (.ix (.ix (.loc 0) (.lit (.int 1))) (.loc 2)) (.loc 3))))) .nil) .nil) (.cons (.own 5 .val (.ix (.ix (.loc 0) (.lit (.int 5))) (.loc 3))) (.cons (.ret (.or (.cmp .notin (.ix (.ix (.ix (.loc 0) (.lit (.int 0))) (.loc 2)) (.loc 3)) (.loc 5)) (.cmp .isin (.cal "done_at" (.cons (.loc 0) (.cons (.loc 6) (.cons (.loc 7) .nil)))) (.loc 5)))) .nil)))))
def c_goes_back : Ss := (.cons (.own 3 .val (.ix (.ix (.ix (.loc 0) (.lit (.int 4))) (.loc 1)) (.loc 2))) (.cons (.ret (.or (.cmp .eq (.loc 3) (.lit (.int (-1)))) (.cmp .eq (.ix (.ix (.ix (.loc 0) (.lit (.int 0))) (.ix (.ix (.ix (.loc 0) (.lit (.int 0))) (.loc 1)) (.loc 2))) (.loc 3)) (.loc 1)))) .nil))
def c_rests_that_break : Ss := (.cons (.ifs (.cmp .eq (.loc 1) (.lit (.str "alike"))) (.cons (.ret (.lc (.tup (.cons (.loc 6) .nil)) (.nm 6) (.seq (.cal "kinds_of" (.cons (.loc 0) .nil))) (.yes (.not (.cal "does_close" (.cons (.loc 0) (.cons (.loc 2) (.cons (.loc 6) (.cons (.loc 3) .nil))))))))) .nil) .nil) (.cons (.ifs (.cmp .eq (.loc 1) (.lit (.str "backs"))) (.cons (.ret (.ite (.cal "goes_back" (.cons (.loc 0) (.cons (.loc 2) (.cons (.loc 3) .nil)))) (.lst .nil) (.lst (.cons (.tup .nil) .nil)))) .nil) .nil) (.cons (.own 4 .val (.cal "fate_rows" (.cons (.loc 0) (.cons (.loc 2) (.cons (.loc 3) .nil))))) (.cons (.ret (.lc (.ix (.loc 4) (.loc 5)) (.nm 5) (.seq (.loc 4)) (.yes (.not (.cal "is_as_told" (.cons (.loc 0) (.cons (.loc 1) (.cons (.loc 2) (.cons (.loc 3) (.cons (.loc 5) .nil)))))))))) .nil))))
def c_breaks_in : Ss := (.cons (.par [(3, .val), (4, .lst)] (.cons (.cal "rows_in" (.cons (.loc 0) .nil)) (.cons (.lst .nil) .nil))) (.cons (.for_ (.nm 2) (.seq (.loc 3)) (.cons (.for_ (.nm 5) (.seq (.cal "kinds_of" (.cons (.loc 0) .nil))) (.cons (.aug .add 4 (.lc (.tup (.cons (.ix (.loc 3) (.loc 2)) (.cons (.loc 5) (.cons (.loc 6) .nil)))) (.nm 6) (.seq (.slc (.cal "rests_that_break" (.cons (.loc 0) (.cons (.loc 1) (.cons (.loc 2) (.cons (.loc 5) .nil))))) .no (.yes (.lit (.int 1))))) .no)) .nil)) .nil)) (.cons (.fz 4) (.cons (.ret (.loc 4)) .nil))))
def c_size_of : Ss := (.cons (.ret (.bin .add (.pr .len (.cons (.ix (.loc 0) (.lit (.int 0))) .nil)) (.pr .len (.cons (.ix (.loc 0) (.lit (.int 2))) .nil)))) .nil)
def c_least_break : Ss := (.cons (.own 2 .val (.cal "breaks_in" (.cons (.loc 0) (.cons (.loc 1) .nil)))) (.cons (.own 3 .val (.mind (.lc (.cal "size_of" (.cons (.loc 4) .nil)) (.nm 4) (.seq (.loc 2)) .no) (.lit (.int 0)))) (.cons (.ret (.ite (.cmp .ne (.loc 2) (.lst .nil)) (.ix (.lc (.loc 4) (.nm 4) (.seq (.loc 2)) (.yes (.cmp .eq (.cal "size_of" (.cons (.loc 4) .nil)) (.loc 3)))) (.lit (.int 0))) (.lit .non))) .nil)))
def c_keeps : Ss := (.cons (.exp (.cal "need_asked" (.cons (.loc 0) (.cons (.loc 1) .nil)))) (.cons (.ret (.cmp .isN (.cal "least_break" (.cons (.loc 0) (.cons (.loc 1) .nil))) (.lit .non))) .nil))
def c_breaking : Ss := (.cons (.exp (.cal "need_asked" (.cons (.loc 0) (.cons (.loc 1) .nil)))) (.cons (.ret (.cal "least_break" (.cons (.loc 0) (.cons (.loc 1) .nil)))) .nil))
def c_are_kinds : Ss := (.cons (.ret (.and (.pr (.isi ["tuple"]) (.cons (.loc 1) .nil)) (.pr .all (.cons (.lc (.cal "is_kind" (.cons (.loc 0) (.cons (.loc 2) .nil))) (.nm 2) (.seq (.loc 1)) .no) .nil)))) .nil)
def c_does_break : Ss := (.cons (.ifs (.or (.not (.pr (.isi ["tuple"]) (.cons (.loc 2) .nil))) (.or (.cmp .ne (.pr .len (.cons (.loc 2) .nil)) (.lit (.int 3))) (.not (.cal "is_kind" (.cons (.loc 0) (.cons (.ix (.loc 2) (.lit (.int 1))) .nil)))))) (.cons (.ret (.lit (.bl false))) .nil) .nil) (.cons (.asg (.tp [6, 7, 8]) (.pure (.loc 2))) (.cons (.ifs (.or (.not (.cal "are_kinds" (.cons (.loc 0) (.cons (.loc 6) .nil)))) (.not (.cal "are_kinds" (.cons (.loc 0) (.cons (.loc 8) .nil))))) (.cons (.ret (.lit (.bl false))) .nil) .nil) (.cons (.own 3 .val (.cal "all_done" (.cons (.loc 0) (.cons (.ix (.loc 0) (.lit (.int 6))) (.cons (.loc 6) .nil))))) (.cons (.ifs (.cmp .eq (.loc 1) (.lit (.str "alike"))) (.cons (.ret (.and (.cmp .eq (.pr .len (.cons (.loc 8) .nil)) (.lit (.int 1))) (.not (.cal "does_close" (.cons (.loc 0) (.cons (.loc 3) (.cons (.ix (.loc 8) (.lit (.int 0))) (.cons (.loc 7) .nil)))))))) .nil) .nil) (.cons (.ifs (.cmp .eq (.loc 1) (.lit (.str "backs"))) (.cons (.ret (.and (.cmp .eq (.loc 8) (.tup .nil)) (.not (.cal "goes_back" (.cons (.loc 0) (.cons (.loc 3) (.cons (.loc 7) .nil))))))) .nil) .nil) (.cons (.own 4 .val (.tup (.cons (.loc 3) (.cons (.loc 7) .nil)))) (.cons (.for_ (.nm 5) (.seq (.loc 8)) (.cons (.own 4 .val (.tup (.cons (.ix (.ix (.ix (.loc 0) (.lit (.int 0))) (.ix (.loc 4) (.lit (.int 0)))) (.loc 5)) (.cons (.cal "late_past" (.cons (.loc 0) (.cons (.ix (.loc 4) (.lit (.int 1))) (.cons (.loc 5) .nil)))) .nil)))) .nil)) (.cons (.ret (.not (.cal "is_as_told" (.cons (.loc 0) (.cons (.loc 1) (.cons (.loc 3) (.cons (.loc 7) (.cons (.loc 4) .nil)))))))) .nil)))))))))
def c_are_states : Ss := (.cons (.ifs (.or (.not (.pr .all (.cons (.lc (.cal "is_state" (.cons (.loc 0) (.cons (.loc 3) .nil))) (.nm 3) (.seq (.loc 2)) .no) .nil))) (.cmp .notin (.ix (.loc 0) (.lit (.int 6))) (.loc 2))) (.cons (.ret (.lit (.bl false))) .nil) .nil) (.cons (.for_ (.nm 3) (.seq (.loc 2)) (.cons (.ifs (.not (.pr .all (.cons (.lc (.cmp .isin (.ix (.ix (.ix (.loc 0) (.lit (.int 0))) (.loc 3)) (.loc 4)) (.loc 2)) (.nm 4) (.seq (.cal "kinds_of" (.cons (.loc 0) .nil))) .no) .nil))) (.cons (.ret (.lit (.bl false))) .nil) .nil) .nil)) (.cons (.ifs (.cmp .eq (.loc 1) (.lit (.str "alike"))) (.cons (.ret (.cmp .eq (.cal "open_in" (.cons (.loc 0) (.cons (.loc 2) .nil))) (.lst .nil))) .nil) .nil) (.cons (.ret (.pr .all (.cons .bad .nil))) .nil))))
def c_is_row : Ss := (.cons (.ifs (.or (.not (.pr (.isi ["tuple"]) (.cons (.loc 1) .nil))) (.or (.cmp .ne (.pr .len (.cons (.loc 1) .nil)) (.lit (.int 4))) (.or (.not (.cal "is_state" (.cons (.loc 0) (.cons (.ix (.loc 1) (.lit (.int 0))) .nil)))) (.not (.cal "is_kind" (.cons (.loc 0) (.cons (.ix (.loc 1) (.lit (.int 1))) .nil))))))) (.cons (.ret (.lit (.bl false))) .nil) .nil) (.cons (.ret (.and (.cal "is_state" (.cons (.loc 0) (.cons (.ix (.loc 1) (.lit (.int 2))) .nil))) (.cal "is_deed" (.cons (.loc 0) (.cons (.ix (.loc 1) (.lit (.int 3))) .nil))))) .nil))
def c_are_fates : Ss := (.cons (.ifs (.not (.pr .all (.cons (.lc (.cal "is_row" (.cons (.loc 0) (.cons (.loc 11) .nil))) (.nm 11) (.seq (.loc 2)) .no) .nil))) (.cons (.ret (.lit (.bl false))) .nil) .nil) (.cons (.own 3 .dct (.dc true (.loc 11) (.lit (.bl true)) (.nm 11) (.seq (.loc 2)))) (.cons (.own 4 .lst (.lc (.tup (.cons (.ix (.loc 0) (.lit (.int 6))) (.cons (.loc 6) (.cons (.ix (.loc 0) (.lit (.int 6))) (.cons (.loc 6) .nil))))) (.nm 6) (.seq (.cal "kinds_of" (.cons (.loc 0) .nil))) .no)) (.cons (.for_ (.tp [5, 6, 7, 8]) (.seq (.loc 2)) (.cons (.ifs (.not (.cal "is_as_told" (.cons (.loc 0) (.cons (.loc 1) (.cons (.loc 5) (.cons (.loc 6) (.cons (.tup (.cons (.loc 7) (.cons (.loc 8) .nil))) .nil))))))) (.cons (.ret (.lit (.bl false))) .nil) .nil) (.cons (.own 9 .val (.ix (.ix (.ix (.loc 0) (.lit (.int 0))) (.loc 5)) (.loc 6))) (.cons (.for_ (.nm 10) (.seq (.cal "kinds_of" (.cons (.loc 0) .nil))) (.cons (.aug .add 4 (.lst (.cons (.tup (.cons (.loc 9) (.cons (.loc 10) (.cons (.loc 9) (.cons (.loc 10) .nil))))) (.cons (.tup (.cons (.loc 5) (.cons (.loc 6) (.cons (.ix (.ix (.ix (.loc 0) (.lit (.int 0))) (.loc 7)) (.loc 10)) (.cons (.cal "late_past" (.cons (.loc 0) (.cons (.loc 8) (.cons (.loc 10) .nil)))) .nil))))) .nil)))) .nil)) .nil)))) (.cons (.fz 4) (.cons (.ret (.pr .all (.cons (.lc (.cmp .isin (.loc 11) (.bor 3)) (.nm 11) (.seq (.loc 4)) .no) .nil))) .nil))))))
def c_does_hold : Ss := (.cons (.own 3 .val (.ite (.cmp .isin (.loc 1) (.tup (.cons (.lit (.str "alike")) (.cons (.lit (.str "backs")) .nil)))) (.lit (.fn "are_states")) (.lit (.fn "are_fates")))) (.cons (.ret (.and (.calv 3 (.cons (.loc 0) (.cons (.loc 1) (.cons (.loc 2) .nil)))) (.pr .all (.cons (.lc (.cmp .lt (.loc 4) (.loc 5)) (.tp [4, 5]) (.zip (.loc 2) (.slc (.loc 2) (.yes (.lit (.int 1))) .no)) .no) .nil)))) .nil))
def c_need_form : Ss := (.cons (.ifs (.or (.not (.pr (.isi ["tuple"]) (.cons (.loc 0) .nil))) (.or (.cmp .eq (.loc 0) (.tup .nil)) (.not (.pr (.isi ["str"]) (.cons (.ix (.loc 0) (.lit (.int 0))) .nil))))) (.cons .bad .nil) .nil) (.cons (.ifs (.cmp .eq (.ix (.loc 0) (.lit (.int 0))) (.lit (.str "holds"))) (.cons (.ifs (.or (.cmp .ne (.pr .len (.cons (.loc 0) .nil)) (.lit (.int 2))) (.not (.pr (.isi ["tuple"]) (.cons (.ix (.loc 0) (.lit (.int 1))) .nil)))) (.cons .bad .nil) .nil) .nil) (.cons (.ifs (.or (.cmp .ne (.ix (.loc 0) (.lit (.int 0))) (.lit (.str "breaks"))) (.cmp .ne (.pr .len (.cons (.loc 0) .nil)) (.lit (.int 4)))) (.cons .bad .nil) .nil) .nil)) .nil))
def c_check : Ss := (.cons (.exp (.cal "need_asked" (.cons (.loc 0) (.cons (.loc 1) .nil)))) (.cons (.exp (.cal "need_form" (.cons (.loc 2) .nil))) (.cons (.ifs (.cmp .eq (.ix (.loc 2) (.lit (.int 0))) (.lit (.str "holds"))) (.cons (.own 3 .val (.cal "does_hold" (.cons (.loc 0) (.cons (.loc 1) (.cons (.ix (.loc 2) (.lit (.int 1))) .nil))))) .nil) (.cons (.own 3 .val (.cal "does_break" (.cons (.loc 0) (.cons (.loc 1) (.cons (.slc (.loc 2) (.yes (.lit (.int 1))) .no) .nil))))) .nil)) (.cons (.ifs (.not (.loc 3)) (.cons .bad .nil) .nil) (.cons (.ret (.ix (.loc 2) (.lit (.int 0)))) .nil)))))
def c__law_kept : Ss := (.cons (.ret (.lc (.cal "keeps" (.cons (.loc 0) (.cons (.loc 1) .nil))) (.nm 1) (.seq (.tup (.cons (.lit (.str "alike")) (.cons (.lit (.str "backs")) (.cons (.lit (.str "answers")) (.cons (.lit (.str "stays")) (.cons (.lit (.str "wishes")) .nil))))))) .no)) .nil)
def c__law_turns : Ss := (.cons (.own 0 .val (.tup (.cons (.tup (.cons (.lit (.int 1)) (.cons (.lit (.int 3)) .nil))) (.cons (.tup (.cons (.lit (.int 2)) (.cons (.lit (.int 0)) .nil))) (.cons (.tup (.cons (.lit (.int 3)) (.cons (.lit (.int 1)) .nil))) (.cons (.tup (.cons (.lit (.int 0)) (.cons (.lit (.int 2)) .nil))) .nil)))))) (.cons (.own 1 .val (.tup (.cons (.tup (.cons (.lit (.int 1)) (.cons (.lit (.int 3)) .nil))) (.cons (.tup (.cons (.lit (.int 2)) (.cons (.lit (.int 0)) .nil))) (.cons (.tup (.cons (.lit (.int 3)) (.cons (.lit (.int 1)) .nil))) (.cons (.tup (.cons (.lit (.int 0)) (.cons (.lit (.int 2)) .nil))) .nil)))))) (.cons (.own 2 .val (.tup (.cons (.tup (.cons (.lit (.int 1)) (.cons (.lit (.int 0)) .nil))) (.cons (.tup (.cons (.lit (.int 1)) (.cons (.lit (.int 0)) .nil))) (.cons (.tup (.cons (.lit (.int 1)) (.cons (.lit (.int 0)) .nil))) (.cons (.tup (.cons (.lit (.int 1)) (.cons (.lit (.int 0)) .nil))) .nil)))))) (.cons (.ret (.tup (.cons (.loc 0) (.cons (.loc 1) (.cons (.tup (.cons (.tup (.cons (.lit (.int 0)) (.cons (.lit (.int 0)) .nil))) (.cons (.tup (.cons (.lit (.int 1)) (.cons (.lit (.int 1)) .nil))) .nil))) (.cons (.tup (.cons (.tup (.cons (.lit (.int 0)) (.cons (.lit (.int 0)) .nil))) (.cons (.tup (.cons (.lit (.int 1)) (.cons (.lit (.int 1)) .nil))) .nil))) (.cons (.loc 2) (.cons (.tup (.cons (.tup .nil) (.cons (.tup .nil) .nil))) (.cons (.lit (.int 0)) .nil))))))))) .nil))))
def c__law_switch : Ss := (.cons (.own 2 .val (.tup (.cons (.tup (.cons (.neg (.lit (.int 1))) (.cons (.lit (.int 0)) .nil))) (.cons (.tup (.cons (.lit (.int 1)) (.cons (.neg (.lit (.int 1))) .nil))) .nil)))) (.cons (.ret (.tup (.cons (.tup (.cons (.tup (.cons (.lit (.int 0)) (.cons (.lit (.int 1)) .nil))) (.cons (.tup (.cons (.lit (.int 0)) (.cons (.lit (.int 1)) .nil))) .nil))) (.cons (.tup (.cons (.tup (.cons (.lit (.int 0)) (.cons (.lit (.int 0)) .nil))) (.cons (.tup (.cons (.lit (.int 0)) (.cons (.lit (.int 0)) .nil))) .nil))) (.cons (.loc 0) (.cons (.loc 1) (.cons (.loc 2) (.cons (.tup (.cons (.tup (.cons (.lit (.int 0)) .nil)) (.cons (.tup (.cons (.lit (.int 1)) .nil)) .nil))) (.cons (.lit (.int 0)) .nil))))))))) .nil))
def c__law_five : Ss := (.cons (.own 0 .val (.bin .add (.pr .tuple (.cons (.lc (.pr .tuple (.cons (.bin .mul (.lst (.cons (.loc 3) .nil)) (.lit (.int 5))) .nil)) (.nm 3) (.rng1 (.lit (.int 4))) .no) .nil)) (.tup (.cons (.tup (.cons (.neg (.lit (.int 1))) (.cons (.lit (.int 4)) (.cons (.lit (.int 4)) (.cons (.lit (.int 4)) (.cons (.lit (.int 4)) .nil)))))) .nil)))) (.cons (.own 1 .val (.pr .tuple (.cons (.lc (.pr .tuple (.cons (.bin .mul (.lst (.cons (.loc 3) .nil)) (.lit (.int 5))) .nil)) (.nm 3) (.rng1 (.lit (.int 5))) .no) .nil))) (.cons (.own 2 .val (.tup (.cons (.tup (.cons (.lit (.int 1)) (.cons (.lit (.int 0)) (.cons (.lit (.int 0)) (.cons (.lit (.int 0)) (.cons (.lit (.int 0)) .nil)))))) (.cons (.tup (.cons (.lit (.int 1)) (.cons (.lit (.int 1)) (.cons (.lit (.int 1)) (.cons (.lit (.int 1)) (.cons (.lit (.int 1)) .nil)))))) .nil)))) (.cons (.ret (.tup (.cons (.loc 2) (.cons (.bin .mul (.tup (.cons (.bin .mul (.tup (.cons (.lit (.int 0)) .nil)) (.lit (.int 5))) .nil)) (.lit (.int 2))) (.cons (.loc 0) (.cons (.loc 1) (.cons (.bin .mul (.tup (.cons (.bin .mul (.tup (.cons (.neg (.lit (.int 1))) .nil)) (.lit (.int 5))) .nil)) (.lit (.int 2))) (.cons (.bin .mul (.tup (.cons (.tup .nil) .nil)) (.lit (.int 5))) (.cons (.lit (.int 0)) .nil))))))))) .nil))))
def c__law_far_right : Ss := (.cons (.own 0 .val (.tup (.cons (.bin .mul (.tup (.cons (.lit (.int 0)) .nil)) (.lit (.int 4))) (.cons (.bin .mul (.tup (.cons (.lit (.int 1)) .nil)) (.lit (.int 4))) (.cons (.bin .mul (.tup (.cons (.lit (.int 2)) .nil)) (.lit (.int 4))) (.cons (.bin .mul (.tup (.cons (.lit (.int 3)) .nil)) (.lit (.int 4))) .nil)))))) (.cons (.own 1 .val (.tup (.cons (.tup (.cons (.lit (.int 1)) (.cons (.lit (.int 0)) (.cons (.lit (.int 0)) (.cons (.lit (.int 0)) .nil))))) (.cons (.tup (.cons (.lit (.int 2)) (.cons (.lit (.int 1)) (.cons (.lit (.int 1)) (.cons (.lit (.int 1)) .nil))))) (.cons (.tup (.cons (.lit (.int 3)) (.cons (.lit (.int 2)) (.cons (.lit (.int 2)) (.cons (.lit (.int 2)) .nil))))) (.cons (.tup (.cons (.lit (.int 3)) (.cons (.lit (.int 3)) (.cons (.lit (.int 3)) (.cons (.lit (.int 3)) .nil))))) .nil)))))) (.cons (.own 2 .val (.tup (.cons (.tup (.cons (.lit (.int 0)) (.cons (.lit (.int 0)) (.cons (.lit (.int 0)) (.cons (.lit (.int 0)) .nil))))) (.cons (.tup (.cons (.lit (.int 0)) (.cons (.lit (.int 1)) (.cons (.lit (.int 0)) (.cons (.lit (.int 0)) .nil))))) (.cons (.tup (.cons (.lit (.int 0)) (.cons (.lit (.int 0)) (.cons (.lit (.int 0)) (.cons (.lit (.int 0)) .nil))))) (.cons (.tup (.cons (.lit (.int 0)) (.cons (.lit (.int 0)) (.cons (.lit (.int 0)) (.cons (.lit (.int 5)) .nil))))) .nil)))))) (.cons (.own 3 .val (.tup (.cons (.tup (.cons (.lit (.int 0)) (.cons (.lit (.int 0)) (.cons (.lit (.int 0)) (.cons (.lit (.int 0)) .nil))))) (.cons (.tup (.cons (.lit (.int 2)) (.cons (.lit (.int 1)) (.cons (.lit (.int 1)) (.cons (.lit (.int 1)) .nil))))) (.cons (.tup (.cons (.lit (.int 3)) (.cons (.lit (.int 2)) (.cons (.lit (.int 2)) (.cons (.lit (.int 2)) .nil))))) (.cons (.tup (.cons (.lit (.int 3)) (.cons (.lit (.int 3)) (.cons (.lit (.int 3)) (.cons (.lit (.int 3)) .nil))))) .nil)))))) (.cons (.own 4 .val (.tup (.cons (.loc 1) (.cons (.loc 2) (.cons (.loc 3) (.cons (.loc 0) (.cons (.bin .mul (.tup (.cons (.bin .mul (.tup (.cons (.neg (.lit (.int 1))) .nil)) (.lit (.int 4))) .nil)) (.lit (.int 4))) (.cons (.bin .mul (.tup (.cons (.tup .nil) .nil)) (.lit (.int 4))) (.cons (.lit (.int 0)) .nil))))))))) (.cons (.ifs (.or (.cmp .nsN (.cal "keeps" (.cons (.loc 4) (.cons (.lit (.str "alike")) .nil))) (.lit (.bl true))) (.cmp .ne (.cal "breaking" (.cons (.loc 4) (.cons (.lit (.str "answers")) .nil))) (.tup (.cons (.tup (.cons (.lit (.int 0)) .nil)) (.cons (.lit (.int 1)) (.cons (.tup (.cons (.lit (.int 0)) .nil)) .nil)))))) (.cons (.ret (.lit (.bl false))) .nil) .nil) (.cons (.own 5 .val (.tup (.cons (.tup (.cons (.tup (.cons (.lit (.int 0)) .nil)) (.cons (.tup (.cons (.lit (.int 0)) .nil)) .nil))) (.cons (.tup (.cons (.tup (.cons (.lit (.int 0)) .nil)) (.cons (.tup (.cons (.lit (.int 0)) .nil)) .nil))) (.cons (.tup (.cons (.tup (.cons (.lit (.int 0)) .nil)) .nil)) (.cons (.tup (.cons (.tup (.cons (.lit (.int 0)) .nil)) .nil)) (.cons (.tup (.cons (.tup (.cons (.neg (.lit (.int 1))) .nil)) (.cons (.tup (.cons (.neg (.lit (.int 1))) .nil)) .nil))) (.cons (.tup (.cons (.tup .nil) .nil)) (.cons (.lit (.int 0)) .nil))))))))) (.cons (.ret (.cmp .eq (.cal "check" (.cons (.loc 5) (.cons (.lit (.str "stays")) (.cons (.tup (.cons (.lit (.str "holds")) (.cons (.tup (.cons (.tup (.cons (.lit (.int 0)) (.cons (.lit (.int 0)) (.cons (.lit (.int 0)) (.cons (.lit (.int 0)) .nil))))) (.cons (.tup (.cons (.lit (.int 1)) (.cons (.lit (.int 0)) (.cons (.lit (.int 0)) (.cons (.lit (.int 0)) .nil))))) .nil))) .nil))) .nil)))) (.lit (.str "holds")))) .nil))))))))
def c_law : Ss := (.cons (.ifs (.not (.cal "_law_far_right" .nil)) (.cons (.ret (.lit (.bl false))) .nil) .nil) (.cons (.ifs (.or (.cmp .ne (.lit (.tup [(.str "alike"), (.str "backs"), (.str "answers"), (.str "stays"), (.str "wishes")])) (.tup (.cons (.lit (.str "alike")) (.cons (.lit (.str "backs")) (.cons (.lit (.str "answers")) (.cons (.lit (.str "stays")) (.cons (.lit (.str "wishes")) .nil))))))) (.cmp .ne (.lit (.int 6)) (.lit (.int 6)))) (.cons (.ret (.lit (.bl false))) .nil) .nil) (.cons (.ifs (.or (.cmp .ne (.cal "fate" (.cons (.cal "_law_five" .nil) (.cons (.lit (.int 0)) (.cons (.lit (.int 4)) .nil)))) (.tup (.cons (.tup (.cons (.lit (.int 0)) (.cons (.lit (.int 4)) .nil))) (.cons (.tup (.cons (.lit (.int 1)) (.cons (.neg (.lit (.int 1))) .nil))) .nil)))) (.cmp .ne (.cal "fate" (.cons (.cal "_law_five" .nil) (.cons (.lit (.int 0)) (.cons (.lit (.int 3)) .nil)))) (.tup (.cons (.tup (.cons (.lit (.int 0)) (.cons (.lit (.int 3)) .nil))) (.cons (.tup (.cons (.lit (.int 1)) (.cons (.lit (.int 3)) .nil))) .nil))))) (.cons (.ret (.lit (.bl false))) .nil) .nil) (.cons (.own 1 .val (.cal "_law_turns" .nil)) (.cons (.ifs (.or (.cmp .ne (.cal "_law_kept" (.cons (.loc 1) .nil)) (.lst (.cons (.lit (.bl true)) (.cons (.lit (.bl true)) (.cons (.lit (.bl false)) (.cons (.lit (.bl true)) (.cons (.lit (.bl true)) .nil))))))) (.cmp .ne (.cal "closed_books" (.cons (.loc 1) .nil)) (.lit (.int 36)))) (.cons (.ret (.lit (.bl false))) .nil) .nil) (.cons (.ifs (.cmp .ne (.pr .len (.cons (.bin .add (.ix (.cal "breaking" (.cons (.loc 1) (.cons (.lit (.str "answers")) .nil))) (.lit (.int 0))) (.ix (.cal "breaking" (.cons (.loc 1) (.cons (.lit (.str "answers")) .nil))) (.lit (.int 2)))) .nil)) (.lit (.int 1))) (.cons (.ret (.lit (.bl false))) .nil) .nil) (.cons (.ifs (.or (.cmp .ne (.cal "fate" (.cons (.loc 1) (.cons (.lit (.int 0)) (.cons (.lit (.int 0)) .nil)))) (.tup (.cons (.tup (.cons (.lit (.int 0)) (.cons (.lit (.int 0)) .nil))) (.cons (.tup (.cons (.lit (.int 1)) (.cons (.lit (.int 0)) .nil))) (.cons (.tup (.cons (.lit (.int 2)) (.cons (.lit (.int 0)) .nil))) (.cons (.tup (.cons (.lit (.int 3)) (.cons (.lit (.int 0)) .nil))) .nil)))))) (.cmp .ne (.cal "closings" (.cons (.loc 1) (.cons (.lit (.int 0)) (.cons (.lit (.int 1)) .nil)))) (.tup (.cons (.tup (.cons (.lit (.int 0)) (.cons (.lit (.int 1)) .nil))) (.cons (.tup (.cons (.lit (.int 1)) (.cons (.lit (.int 0)) .nil))) .nil))))) (.cons (.ret (.lit (.bl false))) .nil) .nil) (.cons (.own 2 .val (.tup (.cons (.tup (.cons (.lit (.int 0)) (.cons (.lit (.int 0)) .nil))) (.cons (.tup (.cons (.lit (.int 1)) (.cons (.lit (.int 1)) .nil))) .nil)))) (.cons (.par [(4, .val), (5, .val)] (.cons (.cal "_law_switch" (.cons (.loc 2) (.cons (.tup (.cons (.tup (.cons (.neg (.lit (.int 1))) (.cons (.neg (.lit (.int 1))) .nil))) (.cons (.tup (.cons (.neg (.lit (.int 1))) (.cons (.neg (.lit (.int 1))) .nil))) .nil))) .nil))) (.cons (.cal "_law_switch" (.cons (.loc 2) (.cons (.loc 2) .nil))) .nil))) (.cons (.own 3 .val (.cal "_law_switch" (.cons (.tup (.cons (.tup (.cons (.lit (.int 0)) (.cons (.neg (.lit (.int 1))) .nil))) (.cons (.tup (.cons (.neg (.lit (.int 1))) (.cons (.lit (.int 1)) .nil))) .nil))) (.cons (.loc 2) .nil)))) (.cons (.ifs (.or (.cmp .nsN (.cal "keeps" (.cons (.loc 3) (.cons (.lit (.str "alike")) .nil))) (.lit (.bl true))) (.cmp .ne (.cal "_law_kept" (.cons (.loc 3) .nil)) (.lst (.cons (.lit (.bl true)) (.cons (.lit (.bl true)) (.cons (.lit (.bl true)) (.cons (.lit (.bl false)) (.cons (.lit (.bl false)) .nil)))))))) (.cons (.ret (.lit (.bl false))) .nil) .nil) (.cons (.ifs (.or (.cmp .ne (.cal "_law_kept" (.cons (.loc 4) .nil)) (.lst (.cons (.lit (.bl true)) (.cons (.lit (.bl true)) (.cons (.lit (.bl true)) (.cons (.lit (.bl true)) (.cons (.lit (.bl true)) .nil))))))) (.cmp .ne (.cal "open_squares" (.cons (.loc 4) .nil)) (.tup .nil))) (.cons (.ret (.lit (.bl false))) .nil) .nil) (.cons (.ifs (.or (.cmp .ne (.cal "open_squares" (.cons (.loc 5) .nil)) (.tup (.cons (.tup (.cons (.lit (.int 0)) (.cons (.lit (.int 0)) (.cons (.lit (.int 1)) .nil)))) (.cons (.tup (.cons (.lit (.int 0)) (.cons (.lit (.int 1)) (.cons (.lit (.int 0)) .nil)))) (.cons (.tup (.cons (.lit (.int 1)) (.cons (.lit (.int 0)) (.cons (.lit (.int 1)) .nil)))) (.cons (.tup (.cons (.lit (.int 1)) (.cons (.lit (.int 1)) (.cons (.lit (.int 0)) .nil)))) .nil)))))) (.cal "keeps" (.cons (.loc 5) (.cons (.lit (.str "alike")) .nil)))) (.cons (.ret (.lit (.bl false))) .nil) .nil) (.cons (.ifs (.or (.cmp .notin (.cal "breaking" (.cons (.loc 5) (.cons (.lit (.str "alike")) .nil))) (.lst (.cons (.tup (.cons (.tup .nil) (.cons (.lit (.int 1)) (.cons (.tup (.cons (.lit (.int 0)) .nil)) .nil)))) (.cons (.tup (.cons (.tup .nil) (.cons (.lit (.int 0)) (.cons (.tup (.cons (.lit (.int 1)) .nil)) .nil)))) .nil)))) (.cmp .ne (.cal "changes" (.cons (.loc 5) (.cons (.cal "mended" (.cons (.loc 5) .nil)) .nil))) (.lit (.int 2)))) (.cons (.ret (.lit (.bl false))) .nil) .nil) (.cons (.ifs (.cmp .ne (.cal "closings" (.cons (.loc 5) (.cons (.lit (.int 0)) (.cons (.lit (.int 1)) .nil)))) (.tup (.cons (.tup (.cons (.neg (.lit (.int 1))) (.cons (.lit (.int 0)) .nil))) (.cons (.tup (.cons (.lit (.int 0)) (.cons (.lit (.int 0)) .nil))) (.cons (.tup (.cons (.lit (.int 1)) (.cons (.neg (.lit (.int 1))) .nil))) (.cons (.tup (.cons (.lit (.int 1)) (.cons (.lit (.int 1)) .nil))) .nil)))))) (.cons (.ret (.lit (.bl false))) .nil) .nil) (.cons (.ret (.cmp .eq (.cal "closings" (.cons (.loc 5) (.cons (.lit (.int 0)) (.cons (.lit (.int 0)) .nil)))) (.tup (.cons (.tup (.cons (.neg (.lit (.int 1))) (.cons (.neg (.lit (.int 1))) .nil))) (.cons (.tup (.cons (.neg (.lit (.int 1))) (.cons (.lit (.int 0)) .nil))) (.cons (.tup (.cons (.lit (.int 0)) (.cons (.neg (.lit (.int 1))) .nil))) (.cons (.tup (.cons (.lit (.int 0)) (.cons (.lit (.int 0)) .nil))) (.cons (.tup (.cons (.lit (.int 1)) (.cons (.lit (.int 1)) .nil))) .nil)))))))) .nil))))))))))))))))
def pg : Prog := ([("is_integer", ⟨3, 3, c_is_integer⟩), ("is_table", ⟨5, 7, c_is_table⟩), ("are_wishes", ⟨3, 6, c_are_wishes⟩), ("sizes_of", ⟨1, 1, c_sizes_of⟩), ("wrong_place", ⟨1, 5, c_wrong_place⟩), ("need_book", ⟨1, 2, c_need_book⟩), ("kinds_of", ⟨1, 1, c_kinds_of⟩), ("is_kind", ⟨2, 2, c_is_kind⟩), ("is_deed", ⟨2, 2, c_is_deed⟩), ("is_state", ⟨2, 2, c_is_state⟩), ("need_state", ⟨2, 2, c_need_state⟩), ("need_kind", ⟨2, 2, c_need_kind⟩), ("done_at", ⟨3, 3, c_done_at⟩), ("all_done", ⟨3, 4, c_all_done⟩), ("rows_in", ⟨1, 7, c_rows_in⟩)] : List (Str × Fn)) ++ ([("closings_in", ⟨4, 10, c_closings_in⟩), ("closings", ⟨3, 3, c_closings⟩), ("closed_books", ⟨1, 5, c_closed_books⟩), ("unlike_entries", ⟨2, 2, c_unlike_entries⟩), ("mended", ⟨1, 11, c_mended⟩), ("changes", ⟨2, 7, c_changes⟩), ("late_past", ⟨3, 3, c_late_past⟩), ("does_close", ⟨4, 5, c_does_close⟩), ("open_in", ⟨2, 7, c_open_in⟩), ("open_squares", ⟨1, 1, c_open_squares⟩), ("need_closed", ⟨1, 1, c_need_closed⟩), ("need_asked", ⟨2, 2, c_need_asked⟩), ("fate_rows", ⟨3, 10, c_fate_rows⟩), ("fate", ⟨3, 3, c_fate⟩), ("is_as_told", ⟨5, 8, c_is_as_told⟩)] : List (Str × Fn)) ++ ([("goes_back", ⟨3, 4, c_goes_back⟩), ("rests_that_break", ⟨4, 7, c_rests_that_break⟩), ("breaks_in", ⟨2, 7, c_breaks_in⟩), ("size_of", ⟨1, 1, c_size_of⟩), ("least_break", ⟨2, 5, c_least_break⟩), ("keeps", ⟨2, 2, c_keeps⟩), ("breaking", ⟨2, 2, c_breaking⟩), ("are_kinds", ⟨2, 3, c_are_kinds⟩), ("does_break", ⟨3, 9, c_does_break⟩), ("are_states", ⟨3, 5, c_are_states⟩), ("is_row", ⟨2, 2, c_is_row⟩), ("are_fates", ⟨3, 12, c_are_fates⟩), ("does_hold", ⟨3, 6, c_does_hold⟩), ("need_form", ⟨1, 1, c_need_form⟩), ("check", ⟨3, 4, c_check⟩)] : List (Str × Fn)) ++ ([("_law_kept", ⟨1, 2, c__law_kept⟩), ("_law_turns", ⟨0, 3, c__law_turns⟩), ("_law_switch", ⟨2, 3, c__law_switch⟩), ("_law_five", ⟨0, 4, c__law_five⟩), ("_law_far_right", ⟨0, 6, c__law_far_right⟩), ("law", ⟨1, 6, c_law⟩)] : List (Str × Fn))
end C

set_option Elab.async false
set_option linter.all false
set_option maxRecDepth 100000
set_option maxHeartbeats 0
namespace C
open PySem PySem.Spec PyProof.Rows L2 Q
def top (i : Nat) : Stmt := PySem.Challenge.pw_pastdeeds_k22_things_by_hand.main.body.getD i (.Pass ⟨0, 0, 0, 0⟩)
def G : List (Str × Gv) := ([("ValueError", .free), ("all", .free), ("bool", .free), ("int", .free), ("isinstance", .free), ("len", .free), ("list", .free), ("min", .free), ("range", .free), ("sorted", .free), ("str", .free), ("super", .free), ("tuple", .free), ("zip", .free), ("MOST_STATES", .int (8))] : List (Str × Gv)) ++ ([("MOST_KINDS", .int (5)), ("MOST_ANSWER", .int (9)), ("NOTHING", .int (-1)), ("MOST_HANDS", .int (6)), ("ALIKE", .str "alike"), ("BACKS", .str "backs"), ("ANSWERS", .str "answers"), ("STAYS", .str "stays"), ("WISHES", .str "wishes"), ("PROMISES", .tups ["alike", "backs", "answers", "stays", "wishes"]), ("HOLDS", .str "holds"), ("BREAKS", .str "breaks"), ("is_integer", .fn), ("is_table", .fn), ("are_wishes", .fn)] : List (Str × Gv)) ++ ([("sizes_of", .fn), ("wrong_place", .fn), ("need_book", .fn), ("kinds_of", .fn), ("is_kind", .fn), ("is_deed", .fn), ("is_state", .fn), ("need_state", .fn), ("need_kind", .fn), ("done_at", .fn), ("all_done", .fn), ("rows_in", .fn), ("closings_in", .fn), ("closings", .fn), ("closed_books", .fn)] : List (Str × Gv)) ++ ([("unlike_entries", .fn), ("mended", .fn), ("changes", .fn), ("late_past", .fn), ("does_close", .fn), ("open_in", .fn), ("open_squares", .fn), ("need_closed", .fn), ("need_asked", .fn), ("fate_rows", .fn), ("fate", .fn), ("is_as_told", .fn), ("goes_back", .fn), ("rests_that_break", .fn), ("breaks_in", .fn)] : List (Str × Gv)) ++ ([("size_of", .fn), ("least_break", .fn), ("keeps", .fn), ("breaking", .fn), ("are_kinds", .fn), ("does_break", .fn), ("are_states", .fn), ("is_row", .fn), ("are_fates", .fn), ("does_hold", .fn), ("need_form", .fn), ("check", .fn), ("_law_kept", .fn), ("_law_turns", .fn), ("_law_switch", .fn)] : List (Str × Gv)) ++ ([("_law_five", .fn), ("_law_far_right", .fn), ("law", .fn)] : List (Str × Gv))
def d_is_integer : Fd := ⟨"is_integer", defArgs (top 13), defBody (top 13), defScope (top 13), ["value", "least", "most"], ["value", "least", "most"], [], c_is_integer⟩
def d_is_table : Fd := ⟨"is_table", defArgs (top 14), defBody (top 14), defScope (top 14), ["value", "rows", "columns", "least", "most", "row", "one"], ["value", "rows", "columns", "least", "most"], [], c_is_table⟩
def d_are_wishes : Fd := ⟨"are_wishes", defArgs (top 15), defBody (top 15), defScope (top 15), ["value", "states", "kinds", "row", "one", "other"], ["value", "states", "kinds"], [], c_are_wishes⟩
def d_sizes_of : Fd := ⟨"sizes_of", defArgs (top 16), defBody (top 16), defScope (top 16), ["value"], ["value"], [], c_sizes_of⟩
def d_wrong_place : Fd := ⟨"wrong_place", defArgs (top 17), defBody (top 17), defScope (top 17), ["thing", "looks", "states", "kinds", "one"], ["thing"], [("looks", (.lst, false))], c_wrong_place⟩
def d_need_book : Fd := ⟨"need_book", defArgs (top 18), defBody (top 18), defScope (top 18), ["thing", "place"], ["thing"], [], c_need_book⟩
def d_kinds_of : Fd := ⟨"kinds_of", defArgs (top 19), defBody (top 19), defScope (top 19), ["book"], ["book"], [], c_kinds_of⟩
def d_is_kind : Fd := ⟨"is_kind", defArgs (top 20), defBody (top 20), defScope (top 20), ["book", "value"], ["book", "value"], [], c_is_kind⟩
def d_is_deed : Fd := ⟨"is_deed", defArgs (top 21), defBody (top 21), defScope (top 21), ["book", "value"], ["book", "value"], [], c_is_deed⟩
def d_is_state : Fd := ⟨"is_state", defArgs (top 22), defBody (top 22), defScope (top 22), ["book", "value"], ["book", "value"], [], c_is_state⟩
def d_need_state : Fd := ⟨"need_state", defArgs (top 23), defBody (top 23), defScope (top 23), ["book", "value"], ["book", "value"], [], c_need_state⟩
def d_need_kind : Fd := ⟨"need_kind", defArgs (top 24), defBody (top 24), defScope (top 24), ["book", "value"], ["book", "value"], [], c_need_kind⟩
def d_done_at : Fd := ⟨"done_at", defArgs (top 25), defBody (top 25), defScope (top 25), ["book", "state", "deed"], ["book", "state", "deed"], [], c_done_at⟩
def d_all_done : Fd := ⟨"all_done", defArgs (top 26), defBody (top 26), defScope (top 26), ["book", "state", "deeds", "deed"], ["book", "state", "deeds"], [], c_all_done⟩
def d_rows_in : Fd := ⟨"rows_in", defArgs (top 27), defBody (top 27), defScope (top 27), ["book", "found", "waiting", "later", "state", "kind", "other"], ["book"], [("found", (.dct, false)), ("later", (.lst, false))], c_rows_in⟩
def d_closings_in : Fd := ⟨"closings_in", defArgs (top 29), defBody (top 29), defScope (top 29), ["book", "states", "first", "second", "found", "later", "earlier", "is_good", "state", "near"], ["book", "states", "first", "second"], [("found", (.lst, false))], c_closings_in⟩
def d_closings : Fd := ⟨"closings", defArgs (top 30), defBody (top 30), defScope (top 30), ["book", "first", "second"], ["book", "first", "second"], [], c_closings⟩
def d_closed_books : Fd := ⟨"closed_books", defArgs (top 31), defBody (top 31), defScope (top 31), ["book", "first", "states", "found", "second"], ["book"], [], c_closed_books⟩
def d_unlike_entries : Fd := ⟨"unlike_entries", defArgs (top 32), defBody (top 32), defScope (top 32), ["pair", "own"], ["pair", "own"], [], c_unlike_entries⟩
def d_mended : Fd := ⟨"mended", defArgs (top 33), defBody (top 33), defScope (top 33), ["book", "states", "first", "tables", "late", "early", "second", "own", "some", "row", "pair"], ["book"], [("late", (.l2, false)), ("early", (.l2, false))], c_mended⟩
def d_changes : Fd := ⟨"changes", defArgs (top 34), defBody (top 34), defScope (top 34), ["book", "other", "found", "near", "far", "one", "two"], ["book", "other"], [], c_changes⟩
def d_late_past : Fd := ⟨"late_past", defArgs (top 36), defBody (top 36), defScope (top 36), ["book", "deed", "first"], ["book", "deed", "first"], [], c_late_past⟩
def d_does_close : Fd := ⟨"does_close", defArgs (top 38), defBody (top 38), defScope (top 38), ["book", "state", "first", "second", "near"], ["book", "state", "first", "second"], [], c_does_close⟩
def d_open_in : Fd := ⟨"open_in", defArgs (top 39), defBody (top 39), defScope (top 39), ["book", "states", "state", "kinds", "found", "first", "second"], ["book", "states"], [("found", (.lst, false))], c_open_in⟩
def d_open_squares : Fd := ⟨"open_squares", defArgs (top 40), defBody (top 40), defScope (top 40), ["book"], ["book"], [], c_open_squares⟩
def d_need_closed : Fd := ⟨"need_closed", defArgs (top 41), defBody (top 41), defScope (top 41), ["book"], ["book"], [], c_need_closed⟩
def d_need_asked : Fd := ⟨"need_asked", defArgs (top 50), defBody (top 50), defScope (top 50), ["book", "promise"], ["book", "promise"], [], c_need_asked⟩
def d_fate_rows : Fd := ⟨"fate_rows", defArgs (top 51), defBody (top 51), defScope (top 51), ["book", "state", "kind", "begin", "found", "waiting", "later", "pair", "other", "fresh"], ["book", "state", "kind"], [("found", (.dct, true)), ("later", (.lst, false))], c_fate_rows⟩
def d_fate : Fd := ⟨"fate", defArgs (top 52), defBody (top 52), defScope (top 52), ["book", "state", "kind"], ["book", "state", "kind"], [], c_fate⟩
def d_is_as_told : Fd := ⟨"is_as_told", defArgs (top 53), defBody (top 53), defScope (top 53), ["book", "promise", "state", "kind", "pair", "wish", "there", "deed"], ["book", "promise", "state", "kind", "pair"], [], c_is_as_told⟩
def d_goes_back : Fd := ⟨"goes_back", defArgs (top 54), defBody (top 54), defScope (top 54), ["book", "state", "kind", "other"], ["book", "state", "kind"], [], c_goes_back⟩
def d_rests_that_break : Fd := ⟨"rests_that_break", defArgs (top 55), defBody (top 55), defScope (top 55), ["book", "promise", "state", "kind", "known", "pair", "other"], ["book", "promise", "state", "kind"], [], c_rests_that_break⟩
def d_breaks_in : Fd := ⟨"breaks_in", defArgs (top 56), defBody (top 56), defScope (top 56), ["book", "promise", "state", "rows", "found", "kind", "rest"], ["book", "promise"], [("found", (.lst, false))], c_breaks_in⟩
def d_size_of : Fd := ⟨"size_of", defArgs (top 57), defBody (top 57), defScope (top 57), ["triple"], ["triple"], [], c_size_of⟩
def d_least_break : Fd := ⟨"least_break", defArgs (top 58), defBody (top 58), defScope (top 58), ["book", "promise", "found", "least", "triple"], ["book", "promise"], [], c_least_break⟩
def d_keeps : Fd := ⟨"keeps", defArgs (top 59), defBody (top 59), defScope (top 59), ["book", "promise"], ["book", "promise"], [], c_keeps⟩
def d_breaking : Fd := ⟨"breaking", defArgs (top 60), defBody (top 60), defScope (top 60), ["book", "promise"], ["book", "promise"], [], c_breaking⟩
def d_are_kinds : Fd := ⟨"are_kinds", defArgs (top 61), defBody (top 61), defScope (top 61), ["book", "value", "one"], ["book", "value"], [], c_are_kinds⟩
def d_does_break : Fd := ⟨"does_break", defArgs (top 62), defBody (top 62), defScope (top 62), ["book", "promise", "value", "state", "pair", "other", "row", "kind", "rest"], ["book", "promise", "value"], [], c_does_break⟩
def d_are_states : Fd := ⟨"are_states", defArgs (top 66), defBody (top 66), defScope (top 66), ["book", "promise", "rows", "state", "kind"], ["book", "promise", "rows"], [], c_are_states⟩
def d_is_row : Fd := ⟨"is_row", defArgs (top 67), defBody (top 67), defScope (top 67), ["book", "value"], ["book", "value"], [], c_is_row⟩
def d_are_fates : Fd := ⟨"are_fates", defArgs (top 68), defBody (top 68), defScope (top 68), ["book", "promise", "rows", "known", "wanted", "state", "kind", "there", "deed", "here", "other", "row"], ["book", "promise", "rows"], [("wanted", (.lst, false)), ("known", (.dct, true))], c_are_fates⟩
def d_does_hold : Fd := ⟨"does_hold", defArgs (top 69), defBody (top 69), defScope (top 69), ["book", "promise", "rows", "is_right", "one", "other"], ["book", "promise", "rows"], [], c_does_hold⟩
def d_need_form : Fd := ⟨"need_form", defArgs (top 70), defBody (top 70), defScope (top 70), ["value"], ["value"], [], c_need_form⟩
def d_check : Fd := ⟨"check", defArgs (top 71), defBody (top 71), defScope (top 71), ["book", "promise", "paper", "is_right"], ["book", "promise", "paper"], [], c_check⟩
def d__law_kept : Fd := ⟨"_law_kept", defArgs (top 73), defBody (top 73), defScope (top 73), ["_law_book", "_law_word"], ["_law_book"], [], c__law_kept⟩
def d__law_turns : Fd := ⟨"_law_turns", defArgs (top 74), defBody (top 74), defScope (top 74), ["_law_nexts", "_law_answers", "_law_back"], [], [], c__law_turns⟩
def d__law_switch : Fd := ⟨"_law_switch", defArgs (top 75), defBody (top 75), defScope (top 75), ["_law_late", "_law_early", "_law_back"], ["_law_late", "_law_early"], [], c__law_switch⟩
def d__law_five : Fd := ⟨"_law_five", defArgs (top 76), defBody (top 76), defScope (top 76), ["_law_late", "_law_early", "_law_nexts", "_law_kind"], [], [], c__law_five⟩
def d__law_far_right : Fd := ⟨"_law_far_right", defArgs (top 77), defBody (top 77), defScope (top 77), ["_law_stay", "_law_nexts", "_law_answers", "_law_late", "_law_book", "_law_calm"], [], [], c__law_far_right⟩
def d_law : Fd := ⟨"law", defArgs (top 78), defBody (top 78), defScope (top 78), ["_law_script", "_law_turns_here", "_law_stay", "_law_wins", "_law_last", "_law_first"], ["_law_script"], [], c_law⟩
def fs : List Fd := ([d_is_integer, d_is_table, d_are_wishes, d_sizes_of, d_wrong_place, d_need_book, d_kinds_of, d_is_kind, d_is_deed, d_is_state, d_need_state, d_need_kind, d_done_at, d_all_done, d_rows_in] : List Fd) ++ ([d_closings_in, d_closings, d_closed_books, d_unlike_entries, d_mended, d_changes, d_late_past, d_does_close, d_open_in, d_open_squares, d_need_closed, d_need_asked, d_fate_rows, d_fate, d_is_as_told] : List Fd) ++ ([d_goes_back, d_rests_that_break, d_breaks_in, d_size_of, d_least_break, d_keeps, d_breaking, d_are_kinds, d_does_break, d_are_states, d_is_row, d_are_fates, d_does_hold, d_need_form, d_check] : List Fd) ++ ([d__law_kept, d__law_turns, d__law_switch, d__law_five, d__law_far_right, d_law] : List Fd)
theorem pg_eq : pgOf fs = pg := by kernel_rfl
theorem k_is_integer (W : Wd) : (compB W (d_is_integer.ct G) d_is_integer.body).1 = d_is_integer.code := by kernel_rfl
theorem s_is_integer : FnScope d_is_integer.N d_is_integer.ps d_is_integer.scope := ⟨rfl, rfl, rfl, by decide +kernel, rfl, by decide +kernel, by decide +kernel⟩
theorem k_is_table (W : Wd) : (compB W (d_is_table.ct G) d_is_table.body).1 = d_is_table.code := by kernel_rfl
theorem s_is_table : FnScope d_is_table.N d_is_table.ps d_is_table.scope := ⟨rfl, rfl, rfl, by decide +kernel, rfl, by decide +kernel, by decide +kernel⟩
theorem k_are_wishes (W : Wd) : (compB W (d_are_wishes.ct G) d_are_wishes.body).1 = d_are_wishes.code := by kernel_rfl
theorem s_are_wishes : FnScope d_are_wishes.N d_are_wishes.ps d_are_wishes.scope := ⟨rfl, rfl, rfl, by decide +kernel, rfl, by decide +kernel, by decide +kernel⟩
theorem k_sizes_of (W : Wd) : (compB W (d_sizes_of.ct G) d_sizes_of.body).1 = d_sizes_of.code := by kernel_rfl
theorem s_sizes_of : FnScope d_sizes_of.N d_sizes_of.ps d_sizes_of.scope := ⟨rfl, rfl, rfl, by decide +kernel, rfl, by decide +kernel, by decide +kernel⟩
theorem k_wrong_place (W : Wd) : (compB W (d_wrong_place.ct G) d_wrong_place.body).1 = d_wrong_place.code := by kernel_rfl
theorem s_wrong_place : FnScope d_wrong_place.N d_wrong_place.ps d_wrong_place.scope := ⟨rfl, rfl, rfl, by decide +kernel, rfl, by decide +kernel, by decide +kernel⟩
theorem k_need_book (W : Wd) : (compB W (d_need_book.ct G) d_need_book.body).1 = d_need_book.code := by kernel_rfl
theorem s_need_book : FnScope d_need_book.N d_need_book.ps d_need_book.scope := ⟨rfl, rfl, rfl, by decide +kernel, rfl, by decide +kernel, by decide +kernel⟩
theorem k_kinds_of (W : Wd) : (compB W (d_kinds_of.ct G) d_kinds_of.body).1 = d_kinds_of.code := by kernel_rfl
theorem s_kinds_of : FnScope d_kinds_of.N d_kinds_of.ps d_kinds_of.scope := ⟨rfl, rfl, rfl, by decide +kernel, rfl, by decide +kernel, by decide +kernel⟩
theorem k_is_kind (W : Wd) : (compB W (d_is_kind.ct G) d_is_kind.body).1 = d_is_kind.code := by kernel_rfl
theorem s_is_kind : FnScope d_is_kind.N d_is_kind.ps d_is_kind.scope := ⟨rfl, rfl, rfl, by decide +kernel, rfl, by decide +kernel, by decide +kernel⟩
theorem k_is_deed (W : Wd) : (compB W (d_is_deed.ct G) d_is_deed.body).1 = d_is_deed.code := by kernel_rfl
theorem s_is_deed : FnScope d_is_deed.N d_is_deed.ps d_is_deed.scope := ⟨rfl, rfl, rfl, by decide +kernel, rfl, by decide +kernel, by decide +kernel⟩
theorem k_is_state (W : Wd) : (compB W (d_is_state.ct G) d_is_state.body).1 = d_is_state.code := by kernel_rfl
theorem s_is_state : FnScope d_is_state.N d_is_state.ps d_is_state.scope := ⟨rfl, rfl, rfl, by decide +kernel, rfl, by decide +kernel, by decide +kernel⟩
theorem k_need_state (W : Wd) : (compB W (d_need_state.ct G) d_need_state.body).1 = d_need_state.code := by kernel_rfl
theorem s_need_state : FnScope d_need_state.N d_need_state.ps d_need_state.scope := ⟨rfl, rfl, rfl, by decide +kernel, rfl, by decide +kernel, by decide +kernel⟩
theorem k_need_kind (W : Wd) : (compB W (d_need_kind.ct G) d_need_kind.body).1 = d_need_kind.code := by kernel_rfl
theorem s_need_kind : FnScope d_need_kind.N d_need_kind.ps d_need_kind.scope := ⟨rfl, rfl, rfl, by decide +kernel, rfl, by decide +kernel, by decide +kernel⟩
theorem k_done_at (W : Wd) : (compB W (d_done_at.ct G) d_done_at.body).1 = d_done_at.code := by kernel_rfl
theorem s_done_at : FnScope d_done_at.N d_done_at.ps d_done_at.scope := ⟨rfl, rfl, rfl, by decide +kernel, rfl, by decide +kernel, by decide +kernel⟩
theorem k_all_done (W : Wd) : (compB W (d_all_done.ct G) d_all_done.body).1 = d_all_done.code := by kernel_rfl
theorem s_all_done : FnScope d_all_done.N d_all_done.ps d_all_done.scope := ⟨rfl, rfl, rfl, by decide +kernel, rfl, by decide +kernel, by decide +kernel⟩
theorem k_rows_in (W : Wd) : (compB W (d_rows_in.ct G) d_rows_in.body).1 = d_rows_in.code := by kernel_rfl
theorem s_rows_in : FnScope d_rows_in.N d_rows_in.ps d_rows_in.scope := ⟨rfl, rfl, rfl, by decide +kernel, rfl, by decide +kernel, by decide +kernel⟩
theorem k_closings_in (W : Wd) : (compB W (d_closings_in.ct G) d_closings_in.body).1 = d_closings_in.code := by kernel_rfl
theorem s_closings_in : FnScope d_closings_in.N d_closings_in.ps d_closings_in.scope := ⟨rfl, rfl, rfl, by decide +kernel, rfl, by decide +kernel, by decide +kernel⟩
theorem k_closings (W : Wd) : (compB W (d_closings.ct G) d_closings.body).1 = d_closings.code := by kernel_rfl
theorem s_closings : FnScope d_closings.N d_closings.ps d_closings.scope := ⟨rfl, rfl, rfl, by decide +kernel, rfl, by decide +kernel, by decide +kernel⟩
theorem k_closed_books (W : Wd) : (compB W (d_closed_books.ct G) d_closed_books.body).1 = d_closed_books.code := by kernel_rfl
theorem s_closed_books : FnScope d_closed_books.N d_closed_books.ps d_closed_books.scope := ⟨rfl, rfl, rfl, by decide +kernel, rfl, by decide +kernel, by decide +kernel⟩
theorem k_unlike_entries (W : Wd) : (compB W (d_unlike_entries.ct G) d_unlike_entries.body).1 = d_unlike_entries.code := by kernel_rfl
theorem s_unlike_entries : FnScope d_unlike_entries.N d_unlike_entries.ps d_unlike_entries.scope := ⟨rfl, rfl, rfl, by decide +kernel, rfl, by decide +kernel, by decide +kernel⟩
theorem k_mended (W : Wd) : (compB W (d_mended.ct G) d_mended.body).1 = d_mended.code := by kernel_rfl
theorem s_mended : FnScope d_mended.N d_mended.ps d_mended.scope := ⟨rfl, rfl, rfl, by decide +kernel, rfl, by decide +kernel, by decide +kernel⟩
theorem k_changes (W : Wd) : (compB W (d_changes.ct G) d_changes.body).1 = d_changes.code := by kernel_rfl
theorem s_changes : FnScope d_changes.N d_changes.ps d_changes.scope := ⟨rfl, rfl, rfl, by decide +kernel, rfl, by decide +kernel, by decide +kernel⟩
theorem k_late_past (W : Wd) : (compB W (d_late_past.ct G) d_late_past.body).1 = d_late_past.code := by kernel_rfl
theorem s_late_past : FnScope d_late_past.N d_late_past.ps d_late_past.scope := ⟨rfl, rfl, rfl, by decide +kernel, rfl, by decide +kernel, by decide +kernel⟩
theorem k_does_close (W : Wd) : (compB W (d_does_close.ct G) d_does_close.body).1 = d_does_close.code := by kernel_rfl
theorem s_does_close : FnScope d_does_close.N d_does_close.ps d_does_close.scope := ⟨rfl, rfl, rfl, by decide +kernel, rfl, by decide +kernel, by decide +kernel⟩
theorem k_open_in (W : Wd) : (compB W (d_open_in.ct G) d_open_in.body).1 = d_open_in.code := by kernel_rfl
theorem s_open_in : FnScope d_open_in.N d_open_in.ps d_open_in.scope := ⟨rfl, rfl, rfl, by decide +kernel, rfl, by decide +kernel, by decide +kernel⟩
theorem k_open_squares (W : Wd) : (compB W (d_open_squares.ct G) d_open_squares.body).1 = d_open_squares.code := by kernel_rfl
theorem s_open_squares : FnScope d_open_squares.N d_open_squares.ps d_open_squares.scope := ⟨rfl, rfl, rfl, by decide +kernel, rfl, by decide +kernel, by decide +kernel⟩
theorem k_need_closed (W : Wd) : (compB W (d_need_closed.ct G) d_need_closed.body).1 = d_need_closed.code := by kernel_rfl
theorem s_need_closed : FnScope d_need_closed.N d_need_closed.ps d_need_closed.scope := ⟨rfl, rfl, rfl, by decide +kernel, rfl, by decide +kernel, by decide +kernel⟩
theorem k_need_asked (W : Wd) : (compB W (d_need_asked.ct G) d_need_asked.body).1 = d_need_asked.code := by kernel_rfl
theorem s_need_asked : FnScope d_need_asked.N d_need_asked.ps d_need_asked.scope := ⟨rfl, rfl, rfl, by decide +kernel, rfl, by decide +kernel, by decide +kernel⟩
theorem k_fate_rows (W : Wd) : (compB W (d_fate_rows.ct G) d_fate_rows.body).1 = d_fate_rows.code := by kernel_rfl
theorem s_fate_rows : FnScope d_fate_rows.N d_fate_rows.ps d_fate_rows.scope := ⟨rfl, rfl, rfl, by decide +kernel, rfl, by decide +kernel, by decide +kernel⟩
theorem k_fate (W : Wd) : (compB W (d_fate.ct G) d_fate.body).1 = d_fate.code := by kernel_rfl
theorem s_fate : FnScope d_fate.N d_fate.ps d_fate.scope := ⟨rfl, rfl, rfl, by decide +kernel, rfl, by decide +kernel, by decide +kernel⟩
theorem k_is_as_told (W : Wd) : (compB W (d_is_as_told.ct G) d_is_as_told.body).1 = d_is_as_told.code := by kernel_rfl
theorem s_is_as_told : FnScope d_is_as_told.N d_is_as_told.ps d_is_as_told.scope := ⟨rfl, rfl, rfl, by decide +kernel, rfl, by decide +kernel, by decide +kernel⟩
theorem k_goes_back (W : Wd) : (compB W (d_goes_back.ct G) d_goes_back.body).1 = d_goes_back.code := by kernel_rfl
theorem s_goes_back : FnScope d_goes_back.N d_goes_back.ps d_goes_back.scope := ⟨rfl, rfl, rfl, by decide +kernel, rfl, by decide +kernel, by decide +kernel⟩
theorem k_rests_that_break (W : Wd) : (compB W (d_rests_that_break.ct G) d_rests_that_break.body).1 = d_rests_that_break.code := by kernel_rfl
theorem s_rests_that_break : FnScope d_rests_that_break.N d_rests_that_break.ps d_rests_that_break.scope := ⟨rfl, rfl, rfl, by decide +kernel, rfl, by decide +kernel, by decide +kernel⟩
theorem k_breaks_in (W : Wd) : (compB W (d_breaks_in.ct G) d_breaks_in.body).1 = d_breaks_in.code := by kernel_rfl
theorem s_breaks_in : FnScope d_breaks_in.N d_breaks_in.ps d_breaks_in.scope := ⟨rfl, rfl, rfl, by decide +kernel, rfl, by decide +kernel, by decide +kernel⟩
theorem k_size_of (W : Wd) : (compB W (d_size_of.ct G) d_size_of.body).1 = d_size_of.code := by kernel_rfl
theorem s_size_of : FnScope d_size_of.N d_size_of.ps d_size_of.scope := ⟨rfl, rfl, rfl, by decide +kernel, rfl, by decide +kernel, by decide +kernel⟩
theorem k_least_break (W : Wd) : (compB W (d_least_break.ct G) d_least_break.body).1 = d_least_break.code := by kernel_rfl
theorem s_least_break : FnScope d_least_break.N d_least_break.ps d_least_break.scope := ⟨rfl, rfl, rfl, by decide +kernel, rfl, by decide +kernel, by decide +kernel⟩
theorem k_keeps (W : Wd) : (compB W (d_keeps.ct G) d_keeps.body).1 = d_keeps.code := by kernel_rfl
theorem s_keeps : FnScope d_keeps.N d_keeps.ps d_keeps.scope := ⟨rfl, rfl, rfl, by decide +kernel, rfl, by decide +kernel, by decide +kernel⟩
theorem k_breaking (W : Wd) : (compB W (d_breaking.ct G) d_breaking.body).1 = d_breaking.code := by kernel_rfl
theorem s_breaking : FnScope d_breaking.N d_breaking.ps d_breaking.scope := ⟨rfl, rfl, rfl, by decide +kernel, rfl, by decide +kernel, by decide +kernel⟩
theorem k_are_kinds (W : Wd) : (compB W (d_are_kinds.ct G) d_are_kinds.body).1 = d_are_kinds.code := by kernel_rfl
theorem s_are_kinds : FnScope d_are_kinds.N d_are_kinds.ps d_are_kinds.scope := ⟨rfl, rfl, rfl, by decide +kernel, rfl, by decide +kernel, by decide +kernel⟩
theorem k_does_break (W : Wd) : (compB W (d_does_break.ct G) d_does_break.body).1 = d_does_break.code := by kernel_rfl
theorem s_does_break : FnScope d_does_break.N d_does_break.ps d_does_break.scope := ⟨rfl, rfl, rfl, by decide +kernel, rfl, by decide +kernel, by decide +kernel⟩
theorem k_are_states (W : Wd) : (compB W (d_are_states.ct G) d_are_states.body).1 = d_are_states.code := by kernel_rfl
theorem s_are_states : FnScope d_are_states.N d_are_states.ps d_are_states.scope := ⟨rfl, rfl, rfl, by decide +kernel, rfl, by decide +kernel, by decide +kernel⟩
theorem k_is_row (W : Wd) : (compB W (d_is_row.ct G) d_is_row.body).1 = d_is_row.code := by kernel_rfl
theorem s_is_row : FnScope d_is_row.N d_is_row.ps d_is_row.scope := ⟨rfl, rfl, rfl, by decide +kernel, rfl, by decide +kernel, by decide +kernel⟩
theorem k_are_fates (W : Wd) : (compB W (d_are_fates.ct G) d_are_fates.body).1 = d_are_fates.code := by kernel_rfl
theorem s_are_fates : FnScope d_are_fates.N d_are_fates.ps d_are_fates.scope := ⟨rfl, rfl, rfl, by decide +kernel, rfl, by decide +kernel, by decide +kernel⟩
theorem k_does_hold (W : Wd) : (compB W (d_does_hold.ct G) d_does_hold.body).1 = d_does_hold.code := by kernel_rfl
theorem s_does_hold : FnScope d_does_hold.N d_does_hold.ps d_does_hold.scope := ⟨rfl, rfl, rfl, by decide +kernel, rfl, by decide +kernel, by decide +kernel⟩
theorem k_need_form (W : Wd) : (compB W (d_need_form.ct G) d_need_form.body).1 = d_need_form.code := by kernel_rfl
theorem s_need_form : FnScope d_need_form.N d_need_form.ps d_need_form.scope := ⟨rfl, rfl, rfl, by decide +kernel, rfl, by decide +kernel, by decide +kernel⟩
theorem k_check (W : Wd) : (compB W (d_check.ct G) d_check.body).1 = d_check.code := by kernel_rfl
theorem s_check : FnScope d_check.N d_check.ps d_check.scope := ⟨rfl, rfl, rfl, by decide +kernel, rfl, by decide +kernel, by decide +kernel⟩
theorem k__law_kept (W : Wd) : (compB W (d__law_kept.ct G) d__law_kept.body).1 = d__law_kept.code := by kernel_rfl
theorem s__law_kept : FnScope d__law_kept.N d__law_kept.ps d__law_kept.scope := ⟨rfl, rfl, rfl, by decide +kernel, rfl, by decide +kernel, by decide +kernel⟩
theorem k__law_turns (W : Wd) : (compB W (d__law_turns.ct G) d__law_turns.body).1 = d__law_turns.code := by kernel_rfl
theorem s__law_turns : FnScope d__law_turns.N d__law_turns.ps d__law_turns.scope := ⟨rfl, rfl, rfl, by decide +kernel, rfl, by decide +kernel, by decide +kernel⟩
theorem k__law_switch (W : Wd) : (compB W (d__law_switch.ct G) d__law_switch.body).1 = d__law_switch.code := by kernel_rfl
theorem s__law_switch : FnScope d__law_switch.N d__law_switch.ps d__law_switch.scope := ⟨rfl, rfl, rfl, by decide +kernel, rfl, by decide +kernel, by decide +kernel⟩
theorem k__law_five (W : Wd) : (compB W (d__law_five.ct G) d__law_five.body).1 = d__law_five.code := by kernel_rfl
theorem s__law_five : FnScope d__law_five.N d__law_five.ps d__law_five.scope := ⟨rfl, rfl, rfl, by decide +kernel, rfl, by decide +kernel, by decide +kernel⟩
theorem k__law_far_right (W : Wd) : (compB W (d__law_far_right.ct G) d__law_far_right.body).1 = d__law_far_right.code := by kernel_rfl
theorem s__law_far_right : FnScope d__law_far_right.N d__law_far_right.ps d__law_far_right.scope := ⟨rfl, rfl, rfl, by decide +kernel, rfl, by decide +kernel, by decide +kernel⟩
theorem k_law (W : Wd) : (compB W (d_law.ct G) d_law.body).1 = d_law.code := by kernel_rfl
theorem s_law : FnScope d_law.N d_law.ps d_law.scope := ⟨rfl, rfl, rfl, by decide +kernel, rfl, by decide +kernel, by decide +kernel⟩
end C

set_option Elab.async false
set_option linter.all false
set_option maxRecDepth 100000
set_option maxHeartbeats 0
namespace C
open PySem Q
def sAt : Ss → Nat → S
  | .cons s _, 0 => s
  | .cons _ ss, n + 1 => sAt ss n
  | .nil, _ => .bad
def v0 : D := (.tup [(.tup [(.tup [(.int 1), (.int 3)]), (.tup [(.int 2), (.int 0)]), (.tup [(.int 3), (.int 1)]), (.tup [(.int 0), (.int 2)])]), (.tup [(.tup [(.int 1), (.int 3)]), (.tup [(.int 2), (.int 0)]), (.tup [(.int 3), (.int 1)]), (.tup [(.int 0), (.int 2)])]), (.tup [(.tup [(.int 0), (.int 0)]), (.tup [(.int 1), (.int 1)])]), (.tup [(.tup [(.int 0), (.int 0)]), (.tup [(.int 1), (.int 1)])]), (.tup [(.tup [(.int 1), (.int 0)]), (.tup [(.int 1), (.int 0)]), (.tup [(.int 1), (.int 0)]), (.tup [(.int 1), (.int 0)])]), (.tup [(.tup []), (.tup [])]), (.int 0)])
def v1 : D := (.tup [(.tup [(.int 0), (.int 0)]), (.tup [(.int 1), (.int 1)])])
def v2 : D := (.tup [(.tup [(.tup [(.int 0), (.int 1)]), (.tup [(.int 0), (.int 1)])]), (.tup [(.tup [(.int 0), (.int 0)]), (.tup [(.int 0), (.int 0)])]), (.tup [(.tup [(.int 0), (.int 0)]), (.tup [(.int 1), (.int 1)])]), (.tup [(.tup [(.int (-1)), (.int (-1))]), (.tup [(.int (-1)), (.int (-1))])]), (.tup [(.tup [(.int (-1)), (.int 0)]), (.tup [(.int 1), (.int (-1))])]), (.tup [(.tup [(.int 0)]), (.tup [(.int 1)])]), (.int 0)])
def v3 : D := (.tup [(.tup [(.tup [(.int 0), (.int 1)]), (.tup [(.int 0), (.int 1)])]), (.tup [(.tup [(.int 0), (.int 0)]), (.tup [(.int 0), (.int 0)])]), (.tup [(.tup [(.int 0), (.int 0)]), (.tup [(.int 1), (.int 1)])]), (.tup [(.tup [(.int 0), (.int 0)]), (.tup [(.int 1), (.int 1)])]), (.tup [(.tup [(.int (-1)), (.int 0)]), (.tup [(.int 1), (.int (-1))])]), (.tup [(.tup [(.int 0)]), (.tup [(.int 1)])]), (.int 0)])
def v4 : D := (.tup [(.tup [(.tup [(.int 0), (.int 1)]), (.tup [(.int 0), (.int 1)])]), (.tup [(.tup [(.int 0), (.int 0)]), (.tup [(.int 0), (.int 0)])]), (.tup [(.tup [(.int 0), (.int (-1))]), (.tup [(.int (-1)), (.int 1)])]), (.tup [(.tup [(.int 0), (.int 0)]), (.tup [(.int 1), (.int 1)])]), (.tup [(.tup [(.int (-1)), (.int 0)]), (.tup [(.int 1), (.int (-1))])]), (.tup [(.tup [(.int 0)]), (.tup [(.int 1)])]), (.int 0)])
theorem st_0 (ds : List D) : ex (callN pg 29) (sAt c_law 0) [.val (.scr ds), .no, .no, .no, .no, .no] [] = .ok (.nx [.val (.scr ds), .no, .no, .no, .no, .no], []) := by kernel_rfl
theorem st_1 (ds : List D) : ex (callN pg 29) (sAt c_law 1) [.val (.scr ds), .no, .no, .no, .no, .no] [] = .ok (.nx [.val (.scr ds), .no, .no, .no, .no, .no], []) := by kernel_rfl
theorem st_2 (ds : List D) : ex (callN pg 29) (sAt c_law 2) [.val (.scr ds), .no, .no, .no, .no, .no] [] = .ok (.nx [.val (.scr ds), .no, .no, .no, .no, .no], []) := by kernel_rfl
theorem st_3 (ds : List D) : ex (callN pg 29) (sAt c_law 3) [.val (.scr ds), .no, .no, .no, .no, .no] [] = .ok (.nx [.val (.scr ds), .val v0, .no, .no, .no, .no], []) := by kernel_rfl
theorem st_4 (ds : List D) : ex (callN pg 29) (sAt c_law 4) [.val (.scr ds), .val v0, .no, .no, .no, .no] [] = .ok (.nx [.val (.scr ds), .val v0, .no, .no, .no, .no], []) := by kernel_rfl
theorem st_5 (ds : List D) : ex (callN pg 29) (sAt c_law 5) [.val (.scr ds), .val v0, .no, .no, .no, .no] [] = .ok (.nx [.val (.scr ds), .val v0, .no, .no, .no, .no], []) := by kernel_rfl
theorem st_6 (ds : List D) : ex (callN pg 29) (sAt c_law 6) [.val (.scr ds), .val v0, .no, .no, .no, .no] [] = .ok (.nx [.val (.scr ds), .val v0, .no, .no, .no, .no], []) := by kernel_rfl
theorem st_7 (ds : List D) : ex (callN pg 29) (sAt c_law 7) [.val (.scr ds), .val v0, .no, .no, .no, .no] [] = .ok (.nx [.val (.scr ds), .val v0, .val v1, .no, .no, .no], []) := by kernel_rfl
theorem st_8 (ds : List D) : ex (callN pg 29) (sAt c_law 8) [.val (.scr ds), .val v0, .val v1, .no, .no, .no] [] = .ok (.nx [.val (.scr ds), .val v0, .val v1, .no, .val v2, .val v3], []) := by kernel_rfl
theorem st_9 (ds : List D) : ex (callN pg 29) (sAt c_law 9) [.val (.scr ds), .val v0, .val v1, .no, .val v2, .val v3] [] = .ok (.nx [.val (.scr ds), .val v0, .val v1, .val v4, .val v2, .val v3], []) := by kernel_rfl
theorem st_10 (ds : List D) : ex (callN pg 29) (sAt c_law 10) [.val (.scr ds), .val v0, .val v1, .val v4, .val v2, .val v3] [] = .ok (.nx [.val (.scr ds), .val v0, .val v1, .val v4, .val v2, .val v3], []) := by kernel_rfl
theorem st_11 (ds : List D) : ex (callN pg 29) (sAt c_law 11) [.val (.scr ds), .val v0, .val v1, .val v4, .val v2, .val v3] [] = .ok (.nx [.val (.scr ds), .val v0, .val v1, .val v4, .val v2, .val v3], []) := by kernel_rfl
theorem st_12 (ds : List D) : ex (callN pg 29) (sAt c_law 12) [.val (.scr ds), .val v0, .val v1, .val v4, .val v2, .val v3] [] = .ok (.nx [.val (.scr ds), .val v0, .val v1, .val v4, .val v2, .val v3], []) := by kernel_rfl
theorem st_13 (ds : List D) : ex (callN pg 29) (sAt c_law 13) [.val (.scr ds), .val v0, .val v1, .val v4, .val v2, .val v3] [] = .ok (.nx [.val (.scr ds), .val v0, .val v1, .val v4, .val v2, .val v3], []) := by kernel_rfl
theorem st_14 (ds : List D) : ex (callN pg 29) (sAt c_law 14) [.val (.scr ds), .val v0, .val v1, .val v4, .val v2, .val v3] [] = .ok (.nx [.val (.scr ds), .val v0, .val v1, .val v4, .val v2, .val v3], []) := by kernel_rfl
theorem st_15 (ds : List D) : ex (callN pg 29) (sAt c_law 15) [.val (.scr ds), .val v0, .val v1, .val v4, .val v2, .val v3] [] = .ok (.rt (.bl true), []) := by kernel_rfl
theorem exs_nx {cl : Cl} {s : S} {ss : Ss} {env env' : Q.Env} {S S' : Sto} {r : Res (Out × Sto)} (h : ex cl s env S = .ok (.nx env', S')) (t : exs cl ss env' S' = r) : exs cl (.cons s ss) env S = r := by
  rw [exs]
  unfold M.bind
  rw [h]
  exact t
theorem exs_rt {cl : Cl} {s : S} {ss : Ss} {env : Q.Env} {S S' : Sto} {d : D} (h : ex cl s env S = .ok (.rt d, S')) : exs cl (.cons s ss) env S = .ok (.rt d, S') := by
  rw [exs]
  unfold M.bind
  rw [h]
  rfl
theorem body_true (ds : List D) : exs (callN pg 29) c_law [.val (.scr ds), .no, .no, .no, .no, .no] [] = .ok (.rt (.bl true), []) := exs_nx (st_0 ds) (exs_nx (st_1 ds) (exs_nx (st_2 ds) (exs_nx (st_3 ds) (exs_nx (st_4 ds) (exs_nx (st_5 ds) (exs_nx (st_6 ds) (exs_nx (st_7 ds) (exs_nx (st_8 ds) (exs_nx (st_9 ds) (exs_nx (st_10 ds) (exs_nx (st_11 ds) (exs_nx (st_12 ds) (exs_nx (st_13 ds) (exs_nx (st_14 ds) (exs_rt (st_15 ds))))))))))))))))
end C

set_option Elab.async false
set_option linter.all false
set_option maxRecDepth 100000
set_option maxHeartbeats 0
namespace C
open PySem PySem.Spec PyProof.Rows L2 Q
def fa : List He.Fa := ([.glo "is_integer", .glo "is_table", .glo "are_wishes", .glo "sizes_of", .glo "wrong_place", .glo "need_book", .glo "kinds_of", .glo "is_kind", .glo "is_deed", .glo "is_state", .glo "need_state", .glo "need_kind", .glo "done_at", .glo "all_done", .glo "rows_in"] : List He.Fa) ++ ([.glo "closings_in", .glo "closings", .glo "closed_books", .glo "unlike_entries", .glo "mended", .glo "changes", .glo "late_past", .glo "does_close", .glo "open_in", .glo "open_squares", .glo "need_closed", .glo "need_asked", .glo "fate_rows", .glo "fate", .glo "is_as_told"] : List He.Fa) ++ ([.glo "goes_back", .glo "rests_that_break", .glo "breaks_in", .glo "size_of", .glo "least_break", .glo "keeps", .glo "breaking", .glo "are_kinds", .glo "does_break", .glo "are_states", .glo "is_row", .glo "are_fates", .glo "does_hold", .glo "need_form", .glo "check"] : List He.Fa) ++ ([.glo "_law_kept", .glo "_law_turns", .glo "_law_switch", .glo "_law_five", .glo "_law_far_right", .glo "law", .free "ValueError", .free "all", .free "bool", .free "int", .free "isinstance", .free "len", .free "list", .free "min", .free "range"] : List He.Fa) ++ ([.free "sorted", .free "str", .free "super", .free "tuple", .free "zip", .int "MOST_STATES" (8), .int "MOST_KINDS" (5), .int "MOST_ANSWER" (9), .int "NOTHING" (-1), .int "MOST_HANDS" (6), .str "ALIKE" "alike", .str "BACKS" "backs", .str "ANSWERS" "answers", .str "STAYS" "stays", .str "WISHES" "wishes"] : List He.Fa) ++ ([.glo "PROMISES", .str "HOLDS" "holds", .str "BREAKS" "breaks"] : List He.Fa)
def tb : List (Str × List Str) := [("PROMISES", ["alike", "backs", "answers", "stays", "wishes"])]
abbrev R : PySem.W.OpenRow := PySem.W.OpenLaw.row PySem.Challenge.rw_pastdeeds_k22_things_by_hand
def fn : List He.DefD := ([dq d_is_integer, dq d_is_table, dq d_are_wishes, dq d_sizes_of, dq d_wrong_place, dq d_need_book, dq d_kinds_of, dq d_is_kind, dq d_is_deed, dq d_is_state, dq d_need_state, dq d_need_kind, dq d_done_at, dq d_all_done, dq d_rows_in] : List He.DefD) ++ ([dq d_closings_in, dq d_closings, dq d_closed_books, dq d_unlike_entries, dq d_mended, dq d_changes, dq d_late_past, dq d_does_close, dq d_open_in, dq d_open_squares, dq d_need_closed, dq d_need_asked, dq d_fate_rows, dq d_fate, dq d_is_as_told] : List He.DefD) ++ ([dq d_goes_back, dq d_rests_that_break, dq d_breaks_in, dq d_size_of, dq d_least_break, dq d_keeps, dq d_breaking, dq d_are_kinds, dq d_does_break, dq d_are_states, dq d_is_row, dq d_are_fates, dq d_does_hold, dq d_need_form, dq d_check] : List He.DefD) ++ ([dq d__law_kept, dq d__law_turns, dq d__law_switch, dq d__law_five, dq d__law_far_right, dq d_law] : List He.DefD)
theorem fn_eq : fn = fs.map dq := by kernel_rfl
abbrev hk : PySem.W.Hook := hookQ 4 fa fn tb
def names : List PySem.Str := (["PastError", "BadBook", "BadKind", "BadState", "BadPromise", "BadPaper", "NotClosed", "MOST_STATES", "MOST_KINDS", "MOST_ANSWER", "NOTHING", "is_integer", "is_table", "are_wishes", "sizes_of", "wrong_place", "need_book", "kinds_of", "is_kind", "is_deed", "is_state", "need_state", "need_kind", "done_at", "all_done", "rows_in", "closings_in", "closings", "closed_books", "unlike_entries"] : List PySem.Str) ++ (["mended", "changes", "late_past", "does_close", "open_in", "open_squares", "need_closed", "MOST_HANDS", "ALIKE", "BACKS", "ANSWERS", "STAYS", "WISHES", "PROMISES", "need_asked", "fate_rows", "fate", "is_as_told", "goes_back", "rests_that_break", "breaks_in", "size_of", "least_break", "keeps", "breaking", "are_kinds", "does_break", "HOLDS", "BREAKS", "are_states"] : List PySem.Str) ++ (["is_row", "are_fates", "does_hold", "need_form", "check", "_law_kept", "_law_turns", "_law_switch", "_law_five", "_law_far_right"] : List PySem.Str)
def ob (s : PySem.W.SharedT) : He.AlD := obsQG 4 fa fn tb (HandSHeadRun.getT s)
theorem ob_eq (s : PySem.W.SharedT) : ob s = hk.obs s.abs := obsQG_eq (HandSHeadRun.getT_eq s)
theorem run (w : World) : HandSHeadRun.RunEq R (PySem.W.view R.prog [78]) hk ob 4000 names w := by
  intro os
  kernel_rfl
theorem b_is_integer : BindsP d_is_integer := fun _ _ _ _ _ _ us hl => match us, hl with
  | [_, _, _], _ => rfl
theorem b_is_table : BindsP d_is_table := fun _ _ _ _ _ _ us hl => match us, hl with
  | [_, _, _, _, _], _ => rfl
theorem b_are_wishes : BindsP d_are_wishes := fun _ _ _ _ _ _ us hl => match us, hl with
  | [_, _, _], _ => rfl
theorem b_sizes_of : BindsP d_sizes_of := fun _ _ _ _ _ _ us hl => match us, hl with
  | [_], _ => rfl
theorem b_wrong_place : BindsP d_wrong_place := fun _ _ _ _ _ _ us hl => match us, hl with
  | [_], _ => rfl
theorem b_need_book : BindsP d_need_book := fun _ _ _ _ _ _ us hl => match us, hl with
  | [_], _ => rfl
theorem b_kinds_of : BindsP d_kinds_of := fun _ _ _ _ _ _ us hl => match us, hl with
  | [_], _ => rfl
theorem b_is_kind : BindsP d_is_kind := fun _ _ _ _ _ _ us hl => match us, hl with
  | [_, _], _ => rfl
theorem b_is_deed : BindsP d_is_deed := fun _ _ _ _ _ _ us hl => match us, hl with
  | [_, _], _ => rfl
theorem b_is_state : BindsP d_is_state := fun _ _ _ _ _ _ us hl => match us, hl with
  | [_, _], _ => rfl
theorem b_need_state : BindsP d_need_state := fun _ _ _ _ _ _ us hl => match us, hl with
  | [_, _], _ => rfl
theorem b_need_kind : BindsP d_need_kind := fun _ _ _ _ _ _ us hl => match us, hl with
  | [_, _], _ => rfl
theorem b_done_at : BindsP d_done_at := fun _ _ _ _ _ _ us hl => match us, hl with
  | [_, _, _], _ => rfl
theorem b_all_done : BindsP d_all_done := fun _ _ _ _ _ _ us hl => match us, hl with
  | [_, _, _], _ => rfl
theorem b_rows_in : BindsP d_rows_in := fun _ _ _ _ _ _ us hl => match us, hl with
  | [_], _ => rfl
theorem b_closings_in : BindsP d_closings_in := fun _ _ _ _ _ _ us hl => match us, hl with
  | [_, _, _, _], _ => rfl
theorem b_closings : BindsP d_closings := fun _ _ _ _ _ _ us hl => match us, hl with
  | [_, _, _], _ => rfl
theorem b_closed_books : BindsP d_closed_books := fun _ _ _ _ _ _ us hl => match us, hl with
  | [_], _ => rfl
theorem b_unlike_entries : BindsP d_unlike_entries := fun _ _ _ _ _ _ us hl => match us, hl with
  | [_, _], _ => rfl
theorem b_mended : BindsP d_mended := fun _ _ _ _ _ _ us hl => match us, hl with
  | [_], _ => rfl
theorem b_changes : BindsP d_changes := fun _ _ _ _ _ _ us hl => match us, hl with
  | [_, _], _ => rfl
theorem b_late_past : BindsP d_late_past := fun _ _ _ _ _ _ us hl => match us, hl with
  | [_, _, _], _ => rfl
theorem b_does_close : BindsP d_does_close := fun _ _ _ _ _ _ us hl => match us, hl with
  | [_, _, _, _], _ => rfl
theorem b_open_in : BindsP d_open_in := fun _ _ _ _ _ _ us hl => match us, hl with
  | [_, _], _ => rfl
theorem b_open_squares : BindsP d_open_squares := fun _ _ _ _ _ _ us hl => match us, hl with
  | [_], _ => rfl
theorem b_need_closed : BindsP d_need_closed := fun _ _ _ _ _ _ us hl => match us, hl with
  | [_], _ => rfl
theorem b_need_asked : BindsP d_need_asked := fun _ _ _ _ _ _ us hl => match us, hl with
  | [_, _], _ => rfl
theorem b_fate_rows : BindsP d_fate_rows := fun _ _ _ _ _ _ us hl => match us, hl with
  | [_, _, _], _ => rfl
theorem b_fate : BindsP d_fate := fun _ _ _ _ _ _ us hl => match us, hl with
  | [_, _, _], _ => rfl
theorem b_is_as_told : BindsP d_is_as_told := fun _ _ _ _ _ _ us hl => match us, hl with
  | [_, _, _, _, _], _ => rfl
theorem b_goes_back : BindsP d_goes_back := fun _ _ _ _ _ _ us hl => match us, hl with
  | [_, _, _], _ => rfl
theorem b_rests_that_break : BindsP d_rests_that_break := fun _ _ _ _ _ _ us hl => match us, hl with
  | [_, _, _, _], _ => rfl
theorem b_breaks_in : BindsP d_breaks_in := fun _ _ _ _ _ _ us hl => match us, hl with
  | [_, _], _ => rfl
theorem b_size_of : BindsP d_size_of := fun _ _ _ _ _ _ us hl => match us, hl with
  | [_], _ => rfl
theorem b_least_break : BindsP d_least_break := fun _ _ _ _ _ _ us hl => match us, hl with
  | [_, _], _ => rfl
theorem b_keeps : BindsP d_keeps := fun _ _ _ _ _ _ us hl => match us, hl with
  | [_, _], _ => rfl
theorem b_breaking : BindsP d_breaking := fun _ _ _ _ _ _ us hl => match us, hl with
  | [_, _], _ => rfl
theorem b_are_kinds : BindsP d_are_kinds := fun _ _ _ _ _ _ us hl => match us, hl with
  | [_, _], _ => rfl
theorem b_does_break : BindsP d_does_break := fun _ _ _ _ _ _ us hl => match us, hl with
  | [_, _, _], _ => rfl
theorem b_are_states : BindsP d_are_states := fun _ _ _ _ _ _ us hl => match us, hl with
  | [_, _, _], _ => rfl
theorem b_is_row : BindsP d_is_row := fun _ _ _ _ _ _ us hl => match us, hl with
  | [_, _], _ => rfl
theorem b_are_fates : BindsP d_are_fates := fun _ _ _ _ _ _ us hl => match us, hl with
  | [_, _, _], _ => rfl
theorem b_does_hold : BindsP d_does_hold := fun _ _ _ _ _ _ us hl => match us, hl with
  | [_, _, _], _ => rfl
theorem b_need_form : BindsP d_need_form := fun _ _ _ _ _ _ us hl => match us, hl with
  | [_], _ => rfl
theorem b_check : BindsP d_check := fun _ _ _ _ _ _ us hl => match us, hl with
  | [_, _, _], _ => rfl
theorem b__law_kept : BindsP d__law_kept := fun _ _ _ _ _ _ us hl => match us, hl with
  | [_], _ => rfl
theorem b__law_turns : BindsP d__law_turns := fun _ _ _ _ _ _ us hl => match us, hl with
  | [], _ => rfl
theorem b__law_switch : BindsP d__law_switch := fun _ _ _ _ _ _ us hl => match us, hl with
  | [_, _], _ => rfl
theorem b__law_five : BindsP d__law_five := fun _ _ _ _ _ _ us hl => match us, hl with
  | [], _ => rfl
theorem b__law_far_right : BindsP d__law_far_right := fun _ _ _ _ _ _ us hl => match us, hl with
  | [], _ => rfl
theorem b_law : BindsP d_law := fun _ _ _ _ _ _ us hl => match us, hl with
  | [_], _ => rfl
theorem mem_fs {p : Fd → Prop} (h_is_integer : p d_is_integer) (h_is_table : p d_is_table) (h_are_wishes : p d_are_wishes) (h_sizes_of : p d_sizes_of) (h_wrong_place : p d_wrong_place) (h_need_book : p d_need_book) (h_kinds_of : p d_kinds_of) (h_is_kind : p d_is_kind) (h_is_deed : p d_is_deed) (h_is_state : p d_is_state) (h_need_state : p d_need_state) (h_need_kind : p d_need_kind) (h_done_at : p d_done_at) (h_all_done : p d_all_done) (h_rows_in : p d_rows_in) (h_closings_in : p d_closings_in) (h_closings : p d_closings) (h_closed_books : p d_closed_books) (h_unlike_entries : p d_unlike_entries) (h_mended : p d_mended) (h_changes : p d_changes) (h_late_past : p d_late_past) (h_does_close : p d_does_close) (h_open_in : p d_open_in) (h_open_squares : p d_open_squares) (h_need_closed : p d_need_closed) (h_need_asked : p d_need_asked) (h_fate_rows : p d_fate_rows) (h_fate : p d_fate) (h_is_as_told : p d_is_as_told) (h_goes_back : p d_goes_back) (h_rests_that_break : p d_rests_that_break) (h_breaks_in : p d_breaks_in) (h_size_of : p d_size_of) (h_least_break : p d_least_break) (h_keeps : p d_keeps) (h_breaking : p d_breaking) (h_are_kinds : p d_are_kinds) (h_does_break : p d_does_break) (h_are_states : p d_are_states) (h_is_row : p d_is_row) (h_are_fates : p d_are_fates) (h_does_hold : p d_does_hold) (h_need_form : p d_need_form) (h_check : p d_check) (h__law_kept : p d__law_kept) (h__law_turns : p d__law_turns) (h__law_switch : p d__law_switch) (h__law_five : p d__law_five) (h__law_far_right : p d__law_far_right) (h_law : p d_law) : ∀ d ∈ fs, p d := by
  intro d hd
  simp only [fs, List.cons_append, List.nil_append, List.append_assoc, List.mem_cons, List.not_mem_nil, or_false] at hd
  rcases hd with rfl | rfl | rfl | rfl | rfl | rfl | rfl | rfl | rfl | rfl | rfl | rfl | rfl | rfl | rfl | rfl | rfl | rfl | rfl | rfl | rfl | rfl | rfl | rfl | rfl | rfl | rfl | rfl | rfl | rfl | rfl | rfl | rfl | rfl | rfl | rfl | rfl | rfl | rfl | rfl | rfl | rfl | rfl | rfl | rfl | rfl | rfl | rfl | rfl | rfl | rfl <;> assumption
theorem bs_ok : ∀ d ∈ fs, BindsP d := mem_fs b_is_integer b_is_table b_are_wishes b_sizes_of b_wrong_place b_need_book b_kinds_of b_is_kind b_is_deed b_is_state b_need_state b_need_kind b_done_at b_all_done b_rows_in b_closings_in b_closings b_closed_books b_unlike_entries b_mended b_changes b_late_past b_does_close b_open_in b_open_squares b_need_closed b_need_asked b_fate_rows b_fate b_is_as_told b_goes_back b_rests_that_break b_breaks_in b_size_of b_least_break b_keeps b_breaking b_are_kinds b_does_break b_are_states b_is_row b_are_fates b_does_hold b_need_form b_check b__law_kept b__law_turns b__law_switch b__law_five b__law_far_right b_law
theorem ss_ok : ∀ d ∈ fs, FnScope d.N d.ps d.scope := mem_fs s_is_integer s_is_table s_are_wishes s_sizes_of s_wrong_place s_need_book s_kinds_of s_is_kind s_is_deed s_is_state s_need_state s_need_kind s_done_at s_all_done s_rows_in s_closings_in s_closings s_closed_books s_unlike_entries s_mended s_changes s_late_past s_does_close s_open_in s_open_squares s_need_closed s_need_asked s_fate_rows s_fate s_is_as_told s_goes_back s_rests_that_break s_breaks_in s_size_of s_least_break s_keeps s_breaking s_are_kinds s_does_break s_are_states s_is_row s_are_fates s_does_hold s_need_form s_check s__law_kept s__law_turns s__law_switch s__law_five s__law_far_right s_law
theorem ks_ok : ∀ d ∈ fs, ∀ W, (compB W (d.ct G) d.body).1 = d.code := mem_fs k_is_integer k_is_table k_are_wishes k_sizes_of k_wrong_place k_need_book k_kinds_of k_is_kind k_is_deed k_is_state k_need_state k_need_kind k_done_at k_all_done k_rows_in k_closings_in k_closings k_closed_books k_unlike_entries k_mended k_changes k_late_past k_does_close k_open_in k_open_squares k_need_closed k_need_asked k_fate_rows k_fate k_is_as_told k_goes_back k_rests_that_break k_breaks_in k_size_of k_least_break k_keeps k_breaking k_are_kinds k_does_break k_are_states k_is_row k_are_fates k_does_hold k_need_form k_check k__law_kept k__law_turns k__law_switch k__law_five k__law_far_right k_law
theorem ls_ok : ∀ d ∈ fs, (pgOf fs).lookup d.x = some d.fn := by
  rw [pg_eq]
  exact mem_fs (by kernel_rfl) (by kernel_rfl) (by kernel_rfl) (by kernel_rfl) (by kernel_rfl) (by kernel_rfl) (by kernel_rfl) (by kernel_rfl) (by kernel_rfl) (by kernel_rfl) (by kernel_rfl) (by kernel_rfl) (by kernel_rfl) (by kernel_rfl) (by kernel_rfl) (by kernel_rfl) (by kernel_rfl) (by kernel_rfl) (by kernel_rfl) (by kernel_rfl) (by kernel_rfl) (by kernel_rfl) (by kernel_rfl) (by kernel_rfl) (by kernel_rfl) (by kernel_rfl) (by kernel_rfl) (by kernel_rfl) (by kernel_rfl) (by kernel_rfl) (by kernel_rfl) (by kernel_rfl) (by kernel_rfl) (by kernel_rfl) (by kernel_rfl) (by kernel_rfl) (by kernel_rfl) (by kernel_rfl) (by kernel_rfl) (by kernel_rfl) (by kernel_rfl) (by kernel_rfl) (by kernel_rfl) (by kernel_rfl) (by kernel_rfl) (by kernel_rfl) (by kernel_rfl) (by kernel_rfl) (by kernel_rfl) (by kernel_rfl) (by kernel_rfl)
theorem gs_ok : chkG fa tb fs G = true := by kernel_rfl
theorem gl_ok : (fs.all fun d => fa.any (isGlo d.x)) = true := by kernel_rfl
theorem law_in : d_law ∈ fs := by
  simp only [fs, List.cons_append, List.nil_append, List.append_assoc, List.mem_cons, true_or, or_true]
end C
open PySem PySem.W PySem.Calls PyProof.Rows
theorem C.holds_of (n : Nat) (hn : L2.Room n callerA) (hl : ∀ ns : List Int, ns.length ≤ 63 → ∃ S', Q.callN C.pg n "law" [.scr (ns.map .int)] [] = .ok (.bl true, S')) : PySem.Challenge.rw_pastdeeds_k22_things_by_hand.Holds := by
  w_on; o_law
  refine HandSHeadRun.head_any (r := OpenLaw.row PySem.Challenge.rw_pastdeeds_k22_things_by_hand) (q := view (OpenLaw.row PySem.Challenge.rw_pastdeeds_k22_things_by_hand).prog [78]) (H := C.hk) (ob := C.ob) (M := 4000) (loose := C.names) (d := HandSHeadRun.topDef (OpenLaw.row PySem.Challenge.rw_pastdeeds_k22_things_by_hand).prog 78) (kwd := []) C.ob_eq
    (by kernel_rfl) (fun s => by kernel_rfl) C.run (by kernel_rfl) (by kernel_rfl) (by kernel_rfl) (by rfl) (by first | assumption | decide +kernel) (by decide +kernel) ⟨rfl, rfl, rfl, rfl, rfl, by decide +kernel⟩ ?hw ?hc
  case hw => w_witness2
  case hc =>
    refine L2.walk_ofE (l := PySem.Challenge.rw_pastdeeds_k22_things_by_hand) (n := 63) (k := n) (x := "_law_script") (CX := L2.CX0) rfl (by decide) (by kernel_rfl) hn ?F (fun _ _ _ _ z => z)
    intro w mg fa h Y N hmg0
    obtain ⟨K, KX, c⟩ := Y
    have hmg : mg ("law" : PySem.Str) = some (.ref fa) := by
      have e : (HandSHeadRun.topDef (OpenLaw.row PySem.Challenge.rw_pastdeeds_k22_things_by_hand).prog 78).name = ("law" : PySem.Str) := by kernel_rfl
      rw [← e]
      exact hmg0
    rw [C.fn_eq] at c
    have T := Q.txt_of c KX N C.gl_ok C.bs_ok C.gs_ok C.ss_ok C.ls_ok C.ks_ok
    obtain ⟨fd, A⟩ := Q.ats_of c KX N C.gl_ok C.bs_ok C.d_law C.law_in
    have lx : C.d_law.x = ("law" : PySem.Str) := rfl
    have ea : He.ga K C.d_law.x = fa := Q.At.same A (by rw [lx]; exact hmg)
    rw [ea] at A
    have b := L2.FunD.bindsA (ps := ["_law_script"]) A.F (C.b_law)
    refine ⟨K, fd, _, KX, fun s v => b s [v] rfl, fun H a ns hlen _ hS => Q.law_sp (P := (PySem.Challenge.rw_pastdeeds_k22_things_by_hand).prog) (w := w) (base := h) (mg := mg) (n := n) (x := "law") hlen hS (hl ns hlen), fun base _ _ => ?_⟩
    have := Q.calls (P := (PySem.Challenge.rw_pastdeeds_k22_things_by_hand).prog) (w := w) (base := base) T n C.d_law C.law_in fa fd A
    rw [C.pg_eq] at this
    exact this

set_option maxRecDepth 100000
set_option maxHeartbeats 0
theorem PySem.Challenge.cw_pastdeeds_k22_things_by_hand_holds : PySem.Challenge.rw_pastdeeds_k22_things_by_hand.Holds := by
  exact C.holds_of 30 ⟨rfl, by decide, by decide⟩ fun ns _ => ⟨[], Q.call_rt (fn := ⟨1, 6, C.c_law⟩) (by kernel_rfl) rfl (C.body_true (ns.map .int))⟩
