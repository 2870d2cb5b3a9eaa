import PyProof.Rows.All
import PySem.PyData
import PyProof.P3Statements
import PyProof.EqLayable
import HandS.List
import HandS.Text
import HandS.ForMost
import HandS.ForExc
import HandS.ExcOwn
import HandS.WordsExc
import HandS.Comp
import HandS.IsInst
import HandS.Wide
import HandS.Zip
import HandS.Rev
import HandS.TupAny
import HandS.More
import HandS.Walk
import HandS.Deep
import HandS.Codes
import HandS.Call
import KE.DataMinMax
import KE.GoesEnum
import HandS.TryOnly
import HandS.ExcInit
import HandS.ExcField
import HandS.ExcIs
import KE.KExcSuper
import KE.KSuper
import HandS.ExcValue
import KE.KExcIs
import HandS.Head0
import HandS.Head1
import HandS.Head2
import HandS.HeadEnd
import HandS.HeadHook1
import HandS.HeadHook2
import HandS.HeadHook4
import HandS.Ends
import HandS.Words
import HandS.Defaults
import PySem.Challenge.RW_longpound_k13_chamber_fills
import KE.KStateDown
set_option Elab.async false
section
set_option linter.all false
namespace VS
open PySem

/-! ## values as trees -/
inductive D where
  | non
  | bl (b : Bool)
  | int (i : Int)
  | str (s : Str)
  | lst (f : Bool) (xs : List D)
  | tup (xs : List D)
  deriving Inhabited

mutual
def D.shr : D → Bool
  | .lst f xs => f && shrs xs
  | .tup xs => shrs xs
  | .non => true
  | .bl _ => true
  | .int _ => true
  | .str _ => true
def shrs : List D → Bool
  | [] => true
  | d :: ds => d.shr && shrs ds
end
mutual
def D.frz : D → D
  | .lst _ xs => .lst true (frzs xs)
  | .tup xs => .tup (frzs xs)
  | .non => .non
  | .bl b => .bl b
  | .int i => .int i
  | .str s => .str s
def frzs : List D → List D
  | [] => []
  | d :: ds => d.frz :: frzs ds
end
/-- the children frozen -/
def D.frzK : D → D
  | .lst f xs => .lst f (frzs xs)
  | .tup xs => .tup (frzs xs)
  | d => d
/-- are the children shareable -/
def D.shrK : D → Bool
  | .lst _ xs => shrs xs
  | .tup xs => shrs xs
  | _ => true
mutual
def D.py : D → PyData
  | .non => .none
  | .bl b => .bool b
  | .int i => .int i
  | .str s => .str s
  | .lst _ xs => .list (pys xs)
  | .tup xs => .tuple (pys xs)
def pys : List D → List PyData
  | [] => []
  | d :: ds => d.py :: pys ds
end
def D.kids : D → Option (List D)
  | .lst _ xs => some xs
  | .tup xs => some xs
  | _ => none
def D.ty : D → Str
  | .non => "NoneType"
  | .bl _ => "bool"
  | .int _ => "int"
  | .str _ => "str"
  | .lst _ _ => "list"
  | .tup _ => "tuple"
def D.truth : D → Option Bool
  | .non => some false
  | .bl b => some b
  | .int i => some (i != 0)
  | .str s => if s.length ≤ sizeLine then some (s.length != 0) else none
  | .lst _ xs => some (!xs.isEmpty)
  | .tup xs => some (!xs.isEmpty)
def ints? : List D → Option (List Int)
  | [] => some []
  | .int i :: ds => (ints? ds).map (i :: ·)
  | _ => none

/-! ## the language -/
inductive Bop | add | sub | mul | fdiv | mod | pow
  deriving DecidableEq, Repr
inductive Cop | eq | ne | lt | le | gt | ge | isin | notin | is_ | isnt
  deriving DecidableEq, Repr
inductive Pr | len | int1 | min2 | max2 | minL | maxL | sum | abs | tuple1 | list1 | isT (ts : List String)
  deriving DecidableEq, Repr
/-- methods that only tell -/
inductive Mt | lindex | scount | sfind | sjoin
  deriving DecidableEq, Repr
inductive Tg | v (i : Nat) | t (is : List Nat)
  deriving DecidableEq, Repr
mutual
inductive E where
  | non | bl (b : Bool) | int (i : Int) | str (s : Str)
  | var (i : Nat)
  | bin (o : Bop) (a b : E)
  | neg (a : E)
  | cmp (o : Cop) (a b : E)
  | cmp2 (o p : Cop) (a b c : E)
  | isN (neg : Bool) (a : E)
  | and_ (a b : E) | or_ (a b : E) | not_ (a : E)
  | ite (c a b : E)
  | tup (es : Es) | lst (es : Es)
  | sub (a i : E)
  | slice (a : E) (lo hi : Option E)
  | call (f : Nat) (es : Es)
  | prim (p : Pr) (es : Es)
  | meth (p : Mt) (a : E) (es : Es)
  | comp (elt : E) (own : List Nat) (tg : Tg) (it : It) (cond : Option E)
  | exIs (ts : List Str)
  | exFld (f : Str)
inductive Es where
  | nil | cons (e : E) (es : Es)
inductive It where
  | rng (es : Es)
  | over (e : E)
  | enum (e : E)
  | zip (a b : E)
  | rev (e : E)
end
mutual
inductive S where
  | asg (i : Nat) (e : E)
  | unp (is : List Nat) (e : E)
  | setI (x : Nat) (i e : E)
  | app (x : Nat) (e : E)
  | ins (x : Nat) (i e : E)
  | setSl (x : Nat) (lo hi e : E)
  | expr (e : E)
  | ret (e : E)
  | if_ (c : E) (a b : Ss)
  | for_ (tg : Tg) (it : It) (b : Ss)
  | while_ (c : E) (b : Ss)
  | brk | cont | pass | never
  | raise (c : Str) (es : Es)
  | try_ (b : Ss) (i : Nat) (c : Str) (h : Ss)
inductive Ss where
  | nil | cons (s : S) (ss : Ss)
end

/-! ## what uses a slot; what calls no def of the text -/
mutual
def E.uses (k : Nat) : E → Bool
  | .non => false | .bl _ => false | .int _ => false | .str _ => false
  | .var i => i == k
  | .bin _ a b => a.uses k || b.uses k
  | .neg a => a.uses k
  | .cmp _ a b => a.uses k || b.uses k
  | .cmp2 _ _ a b c => a.uses k || b.uses k || c.uses k
  | .isN _ a => a.uses k
  | .and_ a b => a.uses k || b.uses k
  | .or_ a b => a.uses k || b.uses k
  | .not_ a => a.uses k
  | .ite c a b => c.uses k || a.uses k || b.uses k
  | .tup es => es.uses k
  | .lst es => es.uses k
  | .sub a i => a.uses k || i.uses k
  | .slice a lo hi => a.uses k || (match lo with | some e => e.uses k | none => false) || (match hi with | some e => e.uses k | none => false)
  | .call _ es => es.uses k
  | .prim _ es => es.uses k
  | .meth _ a es => a.uses k || es.uses k
  | .comp elt _ _ it cond => elt.uses k || it.uses k || (match cond with | some e => e.uses k | none => false)
  | .exIs _ => false | .exFld _ => false
def Es.uses (k : Nat) : Es → Bool
  | .nil => false
  | .cons e es => e.uses k || es.uses k
def It.uses (k : Nat) : It → Bool
  | .rng es => es.uses k
  | .over e => e.uses k
  | .enum e => e.uses k
  | .zip a b => a.uses k || b.uses k
  | .rev e => e.uses k
end
mutual
def S.uses (k : Nat) : S → Bool
  | .asg i e => i == k || e.uses k
  | .unp is e => is.contains k || e.uses k
  | .setI x i e => x == k || i.uses k || e.uses k
  | .app x e => x == k || e.uses k
  | .ins x i e => x == k || i.uses k || e.uses k
  | .setSl x lo hi e => x == k || lo.uses k || hi.uses k || e.uses k
  | .expr e => e.uses k
  | .ret e => e.uses k
  | .if_ c a b => c.uses k || a.uses k || b.uses k
  | .for_ _ it b => it.uses k || b.uses k
  | .while_ c b => c.uses k || b.uses k
  | .brk => false | .cont => false | .pass => false | .never => false
  | .raise _ es => es.uses k
  | .try_ b i _ h => b.uses k || i == k || h.uses k
def Ss.uses (k : Nat) : Ss → Bool
  | .nil => false
  | .cons s ss => s.uses k || ss.uses k
end
def cUses (elt : E) (cond : Option E) (i : Nat) : Bool := elt.uses i || (match cond with | some e => e.uses i | none => false)
mutual
/-- calls no def, stores nothing -/
def E.cf : E → Bool
  | .non => true | .bl _ => true | .int _ => true | .str _ => true
  | .var _ => true
  | .bin _ a b => a.cf && b.cf
  | .neg a => a.cf
  | .cmp _ a b => a.cf && b.cf
  | .cmp2 _ _ a b c => a.cf && b.cf && c.cf
  | .isN _ a => a.cf
  | .and_ a b => a.cf && b.cf
  | .or_ a b => a.cf && b.cf
  | .not_ a => a.cf
  | .ite c a b => c.cf && a.cf && b.cf
  | .tup es => es.cf
  | .lst es => es.cf
  | .sub a i => a.cf && i.cf
  | .slice a lo hi => a.cf && (match lo with | some e => e.cf | none => true) && (match hi with | some e => e.cf | none => true)
  | .call _ _ => false
  | .prim _ es => es.cf
  | .meth _ a es => a.cf && es.cf
  | .comp _ _ _ _ _ => false
  | .exIs _ => true | .exFld _ => true
def Es.cf : Es → Bool
  | .nil => true
  | .cons e es => e.cf && es.cf
end
def E.place : E → Bool
  | .var _ => true
  | .sub a _ => a.place
  | _ => false
/-- the name at which a place begins -/
def E.root : E → Nat
  | .var i => i
  | .sub a _ => a.root
  | _ => 0

/-! ## operations on trees -/
def mulOk (i j : Int) : Bool := decide (i.natAbs < 2 ^ 64) || decide (j.natAbs < 2 ^ 64) || decide (i.natAbs.log2 + j.natAbs.log2 < 1000000)
def bop : Bop → D → D → Option D
  | .add, .int i, .int j => some (.int (i + j))
  | .add, .str x, .str y => if x.length + y.length ≤ sizeLine then some (.str (x ++ y)) else none
  | .add, .lst _ xs, .lst _ ys => if xs.length + ys.length ≤ sizeLine then some (.lst false (xs ++ ys)) else none
  | .add, .tup xs, .tup ys => if xs.length + ys.length ≤ sizeLine then some (.tup (xs ++ ys)) else none
  | .sub, .int i, .int j => some (.int (i - j))
  | .mul, .int i, .int j => if mulOk i j then some (.int (i * j)) else none
  | .mul, .str z, .int n => if 0 ≤ n ∧ n ≤ 1000000 ∧ z.length * n.toNat ≤ 1000000 then some (.str (Txt.mul z n)) else none
  | .mul, .lst false xs, .int n => if 0 ≤ n ∧ n ≤ 1000000 ∧ xs.length * n.toNat ≤ 1000000 then some (.lst false (List.replicate n.toNat xs).flatten) else none
  | .fdiv, .int i, .int j => if 0 < j ∧ j.natAbs.log2 < 9000 then some (.int (i / j)) else none
  | .mod, .int i, .int j => if 0 < j then some (.int (i % j)) else none
  | .pow, .int i, .int j => if 0 ≤ j ∧ j ≤ 1000000 ∧ i.natAbs < 2 ^ 64 then some (.int (i ^ j.toNat)) else none
  | _, _, _ => none
def eqD (a b : D) : Option Bool := if SeqAt.shaped a.py && SeqAt.shaped b.py then some (PyData.eqv a.py b.py) else none
/-- a value without parts -/
def D.fl : D → Bool
  | .non => true | .bl _ => true | .int _ => true | .str _ => true
  | _ => false
def D.vl : D → L2.V
  | .non => .non | .bl b => .bl b | .int i => .int i | .str s => .str s
  | _ => .non
def inD (a : D) : D → Option Bool
  | .lst _ xs => if SeqAt.shaped a.py && SeqAt.shaped (.list (pys xs)) then some ((pys xs).any fun z => PyData.eqv z a.py) else none
  | .tup xs => if a.fl && xs.all D.fl then some (L2.inV a.vl (xs.map D.vl)) else none
  | .str z => match a with
    | .str y => some (!(Builtin.Str.occurrences z y 0 z.length 1).isEmpty)
    | _ => none
  | _ => none
def cop : Cop → D → D → Option Bool
  | .isin, a, b => inD a b
  | .notin, a, b => (inD a b).map (!·)
  | .is_, .bl a, .bl b => some (a == b)
  | .isnt, .bl a, .bl b => some (!(a == b))
  | .eq, a, b => eqD a b
  | .ne, a, b => (eqD a b).map (!·)
  | .lt, .int i, .int j => some (decide (i < j))
  | .le, .int i, .int j => some (decide (i ≤ j))
  | .gt, .int i, .int j => some (decide (j < i))
  | .ge, .int i, .int j => some (decide (j ≤ i))
  | .lt, .tup xs, .tup ys => match ints? xs, ints? ys with
    | some ns, some ms => some (HT.lexLt ns ms)
    | _, _ => none
  | _, _, _ => none
def subD : D → D → Option D
  | .lst _ xs, .int i => L2.atI xs i
  | .tup xs, .int i => L2.atI xs i
  | .str z, .int i => if z.length ≤ sizeLine then (L2.atI z.cps.toList i).map fun c => .str ⟨#[c]⟩ else none
  | _, _ => none
def sliceD (d : D) (lo hi : Option Int) : Option D := match d with
  | .lst _ xs => some (.lst false ((xs.drop (HT.sIx xs.length 0 lo)).take (HT.sIx xs.length xs.length hi - HT.sIx xs.length 0 lo)))
  | .tup xs => if HT.sIx xs.length 0 lo = 0 ∧ HT.sIx xs.length xs.length hi = xs.length then none else some (.tup ((xs.drop (HT.sIx xs.length 0 lo)).take (HT.sIx xs.length xs.length hi - HT.sIx xs.length 0 lo)))
  | .str z => if z.length ≤ sizeLine then some (.str (Txt.slice z lo hi)) else none
  | _ => none
/-- a built-in type's instances -/
def isTy (d : D) (t : String) : Option Bool := match d, t with
  | .non, "int" => some false | .non, "bool" => some false | .non, "str" => some false | .non, "list" => some false | .non, "tuple" => some false
  | .bl _, "int" => some true | .bl _, "bool" => some true | .bl _, "str" => some false | .bl _, "list" => some false | .bl _, "tuple" => some false
  | .int _, "int" => some true | .int _, "bool" => some false | .int _, "str" => some false | .int _, "list" => some false | .int _, "tuple" => some false
  | .str _, "int" => some false | .str _, "bool" => some false | .str _, "str" => some true | .str _, "list" => some false | .str _, "tuple" => some false
  | .lst _ _, "int" => some false | .lst _ _, "bool" => some false | .lst _ _, "str" => some false | .lst _ _, "list" => some true | .lst _ _, "tuple" => some false
  | .tup _, "int" => some false | .tup _, "bool" => some false | .tup _, "str" => some false | .tup _, "list" => some false | .tup _, "tuple" => some true
  | _, _ => none
def isTys (d : D) : List String → Option Bool
  | [] => some false
  | t :: ts => match isTy d t with
    | some true => some true
    | some false => isTys d ts
    | none => none
def maxI : List Int → Int
  | [] => 0
  | [x] => x
  | x :: y :: r => if x ≤ maxI (y :: r) then maxI (y :: r) else x
def minI : List Int → Int
  | [] => 0
  | [x] => x
  | x :: y :: r => if minI (y :: r) ≤ x then minI (y :: r) else x
def prim : Pr → List D → Option D
  | .len, [.lst _ xs] => some (.int xs.length)
  | .len, [.tup xs] => some (.int xs.length)
  | .len, [.str z] => if z.length ≤ sizeLine then some (.int z.length) else none
  | .int1, [.int i] => some (.int i)
  | .int1, [.bl b] => some (.int (if b then 1 else 0))
  | .min2, [.int i, .int j] => some (.int (if j < i then j else i))
  | .max2, [.int i, .int j] => some (.int (if j > i then j else i))
  | .minL, [.lst _ xs] => match ints? xs with
    | some (n :: ns) => some (.int (minI (n :: ns)))
    | _ => none
  | .maxL, [.lst _ xs] => match ints? xs with
    | some (n :: ns) => some (.int (maxI (n :: ns)))
    | _ => none
  | .sum, [.lst _ xs] => (ints? xs).map fun ns => .int ns.sum
  | .sum, [.tup xs] => (ints? xs).map fun ns => .int ns.sum
  | .abs, [.int i] => some (.int (if i < 0 then -i else i))
  | .tuple1, [.lst _ xs] => some (.tup xs)
  | .tuple1, [.tup xs] => some (.tup xs)
  | .list1, [.lst _ xs] => some (.lst false xs)
  | .list1, [.tup xs] => some (.lst false xs)
  | .isT ts, [d] => (isTys d ts).map .bl
  | _, _ => none
def strs? : List D → Option (List Str)
  | [] => some []
  | .str i :: ds => (strs? ds).map (i :: ·)
  | _ => none
def joinD (a : Str) (xs : List D) : Option D := match strs? xs with
  | some ys => if (ys.map (·.length)).sum + ys.length * a.length ≤ 16777216 then some (.str (Txt.join a ys)) else none
  | none => none
def methD : Mt → D → List D → Option D
  | .lindex, .lst _ xs, [y] => if SeqAt.shaped (.list (pys xs)) && SeqAt.shaped y.py then ((pys xs).findIdx? fun z => PyData.eqv z y.py).map fun j => .int (j : Nat) else none
  | .scount, .str a, [.str b] => some (.int (Txt.count a b))
  | .sfind, .str a, [.str b] => some (.int (Txt.find a b))
  | .sjoin, .str a, [.lst _ xs] => joinD a xs
  | .sjoin, .str a, [.tup xs] => joinD a xs
  | _, _, _ => none
/-- what a method is called of -/
def mtOk : Mt → D → Bool
  | .lindex, .lst _ _ => true
  | .scount, .str _ => true
  | .sfind, .str _ => true
  | .sjoin, .str _ => true
  | _, _ => false
def D.items : D → Option (List D)
  | .lst _ xs => some xs
  | .tup xs => some xs
  | .str z => some (z.cps.toList.map fun c => .str ⟨#[c]⟩)
  | _ => none
/-- lo, lo + 1, .. below hi -/
def rangeL (lo : Int) (n : Nat) : List D := (List.range n).map fun k => .int (lo + (k : Nat))
def rngOk (i : Int) : Bool := decide (i.natAbs < 4611686018427387904)
def rangeD : List D → Option (List D)
  | [.int j] => if rngOk j then some (rangeL 0 j.toNat) else none
  | [.int i, .int j] => if rngOk i && rngOk j then some (rangeL i (j - i).toNat) else none
  | _ => none

/-! ## running -/
abbrev EnvD := List (Option D)
inductive Res (α : Type) where
  | ok (a : α) (e : EnvD)
  | exc (c : Str) (fs : List (Str × D)) (e : EnvD)
  | no
def Res.bind {α β : Type} (r : Res α) (k : α → EnvD → Res β) : Res β := match r with
  | .ok a e => k a e
  | .exc c fs e => .exc c fs e
  | .no => .no
def Res.of {α : Type} (o : Option α) (e : EnvD) : Res α := match o with
  | some a => .ok a e
  | none => .no
inductive CRes where
  | ok (d : D) (ps : List D)
  | exc (c : Str) (fs : List (Str × D)) (ps : List D)
  | no
structure CtxD where
  call : Nat → List D → CRes
  mask : Nat → List Bool
  W : Nat
  cls : List (Str × List Str × List Str)
  ex : Option (Nat × Str × List (Str × D)) := none
inductive Arg where
  | val (d : D)
  | slot (i : Nat)
def slotsOf : List Arg → List Nat
  | [] => []
  | .val _ :: r => slotsOf r
  | .slot i :: r => i :: slotsOf r
def treesOf (env : EnvD) : List Arg → Option (List D)
  | [] => some []
  | .val d :: r => (treesOf env r).map (d :: ·)
  | .slot i :: r => match env[i]? with
    | some (some d) => (treesOf env r).map (d :: ·)
    | _ => none
def backTo : List Arg → List D → EnvD → EnvD
  | .slot i :: r, d :: ds, env => backTo r ds (env.set i (some d))
  | .val _ :: r, _ :: ds, env => backTo r ds env
  | _, _, env => env
def callArgs (C : CtxD) (f : Nat) (args : List Arg) (env : EnvD) : Res D :=
  if (slotsOf args).Nodup then
    match treesOf env args with
    | some ts => match C.call f ts with
      | .ok d ps => if ps.length = args.length then .ok d (backTo args ps env) else .no
      | .exc c fs ps => if ps.length = args.length then .exc c fs (backTo args ps env) else .no
      | .no => .no
    | none => .no
  else .no
def setTg : Tg → D → EnvD → Option EnvD
  | .v i, d, env => some (env.set i (some d))
  | .t is, .tup xs, env => if is.length = xs.length then some ((is.zip xs).foldl (fun e p => e.set p.1 (some p.2)) env) else none
  | .t _, _, _ => none
def wipeE : List Nat → EnvD → EnvD
  | [], env => env
  | i :: is, env => (wipeE is env).set i none
def putBack : List Nat → EnvD → EnvD → EnvD
  | [], _, env => env
  | i :: is, old, env => (putBack is old env).set i ((old[i]?).getD none)
def putLk : List (Nat × D) → EnvD → EnvD
  | [], env => env
  | (i, d) :: r, env => (putLk r env).set i (some d)
def D.isNon : D → Bool
  | .non => true
  | _ => false
/-- an exception is not followed further -/
def Res.noX {α : Type} : Res α → Res α
  | .exc _ _ _ => .no
  | r => r
def vNeg (d : D) (env : EnvD) : Res D := match d with
  | .int i => .ok (.int (-i)) env
  | _ => .no
def onBool {α : Type} (d : D) (t f : α) (no : α) : α := match d with
  | .bl true => t
  | .bl false => f
  | _ => no
def onOB {α : Type} (d : Option Bool) (t f : α) (no : α) : α := match d with
  | some true => t
  | some false => f
  | none => no
/-- is the class c the class t or below it -/
def CtxD.sub (C : CtxD) (c t : Str) : Bool := match C.cls.lookup c with
  | some p => p.1.contains t
  | none => false
def CtxD.flds (C : CtxD) (c : Str) : List Str := match C.cls.lookup c with
  | some p => p.2
  | none => []
/-- does a clause that names c take an exception of the class x -/
def CtxD.catch (C : CtxD) (x : Str) (fs : List (Str × D)) (c : Str) : Option Bool := match C.cls.lookup x with
  | some p => if fs.map (·.1) = p.2 ∧ (C.cls.lookup c).isSome = true then some (p.1.contains c) else none
  | none => none
/-- isinstance of the exception in hand -/
def exIsD (C : CtxD) (ts : List Str) : Option D := match C.ex with
  | some p => some (.bl (ts.any (C.sub p.2.1)))
  | none => none
def exFldD (C : CtxD) (f : Str) : Option D := match C.ex with
  | some p => p.2.2.lookup f
  | none => none
/-- the turns of a comprehension -/
def compL (own : List Nat) (tg : Tg) (cond : EnvD → Res D) (elt : EnvD → Res D) : List D → List D → EnvD → Res (List D)
  | [], acc, env => .ok acc env
  | d :: ds, acc, env => match setTg tg d (wipeE own env) with
    | none => .no
    | some env1 => (cond env1).bind fun b env2 => onBool b ((elt env2).bind fun x env3 => if acc.length < sizeLine then compL own tg cond elt ds (acc ++ [x]) env3 else .no) (compL own tg cond elt ds acc env2) .no
structure Its where
  items : List D
  lk : List (Nat × D)
/-- a source of a loop that stands at a name: shareable, taken for the while, or frozen -/
def srcVar (u : Nat → Bool) (i : Nat) (env : EnvD) : Res (D × List (Nat × D)) := match env[i]? with
  | some (some d) => if d.shr then .ok (d, []) env else if u i then .ok (d.frz, []) (env.set i (some d.frz)) else .ok (d.frzK, [(i, d.frzK)]) (env.set i none)
  | _ => .no
inductive Mode | esc | rd | kd | ts
  deriving DecidableEq, Repr
/-- esc: the value goes on to stand elsewhere; rd: it is only looked at; kd: its children may go on to stand elsewhere; ts: its truth alone -/
def fin : Mode → Res D → Res D
  | .esc, r => r
  | .rd, r => r
  | .kd, r => r.bind fun x env => .ok x.frzK env
  | .ts, r => r.bind fun x env => Res.of (x.truth.map .bl) env
def vName (m : Mode) (i : Nat) (env : EnvD) : Res D := match env[i]? with
  | some (some d) => match m with
    | .esc => if d.shr then .ok d env else .ok d.frz (env.set i (some d.frz))
    | .rd => .ok d env
    | .kd => if d.shrK then .ok d env else .ok d.frzK (env.set i (some d.frzK))
    | .ts => Res.of (d.truth.map .bl) env
  | _ => .no
/-- a part c of what stands at the name r -/
def vPart (m : Mode) (r : Nat) (c : D) (env : EnvD) : Res D := match m with
  | .esc => if c.shr then .ok c env else match env[r]? with
    | some (some d) => .ok c.frz (env.set r (some d.frz))
    | _ => .no
  | .rd => .ok c env
  | .kd => if c.shrK then .ok c env else match env[r]? with
    | some (some d) => .ok c.frz (env.set r (some d.frz))
    | _ => .no
  | .ts => Res.of (c.truth.map .bl) env
def onPart (m : Mode) (r : Nat) (o : Option D) (env : EnvD) : Res D := match o with
  | some c => vPart m r c env
  | none => .no
def vInt (r : Res D) : Res (Option Int) := r.bind fun d env => match d with
  | .int i => .ok (some i) env
  | _ => .no
/-- a source of a loop: it stays as it is -/
def vSrc (p : Bool) (r : Res D) : Res D := if p then r else r.bind fun x env => .ok x.frzK env
/-- a source of a loop, with what is taken for the while -/
def srcOf (u : Nat → Bool) (e : E) (r : Res D) (env : EnvD) : Res (D × List (Nat × D)) := match e with
  | .var i => srcVar u i env
  | e => (vSrc e.place r).bind fun d env => .ok (d, []) env
def enumD : D → Option (List D)
  | .lst _ xs => some (xs.mapIdx fun k d => .tup [.int k, d])
  | .tup xs => some (xs.mapIdx fun k d => .tup [.int k, d])
  | .str z => some (z.cps.toList.mapIdx fun k c => .tup [.int k, .str ⟨#[c]⟩])
  | _ => none
def zipD : D → D → Option (List D)
  | .lst _ xs, .lst _ ys => some (List.zipWith (fun a b => .tup [a, b]) xs ys)
  | .tup xs, .tup ys => some (List.zipWith (fun a b => .tup [a, b]) xs ys)
  | _, _ => none
def revD : D → Option (List D)
  | .lst _ xs => some xs.reverse
  | .tup xs => some xs.reverse
  | _ => none
def zipOk (l1 l2 : List (Nat × D)) (env : EnvD) : Bool := (l1.all fun p => match env[p.1]? with
  | some none => !(l2.map (·.1)).contains p.1
  | _ => false)
def itsOf (o : Option (List D)) (lk : List (Nat × D)) (env : EnvD) : Res Its := match o with
  | some items => .ok ⟨items, lk⟩ env
  | none => .no
/-- frozen at once -/
def frzR (r : Res D) : Res D := r.bind fun x env => .ok x.frz env
mutual
def ev (C : CtxD) (m : Mode) : E → EnvD → Res D
  | .non, env => fin m (.ok .non env)
  | .bl b, env => fin m (.ok (.bl b) env)
  | .int i, env => fin m (.ok (.int i) env)
  | .str s, env => fin m (.ok (.str s) env)
  | .var i, env => vName m i env
  | .bin o a b, env => fin m ((if b.cf then ev C .kd a env else frzR (ev C .esc a env)).bind fun x env => (ev C .kd b env).bind fun y env => Res.of (bop o x y) env)
  | .neg a, env => fin m ((ev C .esc a env).bind fun x env => vNeg x env)
  | .cmp o a b, env => fin m ((if b.cf then ev C .rd a env else frzR (ev C .esc a env)).bind fun x env => (ev C .rd b env).bind fun y env => Res.of ((cop o x y).map .bl) env)
  | .cmp2 o p a b c, env => fin m ((ev C .esc a env).bind fun x env => (ev C .esc b env).bind fun y env => if x.shr && y.shr then onOB (cop o x y) ((ev C .esc c env).bind fun z env => Res.of ((cop p y z).map .bl) env) (.ok (.bl false) env) .no
    else .no)
  | .isN n a, env => fin m ((ev C .rd a env).bind fun x env => .ok (.bl (x.isNon != n)) env)
  | .and_ a b, env => match m with
    | .ts => (ev C .ts a env).bind fun x env => onBool x (ev C .ts b env) (.ok (.bl false) env) .no
    | m => fin m ((ev C .esc a env).bind fun x env => onBool x (ev C .esc b env) (.ok (.bl false) env) .no)
  | .or_ a b, env => match m with
    | .ts => (ev C .ts a env).bind fun x env => onBool x (.ok (.bl true) env) (ev C .ts b env) .no
    | m => fin m ((ev C .esc a env).bind fun x env => onBool x (.ok (.bl true) env) (ev C .esc b env) .no)
  | .not_ a, env => match m with
    | .ts => (ev C .ts a env).bind fun x env => onBool x (.ok (.bl false) env) (.ok (.bl true) env) .no
    | m => fin m ((ev C .rd a env).bind fun x env => Res.of (x.truth.map fun b => .bl (!b)) env)
  | .ite c a b, env => match m with
    | .ts => .no
    | m => fin m ((ev C .ts c env).bind fun t env => onBool t (ev C .esc a env) (ev C .esc b env) .no)
  | .tup es, env => fin m ((evs C es env).bind fun ds env => if ds.length ≤ sizeLine then .ok (.tup ds) env else .no)
  | .lst es, env => fin m ((evs C es env).bind fun ds env => if ds.length ≤ sizeLine then .ok (.lst false ds) env else .no)
  | .sub a i, env =>
    if a.place then (ev C .rd a env).bind fun x env => if x.shr || i.cf then (ev C .esc i env).bind fun y env => onPart m a.root (subD x y) env
      else .no
    else fin m ((ev C .esc a env).bind fun x env => (ev C .esc i env).bind fun y env => Res.of (subD x y) env)
  | .slice a lo hi, env => fin m ((ev C .kd a env).bind fun x env =>
    (match lo with
      | none => Res.ok none env
      | some e => if x.shr || e.cf then vInt (ev C .esc e env) else .no).bind fun l env =>
    (match hi with
      | none => Res.ok none env
      | some e => if x.shr || e.cf then vInt (ev C .esc e env) else .no).bind fun h env => Res.of (sliceD x l h) env)
  | .call f es, env => fin m ((evArgs C (C.mask f) es env).bind fun args env => callArgs C f args env)
  | .prim p es, env => fin m ((kds C es env).bind fun ds env => Res.of (prim p ds) env)
  | .meth p a es, env => fin m ((if es.cf then ev C .kd a env else frzR (ev C .esc a env)).bind fun x env => if mtOk p x then (kds C es env).bind fun ds env => Res.of (methD p x ds) env else .no)
  | .comp elt own tg it cond, env => fin m (
    (evIt C (cUses elt cond) it env).bind fun t env1 =>
    (compL own tg (fun e => match cond with | some c => (ev C .ts c e).noX | none => .ok (.bl true) e) (fun e => (ev C .esc elt e).noX) t.items [] env1).bind fun xs env2 =>
    .ok (.lst false xs) (putLk t.lk (putBack own env1 env2)))
  | .exIs ts, env => fin m (Res.of (exIsD C ts) env)
  | .exFld f, env => fin m (Res.of (exFldD C f) env)
def evs (C : CtxD) : Es → EnvD → Res (List D)
  | .nil, env => .ok [] env
  | .cons e es, env => (ev C .esc e env).bind fun d env => (evs C es env).bind fun ds env => .ok (d :: ds) env
def kds (C : CtxD) : Es → EnvD → Res (List D)
  | .nil, env => .ok [] env
  | .cons e es, env => (ev C .kd e env).bind fun d env => if d.shr || es.cf then (kds C es env).bind fun ds env => .ok (d :: ds) env else .no
def evArgs (C : CtxD) (ms : List Bool) : Es → EnvD → Res (List Arg)
  | .nil, env => .ok [] env
  | .cons (.var i) es, env => match env[i]? with
    | some (some d) => if d.shr then (evArgs C ms.tail es env).bind fun as env => .ok (.val d :: as) env
      else if ms.headD false then (evArgs C ms.tail es env).bind fun as env => .ok (.slot i :: as) env
      else (evArgs C ms.tail es (env.set i (some d.frz))).bind fun as env => .ok (.val d.frz :: as) env
    | _ => .no
  | .cons e es, env => (ev C .esc e env).bind fun d env => (evArgs C ms.tail es env).bind fun as env => .ok (.val d :: as) env
def evIt (C : CtxD) (u : Nat → Bool) : It → EnvD → Res Its
  | .rng es, env => (evs C es env).bind fun ds env => itsOf (rangeD ds) [] env
  | .over e, env => (srcOf u e (ev C .esc e env) env).bind fun p env => itsOf p.1.items p.2 env
  | .enum e, env => (srcOf u e (ev C .esc e env) env).bind fun p env => itsOf (enumD p.1) p.2 env
  | .zip a b, env => (srcOf (fun k => u k || b.uses k) a (ev C .esc a env) env).bind fun p env => (srcOf u b (ev C .esc b env) env).bind fun q env => if zipOk p.2 q.2 env then itsOf (zipD p.1 q.1) (p.2 ++ q.2) env else .no
  | .rev e, env => (srcOf u e (ev C .esc e env) env).bind fun p env => itsOf (revD p.1) p.2 env
end
/-- a left part: looked at, or frozen where the right part may do anything -/
def lft (C : CtxD) (m : Mode) (cfb : Bool) (a : E) (env : EnvD) : Res D := if cfb then ev C m a env else frzR (ev C .esc a env)
inductive SR where
  | nx (e : EnvD) | rt (d : D) (e : EnvD) | bk (e : EnvD) | ct (e : EnvD)
  | exc (c : Str) (fs : List (Str × D)) (e : EnvD)
  | no
def Res.toS {α : Type} (r : Res α) (k : α → EnvD → SR) : SR := match r with
  | .ok a e => k a e
  | .exc c fs e => .exc c fs e
  | .no => .no
def SR.env (f : EnvD → EnvD) : SR → SR
  | .nx e => .nx (f e) | .rt d e => .rt d (f e) | .bk e => .bk (f e) | .ct e => .ct (f e)
  | .exc c fs e => .exc c fs (f e)
  | .no => .no
def forL (tg : Tg) (body : EnvD → SR) : List D → EnvD → SR
  | [], env => .nx env
  | d :: ds, env => match setTg tg d env with
    | none => .no
    | some env1 => match body env1 with
      | .nx e => forL tg body ds e
      | .ct e => forL tg body ds e
      | .bk e => .nx e
      | .rt d e => .rt d e
      | .exc c fs e => .exc c fs e
      | .no => .no
def whileF (c : EnvD → Res D) (body : EnvD → SR) : Nat → EnvD → SR
  | 0, _ => .no
  | n + 1, env => (c env).toS fun b env1 => onBool b (match body env1 with
      | .nx e => whileF c body n e
      | .ct e => whileF c body n e
      | .bk e => .nx e
      | .rt d e => .rt d e
      | .exc c fs e => .exc c fs e
      | .no => .no) (.nx env1) .no
def Tg.slots : Tg → List Nat
  | .v i => [i]
  | .t is => is
def free (na is : List Nat) : Bool := is.all fun i => !na.contains i
def hasD (x : Nat) (env : EnvD) : Bool := match env[x]? with
  | some (some _) => true
  | _ => false
def isLstD (x : Nat) (env : EnvD) : Bool := match env[x]? with
  | some (some (.lst _ _)) => true
  | _ => false
def setS (x : Nat) (k d : D) (env : EnvD) : SR := match env[x]? with
  | some (some (.lst false xs)) => match k with
    | .int k => match L2.ixN xs.length k with
      | some j => .nx (env.set x (some (.lst false (xs.set j d))))
      | none => .no
    | _ => .no
  | _ => .no
def appS (x : Nat) (d : D) (env : EnvD) : SR := match env[x]? with
  | some (some (.lst false xs)) => if xs.length < sizeLine then .nx (env.set x (some (.lst false (xs ++ [d])))) else .no
  | _ => .no
def insS (x : Nat) (k d : D) (env : EnvD) : SR := match env[x]? with
  | some (some (.lst false xs)) => match k with
    | .int i => if 0 ≤ i ∧ i < 1000000 ∧ xs.length < sizeLine then .nx (env.set x (some (.lst false (xs.take i.toNat ++ [d] ++ xs.drop i.toNat)))) else .no
    | _ => .no
  | _ => .no
def setSlS (x : Nat) (a b d : D) (env : EnvD) : SR := match env[x]? with
  | some (some (.lst false xs)) => match a, b, d with
    | .int a, .int c, .lst false ys => if 0 ≤ a ∧ a ≤ c ∧ a ≤ xs.length ∧ c < 1000000 ∧ xs.length + ys.length ≤ sizeLine then .nx (env.set x (some (.lst false (xs.take a.toNat ++ ys ++ xs.drop c.toNat)))) else .no
    | _, _, _ => .no
  | _ => .no
def unpS (is : List Nat) (d : D) (env : EnvD) : SR := match d.kids with
  | some xs => if is.length = xs.length then .nx ((is.zip xs).foldl (fun e p => e.set p.1 (some p.2)) env) else .no
  | none => .no
def SR.noX : SR → SR
  | .exc _ _ _ => .no
  | r => r
/-- an exception is caught: e's slot is empty while the suite runs, and behind it -/
def onExc (C : CtxD) (c : Str) (i : Nat) (k : Str → List (Str × D) → EnvD → SR) : SR → SR
  | .exc x fs e => match C.catch x fs c with
    | some true => if i < e.length then (k x fs (e.set i none)).noX.env (fun e => e.set i none) else .no
    | some false => .exc x fs e
    | none => .no
  | r => r
def retS (na : List Nat) (i : Nat) (env : EnvD) : SR := match env[i]? with
  | some (some d) => if d.shr then .rt d env else if na.contains i then .rt d.frz (env.set i (some d.frz)) else .rt d (env.set i none)
  | _ => .no
mutual
def ex (C : CtxD) (na : List Nat) : S → EnvD → SR
  | .asg i e, env => if na.contains i then .no else (ev C .esc e env).toS fun d env => .nx (env.set i (some d))
  | .unp is e, env => if free na is then (ev C .esc e env).toS fun d env => unpS is d env else .no
  | .setI x i e, env => (ev C .esc e env).toS fun d env => if hasD x env then (ev C .esc i env).toS fun k env => setS x k d env else .no
  | .app x e, env => if isLstD x env then (ev C .esc e env).toS fun d env => appS x d env else .no
  | .ins x i e, env => if isLstD x env then (ev C .esc i env).toS fun k env => (ev C .esc e env).toS fun d env => insS x k d env else .no
  | .setSl x lo hi e, env => (ev C .esc e env).toS fun d env => if hasD x env then (ev C .esc lo env).toS fun a env => (ev C .esc hi env).toS fun b env => setSlS x a b d env else .no
  | .expr e, env => (ev C .esc e env).toS fun _ env => .nx env
  | .ret (.var i), env => retS na i env
  | .ret e, env => (ev C .esc e env).toS fun d env => .rt d env
  | .if_ c a b, env => (ev C .ts c env).toS fun t env => onBool t (exs C na a env) (exs C na b env) .no
  | .for_ tg it b, env => if free na tg.slots then (evIt C (fun i => b.uses i || tg.slots.contains i) it env).toS fun t env => if free (t.lk.map (·.1)) tg.slots then (forL tg (fun e => exs C (t.lk.map (·.1) ++ na) b e) t.items env).env (putLk t.lk) else .no else .no
  | .while_ c b, env => whileF (fun e => ev C .ts c e) (fun e => exs C na b e) C.W env
  | .brk, env => .bk env
  | .cont, env => .ct env
  | .pass, env => .nx env
  | .never, _ => .no
  | .raise c es, env => (evs C es env).toS fun ds env => if ds.length = (C.flds c).length ∧ C.flds c ≠ [] then .exc c ((C.flds c).zip (frzs ds)) env else .no
  | .try_ b i c h, env => if na.contains i then .no else onExc C c i (fun k fs e => exs { C with ex := some (i, k, fs) } (i :: na) h e) (exs C na b env)
def exs (C : CtxD) (na : List Nat) : Ss → EnvD → SR
  | .nil, env => .nx env
  | .cons s ss, env => match ex C na s env with
    | .nx e => exs C na ss e
    | r => r
end
structure FnR where
  np : Nat
  mask : List Bool
  ns : Nat
  body : Ss
def naOf (m : List Bool) : List Nat := (List.range m.length).filter fun i => m.getD i false
def parsOf : Nat → List Bool → EnvD → Option (List D)
  | 0, _, _ => some []
  | n + 1, m, env => match env with
    | [] => none
    | o :: r => (parsOf n m.tail r).bind fun ds => if m.headD false then o.map (· :: ds) else some (.non :: ds)
def runF (C : CtxD) (f : FnR) (args : List D) : CRes :=
  if args.length = f.np ∧ f.np ≤ f.ns then
    match exs C (naOf f.mask) f.body (args.map some ++ List.replicate (f.ns - f.np) none) with
    | .rt d env => match parsOf f.np f.mask env with
      | some ps => .ok d ps
      | none => .no
    | .nx env => match parsOf f.np f.mask env with
      | some ps => .ok .non ps
      | none => .no
    | .exc c fs env => match parsOf f.np f.mask env with
      | some ps => .exc c fs ps
      | none => .no
    | _ => .no
  else .no
/-- the functions; the exception classes: name, classes above and itself, fields -/
structure Prog where
  fns : List FnR
  cls : List (Str × List Str × List Str)
def callN (P : Prog) (W : Nat) : Nat → Nat → List D → CRes
  | 0, _, _ => .no
  | n + 1, f, args => match P.fns[f]? with
    | some fr => runF ⟨callN P W n, fun g => match P.fns[g]? with | some r => r.mask | none => [], W, P.cls, none⟩ fr args
    | none => .no
end VS

end

section
set_option linter.all false
set_option maxRecDepth 100000
set_option maxHeartbeats 1000000
namespace VS
open PySem L2

/-! ## how a tree stands in the heap -/
mutual
def Rep (F : Addr → Prop) (H : Hp) : D → V → List Addr → Prop
  | .non, v, fp => v = .non ∧ fp = []
  | .bl b, v, fp => v = .bl b ∧ fp = []
  | .int i, v, fp => v = .int i ∧ fp = []
  | .str s, v, fp => v = .str s ∧ fp = []
  | .tup ds, v, fp => ∃ a vs, v = .ref a ∧ H a = some (.tup vs) ∧ Reps F H ds vs fp
  | .lst true ds, v, fp => ∃ a vs, v = .ref a ∧ F a ∧ Rd H a (.lst vs) ∧ Reps F H ds vs [] ∧ fp = []
  | .lst false ds, v, fp => ∃ a vs fq, v = .ref a ∧ H a = some (.lst vs) ∧ Reps F H ds vs fq ∧ fp = a :: fq
def Reps (F : Addr → Prop) (H : Hp) : List D → List V → List Addr → Prop
  | [], vs, fp => vs = [] ∧ fp = []
  | d :: ds, vs, fp => ∃ v ws f1 f2, vs = v :: ws ∧ fp = f1 ++ f2 ∧ Rep F H d v f1 ∧ Reps F H ds ws f2
end
section
variable {F F' : Addr → Prop} {H H' : Hp}
mutual
theorem Rep.keep {P : Addr → Prop} (hk : ∀ a o, H a = some o → ¬ P a → H' a = some o) (hF : ∀ a, F a → ¬ P a) (hT : ∀ a xs, H a = some (.tup xs) → ¬ P a) (hFF : ∀ a, F a → F' a) :
    ∀ (d : D) (v : V) (fp : List Addr), (∀ a ∈ fp, ¬ P a) → Rep F H d v fp → Rep F' H' d v fp
  | .non, v, fp, _, h => by simpa [Rep] using h
  | .bl b, v, fp, _, h => by simpa [Rep] using h
  | .int i, v, fp, _, h => by simpa [Rep] using h
  | .str s, v, fp, _, h => by simpa [Rep] using h
  | .tup ds, v, fp, hp, h => by
    simp only [Rep] at h ⊢
    obtain ⟨a, vs, e, ha, hr⟩ := h
    exact ⟨a, vs, e, hk a _ ha (hT a _ ha), Reps.keep hk hF hT hFF ds vs fp hp hr⟩
  | .lst true ds, v, fp, hp, h => by
    simp only [Rep] at h ⊢
    obtain ⟨a, vs, e, ha, hd, hr, ef⟩ := h
    refine ⟨a, vs, e, hFF a ha, ?_, Reps.keep hk hF hT hFF ds vs [] (by simp) hr, ef⟩
    rcases hd with q | ⟨o, q⟩
    · exact .inl (hk a _ q (hF a ha))
    · exact .inr ⟨o, hk a _ q (hF a ha)⟩
  | .lst false ds, v, fp, hp, h => by
    simp only [Rep] at h ⊢
    obtain ⟨a, vs, fq, e, ha, hr, ef⟩ := h
    subst ef
    exact ⟨a, vs, fq, e, hk a _ ha (hp a (by simp)), Reps.keep hk hF hT hFF ds vs fq (fun b hb => hp b (by simp [hb])) hr, rfl⟩
theorem Reps.keep {P : Addr → Prop} (hk : ∀ a o, H a = some o → ¬ P a → H' a = some o) (hF : ∀ a, F a → ¬ P a) (hT : ∀ a xs, H a = some (.tup xs) → ¬ P a) (hFF : ∀ a, F a → F' a) :
    ∀ (ds : List D) (vs : List V) (fp : List Addr), (∀ a ∈ fp, ¬ P a) → Reps F H ds vs fp → Reps F' H' ds vs fp
  | [], vs, fp, _, h => by simpa [Reps] using h
  | d :: ds, vs, fp, hp, h => by
    simp only [Reps] at h ⊢
    obtain ⟨v, ws, f1, f2, e, ef, h1, h2⟩ := h
    subst ef
    exact ⟨v, ws, f1, f2, e, rfl, Rep.keep hk hF hT hFF d v f1 (fun a ha => hp a (by simp [ha])) h1, Reps.keep hk hF hT hFF ds ws f2 (fun a ha => hp a (by simp [ha])) h2⟩
end
mutual
theorem Rep.fpl : ∀ (d : D) (v : V) (fp : List Addr), Rep F H d v fp → ∀ a ∈ fp, ∃ vs, H a = some (.lst vs)
  | .non, v, fp, h => by simp [Rep] at h; simp [h.2]
  | .bl b, v, fp, h => by simp [Rep] at h; simp [h.2]
  | .int i, v, fp, h => by simp [Rep] at h; simp [h.2]
  | .str s, v, fp, h => by simp [Rep] at h; simp [h.2]
  | .tup ds, v, fp, h => by
    simp only [Rep] at h
    obtain ⟨a, vs, e, ha, hr⟩ := h
    exact Reps.fpl ds vs fp hr
  | .lst true ds, v, fp, h => by
    simp only [Rep] at h
    obtain ⟨a, vs, e, ha, hd, hr, ef⟩ := h
    simp [ef]
  | .lst false ds, v, fp, h => by
    simp only [Rep] at h
    obtain ⟨a, vs, fq, e, ha, hr, ef⟩ := h
    subst ef
    intro b hb
    rcases List.mem_cons.mp hb with rfl | hb
    · exact ⟨vs, ha⟩
    · exact Reps.fpl ds vs fq hr b hb
theorem Reps.fpl : ∀ (ds : List D) (vs : List V) (fp : List Addr), Reps F H ds vs fp → ∀ a ∈ fp, ∃ vs, H a = some (.lst vs)
  | [], vs, fp, h => by simp [Reps] at h; simp [h.2]
  | d :: ds, vs, fp, h => by
    simp only [Reps] at h
    obtain ⟨v, ws, f1, f2, e, ef, h1, h2⟩ := h
    subst ef
    intro a ha
    rcases List.mem_append.mp ha with ha | ha
    · exact Rep.fpl d v f1 h1 a ha
    · exact Reps.fpl ds ws f2 h2 a ha
end
mutual
theorem Rep.shr : ∀ (d : D) (v : V) (fp : List Addr), d.shr = true → Rep F H d v fp → fp = []
  | .non, v, fp, _, h => by simp [Rep] at h; exact h.2
  | .bl b, v, fp, _, h => by simp [Rep] at h; exact h.2
  | .int i, v, fp, _, h => by simp [Rep] at h; exact h.2
  | .str s, v, fp, _, h => by simp [Rep] at h; exact h.2
  | .tup ds, v, fp, s, h => by
    simp only [Rep] at h
    obtain ⟨a, vs, e, ha, hr⟩ := h
    exact Reps.shr ds vs fp (by simpa [D.shr] using s) hr
  | .lst true ds, v, fp, _, h => by
    simp only [Rep] at h
    obtain ⟨a, vs, e, ha, hd, hr, ef⟩ := h
    exact ef
  | .lst false ds, v, fp, s, h => by simp [D.shr] at s
theorem Reps.shr : ∀ (ds : List D) (vs : List V) (fp : List Addr), shrs ds = true → Reps F H ds vs fp → fp = []
  | [], vs, fp, _, h => by simp [Reps] at h; exact h.2
  | d :: ds, vs, fp, s, h => by
    simp only [Reps] at h
    obtain ⟨v, ws, f1, f2, e, ef, h1, h2⟩ := h
    simp only [shrs, Bool.and_eq_true] at s
    rw [ef, Rep.shr d v f1 s.1 h1, Reps.shr ds ws f2 s.2 h2]
    rfl
end
mutual
/-- frozen: what was owned joins F -/
theorem Rep.frz : ∀ (d : D) (v : V) (fp : List Addr), (∀ a, F a → F' a) → (∀ a ∈ fp, F' a) → Rep F H d v fp → Rep F' H d.frz v []
  | .non, v, fp, _, _, h => by simp [Rep, D.frz] at h ⊢; exact h.1
  | .bl b, v, fp, _, _, h => by simp [Rep, D.frz] at h ⊢; exact h.1
  | .int i, v, fp, _, _, h => by simp [Rep, D.frz] at h ⊢; exact h.1
  | .str s, v, fp, _, _, h => by simp [Rep, D.frz] at h ⊢; exact h.1
  | .tup ds, v, fp, h1, h2, h => by
    simp only [Rep, D.frz] at h ⊢
    obtain ⟨a, vs, e, ha, hr⟩ := h
    exact ⟨a, vs, e, ha, Reps.frz ds vs fp h1 h2 hr⟩
  | .lst true ds, v, fp, h1, h2, h => by
    simp only [Rep, D.frz] at h ⊢
    obtain ⟨a, vs, e, ha, hd, hr, ef⟩ := h
    exact ⟨a, vs, e, h1 a ha, hd, Reps.frz ds vs [] h1 (by simp) hr, trivial⟩
  | .lst false ds, v, fp, h1, h2, h => by
    simp only [Rep, D.frz] at h ⊢
    obtain ⟨a, vs, fq, e, ha, hr, ef⟩ := h
    subst ef
    exact ⟨a, vs, e, h2 a (by simp), .inl ha, Reps.frz ds vs fq h1 (fun b hb => h2 b (by simp [hb])) hr, trivial⟩
theorem Reps.frz : ∀ (ds : List D) (vs : List V) (fp : List Addr), (∀ a, F a → F' a) → (∀ a ∈ fp, F' a) → Reps F H ds vs fp → Reps F' H (frzs ds) vs []
  | [], vs, fp, _, _, h => by simp [Reps, frzs] at h ⊢; exact h.1
  | d :: ds, vs, fp, h1, h2, h => by
    simp only [Reps, frzs] at h ⊢
    obtain ⟨v, ws, f1, f2, e, ef, q1, q2⟩ := h
    subst ef
    exact ⟨v, ws, [], [], e, rfl, Rep.frz d v f1 h1 (fun a ha => h2 a (by simp [ha])) q1, Reps.frz ds ws f2 h1 (fun a ha => h2 a (by simp [ha])) q2⟩
end
mutual
theorem frz_shr : ∀ d : D, d.frz.shr = true
  | .non => rfl | .bl _ => rfl | .int _ => rfl | .str _ => rfl
  | .tup ds => by simp only [D.frz, D.shr]; exact frzs_shr ds
  | .lst _ ds => by simp only [D.frz, D.shr, Bool.true_and]; exact frzs_shr ds
theorem frzs_shr : ∀ ds : List D, shrs (frzs ds) = true
  | [] => rfl
  | d :: ds => by simp only [frzs, shrs, Bool.and_eq_true]; exact ⟨frz_shr d, frzs_shr ds⟩
end
mutual
/-- frozen or flat trees are as they are when frozen -/
theorem frz_of_shr : ∀ d : D, d.shr = true → d.frz = d
  | .non, _ => rfl | .bl _, _ => rfl | .int _, _ => rfl | .str _, _ => rfl
  | .tup ds, h => by simp only [D.frz, D.tup.injEq]; exact frzs_of_shrs ds (by simpa [D.shr] using h)
  | .lst f ds, h => by
    simp only [D.shr, Bool.and_eq_true] at h
    simp only [D.frz, h.1, frzs_of_shrs ds h.2]
theorem frzs_of_shrs : ∀ ds : List D, shrs ds = true → frzs ds = ds
  | [], _ => rfl
  | d :: ds, h => by
    simp only [shrs, Bool.and_eq_true] at h
    simp only [frzs, frz_of_shr d h.1, frzs_of_shrs ds h.2]
end
theorem frzK_of_shr {d : D} (h : d.shrK = true) : d.frzK = d := by
  cases d with
  | lst f xs => simp only [D.frzK, frzs_of_shrs xs h]
  | tup xs => simp only [D.frzK, frzs_of_shrs xs h]
  | _ => rfl
/-- the children frozen: what the root does not own joins F -/
theorem Rep.frzK {d : D} {v : V} {fp : List Addr} (nd : fp.Nodup) (h : Rep F H d v fp) : ∃ fq, (∀ a ∈ fq, a ∈ fp) ∧ fq.Nodup ∧ ∀ F' : Addr → Prop, (∀ a, F a → F' a) → (∀ a ∈ fp, a ∈ fq ∨ F' a) → Rep F' H d.frzK v fq := by
  cases d with
  | non => exact ⟨[], by simp, by simp, fun F' _ _ => by simp [Rep, D.frzK] at h ⊢; exact h.1⟩
  | bl b => exact ⟨[], by simp, by simp, fun F' _ _ => by simp [Rep, D.frzK] at h ⊢; exact h.1⟩
  | int i => exact ⟨[], by simp, by simp, fun F' _ _ => by simp [Rep, D.frzK] at h ⊢; exact h.1⟩
  | str s => exact ⟨[], by simp, by simp, fun F' _ _ => by simp [Rep, D.frzK] at h ⊢; exact h.1⟩
  | tup ds =>
    simp only [Rep] at h
    obtain ⟨a, vs, e, ha, hr⟩ := h
    refine ⟨[], by simp, by simp, fun F' h1 h2 => ?_⟩
    simp only [D.frzK, Rep]
    exact ⟨a, vs, e, ha, Reps.frz ds vs fp h1 (fun b hb => (h2 b hb).resolve_left (by simp)) hr⟩
  | lst f ds =>
    cases f with
    | true =>
      simp only [Rep] at h
      obtain ⟨a, vs, e, ha, hd, hr, ef⟩ := h
      refine ⟨[], by simp, by simp, fun F' h1 h2 => ?_⟩
      simp only [D.frzK, Rep]
      exact ⟨a, vs, e, h1 a ha, hd, Reps.frz ds vs [] h1 (by simp) hr, trivial⟩
    | false =>
      simp only [Rep] at h
      obtain ⟨a, vs, fq, e, ha, hr, ef⟩ := h
      subst ef
      refine ⟨[a], by simp, by simp, fun F' h1 h2 => ?_⟩
      simp only [D.frzK, Rep]
      refine ⟨a, vs, [], e, ha, Reps.frz ds vs fq h1 (fun b hb => ?_) hr, rfl⟩
      rcases h2 b (by simp [hb]) with q | q
      · have : b = a := by simpa using q
        subst this
        exact absurd hb (List.nodup_cons.mp nd).1
      · exact q
theorem Reps.length : ∀ {ds : List D} {vs : List V} {fp : List Addr}, Reps F H ds vs fp → vs.length = ds.length
  | [], vs, fp, h => by simp [Reps] at h; simp [h.1]
  | d :: ds, vs, fp, h => by
    simp only [Reps] at h
    obtain ⟨v, ws, f1, f2, e, ef, h1, h2⟩ := h
    rw [e]
    simp [Reps.length h2]
theorem Reps.get : ∀ {ds : List D} {vs : List V} {fp : List Addr} {i : Nat} {d : D}, Reps F H ds vs fp → ds[i]? = some d → ∃ v f, vs[i]? = some v ∧ Rep F H d v f ∧ (∀ a ∈ f, a ∈ fp) ∧ (fp.Nodup → f.Nodup)
  | [], vs, fp, i, d, h, e => by simp at e
  | c :: ds, vs, fp, 0, d, h, e => by
    simp only [Reps] at h
    obtain ⟨v, ws, f1, f2, e1, ef, h1, h2⟩ := h
    simp at e
    subst e e1 ef
    exact ⟨v, f1, rfl, h1, fun a ha => by simp [ha], fun n => (List.nodup_append.mp n).1⟩
  | c :: ds, vs, fp, i + 1, d, h, e => by
    simp only [Reps] at h
    obtain ⟨v, ws, f1, f2, e1, ef, h1, h2⟩ := h
    obtain ⟨u, f, q1, q2, q3, q4⟩ := Reps.get (i := i) (d := d) h2 (by simpa using e)
    subst e1 ef
    exact ⟨u, f, by simpa using q1, q2, fun a ha => by simp [q3 a ha], fun n => q4 (List.nodup_append.mp n).2.1⟩
theorem Reps.append : ∀ {ds es : List D} {vs ws : List V} {f g : List Addr}, Reps F H ds vs f → Reps F H es ws g → Reps F H (ds ++ es) (vs ++ ws) (f ++ g)
  | [], es, vs, ws, f, g, h, h' => by
    simp only [Reps] at h
    rw [h.1, h.2]
    exact h'
  | d :: ds, es, vs, ws, f, g, h, h' => by
    simp only [Reps, List.cons_append] at h ⊢
    obtain ⟨v, us, f1, f2, e, ef, h1, h2⟩ := h
    subst e ef
    exact ⟨v, us ++ ws, f1, f2 ++ g, rfl, by simp, h1, Reps.append h2 h'⟩
theorem Reps.one {d : D} {v : V} {f : List Addr} (h : Rep F H d v f) : Reps F H [d] [v] f := by
  simp only [Reps]
  exact ⟨v, [], f, [], rfl, by simp, h, rfl, rfl⟩
mutual
theorem Rep.dp {K : PySem.W.Frag} : ∀ (d : D) (v : V) (fp : List Addr), Rep F H d v fp → Dp K H v d.py
  | .non, v, fp, h => by simp [Rep] at h; rw [h.1]; exact .non
  | .bl b, v, fp, h => by simp [Rep] at h; rw [h.1]; exact .bl b
  | .int i, v, fp, h => by simp [Rep] at h; rw [h.1]; exact .int i
  | .str s, v, fp, h => by simp [Rep] at h; rw [h.1]; exact .str s
  | .tup ds, v, fp, h => by
    simp only [Rep] at h
    obtain ⟨a, vs, e, ha, hr⟩ := h
    subst e
    exact .tup (SqT.of ha) (Reps.dp ds vs fp hr)
  | .lst true ds, v, fp, h => by
    simp only [Rep] at h
    obtain ⟨a, vs, e, ha, hd, hr, ef⟩ := h
    subst e
    exact .lst (.inl hd) (Reps.dp ds vs [] hr)
  | .lst false ds, v, fp, h => by
    simp only [Rep] at h
    obtain ⟨a, vs, fq, e, ha, hr, ef⟩ := h
    subst e
    exact .lst (SqL.of ha) (Reps.dp ds vs fq hr)
theorem Reps.dp {K : PySem.W.Frag} : ∀ (ds : List D) (vs : List V) (fp : List Addr), Reps F H ds vs fp → DpAll K H vs (pys ds)
  | [], vs, fp, h => by simp [Reps] at h; rw [h.1]; exact .nil
  | d :: ds, vs, fp, h => by
    simp only [Reps] at h
    obtain ⟨v, ws, f1, f2, e, ef, h1, h2⟩ := h
    subst e
    exact .cons (Rep.dp d v f1 h1) (Reps.dp ds ws f2 h2)
end
/-- a list in any state, as it is read -/
theorem Rep.seqL {K : PySem.W.Frag} {f : Bool} {ds : List D} {v : V} {fp : List Addr} (h : Rep F H (.lst f ds) v fp) : ∃ a vs fq, v = .ref a ∧ SqL K H a vs ∧ Reps F H ds vs fq ∧ (∀ b ∈ fq, b ∈ fp) ∧ (fp.Nodup → fq.Nodup) := by
  cases f with
  | true =>
    simp only [Rep] at h
    obtain ⟨a, vs, e, ha, hd, hr, ef⟩ := h
    exact ⟨a, vs, [], e, .inl hd, hr, by simp, by simp⟩
  | false =>
    simp only [Rep] at h
    obtain ⟨a, vs, fq, e, ha, hr, ef⟩ := h
    subst ef
    exact ⟨a, vs, fq, e, SqL.of ha, hr, fun b hb => by simp [hb], fun n => (List.nodup_cons.mp n).2⟩
theorem Rep.seqT {K : PySem.W.Frag} {ds : List D} {v : V} {fp : List Addr} (h : Rep F H (.tup ds) v fp) : ∃ a vs, v = .ref a ∧ SqT K H a vs ∧ H a = some (.tup vs) ∧ Reps F H ds vs fp := by
  simp only [Rep] at h
  obtain ⟨a, vs, e, ha, hr⟩ := h
  exact ⟨a, vs, e, SqT.of ha, ha, hr⟩
end

/-! ## steps -/
structure Stp (F : Addr → Prop) (H : Hp) (P : Addr → Prop) (F' : Addr → Prop) (H' : Hp) (P' : Addr → Prop) : Prop where
  f1 : ∀ a, F a → F' a
  f2 : ∀ a, F' a → F a ∨ P a ∨ H a = none
  k : ∀ a o, H a = some o → ¬ P a → H' a = some o
  p : ∀ a, P' a → P a ∨ H a = none
  h : ∀ a, H a ≠ none → H' a ≠ none
theorem Stp.refl (F : Addr → Prop) (H : Hp) (P : Addr → Prop) : Stp F H P F H P := ⟨fun _ h => h, fun _ h => .inl h, fun _ _ h _ => h, fun _ h => .inl h, fun _ h => h⟩
theorem Stp.trans {F F1 F2 : Addr → Prop} {H H1 H2 : Hp} {P P1 P2 : Addr → Prop} (a : Stp F H P F1 H1 P1) (b : Stp F1 H1 P1 F2 H2 P2) : Stp F H P F2 H2 P2 where
  f1 := fun x h => b.f1 x (a.f1 x h)
  f2 := fun x h => by
    rcases b.f2 x h with q | q | q
    · exact a.f2 x q
    · exact .inr (a.p x q)
    · by_cases e : H x = none
      · exact .inr (.inr e)
      · exact absurd q (a.h x e)
  k := fun x o h n => b.k x o (a.k x o h n) fun q => by
    rcases a.p x q with z | z
    · exact n z
    · rw [z] at h; cases h
  p := fun x h => by
    rcases b.p x h with q | q
    · exact a.p x q
    · by_cases e : H x = none
      · exact .inr e
      · exact absurd q (a.h x e)
  h := fun x h => b.h x (a.h x h)
theorem Stp.mono {F F' : Addr → Prop} {H H' : Hp} {P P' R R' : Addr → Prop} (a : Stp F H P F' H' P') (h1 : ∀ x, P x → R x) (h2 : ∀ x, R' x → P' x ∨ R x ∨ H x = none) : Stp F H R F' H' R' :=
  ⟨a.f1, fun x h => (a.f2 x h).imp id (Or.imp (h1 x) id), fun x o h n => a.k x o h fun q => n (h1 x q), fun x h => by
    rcases h2 x h with q | q
    · exact (a.p x q).imp (h1 x) id
    · exact q, a.h⟩
/-- something new -/
theorem Stp.new {F : Addr → Prop} {H : Hp} {P : Addr → Prop} {p : Addr} {o : HO} (hp : H p = none) : Stp F H P F (upd H p o) (fun a => P a ∨ a = p) where
  f1 := fun _ h => h
  f2 := fun _ h => .inl h
  k := fun a u h _ => by rw [upd_ne (ne_of_none h hp)]; exact h
  p := fun a h => by
    rcases h with h | h
    · exact .inl h
    · exact .inr (h ▸ hp)
  h := fun a h => by
    by_cases e : a = p
    · rw [e, upd_same]; simp
    · rw [upd_ne e]; exact h

/-! ## the names' trees -/
def Own (φ : Nat → List Addr) : Addr → Prop := fun a => ∃ i, a ∈ φ i
/-- what is known beside the names' trees: slots that hold a known value, an exception's dict -/
structure Pv where
  sl : List (Nat × V)
  hx : List (Addr × List (Str × V) × List (Str × D))
instance : Membership (Nat × V) Pv := ⟨fun pv p => p ∈ pv.sl⟩
abbrev Pv.e : Pv := ⟨[], []⟩
def Pv.add (l : List (Nat × V)) (pv : Pv) : Pv := ⟨l ++ pv.sl, pv.hx⟩
theorem Pv.mem_add {l : List (Nat × V)} {pv : Pv} {p : Nat × V} : p ∈ Pv.add l pv ↔ p ∈ l ∨ p ∈ pv := List.mem_append
theorem Pv.mem_e {p : Nat × V} (h : p ∈ Pv.e) : False := List.not_mem_nil h
def HxOk (F : Addr → Prop) (H : Hp) (q : Addr × List (Str × V) × List (Str × D)) : Prop := H q.1 = some (.xd q.2.1) ∧ q.2.1.map (·.1) = q.2.2.map (·.1) ∧ Reps F H (q.2.2.map (·.2)) (q.2.1.map (·.2)) []
structure Sta (F : Addr → Prop) (σ : St) (H : Hp) (env : EnvD) (φ : Nat → List Addr) (pw : Pv) : Prop where
  len : σ.length = env.length
  rep : ∀ i d, env[i]? = some (some d) → ∃ v, σ[i]? = some (some v) ∧ Rep F H d v (φ i)
  emp : ∀ i, (∀ d, env[i]? ≠ some (some d)) → φ i = []
  nd : ∀ i, (φ i).Nodup
  dj : ∀ i j a, i ≠ j → a ∈ φ i → a ∉ φ j
  nf : ∀ i a, a ∈ φ i → ¬ F a
  fh : ∀ a, F a → H a ≠ none
  pv : ∀ p ∈ pw, σ[p.1]? = some (some p.2)
  hx : ∀ q ∈ pw.hx, HxOk F H q
section
variable {F F' : Addr → Prop} {σ : St} {H H' : Hp} {env : EnvD} {φ : Nat → List Addr} {pv : Pv}
theorem Sta.ownl (s : Sta F σ H env φ pv) {i : Nat} {a : Addr} (h : a ∈ φ i) : ∃ vs, H a = some (.lst vs) := by
  cases e : env[i]? with
  | none => rw [s.emp i (fun d z => by rw [e] at z; cases z)] at h; cases h
  | some o =>
    cases o with
    | none => rw [s.emp i (fun d z => by rw [e] at z; cases z)] at h; cases h
    | some d =>
      obtain ⟨v, _, r⟩ := s.rep i d e
      exact Rep.fpl d v _ r a h
theorem Sta.notup (s : Sta F σ H env φ pv) {a : Addr} {xs : List V} (h : H a = some (.tup xs)) : ¬ Own φ a := fun ⟨i, q⟩ => by
  obtain ⟨vs, e⟩ := s.ownl q
  rw [h] at e; cases e
theorem Sta.nfO (s : Sta F σ H env φ pv) {a : Addr} (h : F a) : ¬ Own φ a := fun ⟨i, q⟩ => s.nf i a q h
theorem Sta.ownH (s : Sta F σ H env φ pv) {a : Addr} (h : Own φ a) : H a ≠ none := by
  obtain ⟨i, q⟩ := h
  obtain ⟨vs, e⟩ := s.ownl q
  rw [e]; simp
/-- what is known of a tree that stands apart goes on over a step of the names -/
theorem Rep.over {P' : Addr → Prop} {d : D} {v : V} {fp : List Addr} (s : Sta F σ H env φ pv) (st : Stp F H (Own φ) F' H' P') (hd : ∀ a ∈ fp, ¬ Own φ a) (h : Rep F H d v fp) : Rep F' H' d v fp :=
  Rep.keep st.k (fun a f => s.nfO f) (fun a xs e => s.notup e) st.f1 d v fp hd h
theorem Reps.over {P' : Addr → Prop} {ds : List D} {vs : List V} {fp : List Addr} (s : Sta F σ H env φ pv) (st : Stp F H (Own φ) F' H' P') (hd : ∀ a ∈ fp, ¬ Own φ a) (h : Reps F H ds vs fp) : Reps F' H' ds vs fp :=
  Reps.keep st.k (fun a f => s.nfO f) (fun a xs e => s.notup e) st.f1 ds vs fp hd h
theorem Rep.same {d : D} {v : V} {fp : List Addr} (k : ∀ a o, H a = some o → H' a = some o) (f : ∀ a, F a → F' a) (h : Rep F H d v fp) : Rep F' H' d v fp :=
  Rep.keep (P := fun _ => False) (fun a o e _ => k a o e) (fun _ _ z => z) (fun _ _ _ z => z) f d v fp (fun _ _ z => z) h
theorem Reps.same {ds : List D} {vs : List V} {fp : List Addr} (k : ∀ a o, H a = some o → H' a = some o) (f : ∀ a, F a → F' a) (h : Reps F H ds vs fp) : Reps F' H' ds vs fp :=
  Reps.keep (P := fun _ => False) (fun a o e _ => k a o e) (fun _ _ z => z) (fun _ _ _ z => z) f ds vs fp (fun _ _ z => z) h
theorem HxOk.same {q : Addr × List (Str × V) × List (Str × D)} (k : ∀ a o, H a = some o → H' a = some o) (f : ∀ a, F a → F' a) (h : HxOk F H q) : HxOk F' H' q := ⟨k _ _ h.1, h.2.1, h.2.2.same k f⟩
theorem Sta.notxd (s : Sta F σ H env φ pv) {a : Addr} {gs : List (Str × V)} (h : H a = some (.xd gs)) : ¬ Own φ a := fun ⟨i, q⟩ => by
  obtain ⟨vs, e⟩ := s.ownl q
  rw [h] at e; cases e
theorem HxOk.over {P' : Addr → Prop} {q : Addr × List (Str × V) × List (Str × D)} (s : Sta F σ H env φ pv) (st : Stp F H (Own φ) F' H' P') (h : HxOk F H q) : HxOk F' H' q := ⟨st.k _ _ h.1 (s.notxd h.1), h.2.1, h.2.2.over s st (fun _ z => nomatch z)⟩
/-- the heap grows, F too by what no name owns -/
theorem Sta.grow (s : Sta F σ H env φ pv) (k : ∀ a o, H a = some o → H' a = some o) (f : ∀ a, F a → F' a) (hn : ∀ i a, a ∈ φ i → ¬ F' a) (fh : ∀ a, F' a → H' a ≠ none) : Sta F' σ H' env φ pv :=
  ⟨s.len, fun i d e => by
    obtain ⟨v, e1, r⟩ := s.rep i d e
    exact ⟨v, e1, r.same k f⟩, s.emp, s.nd, s.dj, hn, fh, s.pv, fun q hq => (s.hx q hq).same k f⟩
theorem Sta.new (s : Sta F σ H env φ pv) {p : Addr} {o : HO} (hp : H p = none) : Sta F σ (upd H p o) env φ pv :=
  s.grow (fun a u h => by rw [upd_ne (ne_of_none h hp)]; exact h) (fun _ h => h) s.nf fun a f => by
    by_cases e : a = p
    · rw [e, upd_same]; simp
    · rw [upd_ne e]; exact s.fh a f
theorem Sta.newO (s : Sta F σ H env φ pv) {p : Addr} (hp : H p = none) : ¬ Own φ p := fun h => s.ownH h hp
end
end VS

end

section
set_option linter.all false
namespace VS
open PySem

/-! ## from the text's AST to the small language -/
structure Stc where
  N : List Str
  fns : List Str
  consts : List (Str × D)
  cls : List (Str × List Str × List Str) := []
  hot : Option Str := none
def isLoc (sc : Scope) (x : Str) : Bool := match sc.names.lookup x with
  | some .local => true
  | some .cell => true
  | _ => false
def isVis (sc : Scope) (x : Str) : Bool := match sc.names.lookup x with
  | some .local => true
  | some .cell => true
  | some .free => true
  | _ => false
def isGl (sc : Scope) (x : Str) : Bool := match sc.names.lookup x with
  | some .globalImplicit => true
  | _ => false
def okName (x : Str) : Bool := !(x == ("__debug__" : Str)) && !(x == ("__classdict__" : Str)) && !(x == ("__name__" : Str))
def findN : List Str → Str → Option Nat
  | [], _ => none
  | y :: N, x => if y = x then some 0 else (findN N x).map (· + 1)
def trVar (T : Stc) (sc : Scope) (x : Str) : Option Nat := if isVis sc x && okName x then findN T.N x else none
def trLoc (T : Stc) (sc : Scope) (x : Str) : Option Nat := if isLoc sc x && okName x then findN T.N x else none
def constE : D → Option E
  | .int i => some (.int i)
  | .str s => some (.str s)
  | _ => none
def trBop : Operator → Option Bop
  | .Add => some .add | .Sub => some .sub | .Mult => some .mul | .FloorDiv => some .fdiv | .Mod => some .mod | .Pow => some .pow
  | _ => none
def trCop : CmpOp → Option Cop
  | .Eq => some .eq | .NotEq => some .ne | .Lt => some .lt | .LtE => some .le | .Gt => some .gt | .GtE => some .ge | .In => some .isin | .NotIn => some .notin | .Is => some .is_ | .IsNot => some .isnt
def trEs (f : Expr → Option E) : List Expr → Option Es
  | [] => some .nil
  | e :: es => (f e).bind fun a => (trEs f es).map fun r => .cons a r
def trAnd (f : Expr → Option E) : List Expr → Option E
  | [] => none
  | [e] => f e
  | e :: es => (f e).bind fun a => (trAnd f es).map fun r => .and_ a r
def trOr (f : Expr → Option E) : List Expr → Option E
  | [] => none
  | [e] => f e
  | e :: es => (f e).bind fun a => (trOr f es).map fun r => .or_ a r
def trNames (T : Stc) (sc : Scope) (ok : Str → Bool) : List Expr → Option (List Nat)
  | [] => some []
  | .Name x _ :: es => if ok x then (trLoc T sc x).bind fun i => (trNames T sc ok es).map fun r => i :: r else none
  | _ => none
def trTg (T : Stc) (sc : Scope) (ok : Str → Bool) : Expr → Option Tg
  | .Name x _ => if ok x then (trLoc T sc x).map .v else none
  | .Tuple es _ _ => (trNames T sc ok es).map .t
  | _ => none
def tyNames : List Str := ["int", "bool", "str", "list", "tuple"]
def trTy (sc : Scope) (x : Str) : Option String :=
  if isGl sc x then if x = "int" then some "int" else if x = "bool" then some "bool" else if x = "str" then some "str" else if x = "list" then some "list" else if x = "tuple" then some "tuple" else none else none
def trTys (sc : Scope) : List Expr → Option (List String)
  | [] => some []
  | .Name x _ :: es => (trTy sc x).bind fun t => (trTys sc es).map fun r => t :: r
  | _ => none
def trPrim (x : Str) (n : Nat) : Option Pr :=
  if x = "len" then (if n = 1 then some .len else none)
  else if x = "int" then (if n = 1 then some .int1 else none)
  else if x = "min" then (if n = 2 then some .min2 else if n = 1 then some .minL else none)
  else if x = "max" then (if n = 2 then some .max2 else if n = 1 then some .maxL else none)
  else if x = "sum" then (if n = 1 then some .sum else none)
  else if x = "abs" then (if n = 1 then some .abs else none)
  else if x = "tuple" then (if n = 1 then some .tuple1 else none)
  else if x = "list" then (if n = 1 then some .list1 else none)
  else none
def trMt (x : Str) (n : Nat) : Option Mt :=
  if x = "index" then (if n = 1 then some .lindex else none)
  else if x = "count" then (if n = 1 then some .scount else none)
  else if x = "find" then (if n = 1 then some .sfind else none)
  else if x = "join" then (if n = 1 then some .sjoin else none)
  else none
/-- classes that isinstance is asked for -/
def tstOk (T : Stc) (sc : Scope) (t : Str) : Bool := isGl sc t && ((T.cls.map (·.1)).contains t || t == ("ValueError" : Str))
def trCls (T : Stc) (sc : Scope) : List Expr → Option (List Str)
  | [] => some []
  | .Name t _ :: es => if tstOk T sc t then (trCls T sc es).map fun r => t :: r else none
  | _ => none
def trHot (T : Stc) (sc : Scope) : List Expr → Option (List Str)
  | [.Name z _, .Name t _] => if T.hot = some z ∧ tstOk T sc t = true ∧ isVis sc z = true ∧ okName z = true then some [t] else none
  | [.Name z _, .Tuple es _ _] => if T.hot = some z ∧ isVis sc z = true ∧ okName z = true ∧ es.length ≤ 100 then trCls T sc es else none
  | _ => none
def fldsT (T : Stc) (c : Str) : List Str := match T.cls.lookup c with
  | some p => p.2
  | none => []
/-- no call without arguments -/
def notNull : Expr → Bool
  | .Call _ [] _ _ => false
  | _ => true
/-- a comprehension's own names with their places -/
def ownOf (T : Stc) : List (Str × NameKind) → List (Str × Nat)
  | [] => []
  | (x, k) :: r => match k with
    | .local => (match findN T.N x with
      | some i => (x, i) :: ownOf T r
      | none => ownOf T r)
    | .cell => (match findN T.N x with
      | some i => (x, i) :: ownOf T r
      | none => ownOf T r)
    | _ => ownOf T r
def ownNm (scope : Scope) (x : Str) : Bool := match scope.names.lookup x with
  | some .local => true
  | some .cell => true
  | _ => false
def isTupE : Expr → Bool
  | .Tuple _ _ _ => true
  | _ => false
def trIt (T : Stc) (sc : Scope) (f : Expr → Option E) (tg : Expr) : Expr → Option It
  | .Call (.Name x p) es [] pos =>
    if isGl sc x && !(T.fns.contains x) && x == ("range" : Str) then match es with
      | [a] => (trEs f [a]).map .rng
      | [a, b] => (trEs f [a, b]).map .rng
      | _ => none
    else if isGl sc x && !(T.fns.contains x) && x == ("enumerate" : Str) && isTupE tg then match es with
      | [a] => (f a).map .enum
      | _ => none
    else if isGl sc x && !(T.fns.contains x) && x == ("zip" : Str) && isTupE tg then match es with
      | [a, b] => (f a).bind fun a => (f b).map fun b => .zip a b
      | _ => none
    else if isGl sc x && !(T.fns.contains x) && x == ("reversed" : Str) then match es with
      | [a] => (f a).map .rev
      | _ => none
    else (f (.Call (.Name x p) es [] pos)).map .over
  | .Set _ _ _ => none
  | e => (f e).map .over
def trE (T : Stc) : Nat → Scope → Expr → Option E
  | 0, _, _ => none
  | n + 1, sc, e => match e with
    | .Constant c _ _ => (match c with
      | .none => some .non
      | .bool b => some (.bl b)
      | .int i => some (.int i)
      | .str s => some (.str s)
      | _ => none)
    | .Name x _ => if isVis sc x then (trVar T sc x).map .var else if isGl sc x && okName x then (T.consts.lookup x).bind constE else none
    | .BinOp a o b _ => (trBop o).bind fun o => (trE T n sc a).bind fun a => (trE T n sc b).map fun b => .bin o a b
    | .UnaryOp .USub a _ => (trE T n sc a).map .neg
    | .UnaryOp .Not a _ => (trE T n sc a).map .not_
    | .BoolOp .And es _ => trAnd (trE T n sc) es
    | .BoolOp .Or es _ => trOr (trE T n sc) es
    | .Compare a [.Is] [.Constant .none _ _] _ => (trE T n sc a).map (.isN false)
    | .Compare a [.IsNot] [.Constant .none _ _] _ => (trE T n sc a).map (.isN true)
    | .Compare a [o] [b] _ => (trCop o).bind fun o => (trE T n sc a).bind fun a => (trE T n sc b).map fun b => .cmp o a b
    | .Compare a [o, p] [b, c] _ => (trCop o).bind fun o => (trCop p).bind fun p => (trE T n sc a).bind fun a => (trE T n sc b).bind fun b => (trE T n sc c).map fun c => .cmp2 o p a b c
    | .IfExp c a b _ => (trE T n sc c).bind fun c => (trE T n sc a).bind fun a => (trE T n sc b).map fun b => .ite c a b
    | .Tuple es _ _ => (trEs (trE T n sc) es).map .tup
    | .List es _ => (trEs (trE T n sc) es).map .lst
    | .Subscript a (.Slice lo hi none _) _ => (trE T n sc a).bind fun a =>
      (match lo with
        | none => some none
        | some l => (trE T n sc l).map some).bind fun l =>
      (match hi with
        | none => some none
        | some h => (trE T n sc h).map some).map fun h => .slice a l h
    | .Subscript _ (.Slice _ _ (some _) _) _ => none
    | .Subscript a i _ => (trE T n sc a).bind fun a => (trE T n sc i).map fun i => .sub a i
    | .Call (.Name x _) es [] _ =>
      if isGl sc x && okName x then
        match findN T.fns x with
        | some i => if es.isEmpty || T.hot.isSome then none else (trEs (trE T n sc) es).map (.call i)
        | none => if x = "isinstance" then match trHot T sc es with
          | some ts => some (.exIs ts)
          | none => match es with
            | [a, .Name t _] => (trE T n sc a).bind fun a => (trTy sc t).map fun t => .prim (.isT [t]) (.cons a .nil)
            | [a, .Tuple ts _ _] => (trE T n sc a).bind fun a => (trTys sc ts).bind fun ts => if ts.length ≤ 5 then some (.prim (.isT ts) (.cons a .nil)) else none
            | _ => none
          else if T.hot.isSome then none else ((trPrim x es.length).bind fun p => (trEs (trE T n sc) es).map (.prim p))
      else none
    | .Call (.Attribute o m apos) es [] cpos => if notNull o && (apos.endLine == cpos.line) then (trMt m es.length).bind fun p => (trE T n sc o).bind fun a => (trEs (trE T n sc) es).map (.meth p a) else none
    | .Attribute (.Name y _) f _ => if T.hot = some y ∧ isVis sc y = true ∧ okName y = true then some (.exFld f) else none
    | .ListComp elt [⟨tg, iter, ifs, 0⟩] scope _ =>
      let own : List (Str × Nat) := ownOf T scope.names
      let sc' : Scope := L2.relS scope sc
      if L2.blkC T.N sc scope own && T.hot.isNone then
        (trIt T sc (trE T n sc) tg iter).bind fun it => (trTg T sc' (ownNm scope) tg).bind fun g => (trE T n sc' elt).bind fun el =>
        (match ifs with
          | [] => some none
          | [c] => (trE T n sc' c).map some
          | _ => none).bind fun cd => if g.slots.all fun j => (own.map Prod.snd).contains j then some (.comp el (own.map Prod.snd) g it cd) else none
      else none
    | _ => none
def isComp : Expr → Bool
  | .ListComp _ _ _ _ => true
  | .SetComp _ _ _ _ => true
  | .DictComp _ _ _ _ _ => true
  | _ => false
/-- y = [..]: stored within the comprehension's block (a local that is not its own, on one line) -/
def swOk (sc : Scope) (y : Str) (py pos : Pos) (scope : Scope) : Bool :=
  (match sc.names.lookup y with
    | some .local => true
    | _ => false) && (py.line == pos.line) && !(scope.names.any fun (n, k) => n == y && (k == .local || k == .cell))
def isCell (sc : Scope) (y : Str) : Bool := match sc.names.lookup y with
  | some .cell => true
  | _ => false
def trSs (f : Stmt → Option S) : List Stmt → Option Ss
  | [] => some .nil
  | s :: ss => (f s).bind fun a => (trSs f ss).map fun r => .cons a r
def trS (sc : Scope) : Nat → Stc → Stmt → Option S
  | 0, _, _ => none
  | n + 1, T, s => match s with
    | .Assign [.Name y py] (.ListComp elt gs scope pos) _ => (trLoc T sc y).bind fun i => if swOk sc y py pos scope || isCell sc y then (trE T n sc (.ListComp elt gs scope pos)).map (.asg i) else none
    | .Assign [.Name y _] e _ => if isComp e then none else (trLoc T sc y).bind fun i => (trE T n sc e).map (.asg i)
    | .Assign [.Tuple ts _ _] e _ => if isTupE e || isComp e || T.hot.isSome then none else (trNames T sc (fun _ => true) ts).bind fun is => (trE T n sc e).map (.unp is)
    | .Assign [.Subscript (.Name x _) (.Slice (some lo) (some hi) none _) _] e _ => if isComp e then none else (trLoc T sc x).bind fun x => (trE T n sc lo).bind fun a => (trE T n sc hi).bind fun b => (trE T n sc e).map fun e => .setSl x a b e
    | .Assign [.Subscript (.Name x _) i _] e _ => if isComp e then none else (trLoc T sc x).bind fun x => (match i with
      | .Slice _ _ _ _ => none
      | i => trE T n sc i).bind fun i => (trE T n sc e).map fun e => .setI x i e
    | .Expr (.Call (.Attribute (.Name x _) m apos) [e] [] cpos) _ => if m = "append" ∧ (apos.endLine == cpos.line) = true then (trVar T sc x).bind fun x => (trE T n sc e).map (.app x) else none
    | .Expr (.Call (.Attribute (.Name x _) m apos) [i, e] [] cpos) _ => if m = "insert" ∧ (apos.endLine == cpos.line) = true then (trVar T sc x).bind fun x => (trE T n sc i).bind fun i => (trE T n sc e).map fun e => .ins x i e else none
    | .Expr e _ => if isComp e then none else (trE T n sc e).map .expr
    | .Return (some e) _ => (trE T n sc e).map .ret
    | .Return none _ => some (.ret .non)
    | .If c a b _ => (trE T n sc c).bind fun c => (trSs (trS sc n T) a).bind fun a => (trSs (trS sc n T) b).map fun b => .if_ c a b
    | .For tg iter body [] _ => if T.hot.isSome then none else (trTg T sc (fun _ => true) tg).bind fun g => (trIt T sc (trE T n sc) tg iter).bind fun it => (trSs (trS sc n T) body).map fun b => .for_ g it b
    | .While c body [] _ => (trE T n sc c).bind fun c => (trSs (trS sc n T) body).map fun b => .while_ c b
    | .Break _ => some .brk
    | .Continue _ => some .cont
    | .Pass _ => some .pass
    | .Raise (some (.Call (.Name c _) (e :: es) [] _)) none _ => if T.hot = none ∧ isGl sc c = true ∧ (fldsT T c).isEmpty = false then (trEs (trE T n sc) (e :: es)).map (.raise c) else some .never
    | .Raise _ _ _ => some .never
    | .Try body [.ExceptHandler (some (.Name c _)) (some y) (b₀ :: suite) _] [] [] _ => if T.hot = none ∧ isGl sc c = true ∧ (T.cls.map (·.1)).contains c = true ∧ sc.names.lookup y = some .local then
        (findN T.N y).bind fun i => (trSs (trS sc n T) body).bind fun b => (trSs (trS sc n { T with hot := some y }) (b₀ :: suite)).map fun h => .try_ b i c h
      else none
    | _ => none
end VS

end

section
set_option linter.all false
set_option maxRecDepth 100000
set_option maxHeartbeats 1000000
namespace VS
open PySem L2 PyProof.Rows

section
variable {X : Cx}
theorem PE.imp {e : Expr} {t t' : TE} (h : PE X e t) (w : ∀ σ H Q, t' σ H Q → t σ H Q) : PE X e t' := ⟨fun pins s σ H Q I q => h.run pins s σ H Q I (w σ H Q q)⟩
theorem PT.imp {e : Expr} {t t' : TT} (h : PT X e t) (w : ∀ σ H Q, t' σ H Q → t σ H Q) : PT X e t' := ⟨fun pins s σ H Q I q => h.run pins s σ H Q I (w σ H Q q)⟩
theorem PW.imp {e : Expr} {t t' : TT} (h : PW X e t) (w : ∀ σ H Q, t' σ H Q → t σ H Q) : PW X e t' := ⟨fun wh pins s σ H Q I q => h.run wh pins s σ H Q I (w σ H Q q)⟩
theorem PA.imp {e : List Expr} {t t' : TA} (h : PA X e t) (w : ∀ σ H Q, t' σ H Q → t σ H Q) : PA X e t' := ⟨fun p pins s σ H Q I q => h.run p pins s σ H Q I (w σ H Q q)⟩
theorem PS.imp {e : Stmt} {t t' : TS} (h : PS X e t) (w : ∀ σ H Q, t' Q σ H → t Q σ H) : PS X e t' := ⟨fun pins s σ H Q I q => h.run pins s σ H Q I (w σ H Q q)⟩
theorem PSs.imp {e : List Stmt} {t t' : TS} (h : PSs X e t) (w : ∀ σ H Q, t' Q σ H → t Q σ H) : PSs X e t' := ⟨fun pins s σ H Q I q => h.run pins s σ H Q I (w σ H Q q)⟩
theorem PG.imp {e : Expr} {t t' : TG} (h : PG X e t) (w : ∀ v σ H Q, t' v σ H Q → t v σ H Q) : PG X e t' := ⟨fun pins s σ H v u Q I r q => h.run pins s σ H v u Q I r (w v σ H Q q)⟩
theorem PG.or {e : Expr} {t t' : TG} (h : PG X e t) (h' : PG X e t') : PG X e (fun v σ H Q => t v σ H Q ∨ t' v σ H Q) := ⟨fun pins s σ H v u Q I r q => q.elim (h.run pins s σ H v u Q I r) (h'.run pins s σ H v u Q I r)⟩
theorem PI.imp {tg e : Expr} {t t' : TI} (h : PI X tg e t) (w : ∀ σ H Q, t' σ H Q → t σ H Q) : PI X tg e t' := ⟨fun pins s σ H Q I q => h.run pins s σ H Q I (w σ H Q q)⟩
theorem PI.or {tg e : Expr} {t t' : TI} (h : PI X tg e t) (h' : PI X tg e t') : PI X tg e (fun σ H R => t σ H R ∨ t' σ H R) := ⟨fun pins s σ H Q I q => q.elim (h.run pins s σ H Q I) (h'.run pins s σ H Q I)⟩
end

/-! ## rules by trees -/
/-- a fresh result -/
def FreshQ (F : Addr → Prop) (H : Hp) (r : D) (Q : VK) : Prop := ∀ v H' fr, (∀ a o, H a = some o → H' a = some o) → Rep F H' r v fr → fr.Nodup → (∀ a ∈ fr, H a = none) → Q v H'
theorem upd_keeps {H : Hp} {p : Addr} {o : HO} (hp : H p = none) : ∀ a u, H a = some u → upd H p o a = some u := fun a u h => by rw [upd_ne (ne_of_none h hp)]; exact h
section
variable {F : Addr → Prop} {H : Hp} {Q : VK}
theorem FreshQ.int {i : Int} (q : FreshQ F H (.int i) Q) : Q (.int i) H := q _ _ [] (fun _ _ h => h) ⟨rfl, rfl⟩ (by simp) (by simp)
theorem FreshQ.str {i : Str} (q : FreshQ F H (.str i) Q) : Q (.str i) H := q _ _ [] (fun _ _ h => h) ⟨rfl, rfl⟩ (by simp) (by simp)
theorem FreshQ.bl {i : Bool} (q : FreshQ F H (.bl i) Q) : Q (.bl i) H := q _ _ [] (fun _ _ h => h) ⟨rfl, rfl⟩ (by simp) (by simp)
theorem FreshQ.lst {ds : List D} {vs : List V} (q : FreshQ F H (.lst false ds) Q) (r : Reps F H ds vs []) {p : Addr} (hp : H p = none) : Q (.ref p) (upd H p (.lst vs)) :=
  q _ _ [p] (upd_keeps hp) ⟨p, vs, [], rfl, upd_same, Reps.same (upd_keeps hp) (fun _ h => h) r, rfl⟩ (by simp) (by simpa using hp)
theorem FreshQ.tup {ds : List D} {vs : List V} (q : FreshQ F H (.tup ds) Q) (r : Reps F H ds vs []) {p : Addr} (hp : H p = none) : Q (.ref p) (upd H p (.tup vs)) :=
  q _ _ [] (upd_keeps hp) ⟨p, vs, rfl, upd_same, Reps.same (upd_keeps hp) (fun _ h => h) r⟩ (by simp) (by simp)
theorem FreshQ.as {d : D} {v : V} (q : FreshQ F H d Q) (r : Rep F H d v []) : Q v H := q _ _ [] (fun _ _ h => h) r (by simp) (by simp)
theorem Reps.kids0 {ds : List D} {vs : List V} {fp : List Addr} (h : Reps F H ds vs fp) (s : shrs ds = true) : Reps F H ds vs [] := by
  have := Reps.shr ds vs fp s h
  subst this
  exact h
theorem ints_vals : ∀ {ds : List D} {vs : List V} {fp : List Addr} {ns : List Int}, Reps F H ds vs fp → ints? ds = some ns → vs = ns.map V.int
  | [], vs, fp, ns, h, e => by
    simp only [ints?, Option.some.injEq] at e
    simp only [Reps] at h
    rw [h.1, ← e]
    rfl
  | d :: ds, vs, fp, ns, h, e => by
    cases d with
    | int i =>
      simp only [Reps, Rep] at h
      obtain ⟨v, ws, f1, f2, e1, _, h1, h2⟩ := h
      simp only [ints?] at e
      cases q : ints? ds with
      | none => rw [q] at e; cases e
      | some ms =>
        rw [q] at e
        cases e
        rw [e1, h1.1, ints_vals h2 q]
        rfl
    | _ => simp [ints?] at e
end
section
variable {prog : Program} {w : World} {A : Around} {E : Value → Shared → Prop} {s : Shared}
/-- list + list, the objects in any state -/
theorem add_plain {l b : Addr} {vs ws : List Value} {Q : Value → Shared → Prop} (hl : s.heap.IsList l vs.toArray) (hb : s.heap.IsList b ws.toArray)
    (h : Q (.ref s.heap.objs.size) { s with heap := s.heap.push { cls := .type "list", data := .seq (vs ++ ws).toArray } }) (hsz : vs.length + ws.length ≤ sizeLine) :
    wpAny (model prog w) A (binaryOp .Add (.ref l) (.ref b)) Q E s := by
  obtain ⟨⟨cls, dd, data, sl⟩, ho, hc, n, hd⟩ := id hl
  obtain ⟨⟨cls2, dd2, data2, sl2⟩, ho2, hc2, n2, hd2⟩ := id hb
  simp only at hc hd hc2 hd2
  subst hc hd hc2 hd2
  have e : vs.toArray ++ ws.toArray = (vs ++ ws).toArray := by simp
  refine PySem.concat_meets ⟨_, ho, rfl⟩ ⟨_, ho2, rfl⟩ PySem.noFill_list_add PySem.seq_list_add PySem.F.slot_list_add PySem.F.entry_list_add (PySem.F.args_list_add_2 _ _) (PyProof.Rows.list_addW l b vs.toArray ws.toArray n n2 dd dd2 sl sl2 (by simpa using hsz)) ⟨ho, ho2, ?_⟩
  rw [e]
  exact h
end
def opOf : Bop → Operator
  | .add => .Add | .sub => .Sub | .mul => .Mult | .fdiv => .FloorDiv | .mod => .Mod | .pow => .Pow
theorem opOf_tr {o : Operator} {b : Bop} (h : trBop o = some b) : o = opOf b := by cases o <;> simp [trBop] at h <;> subst h <;> rfl
theorem mulS_ok {z : Str} {n : Int} (h1 : 0 ≤ n) (h2 : n ≤ 1000000) (h3 : z.length * n.toNat ≤ 1000000) : MulOk z n := by
  refine ⟨by rw [decide_eq_false (by omega), decide_eq_false (by omega)]; rfl, fun c _ h => ?_, fun _ _ => ?_⟩
  · have h : (z.length : Int) > (2 ^ 63 - 1) / n := h
    have : (z.length : Int) ≤ (2 ^ 63 - 1) / n := by
      rw [Int.le_ediv_iff_mul_le (by omega)]
      have e : ((z.length * n.toNat : Nat) : Int) = (z.length : Int) * n := by rw [Int.natCast_mul, Int.toNat_of_nonneg h1]
      omega
    omega
  · unfold Builtin.Str.tooLong sizeLine
    exact decide_eq_false (by omega)
theorem op_mulS {X : Cx} : OpR X (binaryOp .Mult) (fun x y H Q => ∃ z n, x = .str z ∧ y = .int n ∧ MulOk z n ∧ Q (.str (Txt.mul z n)) H) := by
  intro pins s σ H x y v u Q I rx ry h
  obtain ⟨z, n, rfl, rfl, ok, q⟩ := h
  obtain ⟨t, rfl⟩ := rx
  obtain ⟨t', rfl⟩ := ry
  exact SB.mul ok fun t' k => ⟨.str _, H, I.tok _, ⟨_, rfl⟩, q⟩
theorem Reps.rep {F : Addr → Prop} {H : Hp} {ds : List D} {vs : List V} (h : Reps F H ds vs []) : ∀ k : Nat, Reps F H (List.replicate k ds).flatten (List.replicate k vs).flatten []
  | 0 => ⟨rfl, rfl⟩
  | k + 1 => by
    rw [List.replicate_succ, List.replicate_succ, List.flatten_cons, List.flatten_cons]
    exact h.append (Reps.rep h k)
theorem op_isB {X : Cx} : OpR X (compareOp .Is) (fun x y H Q => ∃ a b, x = .bl a ∧ y = .bl b ∧ Q (.bl (a == b)) H) := by
  intro pins s σ H x y v u Q I rx ry h
  obtain ⟨a, b, rfl, rfl, q⟩ := h
  cases rx
  cases ry
  have e : compareOp .Is (.bool a) (.bool b) = pure (.bool (a == b)) := by cases a <;> cases b <;> rfl
  rw [e]
  exact wpAny_pure ⟨.bl _, H, I, rfl, q⟩
theorem op_isntB {X : Cx} : OpR X (compareOp .IsNot) (fun x y H Q => ∃ a b, x = .bl a ∧ y = .bl b ∧ Q (.bl (!(a == b))) H) := by
  intro pins s σ H x y v u Q I rx ry h
  obtain ⟨a, b, rfl, rfl, q⟩ := h
  cases rx
  cases ry
  have e : compareOp .IsNot (.bool a) (.bool b) = pure (.bool (!(a == b))) := by cases a <;> cases b <;> rfl
  rw [e]
  exact wpAny_pure ⟨.bl _, H, I, rfl, q⟩
def rBop (o : Bop) : R2 := fun x y H Q => ∃ (F : Addr → Prop) (d e : D) (f g : List Addr), Rep F H d x f ∧ Rep F H e y g ∧ d.shrK = true ∧ e.shrK = true ∧ ∃ r, bop o d e = some r ∧ FreshQ F H r Q
theorem op_bop {X : Cx} (o : Bop) : OpR X (binaryOp (opOf o)) (rBop o) := by
  intro pins s σ H x y v u Q I rx ry hyp
  obtain ⟨F, d, e, f, g, hd, he, sd, se, r, hr, q⟩ := hyp
  cases o with
  | add =>
    cases d with
    | int i => cases e with
      | int j =>
        simp only [bop, Option.some.injEq] at hr; subst hr
        exact op_add pins s σ H x y v u Q I rx ry ⟨i, j, hd.1, he.1, q.int⟩
      | _ => simp [bop] at hr
    | str i => cases e with
      | str j =>
        simp only [bop] at hr
        split at hr
        · rename_i hl
          cases hr
          exact op_add_str pins s σ H x y v u Q I rx ry ⟨i, j, hd.1, he.1, hl, q.str⟩
        · cases hr
      | _ => simp [bop] at hr
    | lst b xs => cases e with
      | lst c ys =>
        simp only [bop] at hr
        split at hr
        · rename_i hl
          cases hr
          obtain ⟨a1, vs, f1, rfl, h1, r1, _⟩ := Rep.seqL (K := X.K) hd
          obtain ⟨a2, ws, f2, rfl, h2, r2, _⟩ := Rep.seqL (K := X.K) he
          have l1 := r1.length
          have l2 := r2.length
          cases rx
          cases ry
          obtain ⟨its1, rv1, p1, _⟩ := I.list h1
          obtain ⟨its2, rv2, p2, _⟩ := I.list h2
          have m1 := rv1.length
          have m2 := rv2.length
          refine add_plain p1.isList p2.isList ⟨.ref _, _, I.lnew (t' := s.toks) (rv1.append rv2) (by rw [List.length_append]; omega), rfl, q.lst ((r1.kids0 sd).append (r2.kids0 se)) I.fresh⟩ (by omega)
        · cases hr
      | _ => simp [bop] at hr
    | tup xs => cases e with
      | tup ys =>
        simp only [bop] at hr
        split at hr
        · rename_i hl
          cases hr
          obtain ⟨a1, vs, rfl, h1, g1, r1⟩ := Rep.seqT (K := X.K) hd
          obtain ⟨a2, ws, rfl, h2, g2, r2⟩ := Rep.seqT (K := X.K) he
          have z1 := r1.kids0 sd
          have z2 := r2.kids0 se
          have l1 := r1.length
          have l2 := r2.length
          have nil1 : vs = [] → xs = [] := fun z => List.length_eq_zero_iff.mp (by rw [← l1, z]; rfl)
          have nil2 : ws = [] → ys = [] := fun z => List.length_eq_zero_iff.mp (by rw [← l2, z]; rfl)
          refine op_catA pins s σ H _ _ v u Q I rx ry ⟨a1, a2, vs, ws, rfl, rfl, h1, h2, by rw [l1, l2]; exact hl, fun z => ?_, fun _ z => ?_, fun _ _ p hp => q.tup (z1.append z2) hp⟩
          · rw [nil1 z] at q
            exact q.as ⟨a2, ws, rfl, g2, z2⟩
          · rw [nil2 z, List.append_nil] at q
            exact q.as ⟨a1, vs, rfl, g1, z1⟩
        · cases hr
      | _ => simp [bop] at hr
    | _ => simp [bop] at hr
  | sub =>
    cases d with
    | int i => cases e with
      | int j =>
        simp only [bop, Option.some.injEq] at hr; subst hr
        exact op_sub pins s σ H x y v u Q I rx ry ⟨i, j, hd.1, he.1, q.int⟩
      | _ => simp [bop] at hr
    | _ => simp [bop] at hr
  | mul =>
    cases d with
    | int i => cases e with
      | int j =>
        simp only [bop] at hr
        split at hr
        · rename_i hm
          cases hr
          simp only [mulOk, Bool.or_eq_true, decide_eq_true_eq] at hm
          rcases hm with (hm | hm) | hm
          · exact op_mul pins s σ H x y v u Q I rx ry ⟨i, j, hd.1, he.1, .inl (by omega), q.int⟩
          · exact op_mul pins s σ H x y v u Q I rx ry ⟨i, j, hd.1, he.1, .inr (by omega), q.int⟩
          · exact op_mulW pins s σ H x y v u Q I rx ry ⟨i, j, hd.1, he.1, hm, q.int⟩
        · cases hr
      | _ => simp [bop] at hr
    | str z => cases e with
      | int n =>
        simp only [bop] at hr
        split at hr
        · rename_i hm
          cases hr
          exact op_mulS pins s σ H x y v u Q I rx ry ⟨z, n, hd.1, he.1, mulS_ok hm.1 hm.2.1 hm.2.2, q.str⟩
        · cases hr
      | _ => simp [bop] at hr
    | lst b xs => cases e with
      | int n => cases b with
        | true => simp [bop] at hr
        | false =>
          simp only [bop] at hr
          split at hr
          · rename_i hm
            cases hr
            simp only [Rep] at hd
            obtain ⟨a, vs, fq, e1, ha, hr, _⟩ := hd
            exact op_rep pins s σ H x y v u Q I rx ry ⟨a, n, vs, e1, he.1, ha, by omega, by omega, by rw [hr.length]; unfold sizeLine; omega, fun p hp => q.lst ((hr.kids0 sd).rep n.toNat) hp⟩
          · cases hr
      | _ => simp [bop] at hr
    | _ => simp [bop] at hr
  | fdiv =>
    cases d with
    | int i => cases e with
      | int j =>
        simp only [bop] at hr
        split at hr
        · rename_i hm
          cases hr
          exact op_fdivW pins s σ H x y v u Q I rx ry ⟨i, j, hd.1, he.1, hm, q.int⟩
        · cases hr
      | _ => simp [bop] at hr
    | _ => simp [bop] at hr
  | mod =>
    cases d with
    | int i => cases e with
      | int j =>
        simp only [bop] at hr
        split at hr
        · rename_i hm
          cases hr
          exact op_mod pins s σ H x y v u Q I rx ry ⟨i, j, hd.1, he.1, hm, q.int⟩
        · cases hr
      | _ => simp [bop] at hr
    | _ => simp [bop] at hr
  | pow =>
    cases d with
    | int i => cases e with
      | int j =>
        simp only [bop] at hr
        split at hr
        · rename_i hm
          cases hr
          exact op_pow pins s σ H x y v u Q I rx ry ⟨i, j, hd.1, he.1, hm, q.int⟩
        · cases hr
      | _ => simp [bop] at hr
    | _ => simp [bop] at hr
def copOf : Cop → CmpOp
  | .eq => .Eq | .ne => .NotEq | .lt => .Lt | .le => .LtE | .gt => .Gt | .ge => .GtE | .isin => .In | .notin => .NotIn | .is_ => .Is | .isnt => .IsNot
theorem copOf_tr {o : CmpOp} {b : Cop} (h : trCop o = some b) : o = copOf b := by cases o <;> simp [trCop] at h <;> subst h <;> rfl
def notSetE : Expr → Bool
  | .Set _ _ _ => false
  | _ => true
theorem copOf_mark (o : Cop) (b : Expr) (h : notSetE b = true) : behindInMarks (copOf o) b = false := by
  cases b <;> first | rfl | cases h
def rCop (o : Cop) : R2 := fun x y H Q => ∃ (F : Addr → Prop) (d e : D) (f g : List Addr), Rep F H d x f ∧ Rep F H e y g ∧ ∃ r, cop o d e = some r ∧ Q (.bl r) H
theorem D.fl_rel {F : Addr → Prop} {H : Hp} {d : D} {v : V} {f : List Addr} (h : Rep F H d v f) (e : d.fl = true) : v = d.vl ∧ flatV v = true := by
  cases d with
  | non => cases h.1; exact ⟨rfl, rfl⟩
  | bl b => cases h.1; exact ⟨rfl, rfl⟩
  | int i => cases h.1; exact ⟨rfl, rfl⟩
  | str s => cases h.1; exact ⟨rfl, rfl⟩
  | lst b xs => cases e
  | tup xs => cases e
theorem D.fls_rel {F : Addr → Prop} {H : Hp} : ∀ {ds : List D} {vs : List V} {f : List Addr}, Reps F H ds vs f → ds.all D.fl = true → vs = ds.map D.vl ∧ vs.all flatV = true
  | [], vs, f, h, _ => by simp only [Reps] at h; rw [h.1]; exact ⟨rfl, rfl⟩
  | d :: ds, vs, f, h, e => by
    simp only [Reps] at h
    obtain ⟨v, ws, f1, f2, rfl, rfl, h1, h2⟩ := h
    rw [List.all_cons, Bool.and_eq_true] at e
    obtain ⟨a1, a2⟩ := D.fl_rel h1 e.1
    obtain ⟨b1, b2⟩ := D.fls_rel h2 e.2
    refine ⟨by rw [a1, b1]; rfl, by rw [List.all_cons, a2, b2]; rfl⟩
theorem op_cop {X : Cx} (hu : X.A.units + 72 < cLine) (o : Cop) : OpR X (compareOp (copOf o)) (rCop o) := by
  intro pins s σ H x y v u Q I rx ry hyp
  obtain ⟨F, d, e, f, g, hd, he, r, hr, q⟩ := hyp
  cases o with
  | eq =>
    simp only [cop, eqD] at hr
    split at hr
    · rename_i hs
      cases hr
      rw [Bool.and_eq_true] at hs
      exact op_eqD (by omega) pins s σ H x y v u Q I rx ry ⟨d.py, e.py, Rep.dp d x f hd, Rep.dp e y g he, hs.1, hs.2, q⟩
    · cases hr
  | ne =>
    simp only [cop, eqD] at hr
    split at hr
    · rename_i hs
      cases hr
      rw [Bool.and_eq_true] at hs
      exact op_neD (by omega) pins s σ H x y v u Q I rx ry ⟨d.py, e.py, Rep.dp d x f hd, Rep.dp e y g he, hs.1, hs.2, q⟩
    · cases hr
  | lt =>
    cases d with
    | int i => cases e with
      | int j =>
        simp only [cop, Option.some.injEq] at hr; subst hr
        exact op_lt pins s σ H x y v u Q I rx ry ⟨i, j, hd.1, he.1, q⟩
      | _ => simp [cop] at hr
    | tup xs => cases e with
      | tup ys =>
        simp only [cop] at hr
        cases e1 : ints? xs with
        | none => rw [e1] at hr; cases hr
        | some ns => cases e2 : ints? ys with
          | none => rw [e1, e2] at hr; cases hr
          | some ms =>
            rw [e1, e2] at hr
            cases hr
            obtain ⟨a1, vs, rfl, h1, g1, r1⟩ := Rep.seqT (K := X.K) hd
            obtain ⟨a2, ws, rfl, h2, g2, r2⟩ := Rep.seqT (K := X.K) he
            have z1 := ints_vals r1 e1
            have z2 := ints_vals r2 e2
            subst z1 z2
            exact op_ltT (by omega) pins s σ H _ _ v u Q I rx ry ⟨a1, a2, ns, ms, rfl, rfl, h1, h2, q⟩
      | _ => simp [cop] at hr
    | _ => simp [cop] at hr
  | le =>
    cases d with
    | int i => cases e with
      | int j =>
        simp only [cop, Option.some.injEq] at hr; subst hr
        exact op_le pins s σ H x y v u Q I rx ry ⟨i, j, hd.1, he.1, q⟩
      | _ => simp [cop] at hr
    | _ => simp [cop] at hr
  | gt =>
    cases d with
    | int i => cases e with
      | int j =>
        simp only [cop, Option.some.injEq] at hr; subst hr
        exact op_gt pins s σ H x y v u Q I rx ry ⟨i, j, hd.1, he.1, q⟩
      | _ => simp [cop] at hr
    | _ => simp [cop] at hr
  | ge =>
    cases d with
    | int i => cases e with
      | int j =>
        simp only [cop, Option.some.injEq] at hr; subst hr
        exact op_ge pins s σ H x y v u Q I rx ry ⟨i, j, hd.1, he.1, q⟩
      | _ => simp [cop] at hr
    | _ => simp [cop] at hr
  | isin =>
    simp only [cop] at hr
    cases e with
    | lst b xs =>
      simp only [inD] at hr
      split at hr
      · rename_i hs
        cases hr
        rw [Bool.and_eq_true] at hs
        exact op_inD (by omega) pins s σ H x y v u Q I rx ry ⟨d.py, pys xs, Rep.dp d x f hd, Rep.dp (.lst b xs) y g he, hs.1, hs.2, q⟩
      · cases hr
    | tup xs =>
      simp only [inD] at hr
      split at hr
      · rename_i hs
        cases hr
        rw [Bool.and_eq_true] at hs
        obtain ⟨a2, ws, rfl, h2, g2, r2⟩ := Rep.seqT (K := X.K) he
        obtain ⟨z1, z2⟩ := D.fl_rel hd hs.1
        obtain ⟨z3, z4⟩ := D.fls_rel r2 hs.2
        rw [← z1, ← z3] at q
        exact op_in_seq pins s σ H x _ v u Q I rx ry ⟨a2, ws, rfl, .inr h2, z2, z4, q⟩
      · cases hr
    | str z =>
      cases d with
      | str y0 =>
        simp only [inD, Option.some.injEq] at hr
        subst hr
        exact op_in_str pins s σ H x y v u Q I rx ry ⟨y0, z, hd.1, he.1, q⟩
      | _ => simp [inD] at hr
    | _ => simp [inD] at hr
  | notin =>
    simp only [cop] at hr
    cases e with
    | lst b xs =>
      simp only [inD] at hr
      split at hr
      · rename_i hs
        cases hr
        rw [Bool.and_eq_true] at hs
        exact op_notInD (by omega) pins s σ H x y v u Q I rx ry ⟨d.py, pys xs, Rep.dp d x f hd, Rep.dp (.lst b xs) y g he, hs.1, hs.2, q⟩
      · cases hr
    | tup xs =>
      simp only [inD] at hr
      split at hr
      · rename_i hs
        cases hr
        rw [Bool.and_eq_true] at hs
        obtain ⟨a2, ws, rfl, h2, g2, r2⟩ := Rep.seqT (K := X.K) he
        obtain ⟨z1, z2⟩ := D.fl_rel hd hs.1
        obtain ⟨z3, z4⟩ := D.fls_rel r2 hs.2
        rw [← z1, ← z3] at q
        exact op_notIn_seq pins s σ H x _ v u Q I rx ry ⟨a2, ws, rfl, .inr h2, z2, z4, q⟩
      · cases hr
    | str z =>
      cases d with
      | str y0 =>
        simp only [inD, Option.map_some, Option.some.injEq] at hr
        subst hr
        exact op_notin_str pins s σ H x y v u Q I rx ry ⟨y0, z, hd.1, he.1, q⟩
      | _ => simp [inD] at hr
    | _ => simp [inD] at hr
  | is_ =>
    cases d with
    | bl a => cases e with
      | bl b =>
        simp only [cop, Option.some.injEq] at hr; subst hr
        exact op_isB pins s σ H x y v u Q I rx ry ⟨a, b, hd.1, he.1, q⟩
      | _ => simp [cop] at hr
    | _ => simp [cop] at hr
  | isnt =>
    cases d with
    | bl a => cases e with
      | bl b =>
        simp only [cop, Option.some.injEq] at hr; subst hr
        exact op_isntB pins s σ H x y v u Q I rx ry ⟨a, b, hd.1, he.1, q⟩
      | _ => simp [cop] at hr
    | _ => simp [cop] at hr
theorem Rep.isNon {F : Addr → Prop} {H : Hp} {d : D} {v : V} {f : List Addr} (h : Rep F H d v f) : decide (v = .non) = D.isNon d := by
  cases d with
  | non => rw [show v = V.non from h.1]; rfl
  | bl b => rw [show v = V.bl b from h.1]; rfl
  | int b => rw [show v = V.int b from h.1]; rfl
  | str b => rw [show v = V.str b from h.1]; rfl
  | tup ds => obtain ⟨a, vs, rfl, _⟩ := h; rfl
  | lst b ds => cases b with
    | true => simp only [Rep] at h; obtain ⟨a, vs, rfl, _⟩ := h; rfl
    | false => simp only [Rep] at h; obtain ⟨a, vs, fq, rfl, _⟩ := h; rfl
theorem isEmpty_len {α β : Type} {xs : List α} {ys : List β} (h : xs.length = ys.length) : xs.isEmpty = ys.isEmpty := by
  cases xs <;> cases ys <;> simp at h ⊢
theorem Rep.tru {K : PySem.W.Frag} {F : Addr → Prop} {H : Hp} {d : D} {v : V} {f : List Addr} {b : Bool} (h : Rep F H d v f) (e : d.truth = some b) : TruV K v H b := by
  cases d with
  | non => rw [h.1]; cases e; rfl
  | bl b => rw [h.1]; cases e; rfl
  | int b => rw [h.1]; cases e; rfl
  | str z =>
    rw [h.1]
    simp only [D.truth] at e
    split at e
    · rename_i hl
      cases e
      refine ⟨hl, ?_⟩
      cases hz : z.length <;> rfl
    · cases e
  | tup ds =>
    obtain ⟨a, vs, rfl, h1, _, r⟩ := Rep.seqT (K := K) h
    cases e
    exact .inr (.inl ⟨vs, h1, by rw [isEmpty_len r.length]⟩)
  | lst b ds =>
    obtain ⟨a, vs, fq, rfl, h1, r, _⟩ := Rep.seqL (K := K) h
    cases e
    exact .inl ⟨vs, h1, by rw [isEmpty_len r.length]⟩
theorem Rep.tyx {K : PySem.W.Frag} {F : Addr → Prop} {H : Hp} {d : D} {v : V} {f : List Addr} (h : Rep F H d v f) : ∃ t : String, TyX K H v (.type t) ∧ ∀ c, c ∈ (["int", "bool", "str", "list", "tuple"] : List String) → isTy d c = kitB t c := by
  have e : ∀ {t : String} {x : D}, ((["int", "bool", "str", "list", "tuple"] : List String).all fun c => decide (isTy x c = kitB t c)) = true → ∀ c, c ∈ (["int", "bool", "str", "list", "tuple"] : List String) → isTy x c = kitB t c :=
    fun {t x} h c hc => of_decide_eq_true (List.all_eq_true.mp h c hc)
  cases d with
  | non => exact ⟨"NoneType", by rw [h.1]; exact .base .non, e (x := .non) (by decide +kernel)⟩
  | bl b => exact ⟨"bool", by rw [h.1]; exact .base (.bl b), fun c hc => (e (t := "bool") (x := .bl true) (by decide +kernel) c hc) ▸ (by simp at hc; rcases hc with rfl | rfl | rfl | rfl | rfl <;> rfl)⟩
  | int b => exact ⟨"int", by rw [h.1]; exact .base (.int b), fun c hc => (e (t := "int") (x := .int 0) (by decide +kernel) c hc) ▸ (by simp at hc; rcases hc with rfl | rfl | rfl | rfl | rfl <;> rfl)⟩
  | str b => exact ⟨"str", by rw [h.1]; exact .base (.str b), fun c hc => (e (t := "str") (x := .str ⟨#[]⟩) (by decide +kernel) c hc) ▸ (by simp at hc; rcases hc with rfl | rfl | rfl | rfl | rfl <;> rfl)⟩
  | tup ds =>
    simp only [Rep] at h
    obtain ⟨a, vs, rfl, h1, _⟩ := h
    exact ⟨"tuple", .base (.tup h1), fun c hc => (e (t := "tuple") (x := .tup []) (by decide +kernel) c hc) ▸ (by simp at hc; rcases hc with rfl | rfl | rfl | rfl | rfl <;> rfl)⟩
  | lst b ds =>
    have : TyX K H v (.type "list") := by
      cases b with
      | true =>
        simp only [Rep] at h
        obtain ⟨a, vs, rfl, _, hd, _⟩ := h
        rcases hd with q | ⟨o, q⟩
        · exact .base (.lst q)
        · exact .base (.frz q)
      | false =>
        simp only [Rep] at h
        obtain ⟨a, vs, fq, rfl, q, _⟩ := h
        exact .base (.lst q)
    exact ⟨"list", this, fun c hc => (e (t := "list") (x := .lst true []) (by decide +kernel) c hc) ▸ (by simp at hc; rcases hc with rfl | rfl | rfl | rfl | rfl <;> rfl)⟩

/-! ## subscripts, slices, built-ins -/
theorem ixN_len {α β : Type} {xs : List α} {ys : List β} (h : xs.length = ys.length) (i : Int) : ixN xs.length i = ixN ys.length i := by rw [h]
theorem Reps.atI {F : Addr → Prop} {H : Hp} {ds : List D} {vs : List V} {fp : List Addr} {i : Int} {d : D} (h : Reps F H ds vs fp) (e : L2.atI ds i = some d) : ∃ v f, L2.atI vs i = some v ∧ Rep F H d v f ∧ (∀ a ∈ f, a ∈ fp) ∧ (fp.Nodup → f.Nodup) := by
  unfold L2.atI at e ⊢
  rw [h.length]
  cases q : ixN ds.length i with
  | none => rw [q] at e; cases e
  | some j =>
    rw [q] at e
    exact h.get e
def rSub (K : PySem.W.Frag) : R2 := fun x y H Q => ∃ (F : Addr → Prop) (d e : D) (f g : List Addr), Rep F H d x f ∧ Rep F H e y g ∧ ∃ r, subD d e = some r ∧ ∀ v fr, Rep F H r v fr → (∀ a ∈ fr, a ∈ f) → (f.Nodup → fr.Nodup) → Q v H
theorem ix_sub {X : Cx} : IxR X (rSub X.K) := by
  intro value slice pins s σ H x y v u Q I rx ry hyp hs
  obtain ⟨F, d, e, f, g, hd, he, r, hr, q⟩ := hyp
  cases e with
  | int i =>
    have ey : y = .int i := he.1
    cases d with
    | lst b xs =>
      obtain ⟨a, vs, fq, rfl, h1, r1, z1, z2⟩ := Rep.seqL (K := X.K) hd
      obtain ⟨w, fr, e1, e2, e3, e4⟩ := r1.atI (show L2.atI xs i = some r from hr)
      exact ix_list value slice pins s σ H _ y v u Q I rx ry ⟨a, vs, i, w, rfl, ey, h1, e1, q w fr e2 (fun c hc => z1 c (e3 c hc)) fun n => e4 (z2 n)⟩ hs
    | tup xs =>
      obtain ⟨a, vs, rfl, h1, g1, r1⟩ := Rep.seqT (K := X.K) hd
      obtain ⟨w, fr, e1, e2, e3, e4⟩ := r1.atI (show L2.atI xs i = some r from hr)
      exact ix_tup value slice pins s σ H _ y v u Q I rx ry ⟨a, vs, i, w, rfl, ey, h1, e1, q w fr e2 e3 e4⟩ hs
    | str z =>
      have ex : x = .str z := hd.1
      simp only [subD] at hr
      split at hr
      · rename_i hl
        cases hc : L2.atI z.cps.toList i with
        | none => rw [hc] at hr; cases hr
        | some c =>
          rw [hc] at hr
          cases hr
          exact ix_str value slice pins s σ H x y v u Q I rx ry ⟨z, i, c, ex, ey, hl, hc, q _ [] ⟨rfl, rfl⟩ (by simp) (by simp)⟩ hs
      · cases hr
    | _ => simp [subD] at hr
  | _ => cases d <;> simp [subD] at hr
def rSlice (K : PySem.W.Frag) : V → Option Int → Option Int → Hp → VK → Prop := fun x lo hi H Q => ∃ (F : Addr → Prop) (d : D) (f : List Addr), Rep F H d x f ∧ d.shrK = true ∧ ∃ r, sliceD d lo hi = some r ∧ FreshQ F H r Q
theorem Reps.drop {F : Addr → Prop} {H : Hp} : ∀ {ds : List D} {vs : List V} (n : Nat), Reps F H ds vs [] → Reps F H (ds.drop n) (vs.drop n) []
  | ds, vs, 0, h => by simpa using h
  | [], vs, n + 1, h => by simp only [Reps] at h; rw [h.1]; simp [Reps]
  | d :: ds, vs, n + 1, h => by
    simp only [Reps] at h
    obtain ⟨v, ws, f1, f2, rfl, ef, h1, h2⟩ := h
    obtain ⟨rfl, rfl⟩ := List.append_eq_nil_iff.mp ef.symm
    simpa using Reps.drop n h2
theorem Reps.take {F : Addr → Prop} {H : Hp} : ∀ {ds : List D} {vs : List V} (n : Nat), Reps F H ds vs [] → Reps F H (ds.take n) (vs.take n) []
  | ds, vs, 0, h => by simp [Reps]
  | [], vs, n + 1, h => by simp only [Reps] at h; rw [h.1]; simp [Reps]
  | d :: ds, vs, n + 1, h => by
    simp only [Reps] at h
    obtain ⟨v, ws, f1, f2, rfl, ef, h1, h2⟩ := h
    obtain ⟨rfl, rfl⟩ := List.append_eq_nil_iff.mp ef.symm
    simp only [List.take_succ_cons, Reps]
    exact ⟨v, ws.take n, [], [], rfl, rfl, h1, Reps.take n h2⟩
theorem sl_slice {X : Cx} : SlR X (rSlice X.K) := by
  intro pins s σ H x v vl vu lo hi sl Q I rx hs pl pu hyp
  obtain ⟨F, d, f, hd, sk, r, hr, q⟩ := hyp
  cases d with
  | lst b xs =>
    obtain ⟨a, vs, fq, rfl, h1, r1, _⟩ := Rep.seqL (K := X.K) hd
    simp only [sliceD, Option.some.injEq] at hr
    subst hr
    refine sl_list pins s σ H _ v vl vu lo hi sl Q I rx hs pl pu ⟨a, vs, rfl, h1, fun p hp => ?_⟩
    have z := (r1.kids0 sk)
    have l := r1.length
    refine q.lst ?_ hp
    unfold L2.cutV
    rw [l]
    exact (z.drop _).take _
  | tup xs =>
    obtain ⟨a, vs, rfl, h1, g1, r1⟩ := Rep.seqT (K := X.K) hd
    simp only [sliceD] at hr
    split at hr
    · cases hr
    · rename_i hw
      cases hr
      have l := r1.length
      refine sl_tup pins s σ H _ v vl vu lo hi sl Q I rx hs pl pu ⟨a, vs, rfl, h1, by rw [l]; exact hw, fun p hp => ?_⟩
      have z := (r1.kids0 sk)
      refine q.tup ?_ hp
      unfold L2.cutV
      rw [l]
      exact (z.drop _).take _
  | str z =>
    simp only [sliceD] at hr
    split at hr
    · rename_i hl
      cases hr
      exact C8.sl_txt pins s σ H x v vl vu lo hi sl Q I rx hs pl pu ⟨z, hd.1, hl, q.str⟩
    · cases hr
  | _ => simp [sliceD] at hr
/-- the parts of all of them may stand elsewhere -/
def shrKs (ds : List D) : Bool := ds.all D.shrK
def rPrim (p : Pr) : List V → Hp → VK → Prop := fun vs H Q => ∃ (F : Addr → Prop) (ds : List D) (f : List Addr), Reps F H ds vs f ∧ shrKs ds = true ∧ ∃ r, prim p ds = some r ∧ FreshQ F H r Q
def idOf : Pr → String
  | .len => "len" | .int1 => "int" | .min2 => "min" | .max2 => "max" | .minL => "min" | .maxL => "max" | .sum => "sum" | .abs => "abs" | .tuple1 => "tuple" | .list1 => "list" | .isT _ => "isinstance"
def tyPr : Pr → Bool
  | .int1 => true | .tuple1 => true | .list1 => true
  | _ => false
def valOf (p : Pr) : Value := if tyPr p then .type (idOf p) else .builtin (idOf p)
theorem Reps.one' {F : Addr → Prop} {H : Hp} {d : D} {vs : List V} {f : List Addr} (h : Reps F H [d] vs f) : ∃ v, vs = [v] ∧ Rep F H d v f := by
  simp only [Reps] at h
  obtain ⟨v, ws, f1, f2, rfl, rfl, h1, rfl, rfl⟩ := h
  exact ⟨v, rfl, by simpa using h1⟩
theorem Reps.two' {F : Addr → Prop} {H : Hp} {d e : D} {vs : List V} {f : List Addr} (h : Reps F H [d, e] vs f) : ∃ v w f1 f2, vs = [v, w] ∧ Rep F H d v f1 ∧ Rep F H e w f2 := by
  simp only [Reps] at h
  obtain ⟨v, ws, f1, f2, rfl, rfl, h1, w, us, g1, g2, rfl, rfl, h2, rfl, rfl⟩ := h
  exact ⟨v, w, f1, g1, rfl, h1, h2⟩
theorem maxI_spec : ∀ (n : Int) (ns : List Int), maxI (n :: ns) ∈ n :: ns ∧ ∀ y ∈ n :: ns, y ≤ maxI (n :: ns)
  | n, [] => by simp [maxI]
  | n, m :: ns => by
    obtain ⟨h1, h2⟩ := maxI_spec m ns
    simp only [maxI]
    split
    · rename_i h
      refine ⟨List.mem_cons_of_mem _ h1, fun y hy => ?_⟩
      rcases List.mem_cons.mp hy with rfl | hy
      · exact h
      · exact h2 y hy
    · rename_i h
      refine ⟨List.mem_cons_self, fun y hy => ?_⟩
      rcases List.mem_cons.mp hy with rfl | hy
      · exact Int.le_refl _
      · have := h2 y hy
        omega
theorem minI_spec : ∀ (n : Int) (ns : List Int), minI (n :: ns) ∈ n :: ns ∧ ∀ y ∈ n :: ns, minI (n :: ns) ≤ y
  | n, [] => by simp [minI]
  | n, m :: ns => by
    obtain ⟨h1, h2⟩ := minI_spec m ns
    simp only [minI]
    split
    · rename_i h
      refine ⟨List.mem_cons_of_mem _ h1, fun y hy => ?_⟩
      rcases List.mem_cons.mp hy with rfl | hy
      · exact h
      · exact h2 y hy
    · rename_i h
      refine ⟨List.mem_cons_self, fun y hy => ?_⟩
      rcases List.mem_cons.mp hy with rfl | hy
      · exact Int.le_refl _
      · have := h2 y hy
        omega
theorem sum_tup {prog : Program} {w : World} {A : Around} {E : Value → Shared → Prop} {s : Shared} {l : Addr} {its : List Value} {ns : List Int} {Q : Value → Shared → Prop} (hh : A.handled = none) (hl : s.heap.IsTuple l its.toArray) (hi : IntsAre its ns)
    (h : ∀ h' tk t', (∀ b o, s.heap.get? b = some o → h'.get? b = some o) → Q (.int ns.sum t') { s with heap := h', toks := tk }) : wpAny (model prog w) A (call (.builtin "sum") [.ref l]) Q E s := by
  obtain ⟨xs, e⟩ := hi.allInts.items
  have hn : numsOf (intItems xs).toList = ns := by rw [← e]; exact hi.numsOf
  rw [nums_intItems] at hn
  rw [e] at hl
  have hlt : l < s.heap.objs.size := by obtain ⟨_, e, _⟩ := hl; exact Heap.lt_size e
  refine call_sum_walkG (wpAny_pyIter_tuple hl ?_)
  refine ⟨_, _, _, _, _, _, numAt xs, rfl, Walks.tuple (A := A.in1) hh _ l (Nat.ne_of_lt hlt) (intItems xs), ⟨⟨_, Heap.get?_push_size _ rfl, rfl, rfl⟩, hl.push _⟩, fun b hb => ?_, (fun _ _ => intItems_at), fun h' tk t' hk => ?_⟩
  · show b < (s.heap.push _).objs.size
    rw [Heap.size_push]
    rcases List.mem_cons.mp hb with rfl | hb
    · exact Nat.lt_succ_self _
    · rcases List.mem_cons.mp hb with rfl | hb
      · exact Nat.lt_succ_of_lt hlt
      · cases hb
  · have q := h h' tk t' fun b o e => by
      refine hk b o (fun hm => ?_) (Heap.get?_push_of_some _ e)
      rcases List.mem_cons.mp hm with e1 | hm
      · exact absurd (e1 ▸ Heap.lt_size e) (Nat.lt_irrefl _)
      · cases hm
    have e2 : preSum (numAt xs) (intItems xs).size = ns.sum := by
      rw [preSum_eq, List.take_of_length_le (by simp [intItems]), hn]
    rw [e2]
    exact q
theorem cr_sumT {X : Cx} (hc : X.calm = true) : CallR X (.builtin "sum") (fun vs H Q => ∃ (a : Addr) (ns : List Int), vs = [V.ref a] ∧ SqT X.K H a (ns.map V.int) ∧ Q (.int ns.sum) H) := by
  intro pins s σ H vs us Q I r h
  obtain ⟨a, ns, rfl, hs, q⟩ := h
  obtain ⟨its, rv, hl, _⟩ := I.tuple hs
  rw [Vals.ref1 r]
  exact sum_tup (I.ok.hd hc) (show s.heap.IsTuple a its.toArray from hl) rv.ints fun h' tk t' hk => ⟨.int _, H, I.kept hk, ⟨_, rfl⟩, q⟩
theorem le_le {m n : Int} {l : List Int} (h1 : m ∈ l) (h2 : ∀ y ∈ l, y ≤ m) (h3 : n ∈ l) (h4 : ∀ y ∈ l, y ≤ n) : m = n := by
  have := h2 n h3
  have := h4 m h1
  omega
theorem ge_ge {m n : Int} {l : List Int} (h1 : m ∈ l) (h2 : ∀ y ∈ l, m ≤ y) (h3 : n ∈ l) (h4 : ∀ y ∈ l, n ≤ y) : m = n := by
  have := h2 n h3
  have := h4 m h1
  omega
theorem kitAny_of {K : PySem.W.Frag} {t : String} {d : D} : ∀ (ts : List String) {b : Bool}, (∀ c ∈ ts, isTy d c = kitB t c) → isTys d ts = some b → PySem.W.kitAny K (.type t) (ts.map Value.type) = some b
  | [], b, _, h => by cases h; exact kitAny_nil
  | c :: ts, b, hc, h => by
    simp only [isTys] at h
    have e := hc c (by simp)
    cases q : isTy d c with
    | none => rw [q] at h; cases h
    | some r =>
      rw [q] at h e
      cases r with
      | true => cases h; exact kitAny_cons (kit_ty e.symm) (fun z => nomatch z) (fun _ => rfl)
      | false => exact kitAny_cons (kit_ty e.symm) (fun _ => kitAny_of ts (fun x hx => hc x (by simp [hx])) h) (fun z => nomatch z)
theorem isTy_five {d : D} {c : String} {b : Bool} (h : isTy d c = some b) : c ∈ (["int", "bool", "str", "list", "tuple"] : List String) := by
  unfold isTy at h
  split at h <;> first | (simp; done) | cases h
theorem isTys_five {d : D} : ∀ {ts : List String}, isTys d ts = some false → ∀ c ∈ ts, c ∈ (["int", "bool", "str", "list", "tuple"] : List String)
  | [], _, c, h => by cases h
  | t :: ts, h, c, hc => by
    simp only [isTys] at h
    cases q : isTy d t with
    | none => rw [q] at h; cases h
    | some r =>
      rw [q] at h
      cases r with
      | true => cases h
      | false =>
        rcases List.mem_cons.mp hc with rfl | hc
        · exact isTy_five q
        · exact isTys_five h c hc
/-- a call of a built-in with values by a rule of values -/
theorem call_prim {X : Cx} (hc : X.calm = true) (p : Pr) (hp : ∀ ts, p ≠ .isT ts) : CallR X (valOf p) (rPrim p) := by
  intro pins s σ H xs us Q I r hyp
  obtain ⟨F, ds, f, hr, sk, d, hd, q⟩ := hyp
  cases p with
  | isT ts => exact absurd rfl (hp ts)
  | len =>
    match ds, hd with
    | [.lst b ys], hd =>
      obtain ⟨v, rfl, h1⟩ := hr.one'
      obtain ⟨a, vs, fq, rfl, h2, r1, _⟩ := Rep.seqL (K := X.K) h1
      simp only [prim, Option.some.injEq] at hd
      subst hd
      exact call_len pins s σ H _ us Q I r ⟨_, ys.length, rfl, .inl ⟨vs, h2, r1.length.symm⟩, q.int⟩
    | [.tup ys], hd =>
      obtain ⟨v, rfl, h1⟩ := hr.one'
      obtain ⟨a, vs, rfl, h2, _, r1⟩ := Rep.seqT (K := X.K) h1
      simp only [prim, Option.some.injEq] at hd
      subst hd
      exact call_len pins s σ H _ us Q I r ⟨_, ys.length, rfl, .inr ⟨vs, h2, r1.length.symm⟩, q.int⟩
    | [.str z], hd =>
      obtain ⟨v, rfl, h1⟩ := hr.one'
      simp only [prim] at hd
      split at hd
      · rename_i hl
        cases hd
        exact call_len pins s σ H _ us Q I r ⟨_, z.length, rfl, by rw [h1.1]; exact ⟨hl, rfl⟩, q.int⟩
      · cases hd
  | int1 =>
    match ds, hd with
    | [.int i], hd =>
      obtain ⟨v, rfl, h1⟩ := hr.one'
      simp only [prim, Option.some.injEq] at hd
      subst hd
      exact call_int1 pins s σ H _ us Q I r (.inl ⟨i, by rw [h1.1], q.int⟩)
    | [.bl b], hd =>
      obtain ⟨v, rfl, h1⟩ := hr.one'
      simp only [prim, Option.some.injEq] at hd
      subst hd
      exact call_int1 pins s σ H _ us Q I r (.inr ⟨b, by rw [h1.1], q.int⟩)
  | min2 =>
    match ds, hd with
    | [.int i, .int j], hd =>
      obtain ⟨v, w, f1, f2, rfl, h1, h2⟩ := hr.two'
      simp only [prim, Option.some.injEq] at hd
      subst hd
      exact call_min2 hc pins s σ H _ us Q I r ⟨i, j, by rw [h1.1, h2.1], q.int⟩
  | max2 =>
    match ds, hd with
    | [.int i, .int j], hd =>
      obtain ⟨v, w, f1, f2, rfl, h1, h2⟩ := hr.two'
      simp only [prim, Option.some.injEq] at hd
      subst hd
      exact call_max2 hc pins s σ H _ us Q I r ⟨i, j, by rw [h1.1, h2.1], q.int⟩
  | minL =>
    match ds, hd with
    | [.lst b ys], hd =>
      obtain ⟨v, rfl, h1⟩ := hr.one'
      obtain ⟨a, vs, fq, rfl, h2, r1, _⟩ := Rep.seqL (K := X.K) h1
      simp only [prim] at hd
      cases e : ints? ys with
      | none => rw [e] at hd; cases hd
      | some ns => cases ns with
        | nil => rw [e] at hd; cases hd
        | cons n ns =>
          rw [e] at hd
          cases hd
          have z := ints_vals r1 e
          subst z
          obtain ⟨g1, g2⟩ := minI_spec n ns
          exact cr_min hc pins s σ H _ us Q I r ⟨a, n :: ns, rfl, h2, by simp, fun m m1 m2 => by rw [ge_ge m1 m2 g1 g2]; exact q.int⟩
  | maxL =>
    match ds, hd with
    | [.lst b ys], hd =>
      obtain ⟨v, rfl, h1⟩ := hr.one'
      obtain ⟨a, vs, fq, rfl, h2, r1, _⟩ := Rep.seqL (K := X.K) h1
      simp only [prim] at hd
      cases e : ints? ys with
      | none => rw [e] at hd; cases hd
      | some ns => cases ns with
        | nil => rw [e] at hd; cases hd
        | cons n ns =>
          rw [e] at hd
          cases hd
          have z := ints_vals r1 e
          subst z
          obtain ⟨g1, g2⟩ := maxI_spec n ns
          exact cr_max hc pins s σ H _ us Q I r ⟨a, n :: ns, rfl, h2, by simp, fun m m1 m2 => by rw [le_le m1 m2 g1 g2]; exact q.int⟩
  | sum =>
    match ds, hd with
    | [.lst b ys], hd =>
      obtain ⟨v, rfl, h1⟩ := hr.one'
      obtain ⟨a, vs, fq, rfl, h2, r1, _⟩ := Rep.seqL (K := X.K) h1
      simp only [prim] at hd
      cases e : ints? ys with
      | none => rw [e] at hd; cases hd
      | some ns =>
        rw [e] at hd
        cases hd
        have z := ints_vals r1 e
        subst z
        exact cr_sum hc pins s σ H _ us Q I r ⟨a, ns, rfl, h2, q.int⟩
    | [.tup ys], hd =>
      obtain ⟨v, rfl, h1⟩ := hr.one'
      obtain ⟨a, vs, rfl, h2, _, r1⟩ := Rep.seqT (K := X.K) h1
      simp only [prim] at hd
      cases e : ints? ys with
      | none => rw [e] at hd; cases hd
      | some ns =>
        rw [e] at hd
        cases hd
        have z := ints_vals r1 e
        subst z
        exact cr_sumT hc pins s σ H _ us Q I r ⟨a, ns, rfl, h2, q.int⟩
  | abs =>
    match ds, hd with
    | [.int i], hd =>
      obtain ⟨v, rfl, h1⟩ := hr.one'
      simp only [prim, Option.some.injEq] at hd
      subst hd
      exact call_abs pins s σ H _ us Q I r ⟨i, by rw [h1.1], q.int⟩
  | tuple1 =>
    match ds, hd with
    | [.lst b ys], hd =>
      obtain ⟨v, rfl, h1⟩ := hr.one'
      obtain ⟨a, vs, fq, rfl, h2, r1, _⟩ := Rep.seqL (K := X.K) h1
      simp only [prim, Option.some.injEq] at hd
      subst hd
      have sk' : shrs ys = true := by simpa [shrKs, D.shrK] using sk
      exact call_tuple_of pins s σ H _ us Q I r ⟨a, vs, rfl, .inl ⟨h2, fun p hp => q.tup (r1.kids0 sk') hp⟩⟩
    | [.tup ys], hd =>
      obtain ⟨v, rfl, h1⟩ := hr.one'
      obtain ⟨a, vs, rfl, h2, g1, r1⟩ := Rep.seqT (K := X.K) h1
      simp only [prim, Option.some.injEq] at hd
      subst hd
      have sk' : shrs ys = true := by simpa [shrKs, D.shrK] using sk
      exact call_tuple_of pins s σ H _ us Q I r ⟨a, vs, rfl, .inr ⟨h2, q.as ⟨a, vs, rfl, g1, r1.kids0 sk'⟩⟩⟩
  | list1 =>
    match ds, hd with
    | [.lst b ys], hd =>
      obtain ⟨v, rfl, h1⟩ := hr.one'
      obtain ⟨a, vs, fq, rfl, h2, r1, _⟩ := Rep.seqL (K := X.K) h1
      simp only [prim, Option.some.injEq] at hd
      subst hd
      have sk' : shrs ys = true := by simpa [shrKs, D.shrK] using sk
      exact call_list_of pins s σ H _ us Q I r ⟨a, vs, rfl, .inl h2, fun p hp => q.lst (r1.kids0 sk') hp⟩
    | [.tup ys], hd =>
      obtain ⟨v, rfl, h1⟩ := hr.one'
      obtain ⟨a, vs, rfl, h2, g1, r1⟩ := Rep.seqT (K := X.K) h1
      simp only [prim, Option.some.injEq] at hd
      subst hd
      have sk' : shrs ys = true := by simpa [shrKs, D.shrK] using sk
      exact call_list_of pins s σ H _ us Q I r ⟨a, vs, rfl, .inr h2, fun p hp => q.lst (r1.kids0 sk') hp⟩

/-! ## methods that only tell -/
def rMt (p : Mt) : V → List V → Hp → VK → Prop := fun x xs H Q => ∃ (F : Addr → Prop) (d : D) (ds : List D) (f g : List Addr), Rep F H d x f ∧ Reps F H ds xs g ∧ ∃ r, methD p d ds = some r ∧ FreshQ F H r Q
def idMt : Mt → String
  | .lindex => "list.index" | .scount => "str.count" | .sfind => "str.find" | .sjoin => "str.join"
def tyMt : Mt → String
  | .lindex => "list" | _ => "str"
theorem strs_vals {F : Addr → Prop} {H : Hp} : ∀ {ds : List D} {vs : List V} {fp : List Addr} {ns : List Str}, Reps F H ds vs fp → strs? ds = some ns → vs = ns.map V.str
  | [], vs, fp, ns, h, e => by
    simp only [strs?, Option.some.injEq] at e
    simp only [Reps] at h
    rw [h.1, ← e]
    rfl
  | d :: ds, vs, fp, ns, h, e => by
    cases d with
    | str i =>
      simp only [Reps, Rep] at h
      obtain ⟨v, ws, f1, f2, e1, _, h1, h2⟩ := h
      simp only [strs?] at e
      cases q : strs? ds with
      | none => rw [q] at e; cases e
      | some ms =>
        rw [q] at e
        cases e
        rw [e1, h1.1, strs_vals h2 q]
        rfl
    | _ => simp [strs?] at e
theorem call_meth {X : Cx} (hu : X.A.units + 72 < cLine) (p : Mt) : MtR X (idMt p) (rMt p) := by
  intro pins s σ H x xs v us Q I rx rxs hyp
  obtain ⟨F, d, ds, f, g, hd, hds, r, hr, q⟩ := hyp
  cases p with
  | lindex =>
    match d, ds, hr with
    | .lst b ys, [y], hr =>
      obtain ⟨w, rfl, h1⟩ := hds.one'
      obtain ⟨a, vs, fq, rfl, h2, r1, _⟩ := Rep.seqL (K := X.K) hd
      simp only [methD] at hr
      split at hr
      · rename_i hs
        rw [Bool.and_eq_true] at hs
        cases e : (pys ys).findIdx? (fun z => PyData.eqv z y.py) with
        | none => rw [e] at hr; cases hr
        | some j =>
          rw [e] at hr
          cases hr
          obtain ⟨hj, e1, e2⟩ := List.findIdx?_eq_some_iff_getElem.mp e
          refine mt_indexD (by omega) pins s σ H _ _ v us Q I rx rxs ⟨a, w, y.py, pys ys, j, _, rfl, rfl, Rep.dp (.lst b ys) _ f hd, Rep.dp y w _ h1, hs.1, hs.2, List.getElem?_eq_getElem hj, e1, fun m z' hm hz => ?_, q.int⟩
          obtain ⟨hm2, rfl⟩ := List.getElem?_eq_some_iff.mp hz
          have := e2 m hm
          simpa using this
      · cases hr
  | scount =>
    match d, ds, hr with
    | .str a, [.str b], hr =>
      obtain ⟨w, rfl, h1⟩ := hds.one'
      simp only [methD, Option.some.injEq] at hr
      subst hr
      exact mt_count pins s σ H x _ v us Q I rx rxs ⟨a, b, hd.1, by rw [h1.1], q.int⟩
  | sfind =>
    match d, ds, hr with
    | .str a, [.str b], hr =>
      obtain ⟨w, rfl, h1⟩ := hds.one'
      simp only [methD, Option.some.injEq] at hr
      subst hr
      exact mt_find pins s σ H x _ v us Q I rx rxs ⟨a, b, hd.1, by rw [h1.1], q.int⟩
  | sjoin =>
    match d, ds, hr with
    | .str a, [.lst b ys], hr =>
      obtain ⟨w, rfl, h1⟩ := hds.one'
      obtain ⟨l, vs, fq, rfl, h2, r1, _⟩ := Rep.seqL (K := X.K) h1
      simp only [methD, joinD] at hr
      cases e : strs? ys with
      | none => rw [e] at hr; cases hr
      | some zs =>
        rw [e] at hr
        simp only at hr
        split at hr
        · rename_i hz
          cases hr
          have z := strs_vals r1 e
          subst z
          exact mt_join pins s σ H x _ v us Q I rx rxs ⟨a, l, zs, hd.1, rfl, .inl h2, hz, q.str⟩
        · cases hr
    | .str a, [.tup ys], hr =>
      obtain ⟨w, rfl, h1⟩ := hds.one'
      obtain ⟨l, vs, rfl, h2, _, r1⟩ := Rep.seqT (K := X.K) h1
      simp only [methD, joinD] at hr
      cases e : strs? ys with
      | none => rw [e] at hr; cases hr
      | some zs =>
        rw [e] at hr
        simp only at hr
        split at hr
        · rename_i hz
          cases hr
          have z := strs_vals r1 e
          subst z
          exact mt_join pins s σ H x _ v us Q I rx rxs ⟨a, l, zs, hd.1, rfl, .inr h2, hz, q.str⟩
        · cases hr
end VS

end

section
set_option linter.all false
set_option maxRecDepth 100000
set_option maxHeartbeats 1000000
namespace VS
open PySem L2

/-! ## what is wanted behind a run -/
def Post {α : Type} (X : Str → List (Str × D) → EnvD → Prop) (O : α → EnvD → Prop) : Res α → Prop
  | .ok a e => O a e
  | .exc c fs e => X c fs e
  | .no => False
theorem Post.bind {α β : Type} {X : Str → List (Str × D) → EnvD → Prop} {O : β → EnvD → Prop} {r : Res α} {k : α → EnvD → Res β} : Post X O (r.bind k) ↔ Post X (fun a e => Post X O (k a e)) r := by
  cases r <;> exact Iff.rfl
theorem Post.mono {α : Type} {X X' : Str → List (Str × D) → EnvD → Prop} {O O' : α → EnvD → Prop} {r : Res α} (h : Post X O r) (hx : ∀ c fs e, X c fs e → X' c fs e) (ho : ∀ a e, r = .ok a e → O a e → O' a e) : Post X' O' r := by
  cases r with
  | ok a e => exact ho a e rfl h
  | exc c fs e => exact hx c fs e h
  | no => exact h
theorem Post.onBool {α : Type} {X : Str → List (Str × D) → EnvD → Prop} {O : α → EnvD → Prop} {d : D} {t f : Res α} (h : Post X O (VS.onBool d t f .no)) : ∃ b, d = .bl b ∧ Post X O (if b = true then t else f) := by
  cases d with
  | bl b => exact ⟨b, rfl, by cases b <;> exact h⟩
  | _ => exact h.elim
theorem Post.of {α : Type} {X : Str → List (Str × D) → EnvD → Prop} {O : α → EnvD → Prop} {o : Option α} {e : EnvD} (h : Post X O (Res.of o e)) : ∃ a, o = some a ∧ O a e := by
  cases o with
  | none => exact h.elim
  | some a => exact ⟨a, rfl, h⟩

/-- nothing is lost: the heap stands, what a name owned it owns still, or it is frozen -/
def Cons (H : Hp) (φ : Nat → List Addr) (F' : Addr → Prop) (H' : Hp) (φ' : Nat → List Addr) : Prop := (∀ a o, H a = some o → H' a = some o) ∧ ∀ i a, a ∈ φ i → a ∈ φ' i ∨ F' a
theorem Cons.refl (F : Addr → Prop) (H : Hp) (φ : Nat → List Addr) : Cons H φ F H φ := ⟨fun _ _ h => h, fun _ _ h => .inl h⟩
theorem Cons.trans {F1 F2 : Addr → Prop} {H H1 H2 : Hp} {φ φ1 φ2 : Nat → List Addr} (a : Cons H φ F1 H1 φ1) (b : Cons H1 φ1 F2 H2 φ2) (hf : ∀ x, F1 x → F2 x) : Cons H φ F2 H2 φ2 :=
  ⟨fun x o h => b.1 x o (a.1 x o h), fun i x h => by
    rcases a.2 i x h with q | q
    · exact b.2 i x q
    · exact .inr (hf x q)⟩
section
variable (clA : Str → Addr) (pv : Pv) (W : WX)
structure EOk (σ : L2.St) (m : Mode) (cf : Bool) (pr : Option Nat) (F : Addr → Prop) (H : Hp) (φ : Nat → List Addr) (env' : EnvD) (d : D) (F' : Addr → Prop) (H' : Hp) (φ' : Nat → List Addr) (v : V) (fd : List Addr) : Prop where
  sr : Sta F' σ H' env' φ' pv
  rep : Rep F' H' d v fd
  nd : m = .esc → fd.Nodup ∧ ∀ a ∈ fd, ¬ F' a ∧ ¬ Own φ' a
  stp : Stp F H (Own φ) F' H' (fun a => Own φ' a ∨ (m = .esc ∧ a ∈ fd))
  cf : cf = true → Cons H φ F' H' φ'
  pl : ∀ r, pr = some r → m ≠ .esc → ∀ a ∈ fd, a ∈ φ' r ∨ F' a
def XOut (σ : L2.St) (F : Addr → Prop) (H : Hp) (φ : Nat → List Addr) : Str → List (Str × D) → EnvD → Prop := fun c fs env' => ∀ d F' H' φ' gs, Sta F' σ H' env' φ' pv → H' d = some (.xd gs) → gs.map (·.1) = fs.map (·.1) →
  Reps F' H' (fs.map (·.2)) (gs.map (·.2)) [] → Stp F H (Own φ) F' H' (Own φ') → W (.ref (clA c)) (some d) σ H'
def OE (σ : L2.St) (m : Mode) (cf : Bool) (pr : Option Nat) (F : Addr → Prop) (H : Hp) (φ : Nat → List Addr) (Q : VK) : D → EnvD → Prop := fun d env' => ∀ F' H' φ' v fd, EOk pv σ m cf pr F H φ env' d F' H' φ' v fd → Q v H'
def OT (σ : L2.St) (cf : Bool) (F : Addr → Prop) (H : Hp) (φ : Nat → List Addr) (Q : Bool → Hp → Prop) : D → EnvD → Prop := fun d env' => ∃ b, d = .bl b ∧ ∀ F' H' φ', Sta F' σ H' env' φ' pv → Stp F H (Own φ) F' H' (Own φ') → (cf = true → Cons H φ F' H' φ') → Q b H'
/-- the readings of the small language -/
def tE (m : Mode) (cf : Bool) (pr : Option Nat) (f : EnvD → Res D) : TE := fun σ H Q => ∃ F env φ, Sta F σ H env φ pv ∧ Post (XOut clA pv W σ F H φ) (OE pv σ m cf pr F H φ Q) (f env)
def tT (cf : Bool) (f : EnvD → Res D) : TT := fun σ H Q => ∃ F env φ, Sta F σ H env φ pv ∧ Post (XOut clA pv W σ F H φ) (OT pv σ cf F H φ Q) (f env)
end
section
variable {clA : Str → Addr} {pv : Pv} {W : WX} {σ : L2.St} {m : Mode} {cf : Bool} {pr : Option Nat} {F F1 F' : Addr → Prop} {H H1 H' : Hp} {φ φ1 φ' : Nat → List Addr} {env env1 env' : EnvD} {d : D} {v : V} {fd : List Addr}
theorem EOk.st (E : EOk pv σ m cf pr F H φ env' d F' H' φ' v fd) : Stp F H (Own φ) F' H' (Own φ') := E.stp.mono (fun _ h => h) fun _ h => .inl (.inl h)
theorem EOk.after (E : EOk pv σ m cf pr F1 H1 φ1 env' d F' H' φ' v fd) (st : Stp F H (Own φ) F1 H1 (Own φ1)) (cn : cf = true → Cons H φ F1 H1 φ1) : EOk pv σ m cf pr F H φ env' d F' H' φ' v fd :=
  ⟨E.sr, E.rep, E.nd, st.trans E.stp, fun h => (cn h).trans (E.cf h) E.stp.f1, E.pl⟩
theorem XOut.after {c : Str} {fs : List (Str × D)} (h : XOut clA pv W σ F H φ c fs env') (st : Stp F H (Own φ) F1 H1 (Own φ1)) : XOut clA pv W σ F1 H1 φ1 c fs env' :=
  fun d F' H' φ' gs s e1 e2 r st' => h d F' H' φ' gs s e1 e2 r (st.trans st')
theorem OE.after {Q : VK} (h : OE pv σ m cf pr F H φ Q d env') (st : Stp F H (Own φ) F1 H1 (Own φ1)) (cn : cf = true → Cons H φ F1 H1 φ1) : OE pv σ m cf pr F1 H1 φ1 Q d env' :=
  fun F' H' φ' v fd E => h F' H' φ' v fd (E.after st cn)
theorem OT.after {Q : Bool → Hp → Prop} (h : OT pv σ cf F H φ Q d env') (st : Stp F H (Own φ) F1 H1 (Own φ1)) (cn : cf = true → Cons H φ F1 H1 φ1) : OT pv σ cf F1 H1 φ1 Q d env' := by
  obtain ⟨b, e, q⟩ := h
  exact ⟨b, e, fun F' H' φ' s st' cn' => q F' H' φ' s (st.trans st') fun z => (cn z).trans (cn' z) st'.f1⟩
/-- a fresh result behind a state -/
theorem EOk.fresh {fr : List Addr} (s : Sta F1 σ H1 env1 φ1 pv) (st : Stp F H (Own φ) F1 H1 (Own φ1)) (cn : cf = true → Cons H φ F1 H1 φ1) (k : ∀ a o, H1 a = some o → H' a = some o) (r : Rep F1 H' d v fr) (nd : fr.Nodup) (hn : ∀ a ∈ fr, H1 a = none) :
    EOk pv σ .esc cf pr F H φ env1 d F1 H' φ1 v fr where
  sr := s.grow k (fun _ h => h) s.nf fun a f => by
    have := s.fh a f
    cases e : H1 a with
    | none => exact absurd e this
    | some o => rw [k a o e]; simp
  rep := r
  nd := fun _ => ⟨nd, fun a ha => ⟨fun f => s.fh a f (hn a ha), fun o => s.ownH o (hn a ha)⟩⟩
  stp := by
    refine st.trans ⟨fun _ h => h, fun _ h => .inl h, fun a o h _ => k a o h, fun a h => ?_, fun a h => ?_⟩
    · rcases h with h | ⟨_, h⟩
      · exact .inl h
      · exact .inr (hn a h)
    · cases e : H1 a with
      | none => exact absurd e h
      | some o => rw [k a o e]; simp
  cf := fun h => ⟨fun a o e => k a o ((cn h).1 a o e), (cn h).2⟩
  pl := fun _ _ h => absurd rfl h
/-- a known value behind a state, of which nothing is owned -/
theorem EOk.flat (s : Sta F1 σ H1 env1 φ1 pv) (st : Stp F H (Own φ) F1 H1 (Own φ1)) (cn : cf = true → Cons H φ F1 H1 φ1) (r : Rep F1 H1 d v []) : EOk pv σ m cf pr F H φ env1 d F1 H1 φ1 v [] :=
  ⟨s, r, fun _ => ⟨List.nodup_nil, fun _ h => (nomatch h)⟩, st.mono (fun _ h => h) fun _ h => .inl (h.elim id fun z => (nomatch z.2)), cn, fun _ _ _ _ h => (nomatch h)⟩
theorem Stp.grow {P : Addr → Prop} (k : ∀ a o, H a = some o → H' a = some o) : Stp F H P F H' P :=
  ⟨fun _ h => h, fun _ h => .inl h, fun a o h _ => k a o h, fun _ h => .inl h, fun a h => by
    cases e : H a with
    | none => exact absurd e h
    | some o => rw [k a o e]; simp⟩
/-- more is frozen: what no name owns any more -/
theorem Stp.freeze {P P' : Addr → Prop} (f1 : ∀ a, F a → F' a) (f2 : ∀ a, F' a → F a ∨ P a) (p : ∀ a, P' a → P a) : Stp F H P F' H P' :=
  ⟨f1, fun a h => (f2 a h).imp id .inl, fun _ _ h _ => h, fun a h => .inl (p a h), fun _ h => h⟩
theorem tE.imp {X : Cx} {e : Expr} {f : EnvD → Res D} {t : TE} (h : PE X e t) (w : ∀ σ H Q F env φ, Sta F σ H env φ pv → Post (XOut clA pv W σ F H φ) (OE pv σ m cf pr F H φ Q) (f env) → t σ H Q) : PE X e (tE clA pv W m cf pr f) :=
  PE.imp h fun σ H Q ⟨F, env, φ, s, q⟩ => w σ H Q F env φ s q
theorem tT.imp {X : Cx} {e : Expr} {f : EnvD → Res D} {t : TT} (h : PT X e t) (w : ∀ σ H Q F env φ, Sta F σ H env φ pv → Post (XOut clA pv W σ F H φ) (OT pv σ cf F H φ Q) (f env) → t σ H Q) : PT X e (tT clA pv W cf f) :=
  PT.imp h fun σ H Q ⟨F, env, φ, s, q⟩ => w σ H Q F env φ s q
/-- a part is run ahead: k what goes on with it; all that is asked of the whole holds behind it -/
theorem tE.sub {α : Type} {f : EnvD → Res D} {k : D → EnvD → Res α} {O : α → EnvD → Prop} {R : VK} (s : Sta F σ H env φ pv) (h : Post (XOut clA pv W σ F H φ) O ((f env).bind k))
    (hk : ∀ d env1 F1 H1 φ1 v fd, f env = .ok d env1 → EOk pv σ m cf pr F H φ env1 d F1 H1 φ1 v fd → Post (XOut clA pv W σ F H φ) O (k d env1) → R v H1) : tE clA pv W m cf pr f σ H R :=
  ⟨F, env, φ, s, (Post.bind.mp h).mono (fun _ _ _ x => x) fun d env1 e o F1 H1 φ1 v fd E => hk d env1 F1 H1 φ1 v fd e E o⟩
/-- the same behind a first part -/
theorem tE.sub2 {α : Type} {f : EnvD → Res D} {k : D → EnvD → Res α} {O : α → EnvD → Prop} {R : VK} (s : Sta F1 σ H1 env1 φ1 pv) (st : Stp F H (Own φ) F1 H1 (Own φ1)) (h : Post (XOut clA pv W σ F H φ) O ((f env1).bind k))
    (hk : ∀ d env2 F2 H2 φ2 v fd, f env1 = .ok d env2 → EOk pv σ m cf pr F1 H1 φ1 env2 d F2 H2 φ2 v fd → Post (XOut clA pv W σ F H φ) O (k d env2) → R v H2) : tE clA pv W m cf pr f σ H1 R :=
  ⟨F1, env1, φ1, s, (Post.bind.mp h).mono (fun _ _ _ x => x.after st) fun d env2 e o F2 H2 φ2 v fd E => hk d env2 F2 H2 φ2 v fd e E o⟩
theorem tT.sub2 {α : Type} {f : EnvD → Res D} {k : D → EnvD → Res α} {O : α → EnvD → Prop} {R : Bool → Hp → Prop} (s : Sta F1 σ H1 env1 φ1 pv) (st : Stp F H (Own φ) F1 H1 (Own φ1)) (h : Post (XOut clA pv W σ F H φ) O ((f env1).bind k))
    (hb : ∀ d e, Post (XOut clA pv W σ F H φ) O (k d e) → ∃ b, d = .bl b)
    (hk : ∀ b env2 F2 H2 φ2, f env1 = .ok (.bl b) env2 → Sta F2 σ H2 env2 φ2 pv → Stp F1 H1 (Own φ1) F2 H2 (Own φ2) → (cf = true → Cons H1 φ1 F2 H2 φ2) → Post (XOut clA pv W σ F H φ) O (k (.bl b) env2) → R b H2) : tT clA pv W cf f σ H1 R :=
  ⟨F1, env1, φ1, s, (Post.bind.mp h).mono (fun _ _ _ x => x.after st) fun d env2 e o => by
    obtain ⟨b, rfl⟩ := hb d env2 o
    exact ⟨b, rfl, fun F2 H2 φ2 s2 st2 cn => hk b env2 F2 H2 φ2 e s2 st2 cn o⟩⟩
theorem frzK_shrK (d : D) : d.frzK.shrK = true := by
  cases d with
  | lst f xs => exact frzs_shr xs
  | tup xs => exact frzs_shr xs
  | _ => rfl
mutual
theorem shr_shrK : ∀ d : D, d.shr = true → d.shrK = true
  | .non, _ => rfl | .bl _, _ => rfl | .int _, _ => rfl | .str _, _ => rfl
  | .tup ds, h => by simpa [D.shr, D.shrK] using h
  | .lst f ds, h => by simp [D.shr] at h; exact h.2
end
/-- from a moved value to one that is looked at -/
theorem tE_fin {X : Cx} {e : Expr} {f : EnvD → Res D} (h : PE X e (tE clA pv W .esc cf none f)) (hm : m ≠ .ts) : PE X e (tE clA pv W m cf none fun env => fin m (f env)) := by
  refine tE.imp h fun σ H Q F env φ s q => ⟨F, env, φ, s, ?_⟩
  cases m with
  | ts => exact absurd rfl hm
  | esc => exact q
  | rd =>
    refine q.mono (fun _ _ _ x => x) fun d env1 _ o F' H' φ' v fd E => o F' H' φ' v fd ⟨E.sr, E.rep, fun z => (nomatch z), E.st.mono (fun _ h => h) fun _ h => .inl (h.elim id fun z => (nomatch z.1)), E.cf, fun _ z => (nomatch z)⟩
  | kd =>
    have q2 := Post.bind.mp (show Post _ _ ((f env).bind fun x env => .ok x.frzK env) from q)
    refine q2.mono (fun _ _ _ x => x) fun d env1 _ o F' H' φ' v fd E => ?_
    obtain ⟨n1, n2⟩ := E.nd rfl
    obtain ⟨fq, z1, z2, z3⟩ := Rep.frzK n1 E.rep
    have r := z3 (fun a => F' a ∨ (a ∈ fd ∧ a ∉ fq)) (fun a h => .inl h) fun a h => by
      by_cases hq : a ∈ fq
      · exact .inl hq
      · exact .inr (.inr ⟨h, hq⟩)
    refine o (fun a => F' a ∨ (a ∈ fd ∧ a ∉ fq)) H' φ' v fq ⟨E.sr.grow (fun _ _ h => h) (fun _ h => .inl h) (fun i a hi z => ?_) (fun a z => ?_), r, fun z => (nomatch z), ?_, fun z => (E.cf z).trans ⟨fun _ _ h => h, fun _ _ h => .inl h⟩ fun _ h => .inl h, fun _ z => (nomatch z)⟩
    · rcases z with z | ⟨z, _⟩
      · exact E.sr.nf i a hi z
      · exact (n2 a z).2 ⟨i, hi⟩
    · rcases z with z | ⟨z, _⟩
      · exact E.sr.fh a z
      · obtain ⟨vs, e⟩ := Rep.fpl _ _ _ E.rep a z
        rw [e]; simp
    · refine E.stp.trans (Stp.freeze (fun _ h => .inl h) (fun a h => ?_) fun a h => ?_)
      · rcases h with h | ⟨h, _⟩
        · exact .inl h
        · exact .inr (.inr ⟨rfl, h⟩)
      · rcases h with h | ⟨h, _⟩
        · exact .inl h
        · exact (nomatch h)
/-- from a moved value to its truth -/
theorem tT_fin {X : Cx} {e : Expr} {f : EnvD → Res D} (h : PE X e (tE clA pv W .esc cf none f)) (he : ∀ whole, isTrue e X.env whole = (do let v ← whole; standAt e.pos; holding [v] (truthy v))) : PT X e (tT clA pv W cf fun env => fin .ts (f env)) := by
  refine tT.imp (pt_truth h he) fun σ H Q F env φ s q => ?_
  have q2 := Post.bind.mp (show Post _ _ ((f env).bind fun x env => Res.of (x.truth.map D.bl) env) from q)
  refine ⟨F, env, φ, s, q2.mono (fun _ _ _ x => x) fun d env1 _ o F' H' φ' v fd E => ?_⟩
  obtain ⟨a, e1, b, e2, o⟩ := Post.of o
  cases ht : d.truth with
  | none => rw [ht] at e1; cases e1
  | some k =>
    rw [ht] at e1
    cases e1
    cases e2
    exact ⟨b, E.rep.tru ht, o F' H' φ' E.sr E.st E.cf⟩
end
end VS

end

section
set_option linter.all false
set_option maxRecDepth 100000
set_option maxHeartbeats 1000000
namespace VS
open PySem L2

/-! ## a name's tree changes its state -/
def updφ (φ : Nat → List Addr) (i : Nat) (fq : List Addr) : Nat → List Addr := fun j => if j = i then fq else φ j
theorem updφ_same {φ : Nat → List Addr} {i : Nat} {fq : List Addr} : updφ φ i fq i = fq := if_pos rfl
theorem updφ_ne {φ : Nat → List Addr} {i j : Nat} {fq : List Addr} (h : j ≠ i) : updφ φ i fq j = φ j := if_neg h
section
variable {clA : Str → Addr} {pv : Pv} {W : WX} {σ : L2.St} {F F' : Addr → Prop} {H H' : Hp} {φ : Nat → List Addr} {env : EnvD} {d d' : D} {v : V} {i : Nat} {fq : List Addr}
theorem get_set_ne {α : Type} {l : List α} {i j : Nat} {x : α} (h : j ≠ i) : (l.set i x)[j]? = l[j]? := List.getElem?_set_ne (Ne.symm h)
theorem get_lt {α : Type} {l : List α} {i : Nat} {x : α} (h : l[i]? = some x) : i < l.length := (List.getElem?_eq_some_iff.mp h).1
theorem Sta.reslot (s : Sta F σ H env φ pv) (hi : env[i]? = some (some d)) (hv : σ[i]? = some (some v)) (hF : ∀ a, F a → F' a) (h1 : ∀ a ∈ fq, a ∈ φ i) (nd : fq.Nodup) (r : Rep F' H d' v fq) (h2 : ∀ a, F' a → F a ∨ (a ∈ φ i ∧ a ∉ fq)) :
    Sta F' σ H (env.set i (some d')) (updφ φ i fq) pv where
  len := by rw [List.length_set]; exact s.len
  rep := fun j c e => by
    by_cases hj : j = i
    · subst hj
      rw [List.getElem?_set_self (get_lt hi)] at e
      cases e
      exact ⟨v, hv, by rw [updφ_same]; exact r⟩
    · rw [get_set_ne hj] at e
      obtain ⟨u, e1, e2⟩ := s.rep j c e
      exact ⟨u, e1, by rw [updφ_ne hj]; exact e2.same (fun _ _ h => h) hF⟩
  emp := fun j h => by
    by_cases hj : j = i
    · subst hj
      exact absurd (List.getElem?_set_self (get_lt hi)) (h d')
    · rw [updφ_ne hj]
      exact s.emp j fun c e => h c (by rw [get_set_ne hj]; exact e)
  nd := fun j => by
    by_cases hj : j = i
    · subst hj; rw [updφ_same]; exact nd
    · rw [updφ_ne hj]; exact s.nd j
  dj := fun j k a hjk h => by
    by_cases hj : j = i
    · subst hj
      rw [updφ_same] at h
      rw [updφ_ne (Ne.symm hjk)]
      exact s.dj j k a hjk (h1 a h)
    · rw [updφ_ne hj] at h
      by_cases hk : k = i
      · subst hk
        rw [updφ_same]
        exact fun z => s.dj j k a hjk h (h1 a z)
      · rw [updφ_ne hk]
        exact s.dj j k a hjk h
  nf := fun j a h z => by
    by_cases hj : j = i
    · subst hj
      rw [updφ_same] at h
      rcases h2 a z with q | ⟨_, q⟩
      · exact s.nf j a (h1 a h) q
      · exact q h
    · rw [updφ_ne hj] at h
      rcases h2 a z with q | ⟨q, _⟩
      · exact s.nf j a h q
      · exact s.dj j i a hj h q
  fh := fun a z => by
    rcases h2 a z with q | ⟨q, _⟩
    · exact s.fh a q
    · exact s.ownH ⟨i, q⟩
  pv := s.pv
  hx := fun q hq => (s.hx q hq).same (fun _ _ h => h) hF
theorem Own.upd_sub (h1 : ∀ a ∈ fq, a ∈ φ i) {a : Addr} (h : Own (updφ φ i fq) a) : Own φ a := by
  obtain ⟨j, h⟩ := h
  by_cases hj : j = i
  · subst hj; rw [updφ_same] at h; exact ⟨j, h1 a h⟩
  · rw [updφ_ne hj] at h; exact ⟨j, h⟩
theorem Stp.reslot (hF : ∀ a, F a → F' a) (h1 : ∀ a ∈ fq, a ∈ φ i) (h2 : ∀ a, F' a → F a ∨ (a ∈ φ i ∧ a ∉ fq)) : Stp F H (Own φ) F' H (Own (updφ φ i fq)) :=
  Stp.freeze hF (fun a h => (h2 a h).imp id fun q => ⟨i, q.1⟩) fun a h => Own.upd_sub h1 h
theorem Cons.reslot (h3 : ∀ a ∈ φ i, a ∈ fq ∨ F' a) : Cons H φ F' H (updφ φ i fq) :=
  ⟨fun _ _ h => h, fun j a h => by
    by_cases hj : j = i
    · subst hj; rw [updφ_same]; exact h3 a h
    · rw [updφ_ne hj]; exact .inl h⟩
/-- frozen -/
def frzF (F : Addr → Prop) (φ : Nat → List Addr) (i : Nat) : Addr → Prop := fun a => F a ∨ a ∈ φ i
theorem Sta.freeze (s : Sta F σ H env φ pv) (hi : env[i]? = some (some d)) : ∃ v, σ[i]? = some (some v) ∧ Rep (frzF F φ i) H d.frz v [] ∧ Sta (frzF F φ i) σ H (env.set i (some d.frz)) (updφ φ i []) pv ∧
    Stp F H (Own φ) (frzF F φ i) H (Own (updφ φ i [])) ∧ Cons H φ (frzF F φ i) H (updφ φ i []) := by
  obtain ⟨v, hv, r⟩ := s.rep i d hi
  have r2 : Rep (frzF F φ i) H d.frz v [] := Rep.frz d v (φ i) (fun _ h => .inl h) (fun _ h => .inr h) r
  exact ⟨v, hv, r2, s.reslot hi hv (fun _ h => .inl h) (by simp) List.nodup_nil r2 (fun a h => h.imp id fun q => ⟨q, by simp⟩), Stp.reslot (fun _ h => .inl h) (by simp) (fun a h => h.imp id fun q => ⟨q, by simp⟩),
    Cons.reslot fun a h => .inr (.inr h)⟩
end

/-! ## expressions -/
def prOf (e : E) : Option Nat := if e.place then some e.root else none
structure ESound (X : Cx) (C : CtxD) (clA : Str → Addr) (pv : Pv) (W : WX) (e : Expr) (e' : E) : Prop where
  v : ∀ m, m ≠ .ts → PE X e (tE clA pv W m e'.cf (prOf e') (ev C m e'))
  t : PT X e (tT clA pv W e'.cf (ev C .ts e'))
  n : ∀ i, e' = .var i → PE X e (tVar i)
section
variable {X : Cx} {C : CtxD} {clA : Str → Addr} {pv : Pv} {W : WX} {e a b c : Expr} {e' a' b' c' : E} {pos : Pos}
theorem ESound.esc (h : ESound X C clA pv W e e') : PE X e (tE clA pv W .esc e'.cf (prOf e') (ev C .esc e')) := h.v .esc (by decide)
theorem ESound.rd (h : ESound X C clA pv W e e') : PE X e (tE clA pv W .rd e'.cf (prOf e') (ev C .rd e')) := h.v .rd (by decide)
theorem ESound.kd (h : ESound X C clA pv W e e') : PE X e (tE clA pv W .kd e'.cf (prOf e') (ev C .kd e')) := h.v .kd (by decide)
theorem ESound.temp {f : EnvD → Res D} (hev : ∀ m env, ev C m e' env = fin m (f env)) (hp : e'.place = false) (he : ∀ whole, isTrue e X.env whole = (do let v ← whole; standAt e.pos; holding [v] (truthy v)))
    (h : PE X e (tE clA pv W .esc e'.cf none f)) : ESound X C clA pv W e e' where
  v := fun m hm => by
    have e1 : ev C m e' = fun env => fin m (f env) := funext (hev m)
    rw [e1, show prOf e' = none by unfold prOf; rw [hp]; rfl]
    exact tE_fin h hm
  t := by
    have e1 : ev C .ts e' = fun env => fin .ts (f env) := funext (hev .ts)
    rw [e1]
    exact tT_fin h he
  n := fun i z => by subst z; cases hp
/-- a value that is always a truth value, with a rule for its test -/
theorem ESound.bool {f : EnvD → Res D} {t : TE} (hev : ∀ m env, ev C m e' env = fin m (f env)) (hp : e'.place = false) (h1 : PE X e t) (h2 : PT X e (tTest t)) (hb : ∀ env d env', f env = .ok d env' → ∃ b, d = .bl b)
    (w : ∀ σ H Q F env φ, Sta F σ H env φ pv → Post (XOut clA pv W σ F H φ) (OE pv σ .esc e'.cf none F H φ Q) (f env) → t σ H Q) : ESound X C clA pv W e e' where
  v := fun m hm => by
    have e1 : ev C m e' = fun env => fin m (f env) := funext (hev m)
    rw [e1, show prOf e' = none by unfold prOf; rw [hp]; rfl]
    exact tE_fin (tE.imp h1 w) hm
  t := by
    have e1 : ev C .ts e' = fun env => fin .ts (f env) := funext (hev .ts)
    rw [e1]
    refine tT.imp h2 fun σ H Q F env φ s q => ?_
    refine w σ H _ F env φ s ?_
    have q2 := Post.bind.mp (show Post _ _ ((f env).bind fun x env => Res.of (x.truth.map D.bl) env) from q)
    refine q2.mono (fun _ _ _ x => x) fun d env1 ed o F' H' φ' v fd E => ?_
    obtain ⟨b, rfl⟩ := hb env d env1 ed
    obtain ⟨k, e2, b2, e3, o⟩ := Post.of o
    simp only [D.truth, Option.map_some, Option.some.injEq] at e2
    subst e2
    cases e3
    exact ⟨b, E.rep.1, o F' H' φ' E.sr E.st E.cf⟩
  n := fun i z => by subst z; cases hp
theorem snd_const {v : V} {d : D} (h : PE X e (tC v)) (hd : ∀ F H, Rep F H d v []) (hev : ∀ m env, ev C m e' env = fin m (.ok d env)) (hp : e'.place = false) (he : ∀ whole, isTrue e X.env whole = (do let v ← whole; standAt e.pos; holding [v] (truthy v))) : ESound X C clA pv W e e' :=
  ESound.temp (f := fun env => .ok d env) hev hp he (tE.imp h fun σ H Q F env φ s q => q F H φ v [] (.flat s (Stp.refl ..) (fun _ => Cons.refl ..) (hd F H)))
theorem snd_var {i : Nat} {x : Str} (hN : X.N[i]? = some x) (hv : Vis X.env.scope x) (hd : (x == ("__debug__" : Str)) = false) (hcd : (x == ("__classdict__" : Str)) = false) : ESound X C clA pv W (.Name x pos) (.var i) := by
  have key : ∀ {σ : L2.St} {F : Addr → Prop} {H : Hp} {env : EnvD} {φ : Nat → List Addr} {m : Mode} {O : D → EnvD → Prop}, Sta F σ H env φ pv → Post (XOut clA pv W σ F H φ) O (vName m i env) → ∃ d v, env[i]? = some (some d) ∧ σ[i]? = some (some v) ∧ Rep F H d v (φ i) := by
    intro σ F H env φ m O s q
    unfold vName at q
    cases e : env[i]? with
    | none => rw [e] at q; exact q.elim
    | some o =>
      cases o with
      | none => rw [e] at q; exact q.elim
      | some d =>
        obtain ⟨v, e1, r⟩ := s.rep i d e
        exact ⟨d, v, rfl, e1, r⟩
  have hpr : prOf (.var i) = some i := rfl
  refine ⟨fun m hm => ?_, ?_, fun j z => by cases z; exact pe_var hN hv hd hcd⟩
  · rw [hpr]
    refine tE.imp (pe_var hN hv hd hcd) fun σ H Q F env φ s q => ?_
    have q : Post (XOut clA pv W σ F H φ) (OE pv σ m true (some i) F H φ Q) (vName m i env) := q
    obtain ⟨d, v, e1, e2, r⟩ := key s q
    refine ⟨v, e2, ?_⟩
    unfold vName at q
    rw [e1] at q
    cases m with
    | ts => exact absurd rfl hm
    | rd => exact q F H φ v (φ i) ⟨s, r, fun z => (nomatch z), (Stp.refl F H (Own φ)).mono (fun _ h => h) fun _ h => .inl (h.elim id fun z => (nomatch z.1)), fun _ => Cons.refl .., fun r hr _ a ha => by cases hr; exact .inl ha⟩
    | esc =>
      simp only at q
      split at q
      · rename_i hs
        have z := Rep.shr d v _ hs r
        rw [z] at r
        exact q F H φ v [] (.flat s (Stp.refl ..) (fun _ => Cons.refl ..) r)
      · obtain ⟨v', e2', r', s', st', cn'⟩ := s.freeze e1
        rw [e2] at e2'
        cases e2'
        exact q _ H _ v [] (.flat s' st' (fun _ => cn') r')
    | kd =>
      simp only at q
      split at q
      · rename_i hs
        exact q F H φ v (φ i) ⟨s, r, fun z => (nomatch z), (Stp.refl F H (Own φ)).mono (fun _ h => h) fun _ h => .inl (h.elim id fun z => (nomatch z.1)), fun _ => Cons.refl .., fun r hr _ a ha => by cases hr; exact .inl ha⟩
      · obtain ⟨fq, z1, z2, z3⟩ := Rep.frzK (s.nd i) r
        have r2 := z3 (fun a => F a ∨ (a ∈ φ i ∧ a ∉ fq)) (fun _ h => .inl h) fun a h => by
          by_cases hq : a ∈ fq
          · exact .inl hq
          · exact .inr (.inr ⟨h, hq⟩)
        have st' : Stp F H (Own φ) (fun a => F a ∨ (a ∈ φ i ∧ a ∉ fq)) H (Own (updφ φ i fq)) := Stp.reslot (fun _ h => .inl h) z1 fun a h => h
        refine q (fun a => F a ∨ (a ∈ φ i ∧ a ∉ fq)) H (updφ φ i fq) v fq ⟨s.reslot e1 e2 (fun _ h => .inl h) z1 z2 r2 fun a h => h, r2, fun z => (nomatch z), st'.mono (fun _ h => h) fun _ h => .inl (h.elim id fun z => (nomatch z.1)), fun _ => Cons.reslot fun a h => ?_, fun r hr _ a ha => ?_⟩
        · by_cases hq : a ∈ fq
          · exact .inl hq
          · exact .inr (.inr ⟨h, hq⟩)
        · cases hr; rw [updφ_same]; exact .inl ha
  · refine tT.imp (pt_truth (pe_var (pos := pos) hN hv hd hcd) (fun _ => rfl)) fun σ H Q F env φ s q => ?_
    have q : Post (XOut clA pv W σ F H φ) (OT pv σ true F H φ Q) (vName .ts i env) := q
    obtain ⟨d, v, e1, e2, r⟩ := key s q
    refine ⟨v, e2, ?_⟩
    unfold vName at q
    rw [e1] at q
    obtain ⟨k, e3, b, e4, o⟩ := Post.of q
    cases ht : d.truth with
    | none => rw [ht] at e3; cases e3
    | some k' =>
      rw [ht] at e3
      cases e3
      cases e4
      exact ⟨b, r.tru ht, o F H φ s (Stp.refl ..) fun _ => Cons.refl ..⟩
theorem kd_shrK {env env1 : EnvD} {d : D} (h : ev C .kd e' env = .ok d env1) : d.shrK = true := by
  have fink : ∀ {r : Res D}, fin .kd r = .ok d env1 → d.shrK = true := fun {r} z => by
    cases r with
    | ok x e => cases z; exact frzK_shrK x
    | exc _ _ _ => cases z
    | no => cases z
  cases e' with
  | var i =>
    have h : vName .kd i env = .ok d env1 := h
    unfold vName at h
    cases e : env[i]? with
    | none => rw [e] at h; cases h
    | some o =>
      cases o with
      | none => rw [e] at h; cases h
      | some x =>
        rw [e] at h
        simp only at h
        split at h
        · cases h; assumption
        · cases h; exact frzK_shrK x
  | sub a i =>
    simp only [ev] at h
    split at h
    · cases ea : ev C .rd a env with
      | ok x env2 =>
        rw [ea] at h
        simp only [Res.bind] at h
        split at h
        · cases ei : ev C .esc i env2 with
          | ok y env3 =>
            rw [ei] at h
            simp only at h
            cases es : subD x y with
            | none => rw [es] at h; cases h
            | some c =>
              rw [es] at h
              simp only [onPart, vPart] at h
              split at h
              · cases h; assumption
              · split at h
                · cases h; exact shr_shrK _ (frz_shr _)
                · cases h
          | exc _ _ _ => rw [ei] at h; cases h
          | no => rw [ei] at h; cases h
        · cases h
      | exc _ _ _ => rw [ea] at h; cases h
      | no => rw [ea] at h; cases h
    · exact fink h
  | and_ a b => simp only [ev] at h; exact fink h
  | or_ a b => simp only [ev] at h; exact fink h
  | ite c a b => simp only [ev] at h; exact fink h
  | not_ a => simp only [ev] at h; exact fink h
  | _ => simp only [ev] at h; exact fink h
/-- what stood apart (or was looked at) ahead of a further part stands behind it -/
theorem EOk.keep {σ : L2.St} {m m2 : Mode} {cf cf2 : Bool} {pr pr2 : Option Nat} {F F1 F2 : Addr → Prop} {H H1 H2 : Hp} {φ φ1 φ2 : Nat → List Addr} {env1 env2 : EnvD} {d d2 : D} {v v2 : V} {fd fd2 : List Addr}
    (E1 : EOk pv σ m cf pr F H φ env1 d F1 H1 φ1 v fd) (E2 : EOk pv σ m2 cf2 pr2 F1 H1 φ1 env2 d2 F2 H2 φ2 v2 fd2) (h : d.shr = true ∨ cf2 = true) : Rep F2 H2 d v fd := by
  rcases h with h | h
  · have z := Rep.shr d v fd h E1.rep
    have r := E1.rep
    rw [z] at r ⊢
    exact r.over E1.sr E2.stp (by simp)
  · exact E1.rep.same (E2.cf h).1 E2.stp.f1
theorem or_of {a b : Bool} (h : (a || b) = true) : a = true ∨ b = true := by simpa using h
theorem frzR_shr {r : Res D} {d : D} {e : EnvD} (h : frzR r = .ok d e) : d.shr = true := by
  cases r with
  | ok x e => cases h; exact frz_shr x
  | exc _ _ _ => cases h
  | no => cases h
theorem tE_frz {m : Mode} {cf : Bool} {pr : Option Nat} {f : EnvD → Res D} (hm : m ≠ .esc) {pr2 : Option Nat} (h : PE X e (tE clA pv W .esc cf pr f)) : PE X e (tE clA pv W m cf pr2 fun env => frzR (f env)) := by
  refine tE.imp h fun σ H Q F env φ s q => ⟨F, env, φ, s, ?_⟩
  have q2 := Post.bind.mp (show Post _ _ ((f env).bind fun x env => .ok x.frz env) from q)
  refine q2.mono (fun _ _ _ x => x) fun d env1 _ o F' H' φ' v fd E => ?_
  obtain ⟨n1, n2⟩ := E.nd rfl
  have r : Rep (fun a => F' a ∨ a ∈ fd) H' d.frz v [] := Rep.frz d v fd (fun _ h => .inl h) (fun _ h => .inr h) E.rep
  refine o (fun a => F' a ∨ a ∈ fd) H' φ' v [] ⟨E.sr.grow (fun _ _ h => h) (fun _ h => .inl h) (fun i a hi z => ?_) (fun a z => ?_), r, fun z => absurd z hm, ?_, fun z => (E.cf z).trans ⟨fun _ _ h => h, fun _ _ h => .inl h⟩ fun _ h => .inl h, fun _ _ _ _ z => (nomatch z)⟩
  · rcases z with z | z
    · exact E.sr.nf i a hi z
    · exact (n2 a z).2 ⟨i, hi⟩
  · rcases z with z | z
    · exact E.sr.fh a z
    · obtain ⟨vs, e⟩ := Rep.fpl _ _ _ E.rep a z
      rw [e]; simp
  · refine E.stp.trans (Stp.freeze (fun _ h => .inl h) (fun a h => ?_) fun a h => ?_)
    · rcases h with h | h
      · exact .inl h
      · exact .inr (.inr ⟨rfl, h⟩)
    · rcases h with h | ⟨h, _⟩
      · exact .inl h
      · exact absurd h hm
theorem snd_lft (ha : ESound X C clA pv W a a') {m : Mode} (h1 : m ≠ .ts) (h2 : m ≠ .esc) (cfb : Bool) : PE X a (tE clA pv W m a'.cf (prOf a') (lft C m cfb a')) := by
  cases cfb with
  | true => exact ha.v m h1
  | false => exact tE_frz h2 ha.esc
theorem lft_shr {m : Mode} {cfb : Bool} {env env1 : EnvD} {d : D} (h : lft C m cfb a' env = .ok d env1) : d.shr = true ∨ cfb = true := by
  cases cfb with
  | true => exact .inr rfl
  | false => exact .inl (frzR_shr h)
theorem lft_shrK {cfb : Bool} {env env1 : EnvD} {d : D} (h : lft C .kd cfb a' env = .ok d env1) : d.shrK = true := by
  cases cfb with
  | true => exact kd_shrK h
  | false => exact shr_shrK _ (frzR_shr h)
theorem snd_bin {o : Bop} (ha : ESound X C clA pv W a a') (hb : ESound X C clA pv W b b') : ESound X C clA pv W (.BinOp a (opOf o) b pos) (.bin o a' b') := by
  refine ESound.temp (f := fun env => (lft C .kd b'.cf a' env).bind fun x env => (ev C .kd b' env).bind fun y env => Res.of (bop o x y) env) (fun m env => by simp only [ev]; rfl) rfl (fun _ => rfl) ?_
  refine tE.imp (pe_op (op_bop o) (snd_lft ha (m := .kd) (by decide) (by decide) b'.cf) hb.kd) fun σ H Q F env φ s q => ?_
  refine tE.sub s q fun x env1 F1 H1 φ1 v fd e1 E1 q1 => ?_
  refine tE.sub2 E1.sr E1.st q1 fun y env2 F2 H2 φ2 u fd2 e2 E2 q2 => ?_
  obtain ⟨r, er, o⟩ := Post.of q2
  refine ⟨F2, x, y, fd, fd2, E1.keep E2 (lft_shr e1), E2.rep, lft_shrK e1, kd_shrK e2, r, er, fun w H' fr k rr nd hn => ?_⟩
  refine o F2 H' φ2 w fr (.fresh E2.sr (E1.st.trans E2.st) (fun z => ?_) k rr nd hn)
  have z : (a'.cf && b'.cf) = true := z
  rw [Bool.and_eq_true] at z
  exact (E1.cf z.1).trans (E2.cf z.2) E2.stp.f1
theorem snd_cmp (hu : X.A.units + 72 < cLine) (hns : notSetE b = true) {o : Cop} (ha : ESound X C clA pv W a a') (hb : ESound X C clA pv W b b') : ESound X C clA pv W (.Compare a [copOf o] [b] pos) (.cmp o a' b') := by
  have hl := snd_lft ha (m := .rd) (by decide) (by decide) b'.cf
  refine ESound.bool (f := fun env => (lft C .rd b'.cf a' env).bind fun x env => (ev C .rd b' env).bind fun y env => Res.of ((cop o x y).map .bl) env) (fun m env => by simp only [ev]; rfl) rfl
    (pe_cmpR (op_cop hu o) hl hb.rd (copOf_mark o b hns)) (pt_cmpR (op_cop hu o) hl hb.rd (copOf_mark o b hns)) (fun env d env' h => ?_) fun σ H Q F env φ s q => ?_
  · cases e1 : lft C .rd b'.cf a' env with
    | ok x env1 =>
      rw [e1] at h
      simp only [Res.bind] at h
      cases e2 : ev C .rd b' env1 with
      | ok y env2 =>
        rw [e2] at h
        simp only at h
        cases e3 : cop o x y with
        | none => rw [e3] at h; cases h
        | some k => rw [e3] at h; cases h; exact ⟨k, rfl⟩
      | exc _ _ _ => rw [e2] at h; cases h
      | no => rw [e2] at h; cases h
    | exc _ _ _ => rw [e1] at h; cases h
    | no => rw [e1] at h; cases h
  · refine tE.sub s q fun x env1 F1 H1 φ1 v fd e1 E1 q1 => ?_
    refine tE.sub2 E1.sr E1.st q1 fun y env2 F2 H2 φ2 u fd2 e2 E2 q2 => ?_
    obtain ⟨r, er, o'⟩ := Post.of q2
    cases e3 : cop o x y with
    | none => rw [e3] at er; cases er
    | some k =>
      rw [e3] at er
      cases er
      refine ⟨F2, x, y, fd, fd2, E1.keep E2 (lft_shr e1), E2.rep, k, e3, o' F2 H2 φ2 _ [] (.flat E2.sr (E1.st.trans E2.st) (fun z => ?_) ⟨rfl, rfl⟩)⟩
      have z : (a'.cf && b'.cf) = true := z
      rw [Bool.and_eq_true] at z
      exact (E1.cf z.1).trans (E2.cf z.2) E2.stp.f1
theorem snd_isN (neg : Bool) (ha : ESound X C clA pv W a a') {j : Nat} {pos' : Pos} : ESound X C clA pv W (.Compare a [if neg then .IsNot else .Is] [.Constant .none j pos'] pos) (.isN neg a') := by
  have w : ∀ σ H Q F env φ, Sta F σ H env φ pv → Post (XOut clA pv W σ F H φ) (OE pv σ .esc a'.cf none F H φ Q) ((ev C .rd a' env).bind fun x env => .ok (.bl (x.isNon != neg)) env) →
      tE clA pv W .rd a'.cf (prOf a') (ev C .rd a') σ H fun x H1 => Q (.bl (decide (x = .non) != neg)) H1 := by
    intro σ H Q F env φ s q
    refine tE.sub s q fun x env1 F1 H1 φ1 v fd e1 E1 q1 => ?_
    have := q1 F1 H1 φ1 (.bl (decide (v = .non) != neg)) [] (.flat E1.sr E1.st (fun z => E1.cf z) ⟨by rw [E1.rep.isNon], rfl⟩)
    exact this
  have hbool : ∀ env d env', (ev C .rd a' env).bind (fun x env => (.ok (.bl (x.isNon != neg)) env : Res D)) = .ok d env' → ∃ b, d = .bl b := by
    intro env d env' h
    cases e1 : ev C .rd a' env with
    | ok x env1 => rw [e1] at h; cases h; exact ⟨_, rfl⟩
    | exc _ _ _ => rw [e1] at h; cases h
    | no => rw [e1] at h; cases h
  cases neg with
  | false =>
    refine ESound.bool (t := tIsN (tE clA pv W .rd a'.cf (prOf a') (ev C .rd a'))) (fun m env => by simp only [ev]) rfl (pe_cmp (pc_isN ha.rd) (nomark _)) (pt_cmp (pc_isN ha.rd) (nomark _)) hbool fun σ H Q F env φ s q => ?_
    have z := w σ H Q F env φ s q
    simpa [tIsN] using z
  | true =>
    refine ESound.bool (t := tNotN (tE clA pv W .rd a'.cf (prOf a') (ev C .rd a'))) (fun m env => by simp only [ev]) rfl (pe_cmp (pc_notN ha.rd) (nomark _)) (pt_cmp (pc_notN ha.rd) (nomark _)) hbool fun σ H Q F env φ s q => ?_
    have z := w σ H Q F env φ s q
    simpa [tNotN] using z
theorem snd_neg (ha : ESound X C clA pv W a a') : ESound X C clA pv W (.UnaryOp .USub a pos) (.neg a') := by
  refine ESound.temp (f := fun env => (ev C .esc a' env).bind fun x env => vNeg x env) (fun m env => by simp only [ev]) rfl (fun _ => rfl) ?_
  refine tE.imp (pe_un un_neg ha.esc) fun σ H Q F env φ s q => ?_
  refine tE.sub s q fun x env1 F1 H1 φ1 v fd e1 E1 q1 => ?_
  cases x with
  | int i => exact ⟨i, E1.rep.1, q1 F1 H1 φ1 _ [] (.flat E1.sr E1.st (fun z => E1.cf z) ⟨rfl, rfl⟩)⟩
  | _ => exact q1.elim
end
end VS

end

section
set_option linter.all false
set_option maxRecDepth 100000
set_option maxHeartbeats 1000000
namespace VS
open PySem L2

section
variable {X : Cx} {C : CtxD} {clA : Str → Addr} {pv : Pv} {W : WX} {e a b c : Expr} {e' a' b' c' : E} {pos : Pos}
theorem ESound.of {f : EnvD → Res D} (hev : ∀ m env, m ≠ .ts → ev C m e' env = fin m (f env)) (hp : e'.place = false) (h : PE X e (tE clA pv W .esc e'.cf none f)) (ht : PT X e (tT clA pv W e'.cf (ev C .ts e'))) : ESound X C clA pv W e e' where
  v := fun m hm => by
    rw [show prOf e' = none by unfold prOf; rw [hp]; rfl]
    exact PE.imp (tE_fin h hm) fun σ H Q ⟨F, env, φ, s, q⟩ => ⟨F, env, φ, s, by show Post _ _ (fin m (f env)); rw [← hev m env hm]; exact q⟩
  t := ht
  n := fun i z => by subst z; cases hp
/-! ## truth: not, and, or -/
theorem snd_not (ha : ESound X C clA pv W a a') : ESound X C clA pv W (.UnaryOp .Not a pos) (.not_ a') := by
  refine ESound.of (f := fun env => (ev C .rd a' env).bind fun x env => Res.of (x.truth.map fun b => .bl (!b)) env) (fun m env hm => by cases m <;> first | exact absurd rfl hm | simp only [ev]) rfl ?_ ?_
  · refine ⟨fun pins s σ H Q I h => ?_⟩
    obtain ⟨F, env, φ, s1, q⟩ := h
    have q1 : tE clA pv W .rd a'.cf (prOf a') (ev C .rd a') σ H fun x H1 => ∃ k, TruV X.K x H1 k ∧ Q (.bl (!k)) H1 := by
      refine tE.sub s1 q fun x env1 F1 H1 φ1 v fd e1 E1 o => ?_
      obtain ⟨r, e2, o⟩ := Post.of o
      cases ht : x.truth with
      | none => rw [ht] at e2; cases e2
      | some k =>
        rw [ht] at e2
        cases e2
        exact ⟨k, E1.rep.tru ht, o F1 H1 φ1 _ [] (.flat E1.sr E1.st E1.cf ⟨rfl, rfl⟩)⟩
    refine PyProof.Rows.UnaryOp_ (thn (ha.rd.run pins s σ H _ I q1) fun u s2 ⟨x, H1, I1, r1, q2⟩ => ?_)
    refine PyProof.Rows.not_of (thn (tru_ok pins s2 σ H1 x u (fun k H2 => Q (.bl (!k)) H2) I1 r1 q2) fun k s3 ⟨H2, I2, q3⟩ => ?_)
    exact ⟨.bl (!k), H2, I2, rfl, q3⟩
  · refine tT.imp (pt_not ha.t) fun σ H Q F env φ s q => ?_
    refine tT.sub2 s (Stp.refl ..) q (fun d e o => let ⟨b, e1, _⟩ := o.onBool; ⟨b, e1⟩) fun b env1 F1 H1 φ1 e1 s1 st1 cn1 o => ?_
    obtain ⟨k, e2, o⟩ := o.onBool
    cases e2
    cases b with
    | true =>
      obtain ⟨k, e1, o⟩ := o
      cases e1
      exact o F1 H1 φ1 s1 st1 cn1
    | false =>
      obtain ⟨k, e1, o⟩ := o
      cases e1
      exact o F1 H1 φ1 s1 st1 cn1
/-- a list of expressions, each to its own -/
inductive AllE (P : Expr → E → Prop) : List Expr → List E → Prop
  | nil : AllE P [] []
  | cons {e : Expr} {e' : E} {es : List Expr} {es' : List E} : P e e' → AllE P es es' → AllE P (e :: es) (e' :: es')
theorem cf_and {a b : E} (h : (E.and_ a b).cf = true) : a.cf = true ∧ b.cf = true := by
  have h : (a.cf && b.cf) = true := h
  simpa using h
theorem cf_or {a b : E} (h : (E.or_ a b).cf = true) : a.cf = true ∧ b.cf = true := by
  have h : (a.cf && b.cf) = true := h
  simpa using h
theorem snd_and {f : Expr → Option E} : ∀ (es : List Expr) {e' : E}, (∀ e ∈ es, ∀ e', f e = some e' → ESound X C clA pv W e e') → trAnd f es = some e' → ESound X C clA pv W (.BoolOp .And es pos) e' ∧ PW X (.BoolOp .And es pos) (tT clA pv W e'.cf (ev C .ts e'))
  | [], e', _, h => by cases h
  | [e], e', hf, h => by
    have s := hf e (by simp) e' h
    exact ⟨⟨fun m hm => pe_one (s.v m hm), (pw_and1 s.t).pt, fun i z => pe_one (s.n i z)⟩, pw_and1 s.t⟩
  | e :: e2 :: es, e', hf, h => by
    simp only [trAnd] at h
    cases h1 : f e with
    | none => rw [h1] at h; cases h
    | some x =>
      rw [h1] at h
      cases h2 : trAnd f (e2 :: es) with
      | none => rw [Option.bind_some, show trAnd f (e2 :: es) = none from h2] at h; cases h
      | some y =>
        rw [Option.bind_some, show trAnd f (e2 :: es) = some y from h2] at h
        cases h
        have s := hf e (by simp) x h1
        obtain ⟨s2, w2⟩ := snd_and (e2 :: es) (fun e he => hf e (by simp [he])) h2
        have key : ∀ σ H Q F env φ, Sta F σ H env φ pv → Post (XOut clA pv W σ F H φ) (OT pv σ (E.and_ x y).cf F H φ Q) (ev C .ts (.and_ x y) env) → tAnd (tT clA pv W x.cf (ev C .ts x)) (tT clA pv W y.cf (ev C .ts y)) σ H Q := by
          intro σ H Q F env φ s q
          refine tT.sub2 s (Stp.refl ..) q (fun d e o => let ⟨b, e1, _⟩ := o.onBool; ⟨b, e1⟩) fun b env1 F1 H1 φ1 e1 s1 st1 cn1 o => ?_
          obtain ⟨k, e2, o⟩ := o.onBool
          cases e2
          cases b with
          | true => exact ⟨F1, env1, φ1, s1, o.mono (fun _ _ _ x => x.after st1) fun d e _ o => by
              obtain ⟨b, e3, o⟩ := o
              exact ⟨b, e3, fun F' H' φ' s' st' cn' => o F' H' φ' s' (st1.trans st') fun z => (cn1 (cf_and z).1).trans (cn' (cf_and z).2) st'.f1⟩⟩
          | false =>
            obtain ⟨k, e1, o⟩ := o
            cases e1
            exact o F1 H1 φ1 s1 st1 fun z => cn1 (cf_and z).1
        have pw : PW X (.BoolOp .And (e :: e2 :: es) pos) (tT clA pv W (E.and_ x y).cf (ev C .ts (.and_ x y))) := PW.imp (pw_and s.t w2) fun σ H Q ⟨F, env, φ, s, q⟩ => key σ H Q F env φ s q
        refine ⟨ESound.of (f := fun env => (ev C .esc x env).bind fun d env => onBool d (ev C .esc y env) (.ok (.bl false) env) .no) (fun m env hm => by cases m <;> first | exact absurd rfl hm | simp only [ev]) rfl ?_ pw.pt, pw⟩
        refine tE.imp (pe_and s.esc s2.esc) fun σ H Q F env φ s q => ?_
        refine tE.sub s q fun d env1 F1 H1 φ1 v fd e1 E1 o => ?_
        obtain ⟨b, rfl, o⟩ := o.onBool
        refine ⟨b, E1.rep.1, ?_⟩
        cases b with
        | true => exact ⟨F1, env1, φ1, E1.sr, o.mono (fun _ _ _ x => x.after E1.st) fun d e _ o F' H' φ' v fd G => o F' H' φ' v fd (by
            have E2 := EOk.after (cf := (E.and_ x y).cf) (pr := none) ⟨G.sr, G.rep, G.nd, G.stp, fun z => G.cf (cf_and z).2, fun _ z => (nomatch z)⟩ E1.st fun z => E1.cf (cf_and z).1
            exact E2)⟩
        | false => exact o F1 H1 φ1 _ [] (.flat E1.sr E1.st (fun z => E1.cf (cf_and z).1) ⟨rfl, rfl⟩)
theorem snd_or {f : Expr → Option E} : ∀ (es : List Expr) {e' : E}, (∀ e ∈ es, ∀ e', f e = some e' → ESound X C clA pv W e e') → trOr f es = some e' → ESound X C clA pv W (.BoolOp .Or es pos) e' ∧ PW X (.BoolOp .Or es pos) (tT clA pv W e'.cf (ev C .ts e'))
  | [], e', _, h => by cases h
  | [e], e', hf, h => by
    have s := hf e (by simp) e' h
    exact ⟨⟨fun m hm => pe_one (s.v m hm), (pw_or1 s.t).pt, fun i z => pe_one (s.n i z)⟩, pw_or1 s.t⟩
  | e :: e2 :: es, e', hf, h => by
    simp only [trOr] at h
    cases h1 : f e with
    | none => rw [h1] at h; cases h
    | some x =>
      rw [h1] at h
      cases h2 : trOr f (e2 :: es) with
      | none => rw [Option.bind_some, show trOr f (e2 :: es) = none from h2] at h; cases h
      | some y =>
        rw [Option.bind_some, show trOr f (e2 :: es) = some y from h2] at h
        cases h
        have s := hf e (by simp) x h1
        obtain ⟨s2, w2⟩ := snd_or (e2 :: es) (fun e he => hf e (by simp [he])) h2
        have key : ∀ σ H Q F env φ, Sta F σ H env φ pv → Post (XOut clA pv W σ F H φ) (OT pv σ (E.or_ x y).cf F H φ Q) (ev C .ts (.or_ x y) env) → tOr (tT clA pv W x.cf (ev C .ts x)) (tT clA pv W y.cf (ev C .ts y)) σ H Q := by
          intro σ H Q F env φ s q
          refine tT.sub2 s (Stp.refl ..) q (fun d e o => let ⟨b, e1, _⟩ := o.onBool; ⟨b, e1⟩) fun b env1 F1 H1 φ1 e1 s1 st1 cn1 o => ?_
          obtain ⟨k, e2, o⟩ := o.onBool
          cases e2
          cases b with
          | false => exact ⟨F1, env1, φ1, s1, o.mono (fun _ _ _ x => x.after st1) fun d e _ o => by
              obtain ⟨b, e3, o⟩ := o
              exact ⟨b, e3, fun F' H' φ' s' st' cn' => o F' H' φ' s' (st1.trans st') fun z => (cn1 (cf_or z).1).trans (cn' (cf_or z).2) st'.f1⟩⟩
          | true =>
            obtain ⟨k, e1, o⟩ := o
            cases e1
            exact o F1 H1 φ1 s1 st1 fun z => cn1 (cf_or z).1
        have pw : PW X (.BoolOp .Or (e :: e2 :: es) pos) (tT clA pv W (E.or_ x y).cf (ev C .ts (.or_ x y))) := PW.imp (pw_or s.t w2) fun σ H Q ⟨F, env, φ, s, q⟩ => key σ H Q F env φ s q
        refine ⟨ESound.of (f := fun env => (ev C .esc x env).bind fun d env => onBool d (.ok (.bl true) env) (ev C .esc y env) .no) (fun m env hm => by cases m <;> first | exact absurd rfl hm | simp only [ev]) rfl ?_ pw.pt, pw⟩
        refine tE.imp (pe_or s.esc s2.esc) fun σ H Q F env φ s q => ?_
        refine tE.sub s q fun d env1 F1 H1 φ1 v fd e1 E1 o => ?_
        obtain ⟨b, rfl, o⟩ := o.onBool
        refine ⟨b, E1.rep.1, ?_⟩
        cases b with
        | false => exact ⟨F1, env1, φ1, E1.sr, o.mono (fun _ _ _ x => x.after E1.st) fun d e _ o F' H' φ' v fd G => o F' H' φ' v fd (by
            have E2 := EOk.after (cf := (E.or_ x y).cf) (pr := none) ⟨G.sr, G.rep, G.nd, G.stp, fun z => G.cf (cf_or z).2, fun _ z => (nomatch z)⟩ E1.st fun z => E1.cf (cf_or z).1
            exact E2)⟩
        | true => exact o F1 H1 φ1 _ [] (.flat E1.sr E1.st (fun z => E1.cf (cf_or z).1) ⟨rfl, rfl⟩)
theorem snd_ite (hc : ESound X C clA pv W c c') (ha : ESound X C clA pv W a a') (hb : ESound X C clA pv W b b') : ESound X C clA pv W (.IfExp c a b pos) (.ite c' a' b') := by
  refine ESound.of (f := fun env => (ev C .ts c' env).bind fun t env => onBool t (ev C .esc a' env) (ev C .esc b' env) .no) (fun m env hm => by cases m <;> first | exact absurd rfl hm | simp only [ev]) rfl ?_ ?_
  · refine tE.imp (pe_ifExp hc.t ha.esc hb.esc) fun σ H Q F env φ s q => ?_
    refine tT.sub2 s (Stp.refl ..) q (fun d e o => let ⟨b, e1, _⟩ := o.onBool; ⟨b, e1⟩) fun t env1 F1 H1 φ1 e1 s1 st1 cn1 o => ?_
    obtain ⟨k, e2, o⟩ := o.onBool
    cases e2
    have hcf : (E.ite c' a' b').cf = true → c'.cf = true ∧ a'.cf = true ∧ b'.cf = true := fun z => by
      have z : (c'.cf && a'.cf && b'.cf) = true := z
      simpa [Bool.and_eq_true, and_assoc] using z
    cases t with
    | true => exact ⟨F1, env1, φ1, s1, o.mono (fun _ _ _ x => x.after st1) fun d e _ o F' H' φ' v fd G => o F' H' φ' v fd (EOk.after (cf := (E.ite c' a' b').cf) (pr := none) ⟨G.sr, G.rep, G.nd, G.stp, fun z => G.cf (hcf z).2.1, fun _ z => (nomatch z)⟩ st1 fun z => cn1 (hcf z).1)⟩
    | false => exact ⟨F1, env1, φ1, s1, o.mono (fun _ _ _ x => x.after st1) fun d e _ o F' H' φ' v fd G => o F' H' φ' v fd (EOk.after (cf := (E.ite c' a' b').cf) (pr := none) ⟨G.sr, G.rep, G.nd, G.stp, fun z => G.cf (hcf z).2.2, fun _ z => (nomatch z)⟩ st1 fun z => cn1 (hcf z).1)⟩
  · refine ⟨fun pins s σ H Q I h => ?_⟩
    obtain ⟨F, env, φ, s1, q⟩ := h
    exact q.elim
theorem snd_cmp2 (hu : X.A.units + 72 < cLine) (hns : notSetE c = true) {o p : Cop} (ha : ESound X C clA pv W a a') (hb : ESound X C clA pv W b b') (hc : ESound X C clA pv W c c') : ESound X C clA pv W (.Compare a [copOf o, copOf p] [b, c] pos) (.cmp2 o p a' b' c') := by
  have hm : lastMarks [copOf o, copOf p] [b, c] = false := by
    show behindInMarks (copOf p) c = false
    exact copOf_mark p c hns
  refine ESound.bool (f := fun env => (ev C .esc a' env).bind fun x env => (ev C .esc b' env).bind fun y env => if x.shr && y.shr then onOB (cop o x y) ((ev C .esc c' env).bind fun z env => Res.of ((cop p y z).map .bl) env) (.ok (.bl false) env) .no else .no) (fun m env => by simp only [ev]) rfl
    (pe_chain (op_cop hu o) (op_cop hu p) ha.esc hb.esc hc.esc hm) (pt_chain (op_cop hu o) (op_cop hu p) ha.esc hb.esc hc.esc hm) (fun env d env' h => ?_) fun σ H Q F env φ s q => ?_
  · cases e1 : ev C .esc a' env with
    | ok x env1 =>
      rw [e1] at h
      simp only [Res.bind] at h
      cases e2 : ev C .esc b' env1 with
      | ok y env2 =>
        rw [e2] at h
        simp only at h
        split at h
        · cases e3 : cop o x y with
          | none => rw [e3] at h; cases h
          | some k =>
            rw [e3] at h
            cases k with
            | false => cases h; exact ⟨_, rfl⟩
            | true =>
              simp only [onOB] at h
              cases e4 : ev C .esc c' env2 with
              | ok z env3 =>
                rw [e4] at h
                simp only at h
                cases e5 : cop p y z with
                | none => rw [e5] at h; cases h
                | some k => rw [e5] at h; cases h; exact ⟨_, rfl⟩
              | exc _ _ _ => rw [e4] at h; cases h
              | no => rw [e4] at h; cases h
        · cases h
      | exc _ _ _ => rw [e2] at h; cases h
      | no => rw [e2] at h; cases h
    | exc _ _ _ => rw [e1] at h; cases h
    | no => rw [e1] at h; cases h
  · have hcf : (E.cmp2 o p a' b' c').cf = true → a'.cf = true ∧ b'.cf = true ∧ c'.cf = true := fun z => by
      have z : (a'.cf && b'.cf && c'.cf) = true := z
      simpa [Bool.and_eq_true, and_assoc] using z
    refine tE.sub s q fun x env1 F1 H1 φ1 v fd e1 E1 q1 => ?_
    refine tE.sub2 E1.sr E1.st q1 fun y env2 F2 H2 φ2 u fd2 e2 E2 q2 => ?_
    split at q2
    · rename_i hs
      rw [Bool.and_eq_true] at hs
      cases e3 : cop o x y with
      | none => rw [e3] at q2; exact q2.elim
      | some k =>
        rw [e3] at q2
        refine ⟨F2, x, y, fd, fd2, E1.keep E2 (.inl hs.1), E2.rep, k, e3, k, rfl, ?_⟩
        cases k with
        | false => exact q2 F2 H2 φ2 _ [] (.flat E2.sr (E1.st.trans E2.st) (fun z => (E1.cf (hcf z).1).trans (E2.cf (hcf z).2.1) E2.stp.f1) ⟨rfl, rfl⟩)
        | true =>
          refine tE.sub2 E2.sr (E1.st.trans E2.st) q2 fun z env3 F3 H3 φ3 w fd3 e4 E3 q3 => ?_
          obtain ⟨r, er, o'⟩ := Post.of q3
          cases e5 : cop p y z with
          | none => rw [e5] at er; cases er
          | some k =>
            rw [e5] at er
            cases er
            exact ⟨F3, y, z, fd2, fd3, E2.keep E3 (.inl hs.2), E3.rep, k, e5, o' F3 H3 φ3 _ [] (.flat E3.sr ((E1.st.trans E2.st).trans E3.st) (fun z => ((E1.cf (hcf z).1).trans (E2.cf (hcf z).2.1) E2.stp.f1).trans (E3.cf (hcf z).2.2) E3.stp.f1) ⟨rfl, rfl⟩)⟩
    · exact q2.elim
/-! ## parts -/
theorem shrs_mem : ∀ {ds : List D} {d : D}, shrs ds = true → d ∈ ds → d.shr = true
  | c :: ds, d, h, hm => by
    simp only [shrs, Bool.and_eq_true] at h
    rcases List.mem_cons.mp hm with rfl | hm
    · exact h.1
    · exact shrs_mem h.2 hm
theorem atI_mem {α : Type} {xs : List α} {i : Int} {x : α} (h : L2.atI xs i = some x) : x ∈ xs := by
  unfold L2.atI at h
  cases q : ixN xs.length i with
  | none => rw [q] at h; cases h
  | some j => rw [q] at h; exact List.mem_of_getElem? h
theorem subD_shr {x y c : D} (h : subD x y = some c) (s : x.shr = true) : c.shr = true := by
  cases y with
  | int i =>
    cases x with
    | lst f xs => simp only [D.shr, Bool.and_eq_true] at s; exact shrs_mem s.2 (atI_mem h)
    | tup xs => exact shrs_mem (by simpa [D.shr] using s) (atI_mem h)
    | str z =>
      simp only [subD] at h
      split at h
      · cases q : L2.atI z.cps.toList i with
        | none => rw [q] at h; cases h
        | some k => rw [q] at h; cases h; rfl
      · cases h
    | _ => simp [subD] at h
  | _ => cases x <;> simp [subD] at h
theorem snd_sub (hs : PlainIx b) (ha : ESound X C clA pv W a a') (hb : ESound X C clA pv W b b') (he : ∀ whole, isTrue (.Subscript a b pos) X.env whole = (do let v ← whole; standAt (Expr.Subscript a b pos).pos; holding [v] (truthy v)) := by intro _; rfl) :
    ESound X C clA pv W (.Subscript a b pos) (.sub a' b') := by
  have hcf : (E.sub a' b').cf = true → a'.cf = true ∧ b'.cf = true := fun z => by
    have z : (a'.cf && b'.cf) = true := z
    simpa using z
  cases hp : a'.place with
  | false =>
    refine ESound.temp (f := fun env => (ev C .esc a' env).bind fun x env => (ev C .esc b' env).bind fun y env => Res.of (subD x y) env) (fun m env => by simp only [ev, hp]; rfl) hp he ?_
    refine tE.imp (pe_ix ix_sub ha.esc hb.esc hs) fun σ H Q F env φ s q => ?_
    refine tE.sub s q fun x env1 F1 H1 φ1 v fd e1 E1 q1 => ?_
    refine tE.sub2 E1.sr E1.st q1 fun y env2 F2 H2 φ2 u fd2 e2 E2 q2 => ?_
    obtain ⟨r, er, o⟩ := Post.of q2
    obtain ⟨n1, n2⟩ := E1.nd rfl
    have R1 : Rep F2 H2 x v fd := Rep.over E1.sr E2.stp (fun a ha => (n2 a ha).2) E1.rep
    refine ⟨F2, x, y, fd, fd2, R1, E2.rep, r, er, fun w fr rr h1 h2 => ?_⟩
    have notnone : ∀ a ∈ fd, H1 a ≠ none := fun a ha => by
      obtain ⟨vs, e⟩ := Rep.fpl _ _ _ E1.rep a ha
      rw [e]; simp
    refine o F2 H2 φ2 w fr ⟨E2.sr, rr, fun _ => ⟨h2 n1, fun a ha => ⟨fun z => ?_, fun z => ?_⟩⟩, ?_, fun z => (E1.cf (hcf z).1).trans (E2.cf (hcf z).2) E2.stp.f1, fun _ z => (nomatch z)⟩
    · rcases E2.stp.f2 a z with z | z | z
      · exact (n2 a (h1 a ha)).1 z
      · exact (n2 a (h1 a ha)).2 z
      · exact notnone a (h1 a ha) z
    · rcases E2.st.p a z with z | z
      · exact (n2 a (h1 a ha)).2 z
      · exact notnone a (h1 a ha) z
    · refine (E1.st.trans E2.st).mono (fun _ h => h) fun a h => ?_
      rcases h with h | ⟨_, h⟩
      · exact .inl h
      · exact .inr (E1.stp.p a (.inr ⟨rfl, h1 a h⟩))
  | true =>
    have hpr : prOf (.sub a' b') = some a'.root := by unfold prOf; rw [show (E.sub a' b').place = a'.place from rfl, hp]; rfl
    have hpa : prOf a' = some a'.root := by unfold prOf; rw [hp]; rfl
    have base : ∀ (m : Mode) (σ : L2.St) (H : Hp) (Q : VK) (O : D → EnvD → Prop) F env φ, Sta F σ H env φ pv → Post (XOut clA pv W σ F H φ) O ((ev C .rd a' env).bind fun x env => if x.shr || b'.cf then (ev C .esc b' env).bind fun y env => onPart m a'.root (subD x y) env else .no) →
        (∀ env2 F2 H2 φ2 c w fr, Sta F2 σ H2 env2 φ2 pv → Stp F H (Own φ) F2 H2 (Own φ2) → (a'.cf = true ∧ b'.cf = true → Cons H φ F2 H2 φ2) → Rep F2 H2 c w fr → (∀ a ∈ fr, a ∈ φ2 a'.root ∨ F2 a) → (c.shr = true ∨ b'.cf = true) → Post (XOut clA pv W σ F H φ) O (vPart m a'.root c env2) → Q w H2) →
        tOp (rSub X.K) (tE clA pv W .rd a'.cf (prOf a') (ev C .rd a')) (tE clA pv W .esc b'.cf (prOf b') (ev C .esc b')) σ H Q := by
      intro m σ H Q O F env φ s q k
      refine tE.sub s q fun x env1 F1 H1 φ1 v fd e1 E1 q1 => ?_
      split at q1
      · rename_i hc
        refine tE.sub2 E1.sr E1.st q1 fun y env2 F2 H2 φ2 u fd2 e2 E2 q2 => ?_
        cases er : subD x y with
        | none => rw [er] at q2; exact q2.elim
        | some c =>
          rw [er] at q2
          have R1 := E1.keep E2 (or_of hc)
          refine ⟨F2, x, y, fd, fd2, R1, E2.rep, c, er, fun w fr rr h1 h2 => ?_⟩
          have cs : c.shr = true ∨ b'.cf = true := by
            rcases or_of hc with z | z
            · exact .inl (subD_shr er z)
            · exact .inr z
          refine k env2 F2 H2 φ2 c w fr E2.sr (E1.st.trans E2.st) (fun z => (E1.cf z.1).trans (E2.cf z.2) E2.stp.f1) rr (fun a ha => ?_) cs q2
          rcases or_of hc with z | z
          · have z0 := Rep.shr x v fd z R1
            have := h1 a ha
            rw [z0] at this
            cases this
          · rcases E1.pl _ hpa (by decide) a (h1 a ha) with g | g
            · exact (E2.cf z).2 _ a g
            · exact .inr (E2.stp.f1 a g)
      · exact q1.elim
    have part : ∀ {m : Mode} {σ : L2.St} {H : Hp} {Q : VK} {F : Addr → Prop} {φ : Nat → List Addr} {env2 : EnvD} {F2 : Addr → Prop} {H2 : Hp} {φ2 : Nat → List Addr} {c : D} {w : V} {fr : List Addr}, m ≠ .ts → Sta F2 σ H2 env2 φ2 pv → Stp F H (Own φ) F2 H2 (Own φ2) → (a'.cf = true ∧ b'.cf = true → Cons H φ F2 H2 φ2) →
        Rep F2 H2 c w fr → (∀ a ∈ fr, a ∈ φ2 a'.root ∨ F2 a) → Post (XOut clA pv W σ F H φ) (OE pv σ m (E.sub a' b').cf (some a'.root) F H φ Q) (vPart m a'.root c env2) → Q w H2 := by
      intro m σ H Q F φ env2 F2 H2 φ2 c w fr hm s2 st2 cn2 rr hfr q
      have frozen : ∀ {m : Mode}, Post (XOut clA pv W σ F H φ) (OE pv σ m (E.sub a' b').cf (some a'.root) F H φ Q) (match env2[a'.root]? with | some (some d) => .ok c.frz (env2.set a'.root (some d.frz)) | _ => .no) → Q w H2 := fun {m} q => by
        cases e : env2[a'.root]? with
        | none => rw [e] at q; exact q.elim
        | some o =>
          cases o with
          | none => rw [e] at q; exact q.elim
          | some d =>
            rw [e] at q
            obtain ⟨v', _, _, s3, st3, cn3⟩ := s2.freeze e
            have r3 : Rep (frzF F2 φ2 a'.root) H2 c.frz w [] := Rep.frz c w fr (fun _ h => .inl h) (fun a ha => (hfr a ha).elim .inr .inl) rr
            exact q _ H2 _ w [] (.flat s3 (st2.trans st3) (fun z => (cn2 (hcf z)).trans cn3 fun _ h => .inl h) r3)
      have plain : ∀ {m : Mode}, m ≠ .esc → Post (XOut clA pv W σ F H φ) (OE pv σ m (E.sub a' b').cf (some a'.root) F H φ Q) (.ok c env2) → Q w H2 := fun {m} hm q =>
        q F2 H2 φ2 w fr ⟨s2, rr, fun z => absurd z hm, st2.mono (fun _ h => h) fun _ h => .inl (h.elim id fun z => absurd z.1 hm), fun z => cn2 (hcf z), fun r hr _ a ha => by cases hr; exact hfr a ha⟩
      cases m with
      | ts => exact absurd rfl hm
      | rd => exact plain (by decide) q
      | esc =>
        simp only [vPart] at q
        split at q
        · rename_i hs
          have z := Rep.shr c w fr hs rr
          rw [z] at rr
          exact q F2 H2 φ2 w [] (.flat s2 st2 (fun z => cn2 (hcf z)) rr)
        · exact frozen q
      | kd =>
        simp only [vPart] at q
        split at q
        · exact plain (by decide) q
        · exact frozen q
    refine ⟨fun m hm => ?_, ?_, fun i z => nomatch z⟩
    · rw [hpr]
      refine tE.imp (pe_ix ix_sub ha.rd hb.esc hs) fun σ H Q F env φ s q => ?_
      simp only [ev, hp, if_true] at q
      exact base m σ H Q _ F env φ s q fun env2 F2 H2 φ2 c w fr s2 st2 cn2 rr hfr _ o => part hm s2 st2 cn2 rr hfr o
    · refine tT.imp (pt_truth (pe_ix ix_sub ha.rd hb.esc hs) he) fun σ H Q F env φ s q => ?_
      simp only [ev, hp, if_true] at q
      refine base .ts σ H _ _ F env φ s q fun env2 F2 H2 φ2 c w fr s2 st2 cn2 rr hfr _ o => ?_
      obtain ⟨r, e1, k, e2, o⟩ := Post.of (show Post _ _ (Res.of (c.truth.map D.bl) env2) from o)
      cases ht : c.truth with
      | none => rw [ht] at e1; cases e1
      | some b =>
        rw [ht] at e1
        cases e1
        cases e2
        exact ⟨k, rr.tru ht, o F2 H2 φ2 s2 st2 fun z => cn2 (hcf z)⟩
end
end VS

end

section
set_option linter.all false
set_option maxRecDepth 100000
set_option maxHeartbeats 1000000
namespace VS
open PySem L2

/-! ## lists of parts -/
def notStar : Expr → Bool
  | .Starred _ _ => false
  | _ => true
theorem starEach_cons {e : Expr} {es : List Expr} {env : Env} (h : notStar e = true) : starEach (e :: es) env = (false, eval e env) :: starEach es env := by
  cases e <;> first | rfl | cases h
theorem starEach_any {pos : Pos} {env : Env} : ∀ {es : List Expr}, (∀ e ∈ es, notStar e = true) → (PySem.backTo pos (starEach es env)).any (·.1) = false
  | [], _ => rfl
  | e :: es, h => by
    rw [starEach_cons (h e (by simp))]
    show (false || (PySem.backTo pos (starEach es env)).any (·.1)) = false
    rw [starEach_any fun e he => h e (by simp [he])]
    rfl
section
variable (clA : Str → Addr) (pv : Pv) (W : WX)
structure AOk (σ : L2.St) (own cf : Bool) (F : Addr → Prop) (H : Hp) (φ : Nat → List Addr) (env' : EnvD) (ds : List D) (F' : Addr → Prop) (H' : Hp) (φ' : Nat → List Addr) (vs : List V) (fd : List Addr) : Prop where
  sr : Sta F' σ H' env' φ' pv
  rep : Reps F' H' ds vs fd
  nd : own = true → fd.Nodup ∧ ∀ a ∈ fd, ¬ F' a ∧ ¬ Own φ' a
  stp : Stp F H (Own φ) F' H' (fun a => Own φ' a ∨ (own = true ∧ a ∈ fd))
  cf : cf = true → Cons H φ F' H' φ'
def OA (σ : L2.St) (own cf : Bool) (F : Addr → Prop) (H : Hp) (φ : Nat → List Addr) (Q : List V → Hp → Prop) : List D → EnvD → Prop := fun ds env' => ∀ F' H' φ' vs fd, AOk pv σ own cf F H φ env' ds F' H' φ' vs fd → Q vs H'
def tAE (own cf : Bool) (f : EnvD → Res (List D)) : TA := fun σ H Q => ∃ F env φ, Sta F σ H env φ pv ∧ Post (XOut clA pv W σ F H φ) (OA pv σ own cf F H φ Q) (f env)
end
section
variable {clA : Str → Addr} {pv : Pv} {W : WX} {σ : L2.St} {own cf : Bool} {F F1 F2 F' : Addr → Prop} {H H1 H2 H' : Hp} {φ φ1 φ2 φ' : Nat → List Addr} {env env1 env' : EnvD} {ds : List D} {vs : List V} {fd : List Addr}
theorem AOk.st (E : AOk pv σ own cf F H φ env' ds F' H' φ' vs fd) : Stp F H (Own φ) F' H' (Own φ') := E.stp.mono (fun _ h => h) fun _ h => .inl (.inl h)
theorem tAE.sub2 {α : Type} {f : EnvD → Res (List D)} {k : List D → EnvD → Res α} {O : α → EnvD → Prop} {R : List V → Hp → Prop} (s : Sta F1 σ H1 env1 φ1 pv) (st : Stp F H (Own φ) F1 H1 (Own φ1)) (h : Post (XOut clA pv W σ F H φ) O ((f env1).bind k))
    (hk : ∀ ds env2 F2 H2 φ2 vs fd, f env1 = .ok ds env2 → AOk pv σ own cf F1 H1 φ1 env2 ds F2 H2 φ2 vs fd → Post (XOut clA pv W σ F H φ) O (k ds env2) → R vs H2) : tAE clA pv W own cf f σ H1 R :=
  ⟨F1, env1, φ1, s, (Post.bind.mp h).mono (fun _ _ _ x => x.after st) fun d env2 e o F2 H2 φ2 v fd E => hk d env2 F2 H2 φ2 v fd e E o⟩
/-- what stands apart stays apart -/
theorem apart {P2 : Addr → Prop} (h : ∀ a ∈ fd, ¬ F1 a ∧ ¬ Own φ1 a) (hn : ∀ a ∈ fd, H1 a ≠ none) (st : Stp F1 H1 (Own φ1) F2 H2 P2) : ∀ a ∈ fd, ¬ F2 a ∧ ¬ P2 a := fun a ha =>
  ⟨fun z => by
    rcases st.f2 a z with z | z | z
    · exact (h a ha).1 z
    · exact (h a ha).2 z
    · exact hn a ha z, fun z => by
    rcases st.p a z with z | z
    · exact (h a ha).2 z
    · exact hn a ha z⟩
theorem Rep.there {d : D} {v : V} (r : Rep F H d v fd) : ∀ a ∈ fd, H a ≠ none := fun a ha => by
  obtain ⟨vs, e⟩ := Rep.fpl _ _ _ r a ha
  rw [e]; simp
theorem Reps.there (r : Reps F H ds vs fd) : ∀ a ∈ fd, H a ≠ none := fun a ha => by
  obtain ⟨vs, e⟩ := Reps.fpl _ _ _ r a ha
  rw [e]; simp
theorem Stp.back {P P' : Addr → Prop} (st : Stp F H P F' H' P') {a : Addr} (h : H' a = none) : H a = none := by
  by_cases e : H a = none
  · exact e
  · exact absurd h (st.h a e)
end
section
variable {X : Cx} {C : CtxD} {clA : Str → Addr} {pv : Pv} {W : WX} {e a b c : Expr} {e' a' b' c' : E} {pos : Pos} {f : Expr → Option E}
theorem snd_es : ∀ (es : List Expr) {es' : Es}, (∀ e ∈ es, notStar e = true) → (∀ e ∈ es, ∀ e', f e = some e' → ESound X C clA pv W e e') → trEs f es = some es' → PA X es (tAE clA pv W true es'.cf (evs C es'))
  | [], es', _, _, h => by
    cases h
    refine PA.imp pa_nil fun σ H Q ⟨F, env, φ, s, q⟩ => ?_
    exact q F H φ [] [] ⟨s, ⟨rfl, rfl⟩, fun _ => ⟨List.nodup_nil, fun _ h => (nomatch h)⟩, (Stp.refl ..).mono (fun _ h => h) fun _ h => .inl (h.elim id fun z => (nomatch z.2)), fun _ => Cons.refl ..⟩
  | e :: es, es', hst, hf, h => by
    simp only [trEs] at h
    cases h1 : f e with
    | none => rw [h1] at h; cases h
    | some x =>
      rw [h1] at h
      cases h2 : trEs f es with
      | none => rw [Option.bind_some, h2] at h; cases h
      | some y =>
        rw [Option.bind_some, h2] at h
        cases h
        have s1 := hf e (by simp) x h1
        have s2 := snd_es es (fun e he => hst e (by simp [he])) (fun e he => hf e (by simp [he])) h2
        refine PA.imp (pa_cons s1.esc s2 (starEach_cons (hst e (by simp)))) fun σ H Q ⟨F, env, φ, s, q⟩ => ?_
        refine tE.sub s q fun d env1 F1 H1 φ1 v fd e1 E1 q1 => ?_
        refine tAE.sub2 E1.sr E1.st q1 fun ds env2 F2 H2 φ2 vs fd2 e2 A2 o => ?_
        obtain ⟨n1, n2⟩ := E1.nd rfl
        obtain ⟨m1, m2⟩ := A2.nd rfl
        have r1 : Rep F2 H2 d v fd := Rep.over E1.sr A2.stp (fun a ha => (n2 a ha).2) E1.rep
        have ap := apart n2 E1.rep.there A2.stp
        refine o F2 H2 φ2 (v :: vs) (fd ++ fd2) ⟨A2.sr, ⟨v, vs, fd, fd2, rfl, rfl, r1, A2.rep⟩, fun _ => ⟨List.nodup_append.mpr ⟨n1, m1, fun a ha b hb z => ?_⟩, fun a ha => ?_⟩, ?_, fun z => ?_⟩
        · subst z
          exact (ap a ha).2 (.inr ⟨rfl, hb⟩)
        · rcases List.mem_append.mp ha with ha | ha
          · exact ⟨(ap a ha).1, fun z => (ap a ha).2 (.inl z)⟩
          · exact m2 a ha
        · refine (E1.st.trans A2.st).mono (fun _ h => h) fun a h => ?_
          rcases h with h | ⟨_, h⟩
          · exact .inl h
          · rcases List.mem_append.mp h with h | h
            · exact .inr (E1.stp.p a (.inr ⟨rfl, h⟩))
            · rcases A2.stp.p a (.inr ⟨rfl, h⟩) with z | z
              · exact .inr (E1.st.p a z)
              · exact .inr (.inr (E1.stp.back z))
        · have z : (x.cf && y.cf) = true := z
          rw [Bool.and_eq_true] at z
          exact (E1.cf z.1).trans (A2.cf z.2) A2.stp.f1
theorem snd_kds : ∀ (es : List Expr) {es' : Es}, (∀ e ∈ es, notStar e = true) → (∀ e ∈ es, ∀ e', f e = some e' → ESound X C clA pv W e e') → trEs f es = some es' → PA X es (tAE clA pv W false es'.cf (kds C es'))
  | [], es', _, _, h => by
    cases h
    refine PA.imp pa_nil fun σ H Q ⟨F, env, φ, s, q⟩ => ?_
    exact q F H φ [] [] ⟨s, ⟨rfl, rfl⟩, fun z => (nomatch z), (Stp.refl ..).mono (fun _ h => h) fun _ h => .inl (h.elim id fun z => (nomatch z.2)), fun _ => Cons.refl ..⟩
  | e :: es, es', hst, hf, h => by
    simp only [trEs] at h
    cases h1 : f e with
    | none => rw [h1] at h; cases h
    | some x =>
      rw [h1] at h
      cases h2 : trEs f es with
      | none => rw [Option.bind_some, h2] at h; cases h
      | some y =>
        rw [Option.bind_some, h2] at h
        cases h
        have s1 := hf e (by simp) x h1
        have s2 := snd_kds es (fun e he => hst e (by simp [he])) (fun e he => hf e (by simp [he])) h2
        refine PA.imp (pa_cons s1.kd s2 (starEach_cons (hst e (by simp)))) fun σ H Q ⟨F, env, φ, s, q⟩ => ?_
        refine tE.sub s q fun d env1 F1 H1 φ1 v fd e1 E1 q1 => ?_
        split at q1
        · rename_i hc
          refine tAE.sub2 E1.sr E1.st q1 fun ds env2 F2 H2 φ2 vs fd2 e2 A2 o => ?_
          have r1 : Rep F2 H2 d v fd := by
            rcases or_of hc with z | z
            · have z0 := Rep.shr d v fd z E1.rep
              have r := E1.rep
              rw [z0] at r ⊢
              exact r.over E1.sr A2.stp (by simp)
            · exact E1.rep.same (A2.cf z).1 A2.stp.f1
          refine o F2 H2 φ2 (v :: vs) (fd ++ fd2) ⟨A2.sr, ⟨v, vs, fd, fd2, rfl, rfl, r1, A2.rep⟩, fun z => (nomatch z), ?_, fun z => ?_⟩
          · exact (E1.st.trans A2.st).mono (fun _ h => h) fun a h => .inl (h.elim id fun z => (nomatch z.1))
          · have z : (x.cf && y.cf) = true := z
            rw [Bool.and_eq_true] at z
            exact (E1.cf z.1).trans (A2.cf z.2) A2.stp.f1
        · exact q1.elim
theorem kds_shrKs : ∀ {es' : Es} {env env1 : EnvD} {ds : List D}, kds C es' env = .ok ds env1 → shrKs ds = true
  | .nil, env, env1, ds, h => by cases h; rfl
  | .cons e es, env, env1, ds, h => by
    simp only [kds] at h
    cases h1 : ev C .kd e env with
    | ok d env2 =>
      rw [h1] at h
      simp only [Res.bind] at h
      split at h
      · cases h2 : kds C es env2 with
        | ok ds2 env3 =>
          rw [h2] at h
          cases h
          have := kds_shrKs h2
          simp only [shrKs, List.all_cons, Bool.and_eq_true] at this ⊢
          exact ⟨kd_shrK h1, this⟩
        | exc _ _ _ => rw [h2] at h; cases h
        | no => rw [h2] at h; cases h
      · cases h
    | exc _ _ _ => rw [h1] at h; cases h
    | no => rw [h1] at h; cases h
theorem snd_tup {es : List Expr} {es' : Es} {k : Nat} (h : PA X es (tAE clA pv W true es'.cf (evs C es'))) : ESound X C clA pv W (.Tuple es k pos) (.tup es') := by
  refine ESound.temp (f := fun env => (evs C es' env).bind fun ds env => if ds.length ≤ sizeLine then .ok (.tup ds) env else .no) (fun m env => by simp only [ev]) rfl (fun _ => rfl) ?_
  refine tE.imp (pe_tup h) fun σ H Q F env φ s q => ?_
  refine tAE.sub2 s (Stp.refl ..) q fun ds env1 F1 H1 φ1 vs fd e1 A o => ?_
  split at o
  · rename_i hl
    refine ⟨by rw [A.rep.length]; exact hl, fun p hp => ?_⟩
    obtain ⟨n1, n2⟩ := A.nd rfl
    have hk := upd_keeps (o := .tup vs) hp
    refine o F1 (upd H1 p (.tup vs)) φ1 (.ref p) fd ⟨A.sr.new hp, ⟨p, vs, rfl, upd_same, Reps.same hk (fun _ h => h) A.rep⟩, fun _ => ⟨n1, n2⟩, ?_, fun z => ⟨fun a o e => hk a o ((A.cf z).1 a o e), (A.cf z).2⟩, fun _ z => (nomatch z)⟩
    refine A.stp.trans ((Stp.grow hk).mono (fun _ h => h) fun a h => .inl ?_)
    exact h.imp id fun z => ⟨rfl, z.2⟩
  · exact o.elim
theorem snd_lst {es : List Expr} {es' : Es} (h : PA X es (tAE clA pv W true es'.cf (evs C es'))) : ESound X C clA pv W (.List es pos) (.lst es') := by
  refine ESound.temp (f := fun env => (evs C es' env).bind fun ds env => if ds.length ≤ sizeLine then .ok (.lst false ds) env else .no) (fun m env => by simp only [ev]) rfl (fun _ => rfl) ?_
  refine tE.imp (pe_lst h) fun σ H Q F env φ s q => ?_
  refine tAE.sub2 s (Stp.refl ..) q fun ds env1 F1 H1 φ1 vs fd e1 A o => ?_
  split at o
  · rename_i hl
    refine ⟨by rw [A.rep.length]; exact hl, fun p hp => ?_⟩
    obtain ⟨n1, n2⟩ := A.nd rfl
    have hk := upd_keeps (o := .lst vs) hp
    have np : ∀ a ∈ fd, a ≠ p := fun a ha z => A.rep.there a ha (by rw [z]; exact hp)
    refine o F1 (upd H1 p (.lst vs)) φ1 (.ref p) (p :: fd) ⟨A.sr.new hp, ⟨p, vs, fd, rfl, upd_same, Reps.same hk (fun _ h => h) A.rep, rfl⟩, fun _ => ⟨List.nodup_cons.mpr ⟨fun z => np p z rfl, n1⟩, fun a ha => ?_⟩, ?_, fun z => ⟨fun a o e => hk a o ((A.cf z).1 a o e), (A.cf z).2⟩, fun _ z => (nomatch z)⟩
    · rcases List.mem_cons.mp ha with rfl | ha
      · exact ⟨fun z => A.sr.fh _ z hp, A.sr.newO hp⟩
      · exact n2 a ha
    · refine A.stp.trans ((Stp.new (o := .lst vs) hp).mono (fun _ h => h) fun a h => ?_)
      rcases h with h | ⟨_, h⟩
      · exact .inl (.inl (.inl h))
      · rcases List.mem_cons.mp h with h | h
        · exact .inl (.inr h)
        · exact .inl (.inl (.inr ⟨rfl, h⟩))
  · exact o.elim
/-! ## slices -/
def tO (clA : Str → Addr) (pv : Pv) (W : WX) (cf : Bool) (f : EnvD → Res (Option Int)) : TO := fun σ H Q => ∃ F env φ, Sta F σ H env φ pv ∧ Post (XOut clA pv W σ F H φ) (fun o env' => ∀ F' H' φ', Sta F' σ H' env' φ' pv → Stp F H (Own φ) F' H' (Own φ') → (cf = true → Cons H φ F' H' φ') → Q o H') (f env)
theorem PO.imp {eo : Option Expr} {t t' : TO} (h : PO X eo t) (w : ∀ σ H Q, t' σ H Q → t σ H Q) : PO X eo t' := ⟨fun pins s σ H Q I q => h.run pins s σ H Q I (w σ H Q q)⟩
theorem snd_none : PO X none (tO clA pv W true fun env => .ok none env) := PO.imp po_none fun σ H Q ⟨F, env, φ, s, q⟩ => q F H φ s (Stp.refl ..) fun _ => Cons.refl ..
theorem snd_some (h : ESound X C clA pv W e e') : PO X (some e) (tO clA pv W e'.cf fun env => vInt (ev C .esc e' env)) := by
  refine PO.imp (po_some h.esc) fun σ H Q ⟨F, env, φ, s, q⟩ => ?_
  refine tE.sub s q fun d env1 F1 H1 φ1 v fd e1 E1 o => ?_
  cases d with
  | int i => exact ⟨i, E1.rep.1, o F1 H1 φ1 E1.sr E1.st E1.cf⟩
  | _ => exact o.elim
end
end VS

end

section
set_option linter.all false
set_option maxRecDepth 100000
set_option maxHeartbeats 1000000
namespace VS
open PySem L2
section
variable {X : Cx} {C : CtxD} {clA : Str → Addr} {pv : Pv} {W : WX} {e a b c : Expr} {e' a' b' c' : E} {pos : Pos} {f : Expr → Option E}
/-- a part of a slice -/
def slPart (C : CtxD) (x : D) : Option E → EnvD → Res (Option Int)
  | none, env => .ok none env
  | some e, env => if x.shr || e.cf then vInt (ev C .esc e env) else .no
def cfO : Option E → Bool
  | none => true
  | some e => e.cf
inductive OSnd (X : Cx) (C : CtxD) (clA : Str → Addr) (pv : Pv) (W : WX) : Option Expr → Option E → Prop
  | none : OSnd X C clA pv W none none
  | some {e : Expr} {e' : E} : ESound X C clA pv W e e' → OSnd X C clA pv W (some e) (some e')
def slRaw (C : CtxD) : Option E → EnvD → Res (Option Int)
  | none, env => .ok none env
  | some e, env => vInt (ev C .esc e env)
theorem OSnd.po {eo : Option Expr} {e' : Option E} (h : OSnd X C clA pv W eo e') : PO X eo (tO clA pv W (cfO e') (slRaw C e')) := by
  cases h with
  | none => exact snd_none
  | some h => exact snd_some h
theorem tO.sub2 {α : Type} {σ : L2.St} {cf : Bool} {F F1 : Addr → Prop} {H H1 : Hp} {φ φ1 : Nat → List Addr} {env1 : EnvD} {f : EnvD → Res (Option Int)} {k : Option Int → EnvD → Res α} {O : α → EnvD → Prop} {R : Option Int → Hp → Prop} (s : Sta F1 σ H1 env1 φ1 pv) (st : Stp F H (Own φ) F1 H1 (Own φ1)) (h : Post (XOut clA pv W σ F H φ) O ((f env1).bind k))
    (hk : ∀ o env2 F2 H2 φ2, f env1 = .ok o env2 → Sta F2 σ H2 env2 φ2 pv → Stp F1 H1 (Own φ1) F2 H2 (Own φ2) → (cf = true → Cons H1 φ1 F2 H2 φ2) → Post (XOut clA pv W σ F H φ) O (k o env2) → R o H2) : tO clA pv W cf f σ H1 R :=
  ⟨F1, env1, φ1, s, (Post.bind.mp h).mono (fun _ _ _ x => x.after st) fun o env2 e q F2 H2 φ2 s2 st2 cn2 => hk o env2 F2 H2 φ2 e s2 st2 cn2 q⟩
theorem slPart_eq {x : D} {lo : Option E} {env : EnvD} {α : Type} {k : Option Int → EnvD → Res α} {Xx : Str → List (Str × D) → EnvD → Prop} {O : α → EnvD → Prop} (h : Post Xx O ((slPart C x lo env).bind k)) : (x.shr = true ∨ cfO lo = true) ∧ Post Xx O ((slRaw C lo env).bind k) := by
  cases lo with
  | none => exact ⟨.inr rfl, h⟩
  | some e =>
    simp only [slPart] at h
    split at h
    · rename_i hc
      exact ⟨or_of hc, h⟩
    · exact h.elim
theorem keepR {σ : L2.St} {cf : Bool} {F1 F2 : Addr → Prop} {H1 H2 : Hp} {φ1 φ2 : Nat → List Addr} {env1 : EnvD} {d : D} {v : V} {fd : List Addr} (s : Sta F1 σ H1 env1 φ1 pv) (r : Rep F1 H1 d v fd) (st : Stp F1 H1 (Own φ1) F2 H2 (Own φ2)) (cn : cf = true → Cons H1 φ1 F2 H2 φ2) (h : d.shr = true ∨ cf = true) : Rep F2 H2 d v fd := by
  rcases h with h | h
  · have z := Rep.shr d v fd h r
    rw [z] at r ⊢
    exact r.over s st (by simp)
  · exact r.same (cn h).1 st.f1
theorem snd_slice {lo hi : Option Expr} {lo' hi' : Option E} {p2 : Pos} (ha : ESound X C clA pv W a a') (hl : OSnd X C clA pv W lo lo') (hh : OSnd X C clA pv W hi hi')
    (he : ∀ whole, isTrue (.Subscript a (.Slice lo hi none p2) pos) X.env whole = (do let v ← whole; standAt (Expr.Subscript a (.Slice lo hi none p2) pos).pos; holding [v] (truthy v)) := by intro _; rfl) : ESound X C clA pv W (.Subscript a (.Slice lo hi none p2) pos) (.slice a' lo' hi') := by
  have hcf : (E.slice a' lo' hi').cf = true → a'.cf = true ∧ cfO lo' = true ∧ cfO hi' = true := fun z => by
    have z : (a'.cf && cfO lo' && cfO hi') = true := by
      cases lo' <;> cases hi' <;> exact z
    simp only [Bool.and_eq_true] at z
    exact ⟨z.1.1, z.1.2, z.2⟩
  refine ESound.temp (f := fun env => (ev C .kd a' env).bind fun x env => (slPart C x lo' env).bind fun l env => (slPart C x hi' env).bind fun h env => Res.of (sliceD x l h) env) (fun m env => by cases lo' <;> cases hi' <;> simp only [ev, slPart]) rfl he ?_
  refine tE.imp (pe_slice sl_slice ha.kd hl.po hh.po) fun σ H Q F env φ s q => ?_
  refine tE.sub s q fun x env1 F1 H1 φ1 v fd e1 E1 q1 => ?_
  obtain ⟨k1, q1⟩ := slPart_eq q1
  refine tO.sub2 E1.sr E1.st q1 fun l env2 F2 H2 φ2 e2 s2 st2 cn2 q2 => ?_
  obtain ⟨k2, q2⟩ := slPart_eq q2
  have R2 := keepR E1.sr E1.rep st2 cn2 k1
  refine tO.sub2 s2 (E1.st.trans st2) q2 fun h env3 F3 H3 φ3 e3 s3 st3 cn3 q3 => ?_
  have R3 := keepR s2 R2 st3 cn3 k2
  obtain ⟨r, er, o⟩ := Post.of q3
  refine ⟨F3, x, fd, R3, kd_shrK e1, r, er, fun w H' fr k rr nd hn => ?_⟩
  refine o F3 H' φ3 w fr (.fresh s3 ((E1.st.trans st2).trans st3) (fun z => ?_) k rr nd hn)
  obtain ⟨z1, z2, z3⟩ := hcf z
  exact ((E1.cf z1).trans (cn2 z2) st2.f1).trans (cn3 z3) st3.f1
/-! ## built-ins -/
theorem trPrim_spec {x : Str} {n : Nat} {p : Pr} (h : trPrim x n = some p) : bootBuiltins x = some (valOf p) ∧ x ≠ "__name__" ∧ (x == ("__debug__" : Str)) = false ∧ (∀ ts, p ≠ .isT ts) ∧ n ≠ 0 ∧ (["len", "int", "min", "max", "sum", "abs", "tuple", "list"] : List Str).contains x = true := by
  unfold trPrim at h
  repeat' split at h
  all_goals first
    | cases h; done
    | (cases h; subst_vars; exact ⟨by decide +kernel, by decide +kernel, by decide +kernel, fun _ z => (nomatch z), by omega, by decide +kernel⟩)
theorem snd_prim {x : Str} {p : Pr} {es : List Expr} {es' : Es} {p0 : Pos} (hp : trPrim x es.length = some p) (hc : X.calm = true) (hg : Gl X x) (hm : X.mg x = none) (hst : ∀ e ∈ es, notStar e = true)
    (h : PA X es (tAE clA pv W false es'.cf (kds C es'))) : ESound X C clA pv W (.Call (.Name x p0) es [] pos) (.prim p es') := by
  obtain ⟨hb, hn, hd, hT, h0, _⟩ := trPrim_spec hp
  cases es with
  | nil => exact absurd rfl h0
  | cons e es =>
    refine ESound.temp (f := fun env => (kds C es' env).bind fun ds env => Res.of (prim p ds) env) (fun m env => by simp only [ev]) rfl (fun _ => rfl) ?_
    have key : PE X (.Call (.Name x p0) (e :: es) [] pos) (tCB (rPrim p) (tAE clA pv W false es'.cf (kds C es'))) := by
      have h1 := starEach_cons (es := es) (env := X.env) (hst e (by simp))
      have h2 : (PySem.backTo pos (starEach es X.env)).any (·.1) = false := starEach_any fun e he => hst e (by simp [he])
      have cp := call_prim hc p hT
      unfold valOf at hb cp
      split at hb
      · rename_i ht
        rw [if_pos ht] at cp
        exact pe_callTy cp hg hm hb h hn hd h1 h2
      · rename_i ht
        rw [if_neg ht] at cp
        exact pe_callB cp hg hm hb h hn hd h1 h2
    refine tE.imp key fun σ H Q F env φ s q => ?_
    refine tAE.sub2 s (Stp.refl ..) q fun ds env1 F1 H1 φ1 vs fd e1 A q1 => ?_
    obtain ⟨r, er, o⟩ := Post.of q1
    exact ⟨F1, ds, fd, A.rep, kds_shrKs e1, r, er, fun w H' fr k rr nd hn => o F1 H' φ1 w fr (.fresh A.sr A.st (fun z => A.cf z) k rr nd hn)⟩
theorem trMt_spec {m : Str} {k : Nat} {p : Mt} (h : trMt m k = some p) : Slot (tyMt p) m (idMt p) ∧ PlainAttrs (tyMt p) ∧ typeOf (.builtin (idMt p)) = pure (.type "method_descriptor") ∧ k = 1 := by
  have ty : ∀ p : Mt, typeOf (.builtin (idMt p)) = pure (.type "method_descriptor") := fun p => by
    cases p <;> (show builtinType _ = _; rw [builtinType_eq_fast]; kernel_rfl)
  refine ⟨?_, ?_, ty p, ?_⟩
  all_goals (unfold trMt at h; repeat' split at h)
  all_goals first
    | cases h; done
    | (cases h; subst_vars; first | exact PySem.F.slot_list_index | exact PySem.F.slot_str_count | exact PySem.F.slot_str_find | exact PySem.F.slot_str_join | exact PySem.F.plainAttrs_list | exact PySem.F.plainAttrs_str | rfl | assumption)
theorem base_null {o : Expr} {m : Str} {env : Env} (h : notNull o = true) : attributeBase o m env (eval o env) = eval o env := by
  unfold attributeBase
  cases o with
  | Call f args kw pos =>
    cases args with
    | nil => cases h
    | cons e es => cases f <;> rfl
  | _ => rfl
theorem snd_meth {o e : Expr} {m : Str} {apos cpos : Pos} {o' : E} {es' : Es} {p : Mt} (hp : trMt m 1 = some p) (hu : X.A.units + 72 < cLine) (hn : notNull o = true) (hl : (apos.endLine == cpos.line) = true) (hst : notStar e = true)
    (ho : ESound X C clA pv W o o') (h : PA X [e] (tAE clA pv W false es'.cf (kds C es'))) : ESound X C clA pv W (.Call (.Attribute o m apos) [e] [] cpos) (.meth p o' es') := by
  obtain ⟨sl, pa, ty, _⟩ := trMt_spec hp
  refine ESound.temp (f := fun env => (lft C .kd es'.cf o' env).bind fun x env => if mtOk p x then (kds C es' env).bind fun ds env => Res.of (methD p x ds) env else .no) (fun m env => by simp only [ev]; rfl) rfl (fun _ => rfl) ?_
  have h1 := starEach_cons (es := []) (env := X.env) hst
  refine tE.imp (pe_bm pa sl ty (call_meth hu p) (snd_lft ho (m := .kd) (by decide) (by decide) es'.cf) h (base_null hn) (by rw [h1]; rfl) hl h1 rfl) fun σ H Q F env φ s q => ?_
  refine tE.sub s q fun x env1 F1 H1 φ1 v fd e1 E1 q1 => ?_
  split at q1
  · rename_i hc
    refine ⟨?_, ?_⟩
    · have r := E1.rep
      cases p <;> cases x <;> first
        | exact absurd (show false = true from hc) Bool.false_ne_true
        | (obtain ⟨a, vs, fq, rfl, h2, _⟩ := Rep.seqL (K := X.K) r
           exact .inl ⟨rfl, vs, h2⟩)
        | (rw [r.1]; rfl)
    · refine tAE.sub2 E1.sr E1.st q1 fun ds env2 F2 H2 φ2 vs fd2 e2 A2 q2 => ?_
      obtain ⟨r, er, o⟩ := Post.of q2
      have r1 : Rep F2 H2 x v fd := by
        rcases lft_shr e1 with z | z
        · have z0 := Rep.shr x v fd z E1.rep
          have r := E1.rep
          rw [z0] at r ⊢
          exact r.over E1.sr A2.stp (by simp)
        · exact E1.rep.same (A2.cf z).1 A2.stp.f1
      refine ⟨F2, x, ds, fd, fd2, r1, A2.rep, r, er, fun w H' fr k rr nd hn => ?_⟩
      refine o F2 H' φ2 w fr (.fresh A2.sr (E1.st.trans A2.st) (fun z => ?_) k rr nd hn)
      have z : (o'.cf && es'.cf) = true := z
      rw [Bool.and_eq_true] at z
      exact (E1.cf z.1).trans (A2.cf z.2) A2.stp.f1
  · exact q1.elim
theorem trTy_spec {sc : Scope} {x : Str} {t : String} (h : trTy sc x = some t) : isGl sc x = true ∧ bootBuiltins x = some (.type t) ∧ x ≠ "__name__" ∧ (x == ("__debug__" : Str)) = false ∧ (["int", "bool", "str", "list", "tuple"] : List Str).contains x = true := by
  unfold trTy at h
  split at h
  · rename_i hg
    refine ⟨hg, ?_⟩
    repeat' split at h
    all_goals first
      | cases h; done
      | (cases h; subst_vars; exact ⟨by decide +kernel, by decide +kernel, by decide +kernel, by decide +kernel⟩)
  · cases h
theorem gl_of {x : Str} (h : isGl X.env.scope x = true) : Gl X x := by
  unfold isGl at h
  unfold Gl Env.kindOf
  split at h
  · assumption
  · cases h
theorem pe_ty {x : Str} {t : String} {p : Pos} (h : trTy X.env.scope x = some t) (hm : X.mg x = none) : PE X (.Name x p) (tC (.ty t)) := by
  obtain ⟨h1, h2, h3, h4, _⟩ := trTy_spec h
  exact pe_bltn (u := .type t) (v := .ty t) (gl_of h1) hm h2 rfl h3 h4
theorem isT_kds {a' : E} {env : EnvD} {p : Pr} {α : Type} {Xx : Str → List (Str × D) → EnvD → Prop} {O : D → EnvD → Prop} (h : Post Xx O ((kds C (.cons a' .nil) env).bind fun ds env => Res.of (prim p ds) env)) : Post Xx O ((ev C .kd a' env).bind fun d env => Res.of (prim p [d]) env) := by
  simp only [kds] at h
  cases e : ev C .kd a' env with
  | ok d env1 =>
    rw [e] at h
    simp only [Res.bind, Es.cf, Bool.or_true, if_true] at h
    exact h
  | exc _ _ _ => rw [e] at h; exact h
  | no => rw [e] at h; exact h.elim
theorem snd_isT {t : String} {x : Str} {p0 p1 : Pos} (hg : Gl X "isinstance") (hm : X.mg "isinstance" = none) (ht : trTy X.env.scope x = some t) (hmt : X.mg x = none) (hst : notStar a = true) (ha : ESound X C clA pv W a a') :
    ESound X C clA pv W (.Call (.Name "isinstance" p0) [a, .Name x p1] [] pos) (.prim (.isT [t]) (.cons a' .nil)) := by
  refine ESound.temp (f := fun env => (kds C (.cons a' .nil) env).bind fun ds env => Res.of (prim (.isT [t]) ds) env) (fun m env => by simp only [ev]) rfl (fun _ => rfl) ?_
  have h1 := starEach_cons (es := [Expr.Name x p1]) (env := X.env) hst
  have h2 : (PySem.backTo pos (starEach [Expr.Name x p1] X.env)).any (·.1) = false := starEach_any fun e he => by simp at he; subst he; rfl
  refine tE.imp (pe_callB call_isi hg hm (by decide +kernel) (pa_cons ha.kd (pa_cons (pe_ty ht hmt) pa_nil) h1) (by decide) (by decide) h1 h2) fun σ H Q F env φ s q => ?_
  refine tE.sub s (isT_kds (α := D) q) fun d env1 F1 H1 φ1 v fd e1 E1 q1 => ?_
  obtain ⟨r, er, o⟩ := Post.of q1
  simp only [prim] at er
  cases hi : isTys d [t] with
  | none => rw [hi] at er; cases er
  | some k =>
    rw [hi] at er
    cases er
    obtain ⟨ty, h3, h4⟩ := E1.rep.tyx (K := X.K)
    have hk : PySem.W.kitOne X.K (.type ty) (.type t) = some k := by
      simp only [isTys] at hi
      cases hq : isTy d t with
      | none => rw [hq] at hi; cases hi
      | some r =>
        rw [hq] at hi
        have := h4 t (isTy_five hq)
        rw [hq] at this
        cases r <;> cases hi <;> exact kit_ty this.symm
    exact ⟨v, .ty t, .type ty, .type t, k, rfl, .ty t, h3, hk, o F1 H1 φ1 _ [] (.flat E1.sr E1.st (fun z => E1.cf (by simpa [E.cf, Es.cf] using z)) ⟨rfl, rfl⟩)⟩
theorem trTys_pa : ∀ {es : List Expr} {ts : List String}, trTys X.env.scope es = some ts → (∀ x p, Expr.Name x p ∈ es → X.mg x = none) → PA X es (fun _ H Q => Q (ts.map V.ty) H)
  | [], ts, h, _ => by cases h; exact PA.imp pa_nil fun σ H Q q => q
  | e :: es, ts, h, hm => by
    cases e with
    | Name x p =>
      simp only [trTys] at h
      cases h1 : trTy X.env.scope x with
      | none => rw [h1] at h; cases h
      | some t =>
        rw [h1] at h
        cases h2 : trTys X.env.scope es with
        | none => rw [Option.bind_some, h2] at h; cases h
        | some r =>
          rw [Option.bind_some, h2] at h
          cases h
          exact PA.imp (pa_cons (pe_ty h1 (hm x p (by simp))) (trTys_pa h2 fun y q z => hm y q (by simp [z]))) fun σ H Q q => q
    | _ => cases h
theorem trTy_five {sc : Scope} {x : Str} {t : String} (h : trTy sc x = some t) : t ∈ (["int", "bool", "str", "list", "tuple"] : List String) := by
  unfold trTy at h
  repeat' split at h
  all_goals first
    | cases h; done
    | (cases h; simp)
theorem trTys_five {sc : Scope} : ∀ {es : List Expr} {ts : List String}, trTys sc es = some ts → ∀ c ∈ ts, c ∈ (["int", "bool", "str", "list", "tuple"] : List String)
  | [], ts, h, c, hc => by cases h; cases hc
  | e :: es, ts, h, c, hc => by
    cases e with
    | Name x p =>
      simp only [trTys] at h
      cases h1 : trTy sc x with
      | none => rw [h1] at h; cases h
      | some t =>
        rw [h1] at h
        cases h2 : trTys sc es with
        | none => rw [Option.bind_some, h2] at h; cases h
        | some r =>
          rw [Option.bind_some, h2] at h
          cases h
          rcases List.mem_cons.mp hc with rfl | hc
          · exact trTy_five h1
          · exact trTys_five h2 c hc
    | _ => cases h
theorem paired_ty : ∀ (ts : List String), Paired ClsV (ts.map V.ty) (ts.map Value.type)
  | [] => .nil
  | t :: ts => .cons (.ty t) (paired_ty ts)
theorem snd_isTs {ts : List String} {es : List Expr} {k0 : Nat} {p0 p1 : Pos} (hl : ts.length ≤ 5) (hg : Gl X "isinstance") (hm : X.mg "isinstance" = none) (ht : trTys X.env.scope es = some ts) (hmt : ∀ x p, Expr.Name x p ∈ es → X.mg x = none) (hst : notStar a = true) (ha : ESound X C clA pv W a a') :
    ESound X C clA pv W (.Call (.Name "isinstance" p0) [a, .Tuple es k0 p1] [] pos) (.prim (.isT ts) (.cons a' .nil)) := by
  refine ESound.temp (f := fun env => (kds C (.cons a' .nil) env).bind fun ds env => Res.of (prim (.isT ts) ds) env) (fun m env => by simp only [ev]) rfl (fun _ => rfl) ?_
  have h1 := starEach_cons (es := [Expr.Tuple es k0 p1]) (env := X.env) hst
  have h2 : (PySem.backTo pos (starEach [Expr.Tuple es k0 p1] X.env)).any (·.1) = false := starEach_any fun e he => by simp at he; subst he; rfl
  refine tE.imp (pe_callB call_isiT hg hm (by decide +kernel) (pa_cons ha.kd (pa_cons (pe_tup (trTys_pa ht hmt)) pa_nil) h1) (by decide) (by decide) h1 h2) fun σ H Q F env φ s q => ?_
  refine tE.sub s (isT_kds (α := D) q) fun d env1 F1 H1 φ1 v fd e1 E1 q1 => ?_
  obtain ⟨r, er, o⟩ := Post.of q1
  simp only [prim] at er
  cases hi : isTys d ts with
  | none => rw [hi] at er; cases er
  | some k =>
    rw [hi] at er
    cases er
    refine ⟨by rw [List.length_map, sizeLine_eq]; omega, fun p hp => ?_⟩
    have hk := upd_keeps (o := .tup (ts.map V.ty)) hp
    have R : Rep F1 (upd H1 p (.tup (ts.map V.ty))) d v fd := E1.rep.same hk fun _ h => h
    obtain ⟨ty, h3, h4⟩ := R.tyx (K := X.K)
    exact ⟨v, p, ts.map V.ty, .type ty, ts.map Value.type, k, rfl, upd_same, paired_ty ts, h3, kitAny_of ts (fun c hc => h4 c (trTys_five ht c hc)) hi, o F1 _ φ1 _ [] (.fresh E1.sr E1.st (fun z => E1.cf (by simpa [E.cf, Es.cf] using z)) hk ⟨rfl, rfl⟩ List.nodup_nil (by simp))⟩
end
end VS

end

section
set_option linter.all false
set_option maxRecDepth 100000
set_option maxHeartbeats 1000000
namespace VS
open PySem L2
/-! ## arguments -/
def ArgsR (σ : L2.St) (F : Addr → Prop) (H : Hp) : List Bool → List Arg → List V → List (List Addr) → Prop
  | _, [], vs, gs => vs = [] ∧ gs = []
  | ms, .val d :: as, vs, gs => ∃ v ws g hs, vs = v :: ws ∧ gs = g :: hs ∧ Rep F H d v g ∧ ArgsR σ F H ms.tail as ws hs
  | ms, .slot i :: as, vs, gs => ∃ v ws hs, vs = v :: ws ∧ gs = [] :: hs ∧ ms.headD false = true ∧ σ[i]? = some (some v) ∧ ArgsR σ F H ms.tail as ws hs
section
variable {σ : L2.St} {F F' : Addr → Prop} {H H' : Hp}
theorem ArgsR.over {P' : Addr → Prop} {env : EnvD} {φ : Nat → List Addr} {pv : Pv} (s : Sta F σ H env φ pv) (st : Stp F H (Own φ) F' H' P') : ∀ {ms : List Bool} {as : List Arg} {vs : List V} {gs : List (List Addr)}, (∀ a ∈ gs.flatten, ¬ Own φ a) → ArgsR σ F H ms as vs gs → ArgsR σ F' H' ms as vs gs
  | _, [], vs, gs, _, h => h
  | ms, .val d :: as, vs, gs, hn, h => by
    obtain ⟨v, ws, g, hs, rfl, rfl, r, h⟩ := h
    exact ⟨v, ws, g, hs, rfl, rfl, r.over s st fun a ha => hn a (by simp [ha]), ArgsR.over s st (fun a ha => hn a (by simp only [List.flatten_cons, List.mem_append]; exact .inr ha)) h⟩
  | ms, .slot i :: as, vs, gs, hn, h => by
    obtain ⟨v, ws, hs, rfl, rfl, m, e, h⟩ := h
    exact ⟨v, ws, hs, rfl, rfl, m, e, ArgsR.over s st (fun a ha => hn a (by simp only [List.flatten_cons, List.nil_append]; exact ha)) h⟩
theorem ArgsR.len : ∀ {ms : List Bool} {as : List Arg} {vs : List V} {gs : List (List Addr)}, ArgsR σ F H ms as vs gs → vs.length = as.length
  | _, [], vs, gs, h => by rw [h.1]; rfl
  | ms, .val d :: as, vs, gs, h => by
    obtain ⟨v, ws, g, hs, rfl, rfl, r, h⟩ := h
    simp [h.len]
  | ms, .slot i :: as, vs, gs, h => by
    obtain ⟨v, ws, hs, rfl, rfl, m, e, h⟩ := h
    simp [h.len]
/-- trees, values, footprints -/
inductive Al (F : Addr → Prop) (H : Hp) : List D → List V → List (List Addr) → Prop
  | nil : Al F H [] [] []
  | cons {d : D} {v : V} {l : List Addr} {ds : List D} {vs : List V} {ls : List (List Addr)} : Rep F H d v l → Al F H ds vs ls → Al F H (d :: ds) (v :: vs) (l :: ls)
def nthL (ls : List (List Addr)) (k : Nat) : List Addr := (ls[k]?).getD []
theorem mem_nthL {ls : List (List Addr)} {k : Nat} {a : Addr} (h : a ∈ nthL ls k) : a ∈ ls.flatten := by
  unfold nthL at h
  cases e : ls[k]? with
  | none => rw [e] at h; cases h
  | some l => rw [e] at h; exact List.mem_flatten.mpr ⟨l, List.mem_of_getElem? e, h⟩
theorem Own_nthL {ls : List (List Addr)} {a : Addr} : Own (nthL ls) a → a ∈ ls.flatten := fun ⟨_, h⟩ => mem_nthL h
theorem nthL_dj : ∀ {ls : List (List Addr)}, ls.flatten.Nodup → (∀ k, (nthL ls k).Nodup) ∧ ∀ i j a, i ≠ j → a ∈ nthL ls i → a ∉ nthL ls j
  | [], _ => ⟨fun k => by simp [nthL], fun i j a _ h => by simp [nthL] at h⟩
  | l :: ls, h => by
    rw [List.flatten_cons] at h
    obtain ⟨h1, h2, h3⟩ := List.nodup_append.mp h
    obtain ⟨i1, i2⟩ := nthL_dj h2
    refine ⟨fun k => ?_, fun i j a hij ha hb => ?_⟩
    · cases k with
      | zero => exact h1
      | succ k => exact i1 k
    · cases i with
      | zero => cases j with
        | zero => exact hij rfl
        | succ j => exact h3 a ha a (mem_nthL (ls := ls) (k := j) hb) rfl
      | succ i => cases j with
        | zero => exact h3 a hb a (mem_nthL (ls := ls) (k := i) ha) rfl
        | succ j => exact i2 i j a (fun z => hij (by rw [z])) ha hb
theorem Al.lens : ∀ {ds : List D} {vs : List V} {ls : List (List Addr)}, Al F H ds vs ls → vs.length = ds.length ∧ ls.length = ds.length
  | _, _, _, .nil => ⟨rfl, rfl⟩
  | _, _, _, .cons _ h => by simp [h.lens.1, h.lens.2]
theorem Al.get : ∀ {ds : List D} {vs : List V} {ls : List (List Addr)} {i : Nat} {d : D}, Al F H ds vs ls → ds[i]? = some d → ∃ v, vs[i]? = some v ∧ Rep F H d v (nthL ls i)
  | _, _, _, i, d, .nil, e => by simp at e
  | _, _, _, 0, d, .cons r _, e => by cases e; exact ⟨_, rfl, r⟩
  | _, _, _, i + 1, d, .cons _ h, e => h.get (i := i) e
theorem Al.sta {ds : List D} {vs : List V} {ls : List (List Addr)} (h : Al F H ds vs ls) (nd : ls.flatten.Nodup) (nf : ∀ a ∈ ls.flatten, ¬ F a) (fh : ∀ a, F a → H a ≠ none) : Sta F (vs.map some) H (ds.map some) (nthL ls) Pv.e where
  len := by simp [h.lens.1]
  rep := fun i d e => by
    rw [List.getElem?_map] at e
    cases q : ds[i]? with
    | none => rw [q] at e; cases e
    | some d' =>
      rw [q] at e
      cases e
      obtain ⟨v, e1, r⟩ := h.get q
      exact ⟨v, by rw [List.getElem?_map, e1]; rfl, r⟩
  emp := fun i hi => by
    cases q : ds[i]? with
    | none =>
      have : ls[i]? = none := by
        rw [List.getElem?_eq_none_iff] at q ⊢
        rw [h.lens.2]; exact q
      unfold nthL
      rw [this]; rfl
    | some d => exact absurd (by rw [List.getElem?_map, q]; rfl) (hi d)
  nd := (nthL_dj nd).1
  dj := (nthL_dj nd).2
  nf := fun i a ha => nf a (mem_nthL ha)
  fh := fh
  pv := fun _ h => (Pv.mem_e h).elim
  hx := fun _ h => nomatch h
/-- the footprints of arguments -/
def psl (φ : Nat → List Addr) : List Arg → List (List Addr) → List (List Addr)
  | .val _ :: as, g :: gs => g :: psl φ as gs
  | .slot i :: as, _ :: gs => φ i :: psl φ as gs
  | _, _ => []
theorem ArgsR.al {env : EnvD} {φ : Nat → List Addr} {pv : Pv} (s : Sta F σ H env φ pv) : ∀ {ms : List Bool} {as : List Arg} {vs : List V} {gs : List (List Addr)} {ts : List D}, ArgsR σ F H ms as vs gs → treesOf env as = some ts → Al F H ts vs (psl φ as gs)
  | _, [], vs, gs, ts, h, e => by
    cases e
    obtain ⟨rfl, rfl⟩ := h
    exact .nil
  | ms, .val d :: as, vs, gs, ts, h, e => by
    obtain ⟨v, ws, g, hs, rfl, rfl, r, h⟩ := h
    simp only [treesOf] at e
    cases q : treesOf env as with
    | none => rw [q] at e; cases e
    | some rs => rw [q] at e; cases e; exact .cons r (h.al s q)
  | ms, .slot i :: as, vs, gs, ts, h, e => by
    obtain ⟨v, ws, hs, rfl, rfl, m, ev, h⟩ := h
    simp only [treesOf] at e
    split at e
    · rename_i d ed
      cases q : treesOf env as with
      | none => rw [q] at e; cases e
      | some rs =>
        rw [q] at e; cases e
        obtain ⟨v', e1, r⟩ := s.rep i d ed
        rw [ev] at e1
        cases e1
        exact .cons r (h.al s q)
    · cases e
theorem psl_mem {φ : Nat → List Addr} : ∀ {as : List Arg} {gs : List (List Addr)} {a : Addr}, a ∈ (psl φ as gs).flatten → a ∈ gs.flatten ∨ ∃ i ∈ slotsOf as, a ∈ φ i
  | [], _, a, h => by simp [psl] at h
  | .val _ :: as, [], a, h => by simp [psl] at h
  | .slot _ :: as, [], a, h => by simp [psl] at h
  | .val _ :: as, g :: gs, a, h => by
    simp only [psl, List.flatten_cons, List.mem_append] at h ⊢
    rcases h with h | h
    · exact .inl (.inl h)
    · exact (psl_mem h).imp .inr id
  | .slot i :: as, g :: gs, a, h => by
    simp only [psl, List.flatten_cons, List.mem_append] at h ⊢
    rcases h with h | h
    · exact .inr ⟨i, by simp [slotsOf], h⟩
    · rcases psl_mem h with h | ⟨j, hj, h⟩
      · exact .inl (.inr h)
      · exact .inr ⟨j, by simp [slotsOf, hj], h⟩
theorem psl_nodup {env : EnvD} {φ : Nat → List Addr} {pv : Pv} (s : Sta F σ H env φ pv) : ∀ {as : List Arg} {gs : List (List Addr)}, gs.flatten.Nodup → (∀ a ∈ gs.flatten, ¬ Own φ a) → (slotsOf as).Nodup → (psl φ as gs).flatten.Nodup
  | [], _, _, _, _ => by simp [psl]
  | .val _ :: as, [], _, _, _ => by simp [psl]
  | .slot _ :: as, [], _, _, _ => by simp [psl]
  | .val _ :: as, g :: gs, h1, h2, h3 => by
    simp only [psl, List.flatten_cons] at h1 ⊢
    obtain ⟨n1, n2, n3⟩ := List.nodup_append.mp h1
    refine List.nodup_append.mpr ⟨n1, psl_nodup s n2 (fun a ha => h2 a (by simp only [List.flatten_cons, List.mem_append]; exact .inr ha)) h3, fun a ha b hb z => ?_⟩
    subst z
    rcases psl_mem hb with hb | ⟨j, _, hb⟩
    · exact n3 a ha a hb rfl
    · exact h2 a (by simp only [List.flatten_cons, List.mem_append]; exact .inl ha) ⟨j, hb⟩
  | .slot i :: as, g :: gs, h1, h2, h3 => by
    simp only [psl, List.flatten_cons] at h1 ⊢
    obtain ⟨n1, n2, n3⟩ := List.nodup_append.mp h1
    have h3 : (i :: slotsOf as).Nodup := h3
    obtain ⟨h4, h5⟩ := List.nodup_cons.mp h3
    refine List.nodup_append.mpr ⟨s.nd i, psl_nodup s n2 (fun a ha => h2 a (by simp only [List.flatten_cons, List.mem_append]; exact .inr ha)) h5, fun a ha b hb z => ?_⟩
    subst z
    rcases psl_mem hb with hb | ⟨j, hj, hb⟩
    · exact h2 a (by simp only [List.flatten_cons, List.mem_append]; exact .inr hb) ⟨i, ha⟩
    · exact s.dj i j a (fun z => h4 (z ▸ hj)) ha hb
/-! ## behind a call -/
def slotIx : List Arg → Nat → Option Nat
  | [], _ => none
  | .val _ :: as, j => (slotIx as j).map (· + 1)
  | .slot i :: as, j => if i = j then some 0 else (slotIx as j).map (· + 1)
theorem slotIx_none : ∀ {as : List Arg} {j : Nat}, slotIx as j = none → j ∉ slotsOf as
  | [], _, _ => by simp [slotsOf]
  | .val _ :: as, j, h => by
    simp only [slotIx, Option.map_eq_none_iff] at h
    exact slotIx_none (as := as) h
  | .slot i :: as, j, h => by
    simp only [slotIx] at h
    split at h
    · cases h
    · rename_i hne
      simp only [Option.map_eq_none_iff] at h
      simp only [slotsOf, List.mem_cons, not_or]
      exact ⟨fun z => hne z.symm, slotIx_none h⟩
theorem slotIx_mem : ∀ {as : List Arg} {j : Nat}, j ∉ slotsOf as → slotIx as j = none
  | [], _, _ => rfl
  | .val _ :: as, j, h => by
    simp only [slotIx, Option.map_eq_none_iff]
    exact slotIx_mem (as := as) h
  | .slot i :: as, j, h => by
    simp only [slotsOf, List.mem_cons, not_or] at h
    simp only [slotIx]
    rw [if_neg (fun z => h.1 z.symm), slotIx_mem h.2]; rfl
theorem slotIx_some : ∀ {as : List Arg} {j k : Nat}, slotIx as j = some k → as[k]? = some (.slot j)
  | [], _, _, h => by cases h
  | .val _ :: as, j, k, h => by
    simp only [slotIx, Option.map_eq_some_iff] at h
    obtain ⟨k', h, rfl⟩ := h
    simpa using slotIx_some h
  | .slot i :: as, j, k, h => by
    simp only [slotIx] at h
    split at h
    · rename_i he
      cases h; subst he; rfl
    · simp only [Option.map_eq_some_iff] at h
      obtain ⟨k', h, rfl⟩ := h
      simpa using slotIx_some h
theorem backTo_len : ∀ {as : List Arg} {ps : List D} {env : EnvD}, (backTo as ps env).length = env.length
  | [], _, _ => by simp [backTo]
  | .val _ :: as, [], _ => by simp [backTo]
  | .slot _ :: as, [], _ => by simp [backTo]
  | .val _ :: as, d :: ps, env => by simp only [backTo]; exact backTo_len
  | .slot i :: as, d :: ps, env => by simp only [backTo]; rw [backTo_len, List.length_set]
theorem backTo_get : ∀ {as : List Arg} {ps : List D} {env : EnvD} {j : Nat}, (slotsOf as).Nodup → ps.length = as.length → (backTo as ps env)[j]? = match slotIx as j with | none => env[j]? | some k => if j < env.length then some (ps[k]?) else none
  | [], ps, env, j, _, _ => by simp [backTo, slotIx]
  | .val _ :: as, [], _, _, _, h => by simp at h
  | .slot _ :: as, [], _, _, _, h => by simp at h
  | .val _ :: as, d :: ps, env, j, h1, h2 => by
    simp only [backTo, slotIx]
    rw [backTo_get (as := as) h1 (by simpa using h2)]
    cases slotIx as j <;> simp
  | .slot i :: as, d :: ps, env, j, h1, h2 => by
    have h1 : (i :: slotsOf as).Nodup := h1
    obtain ⟨h3, h4⟩ := List.nodup_cons.mp h1
    simp only [backTo, slotIx]
    rw [backTo_get h4 (by simpa using h2)]
    by_cases hij : i = j
    · subst hij
      rw [if_pos rfl, slotIx_mem h3]
      simp only
      rw [List.getElem?_set]
      simp
    · rw [if_neg hij]
      cases slotIx as j with
      | none => simp only [Option.map_none]; exact List.getElem?_set_ne hij
      | some k => simp
def retE : List Bool → List D → EnvD
  | _, [] => []
  | m, d :: ds => (if m.headD false then some d else none) :: retE m.tail ds
theorem retE_len : ∀ {m : List Bool} {ds : List D}, (retE m ds).length = ds.length
  | _, [] => rfl
  | m, d :: ds => by simp [retE, retE_len]
theorem ArgsR.slot : ∀ {ms : List Bool} {as : List Arg} {vs : List V} {gs : List (List Addr)} {k j : Nat} {ps : List D}, ArgsR σ F H ms as vs gs → as[k]? = some (.slot j) → ∃ v, vs[k]? = some v ∧ σ[j]? = some (some v) ∧ (retE ms ps)[k]? = (ps[k]?).map some
  | _, [], vs, gs, k, j, ps, h, e => by simp at e
  | ms, .val d :: as, vs, gs, 0, j, ps, h, e => by simp at e
  | ms, .val d :: as, vs, gs, k + 1, j, ps, h, e => by
    obtain ⟨v, ws, g, hs, rfl, rfl, r, h⟩ := h
    cases ps with
    | nil =>
      obtain ⟨v, e1, e2, e3⟩ := h.slot (k := k) (j := j) (ps := []) (by simpa using e)
      exact ⟨v, by simpa using e1, e2, by simp [retE]⟩
    | cons p ps =>
      obtain ⟨v, e1, e2, e3⟩ := h.slot (k := k) (j := j) (ps := ps) (by simpa using e)
      exact ⟨v, by simpa using e1, e2, by simpa [retE] using e3⟩
  | ms, .slot i :: as, vs, gs, 0, j, ps, h, e => by
    obtain ⟨v, ws, hs, rfl, rfl, m, ev, h⟩ := h
    simp at e
    subst e
    refine ⟨v, rfl, ev, ?_⟩
    cases ps with
    | nil => simp [retE]
    | cons p ps => simp only [retE, m, if_true]; rfl
  | ms, .slot i :: as, vs, gs, k + 1, j, ps, h, e => by
    obtain ⟨v, ws, hs, rfl, rfl, m, ev, h⟩ := h
    cases ps with
    | nil =>
      obtain ⟨v, e1, e2, e3⟩ := h.slot (k := k) (j := j) (ps := []) (by simpa using e)
      exact ⟨v, by simpa using e1, e2, by simp [retE]⟩
    | cons p ps =>
      obtain ⟨v, e1, e2, e3⟩ := h.slot (k := k) (j := j) (ps := ps) (by simpa using e)
      exact ⟨v, by simpa using e1, e2, by simpa [retE] using e3⟩
def backφ (as : List Arg) (ψ φ : Nat → List Addr) : Nat → List Addr := fun j => match slotIx as j with
  | some k => ψ k
  | none => φ j
/-- the caller's state behind a call -/
theorem back_sta {env : EnvD} {φ ψ' : Nat → List Addr} {pv : Pv} {ms : List Bool} {as : List Arg} {vs : List V} {gs : List (List Addr)} {ts ps : List D} {fd : List Addr} (s : Sta F σ H env φ pv) (A : ArgsR σ F H ms as vs gs) (ap : ∀ a ∈ gs.flatten, ¬ Own φ a)
    (nd : (slotsOf as).Nodup) (hl : ps.length = as.length) (sψ : Sta F (vs.map some) H (ts.map some) (nthL (psl φ as gs)) Pv.e) (s' : Sta F' (vs.map some) H' (retE ms ps) ψ' Pv.e) (st : Stp F H (Own (nthL (psl φ as gs))) F' H' (fun a => Own ψ' a ∨ a ∈ fd)) (hfd : ∀ a ∈ fd, ¬ F' a ∧ ¬ Own ψ' a) :
    Sta F' σ H' (backTo as ps env) (backφ as ψ' φ) pv ∧ Stp F H (fun a => Own φ a ∨ a ∈ gs.flatten) F' H' (fun a => Own (backφ as ψ' φ) a ∨ a ∈ fd) ∧ ∀ a ∈ fd, ¬ F' a ∧ ¬ Own (backφ as ψ' φ) a := by
  have P1 : ∀ j a, slotIx as j = none → a ∈ φ j → ¬ Own (nthL (psl φ as gs)) a := fun j a hj ha h => by
    rcases psl_mem (Own_nthL h) with h | ⟨i, hi, h⟩
    · exact ap a h ⟨j, ha⟩
    · exact s.dj j i a (fun z => slotIx_none hj (z ▸ hi)) ha h
  have P2 : ∀ a, Own (nthL (psl φ as gs)) a → Own φ a ∨ a ∈ gs.flatten := fun a h => by
    rcases psl_mem (Own_nthL h) with h | ⟨i, _, h⟩
    · exact .inr h
    · exact .inl ⟨i, h⟩
  have P3 : ∀ j k, slotIx as j = some k → j < env.length := fun j k h => by
    obtain ⟨v, _, e, _⟩ := A.slot (ps := ps) (slotIx_some h)
    rw [← s.len]
    exact get_lt e
  have P4 : ∀ j k, slotIx as j = some k → ∃ d, ps[k]? = some d := fun j k h => by
    have := get_lt (slotIx_some h)
    exact ⟨ps[k]'(by omega), List.getElem?_eq_getElem (by omega)⟩
  have inj : ∀ i j k, slotIx as i = some k → slotIx as j = some k → i = j := fun i j k h1 h2 => by
    have := slotIx_some h1
    rw [slotIx_some h2] at this
    cases this; rfl
  have away : ∀ {j a}, slotIx as j = none → a ∈ φ j → (Own ψ' a ∨ a ∈ fd) → False := fun {j a} hj ha h => by
    rcases st.p a h with h | h
    · exact P1 j a hj ha h
    · exact s.ownH ⟨j, ha⟩ h
  have b1 : ∀ {j}, slotIx as j = none → backφ as ψ' φ j = φ j := fun {j} h => by unfold backφ; rw [h]
  have b2 : ∀ {j k}, slotIx as j = some k → backφ as ψ' φ j = ψ' k := fun {j k} h => by unfold backφ; rw [h]
  have toO : ∀ a, Own (backφ as ψ' φ) a → Own ψ' a ∨ Own φ a := fun a ⟨j, h⟩ => by
    cases q : slotIx as j with
    | none => rw [b1 q] at h; exact .inr ⟨j, h⟩
    | some k => rw [b2 q] at h; exact .inl ⟨k, h⟩
  refine ⟨⟨by rw [backTo_len]; exact s.len, fun j d e => ?_, fun j hj => ?_, fun j => ?_, fun i j a hij ha hb => ?_, fun j a ha f => ?_, s'.fh, s.pv, fun q hq => ⟨st.k _ _ (s.hx q hq).1 (sψ.notxd (s.hx q hq).1), (s.hx q hq).2.1, Reps.keep st.k (fun a f => sψ.nfO f) (fun a xs e => sψ.notup e) st.f1 _ _ [] (fun _ z => nomatch z) (s.hx q hq).2.2⟩⟩, ?_, fun a ha => ⟨(hfd a ha).1, fun ⟨j, h⟩ => ?_⟩⟩
  · rw [backTo_get nd hl] at e
    cases q : slotIx as j with
    | none =>
      rw [q] at e
      rw [b1 q]
      obtain ⟨v, e1, r⟩ := s.rep j d e
      exact ⟨v, e1, Rep.keep st.k (fun a f => sψ.nfO f) (fun a xs e => sψ.notup e) st.f1 d v (φ j) (fun a ha => P1 j a q ha) r⟩
    | some k =>
      rw [q] at e
      rw [b2 q]
      simp only [if_pos (P3 j k q), Option.some.injEq] at e
      obtain ⟨v, e1, e2, e3⟩ := A.slot (ps := ps) (slotIx_some q)
      rw [e] at e3
      obtain ⟨v', e4, r⟩ := s'.rep k d e3
      rw [List.getElem?_map, e1] at e4
      cases e4
      exact ⟨v, e2, r⟩
  · cases q : slotIx as j with
    | none =>
      rw [b1 q]
      exact s.emp j fun d e => hj d (by rw [backTo_get nd hl, q]; exact e)
    | some k =>
      obtain ⟨d, e⟩ := P4 j k q
      exact absurd (by rw [backTo_get nd hl, q]; simp only [if_pos (P3 j k q), e]) (hj d)
  · cases q : slotIx as j with
    | none => rw [b1 q]; exact s.nd j
    | some k => rw [b2 q]; exact s'.nd k
  · cases q : slotIx as i with
    | none =>
      rw [b1 q] at ha
      cases q2 : slotIx as j with
      | none => rw [b1 q2] at hb; exact s.dj i j a hij ha hb
      | some k => rw [b2 q2] at hb; exact away q ha (.inl ⟨k, hb⟩)
    | some k =>
      rw [b2 q] at ha
      cases q2 : slotIx as j with
      | none => rw [b1 q2] at hb; exact away q2 hb (.inl ⟨k, ha⟩)
      | some k2 => rw [b2 q2] at hb; exact s'.dj k k2 a (fun z => hij (inj i j k q (z ▸ q2))) ha hb
  · cases q : slotIx as j with
    | none =>
      rw [b1 q] at ha
      rcases st.f2 a f with h | h | h
      · exact s.nf j a ha h
      · exact P1 j a q ha h
      · exact s.ownH ⟨j, ha⟩ h
    | some k => rw [b2 q] at ha; exact s'.nf k a ha f
  · refine st.mono P2 fun a h => ?_
    rcases h with h | h
    · rcases toO a h with h | h
      · exact .inl (.inl h)
      · exact .inr (.inl (.inl h))
    · exact .inl (.inr h)
  · cases q : slotIx as j with
    | none => rw [b1 q] at h; exact away q h (.inr ha)
    | some k => rw [b2 q] at h; exact (hfd a ha).2 ⟨k, h⟩
end
/-! ## argument lists -/
section
variable (clA : Str → Addr) (pv : Pv) (W : WX)
structure GOk (σ : L2.St) (ms : List Bool) (F : Addr → Prop) (H : Hp) (φ : Nat → List Addr) (env' : EnvD) (as : List Arg) (F' : Addr → Prop) (H' : Hp) (φ' : Nat → List Addr) (vs : List V) (gs : List (List Addr)) : Prop where
  sr : Sta F' σ H' env' φ' pv
  rep : ArgsR σ F' H' ms as vs gs
  nd : gs.flatten.Nodup
  ap : ∀ a ∈ gs.flatten, ¬ F' a ∧ ¬ Own φ' a
  th : ∀ a ∈ gs.flatten, H' a ≠ none
  stp : Stp F H (Own φ) F' H' (fun a => Own φ' a ∨ a ∈ gs.flatten)
def tAG (ms : List Bool) (f : EnvD → Res (List Arg)) : TA := fun σ H Q => ∃ F env φ, Sta F σ H env φ pv ∧ Post (XOut clA pv W σ F H φ) (fun as env' => ∀ F' H' φ' vs gs, GOk pv σ ms F H φ env' as F' H' φ' vs gs → Q vs H') (f env)
end
section
variable {X : Cx} {C : CtxD} {clA : Str → Addr} {pv : Pv} {W : WX} {e a b c : Expr} {e' a' b' c' : E} {pos : Pos} {f : Expr → Option E}
theorem tAG.sub2 {α : Type} {σ : L2.St} {ms : List Bool} {F F1 : Addr → Prop} {H H1 : Hp} {φ φ1 : Nat → List Addr} {env1 : EnvD} {f : EnvD → Res (List Arg)} {k : List Arg → EnvD → Res α} {O : α → EnvD → Prop} {R : List V → Hp → Prop} (s : Sta F1 σ H1 env1 φ1 pv) (st : Stp F H (Own φ) F1 H1 (Own φ1)) (h : Post (XOut clA pv W σ F H φ) O ((f env1).bind k))
    (hk : ∀ as env2 F2 H2 φ2 vs gs, f env1 = .ok as env2 → GOk pv σ ms F1 H1 φ1 env2 as F2 H2 φ2 vs gs → Post (XOut clA pv W σ F H φ) O (k as env2) → R vs H2) : tAG clA pv W ms f σ H1 R :=
  ⟨F1, env1, φ1, s, (Post.bind.mp h).mono (fun _ _ _ x => x.after st) fun d env2 e o F2 H2 φ2 vs gs E => hk d env2 F2 H2 φ2 vs gs e E o⟩
/-- a value ahead of further arguments -/
theorem GOk.val {σ : L2.St} {ms : List Bool} {F F1 F2 : Addr → Prop} {H H1 H2 : Hp} {φ φ1 φ2 : Nat → List Addr} {env1 env2 : EnvD} {d : D} {v : V} {fd : List Addr} {cf : Bool} {pr : Option Nat} {as : List Arg} {vs : List V} {gs : List (List Addr)} (E1 : EOk pv σ .esc cf pr F H φ env1 d F1 H1 φ1 v fd) (G2 : GOk pv σ ms.tail F1 H1 φ1 env2 as F2 H2 φ2 vs gs) :
    GOk pv σ ms F H φ env2 (.val d :: as) F2 H2 φ2 (v :: vs) (fd :: gs) := by
  obtain ⟨n1, n2⟩ := E1.nd rfl
  have r1 : Rep F2 H2 d v fd := Rep.over E1.sr G2.stp (fun a ha => (n2 a ha).2) E1.rep
  have ap := apart n2 E1.rep.there G2.stp
  refine ⟨G2.sr, ⟨v, vs, fd, gs, rfl, rfl, r1, G2.rep⟩, ?_, fun a ha => ?_, fun a ha => ?_, ?_⟩
  · rw [List.flatten_cons]
    refine List.nodup_append.mpr ⟨n1, G2.nd, fun a ha b hb z => ?_⟩
    subst z
    exact (ap a ha).2 (.inr hb)
  · rw [List.flatten_cons] at ha
    rcases List.mem_append.mp ha with ha | ha
    · exact ⟨(ap a ha).1, fun z => (ap a ha).2 (.inl z)⟩
    · exact G2.ap a ha
  · rw [List.flatten_cons] at ha
    rcases List.mem_append.mp ha with ha | ha
    · exact r1.there a ha
    · exact G2.th a ha
  · refine (E1.st.trans (G2.stp.mono (R' := Own φ2) (fun _ h => h) fun _ h => .inl (.inl h))).mono (fun _ h => h) fun a h => ?_
    rcases h with h | h
    · exact .inl h
    · rw [List.flatten_cons] at h
      rcases List.mem_append.mp h with h | h
      · exact .inr (E1.stp.p a (.inr ⟨rfl, h⟩))
      · rcases G2.stp.p a (.inr h) with z | z
        · exact .inr (E1.st.p a z)
        · exact .inr (.inr (E1.stp.back z))
/-- a name by reference ahead of further arguments -/
theorem GOk.slot {σ : L2.St} {ms : List Bool} {F F2 : Addr → Prop} {H H2 : Hp} {φ φ2 : Nat → List Addr} {env2 : EnvD} {i : Nat} {v : V} {as : List Arg} {vs : List V} {gs : List (List Addr)} (hm : ms.headD false = true) (hv : σ[i]? = some (some v)) (G2 : GOk pv σ ms.tail F H φ env2 as F2 H2 φ2 vs gs) :
    GOk pv σ ms F H φ env2 (.slot i :: as) F2 H2 φ2 (v :: vs) ([] :: gs) :=
  ⟨G2.sr, ⟨v, vs, gs, rfl, rfl, hm, hv, G2.rep⟩, by simpa using G2.nd, fun a ha => G2.ap a (by simpa using ha), fun a ha => G2.th a (by simpa using ha), G2.stp.mono (fun _ h => h) fun a h => .inl (h.imp id fun z => by simpa using z)⟩
theorem snd_args : ∀ (es : List Expr) {es' : Es} {ms : List Bool}, (∀ e ∈ es, notStar e = true) → (∀ e ∈ es, ∀ e', f e = some e' → ESound X C clA pv W e e') → trEs f es = some es' → PA X es (tAG clA pv W ms (evArgs C ms es'))
  | [], es', ms, _, _, h => by
    cases h
    refine PA.imp pa_nil fun σ H Q ⟨F, env, φ, s, q⟩ => ?_
    exact q F H φ [] [] ⟨s, ⟨rfl, rfl⟩, List.nodup_nil, fun _ h => (nomatch h), fun _ h => (nomatch h), (Stp.refl ..).mono (fun _ h => h) fun _ h => .inl (h.elim id fun z => (nomatch z))⟩
  | e :: es, es', ms, hst, hf, h => by
    simp only [trEs] at h
    cases h1 : f e with
    | none => rw [h1] at h; cases h
    | some x =>
      rw [h1] at h
      cases h2 : trEs f es with
      | none => rw [Option.bind_some, h2] at h; cases h
      | some y =>
        rw [Option.bind_some, h2] at h
        cases h
        have s1 := hf e (by simp) x h1
        have s2 := snd_args es (ms := ms.tail) (fun e he => hst e (by simp [he])) (fun e he => hf e (by simp [he])) h2
        have hs := starEach_cons (es := es) (env := X.env) (hst e (by simp))
        by_cases hx : ∃ i, x = .var i
        · obtain ⟨i, rfl⟩ := hx
          refine PA.imp (pa_cons (s1.n i rfl) s2 hs) fun σ H Q ⟨F, env, φ, s, q⟩ => ?_
          simp only [evArgs] at q
          cases ei : env[i]? with
          | none => rw [ei] at q; exact q.elim
          | some o =>
            cases o with
            | none => rw [ei] at q; exact q.elim
            | some d =>
              rw [ei] at q
              simp only at q
              obtain ⟨v, ev, r⟩ := s.rep i d ei
              refine ⟨v, ev, ?_⟩
              split at q
              · rename_i hsh
                have z := Rep.shr d v _ hsh r
                rw [z] at r
                refine tAG.sub2 s (Stp.refl ..) q fun as env2 F2 H2 φ2 vs gs e2 G2 o => ?_
                exact o F2 H2 φ2 _ _ (GOk.val (cf := false) (pr := none) (.flat s (Stp.refl ..) (fun z => nomatch z) r) G2)
              · split at q
                · rename_i hm
                  refine tAG.sub2 s (Stp.refl ..) q fun as env2 F2 H2 φ2 vs gs e2 G2 o => ?_
                  exact o F2 H2 φ2 _ _ (GOk.slot hm ev G2)
                · obtain ⟨v', e2', r', s', st', cn'⟩ := s.freeze ei
                  rw [ev] at e2'
                  cases e2'
                  refine tAG.sub2 s' st' q fun as env2 F2 H2 φ2 vs gs e2 G2 o => ?_
                  exact o F2 H2 φ2 _ _ (GOk.val (cf := false) (pr := none) (.flat s' st' (fun z => nomatch z) r') G2)
        · refine PA.imp (pa_cons s1.esc s2 hs) fun σ H Q ⟨F, env, φ, s, q⟩ => ?_
          have he : evArgs C ms (.cons x y) env = ((ev C .esc x env).bind fun d env => (evArgs C ms.tail y env).bind fun as env => .ok (.val d :: as) env) := by
            cases x <;> first | exact absurd ⟨_, rfl⟩ hx | simp only [evArgs]
          rw [show (fun r => Es.cons x r) y = Es.cons x y from rfl, he] at q
          refine tE.sub s q fun d env1 F1 H1 φ1 v fd e1 E1 q1 => ?_
          refine tAG.sub2 E1.sr E1.st q1 fun as env2 F2 H2 φ2 vs gs e2 G2 o => ?_
          exact o F2 H2 φ2 _ _ (GOk.val E1 G2)
/-! ## the promise of a def -/
structure COk (m : List Bool) (vs : List V) (F : Addr → Prop) (H : Hp) (ψ : Nat → List Addr) (d : D) (ps : List D) (F' : Addr → Prop) (H' : Hp) (ψ' : Nat → List Addr) (v : V) (fd : List Addr) : Prop where
  sr : Sta F' (vs.map some) H' (retE m ps) ψ' Pv.e
  rep : Rep F' H' d v fd
  nd : fd.Nodup
  ap : ∀ a ∈ fd, ¬ F' a ∧ ¬ Own ψ' a
  stp : Stp F H (Own ψ) F' H' (fun a => Own ψ' a ∨ a ∈ fd)
def CSp (clA : Str → Addr) (m : List Bool) (call : List D → CRes) : Sp := fun vs H Q E => ∃ F ds ψ, Sta F (vs.map some) H (ds.map some) ψ Pv.e ∧ match call ds with
  | .ok d ps => ∀ F' H' ψ' v fd, COk m vs F H ψ d ps F' H' ψ' v fd → Q v H'
  | .exc c fs ps => ∀ dd F' H' ψ' gs, Sta F' (vs.map some) H' (retE m ps) ψ' Pv.e → H' dd = some (.xd gs) → gs.map (·.1) = fs.map (·.1) → Reps F' H' (fs.map (·.2)) (gs.map (·.2)) [] → Stp F H (Own ψ) F' H' (Own ψ') → E (.ref (clA c)) (some dd) H'
  | .no => False
/-- a def that may be called -/
structure Def (X : Cx) (clA : Str → Addr) (C : CtxD) (x : Str) (i : Nat) : Prop where
  ex : ∃ (k : Nat) (fa : Addr) (fd : FuncData) (ps : List Str), FnOk X.prog X.w X.K X.mg X.base (L2.CX X.prog X.w) k fa fd ps (CSp clA (C.mask i) (C.call i)) ∧ Room k X.A ∧ X.mg x = some (.ref fa) ∧ PySem.W.keepIn X.K (.ref fa) = true ∧ Binds X.K fd ps []
theorem snd_call {x : Str} {i : Nat} {es : List Expr} {es' : Es} {p0 : Pos} (hD : Def X clA C x i) (tk : Takes X W) (hn : es ≠ []) (hg : Gl X x) (hdb : (x == ("__debug__" : Str)) = false) (hst : ∀ e ∈ es, notStar e = true)
    (h : PA X es (tAG clA pv W (C.mask i) (evArgs C (C.mask i) es'))) : ESound X C clA pv W (.Call (.Name x p0) es [] pos) (.call i es') := by
  obtain ⟨k, fa, fd, ps, hF, hR, hm, hk, hb⟩ := hD.ex
  cases es with
  | nil => exact absurd rfl hn
  | cons e es =>
    refine ESound.temp (f := fun env => (evArgs C (C.mask i) es' env).bind fun args env => callArgs C i args env) (fun m env => by simp only [ev]) rfl (fun _ => rfl) ?_
    have h1 := starEach_cons (es := es) (env := X.env) (hst e (by simp))
    have h2 : (PySem.backTo pos (starEach es X.env)).any (·.1) = false := starEach_any fun e he => hst e (by simp [he])
    refine tE.imp (pe_callS hF hR hg hm hk hb (fun σ => passAt tk σ) h hdb h1 h2) fun σ H Q F env φ s q => ?_
    refine tAG.sub2 s (Stp.refl ..) q fun as env1 F1 H1 φ1 vs gs e1 G o => ?_
    unfold callArgs at o
    split at o
    · rename_i nd
      cases et : treesOf env1 as with
      | none => rw [et] at o; exact o.elim
      | some ts =>
        rw [et] at o
        simp only at o
        have al := G.rep.al G.sr et
        have gap : ∀ a ∈ gs.flatten, ¬ Own φ1 a := fun a ha => (G.ap a ha).2
        have nd2 := psl_nodup G.sr G.nd gap nd
        have nf2 : ∀ a ∈ (psl φ1 as gs).flatten, ¬ F1 a := fun a ha f => by
          rcases psl_mem ha with ha | ⟨j, _, ha⟩
          · exact (G.ap a ha).1 f
          · exact G.sr.nf j a ha f
        have sψ := al.sta nd2 nf2 G.sr.fh
        refine ⟨F1, ts, _, sψ, ?_⟩
        cases ec : C.call i ts with
        | no => rw [ec] at o; exact o.elim
        | ok d rs =>
          rw [ec] at o
          simp only at o ⊢
          split at o
          · rename_i hl
            intro F2 H2 ψ' v fd ck
            obtain ⟨s2, st2, ap2⟩ := back_sta G.sr G.rep gap nd hl sψ ck.sr ck.stp ck.ap
            exact o F2 H2 _ v fd ⟨s2, ck.rep, fun _ => ⟨ck.nd, ap2⟩, (G.stp.trans st2).mono (fun _ h => h) fun a h => .inl (h.imp id fun z => z.2), fun z => (nomatch z), fun _ z => (nomatch z)⟩
          · exact o.elim
        | exc c fs rs =>
          rw [ec] at o
          simp only at o ⊢
          split at o
          · rename_i hl
            intro dd F2 H2 ψ' gs' s' hd e2 r st'
            obtain ⟨s2, st2, _⟩ := back_sta (fd := []) G.sr G.rep gap nd hl sψ s' (st'.mono (fun _ h => h) fun a h => .inl (h.elim id fun z => (nomatch z))) (fun _ h => (nomatch h))
            exact o dd F2 H2 _ gs' s2 hd e2 r ((G.stp.trans st2).mono (fun _ h => h) fun a h => .inl (.inl h))
          · exact o.elim
    · exact o.elim
end
end VS

end

section
set_option linter.all false
set_option maxRecDepth 100000
set_option maxHeartbeats 1000000
namespace VS
open PySem L2
/-! ## slots set aside -/
def offφ (is : List Nat) (φ : Nat → List Addr) : Nat → List Addr := fun j => if j ∈ is then [] else φ j
def onφ (is : List Nat) (φ φ2 : Nat → List Addr) : Nat → List Addr := fun j => if j ∈ is then φ j else φ2 j
section
variable {is : List Nat} {φ φ2 : Nat → List Addr} {j : Nat} {a : Addr}
theorem offφ_in (h : j ∈ is) : offφ is φ j = [] := if_pos h
theorem offφ_out (h : j ∉ is) : offφ is φ j = φ j := if_neg h
theorem onφ_in (h : j ∈ is) : onφ is φ φ2 j = φ j := if_pos h
theorem onφ_out (h : j ∉ is) : onφ is φ φ2 j = φ2 j := if_neg h
theorem Own_off (h : Own (offφ is φ) a) : ∃ j, j ∉ is ∧ a ∈ φ j := by
  obtain ⟨j, h⟩ := h
  by_cases hj : j ∈ is
  · rw [offφ_in hj] at h; cases h
  · rw [offφ_out hj] at h; exact ⟨j, hj, h⟩
theorem Own_off' (h : Own (offφ is φ) a) : Own φ a := let ⟨j, _, h⟩ := Own_off h; ⟨j, h⟩
theorem Own_on (h : Own (onφ is φ φ2) a) : (∃ j, j ∈ is ∧ a ∈ φ j) ∨ Own φ2 a := by
  obtain ⟨j, h⟩ := h
  by_cases hj : j ∈ is
  · rw [onφ_in hj] at h; exact .inl ⟨j, hj, h⟩
  · rw [onφ_out hj] at h; exact .inr ⟨j, h⟩
end
section
variable {σ σ' σ2 σ3 : L2.St} {F F2 : Addr → Prop} {H H2 : Hp} {env env' env2 env3 : EnvD} {φ φ2 : Nat → List Addr} {pv pv' pv2 pv3 : Pv} {is : List Nat}
theorem Sta.off (s : Sta F σ H env φ pv) (hl : σ'.length = env'.length) (h1 : ∀ j, j ∉ is → env'[j]? = env[j]?) (h2 : ∀ j, j ∈ is → ∀ d, env'[j]? ≠ some (some d)) (hσ : ∀ j v, j ∉ is → σ[j]? = some (some v) → σ'[j]? = some (some v)) (hp : ∀ p ∈ pv', σ'[p.1]? = some (some p.2)) (hh : ∀ q ∈ pv'.hx, q ∈ pv.hx := by first | exact fun _ h => h | exact fun _ h => nomatch h) :
    Sta F σ' H env' (offφ is φ) pv' where
  len := hl
  rep := fun j d e => by
    by_cases hj : j ∈ is
    · exact absurd e (h2 j hj d)
    · rw [h1 j hj] at e
      obtain ⟨v, e1, r⟩ := s.rep j d e
      exact ⟨v, hσ j v hj e1, by rw [offφ_out hj]; exact r⟩
  emp := fun j h => by
    by_cases hj : j ∈ is
    · exact offφ_in hj
    · rw [offφ_out hj]
      exact s.emp j fun d e => h d (by rw [h1 j hj]; exact e)
  nd := fun j => by
    by_cases hj : j ∈ is
    · rw [offφ_in hj]; exact List.nodup_nil
    · rw [offφ_out hj]; exact s.nd j
  dj := fun i j a hij ha hb => by
    by_cases hi : i ∈ is
    · rw [offφ_in hi] at ha; cases ha
    · by_cases hj : j ∈ is
      · rw [offφ_in hj] at hb; cases hb
      · rw [offφ_out hi] at ha; rw [offφ_out hj] at hb; exact s.dj i j a hij ha hb
  nf := fun j a ha f => by
    by_cases hj : j ∈ is
    · rw [offφ_in hj] at ha; cases ha
    · rw [offφ_out hj] at ha; exact s.nf j a ha f
  fh := s.fh
  pv := hp
  hx := fun q hq => s.hx q (hh q hq)
theorem Sta.apartOff (s : Sta F σ H env φ pv) {j : Nat} {a : Addr} (hj : j ∈ is) (ha : a ∈ φ j) : ¬ Own (offφ is φ) a := fun h => by
  obtain ⟨k, hk, h⟩ := Own_off h
  exact s.dj j k a (fun z => hk (z ▸ hj)) ha h
theorem Sta.on {P2 : Addr → Prop} (s : Sta F σ H env φ pv) (s2 : Sta F2 σ2 H2 env2 φ2 pv2) (st : Stp F H (Own (offφ is φ)) F2 H2 P2) (hP : ∀ a, Own φ2 a → P2 a) (hl : σ3.length = env3.length) (h1 : ∀ j, j ∉ is → env3[j]? = env2[j]?) (h2 : ∀ j, j ∈ is → env3[j]? = env[j]?)
    (hσ : ∀ j v, j ∉ is → σ2[j]? = some (some v) → σ3[j]? = some (some v)) (hσ' : ∀ j v, j ∈ is → σ[j]? = some (some v) → (∃ d, env[j]? = some (some d)) → σ3[j]? = some (some v)) (hp : ∀ p ∈ pv3, σ3[p.1]? = some (some p.2)) (hh : ∀ q ∈ pv3.hx, q ∈ pv.hx := by first | exact fun _ h => h | exact fun _ h => nomatch h) : Sta F2 σ3 H2 env3 (onφ is φ φ2) pv3 := by
  have away : ∀ {j a}, j ∈ is → a ∈ φ j → Own φ2 a → False := fun {j a} hj ha h => by
    rcases st.p a (hP a h) with h | h
    · exact s.apartOff hj ha h
    · exact s.ownH ⟨j, ha⟩ h
  refine ⟨hl, fun j d e => ?_, fun j h => ?_, fun j => ?_, fun i j a hij ha hb => ?_, fun j a ha f => ?_, s2.fh, hp, fun q hq => ⟨st.k _ _ (s.hx q (hh q hq)).1 (fun z => s.notxd (s.hx q (hh q hq)).1 (Own_off' z)), (s.hx q (hh q hq)).2.1, Reps.keep st.k (fun a f h => s.nfO f (Own_off' h)) (fun a xs e h => s.notup e (Own_off' h)) st.f1 _ _ [] (fun _ z => nomatch z) (s.hx q (hh q hq)).2.2⟩⟩
  · by_cases hj : j ∈ is
    · rw [h2 j hj] at e
      obtain ⟨v, e1, r⟩ := s.rep j d e
      exact ⟨v, hσ' j v hj e1 ⟨d, e⟩, by rw [onφ_in hj]; exact Rep.keep st.k (fun a f h => s.nfO f (Own_off' h)) (fun a xs e h => s.notup e (Own_off' h)) st.f1 d v (φ j) (fun a ha => s.apartOff hj ha) r⟩
    · rw [h1 j hj] at e
      obtain ⟨v, e1, r⟩ := s2.rep j d e
      exact ⟨v, hσ j v hj e1, by rw [onφ_out hj]; exact r⟩
  · by_cases hj : j ∈ is
    · rw [onφ_in hj]
      exact s.emp j fun d e => h d (by rw [h2 j hj]; exact e)
    · rw [onφ_out hj]
      exact s2.emp j fun d e => h d (by rw [h1 j hj]; exact e)
  · by_cases hj : j ∈ is
    · rw [onφ_in hj]; exact s.nd j
    · rw [onφ_out hj]; exact s2.nd j
  · by_cases hi : i ∈ is
    · rw [onφ_in hi] at ha
      by_cases hj : j ∈ is
      · rw [onφ_in hj] at hb; exact s.dj i j a hij ha hb
      · rw [onφ_out hj] at hb; exact away hi ha ⟨j, hb⟩
    · rw [onφ_out hi] at ha
      by_cases hj : j ∈ is
      · rw [onφ_in hj] at hb; exact away hj hb ⟨i, ha⟩
      · rw [onφ_out hj] at hb; exact s2.dj i j a hij ha hb
  · by_cases hj : j ∈ is
    · rw [onφ_in hj] at ha
      rcases st.f2 a f with h | h | h
      · exact s.nf j a ha h
      · exact s.apartOff hj ha h
      · exact s.ownH ⟨j, ha⟩ h
    · rw [onφ_out hj] at ha; exact s2.nf j a ha f
theorem Stp.on {X : Addr → Prop} (st : Stp F H (Own (offφ is φ)) F2 H2 (fun a => Own φ2 a ∨ X a)) : Stp F H (Own φ) F2 H2 (fun a => Own (onφ is φ φ2) a ∨ X a) :=
  st.mono (fun _ h => Own_off' h) fun a h => by
    rcases h with h | h
    · rcases Own_on h with ⟨j, _, h⟩ | h
      · exact .inr (.inl ⟨j, h⟩)
      · exact .inl (.inl h)
    · exact .inl (.inr h)
theorem Stp.on0 (st : Stp F H (Own (offφ is φ)) F2 H2 (Own φ2)) : Stp F H (Own φ) F2 H2 (Own (onφ is φ φ2)) :=
  st.mono (fun _ h => Own_off' h) fun a h => by
    rcases Own_on h with ⟨j, _, h⟩ | h
    · exact .inr (.inl ⟨j, h⟩)
    · exact .inl h
end
/-- what goes on while a loop runs -/
structure Kp (F : Addr → Prop) (H : Hp) (P : Addr → Prop) (F2 : Addr → Prop) (H2 : Hp) : Prop where
  f1 : ∀ a, F a → F2 a
  k : ∀ a o, H a = some o → ¬ P a → H2 a = some o
theorem Stp.kp {F F2 P P2 : Addr → Prop} {H H2 : Hp} (st : Stp F H P F2 H2 P2) : Kp F H P F2 H2 := ⟨st.f1, st.k⟩
/-- names whose trees are taken for the while -/
structure Aside (lk : List (Nat × D)) (envm env' : EnvD) : Prop where
  len : env'.length = envm.length
  out : ∀ j, j ∉ lk.map (·.1) → env'[j]? = envm[j]?
  inn : ∀ p ∈ lk, envm[p.1]? = some (some p.2) ∧ env'[p.1]? = some none
theorem Aside.nil {env : EnvD} : Aside [] env env := ⟨rfl, fun _ _ => rfl, fun _ h => (nomatch h)⟩
theorem Aside.none {lk : List (Nat × D)} {envm env' : EnvD} (A : Aside lk envm env') {j : Nat} (h : j ∈ lk.map (·.1)) : env'[j]? = some none := by
  obtain ⟨p, hp, rfl⟩ := List.mem_map.mp h
  exact (A.inn p hp).2
theorem Aside.sta {F : Addr → Prop} {σ : L2.St} {H : Hp} {envm env' : EnvD} {φ : Nat → List Addr} {pv pv' : Pv} {lk : List (Nat × D)} (A : Aside lk envm env') (s : Sta F σ H envm φ pv) (hp : ∀ p ∈ pv', σ[p.1]? = some (some p.2)) (hh : ∀ q ∈ pv'.hx, q ∈ pv.hx := by first | exact fun _ h => h | exact fun _ h => nomatch h) : Sta F σ H env' (offφ (lk.map (·.1)) φ) pv' :=
  s.off (by rw [A.len]; exact s.len) A.out (fun j hj d e => by rw [A.none hj] at e; cases e) (fun _ _ _ h => h) hp hh
/-! ## sources -/
section
variable (clA : Str → Addr) (pv : Pv) (W : WX)
structure Src (σ : L2.St) (F : Addr → Prop) (H : Hp) (φ : Nat → List Addr) (env' : EnvD) (d : D) (lk : List (Nat × D)) (F' : Addr → Prop) (H' : Hp) (φm : Nat → List Addr) (envm : EnvD) (v : V) (fp : List Addr) : Prop where
  sr : Sta F' σ H' envm φm pv
  asd : Aside lk envm env'
  stp : Stp F H (Own φ) F' H' (Own φm)
  rep : Rep F' H' d v fp
  ap : ∀ a ∈ fp, ¬ F' a ∧ ¬ Own (offφ (lk.map (·.1)) φm) a
  sk : d.shrK = true
def tSrc (f : EnvD → Res (D × List (Nat × D))) : TE := fun σ H Q => ∃ F env φ, Sta F σ H env φ pv ∧ Post (XOut clA pv W σ F H φ) (fun p env' => ∀ F' H' φm envm v fp, Src pv σ F H φ env' p.1 p.2 F' H' φm envm v fp → Q v H') (f env)
end
section
variable {X : Cx} {C : CtxD} {clA : Str → Addr} {pv : Pv} {W : WX} {e a b c : Expr} {e' a' b' c' : E} {pos : Pos}
theorem esc_place_shr : ∀ {e' : E} {env env1 : EnvD} {d : D}, e'.place = true → ev C .esc e' env = .ok d env1 → d.shr = true
  | .var i, env, env1, d, _, h => by
    have h : vName .esc i env = .ok d env1 := h
    unfold vName at h
    cases e : env[i]? with
    | none => rw [e] at h; cases h
    | some o =>
      cases o with
      | none => rw [e] at h; cases h
      | some x =>
        rw [e] at h
        simp only at h
        split at h
        · cases h; assumption
        · cases h; exact frz_shr x
  | .sub a i, env, env1, d, hp, h => by
    have hp : a.place = true := hp
    simp only [ev, hp, if_true] at h
    cases ea : ev C .rd a env with
    | ok x env2 =>
      rw [ea] at h
      simp only [Res.bind] at h
      split at h
      · cases ei : ev C .esc i env2 with
        | ok y env3 =>
          rw [ei] at h
          simp only at h
          cases es : subD x y with
          | none => rw [es] at h; cases h
          | some c =>
            rw [es] at h
            simp only [onPart, vPart] at h
            split at h
            · cases h; assumption
            · split at h
              · cases h; exact frz_shr _
              · cases h
        | exc _ _ _ => rw [ei] at h; cases h
        | no => rw [ei] at h; cases h
      · cases h
    | exc _ _ _ => rw [ea] at h; cases h
    | no => rw [ea] at h; cases h
/-- a moved value's children frozen -/
theorem EOk.frzKd {σ : L2.St} {cf : Bool} {pr : Option Nat} {F F' : Addr → Prop} {H H' : Hp} {φ φ' : Nat → List Addr} {env' : EnvD} {d : D} {v : V} {fd : List Addr} (E : EOk pv σ .esc cf pr F H φ env' d F' H' φ' v fd) : ∃ F2 fq, EOk pv σ .esc cf none F H φ env' d.frzK F2 H' φ' v fq := by
  obtain ⟨n1, n2⟩ := E.nd rfl
  obtain ⟨fq, z1, z2, z3⟩ := Rep.frzK n1 E.rep
  have r := z3 (fun a => F' a ∨ (a ∈ fd ∧ a ∉ fq)) (fun a h => .inl h) fun a h => by
    by_cases hq : a ∈ fq
    · exact .inl hq
    · exact .inr (.inr ⟨h, hq⟩)
  refine ⟨fun a => F' a ∨ (a ∈ fd ∧ a ∉ fq), fq, ⟨E.sr.grow (fun _ _ h => h) (fun _ h => .inl h) (fun i a hi z => ?_) (fun a z => ?_), r, fun _ => ⟨z2, fun a ha => ⟨fun z => ?_, (n2 a (z1 a ha)).2⟩⟩, ?_, fun z => (E.cf z).trans ⟨fun _ _ h => h, fun _ _ h => .inl h⟩ fun _ h => .inl h, fun _ z => (nomatch z)⟩⟩
  · rcases z with z | ⟨z, _⟩
    · exact E.sr.nf i a hi z
    · exact (n2 a z).2 ⟨i, hi⟩
  · rcases z with z | ⟨z, _⟩
    · exact E.sr.fh a z
    · exact E.rep.there a z
  · rcases z with z | ⟨_, z⟩
    · exact (n2 a (z1 a ha)).1 z
    · exact z ha
  · refine E.stp.trans ⟨fun _ h => .inl h, fun a h => ?_, fun _ _ h _ => h, fun a h => .inl ?_, fun _ h => h⟩
    · rcases h with h | ⟨h, _⟩
      · exact .inl h
      · exact .inr (.inl (.inr ⟨rfl, h⟩))
    · rcases h with h | ⟨_, h⟩
      · exact .inl h
      · exact .inr ⟨rfl, z1 a h⟩
theorem snd_src {u : Nat → Bool} (h : ESound X C clA pv W e e') : PE X e (tSrc clA pv W fun env => srcOf u e' (ev C .esc e' env) env) := by
  by_cases hx : ∃ i, e' = .var i
  · obtain ⟨i, rfl⟩ := hx
    refine PE.imp (h.n i rfl) fun σ H Q ⟨F, env, φ, s, q⟩ => ?_
    simp only [srcOf, srcVar] at q
    cases ei : env[i]? with
    | none => rw [ei] at q; exact q.elim
    | some o =>
      cases o with
      | none => rw [ei] at q; exact q.elim
      | some d =>
        rw [ei] at q
        simp only at q
        obtain ⟨v, ev, r⟩ := s.rep i d ei
        refine ⟨v, ev, ?_⟩
        split at q
        · rename_i hs
          have z := Rep.shr d v _ hs r
          rw [z] at r
          exact q F H φ env v [] ⟨s, .nil, Stp.refl .., r, fun _ h => (nomatch h), shr_shrK d hs⟩
        · split at q
          · obtain ⟨v', e2', r', s', st', cn'⟩ := s.freeze ei
            rw [ev] at e2'
            cases e2'
            exact q _ H _ _ v [] ⟨s', .nil, st', r', fun _ h => (nomatch h), shr_shrK _ (frz_shr d)⟩
          · obtain ⟨fq, z1, z2, z3⟩ := Rep.frzK (s.nd i) r
            have r2 := z3 (fun a => F a ∨ (a ∈ φ i ∧ a ∉ fq)) (fun _ h => .inl h) fun a h => by
              by_cases hq : a ∈ fq
              · exact .inl hq
              · exact .inr (.inr ⟨h, hq⟩)
            have st' : Stp F H (Own φ) (fun a => F a ∨ (a ∈ φ i ∧ a ∉ fq)) H (Own (updφ φ i fq)) := Stp.reslot (fun _ h => .inl h) z1 fun a h => h
            have s' := s.reslot ei ev (fun _ h => .inl h) z1 z2 r2 fun a h => h
            refine q (fun a => F a ∨ (a ∈ φ i ∧ a ∉ fq)) H (updφ φ i fq) (env.set i (some d.frzK)) v fq ⟨s', ⟨by simp, fun j hj => ?_, fun p hp => ?_⟩, st', r2, fun a ha => ⟨fun z => ?_, fun z => ?_⟩, frzK_shrK d⟩
            · have hj : j ≠ i := by simpa using hj
              rw [get_set_ne hj, get_set_ne hj]
            · have : p = (i, d.frzK) := by simpa using hp
              subst this
              exact ⟨List.getElem?_set_self (get_lt ei), List.getElem?_set_self (get_lt ei)⟩
            · exact s'.nf i a (by rw [updφ_same]; exact ha) z
            · exact s'.apartOff (is := [i]) (j := i) (by simp) (by rw [updφ_same]; exact ha) z
  · have he : ∀ r env, srcOf u e' r env = (vSrc e'.place r).bind fun d env => .ok (d, []) env := fun r env => by
      cases e' <;> first | exact absurd ⟨_, rfl⟩ hx | rfl
    refine PE.imp h.esc fun σ H Q ⟨F, env, φ, s, q⟩ => ?_
    simp only [he] at q
    unfold vSrc at q
    split at q
    · rename_i hp
      refine tE.sub s q fun d env1 F1 H1 φ1 v fd e1 E1 o => ?_
      have z := Rep.shr d v fd (esc_place_shr hp e1) E1.rep
      have r := E1.rep
      rw [z] at r
      exact o F1 H1 φ1 env1 v [] ⟨E1.sr, .nil, E1.st, r, fun _ h => (nomatch h), shr_shrK d (esc_place_shr hp e1)⟩
    · rename_i hp
      have q := Post.bind.mp q
      refine tE.sub s q fun d env1 F1 H1 φ1 v fd e1 E1 o => ?_
      obtain ⟨F2, fq, E2⟩ := E1.frzKd
      obtain ⟨n1, n2⟩ := E2.nd rfl
      exact o F2 H1 φ1 env1 v fq ⟨E2.sr, .nil, E2.st, E2.rep, fun a ha => ⟨(n2 a ha).1, fun z => (n2 a ha).2 (Own_off' z)⟩, frzK_shrK d⟩
end
end VS

end

section
set_option linter.all false
set_option maxRecDepth 100000
set_option maxHeartbeats 2000000
namespace VSE
open PySem PySem.Spec PyProof.Rows L2
/-! ## enumerate(tuple) -/
theorem meets_enum1 {v : Value} {o : Obj} {H : Heap → Prop} (B : Begins v o H) :
    Meets (Builtin.«enumerate.__new__» ⟨[.type "enumerate", v], []⟩) (fun _ R s => H s.heap ∧
      R (.ok (.ret (.ref (s.heap.push o).objs.size))) { s with heap := (s.heap.push o).push { cls := .type "enumerate", data := .fields #[.none, .bool false, .ref s.heap.objs.size, rawInt 0, .none, .none] } }) :=
  .of_wp fun prog w A R s h => by
    obtain ⟨hp, g, d, tk, os⟩ := s
    obtain ⟨h1, h⟩ := h
    have hsub := sub_enumerate
    have q1 : ∀ {A' : Around} {E : Value → Shared → Prop} {Q : Value → Shared → Prop}, Q (.ref hp.objs.size) ⟨hp.push o, g, d, tk, os⟩ → wpAny (model prog w) A' (pyIter v) Q E ⟨hp, g, d, tk, os⟩ :=
      fun q => B.iter prog w _ _ ⟨hp, g, d, tk, os⟩ _ h1 q
    wp_walk using q1
    refine wpAny_stack_any fun st => wpAny_pure ?_
    split
    · rename_i c _ _ _ _ _
      cases (c == Value.type "enumerate")
      · wp_walk using q1
        exact ⟨_, rfl, h⟩
      · wp_walk using q1
        exact ⟨_, rfl, h⟩
    · wp_walk using q1
      exact ⟨_, rfl, h⟩
theorem enum1 {prog : Program} {w : World} {A : Around} {E : Value → Shared → Prop} {s : Shared} {v : Value} {o : Obj} {H : Heap → Prop} {Q : Value → Shared → Prop} (B : Begins v o H) (h1 : H s.heap)
    (h : ∀ h', IsEnum h' (s.heap.objs.size + 1) s.heap.objs.size 0 .none → h'.get? s.heap.objs.size = some o → h'.objs.size = s.heap.objs.size + 2 →
      (∀ b u, s.heap.get? b = some u → h'.get? b = some u) → Q (.ref (s.heap.objs.size + 1)) { s with heap := h' }) :
    wpAny (model prog w) A (call (.type "enumerate") [v]) Q E s := by
  refine callType_new F.called_enumerate (by decide) (F.typeCall_enumerate_1 _) (F.newCall_enumerate_1 _) (fun obj => F.args_object_init_2 obj _) F.entry_enumerate_new (meets_enum1 B) ⟨h1, ?_⟩
  have hz : (s.heap.push o).objs.size = s.heap.objs.size + 1 := Heap.size_push ..
  show _ ∧ _
  rw [hz]
  have he : IsEnum ((s.heap.push o).push { cls := .type "enumerate", data := .fields #[.none, .bool false, .ref s.heap.objs.size, rawInt 0, .none, .none] }) (s.heap.objs.size + 1) s.heap.objs.size 0 .none := by
    have := Heap.get?_push_size (s.heap.push o) (o := { cls := .type "enumerate", data := .fields #[.none, .bool false, .ref s.heap.objs.size, rawInt 0, .none, .none] }) rfl
    rw [hz] at this
    exact this
  refine ⟨⟨_, he, rfl⟩, h _ he (Heap.get?_push_of_some _ (Heap.get?_push_size _ B.free)) (by rw [Heap.size_push, hz]) fun b u x => Heap.get?_push_of_some _ (Heap.get?_push_of_some _ x)⟩
/-- the tuple at a as it stands at each turn, each item in a new pair -/
def IteT (K : PySem.W.Frag) (a : Addr) : It :=
  ⟨fun i H => ∃ (xs : List V) (x : V), SqT K H a xs ∧ xs[i]? = some x,
    fun i H v H' => ∃ T x, v = .ref T ∧ H T = none ∧ H' = upd H T (.tup [.int (i : Nat), x]) ∧ ∀ xs, SqT K H a xs → xs[i]? = some x,
    fun i H => ∃ xs : List V, SqT K H a xs ∧ xs.length = i⟩
theorem turn_enumT {P : Program} {w : World} {K : PySem.W.Frag} {elts : List Expr} {kk : Nat} {tpos : Pos} (a e it : Addr) :
    Turn P w K (.Tuple elts kk tpos) (IteT K a) [e, it] e (fun i h => (∃ old, IsEnum h e it ((i : Nat) : Int) old) ∧ h.IsTupleIter it a i ∧ e ≠ it ∧ a ≠ it ∧ e ≠ a) where
  mem := by simp
  obj := fun i h st b hb => by
    obtain ⟨⟨old, he⟩, ⟨o, ho, hc, hd⟩, _⟩ := st
    have e' : b = e ∨ b = it := by simpa using hb
    rcases e' with z | z
    · rw [z]; exact ⟨_, he, fun v q => nomatch q⟩
    · rw [z]; exact ⟨o, ho, fun v q => by rw [hd] at q; cases q⟩
  keep := fun i h h' st k => by
    obtain ⟨⟨old, he⟩, hi, hne⟩ := st
    exact ⟨⟨old, k e (by simp) _ he⟩, hi.at fun o q => k it (by simp) o q, hne⟩
  item := by
    intro X hP hw hK hc i pins s σ H E I hf st hg
    subst hP hw hK
    obtain ⟨⟨old, he⟩, hit, hne, hai, hea⟩ := st
    obtain ⟨xs, x, hq, hx⟩ := hg
    obtain ⟨its, rv, p, hz⟩ := I.tuple hq
    obtain ⟨u, hu, ru⟩ := rv.get hx
    have hel : e < s.heap.objs.size := Heap.lt_size he
    have hil : it < s.heap.objs.size := by obtain ⟨_, q, _⟩ := hit; exact Heap.lt_size q
    have hlt : i < its.toArray.size := by
      rw [List.size_toArray]
      exact (List.getElem?_eq_some_iff.mp hu).1
    refine wpAny_pyNext_enum_itemD (Draws.tuple (A := X.A.in1) (I.ok.hd hc) it a hai its.toArray) he ⟨hit, (show s.heap.IsTuple a its.toArray from p)⟩ hlt hne (by simp only [List.mem_cons, List.not_mem_nil, or_false, not_or]; exact ⟨hne, hea⟩) fun y h' tk hy ho hst' hT hsz hk => ?_
    have hyu : y = u := by
      have hy : its.toArray[i]? = some y := hy
      rw [List.getElem?_toArray, hu] at hy
      cases hy; rfl
    subst hyu
    refine ⟨_, rfl, wpAny_letOwnedTupleGo_enum (s := { s with heap := h', toks := tk + 1 }) ho fun h'' he' sb => ?_⟩
    have hT2 : h''.get? s.heap.objs.size = some { cls := .type "tuple", data := .seq #[.int i tk, y] } := (sb.2 _ (Nat.ne_of_gt hel)).trans hT
    have new : ObjOk X.prog X.w (upd H s.heap.objs.size (.tup [.int (i : Nat), x])) h'' s.heap.objs.size (.tup [.int (i : Nat), x]) :=
      ⟨by show 2 ≤ sizeLine; decide, [.int i tk, y], .cons ⟨_, rfl⟩ (.cons ru .nil), ⟨_, hT2, rfl, _, rfl⟩⟩
    have I1 : Inv X pins σ (upd H s.heap.objs.size (.tup [.int (i : Nat), x])) { s with heap := h'', toks := tk + 1 } :=
      I.turnedNew (ch := [e, it]) (fun b ob hb q => (sb.2 b (fun z => hb (by simp [z]))).trans (hk b ob (fun z => hb (by simp [z])) (fun z => hb (by simp [z])) q)) hf (Nat.le_refl _) new
    refine ⟨.ref s.heap.objs.size, _, I1, rfl, ⟨_, x, rfl, I.hok.fresh (Nat.le_refl _), rfl, fun ys hy => by rw [I.tuple_inj hy hq]; exact hx⟩, ⟨⟨y, ?_⟩, hst'.1.at fun o q => (sb.2 it (Ne.symm hne)).trans q, hne, hai, hea⟩, fun b hb => ?_⟩
    · have e1 : ((i + 1 : Nat) : Int) = (i : Int) + 1 := by omega
      rw [e1]; exact he'
    · have hb' : b < s.heap.objs.size := by
        have e' : b = e ∨ b = it := by simpa using hb
        rcases e' with z | z
        · rw [z]; exact hel
        · rw [z]; exact hil
      rw [upd_ne (Nat.ne_of_lt hb')]
      exact (hf b hb).1
  done := by
    intro X hP hw hK hc i pins s σ H E I hf st hg
    subst hP hw hK
    obtain ⟨⟨old, he⟩, hit, hne, hai, hea⟩ := st
    obtain ⟨xs, hq, hx⟩ := hg
    obtain ⟨its, rv, p, hz⟩ := I.tuple hq
    obtain ⟨f0, f1, f2, f3, f4, f5⟩ := hf it (by simp)
    have hl := rv.length
    have hi : i = its.toArray.size := by rw [List.size_toArray]; omega
    subst hi
    exact wpAny_pyNext_enum_endD (Draws.tuple (A := X.A.in1) (I.ok.hd hc) it a hai its.toArray) he ⟨hit, (show s.heap.IsTuple a its.toArray from p)⟩ fun h' eb => ⟨rfl, I.turned (t' := s.toks) (fun b o hb q => eb b o hb q) f0 f1 f3 f4 f5⟩
  self := fun A i s Q E st h => let ⟨⟨_, he⟩, _⟩ := st; wpAny_pyIter_enum he h
def iEnumT (K : PySem.W.Frag) (ta : TA) : TI := fun σ H R => ta σ H fun vs H1 => ∃ a xs, vs = [.ref a] ∧ SqT K H1 a xs ∧ R (IteT K a) H1
theorem pi_enumT {X : Cx} {e : Expr} {ta : TA} {p pos tpos : Pos} {elts : List Expr} {kk : Nat} (hg : Gl X "enumerate") (hm : X.mg "enumerate" = none) (ha : PA X [e] ta) (hs : starEach [e] X.env = [(false, eval e X.env)] := by rfl) :
    PI X (.Tuple elts kk tpos) (.Call (.Name "enumerate" p) [e] [] pos) (iEnumT X.K ta) := by
  refine ⟨fun pins s σ H R I h => ?_⟩
  refine Call_ (ld_blt I hg hm boot_enumerate (PyProof.Rows.callWith_type1 (thn (ha.run pos pins s σ H _ I h) fun us s1 ⟨vs, H1, I1, r1, q1⟩ => ?_) hs rfl))
  obtain ⟨a, xs, ex, hq, q⟩ := q1
  subst ex
  cases r1 with
  | cons r rr =>
    cases rr
    cases r
    obtain ⟨its, rv, p', hz⟩ := I1.tuple hq
    have hat : a < s1.heap.objs.size := by obtain ⟨o, ho, _⟩ := id p'; exact Heap.lt_size ho
    refine enum1 (begins_tuple a its.toArray) (show s1.heap.IsTuple a its.toArray from p') fun h' he hit hsz hk => wpAny_pyIter_enum he ?_
    have I2 : Inv X pins σ H1 { s1 with heap := h' } := I1.kept (t' := s1.toks) hk
    refine ⟨s1.heap.objs.size + 1, [s1.heap.objs.size + 1, s1.heap.objs.size], _, _, H1, rfl, I2, turn_enumT a (s1.heap.objs.size + 1) s1.heap.objs.size, ⟨⟨.none, he⟩, ⟨_, hit, rfl, rfl⟩, Nat.succ_ne_self _, Nat.ne_of_lt hat, Ne.symm (Nat.ne_of_lt (Nat.lt_succ_of_lt hat))⟩, fun b hb => ?_, q⟩
    have e' : b = s1.heap.objs.size + 1 ∨ b = s1.heap.objs.size := by simpa using hb
    have hle : s1.heap.objs.size ≤ b := by
      rcases e' with z | z
      · rw [z]; exact Nat.le_add_right _ _
      · rw [z]; exact Nat.le_refl _
    exact I1.fpOk hle (I1.hok.fresh hle)
theorem walk_enumT {K : PySem.W.Frag} {a : Addr} {xs : List V} : Walk (IteT K a) xs.length (fun H => SqT K H a xs) (YPair (fun i => some (.int (i : Nat))) (fun i => xs[i]?)) := by
  refine ⟨fun i _ hi q => ⟨xs, xs[i], q, by simp [hi]⟩, fun _ q => ⟨xs, q, rfl⟩, fun i H v H' _ q y => ?_⟩
  obtain ⟨T, x, h1, h2, h3, h4⟩ := y
  exact ⟨T, .int (i : Nat), x, h1, h2, h3, rfl, h4 xs q⟩
/-! ## enumerate(text) -/
def IteS (z : Str) : It :=
  ⟨fun i H => i < z.cps.size,
    fun i H v H' => ∃ T c, v = .ref T ∧ H T = none ∧ H' = upd H T (.tup [.int (i : Nat), .str ⟨#[c]⟩]) ∧ z.cps[i]? = some c,
    fun i H => z.cps.size = i⟩
theorem turn_enumS {P : Program} {w : World} {K : PySem.W.Frag} {elts : List Expr} {kk : Nat} {tpos : Pos} (z : Str) (zt : Tok) (e it : Addr) :
    Turn P w K (.Tuple elts kk tpos) (IteS z) [e, it] e (fun i h => (∃ old, IsEnum h e it ((i : Nat) : Int) old) ∧ h.IsStrIter it (strIterType z) z zt i ∧ e ≠ it) where
  mem := by simp
  obj := fun i h st b hb => by
    obtain ⟨⟨old, he⟩, ⟨o, ho, hc, hd⟩, _⟩ := st
    have e' : b = e ∨ b = it := by simpa using hb
    rcases e' with z | z
    · rw [z]; exact ⟨_, he, fun v q => nomatch q⟩
    · rw [z]; exact ⟨o, ho, fun v q => by rw [hd] at q; cases q⟩
  keep := fun i h h' st k => by
    obtain ⟨⟨old, he⟩, hi, hne⟩ := st
    obtain ⟨o, ho, hc, hd⟩ := hi
    exact ⟨⟨old, k e (by simp) _ he⟩, ⟨o, k it (by simp) o ho, hc, hd⟩, hne⟩
  item := by
    intro X hP hw hK hc i pins s σ H E I hf st hg
    subst hP hw hK
    obtain ⟨⟨old, he⟩, hit, hne⟩ := st
    have hel : e < s.heap.objs.size := Heap.lt_size he
    have hil : it < s.heap.objs.size := by obtain ⟨_, q, _⟩ := hit; exact Heap.lt_size q
    refine wpAny_pyNext_enum_itemD (Draws.text (A := X.A.in1) (I.ok.hd hc) it z zt) he hit hg hne (by simp only [List.mem_cons, List.not_mem_nil, or_false]; exact hne) fun y h' tk hy ho hst' hT hsz hk => ?_
    obtain ⟨c, u, hcx, rfl⟩ := hy
    refine ⟨_, rfl, wpAny_letOwnedTupleGo_enum (s := { s with heap := h', toks := tk + 1 }) ho fun h'' he' sb => ?_⟩
    have hT2 : h''.get? s.heap.objs.size = some { cls := .type "tuple", data := .seq #[.int i tk, .str ⟨#[c]⟩ u] } := (sb.2 _ (Nat.ne_of_gt hel)).trans hT
    have new : ObjOk X.prog X.w (upd H s.heap.objs.size (.tup [.int (i : Nat), .str ⟨#[c]⟩])) h'' s.heap.objs.size (.tup [.int (i : Nat), .str ⟨#[c]⟩]) :=
      ⟨by show 2 ≤ sizeLine; decide, [.int i tk, .str ⟨#[c]⟩ u], .cons ⟨_, rfl⟩ (.cons ⟨_, rfl⟩ .nil), ⟨_, hT2, rfl, _, rfl⟩⟩
    have I1 : Inv X pins σ (upd H s.heap.objs.size (.tup [.int (i : Nat), .str ⟨#[c]⟩])) { s with heap := h'', toks := tk + 1 } :=
      I.turnedNew (ch := [e, it]) (fun b ob hb q => (sb.2 b (fun z => hb (by simp [z]))).trans (hk b ob (fun z => hb (by simp [z])) (fun z => hb (by simp [z])) q)) hf (Nat.le_refl _) new
    obtain ⟨oi, hoi, hci, hdi⟩ := hst'
    refine ⟨.ref s.heap.objs.size, _, I1, rfl, ⟨_, c, rfl, I.hok.fresh (Nat.le_refl _), rfl, hcx⟩, ⟨⟨.str ⟨#[c]⟩ u, ?_⟩, ⟨oi, (sb.2 it (Ne.symm hne)).trans hoi, hci, hdi⟩, hne⟩, fun b hb => ?_⟩
    · have e1 : ((i + 1 : Nat) : Int) = (i : Int) + 1 := by omega
      rw [e1]; exact he'
    · have hb' : b < s.heap.objs.size := by
        have e' : b = e ∨ b = it := by simpa using hb
        rcases e' with z | z
        · rw [z]; exact hel
        · rw [z]; exact hil
      rw [upd_ne (Nat.ne_of_lt hb')]
      exact (hf b hb).1
  done := by
    intro X hP hw hK hc i pins s σ H E I hf st hg
    subst hP hw hK
    obtain ⟨⟨old, he⟩, hit, hne⟩ := st
    obtain ⟨f0, f1, f2, f3, f4, f5⟩ := hf it (by simp)
    have hi : z.cps.size = i := hg
    subst hi
    exact wpAny_pyNext_enum_endD (Draws.text (A := X.A.in1) (I.ok.hd hc) it z zt) he hit fun h' eb => ⟨rfl, I.turned (t' := s.toks) (fun b o hb q => eb b o hb q) f0 f1 f3 f4 f5⟩
  self := fun A i s Q E st h => let ⟨⟨_, he⟩, _⟩ := st; wpAny_pyIter_enum he h
def iEnumS (ta : TA) : TI := fun σ H R => ta σ H fun vs H1 => ∃ z, vs = [.str z] ∧ R (IteS z) H1
theorem pi_enumS {X : Cx} {e : Expr} {ta : TA} {p pos tpos : Pos} {elts : List Expr} {kk : Nat} (hg : Gl X "enumerate") (hm : X.mg "enumerate" = none) (ha : PA X [e] ta) (hs : starEach [e] X.env = [(false, eval e X.env)] := by rfl) :
    PI X (.Tuple elts kk tpos) (.Call (.Name "enumerate" p) [e] [] pos) (iEnumS ta) := by
  refine ⟨fun pins s σ H R I h => ?_⟩
  refine Call_ (ld_blt I hg hm boot_enumerate (PyProof.Rows.callWith_type1 (thn (ha.run pos pins s σ H _ I h) fun us s1 ⟨vs, H1, I1, r1, q1⟩ => ?_) hs rfl))
  obtain ⟨z, ex, q⟩ := q1
  subst ex
  cases r1 with
  | cons r rr =>
    cases rr
    obtain ⟨t, rfl⟩ := r
    refine enum1 (begins_text z t) trivial fun h' he hit hsz hk => wpAny_pyIter_enum he ?_
    have I2 : Inv X pins σ H1 { s1 with heap := h' } := I1.kept (t' := s1.toks) hk
    refine ⟨s1.heap.objs.size + 1, [s1.heap.objs.size + 1, s1.heap.objs.size], _, _, H1, rfl, I2, turn_enumS z t (s1.heap.objs.size + 1) s1.heap.objs.size, ⟨⟨.none, he⟩, ⟨_, hit, rfl, rfl⟩, Nat.succ_ne_self _⟩, fun b hb => ?_, q⟩
    have e' : b = s1.heap.objs.size + 1 ∨ b = s1.heap.objs.size := by simpa using hb
    have hle : s1.heap.objs.size ≤ b := by
      rcases e' with z | z
      · rw [z]; exact Nat.le_add_right _ _
      · rw [z]; exact Nat.le_refl _
    exact I1.fpOk hle (I1.hok.fresh hle)
theorem walk_enumS {z : Str} : Walk (IteS z) z.cps.size (fun _ => True) (YPair (fun i => some (.int (i : Nat))) (fun i => (z.cps[i]?).map fun c => .str ⟨#[c]⟩)) := by
  refine ⟨fun i _ hi q => hi, fun _ q => rfl, fun i H v H' _ q y => ?_⟩
  obtain ⟨T, c, h1, h2, h3, h4⟩ := y
  exact ⟨T, .int (i : Nat), .str ⟨#[c]⟩, h1, h2, h3, rfl, by show Option.map _ z.cps[i]? = _; rw [h4]; rfl⟩
end VSE

end

section
set_option linter.all false
set_option maxRecDepth 100000
set_option maxHeartbeats 1000000
namespace VS
open PySem L2
/-! ## what is walked -/
def GK (F : Addr → Prop) (H : Hp) (P : Addr → Prop) : Hp → Prop := fun H2 => ∃ F2, Kp F H P F2 H2
def YK (F : Addr → Prop) (H : Hp) (P : Addr → Prop) (items : List D) : Nat → Hp → V → Hp → Prop := fun i H2 x H3 => (∀ a o, H2 a = some o → H3 a = some o) ∧ ∀ F2, Kp F H P F2 H2 → ∃ d, items[i]? = some d ∧ Rep F2 H3 d x []
section
variable (clA : Str → Addr) (pv : Pv) (W : WX)
structure IOk (σ : L2.St) (F : Addr → Prop) (H : Hp) (φ : Nat → List Addr) (env' : EnvD) (t : Its) (F' : Addr → Prop) (H' : Hp) (φm : Nat → List Addr) (envm : EnvD) (J : L2.It) : Prop where
  sr : Sta F' σ H' envm φm pv
  asd : Aside t.lk envm env'
  stp : Stp F H (Own φ) F' H' (Own φm)
  w : Walk J t.items.length (GK F' H' (Own (offφ (t.lk.map (·.1)) φm))) (YK F' H' (Own (offφ (t.lk.map (·.1)) φm)) t.items)
def tIt (f : EnvD → Res Its) : TI := fun σ H R => ∃ F env φ, Sta F σ H env φ pv ∧ Post (XOut clA pv W σ F H φ) (fun t env' => ∀ F' H' φm envm J, IOk pv σ F H φ env' t F' H' φm envm J → R J H') (f env)
end
section
variable {F F2 : Addr → Prop} {H H2 : Hp} {P : Addr → Prop} {ds : List D} {vs : List V} {v : V} {fp fq : List Addr} {K : PySem.W.Frag}
theorem Kp.reps (k : Kp F H P F2 H2) (hF : ∀ a, F a → ¬ P a) (hT : ∀ a xs, H a = some (.tup xs) → ¬ P a) (hn : ∀ a ∈ fq, ¬ P a) (r : Reps F H ds vs fq) : Reps F2 H2 ds vs fq := Reps.keep k.k hF hT k.f1 ds vs fq hn r
theorem hold_lst {f : Bool} (hF : ∀ a, F a → ¬ P a) (hT : ∀ a xs, H a = some (.tup xs) → ¬ P a) (r : Rep F H (.lst f ds) v fp) (hn : ∀ a ∈ fp, ¬ P a) (sk : shrs ds = true) :
    ∃ a vs, v = .ref a ∧ vs.length = ds.length ∧ ∀ F2 H2, Kp F H P F2 H2 → SqL K H2 a vs ∧ Reps F2 H2 ds vs [] := by
  cases f with
  | true =>
    simp only [Rep] at r
    obtain ⟨a, vs, rfl, fa, hd, hr, _⟩ := r
    refine ⟨a, vs, rfl, hr.length, fun F2 H2 k => ⟨.inl ?_, k.reps hF hT (fun _ h => nomatch h) hr⟩⟩
    rcases hd with q | ⟨o, q⟩
    · exact .inl (k.k a _ q (hF a fa))
    · exact .inr ⟨o, k.k a _ q (hF a fa)⟩
  | false =>
    simp only [Rep] at r
    obtain ⟨a, vs, fq, rfl, q, hr, rfl⟩ := r
    refine ⟨a, vs, rfl, hr.length, fun F2 H2 k => ⟨SqL.of (k.k a _ q (hn a (by simp))), k.reps hF hT (fun _ h => nomatch h) (hr.kids0 sk)⟩⟩
theorem hold_tup (hF : ∀ a, F a → ¬ P a) (hT : ∀ a xs, H a = some (.tup xs) → ¬ P a) (r : Rep F H (.tup ds) v fp) (sk : shrs ds = true) :
    ∃ a vs, v = .ref a ∧ vs.length = ds.length ∧ ∀ F2 H2, Kp F H P F2 H2 → SqT K H2 a vs ∧ Reps F2 H2 ds vs [] := by
  simp only [Rep] at r
  obtain ⟨a, vs, rfl, q, hr⟩ := r
  exact ⟨a, vs, rfl, hr.length, fun F2 H2 k => ⟨SqT.of (k.k a _ q (hT a _ q)), k.reps hF hT (fun _ h => nomatch h) (hr.kids0 sk)⟩⟩
/-- the item at a place -/
theorem Reps.item {i : Nat} {x : V} (r : Reps F H ds vs []) (h : vs[i]? = some x) : ∃ d, ds[i]? = some d ∧ Rep F H d x [] := by
  have hl := r.length
  have hi := get_lt h
  have e : ds[i]? = some (ds[i]'(by omega)) := List.getElem?_eq_getElem (by omega)
  obtain ⟨u, f, e1, e2, e3, _⟩ := r.get e
  rw [h] at e1
  cases e1
  refine ⟨_, e, ?_⟩
  have : f = [] := List.eq_nil_iff_forall_not_mem.mpr fun a ha => nomatch e3 a ha
  rw [this] at e2
  exact e2
theorem Rep.pair {d e : D} {x y : V} {T : Addr} (hT : H T = none) (r1 : Rep F H d x []) (r2 : Rep F H e y []) : Rep F (upd H T (.tup [x, y])) (.tup [d, e]) (.ref T) [] :=
  ⟨T, [x, y], rfl, upd_same, ⟨x, [y], [], [], rfl, rfl, r1.same (upd_keeps hT) fun _ h => h, ⟨y, [], [], [], rfl, rfl, r2.same (upd_keeps hT) fun _ h => h, rfl, rfl⟩⟩⟩
theorem str_item {z : Str} {i : Nat} {c : Nat} (h : z.cps[i]? = some c) : (z.cps.toList.map fun c => D.str ⟨#[c]⟩)[i]? = some (.str ⟨#[c]⟩) := by
  rw [List.getElem?_map, Array.getElem?_toList, h]; rfl
end
section
variable {X : Cx} {C : CtxD} {clA : Str → Addr} {pv : Pv} {W : WX} {e a b c tg : Expr} {e' a' b' c' : E} {pos : Pos} {u : Nat → Bool}
theorem tSrc.mk {α : Type} {σ : L2.St} {F : Addr → Prop} {H : Hp} {φ : Nat → List Addr} {env : EnvD} {f : EnvD → Res (D × List (Nat × D))} {k : D × List (Nat × D) → EnvD → Res α} {O : α → EnvD → Prop} {Q : VK} (s : Sta F σ H env φ pv) (h : Post (XOut clA pv W σ F H φ) O ((f env).bind k))
    (hk : ∀ p env1 F' H' φm envm v fp, f env = .ok p env1 → Src pv σ F H φ env1 p.1 p.2 F' H' φm envm v fp → Post (XOut clA pv W σ F H φ) O (k p env1) → Q v H') : tSrc clA pv W f σ H Q :=
  ⟨F, env, φ, s, (Post.bind.mp h).mono (fun _ _ _ x => x) fun p env1 e o F' H' φm envm v fp S => hk p env1 F' H' φm envm v fp e S o⟩
theorem Src.nF {σ : L2.St} {F F' : Addr → Prop} {H H' : Hp} {φ φm : Nat → List Addr} {env' envm : EnvD} {d : D} {lk : List (Nat × D)} {v : V} {fp : List Addr} (S : Src pv σ F H φ env' d lk F' H' φm envm v fp) : (∀ a, F' a → ¬ Own (offφ (lk.map (·.1)) φm) a) ∧ (∀ a xs, H' a = some (.tup xs) → ¬ Own (offφ (lk.map (·.1)) φm) a) ∧ ∀ a ∈ fp, ¬ Own (offφ (lk.map (·.1)) φm) a :=
  ⟨fun a f h => S.sr.nfO f (Own_off' h), fun a xs e h => S.sr.notup e (Own_off' h), fun a h => (S.ap a h).2⟩
theorem Src.io {σ : L2.St} {F F' : Addr → Prop} {H H' : Hp} {φ φm : Nat → List Addr} {env' envm : EnvD} {d : D} {lk : List (Nat × D)} {v : V} {fp : List Addr} {items : List D} {J : L2.It} (S : Src pv σ F H φ env' d lk F' H' φm envm v fp)
    (w : Walk J items.length (GK F' H' (Own (offφ (lk.map (·.1)) φm))) (YK F' H' (Own (offφ (lk.map (·.1)) φm)) items)) : IOk pv σ F H φ env' ⟨items, lk⟩ F' H' φm envm J := ⟨S.sr, S.asd, S.stp, w⟩
theorem snd_over (h : ESound X C clA pv W e e') : PI X tg e (tIt clA pv W (evIt C u (.over e'))) := by
  refine PI.imp (PI.or (pi_list (snd_src (u := u) h)) (PI.or (pi_tup (snd_src (u := u) h)) (pi_str (snd_src (u := u) h)))) fun σ H R ⟨F, env, φ, s, q⟩ => ?_
  have q : Post (XOut clA pv W σ F H φ) (fun t env' => ∀ F' H' φm envm J, IOk pv σ F H φ env' t F' H' φm envm J → R J H') ((srcOf u e' (ev C .esc e' env) env).bind fun p env => itsOf p.1.items p.2 env) := q
  cases hc : srcOf u e' (ev C .esc e' env) env with
  | no => rw [hc] at q; exact q.elim
  | exc _ _ _ => exact .inl (tSrc.mk s q fun p env1 F' H' φm envm v fp e1 => by rw [hc] at e1; cases e1)
  | ok p env1 =>
    obtain ⟨d, lk⟩ := p
    have q0 := q
    rw [hc] at q0
    cases d with
    | lst f ds =>
      refine .inl (tSrc.mk s q fun p env1' F' H' φm envm v fp e1 S o => ?_)
      rw [hc] at e1
      cases e1
      obtain ⟨n1, n2, n3⟩ := S.nF
      obtain ⟨a, vs, rfl, hl, hk⟩ := hold_lst (K := X.K) n1 n2 S.rep n3 S.sk
      refine ⟨a, rfl, ⟨vs, (hk F' H' ⟨fun _ h => h, fun _ _ h _ => h⟩).1⟩, o F' H' φm envm _ (S.io ?_)⟩
      rw [← hl]
      exact walk_list.mono (fun H2 ⟨F2, k⟩ => (hk F2 H2 k).1) fun i H2 x H3 hi hg y => by
        obtain ⟨rfl, y⟩ := y
        exact ⟨fun _ _ h => h, fun F2 k => (hk F2 _ k).2.item y⟩
    | tup ds =>
      refine .inr (.inl (tSrc.mk s q fun p env1' F' H' φm envm v fp e1 S o => ?_))
      rw [hc] at e1
      cases e1
      obtain ⟨n1, n2, n3⟩ := S.nF
      obtain ⟨a, vs, rfl, hl, hk⟩ := hold_tup (K := X.K) n1 n2 S.rep S.sk
      refine ⟨a, rfl, ⟨vs, (hk F' H' ⟨fun _ h => h, fun _ _ h _ => h⟩).1⟩, o F' H' φm envm _ (S.io ?_)⟩
      rw [← hl]
      exact walk_tup.mono (fun H2 ⟨F2, k⟩ => (hk F2 H2 k).1) fun i H2 x H3 hi hg y => by
        obtain ⟨rfl, y⟩ := y
        exact ⟨fun _ _ h => h, fun F2 k => (hk F2 _ k).2.item y⟩
    | str z =>
      refine .inr (.inr (tSrc.mk s q fun p env1' F' H' φm envm v fp e1 S o => ?_))
      rw [hc] at e1
      cases e1
      refine ⟨z, S.rep.1, o F' H' φm envm _ (S.io ?_)⟩
      rw [show (z.cps.toList.map fun c => D.str ⟨#[c]⟩).length = z.cps.size by simp]
      exact walk_str.mono (fun H2 _ => trivial) fun i H2 x H3 hi hg y => by
        obtain ⟨rfl, c, y, rfl⟩ := y
        exact ⟨fun _ _ h => h, fun F2 k => ⟨_, str_item y, rfl, rfl⟩⟩
    | _ => exact q0.elim
theorem rangeL_get {lo : Int} {n i : Nat} (h : i < n) : (rangeL lo n)[i]? = some (.int (lo + (i : Nat))) := by
  unfold rangeL
  rw [List.getElem?_map, List.getElem?_range h]; rfl
theorem rng_io {σ : L2.St} {F F1 : Addr → Prop} {H H1 : Hp} {φ φ1 : Nat → List Addr} {env1 : EnvD} {lo : Int} {n : Nat} (s : Sta F1 σ H1 env1 φ1 pv) (st : Stp F H (Own φ) F1 H1 (Own φ1)) : IOk pv σ F H φ env1 ⟨rangeL lo n, []⟩ F1 H1 φ1 env1 (Itr lo n) := by
  refine ⟨s, .nil, st, ?_⟩
  rw [show (rangeL lo n).length = n by simp [rangeL]]
  exact walk_range.mono (fun _ _ => trivial) fun i H2 x H3 hi hg y => by
    obtain ⟨rfl, rfl⟩ := y
    exact ⟨fun _ _ h => h, fun F2 k => ⟨_, rangeL_get hi, rfl, rfl⟩⟩
theorem rngOk_spec {i : Int} (h : rngOk i = true) : -(2 ^ 62) ≤ i ∧ i < 2 ^ 62 := by
  unfold rngOk at h
  have h := of_decide_eq_true h
  omega
def Es.len : Es → Nat
  | .nil => 0
  | .cons _ es => es.len + 1
theorem evs_len : ∀ {es' : Es} {env env1 : EnvD} {ds : List D}, evs C es' env = .ok ds env1 → ds.length = es'.len
  | .nil, env, env1, ds, h => by cases h; rfl
  | .cons e es, env, env1, ds, h => by
    simp only [evs] at h
    cases h1 : ev C .esc e env with
    | ok d env2 =>
      rw [h1] at h
      simp only [Res.bind] at h
      cases h2 : evs C es env2 with
      | ok ds2 env3 =>
        rw [h2] at h
        cases h
        simp [Es.len, evs_len h2]
      | exc _ _ _ => rw [h2] at h; cases h
      | no => rw [h2] at h; cases h
    | exc _ _ _ => rw [h1] at h; cases h
    | no => rw [h1] at h; cases h
theorem trEs_len {f : Expr → Option E} : ∀ {es : List Expr} {es' : Es}, trEs f es = some es' → es'.len = es.length
  | [], es', h => by cases h; rfl
  | e :: es, es', h => by
    simp only [trEs] at h
    cases h1 : f e with
    | none => rw [h1] at h; cases h
    | some x =>
      rw [h1] at h
      cases h2 : trEs f es with
      | none => rw [Option.bind_some, h2] at h; cases h
      | some y =>
        rw [Option.bind_some, h2] at h
        cases h
        simp [Es.len, trEs_len h2]
theorem snd_rng1 {es' : Es} {p0 : Pos} (hl : es'.len = 1) (hg : Gl X "range") (hm : X.mg "range" = none) (hst : notStar a = true) (h : PA X [a] (tAE clA pv W true es'.cf (evs C es'))) : PI X tg (.Call (.Name "range" p0) [a] [] pos) (tIt clA pv W (evIt C u (.rng es'))) := by
  refine PI.imp (pi_range1 hg hm h (starEach_cons hst)) fun σ H R ⟨F, env, φ, s, q⟩ => ?_
  have q : Post (XOut clA pv W σ F H φ) (fun t env' => ∀ F' H' φm envm J, IOk pv σ F H φ env' t F' H' φm envm J → R J H') ((evs C es' env).bind fun ds env => itsOf (rangeD ds) [] env) := q
  refine tAE.sub2 s (Stp.refl ..) q fun ds env1 F1 H1 φ1 vs fd e1 A o => ?_
  have hl2 := evs_len e1
  rw [hl] at hl2
  match ds, hl2, o, A with
  | [.int j], _, o, A =>
    simp only [rangeD] at o
    split at o
    · rename_i hj
      obtain ⟨v, rfl, r⟩ := A.rep.one'
      have o : ∀ F' H' φm envm J, IOk pv σ F H φ env1 ⟨rangeL 0 j.toNat, []⟩ F' H' φm envm J → R J H' := o
      exact ⟨j, by rw [r.1], (rngOk_spec hj).1, (rngOk_spec hj).2, o _ _ _ _ _ (rng_io A.sr A.st)⟩
    · exact o.elim
  | [.non], _, o, _ => exact o.elim
  | [.bl _], _, o, _ => exact o.elim
  | [.str _], _, o, _ => exact o.elim
  | [.lst _ _], _, o, _ => exact o.elim
  | [.tup _], _, o, _ => exact o.elim
theorem snd_rng2 {es' : Es} {p0 : Pos} (hl : es'.len = 2) (hg : Gl X "range") (hm : X.mg "range" = none) (hst : notStar a = true) (hst2 : notStar b = true) (h : PA X [a, b] (tAE clA pv W true es'.cf (evs C es'))) : PI X tg (.Call (.Name "range" p0) [a, b] [] pos) (tIt clA pv W (evIt C u (.rng es'))) := by
  refine PI.imp (pi_range2 hg hm h (by rw [starEach_cons hst, starEach_cons hst2]; rfl) (starEach_cons hst2)) fun σ H R ⟨F, env, φ, s, q⟩ => ?_
  have q : Post (XOut clA pv W σ F H φ) (fun t env' => ∀ F' H' φm envm J, IOk pv σ F H φ env' t F' H' φm envm J → R J H') ((evs C es' env).bind fun ds env => itsOf (rangeD ds) [] env) := q
  refine tAE.sub2 s (Stp.refl ..) q fun ds env1 F1 H1 φ1 vs fd e1 A o => ?_
  have hl2 := evs_len e1
  rw [hl] at hl2
  match ds, hl2, o, A with
  | [d, e], _, o, A =>
    cases d with
    | int i => cases e with
      | int j =>
        simp only [rangeD] at o
        split at o
        · rename_i hj
          rw [Bool.and_eq_true] at hj
          obtain ⟨v, w, f1, f2, rfl, r1, r2⟩ := A.rep.two'
          have o : ∀ F' H' φm envm J, IOk pv σ F H φ env1 ⟨rangeL i (j - i).toNat, []⟩ F' H' φm envm J → R J H' := o
          exact ⟨i, j, by rw [r1.1, r2.1], ⟨(rngOk_spec hj.1).1, (rngOk_spec hj.1).2, (rngOk_spec hj.2).1, (rngOk_spec hj.2).2⟩, o _ _ _ _ _ (rng_io A.sr A.st)⟩
        · exact o.elim
      | _ => exact o.elim
    | _ => cases e <;> exact o.elim
theorem snd_enum {p0 tpos : Pos} {elts : List Expr} {kk : Nat} (hg : Gl X "enumerate") (hm : X.mg "enumerate" = none) (hst : notStar e = true) (h : ESound X C clA pv W e e') : PI X (.Tuple elts kk tpos) (.Call (.Name "enumerate" p0) [e] [] pos) (tIt clA pv W (evIt C u (.enum e'))) := by
  refine PI.imp (PI.or (pi_enum hg hm (pa_cons (snd_src (u := u) h) pa_nil (starEach_cons hst)) (starEach_cons hst)) (PI.or (VSE.pi_enumT hg hm (pa_cons (snd_src (u := u) h) pa_nil (starEach_cons hst)) (starEach_cons hst)) (VSE.pi_enumS hg hm (pa_cons (snd_src (u := u) h) pa_nil (starEach_cons hst)) (starEach_cons hst)))) fun σ H R ⟨F, env, φ, s, q⟩ => ?_
  have q : Post (XOut clA pv W σ F H φ) (fun t env' => ∀ F' H' φm envm J, IOk pv σ F H φ env' t F' H' φm envm J → R J H') ((srcOf u e' (ev C .esc e' env) env).bind fun p env => itsOf (enumD p.1) p.2 env) := q
  cases hc : srcOf u e' (ev C .esc e' env) env with
  | no => rw [hc] at q; exact q.elim
  | exc _ _ _ => exact .inl (tSrc.mk s q fun p env1 F' H' φm envm v fp e1 => by rw [hc] at e1; cases e1)
  | ok p env1 =>
    obtain ⟨d, lk⟩ := p
    have q0 := q
    rw [hc] at q0
    cases d with
    | lst f ds =>
      refine .inl (tSrc.mk s q fun p env1' F' H' φm envm v fp e1 S o => ?_)
      rw [hc] at e1
      cases e1
      obtain ⟨n1, n2, n3⟩ := S.nF
      obtain ⟨a, vs, rfl, hl, hk⟩ := hold_lst (K := X.K) n1 n2 S.rep n3 S.sk
      refine ⟨a, vs, rfl, (hk F' H' ⟨fun _ h => h, fun _ _ h _ => h⟩).1, o F' H' φm envm _ (S.io ?_)⟩
      rw [show (ds.mapIdx fun k d => D.tup [.int k, d]).length = vs.length by simp [hl]]
      exact walk_enum.mono (fun H2 ⟨F2, k⟩ => (hk F2 H2 k).1) fun i H2 x H3 hi hg y => by
        obtain ⟨T, x, y, rfl, hT, rfl, ex, ey⟩ := y
        cases ex
        refine ⟨upd_keeps hT, fun F2 k => ?_⟩
        obtain ⟨d, e1, r⟩ := (hk F2 _ k).2.item ey
        exact ⟨_, by rw [List.getElem?_mapIdx, e1]; rfl, Rep.pair (d := .int (i : Nat)) hT ⟨rfl, rfl⟩ r⟩
    | tup ds =>
      refine .inr (.inl (tSrc.mk s q fun p env1' F' H' φm envm v fp e1 S o => ?_))
      rw [hc] at e1
      cases e1
      obtain ⟨n1, n2, n3⟩ := S.nF
      obtain ⟨a, vs, rfl, hl, hk⟩ := hold_tup (K := X.K) n1 n2 S.rep S.sk
      refine ⟨a, vs, rfl, (hk F' H' ⟨fun _ h => h, fun _ _ h _ => h⟩).1, o F' H' φm envm _ (S.io ?_)⟩
      rw [show (ds.mapIdx fun k d => D.tup [.int k, d]).length = vs.length by simp [hl]]
      exact VSE.walk_enumT.mono (fun H2 ⟨F2, k⟩ => (hk F2 H2 k).1) fun i H2 x H3 hi hg y => by
        obtain ⟨T, x, y, rfl, hT, rfl, ex, ey⟩ := y
        cases ex
        refine ⟨upd_keeps hT, fun F2 k => ?_⟩
        obtain ⟨d, e1, r⟩ := (hk F2 _ k).2.item ey
        exact ⟨_, by rw [List.getElem?_mapIdx, e1]; rfl, Rep.pair (d := .int (i : Nat)) hT ⟨rfl, rfl⟩ r⟩
    | str z =>
      refine .inr (.inr (tSrc.mk s q fun p env1' F' H' φm envm v fp e1 S o => ?_))
      rw [hc] at e1
      cases e1
      refine ⟨z, by rw [S.rep.1], o F' H' φm envm _ (S.io ?_)⟩
      rw [show (z.cps.toList.mapIdx fun k c => D.tup [.int k, .str ⟨#[c]⟩]).length = z.cps.size by simp]
      exact VSE.walk_enumS.mono (fun H2 _ => trivial) fun i H2 x H3 hi hg y => by
        obtain ⟨T, x, y, rfl, hT, rfl, ex, ey⟩ := y
        cases ex
        refine ⟨upd_keeps hT, fun F2 k => ?_⟩
        have ey : Option.map (fun c => V.str ⟨#[c]⟩) z.cps[i]? = some y := ey
        cases ez : z.cps[i]? with
        | none => rw [ez] at ey; cases ey
        | some c =>
          rw [ez] at ey
          cases ey
          exact ⟨.tup [.int (i : Nat), .str ⟨#[c]⟩], by rw [List.getElem?_mapIdx, Array.getElem?_toList, ez]; rfl, Rep.pair (d := .int (i : Nat)) (e := .str ⟨#[c]⟩) hT ⟨rfl, rfl⟩ ⟨rfl, rfl⟩⟩
    | _ => exact q0.elim
theorem zipWith_get {α β γ : Type} {f : α → β → γ} {xs : List α} {ys : List β} {i : Nat} {x : α} {y : β} (h1 : xs[i]? = some x) (h2 : ys[i]? = some y) : (List.zipWith f xs ys)[i]? = some (f x y) := by
  rw [List.getElem?_zipWith, h1, h2]
theorem snd_rev {p0 : Pos} (hg : Gl X "reversed") (hm : X.mg "reversed" = none) (hst : notStar e = true) (h : ESound X C clA pv W e e') : PI X tg (.Call (.Name "reversed" p0) [e] [] pos) (tIt clA pv W (evIt C u (.rev e'))) := by
  refine PI.imp (RT.pi_revA hg hm (snd_src (u := u) h) (starEach_cons hst)) fun σ H R ⟨F, env, φ, s, q⟩ => ?_
  have q : Post (XOut clA pv W σ F H φ) (fun t env' => ∀ F' H' φm envm J, IOk pv σ F H φ env' t F' H' φm envm J → R J H') ((srcOf u e' (ev C .esc e' env) env).bind fun p env => itsOf (revD p.1) p.2 env) := q
  refine tSrc.mk s q fun p env1 F' H' φm envm v fp e1 S o => ?_
  obtain ⟨d, lk⟩ := p
  cases d with
  | lst f ds =>
    obtain ⟨n1, n2, n3⟩ := S.nF
    obtain ⟨a, vs, rfl, hl, hk⟩ := hold_lst (K := X.K) n1 n2 S.rep n3 S.sk
    refine ⟨a, vs, rfl, .inl ⟨(hk F' H' ⟨fun _ h => h, fun _ _ h _ => h⟩).1, o F' H' φm envm _ (S.io ?_)⟩⟩
    rw [List.length_reverse, ← hl]
    exact walk_rev.mono (fun H2 ⟨F2, k⟩ => (hk F2 H2 k).1) fun i H2 x H3 hi hg y => by
      obtain ⟨rfl, y⟩ := y
      refine ⟨fun _ _ h => h, fun F2 k => ?_⟩
      obtain ⟨d, e1, r⟩ := (hk F2 _ k).2.item y
      exact ⟨d, by rw [List.getElem?_reverse (by omega), ← hl]; exact e1, r⟩
  | tup ds =>
    obtain ⟨n1, n2, n3⟩ := S.nF
    obtain ⟨a, vs, rfl, hl, hk⟩ := hold_tup (K := X.K) n1 n2 S.rep S.sk
    refine ⟨a, vs, rfl, .inr ⟨(hk F' H' ⟨fun _ h => h, fun _ _ h _ => h⟩).1, o F' H' φm envm _ (S.io ?_)⟩⟩
    rw [List.length_reverse, ← hl]
    refine ⟨fun i H2 hi ⟨F2, k⟩ => ⟨hi, vs, vs[vs.length - 1 - i]'(by omega), (hk F2 H2 k).1, by simp [show vs.length - 1 - i < vs.length by omega]⟩, fun _ _ => Nat.le_refl _, fun i H2 x H3 hi ⟨F0, k0⟩ y => ?_⟩
    obtain ⟨rfl, y⟩ := y
    refine ⟨fun _ _ h => h, fun F2 k => ?_⟩
    obtain ⟨d, e1, r⟩ := (hk F2 _ k).2.item (y vs (hk F2 _ k).1)
    exact ⟨d, by rw [List.getElem?_reverse (by omega), ← hl]; exact e1, r⟩
  | _ => exact o.elim
theorem tSrc.sub2 {α : Type} {σ : L2.St} {F F1 : Addr → Prop} {H H1 : Hp} {φ φ1 : Nat → List Addr} {env1 : EnvD} {f : EnvD → Res (D × List (Nat × D))} {k : D × List (Nat × D) → EnvD → Res α} {O : α → EnvD → Prop} {Q : VK} (s : Sta F1 σ H1 env1 φ1 pv) (st : Stp F H (Own φ) F1 H1 (Own φ1)) (h : Post (XOut clA pv W σ F H φ) O ((f env1).bind k))
    (hk : ∀ p env2 F' H' φm envm v fp, f env1 = .ok p env2 → Src pv σ F1 H1 φ1 env2 p.1 p.2 F' H' φm envm v fp → Post (XOut clA pv W σ F H φ) O (k p env2) → Q v H') : tSrc clA pv W f σ H1 Q :=
  ⟨F1, env1, φ1, s, (Post.bind.mp h).mono (fun _ _ _ x => x.after st) fun p env1 e o F' H' φm envm v fp S => hk p env1 F' H' φm envm v fp e S o⟩
theorem putLk_len : ∀ {lk : List (Nat × D)} {env : EnvD}, (putLk lk env).length = env.length
  | [], _ => rfl
  | (i, d) :: r, env => by simp only [putLk, List.length_set]; exact putLk_len
theorem putLk_out {j : Nat} : ∀ {lk : List (Nat × D)} {env : EnvD}, j ∉ lk.map (·.1) → (putLk lk env)[j]? = env[j]?
  | [], _, _ => rfl
  | (i, d) :: r, env, h => by
    simp only [List.map_cons, List.mem_cons, not_or] at h
    simp only [putLk]
    rw [get_set_ne h.1]
    exact putLk_out h.2
theorem putLk_in {j : Nat} : ∀ {lk : List (Nat × D)} {env : EnvD}, j ∈ lk.map (·.1) → j < env.length → ∃ d, (j, d) ∈ lk ∧ (putLk lk env)[j]? = some (some d)
  | [], _, h, _ => by cases h
  | (i, d) :: r, env, h, hl => by
    simp only [putLk]
    by_cases hj : j = i
    · subst hj
      exact ⟨d, by simp, List.getElem?_set_self (by rw [putLk_len]; exact hl)⟩
    · rw [get_set_ne hj]
      simp only [List.map_cons, List.mem_cons] at h
      obtain ⟨d', h1, h2⟩ := putLk_in (h.resolve_left hj) hl
      exact ⟨d', by simp [h1], h2⟩
theorem Aside.put {lk : List (Nat × D)} {envm env' env2 : EnvD} (A : Aside lk envm env') (hl : env2.length = envm.length) {j : Nat} (h : j ∈ lk.map (·.1)) : (putLk lk env2)[j]? = envm[j]? := by
  have hj : j < env2.length := by
    obtain ⟨p, hp, rfl⟩ := List.mem_map.mp h
    rw [hl]
    exact get_lt (A.inn p hp).1
  obtain ⟨d, h1, h2⟩ := putLk_in h hj
  rw [h2, (A.inn (j, d) h1).1]
/-- two sources -/
theorem Src.two {σ : L2.St} {F F1 F2 : Addr → Prop} {H H1 H2 : Hp} {φ φm1 φm2 : Nat → List Addr} {env1 env2 envm1 envm2 : EnvD} {d1 d2 : D} {lk1 lk2 : List (Nat × D)} {v1 v2 : V} {fp1 fp2 : List Addr} (S1 : Src pv σ F H φ env1 d1 lk1 F1 H1 φm1 envm1 v1 fp1)
    (S2 : Src pv σ F1 H1 (offφ (lk1.map (·.1)) φm1) env2 d2 lk2 F2 H2 φm2 envm2 v2 fp2) (hz : zipOk lk1 lk2 env2 = true) : ∃ φm envm, Src pv σ F H φ env2 d1 (lk1 ++ lk2) F2 H2 φm envm v1 fp1 ∧ Src pv σ F H φ env2 d2 (lk1 ++ lk2) F2 H2 φm envm v2 fp2 := by
  have hz1 : ∀ p ∈ lk1, env2[p.1]? = some none ∧ p.1 ∉ lk2.map (·.1) := fun p hp => by
    have := List.all_eq_true.mp hz p hp
    split at this
    · rename_i e
      exact ⟨e, by simpa using this⟩
    · cases this
  have hlen : envm2.length = envm1.length := by rw [← S2.sr.len, S1.sr.len]
  have s3 : Sta F2 σ H2 (putLk lk1 envm2) (onφ (lk1.map (·.1)) φm1 φm2) pv := Sta.on S1.sr S2.sr S2.stp (fun _ h => h) (by rw [putLk_len]; exact S2.sr.len) (fun j hj => putLk_out hj) (fun j hj => S1.asd.put hlen hj) (fun _ _ _ h => h) (fun _ _ _ h _ => h) S1.sr.pv
  have sub : ∀ a, Own (offφ ((lk1 ++ lk2).map (·.1)) (onφ (lk1.map (·.1)) φm1 φm2)) a → Own (offφ (lk2.map (·.1)) φm2) a := fun a h => by
    obtain ⟨j, hj, h⟩ := Own_off h
    rw [List.map_append, List.mem_append, not_or] at hj
    rw [onφ_out hj.1] at h
    exact ⟨j, by rw [offφ_out hj.2]; exact h⟩
  have st3 : Stp F H (Own φ) F2 H2 (Own (onφ (lk1.map (·.1)) φm1 φm2)) := S1.stp.trans (Stp.on0 S2.stp)
  have A3 : Aside (lk1 ++ lk2) (putLk lk1 envm2) env2 := by
    refine ⟨by rw [putLk_len]; exact S2.asd.len, fun j hj => ?_, fun p hp => ?_⟩
    · rw [List.map_append, List.mem_append, not_or] at hj
      rw [putLk_out hj.1]
      exact S2.asd.out j hj.2
    · rcases List.mem_append.mp hp with hp | hp
      · exact ⟨by rw [S1.asd.put hlen (List.mem_map.mpr ⟨p, hp, rfl⟩)]; exact (S1.asd.inn p hp).1, (hz1 p hp).1⟩
      · refine ⟨?_, (S2.asd.inn p hp).2⟩
        rw [putLk_out]
        · exact (S2.asd.inn p hp).1
        · intro h
          obtain ⟨q, hq, e⟩ := List.mem_map.mp h
          exact (hz1 q hq).2 (e ▸ List.mem_map.mpr ⟨p, hp, rfl⟩)
  have ap1 := apart (P2 := Own φm2) (fd := fp1) (F1 := F1) (φ1 := offφ (lk1.map (·.1)) φm1) (fun a ha => S1.ap a ha) S1.rep.there S2.stp
  refine ⟨_, _, ⟨s3, A3, st3, Rep.keep S2.stp.k S1.nF.1 S1.nF.2.1 S2.stp.f1 d1 v1 fp1 (fun a ha => (S1.ap a ha).2) S1.rep, fun a ha => ⟨(ap1 a ha).1, fun h => (ap1 a ha).2 (Own_off' (sub a h))⟩, S1.sk⟩, ⟨s3, A3, st3, S2.rep, fun a ha => ⟨(S2.ap a ha).1, fun h => (S2.ap a ha).2 (sub a h)⟩, S2.sk⟩⟩
theorem walk_zipT {K : PySem.W.Frag} {a b : Addr} {xs ys : List V} {n : Nat} (hn : n = min xs.length ys.length) : Walk (RZ.ItzT K a b) n (fun H => SqT K H a xs ∧ SqT K H b ys) (YPair (fun i => xs[i]?) (fun i => ys[i]?)) := by
  subst hn
  refine ⟨fun i _ hi q => ?_, fun _ q => ⟨xs, ys, q.1, q.2, by omega⟩, fun i H v H' _ q y => ?_⟩
  · have h1 : i < xs.length := by omega
    have h2 : i < ys.length := by omega
    exact ⟨xs, ys, xs[i], ys[i], q.1, q.2, by simp [h1], by simp [h2]⟩
  · obtain ⟨T, x, z, h1, h2, h3, h4, h5⟩ := y
    exact ⟨T, x, z, h1, h2, h3, h4 xs q.1, h5 ys q.2⟩
theorem snd_zip {p0 tpos : Pos} {elts : List Expr} {kk : Nat} (hg : Gl X "zip") (hm : X.mg "zip" = none) (hst : notStar a = true) (hst2 : notStar b = true) (ha : ESound X C clA pv W a a') (hb : ESound X C clA pv W b b') : PI X (.Tuple elts kk tpos) (.Call (.Name "zip" p0) [a, b] [] pos) (tIt clA pv W (evIt C u (.zip a' b'))) := by
  have h1 := starEach_cons (es := [b]) (env := X.env) hst
  have h2 : (PySem.backTo pos (starEach [b] X.env)).any (·.1) = false := starEach_any fun e he => by simp at he; subst he; exact hst2
  refine PI.imp (RZ.pi_zipA hg hm (pa_cons (snd_src (u := fun k => u k || b'.uses k) ha) (pa_cons (snd_src (u := u) hb) pa_nil (starEach_cons hst2)) h1) h1 h2) fun σ H R ⟨F, env, φ, s, q⟩ => ?_
  have q : Post (XOut clA pv W σ F H φ) (fun t env' => ∀ F' H' φm envm J, IOk pv σ F H φ env' t F' H' φm envm J → R J H') ((srcOf (fun k => u k || b'.uses k) a' (ev C .esc a' env) env).bind fun p env => (srcOf u b' (ev C .esc b' env) env).bind fun q env => if zipOk p.2 q.2 env then itsOf (zipD p.1 q.1) (p.2 ++ q.2) env else .no) := q
  refine tSrc.mk s q fun p env1 F1 H1 φm1 envm1 v1 fp1 e1 S1 q1 => ?_
  refine tSrc.sub2 (S1.asd.sta S1.sr S1.sr.pv) (S1.stp.mono (fun _ h => h) fun _ h => .inl (Own_off' h)) q1 fun p2 env2 F2 H2 φm2 envm2 v2 fp2 e2 S2 o => ?_
  obtain ⟨d1, lk1⟩ := p
  obtain ⟨d2, lk2⟩ := p2
  simp only at o S1 S2
  split at o
  · rename_i hz
    obtain ⟨φm, envm, S3, S4⟩ := S1.two S2 hz
    obtain ⟨n1, n2, n3⟩ := S3.nF
    obtain ⟨_, _, n4⟩ := S4.nF
    cases d1 with
    | lst f1 ds1 =>
      cases d2 with
      | lst f2 ds2 =>
        obtain ⟨a1, vs1, rfl, hl1, hk1⟩ := hold_lst (K := X.K) n1 n2 S3.rep n3 S3.sk
        obtain ⟨a2, vs2, rfl, hl2, hk2⟩ := hold_lst (K := X.K) n1 n2 S4.rep n4 S4.sk
        refine ⟨a1, a2, vs1, vs2, rfl, .inl ⟨(hk1 F2 H2 ⟨fun _ h => h, fun _ _ h _ => h⟩).1, (hk2 F2 H2 ⟨fun _ h => h, fun _ _ h _ => h⟩).1, o F2 H2 φm envm _ (S3.io ?_)⟩⟩
        refine (walk_zip (xs := vs1) (ys := vs2) (by rw [List.length_zipWith, hl1, hl2])).mono (fun H2 ⟨F2, k⟩ => ⟨(hk1 F2 H2 k).1, (hk2 F2 H2 k).1⟩) fun i H2 x H3 hi hg y => ?_
        obtain ⟨T, x, y, rfl, hT, rfl, ex, ey⟩ := y
        refine ⟨upd_keeps hT, fun F2 k => ?_⟩
        obtain ⟨c1, e1, r1⟩ := (hk1 F2 _ k).2.item ex
        obtain ⟨c2, e2, r2⟩ := (hk2 F2 _ k).2.item ey
        exact ⟨_, zipWith_get e1 e2, Rep.pair hT r1 r2⟩
      | _ => exact o.elim
    | tup ds1 =>
      cases d2 with
      | tup ds2 =>
        obtain ⟨a1, vs1, rfl, hl1, hk1⟩ := hold_tup (K := X.K) n1 n2 S3.rep S3.sk
        obtain ⟨a2, vs2, rfl, hl2, hk2⟩ := hold_tup (K := X.K) n1 n2 S4.rep S4.sk
        refine ⟨a1, a2, vs1, vs2, rfl, .inr ⟨(hk1 F2 H2 ⟨fun _ h => h, fun _ _ h _ => h⟩).1, (hk2 F2 H2 ⟨fun _ h => h, fun _ _ h _ => h⟩).1, o F2 H2 φm envm _ (S3.io ?_)⟩⟩
        refine (walk_zipT (xs := vs1) (ys := vs2) (by rw [List.length_zipWith, hl1, hl2])).mono (fun H2 ⟨F2, k⟩ => ⟨(hk1 F2 H2 k).1, (hk2 F2 H2 k).1⟩) fun i H2 x H3 hi hg y => ?_
        obtain ⟨T, x, y, rfl, hT, rfl, ex, ey⟩ := y
        refine ⟨upd_keeps hT, fun F2 k => ?_⟩
        obtain ⟨c1, e1, r1⟩ := (hk1 F2 _ k).2.item ex
        obtain ⟨c2, e2, r2⟩ := (hk2 F2 _ k).2.item ey
        exact ⟨_, zipWith_get e1 e2, Rep.pair hT r1 r2⟩
      | _ => exact o.elim
    | _ => exact o.elim
  · exact o.elim
end
end VS

end

section
set_option linter.all false
set_option maxRecDepth 100000
set_option maxHeartbeats 1000000
namespace VS
open PySem L2
section
variable {σ : L2.St} {F : Addr → Prop} {H : Hp} {env : EnvD} {φ : Nat → List Addr} {pv : Pv} {i : Nat} {d : D} {v : V} {fd : List Addr}
/-- a name gets a tree that stands apart -/
theorem Sta.put (s : Sta F σ H env φ pv) (hi : i < env.length) (hp : ∀ p ∈ pv, p.1 ≠ i) (r : Rep F H d v fd) (nd : fd.Nodup) (ap : ∀ a ∈ fd, ¬ F a ∧ ¬ Own φ a) : Sta F (σ.set i (some v)) H (env.set i (some d)) (updφ φ i fd) pv where
  len := by simp [s.len]
  rep := fun j c e => by
    by_cases hj : j = i
    · subst hj
      rw [List.getElem?_set_self hi] at e
      cases e
      exact ⟨v, List.getElem?_set_self (by rw [s.len]; exact hi), by rw [updφ_same]; exact r⟩
    · rw [get_set_ne hj] at e
      obtain ⟨u, e1, e2⟩ := s.rep j c e
      exact ⟨u, by rw [get_set_ne hj]; exact e1, by rw [updφ_ne hj]; exact e2⟩
  emp := fun j h => by
    by_cases hj : j = i
    · subst hj
      exact absurd (List.getElem?_set_self hi) (h d)
    · rw [updφ_ne hj]
      exact s.emp j fun c e => h c (by rw [get_set_ne hj]; exact e)
  nd := fun j => by
    by_cases hj : j = i
    · subst hj; rw [updφ_same]; exact nd
    · rw [updφ_ne hj]; exact s.nd j
  dj := fun j k a hjk ha hb => by
    by_cases hj : j = i
    · subst hj
      rw [updφ_same] at ha
      rw [updφ_ne (Ne.symm hjk)] at hb
      exact (ap a ha).2 ⟨k, hb⟩
    · rw [updφ_ne hj] at ha
      by_cases hk : k = i
      · subst hk
        rw [updφ_same] at hb
        exact (ap a hb).2 ⟨j, ha⟩
      · rw [updφ_ne hk] at hb
        exact s.dj j k a hjk ha hb
  nf := fun j a h z => by
    by_cases hj : j = i
    · subst hj; rw [updφ_same] at h; exact (ap a h).1 z
    · rw [updφ_ne hj] at h; exact s.nf j a h z
  fh := s.fh
  pv := fun p hp' => by rw [get_set_ne (hp p hp')]; exact s.pv p hp'
  hx := s.hx
/-- .. whatever the place -/
theorem Sta.put' (s : Sta F σ H env φ pv) (hp : ∀ p ∈ pv, p.1 ≠ i) (r : Rep F H d v fd) (nd : fd.Nodup) (ap : ∀ a ∈ fd, ¬ F a ∧ ¬ Own φ a) : ∃ φ2, Sta F (σ.set i (some v)) H (env.set i (some d)) φ2 pv ∧ ∀ a, Own φ2 a → Own φ a ∨ a ∈ fd := by
  by_cases hi : i < env.length
  · refine ⟨_, s.put hi hp r nd ap, fun a ⟨j, h⟩ => ?_⟩
    by_cases hj : j = i
    · subst hj; rw [updφ_same] at h; exact .inr h
    · rw [updφ_ne hj] at h; exact .inl ⟨j, h⟩
  · refine ⟨φ, ?_, fun a h => .inl h⟩
    rw [List.set_eq_of_length_le (by rw [s.len]; omega), List.set_eq_of_length_le (by omega)]
    exact s
end
def tTg (pv : Pv) (tg : Tg) : TG := fun x σ H Q => ∃ F env φ d, Sta F σ H env φ pv ∧ Rep F H d x [] ∧ (∀ p ∈ pv, p.1 ∉ tg.slots) ∧ ∃ env1, setTg tg d env = some env1 ∧
  ∀ σ2 φ2, Sta F σ2 H env1 φ2 pv → (∀ a, Own φ2 a → Own φ a) → σ2.length = σ.length → (∀ j, j ∉ tg.slots → σ2[j]? = σ[j]?) → Q σ2 H
section
variable {X : Cx} {pv : Pv} {pos : Pos}
theorem tg_name {i : Nat} {x : Str} (hN : X.N.Nodup) (hi : X.N[i]? = some x) (hx : Loc X.env.scope x) (hf : X.fn x = true ∨ X.env.scope.names.lookup x = some .local) : PG X (.Name x pos) (tTg pv (.v i)) := by
  refine PG.imp (pg_name hN hi hx hf) fun v σ H Q ⟨F, env, φ, d, s, r, hp, env1, e, q⟩ => ?_
  cases e
  obtain ⟨φ2, s2, h2⟩ := s.put' (i := i) (fun p hp' z => hp p hp' (by simp [Tg.slots, z])) r List.nodup_nil (fun _ h => nomatch h)
  exact q _ φ2 s2 (fun a h => (h2 a h).elim id fun z => nomatch z) (by simp) fun j hj => get_set_ne (by simpa [Tg.slots] using hj)
/-- several names -/
def tTgs (pv : Pv) (is : List Nat) : TGs := fun vs σ H Q => ∃ F env φ ds, Sta F σ H env φ pv ∧ Reps F H ds vs [] ∧ is.length = ds.length ∧ (∀ p ∈ pv, p.1 ∉ is) ∧
  ∀ σ2 φ2, Sta F σ2 H ((is.zip ds).foldl (fun e p => e.set p.1 (some p.2)) env) φ2 pv → (∀ a, Own φ2 a → Own φ a) → σ2.length = σ.length → (∀ j, j ∉ is → σ2[j]? = σ[j]?) → Q σ2 H
def nmTg (sc : Scope) (N : List Str) (fn : Str → Bool) : List Expr → List Nat → Prop
  | [], is => is = []
  | .Name x _ :: es, is => ∃ i r, is = i :: r ∧ N[i]? = some x ∧ Loc sc x ∧ (fn x = true ∨ sc.names.lookup x = some .local) ∧ nmTg sc N fn es r
  | _, _ => False
theorem nm_each {sc : Scope} {N : List Str} {fn : Str → Bool} {env : Env} {e : Expr} {es : List Expr} {is : List Nat} (h : nmTg sc N fn (e :: es) is) : assignEach (e :: es) env = (false, assign e env) :: assignEach es env := by
  cases e <;> first | rfl | exact h.elim
theorem tgs_names (hN : X.N.Nodup) : ∀ {es : List Expr} {is : List Nat}, nmTg X.env.scope X.N X.fn es is → PGs X es (tTgs pv is) ∧ (assignEach es X.env).length = is.length ∧ (assignEach es X.env).findIdx? (·.1) = none
  | [], is, h => by
    have h : is = [] := h
    subst h
    refine ⟨⟨fun pins s σ H vs us Q I r hq => pgs_nil.run pins s σ H vs us Q I r ?_⟩, rfl, rfl⟩
    obtain ⟨F, env, φ, ds, s, r, hl, hp, q⟩ := hq
    have : ds = [] := List.length_eq_zero_iff.mp hl.symm
    subst this
    exact ⟨r.1, q σ φ s (fun _ h => h) rfl fun _ _ => rfl⟩
  | e :: es, is, h => by
    have he := nm_each (env := X.env) h
    cases e with
    | Name x p =>
      obtain ⟨i, rest, rfl, h1, h2, h3, h4⟩ := h
      obtain ⟨g1, g2, g3⟩ := tgs_names hN h4
      refine ⟨⟨fun pins s σ H vs us Q I r hq => (pgs_cons (pg_name hN h1 h2 h3) g1 (by rw [he]; rfl)).run pins s σ H vs us Q I r ?_⟩, by rw [he]; simp [g2], by rw [he]; simp [List.findIdx?_cons, g3]⟩
      obtain ⟨F, env, φ, ds, s, r, hl, hp, q⟩ := hq
      cases ds with
      | nil => cases hl
      | cons d ds =>
        simp only [Reps] at r
        obtain ⟨v, ws, f1, f2, rfl, ef, r1, r2⟩ := r
        obtain ⟨rfl, rfl⟩ := List.append_eq_nil_iff.mp ef.symm
        refine ⟨v, ws, rfl, ?_⟩
        obtain ⟨φ2, s2, k2⟩ := s.put' (i := i) (fun p hp' z => hp p hp' (by simp [z])) r1 List.nodup_nil (fun _ h => nomatch h)
        have k2 : ∀ a, Own φ2 a → Own φ a := fun a h => (k2 a h).elim id fun z => nomatch z
        refine ⟨F, env.set i (some d), φ2, ds, s2, r2, by simpa using hl, fun p hp' z => hp p hp' (by simp [z]), fun σ3 φ3 s3 k3 l3 o3 => q σ3 φ3 s3 (fun a h => k2 a (k3 a h)) (by simpa using l3) fun j hj => ?_⟩
        simp only [List.mem_cons, not_or] at hj
        rw [o3 j hj.2, get_set_ne hj.1]
    | _ => exact h.elim
theorem tg_tup {es : List Expr} {is : List Nat} {k : Nat} (hN : X.N.Nodup) (hc : X.calm = true) (h : nmTg X.env.scope X.N X.fn es is) : PG X (.Tuple es k pos) (tTg pv (.t is)) := by
  obtain ⟨g1, g2, g3⟩ := tgs_names (pv := pv) hN h
  refine PG.imp (pg_tup hc g1 g2 g3) fun v σ H Q ⟨F, env, φ, d, s, r, hp, env1, e, q⟩ => ?_
  cases d with
  | tup xs =>
    simp only [setTg] at e
    split at e
    · rename_i hl
      cases e
      obtain ⟨a, vs, rfl, h1, _, r1⟩ := Rep.seqT (K := X.K) r
      exact ⟨a, vs, rfl, h1, by rw [r1.length, hl], F, env, φ, xs, s, r1, hl, hp, q⟩
    · cases e
  | _ => cases e
end
end VS

end

section
set_option linter.all false
set_option maxRecDepth 100000
set_option maxHeartbeats 1000000
namespace VS
open PySem L2
/-! ## wiped slots -/
theorem wipeE_len : ∀ {is : List Nat} {env : EnvD}, (wipeE is env).length = env.length
  | [], _ => rfl
  | i :: is, env => by simp only [wipeE, List.length_set]; exact wipeE_len
theorem wipeE_out {j : Nat} : ∀ {is : List Nat} {env : EnvD}, j ∉ is → (wipeE is env)[j]? = env[j]?
  | [], _, _ => rfl
  | i :: is, env, h => by
    simp only [List.mem_cons, not_or] at h
    simp only [wipeE]
    rw [get_set_ne h.1]
    exact wipeE_out h.2
theorem wipeE_in {j : Nat} : ∀ {is : List Nat} {env : EnvD}, j ∈ is → ∀ d, (wipeE is env)[j]? ≠ some (some d)
  | [], _, h, _ => by cases h
  | i :: is, env, h, d => by
    simp only [wipeE]
    by_cases hj : j = i
    · subst hj
      rw [List.getElem?_set]
      simp
    · rw [get_set_ne hj]
      exact wipeE_in ((List.mem_cons.mp h).resolve_left hj) d
theorem wipeS_out {j : Nat} {σ : L2.St} : ∀ {is : List Nat}, j ∉ is → (wipe σ is)[j]? = σ[j]?
  | [], _ => rfl
  | i :: is, h => by
    simp only [List.mem_cons, not_or] at h
    simp only [wipe]
    rw [get_set_ne h.1]
    exact wipeS_out h.2
theorem wipeS_in {j : Nat} {σ : L2.St} : ∀ {is : List Nat}, j ∈ is → (wipe σ is)[j]? = if j < σ.length then some none else none
  | [], h => by cases h
  | i :: is, h => by
    simp only [wipe]
    by_cases hj : j = i
    · subst hj
      rw [List.getElem?_set]
      simp [wipe_length]
    · rw [get_set_ne hj]
      exact wipeS_in ((List.mem_cons.mp h).resolve_left hj)
theorem wipe_eq {σ σ2 : L2.St} {is : List Nat} (hl : σ2.length = σ.length) (h : ∀ j, j ∉ is → σ2[j]? = σ[j]?) : wipe σ2 is = wipe σ is := by
  apply List.ext_getElem?
  intro j
  by_cases hj : j ∈ is
  · rw [wipeS_in hj, wipeS_in hj, hl]
  · rw [wipeS_out hj, wipeS_out hj, h j hj]
theorem putBack_len : ∀ {is : List Nat} {old env : EnvD}, (putBack is old env).length = env.length
  | [], _, _ => rfl
  | i :: is, old, env => by simp only [putBack, List.length_set]; exact putBack_len
theorem putBack_out {j : Nat} : ∀ {is : List Nat} {old env : EnvD}, j ∉ is → (putBack is old env)[j]? = env[j]?
  | [], _, _, _ => rfl
  | i :: is, old, env, h => by
    simp only [List.mem_cons, not_or] at h
    simp only [putBack]
    rw [get_set_ne h.1]
    exact putBack_out h.2
theorem putBack_in {j : Nat} : ∀ {is : List Nat} {old env : EnvD}, j ∈ is → old.length = env.length → (putBack is old env)[j]? = old[j]?
  | [], _, _, h, _ => by cases h
  | i :: is, old, env, h, hl => by
    simp only [putBack]
    by_cases hj : j = i
    · subst hj
      rw [List.getElem?_set]
      simp only [if_true, putBack_len]
      split
      · rename_i hlt
        rw [List.getElem?_eq_getElem (by omega)]
        rfl
      · rename_i hlt
        rw [List.getElem?_eq_none (by omega)]
    · rw [get_set_ne hj]
      exact putBack_in ((List.mem_cons.mp h).resolve_left hj) hl
theorem drop_get {α : Type} {l : List α} {i : Nat} {x : α} (h : l[i]? = some x) : l.drop i = x :: l.drop (i + 1) := by
  have hi := get_lt h
  rw [List.drop_eq_getElem_cons hi]
  rw [List.getElem?_eq_getElem hi] at h
  cases h
  rfl
/-! ## one list that grows -/
section
variable {σ : L2.St} {F : Addr → Prop} {H : Hp} {env : EnvD} {φ : Nat → List Addr} {pv : Pv} {p : Addr} {ws us : List V}
theorem Rep.updL {d : D} {v : V} {fp : List Addr} (hF : ¬ F p) (hp : H p = some (.lst ws)) (hn : p ∉ fp) (r : Rep F H d v fp) : Rep F (upd H p (.lst us)) d v fp :=
  Rep.keep (P := fun a => a = p) (fun a o e h => by rw [upd_ne h]; exact e) (fun a f h => hF (h ▸ f)) (fun a xs e h => by rw [h, hp] at e; cases e) (fun _ h => h) d v fp (fun a ha h => hn (h ▸ ha)) r
theorem Reps.updL {ds : List D} {vs : List V} {fp : List Addr} (hF : ¬ F p) (hp : H p = some (.lst ws)) (hn : p ∉ fp) (r : Reps F H ds vs fp) : Reps F (upd H p (.lst us)) ds vs fp :=
  Reps.keep (P := fun a => a = p) (fun a o e h => by rw [upd_ne h]; exact e) (fun a f h => hF (h ▸ f)) (fun a xs e h => by rw [h, hp] at e; cases e) (fun _ h => h) ds vs fp (fun a ha h => hn (h ▸ ha)) r
theorem upd_there {a : Addr} {o : HO} (h : H a ≠ none) : upd H p o a ≠ none := by
  by_cases e : a = p
  · rw [e, upd_same]; simp
  · rw [upd_ne e]; exact h
theorem Sta.updL (s : Sta F σ H env φ pv) (hF : ¬ F p) (hO : ¬ Own φ p) (hp : H p = some (.lst ws)) : Sta F σ (upd H p (.lst us)) env φ pv :=
  ⟨s.len, fun i d e => by
    obtain ⟨v, e1, r⟩ := s.rep i d e
    exact ⟨v, e1, r.updL hF hp fun h => hO ⟨i, h⟩⟩, s.emp, s.nd, s.dj, s.nf, fun a f => upd_there (s.fh a f), s.pv, fun q hq => ⟨by rw [upd_ne (fun z => by have := (s.hx q hq).1; rw [z, hp] at this; cases this)]; exact (s.hx q hq).1, (s.hx q hq).2.1, (s.hx q hq).2.2.updL hF hp (by simp)⟩⟩
end
section
variable {clA : Str → Addr} {pv : Pv} {W : WX}
abbrev WF : WX := fun _ _ _ _ => False
/-- from the comprehension's run to its reading -/
theorem lc_of {σ : L2.St} {H0 : Hp} {Q : VK} {F : Addr → Prop} {env : EnvD} {φ : Nat → List Addr} {itf : EnvD → Res Its} {vs : List Nat} {tg : Tg} {condF eltF : EnvD → Res D} {cfc cfe : Bool} {pre : Option Nat} (hx1 : ∀ e c fs e', condF e ≠ .exc c fs e') (hx2 : ∀ e c fs e', eltF e ≠ .exc c fs e') (htg : ∀ j ∈ tg.slots, j ∈ vs) (s : Sta F σ H0 env φ pv)
    (q : Post (XOut clA pv W σ F H0 φ) (OE pv σ .esc false none F H0 φ Q) ((itf env).bind fun t env1 => (compL vs tg condF eltF t.items [] env1).bind fun xs env2 => .ok (.lst false xs) (putLk t.lk (putBack vs env1 env2)))) :
    tLc (tIt clA pv W itf) (tTg Pv.e tg) (tT clA Pv.e WF cfc condF) (tE clA Pv.e WF .esc cfe pre eltF) vs σ H0 Q := by
  refine ⟨F, env, φ, s, (Post.bind.mp q).mono (fun _ _ _ x => x) fun t env1 et o F1 H1 φm envm J I D hD => ?_⟩
  obtain ⟨is, his⟩ : ∃ is, is = vs ++ t.lk.map (·.1) := ⟨_, rfl⟩
  have hin : ∀ j, j ∈ is ↔ j ∈ vs ∨ j ∈ t.lk.map (·.1) := fun j => by rw [his, List.mem_append]
  have offsub : ∀ a, Own (offφ is φm) a → Own (offφ (t.lk.map (·.1)) φm) a := fun a h => by
    obtain ⟨j, hj, h⟩ := Own_off h
    exact ⟨j, by rw [offφ_out fun z => hj ((hin j).mpr (.inr z))]; exact h⟩
  have hlm : envm.length = σ.length := I.sr.len.symm
  have hl1 : env1.length = envm.length := I.asd.len
  have nD : ¬ F1 D ∧ ¬ Own φm D := ⟨fun f => I.sr.fh D f hD, fun h => I.sr.ownH h hD⟩
  refine lc_it I.w (fun i H => ∃ F2 env2 φ2 acc ws fq, Sta F2 (wipe σ vs) H (wipeE vs env2) φ2 Pv.e ∧ H D = some (.lst ws) ∧ Reps F2 H acc ws fq ∧ (D :: fq).Nodup ∧ (∀ a ∈ D :: fq, ¬ F2 a ∧ ¬ Own φ2 a) ∧
    Stp F1 H1 (Own (offφ is φm)) F2 H (fun a => Own φ2 a ∨ a ∈ D :: fq) ∧ env2.length = envm.length ∧ Post (XOut clA pv W σ F H0 φ) (OE pv σ .esc false none F H0 φ Q) ((compL vs tg condF eltF (t.items.drop i) acc env2).bind fun xs env2 => .ok (.lst false xs) (putLk t.lk (putBack vs env1 env2)))) ?_ ?_ ?_ ?_
  · refine ⟨F1, env1, offφ is φm, [], [], [], ?_, upd_same, ⟨rfl, rfl⟩, by simp, fun a ha => ?_, ?_, hl1, o⟩
    · refine Sta.new (I.sr.off (pv' := Pv.e) (by rw [wipe_length, wipeE_len, hl1, hlm]) (fun j hj => ?_) (fun j hj d e => ?_) (fun j v hj e => ?_) (fun _ h => nomatch h)) hD
      · have hj' : j ∉ vs ∧ j ∉ t.lk.map (·.1) := by rw [hin] at hj; exact not_or.mp hj
        rw [wipeE_out hj'.1, I.asd.out j hj'.2]
      · by_cases hv : j ∈ vs
        · exact wipeE_in hv d e
        · rw [wipeE_out hv, I.asd.none (((hin j).mp hj).resolve_left hv)] at e
          cases e
      · rw [wipeS_out fun z => hj ((hin j).mpr (.inl z))]; exact e
    · have : a = D := by simpa using ha
      subst this
      exact ⟨nD.1, fun h => nD.2 (Own_off' h)⟩
    · exact (Stp.new (o := .lst []) hD).mono (fun _ h => h) fun a h => .inl (h.imp id fun z => by simpa using z)
  · rintro i H2 hi ⟨F2, env2, φ2, acc, ws, fq, s2, h1, h2, h3, h4, h5, h6, h7⟩
    exact ⟨F2, h5.f1, fun a o e hn => h5.k a o e fun z => hn (offsub a z)⟩
  · rintro i x H2 H' hi ⟨F2, env2, φ2, acc, ws, fq, s2, h1, h2, h3, h4, h5, h6, h7⟩ ⟨hk, hy⟩
    obtain ⟨d, ed, rd⟩ := hy F2 ⟨h5.f1, fun a o e hn => h5.k a o e fun z => hn (offsub a z)⟩
    rw [drop_get ed] at h7
    simp only [compL] at h7
    cases e1 : setTg tg d (wipeE vs env2) with
    | none => rw [e1] at h7; exact h7.elim
    | some env3 =>
      rw [e1] at h7
      simp only at h7
      have s2' : Sta F2 (wipe σ vs) H' (wipeE vs env2) φ2 Pv.e := s2.grow hk (fun _ h => h) s2.nf fun a f => by
        cases e : H2 a with
        | none => exact absurd e (s2.fh a f)
        | some o => rw [hk a o e]; simp
      refine ⟨F2, wipeE vs env2, φ2, d, s2', rd, (fun _ h => nomatch h), env3, e1, fun σ3 φ3 s3 o3 l3 k3 => ?_⟩
      have hw : wipe σ3 vs = wipe σ vs := by
        rw [wipe_eq l3 fun j hj => k3 j fun z => hj (htg j z)]
        exact wipe_eq (wipe_length _ _) fun j hj => wipeS_out hj
      refine ⟨hw, ?_⟩
      have ST0 : Stp F2 H2 (Own φ2) F2 H' (Own φ3) := (Stp.grow hk).trans (Stp.freeze (fun _ h => h) (fun _ h => .inl h) o3)
      have there : ∀ a ∈ D :: fq, H2 a ≠ none := fun a ha => by
        rcases List.mem_cons.mp ha with rfl | ha
        · rw [h1]; simp
        · exact h2.there a ha
      obtain ⟨g1, g2⟩ := List.nodup_cons.mp h3
      have hl3 : σ3.length = σ.length := by rw [l3, wipe_length]
      -- the state at a turn's end
      have offS : ∀ {F4 H4 env4 φ5}, Sta F4 σ3 H4 env4 φ5 Pv.e → Sta F4 (wipe σ vs) H4 (wipeE vs env4) (offφ vs φ5) Pv.e := fun {F4 H4 env4 φ5} s5 => by
        rw [← hw]
        exact s5.off (by rw [wipe_length, wipeE_len]; exact s5.len) (fun j hj => wipeE_out hj) (fun j hj d => wipeE_in hj d) (fun j v hj e => by rw [wipeS_out hj]; exact e) (fun _ h => nomatch h)
      have widen : ∀ {F4 H4 P5}, Stp F2 H2 (Own φ2) F4 H4 P5 → Stp F1 H1 (Own (offφ is φm)) F4 H4 (fun a => P5 a ∨ a ∈ D :: fq) := fun {F4 H4 P5} ST =>
        h5.trans (ST.mono (fun _ h => .inl h) fun a h => h.elim .inl fun z => .inr (.inl (.inr z)))
      refine ⟨F2, env3, φ3, s3, ?_⟩
      cases ec : condF env3 with
      | no => rw [ec] at h7; exact h7.elim
      | exc c fs e' => exact (hx1 _ _ _ _ ec).elim
      | ok b env4 =>
        rw [ec] at h7
        cases b with
        | bl b =>
          refine ⟨b, rfl, fun F3 H3 φ4 s4 st4 _ => ?_⟩
          have ST1 := ST0.trans st4
          cases b with
          | false =>
            have h7 : Post (XOut clA pv W σ F H0 φ) (OE pv σ .esc false none F H0 φ Q) ((compL vs tg condF eltF (t.items.drop (i + 1)) acc env4).bind fun xs env2 => .ok (.lst false xs) (putLk t.lk (putBack vs env1 env2))) := h7
            have ap := apart h4 there ST1
            refine ⟨F3, env4, offφ vs φ4, acc, ws, fq, offS s4, ST1.k _ _ h1 (h4 D (by simp)).2, Reps.over s2 ST1 (fun a ha => (h4 a (by simp [ha])).2) h2, h3, fun a ha => ⟨(ap a ha).1, fun z => (ap a ha).2 (Own_off' z)⟩, (widen ST1).mono (fun _ h => h) fun a h => .inl (h.imp Own_off' id), by rw [hlm, ← hl3]; exact s4.len.symm, h7⟩
          | true =>
            have h7 : Post (XOut clA pv W σ F H0 φ) (OE pv σ .esc false none F H0 φ Q) (((eltF env4).bind fun x env3 => if acc.length < sizeLine then compL vs tg condF eltF (t.items.drop (i + 1)) (acc ++ [x]) env3 else .no).bind fun xs env2 => .ok (.lst false xs) (putLk t.lk (putBack vs env1 env2))) := h7
            refine ⟨F3, env4, φ4, s4, ?_⟩
            cases ee : eltF env4 with
            | no => rw [ee] at h7; exact h7.elim
            | exc c fs e' => exact (hx2 _ _ _ _ ee).elim
            | ok xd env5 =>
              rw [ee] at h7
              have h7 : Post (XOut clA pv W σ F H0 φ) (OE pv σ .esc false none F H0 φ Q) ((if acc.length < sizeLine then compL vs tg condF eltF (t.items.drop (i + 1)) (acc ++ [xd]) env5 else .no).bind fun xs env2 => .ok (.lst false xs) (putLk t.lk (putBack vs env1 env2))) := h7
              by_cases hlen : acc.length < sizeLine
              · rw [if_pos hlen] at h7
                intro F4 H4 φ5 v fd E
                have ST := ST1.trans E.stp
                have ap := apart h4 there ST
                obtain ⟨n1, n2⟩ := E.nd rfl
                have hD4 : H4 D = some (.lst ws) := ST.k _ _ h1 (h4 D (by simp)).2
                have hDP := ap D (by simp)
                have hDfd : D ∉ fd := fun z => hDP.2 (.inr ⟨rfl, z⟩)
                have r4 : Reps F4 H4 acc ws fq := Reps.over s2 ST (fun a ha => (h4 a (by simp [ha])).2) h2
                refine ⟨ws, hD4, by rw [h2.length]; exact hlen, F4, env5, offφ vs φ5, acc ++ [xd], ws ++ [v], fq ++ fd, (offS E.sr).updL hDP.1 (fun z => hDP.2 (.inl (Own_off' z))) hD4, upd_same, (r4.updL hDP.1 hD4 g1).append (Reps.one (E.rep.updL hDP.1 hD4 hDfd)), ?_, fun a ha => ?_, ?_, by rw [hlm, ← hl3]; exact E.sr.len.symm, h7⟩
                · refine List.nodup_cons.mpr ⟨fun z => (List.mem_append.mp z).elim g1 hDfd, List.nodup_append.mpr ⟨g2, n1, fun a ha b hb z => ?_⟩⟩
                  subst z
                  exact (ap a (by simp [ha])).2 (.inr ⟨rfl, hb⟩)
                · have ha : a ∈ D :: fq ∨ a ∈ fd := by
                    rcases List.mem_cons.mp ha with rfl | ha
                    · exact .inl (by simp)
                    · exact (List.mem_append.mp ha).imp (fun h => by simp [h]) id
                  rcases ha with ha | ha
                  · exact ⟨(ap a ha).1, fun z => (ap a ha).2 (.inl (Own_off' z))⟩
                  · exact ⟨(n2 a ha).1, fun z => (n2 a ha).2 (Own_off' z)⟩
                · refine (widen ST).trans ⟨fun _ h => h, fun _ h => .inl h, fun a o e hn => ?_, fun a h => .inl ?_, fun a h => upd_there h⟩
                  · rw [upd_ne fun z => hn (.inr (by simp [z]))]; exact e
                  · rcases h with h | h
                    · exact .inl (.inl (Own_off' h))
                    · rcases List.mem_cons.mp h with rfl | h
                      · exact .inr (by simp)
                      · rcases List.mem_append.mp h with h | h
                        · exact .inr (by simp [h])
                        · exact .inl (.inr ⟨rfl, h⟩)
              · rw [if_neg hlen] at h7
                exact h7.elim
        | _ => exact h7.elim
  · rintro H2 ⟨F2, env2, φ2, acc, ws, fq, s2, h1, h2, h3, h4, h5, h6, h7⟩
    rw [List.drop_length] at h7
    have h7 : OE pv σ .esc false none F H0 φ Q (.lst false acc) (putLk t.lk (putBack vs env1 env2)) := h7
    have st := Stp.on h5
    have hlen : (putBack vs env1 env2).length = envm.length := by rw [putBack_len]; exact h6
    refine h7 F2 H2 (onφ is φm φ2) (.ref D) (D :: fq) ⟨?_, ⟨D, ws, fq, rfl, h1, h2, rfl⟩, fun _ => ⟨h3, fun a ha => ⟨(h4 a ha).1, fun z => ?_⟩⟩, ?_, fun z => (nomatch z), fun _ z => (nomatch z)⟩
    · refine Sta.on I.sr s2 h5 (fun _ h => .inl h) (by rw [putLk_len, hlen, hlm]) (fun j hj => ?_) (fun j hj => ?_) (fun j v hj e => ?_) (fun j v hj e _ => e) I.sr.pv
      · have hj' : j ∉ vs ∧ j ∉ t.lk.map (·.1) := by rw [hin] at hj; exact not_or.mp hj
        rw [putLk_out hj'.2, putBack_out hj'.1, wipeE_out hj'.1]
      · by_cases hv : j ∈ t.lk.map (·.1)
        · exact I.asd.put hlen hv
        · rw [putLk_out hv, putBack_in (((hin j).mp hj).resolve_right hv) (by rw [hl1, h6]), I.asd.out j hv]
      · rw [wipeS_out fun z => hj ((hin j).mpr (.inl z))] at e; exact e
    · rcases Own_on z with ⟨j, hj, z⟩ | z
      · rcases h5.p a (.inr ha) with h | h
        · exact I.sr.apartOff hj z h
        · exact I.sr.ownH ⟨j, z⟩ h
      · exact (h4 a ha).2 z
    · exact I.stp.trans (st.mono (fun _ h => h) fun a h => .inl (h.imp id fun z => z.2))
end
end VS

end

section
set_option linter.all false
set_option maxRecDepth 100000
set_option maxHeartbeats 1000000
namespace VS
open PySem L2
/-! ## statements -/
section
variable (clA : Str → Addr) (pv : Pv) (W : WX)
def XOutS (n : Nat) (F : Addr → Prop) (H : Hp) (φ : Nat → List Addr) : Str → List (Str × D) → EnvD → Prop := fun c fs env' => ∀ σ' d F' H' φ' gs, σ'.length = n → Sta F' σ' H' env' φ' pv → H' d = some (.xd gs) → gs.map (·.1) = fs.map (·.1) →
  Reps F' H' (fs.map (·.2)) (gs.map (·.2)) [] → Stp F H (Own φ) F' H' (Own φ') → W (.ref (clA c)) (some d) σ' H'
def EndN (n : Nat) (F : Addr → Prop) (H : Hp) (φ : Nat → List Addr) (R : L2.St → Hp → Prop) (env' : EnvD) : Prop := ∀ σ' F' H' φ', σ'.length = n → Sta F' σ' H' env' φ' pv → Stp F H (Own φ) F' H' (Own φ') → R σ' H'
def EndR (n : Nat) (F : Addr → Prop) (H : Hp) (φ : Nat → List Addr) (R : VK) (d : D) (env' : EnvD) : Prop := ∀ σ' F' H' φ' v fd, σ'.length = n → Sta F' σ' H' env' φ' pv → Rep F' H' d v fd → fd.Nodup → (∀ a ∈ fd, ¬ F' a ∧ ¬ Own φ' a) → Stp F H (Own φ) F' H' (fun a => Own φ' a ∨ a ∈ fd) → R v H'
def EndS (n : Nat) (F : Addr → Prop) (H : Hp) (φ : Nat → List Addr) (Dn : Ends) : SR → Prop
  | .nx e => EndN pv n F H φ Dn.nx e
  | .bk e => EndN pv n F H φ Dn.bk e
  | .ct e => EndN pv n F H φ Dn.ct e
  | .rt d e => EndR pv n F H φ Dn.rt d e
  | .exc c fs e => XOutS clA pv W n F H φ c fs e
  | .no => False
def tS (f : EnvD → SR) : TS := fun Dn σ H => ∃ F env φ, Sta F σ H env φ pv ∧ EndS clA pv W σ.length F H φ Dn (f env)
end
section
variable {clA : Str → Addr} {pv : Pv} {W : WX} {σ : L2.St} {n : Nat} {m : Mode} {cf : Bool} {pr : Option Nat} {F F1 F' : Addr → Prop} {H H1 H' : Hp} {φ φ1 φ' : Nat → List Addr} {env env1 env' : EnvD} {d : D} {v : V} {fd : List Addr} {Dn : Ends}
theorem EndN.after {R : L2.St → Hp → Prop} (h : EndN pv n F H φ R env') (st : Stp F H (Own φ) F1 H1 (Own φ1)) : EndN pv n F1 H1 φ1 R env' := fun σ' F' H' φ' hl s st' => h σ' F' H' φ' hl s (st.trans st')
theorem EndS.after {r : SR} (h : EndS clA pv W n F H φ Dn r) (st : Stp F H (Own φ) F1 H1 (Own φ1)) : EndS clA pv W n F1 H1 φ1 Dn r := by
  cases r with
  | nx e => exact EndN.after h st
  | bk e => exact EndN.after h st
  | ct e => exact EndN.after h st
  | rt d e => exact fun σ' F' H' φ' v fd hl s r nd ap st' => h σ' F' H' φ' v fd hl s r nd ap (st.trans st')
  | exc c fs e => exact fun σ' d F' H' φ' gs hl s e1 e2 r st' => h σ' d F' H' φ' gs hl s e1 e2 r (st.trans st')
  | no => exact h
/-- an expression ahead of what goes on -/
theorem EndS.toS {α : Type} {r : Res α} {k : α → EnvD → SR} (h : EndS clA pv W σ.length F H φ Dn (r.toS k)) : Post (XOut clA pv W σ F H φ) (fun a e => EndS clA pv W σ.length F H φ Dn (k a e)) r := by
  cases r with
  | ok a e => exact h
  | exc c fs e => exact fun d F' H' φ' gs s e1 e2 r st' => h σ d F' H' φ' gs rfl s e1 e2 r st'
  | no => exact h
theorem tE.stm {f : EnvD → Res D} {k : D → EnvD → SR} {R : VK} (s : Sta F σ H env φ pv) (h : EndS clA pv W σ.length F H φ Dn ((f env).toS k))
    (hk : ∀ d env1 F1 H1 φ1 v fd, f env = .ok d env1 → EOk pv σ m cf pr F H φ env1 d F1 H1 φ1 v fd → EndS clA pv W σ.length F H φ Dn (k d env1) → R v H1) : tE clA pv W m cf pr f σ H R :=
  ⟨F, env, φ, s, h.toS.mono (fun _ _ _ x => x) fun d env1 e o F1 H1 φ1 v fd E => hk d env1 F1 H1 φ1 v fd e E o⟩
theorem tE.stm2 {f : EnvD → Res D} {k : D → EnvD → SR} {R : VK} (s : Sta F1 σ H1 env1 φ1 pv) (st : Stp F H (Own φ) F1 H1 (Own φ1)) (h : EndS clA pv W σ.length F H φ Dn ((f env1).toS k))
    (hk : ∀ d env2 F2 H2 φ2 v fd, f env1 = .ok d env2 → EOk pv σ m cf pr F1 H1 φ1 env2 d F2 H2 φ2 v fd → EndS clA pv W σ.length F H φ Dn (k d env2) → R v H2) : tE clA pv W m cf pr f σ H1 R :=
  ⟨F1, env1, φ1, s, h.toS.mono (fun _ _ _ x => x.after st) fun d env2 e o F2 H2 φ2 v fd E => hk d env2 F2 H2 φ2 v fd e E o⟩
end
/-- what is known of the exception in hand -/
def HotP (X : Cx) (C : CtxD) (clA : Str → Addr) (pv : Pv) : Prop := ∀ i k fs, C.ex = some (i, k, fs) → ∃ (X0 : Cx) (a : Addr) (oe : Obj) (dd : Addr) (gs : List (Str × V)) (pn : List (Addr × Obj)),
  X = X0.suite a ((a, oe) :: pn) ∧ Zc (.ref (clA k)) (some dd) oe ∧ (∃ vs, oe.data = .fields vs) ∧ (i, V.ref a) ∈ pv ∧ (dd, gs, fs) ∈ pv.hx
theorem HotP.cold {X : Cx} {C : CtxD} {clA : Str → Addr} {pv : Pv} (h : C.ex = none) : HotP X C clA pv := fun i k fs e => by rw [h] at e; cases e
theorem HotP.add {X : Cx} {C : CtxD} {clA : Str → Addr} {pv : Pv} {l : List (Nat × V)} (h : HotP X C clA pv) : HotP X C clA (Pv.add l pv) := fun i k fs e => by
  obtain ⟨X0, a, oe, dd, gs, pn, h1, h2, h3, h4, h5⟩ := h i k fs e
  exact ⟨X0, a, oe, dd, gs, pn, h1, h2, h3, Pv.mem_add.mpr (.inr h4), h5⟩
structure SSound (X : Cx) (C : CtxD) (clA : Str → Addr) (W : WX) (st : Stmt) (s' : S) : Prop where
  run : ∀ (pv : Pv) (na : List Nat), (∀ p ∈ pv, p.1 ∈ na) → HotP X C clA pv → PS X st (tS clA pv W (ex C na s'))
structure SsSound (X : Cx) (C : CtxD) (clA : Str → Addr) (W : WX) (st : List Stmt) (s' : Ss) : Prop where
  run : ∀ (pv : Pv) (na : List Nat), (∀ p ∈ pv, p.1 ∈ na) → HotP X C clA pv → PSs X st (tS clA pv W (exs C na s'))
section
variable {X : Cx} {C : CtxD} {clA : Str → Addr} {pv : Pv} {W : WX} {e a b c tg : Expr} {e' a' b' c' : E} {pos : Pos} {st : Stmt}
theorem tS.imp {f : EnvD → SR} {t : TS} (h : PS X st t) (w : ∀ σ H Dn F env φ, Sta F σ H env φ pv → EndS clA pv W σ.length F H φ Dn (f env) → t Dn σ H) : PS X st (tS clA pv W f) := PS.imp h fun σ H Dn ⟨F, env, φ, s, q⟩ => w σ H Dn F env φ s q
theorem no_mem {na : List Nat} {i : Nat} (hna : ∀ p ∈ pv, p.1 ∈ na) (h : ¬ na.contains i = true) : ∀ p ∈ pv, p.1 ≠ i := fun p hp z => h (by simpa [z] using hna p hp)
theorem no_free {na is : List Nat} (hna : ∀ p ∈ pv, p.1 ∈ na) (h : free na is = true) : ∀ p ∈ pv, p.1 ∉ is := fun p hp z => by
  have := List.all_eq_true.mp h p.1 z
  simp at this
  exact this (hna p hp)
/-- a value is stored at a name -/
theorem asg_end {σ : L2.St} {F : Addr → Prop} {H : Hp} {φ : Nat → List Addr} {Dn : Ends} {i : Nat} {d : D} {env1 : EnvD} {cf : Bool} {pr : Option Nat} {F1 : Addr → Prop} {H1 : Hp} {φ1 : Nat → List Addr} {v : V} {fd : List Addr} (hp : ∀ p ∈ pv, p.1 ≠ i) (E : EOk pv σ .esc cf pr F H φ env1 d F1 H1 φ1 v fd)
    (o : EndS clA pv W σ.length F H φ Dn (.nx (env1.set i (some d)))) : Dn.nx (σ.set i (some v)) H1 := by
  obtain ⟨n1, n2⟩ := E.nd rfl
  obtain ⟨φ2, s2, h2⟩ := E.sr.put' (i := i) hp E.rep n1 n2
  refine o _ F1 H1 φ2 (by simp) s2 (E.stp.mono (fun _ h => h) fun a h => .inl ((h2 a h).imp id fun z => ⟨rfl, z⟩))
theorem st_asg {i : Nat} {x : Str} {p0 : Pos} (hN : X.N.Nodup) (hi : X.N[i]? = some x) (hx : Loc X.env.scope x) (hf : X.fn x = true ∨ X.env.scope.names.lookup x = some .local) (hs : swapsWith e (some (.Name x p0)) pos.line X.env = pure false) (h : ∀ pv, HotP X C clA pv → ESound X C clA pv W e e') :
    SSound X C clA W (.Assign [.Name x p0] e pos) (.asg i e') := by
  refine ⟨fun pv na hna hot => tS.imp (ps_set hN hi hx (h pv hot).esc hs hf) fun σ H Dn F env φ s q => ?_⟩
  simp only [ex] at q
  split at q
  · exact q.elim
  · rename_i hc
    exact tE.stm s q fun d env1 F1 H1 φ1 v fd e1 E o => asg_end (no_mem hna hc) E o
/-- several names -/
def tTgo (pv : Pv) (is : List Nat) : TGs := fun vs σ H Q => ∃ F env φ ds fq, Sta F σ H env φ pv ∧ Reps F H ds vs fq ∧ fq.Nodup ∧ (∀ a ∈ fq, ¬ F a ∧ ¬ Own φ a) ∧ is.length = ds.length ∧ (∀ p ∈ pv, p.1 ∉ is) ∧
  ∀ σ2 φ2, Sta F σ2 H ((is.zip ds).foldl (fun e p => e.set p.1 (some p.2)) env) φ2 pv → (∀ a, Own φ2 a → Own φ a ∨ a ∈ fq) → σ2.length = σ.length → Q σ2 H
theorem tgo_names (hN : X.N.Nodup) : ∀ {es : List Expr} {is : List Nat}, nmTg X.env.scope X.N X.fn es is → PGs X es (tTgo pv is) ∧ (assignEach es X.env).length = is.length ∧ (assignEach es X.env).findIdx? (·.1) = none
  | [], is, h => by
    have h : is = [] := h
    subst h
    refine ⟨⟨fun pins s σ H vs us Q I r hq => pgs_nil.run pins s σ H vs us Q I r ?_⟩, rfl, rfl⟩
    obtain ⟨F, env, φ, ds, fq, s, r, nd, ap, hl, hp, q⟩ := hq
    have : ds = [] := List.length_eq_zero_iff.mp hl.symm
    subst this
    exact ⟨r.1, q σ φ s (fun _ h => .inl h) rfl⟩
  | e :: es, is, h => by
    have he := nm_each (env := X.env) h
    cases e with
    | Name x p =>
      obtain ⟨i, rest, rfl, h1, h2, h3, h4⟩ := h
      obtain ⟨g1, g2, g3⟩ := tgo_names hN h4
      refine ⟨⟨fun pins s σ H vs us Q I r hq => (pgs_cons (pg_name hN h1 h2 h3) g1 (by rw [he]; rfl)).run pins s σ H vs us Q I r ?_⟩, by rw [he]; simp [g2], by rw [he]; simp [List.findIdx?_cons, g3]⟩
      obtain ⟨F, env, φ, ds, fq, s, r, nd, ap, hl, hp, q⟩ := hq
      cases ds with
      | nil => cases hl
      | cons d ds =>
        simp only [Reps] at r
        obtain ⟨v, ws, f1, f2, rfl, rfl, r1, r2⟩ := r
        obtain ⟨n1, n2, n3⟩ := List.nodup_append.mp nd
        refine ⟨v, ws, rfl, ?_⟩
        obtain ⟨φ2, s2, k2⟩ := s.put' (i := i) (fun p hp' z => hp p hp' (by simp [z])) r1 n1 (fun a ha => ap a (by simp [ha]))
        refine ⟨F, env.set i (some d), φ2, ds, f2, s2, r2, n2, fun a ha => ⟨(ap a (by simp [ha])).1, fun z => (k2 a z).elim (ap a (by simp [ha])).2 fun z => n3 a z a ha rfl⟩, by simpa using hl, fun p hp' z => hp p hp' (by simp [z]), fun σ3 φ3 s3 k3 l3 => q σ3 φ3 s3 (fun a h => ?_) (by simpa using l3)⟩
        rcases k3 a h with h | h
        · exact (k2 a h).imp id fun z => by simp [z]
        · exact .inr (by simp [h])
    | _ => exact h.elim
theorem st_unp {es : List Expr} {is : List Nat} {k : Nat} {p0 : Pos} (hN : X.N.Nodup) (hc : X.calm = true) (hnm : nmTg X.env.scope X.N X.fn es is) (hs : swapsWithSole [.Tuple es k p0] e pos.line X.env = pure false) (hw : swappedStores [.Tuple es k p0] e X.env = pure none)
    (h1 : (assignEach [Expr.Tuple es k p0] X.env).map (·.2) = [assign (.Tuple es k p0) X.env] := by rfl) (h : ∀ pv, HotP X C clA pv → ESound X C clA pv W e e') : SSound X C clA W (.Assign [.Tuple es k p0] e pos) (.unp is e') := by
  refine ⟨fun pv na hna hot => ?_⟩
  obtain ⟨g1, g2, g3⟩ := tgo_names (pv := pv) hN hnm
  refine tS.imp (ps_asg (h pv hot).esc (PG.or (pg_tup hc g1 g2 g3) (pg_lst hc g1 g2 g3)) hs hw h1) fun σ H Dn F env φ s q => ?_
  simp only [ex] at q
  split at q
  · rename_i hfr
    refine tE.stm s q fun d env1 F1 H1 φ1 v fd e1 E o => ?_
    obtain ⟨n1, n2⟩ := E.nd rfl
    unfold unpS at o
    cases d with
    | tup xs =>
      simp only [D.kids] at o
      split at o
      · rename_i hl
        obtain ⟨a, vs, rfl, h1, _, r1⟩ := Rep.seqT (K := X.K) E.rep
        exact .inl ⟨a, vs, rfl, h1, by rw [r1.length, hl], F1, env1, φ1, xs, fd, E.sr, r1, n1, n2, hl, no_free hna hfr, fun σ2 φ2 s2 k2 l2 => o σ2 F1 H1 φ2 l2 s2 (E.stp.mono (fun _ h => h) fun a h => .inl ((k2 a h).imp id fun z => ⟨rfl, z⟩))⟩
      · exact o.elim
    | lst f xs =>
      simp only [D.kids] at o
      split at o
      · rename_i hl
        obtain ⟨a, vs, fq, rfl, h1, r1, hsub, hnd⟩ := Rep.seqL (K := X.K) E.rep
        exact .inr ⟨a, vs, rfl, h1, by rw [r1.length, hl], F1, env1, φ1, xs, fq, E.sr, r1, hnd n1, fun a ha => n2 a (hsub a ha), hl, no_free hna hfr, fun σ2 φ2 s2 k2 l2 => o σ2 F1 H1 φ2 l2 s2 (E.stp.mono (fun _ h => h) fun a h => .inl ((k2 a h).imp id fun z => ⟨rfl, hsub a z⟩))⟩
      · exact o.elim
    | _ => exact o.elim
  · exact q.elim
end
end VS

end

section
set_option linter.all false
set_option maxRecDepth 100000
set_option maxHeartbeats 1000000
namespace VS
open PySem L2
section
variable {F : Addr → Prop} {H : Hp}
theorem Reps.setAt : ∀ {ds : List D} {vs : List V} {fq : List Addr} {j : Nat} {d : D} {v : V} {fd : List Addr}, Reps F H ds vs fq → fq.Nodup → j < ds.length → Rep F H d v fd → fd.Nodup → (∀ a ∈ fd, a ∉ fq) →
    ∃ fq', Reps F H (ds.set j d) (vs.set j v) fq' ∧ fq'.Nodup ∧ ∀ b ∈ fq', b ∈ fq ∨ b ∈ fd
  | [], vs, fq, j, d, v, fd, r, nd, hj, rd, nfd, dj => by cases hj
  | c :: ds, vs, fq, 0, d, v, fd, r, nd, hj, rd, nfd, dj => by
    simp only [Reps] at r
    obtain ⟨u, ws, f1, f2, rfl, rfl, r1, r2⟩ := r
    obtain ⟨n1, n2, n3⟩ := List.nodup_append.mp nd
    refine ⟨fd ++ f2, ⟨v, ws, fd, f2, rfl, rfl, rd, r2⟩, List.nodup_append.mpr ⟨nfd, n2, fun a ha b hb z => ?_⟩, fun b hb => ?_⟩
    · subst z
      exact dj a ha (by simp [hb])
    · rcases List.mem_append.mp hb with hb | hb
      · exact .inr hb
      · exact .inl (by simp [hb])
  | c :: ds, vs, fq, j + 1, d, v, fd, r, nd, hj, rd, nfd, dj => by
    simp only [Reps] at r
    obtain ⟨u, ws, f1, f2, rfl, rfl, r1, r2⟩ := r
    obtain ⟨n1, n2, n3⟩ := List.nodup_append.mp nd
    obtain ⟨fq', q1, q2, q3⟩ := Reps.setAt r2 n2 (by simpa using hj) rd nfd fun a ha z => dj a ha (by simp [z])
    refine ⟨f1 ++ fq', ⟨u, ws.set j v, f1, fq', rfl, rfl, r1, q1⟩, List.nodup_append.mpr ⟨n1, q2, fun a ha b hb z => ?_⟩, fun b hb => ?_⟩
    · subst z
      rcases q3 a hb with h | h
      · exact n3 a ha a h rfl
      · exact dj a h (by simp [ha])
    · rcases List.mem_append.mp hb with hb | hb
      · exact .inl (by simp [hb])
      · exact (q3 b hb).imp (fun h => by simp [h]) id
end
section
variable {σ : L2.St} {F : Addr → Prop} {H : Hp} {env : EnvD} {φ : Nat → List Addr} {pv : Pv} {x : Nat} {xs ys : List D} {a : Addr} {vs us : List V} {fq fq' fd : List Addr}
/-- an owned list is written -/
theorem Sta.wr (s : Sta F σ H env φ pv) (hx : env[x]? = some (some (.lst false xs))) (hv : σ[x]? = some (some (.ref a))) (ha : H a = some (.lst vs)) (hφ : φ x = a :: fq) (r : Reps F H ys us fq') (nd : (a :: fq').Nodup) (hq : ∀ b ∈ fq', b ∈ fq ∨ b ∈ fd) (ap : ∀ b ∈ fd, ¬ F b ∧ ¬ Own φ b) :
    Sta F σ (upd H a (.lst us)) (env.set x (some (.lst false ys))) (updφ φ x (a :: fq')) pv ∧ Stp F H (fun b => Own φ b ∨ b ∈ fd) F (upd H a (.lst us)) (Own (updφ φ x (a :: fq'))) := by
  have ax : a ∈ φ x := by rw [hφ]; simp
  have nF : ¬ F a := s.nf x a ax
  have hq2 : ∀ b ∈ a :: fq', b ∈ φ x ∨ b ∈ fd := fun b hb => by
    rcases List.mem_cons.mp hb with rfl | hb
    · exact .inl ax
    · rw [hφ]; exact (hq b hb).imp (fun h => by simp [h]) id
  refine ⟨⟨by rw [List.length_set]; exact s.len, fun j d e => ?_, fun j h => ?_, fun j => ?_, fun j k b hjk hb hc => ?_, fun j b h z => ?_, fun b f => upd_there (s.fh b f), s.pv, fun q hq => ⟨by rw [upd_ne (fun z => by have := (s.hx q hq).1; rw [z, ha] at this; cases this)]; exact (s.hx q hq).1, (s.hx q hq).2.1, (s.hx q hq).2.2.updL nF ha (by simp)⟩⟩, ⟨fun _ h => h, fun _ h => .inl h, fun b o e hn => ?_, fun b h => ?_, fun b h => upd_there h⟩⟩
  · by_cases hj : j = x
    · subst hj
      rw [List.getElem?_set_self (get_lt hx)] at e
      cases e
      exact ⟨.ref a, hv, by rw [updφ_same]; exact ⟨a, us, fq', rfl, upd_same, r.updL nF ha (List.nodup_cons.mp nd).1, rfl⟩⟩
    · rw [get_set_ne hj] at e
      obtain ⟨v, e1, r1⟩ := s.rep j d e
      exact ⟨v, e1, by rw [updφ_ne hj]; exact r1.updL nF ha fun z => s.dj x j a (Ne.symm hj) ax z⟩
  · by_cases hj : j = x
    · subst hj
      exact absurd (List.getElem?_set_self (get_lt hx)) (h _)
    · rw [updφ_ne hj]
      exact s.emp j fun c e => h c (by rw [get_set_ne hj]; exact e)
  · by_cases hj : j = x
    · subst hj; rw [updφ_same]; exact nd
    · rw [updφ_ne hj]; exact s.nd j
  · by_cases hj : j = x
    · subst hj
      rw [updφ_same] at hb
      rw [updφ_ne (Ne.symm hjk)] at hc
      rcases hq2 b hb with h | h
      · exact s.dj j k b hjk h hc
      · exact (ap b h).2 ⟨k, hc⟩
    · rw [updφ_ne hj] at hb
      by_cases hk : k = x
      · subst hk
        rw [updφ_same] at hc
        rcases hq2 b hc with h | h
        · exact s.dj j k b hjk hb h
        · exact (ap b h).2 ⟨j, hb⟩
      · rw [updφ_ne hk] at hc
        exact s.dj j k b hjk hb hc
  · by_cases hj : j = x
    · subst hj
      rw [updφ_same] at h
      rcases hq2 b h with h | h
      · exact s.nf j b h z
      · exact (ap b h).1 z
    · rw [updφ_ne hj] at h; exact s.nf j b h z
  · rw [upd_ne fun z => hn (.inl ⟨x, by rw [z]; exact ax⟩)]; exact e
  · obtain ⟨j, h⟩ := h
    by_cases hj : j = x
    · subst hj
      rw [updφ_same] at h
      rcases hq2 b h with h | h
      · exact .inl (.inl ⟨j, h⟩)
      · exact .inl (.inr h)
    · rw [updφ_ne hj] at h; exact .inl (.inl ⟨j, h⟩)
/-- what stands at a name that owns its list -/
theorem Sta.ownList (s : Sta F σ H env φ pv) (hx : env[x]? = some (some (.lst false xs))) : ∃ a vs fq, σ[x]? = some (some (.ref a)) ∧ H a = some (.lst vs) ∧ φ x = a :: fq ∧ Reps F H xs vs fq ∧ (a :: fq).Nodup := by
  obtain ⟨v, e, r⟩ := s.rep x _ hx
  simp only [Rep] at r
  obtain ⟨a, vs, fq, rfl, ha, hr, hf⟩ := r
  exact ⟨a, vs, fq, e, ha, hf, hr, by rw [← hf]; exact s.nd x⟩
end
section
variable {X : Cx} {C : CtxD} {clA : Str → Addr} {pv : Pv} {W : WX} {e a b c i tg : Expr} {e' a' b' c' i' : E} {pos : Pos} {st : Stmt}
theorem st_setI {x : Nat} {y : Str} {p0 p1 : Pos} (hN : X.N[x]? = some y) (hv : Vis X.env.scope y) (hd : (y == ("__debug__" : Str)) = false) (hcd : (y == ("__classdict__" : Str)) = false)
    (hs : swapsWithSole [.Subscript (.Name y p0) i p1] e pos.line X.env = pure false) (hw : swappedStores [.Subscript (.Name y p0) i p1] e X.env = pure none)
    (ha : ∀ v, assign (.Subscript (.Name y p0) i p1) X.env v = (do
      let ov ← holding [v] (eval (.Name y p0) X.env)
      let iv ← holding [v, ov] (eval i X.env)
      standAt p1
      holding [v, ov, iv] (setItem ov iv v)
      release [v, ov, iv] [])) (he : ∀ pv, HotP X C clA pv → ESound X C clA pv W e e') (hi : ∀ pv, HotP X C clA pv → ESound X C clA pv W i i') :
    SSound X C clA W (.Assign [.Subscript (.Name y p0) i p1] e pos) (.setI x i' e') := by
  refine ⟨fun pv na hna hot => tS.imp (ps_asg (he pv hot).esc (pg_sub (pe_var hN hv hd hcd) (hi pv hot).esc set_list ha) hs hw) fun σ H Dn F env φ s q => ?_⟩
  simp only [ex] at q
  refine tE.stm s q fun d env1 F1 H1 φ1 v fd e1 E o => ?_
  obtain ⟨n1, n2⟩ := E.nd rfl
  by_cases hx : hasD x env1 = true
  · rw [if_pos hx] at o
    unfold hasD at hx
    split at hx
    · rename_i dx ex
      obtain ⟨vx, evx, _⟩ := E.sr.rep x dx ex
      refine ⟨vx, evx, ?_⟩
      refine tE.stm2 E.sr E.st o fun k env2 F2 H2 φ2 u fd2 e2 E2 o2 => ?_
      have ap := apart n2 E.rep.there E2.stp
      have R1 : Rep F2 H2 d v fd := Rep.over E.sr E2.stp (fun a ha => (n2 a ha).2) E.rep
      unfold setS at o2
      split at o2
      · rename_i xs ex2
        split at o2
        · rename_i kk
          cases hj : ixN xs.length kk with
          | none => rw [hj] at o2; exact o2.elim
          | some j =>
            rw [hj] at o2
            obtain ⟨a, vs, fq, ea, ha, hφ, hr, nd⟩ := E2.sr.ownList ex2
            rw [ea] at evx
            cases evx
            obtain ⟨nd1, nd2⟩ := List.nodup_cons.mp nd
            have afd : ∀ b ∈ fd, b ∉ a :: fq := fun b hb z => (ap b hb).2 (.inl ⟨x, by rw [hφ]; exact z⟩)
            have jlt : j < xs.length := by
              obtain ⟨_, _, _, h4⟩ := ixN_seq hj
              omega
            obtain ⟨fq', q1, q2, q3⟩ := Reps.setAt hr nd2 jlt R1 n1 fun b hb z => afd b hb (by simp [z])
            have hnd : (a :: fq').Nodup := List.nodup_cons.mpr ⟨fun z => (q3 a z).elim nd1 fun z => afd a z (by simp), q2⟩
            obtain ⟨s3, st3⟩ := E2.sr.wr ex2 ea ha hφ q1 hnd q3 fun b hb => ⟨(ap b hb).1, fun z => (ap b hb).2 (.inl z)⟩
            refine ⟨a, vs, kk, j, rfl, E2.rep.1, ha, by rw [hr.length]; exact hj, o2 σ F2 _ _ rfl s3 ?_⟩
            have t1 : Stp F1 H1 (fun b => Own φ1 b ∨ b ∈ fd) F2 H2 (fun b => Own φ2 b ∨ b ∈ fd) := E2.st.mono (fun _ h => .inl h) fun b h => h.imp id fun z => .inl (.inr z)
            exact (E.stp.mono (R' := fun b => Own φ1 b ∨ b ∈ fd) (fun _ h => h) fun b h => .inl (h.imp id fun z => ⟨rfl, z⟩)).trans (t1.trans st3)
        · exact o2.elim
      · exact o2.elim
    · cases hx
  · rw [if_neg hx] at o
    exact o.elim
theorem st_app {x : Nat} {y : Str} {p0 apos cpos : Pos} (hN : X.N[x]? = some y) (hv : Vis X.env.scope y) (hd : (y == ("__debug__" : Str)) = false) (hcd : (y == ("__classdict__" : Str)) = false) (hst : notStar e = true) (hline : (apos.endLine == cpos.line) = true)
    (hfew : ((PySem.backTo cpos (starEach [e] X.env)).all (fun x => !x.1) && (backToKw cpos (keywordEach [] X.env)).all (fun x => x.1.isSome)
      && decide (([e] : List Expr).length + ([] : List Keyword).length + (if ([] : List Keyword).isEmpty then 0 else 1) < 30)) = true) (he : ∀ pv, HotP X C clA pv → ESound X C clA pv W e e') :
    SSound X C clA W (.Expr (.Call (.Attribute (.Name y p0) "append" apos) [e] [] cpos) pos) (.app x e') := by
  refine ⟨fun pv na hna hot => tS.imp (ps_expr (pe_bm PySem.F.plainAttrs_list PySem.F.slot_list_append PySem.F.type_list_append mt_append (pe_var hN hv hd hcd) (pa_cons (he pv hot).esc pa_nil (starEach_cons hst)) rfl hfew hline (starEach_cons hst) rfl)) fun σ H Dn F env φ s q => ?_⟩
  simp only [ex] at q
  by_cases hx : isLstD x env = true
  · rw [if_pos hx] at q
    unfold isLstD at hx
    split at hx
    · rename_i f0 xs0 ex0
      obtain ⟨vx, evx, rx⟩ := s.rep x _ ex0
      obtain ⟨a0, vs0, _, rfl, hq0, _⟩ := Rep.seqL (K := X.K) rx
      refine ⟨.ref a0, evx, .inl ⟨rfl, vs0, hq0⟩, ?_⟩
      refine tE.stm s q fun d env1 F1 H1 φ1 v fd e1 E o => ?_
      obtain ⟨n1, n2⟩ := E.nd rfl
      unfold appS at o
      split at o
      · rename_i xs ex2
        split at o
        · rename_i hl
          obtain ⟨a, vs, fq, ea, ha, hφ, hr, nd⟩ := E.sr.ownList ex2
          rw [ea] at evx
          cases evx
          obtain ⟨nd1, nd2⟩ := List.nodup_cons.mp nd
          have afd : ∀ b ∈ fd, b ∉ a0 :: fq := fun b hb z => (n2 b hb).2 ⟨x, by rw [hφ]; exact z⟩
          have hnd : (a0 :: (fq ++ fd)).Nodup := List.nodup_cons.mpr ⟨fun z => (List.mem_append.mp z).elim nd1 fun z => afd a0 z (by simp), List.nodup_append.mpr ⟨nd2, n1, fun b hb c hc z => by subst z; exact afd b hc (by simp [hb])⟩⟩
          obtain ⟨s3, st3⟩ := E.sr.wr (fd := fd) ex2 ea ha hφ (hr.append (Reps.one E.rep)) hnd (fun b hb => List.mem_append.mp hb) n2
          refine ⟨a0, vs, v, rfl, rfl, ha, by rw [hr.length]; exact hl, o σ F1 _ _ rfl s3 ?_⟩
          exact (E.stp.mono (R' := fun b => Own φ1 b ∨ b ∈ fd) (fun _ h => h) fun b h => .inl (h.imp id fun z => ⟨rfl, z⟩)).trans st3
        · exact o.elim
      · exact o.elim
    · cases hx
  · rw [if_neg hx] at q
    exact q.elim
theorem st_expr (hs : swapsWith e none pos.line X.env = pure false) (he : ∀ pv, HotP X C clA pv → ESound X C clA pv W e e') : SSound X C clA W (.Expr e pos) (.expr e') := by
  refine ⟨fun pv na hna hot => tS.imp (ps_expr (he pv hot).esc hs) fun σ H Dn F env φ s q => ?_⟩
  simp only [ex] at q
  exact tE.stm s q fun d env1 F1 H1 φ1 v fd e1 E o => o σ F1 H1 φ1 rfl E.sr E.st
theorem st_ret (he : ∀ pv, HotP X C clA pv → ESound X C clA pv W e e') : SSound X C clA W (.Return (some e) pos) (.ret e') := by
  refine ⟨fun pv na hna hot => ?_⟩
  by_cases hx : ∃ i, e' = .var i
  · obtain ⟨i, rfl⟩ := hx
    refine tS.imp (ps_ret ((he pv hot).n i rfl)) fun σ H Dn F env φ s q => ?_
    simp only [ex, retS] at q
    split at q
    · rename_i d ei
      obtain ⟨v, ev, r⟩ := s.rep i d ei
      refine ⟨v, ev, ?_⟩
      split at q
      · rename_i hs
        have z := Rep.shr d v _ hs r
        rw [z] at r
        exact q σ F H φ v [] rfl s r List.nodup_nil (fun _ h => nomatch h) ((Stp.refl F H (Own φ)).mono (fun _ h => h) fun _ h => .inl (h.elim id fun z => nomatch z))
      · split at q
        · obtain ⟨v', e2', r', s', st', cn'⟩ := s.freeze ei
          rw [ev] at e2'
          cases e2'
          exact q σ _ H _ v [] rfl s' r' List.nodup_nil (fun _ h => nomatch h) (st'.mono (fun _ h => h) fun _ h => .inl (h.elim id fun z => nomatch z))
        · have s' : Sta F σ H (env.set i none) (offφ [i] φ) pv := s.off (by rw [List.length_set]; exact s.len) (fun j hj => get_set_ne (by simpa using hj)) (fun j hj d' e => by
            have : j = i := by simpa using hj
            subst this
            rw [List.getElem?_set_self (get_lt ei)] at e
            cases e) (fun _ _ _ h => h) s.pv
          refine q σ F H _ v (φ i) rfl s' r (s.nd i) (fun a ha => ⟨fun f => s.nf i a ha f, s.apartOff (by simp) ha⟩) ((Stp.refl F H (Own φ)).mono (fun _ h => h) fun a h => .inl ?_)
          rcases h with h | h
          · exact Own_off' h
          · exact ⟨i, h⟩
    · exact q.elim
  · refine tS.imp (ps_ret (he pv hot).esc) fun σ H Dn F env φ s q => ?_
    have q : EndS clA pv W σ.length F H φ Dn ((ev C .esc e' env).toS fun d env => .rt d env) := by
      cases e' <;> first | exact absurd ⟨_, rfl⟩ hx | (simp only [ex] at q; exact q)
    exact tE.stm s q fun d env1 F1 H1 φ1 v fd e1 E o => o σ F1 H1 φ1 v fd rfl E.sr E.rep (E.nd rfl).1 (E.nd rfl).2 (E.stp.mono (fun _ h => h) fun a h => .inl (h.imp id fun z => ⟨rfl, z⟩))
theorem st_retN : SSound X C clA W (.Return none pos) (.ret .non) := by
  refine ⟨fun pv na hna hot => tS.imp ps_retN fun σ H Dn F env φ s q => ?_⟩
  simp only [ex, ev, fin, Res.toS] at q
  exact q σ F H φ .non [] rfl s ⟨rfl, rfl⟩ List.nodup_nil (fun _ h => nomatch h) ((Stp.refl F H (Own φ)).mono (fun _ h => h) fun _ h => .inl (h.elim id fun z => nomatch z))
theorem st_brk : SSound X C clA W (.Break pos) .brk := ⟨fun pv na hna hot => tS.imp ps_break fun σ H Dn F env φ s q => by simp only [ex] at q; exact q σ F H φ rfl s (Stp.refl ..)⟩
theorem st_cont : SSound X C clA W (.Continue pos) .cont := ⟨fun pv na hna hot => tS.imp ps_continue fun σ H Dn F env φ s q => by simp only [ex] at q; exact q σ F H φ rfl s (Stp.refl ..)⟩
theorem st_pass : SSound X C clA W (.Pass pos) .pass := ⟨fun pv na hna hot => tS.imp ps_pass fun σ H Dn F env φ s q => by simp only [ex] at q; exact q σ F H φ rfl s (Stp.refl ..)⟩
theorem st_never : SSound X C clA W st .never := ⟨fun pv na hna hot => tS.imp ps_never fun σ H Dn F env φ s q => by simp only [ex] at q; exact q⟩
theorem sts_nil : SsSound X C clA W [] .nil := ⟨fun pv na hna hot => PSs.imp pss_nil fun σ H Dn ⟨F, env, φ, s, q⟩ => by simp only [exs] at q; exact q σ F H φ rfl s (Stp.refl ..)⟩
theorem sts_cons {rest : List Stmt} {s' : S} {ss' : Ss} (h1 : SSound X C clA W st s') (h2 : SsSound X C clA W rest ss') : SsSound X C clA W (st :: rest) (.cons s' ss') := by
  refine ⟨fun pv na hna hot => PSs.imp (pss_cons (h1.run pv na hna hot) (h2.run pv na hna hot)) fun σ H Dn ⟨F, env, φ, s, q⟩ => ⟨F, env, φ, s, ?_⟩⟩
  simp only [exs] at q
  cases e1 : ex C na s' env with
  | nx e =>
    rw [e1] at q
    exact fun σ' F' H' φ' hl s2 st2 => ⟨F', e, φ', s2, by rw [hl]; exact EndS.after q st2⟩
  | bk e => rw [e1] at q; exact q
  | ct e => rw [e1] at q; exact q
  | rt d e => rw [e1] at q; exact q
  | exc c fs e => rw [e1] at q; exact q
  | no => rw [e1] at q; exact q.elim
theorem EndS.onBool {n : Nat} {F : Addr → Prop} {H : Hp} {φ : Nat → List Addr} {Dn : Ends} {d : D} {t f : SR} (h : EndS clA pv W n F H φ Dn (VS.onBool d t f .no)) : ∃ b, d = .bl b ∧ EndS clA pv W n F H φ Dn (if b = true then t else f) := by
  cases d with
  | bl b => exact ⟨b, rfl, by cases b <;> exact h⟩
  | _ => exact h.elim
theorem tT.stm {σ : L2.St} {cf : Bool} {F : Addr → Prop} {H : Hp} {φ : Nat → List Addr} {env : EnvD} {Dn : Ends} {f : EnvD → Res D} {k : D → EnvD → SR} {R : Bool → Hp → Prop} (s : Sta F σ H env φ pv) (h : EndS clA pv W σ.length F H φ Dn ((f env).toS k)) (hb : ∀ d e, EndS clA pv W σ.length F H φ Dn (k d e) → ∃ b, d = .bl b)
    (hk : ∀ b env1 F1 H1 φ1, Sta F1 σ H1 env1 φ1 pv → Stp F H (Own φ) F1 H1 (Own φ1) → EndS clA pv W σ.length F H φ Dn (k (.bl b) env1) → R b H1) : tT clA pv W cf f σ H R :=
  ⟨F, env, φ, s, h.toS.mono (fun _ _ _ x => x) fun d env1 e o => by
    obtain ⟨b, rfl⟩ := hb d env1 o
    exact ⟨b, rfl, fun F1 H1 φ1 s1 st1 _ => hk b env1 F1 H1 φ1 s1 st1 o⟩⟩
theorem EndS.toS2 {α : Type} {σ : L2.St} {n : Nat} {F : Addr → Prop} {H : Hp} {φ : Nat → List Addr} {Dn : Ends} {r : Res α} {k : α → EnvD → SR} (hn : σ.length = n) (h : EndS clA pv W n F H φ Dn (r.toS k)) : Post (XOut clA pv W σ F H φ) (fun a e => EndS clA pv W n F H φ Dn (k a e)) r := by
  subst hn
  exact h.toS
theorem tT.stm2 {σ : L2.St} {n : Nat} {cf : Bool} {F F1 : Addr → Prop} {H H1 : Hp} {φ φ1 : Nat → List Addr} {env1 : EnvD} {Dn : Ends} {f : EnvD → Res D} {k : D → EnvD → SR} {R : Bool → Hp → Prop} (hn : σ.length = n) (s : Sta F1 σ H1 env1 φ1 pv) (st : Stp F H (Own φ) F1 H1 (Own φ1)) (h : EndS clA pv W n F H φ Dn ((f env1).toS k)) (hb : ∀ d e, EndS clA pv W n F H φ Dn (k d e) → ∃ b, d = .bl b)
    (hk : ∀ b env2 F2 H2 φ2, Sta F2 σ H2 env2 φ2 pv → Stp F1 H1 (Own φ1) F2 H2 (Own φ2) → EndS clA pv W n F H φ Dn (k (.bl b) env2) → R b H2) : tT clA pv W cf f σ H1 R :=
  ⟨F1, env1, φ1, s, (h.toS2 hn).mono (fun _ _ _ x => x.after st) fun d env2 e o => by
    obtain ⟨b, rfl⟩ := hb d env2 o
    exact ⟨b, rfl, fun F2 H2 φ2 s2 st2 _ => hk b env2 F2 H2 φ2 s2 st2 o⟩⟩
theorem st_if {p q : List Stmt} {p' q' : Ss} (hc : ∀ pv, HotP X C clA pv → ESound X C clA pv W c c') (hp : SsSound X C clA W p p') (hq : SsSound X C clA W q q') : SSound X C clA W (.If c p q pos) (.if_ c' p' q') := by
  refine ⟨fun pv na hna hot => tS.imp (ps_if (hc pv hot).t (hp.run pv na hna hot) (hq.run pv na hna hot)) fun σ H Dn F env φ s h => ?_⟩
  simp only [ex] at h
  refine tT.stm s h (fun d e o => let ⟨b, e1, _⟩ := o.onBool; ⟨b, e1⟩) fun b env1 F1 H1 φ1 s1 st1 o => ?_
  obtain ⟨k, e2, o⟩ := o.onBool
  cases e2
  cases b with
  | true => exact ⟨F1, env1, φ1, s1, o.after st1⟩
  | false => exact ⟨F1, env1, φ1, s1, o.after st1⟩
theorem st_while {p : List Stmt} {p' : Ss} (po : PassesOwn (model X.prog X.w) X.A X.env X.xe) (hc : ∀ pv, HotP X C clA pv → ESound X C clA pv W c c') (hp : SsSound X C clA W p p') : SSound X C clA W (.While c p [] pos) (.while_ c' p') := by
  refine ⟨fun pv na hna hot => tS.imp (ps_while po (hc pv hot).t (hp.run pv na hna hot)) fun σ H Dn F env φ s h => ?_⟩
  simp only [ex] at h
  refine ⟨fun m σ' H' => ∃ F' env' φ', σ'.length = σ.length ∧ Sta F' σ' H' env' φ' pv ∧ Stp F H (Own φ) F' H' (Own φ') ∧ EndS clA pv W σ.length F H φ Dn (whileF (fun e => ev C .ts c' e) (fun e => exs C na p' e) m env'), ⟨C.W, F, env, φ, rfl, s, Stp.refl .., h⟩, ?_⟩
  rintro m σ1 H1 ⟨F1, env1, φ1, hl1, s1, st1, h1⟩
  cases m with
  | zero => exact h1.elim
  | succ m =>
    simp only [whileF] at h1
    refine tT.stm2 hl1 s1 st1 h1 (fun d e o => let ⟨b, e1, _⟩ := o.onBool; ⟨b, e1⟩) fun b env2 F2 H2 φ2 s2 st2 o => ?_
    obtain ⟨k, e2, o⟩ := o.onBool
    cases e2
    have st12 := st1.trans st2
    cases b with
    | false => exact o σ1 F2 H2 φ2 hl1 s2 st12
    | true =>
      refine ⟨_, fun σ' H' w => ⟨m, Nat.lt_succ_self m, w⟩, F2, env2, φ2, s2, ?_⟩
      rw [hl1]
      simp only [if_true] at o
      cases eb : exs C na p' env2 with
      | nx e => rw [eb] at o; exact fun σ' F' H' φ' hl s3 st3 => ⟨F', e, φ', hl, s3, st12.trans st3, o⟩
      | ct e => rw [eb] at o; exact fun σ' F' H' φ' hl s3 st3 => ⟨F', e, φ', hl, s3, st12.trans st3, o⟩
      | bk e => rw [eb] at o; exact EndN.after (show EndN pv σ.length F H φ Dn.nx e from o) st12
      | rt d e => rw [eb] at o; exact (EndS.after (show EndS clA pv W σ.length F H φ Dn (.rt d e) from o) st12)
      | exc c fs e => rw [eb] at o; exact (EndS.after (show EndS clA pv W σ.length F H φ Dn (.exc c fs e) from o) st12)
      | no => rw [eb] at o; exact o.elim
/-! ## for -/
theorem lk_vals {F : Addr → Prop} {σ : L2.St} {H : Hp} {env : EnvD} {φ : Nat → List Addr} (s : Sta F σ H env φ pv) : ∀ {lk : List (Nat × D)}, (∀ p ∈ lk, env[p.1]? = some (some p.2)) → ∃ lp : List (Nat × V), lp.map (·.1) = lk.map (·.1) ∧ ∀ p ∈ lp, σ[p.1]? = some (some p.2)
  | [], _ => ⟨[], rfl, fun _ h => nomatch h⟩
  | (i, d) :: r, h => by
    obtain ⟨lp, h1, h2⟩ := lk_vals s (lk := r) fun p hp => h p (by simp [hp])
    obtain ⟨v, e, _⟩ := s.rep i d (h (i, d) (by simp))
    exact ⟨(i, v) :: lp, by simp [h1], fun p hp => by
      rcases List.mem_cons.mp hp with rfl | hp
      · exact e
      · exact h2 p hp⟩
/-- what was taken for the while is put back -/
theorem restore {σ σ2 : L2.St} {F1 F2 : Addr → Prop} {H1 H2 : Hp} {φm φ2 : Nat → List Addr} {envm env1 env2 : EnvD} {lk : List (Nat × D)} {lp : List (Nat × V)} {fd : List Addr} (s : Sta F1 σ H1 envm φm pv) (A : Aside lk envm env1) (h1 : lp.map (·.1) = lk.map (·.1)) (h2 : ∀ p ∈ lp, σ[p.1]? = some (some p.2)) (hl : σ2.length = σ.length)
    (s2 : Sta F2 σ2 H2 env2 φ2 (Pv.add lp pv)) (st : Stp F1 H1 (Own (offφ (lk.map (·.1)) φm)) F2 H2 (fun a => Own φ2 a ∨ a ∈ fd)) (hfd : ∀ a ∈ fd, ¬ Own φ2 a) :
    Sta F2 σ2 H2 (putLk lk env2) (onφ (lk.map (·.1)) φm φ2) pv ∧ Stp F1 H1 (Own φm) F2 H2 (fun a => Own (onφ (lk.map (·.1)) φm φ2) a ∨ a ∈ fd) ∧ ∀ a ∈ fd, ¬ Own (onφ (lk.map (·.1)) φm φ2) a := by
  have hlen : env2.length = envm.length := by rw [← s2.len, hl, s.len]
  refine ⟨Sta.on s s2 st (fun _ h => .inl h) (by rw [putLk_len]; exact s2.len) (fun j hj => putLk_out hj) (fun j hj => A.put hlen hj) (fun _ _ _ h => h) (fun j v hj e _ => ?_) (fun p hp => s2.pv p (Pv.mem_add.mpr (.inr hp))), Stp.on st, fun a ha z => ?_⟩
  · rw [← h1] at hj
    obtain ⟨p, hp, rfl⟩ := List.mem_map.mp hj
    rw [h2 p hp] at e
    cases e
    exact s2.pv p (Pv.mem_add.mpr (.inl hp))
  · rcases Own_on z with ⟨j, hj, z⟩ | z
    · rcases st.p a (.inr ha) with h | h
      · exact s.apartOff hj z h
      · exact s.ownH ⟨j, z⟩ h
    · exact hfd a ha z
theorem st_for {p : List Stmt} {p' : Ss} {it : VS.It} {g : Tg} {iter : Expr} (po : PassesOwn (model X.prog X.w) X.A X.env X.xe) (hc : X.calm = true) (hs : ∀ x, foldedSetIterable iter X.env x = pure x) (hi : ∀ pv, HotP X C clA pv → ∀ u, PI X tg iter (tIt clA pv W (evIt C u it))) (hg : ∀ pv, PG X tg (tTg pv g)) (hp : SsSound X C clA W p p') :
    SSound X C clA W (.For tg iter p [] pos) (.for_ g it p') := by
  have hb : PSs X p (fun Dn σ H => ∃ pv' na', (∀ p ∈ pv', p.1 ∈ na') ∧ HotP X C clA pv' ∧ tS clA pv' W (exs C na' p') Dn σ H) := ⟨fun pins s σ H Dn I ⟨pv', na', h, hot', q⟩ => (hp.run pv' na' h hot').run pins s σ H Dn I q⟩
  have hgA : PG X tg (fun v σ H Q => ∃ pv', tTg pv' g v σ H Q) := ⟨fun pins s σ H v u Q I r ⟨pv', q⟩ => (hg pv').run pins s σ H v u Q I r q⟩
  refine ⟨fun pv na hna hot => tS.imp (ps_for po hc (hi pv hot fun i => p'.uses i || g.slots.contains i) hgA hb hs) fun σ H Dn F env φ s0 q => ?_⟩
  simp only [ex] at q
  split at q
  · rename_i hfr
    refine ⟨F, env, φ, s0, q.toS.mono (fun _ _ _ x => x) fun t env1 et o F1 H1 φm envm J I => ?_⟩
    obtain ⟨lp, hlp1, hlp2⟩ := lk_vals I.sr (lk := t.lk) fun p hp => (I.asd.inn p hp).1
    have hna' : ∀ p ∈ Pv.add lp pv, p.1 ∈ t.lk.map (·.1) ++ na := fun p hp => by
      rcases List.mem_append.mp hp with hp | hp
      · exact List.mem_append_left _ (hlp1 ▸ List.mem_map.mpr ⟨p, hp, rfl⟩)
      · exact List.mem_append_right _ (hna p hp)
    by_cases hfr2 : free (t.lk.map (·.1)) g.slots = true
    · rw [if_pos hfr2] at o
      have htg : ∀ p ∈ Pv.add lp pv, p.1 ∉ g.slots := fun p hp => by
        rcases List.mem_append.mp hp with hp | hp
        · intro z
          have := List.all_eq_true.mp hfr2 p.1 z
          have h2 : p.1 ∈ t.lk.map (·.1) := hlp1 ▸ List.mem_map.mpr ⟨p, hp, rfl⟩
          simp only [Bool.not_eq_true', List.contains_eq_mem, decide_eq_false_iff_not] at this
          exact this h2
        · exact no_free hna hfr p hp
      have hlm : envm.length = σ.length := I.sr.len.symm
      have put : ∀ {σ2 F2 H2 env2 φ2}, σ2.length = σ.length → Sta F2 σ2 H2 env2 φ2 (Pv.add lp pv) → Stp F1 H1 (Own (offφ (t.lk.map (·.1)) φm)) F2 H2 (Own φ2) → Sta F2 σ2 H2 (putLk t.lk env2) (onφ (t.lk.map (·.1)) φm φ2) pv ∧ Stp F H (Own φ) F2 H2 (Own (onφ (t.lk.map (·.1)) φm φ2)) := fun {σ2 F2 H2 env2 φ2} hl s2 st2 => by
        obtain ⟨r1, r2, _⟩ := restore (fd := []) I.sr I.asd hlp1 hlp2 hl s2 (st2.mono (fun _ h => h) fun a h => .inl (h.elim id fun z => nomatch z)) (fun _ h => nomatch h)
        exact ⟨r1, I.stp.trans (r2.mono (fun _ h => h) fun a h => .inl (.inl h))⟩
      refine for_it (g := fun v σ H Q => ∃ pv', tTg pv' g v σ H Q) (tb := fun Dn σ H => ∃ pv' na', (∀ p ∈ pv', p.1 ∈ na') ∧ HotP X C clA pv' ∧ tS clA pv' W (exs C na' p') Dn σ H) (D := Dn) I.w (fun i σ' H' => ∃ F2 env2 φ2, σ'.length = σ.length ∧ Sta F2 σ' H' env2 φ2 (Pv.add lp pv) ∧ Stp F1 H1 (Own (offφ (t.lk.map (·.1)) φm)) F2 H' (Own φ2) ∧
        EndS clA pv W σ.length F H φ Dn ((forL g (fun e => exs C (t.lk.map (·.1) ++ na) p' e) (t.items.drop i) env2).env (putLk t.lk))) ?_ ?_ ?_ ?_
      · exact ⟨F1, env1, offφ (t.lk.map (·.1)) φm, rfl, I.asd.sta I.sr (fun p hp => (Pv.mem_add.mp hp).elim (hlp2 p) (I.sr.pv p)), Stp.refl .., o⟩
      · rintro i σ' H' hi ⟨F2, env2, φ2, _, _, st2, _⟩
        exact ⟨F2, st2.kp⟩
      · rintro i x σ' H2 H3 hi ⟨F2, env2, φ2, hl, s2, st2, h⟩ ⟨hk, hy⟩
        obtain ⟨d, ed, rd⟩ := hy F2 st2.kp
        rw [drop_get ed] at h
        simp only [forL] at h
        cases e1 : setTg g d env2 with
        | none => rw [e1] at h; exact h.elim
        | some env3 =>
          rw [e1] at h
          simp only at h
          have s2' : Sta F2 σ' H3 env2 φ2 (Pv.add lp pv) := s2.grow hk (fun _ h => h) s2.nf fun a f => by
            cases e : H2 a with
            | none => exact absurd e (s2.fh a f)
            | some o => rw [hk a o e]; simp
          refine ⟨Pv.add lp pv, F2, env2, φ2, d, s2', rd, htg, env3, e1, fun σ3 φ3 s3 o3 l3 _ => ⟨Pv.add lp pv, t.lk.map (·.1) ++ na, hna', hot.add, F2, env3, φ3, s3, ?_⟩⟩
          rw [l3, hl]
          have ST : Stp F1 H1 (Own (offφ (t.lk.map (·.1)) φm)) F2 H3 (Own φ3) := st2.trans ((Stp.grow hk).trans (Stp.freeze (fun _ h => h) (fun _ h => .inl h) o3))
          cases eb : exs C (t.lk.map (·.1) ++ na) p' env3 with
          | nx e => rw [eb] at h; exact fun σ4 F4 H4 φ4 hl4 s4 st4 => ⟨F4, e, φ4, hl4, s4, ST.trans st4, h⟩
          | ct e => rw [eb] at h; exact fun σ4 F4 H4 φ4 hl4 s4 st4 => ⟨F4, e, φ4, hl4, s4, ST.trans st4, h⟩
          | bk e =>
            rw [eb] at h
            intro σ4 F4 H4 φ4 hl4 s4 st4
            obtain ⟨r1, r2⟩ := put hl4 s4 (ST.trans st4)
            exact h σ4 F4 H4 _ hl4 r1 r2
          | rt d2 e =>
            rw [eb] at h
            intro σ4 F4 H4 φ4 v fd hl4 s4 r4 n4 ap4 st4
            obtain ⟨r1, r2, r3⟩ := restore I.sr I.asd hlp1 hlp2 hl4 s4 (ST.trans st4) fun a ha => (ap4 a ha).2
            exact h σ4 F4 H4 _ v fd hl4 r1 r4 n4 (fun a ha => ⟨(ap4 a ha).1, r3 a ha⟩) (I.stp.trans r2)
          | exc c fs e =>
            rw [eb] at h
            intro σ4 dd F4 H4 φ4 gs hl4 s4 hd4 e4 r4 st4
            obtain ⟨r1, r2⟩ := put hl4 s4 (ST.trans st4)
            exact h σ4 dd F4 H4 _ gs hl4 r1 hd4 e4 r4 r2
          | no => rw [eb] at h; exact h.elim
      · rintro σ2 H2 ⟨F2, env2, φ2, hl, s2, st2, h⟩
        rw [List.drop_length] at h
        obtain ⟨r1, r2⟩ := put hl s2 st2
        exact h σ2 F2 H2 _ hl r1 r2
    · rw [if_neg hfr2] at o
      exact o.elim
  · exact q.elim
end
end VS

end

section
set_option linter.all false
set_option maxRecDepth 100000
set_option maxHeartbeats 2000000
/-! ## a slice of a list is written: its end may lie beyond the list -/
namespace VSL
open PySem PySem.Spec PyProof.Rows L2 HT
theorem sl_bounds {a c n : Nat} (h1 : a ≤ c) (h2 : a ≤ n) : sliceBounds (some (a : Int)) (some (c : Int)) none n = ((a : Int), ((min c n : Nat) : Int), 1) := by
  have p : ¬ ((a : Int) < 0) := by omega
  have q : ¬ ((c : Int) < 0) := by omega
  simp only [sliceBounds, Option.getD_none, p, q, if_false, show (1 : Int) > 0 by decide, if_true]
  rw [Int.min_eq_left (show (a : Int) ≤ n by omega)]
  congr 2
  omega
section
variable {prog : Program} {w : World} {A : Around} {E : Value → Shared → Prop} {s : Shared}
theorem write_slice {l b sl : Addr} {old new : List Value} {n n2 : Nat} {vl vu : Value} {a c : Nat} {Q : Unit → Shared → Prop}
    (e : s.heap.get? l = some { cls := .type "list", data := .seq old.toArray n }) (e2 : s.heap.get? b = some { cls := .type "list", data := .seq new.toArray n2 }) (hne : l ≠ b)
    (hs : s.heap.IsSliceOf sl vl vu .none) (pl : IsPart vl (some (a : Int))) (pu : IsPart vu (some (c : Int))) (h1 : a ≤ c) (h2 : a ≤ old.length) (hz : old.length + new.length ≤ sizeLine)
    (h : Q () { s with heap := s.heap.update l (Obj.mapSeq fun xs => xs.extract 0 a ++ new.toArray ++ xs.extract (min c old.length) xs.size) }) :
    wpAny (model prog w) A (setItem (.ref l) (.ref sl) (.ref b)) Q E s := by
  have tl : s.TypeIs (.ref l) "list" := ⟨_, e, rfl⟩
  have tb : s.TypeIs (.ref b) "list" := ⟨_, e2, rfl⟩
  obtain ⟨os, ho, hc, hd⟩ := id hs
  have ts : s.TypeIs (.ref sl) "slice" := ⟨os, ho, hc⟩
  have dif : Builtin.List.listSameRef (.ref l) (.ref b) = false := beq_eq_false_iff_ne.mpr hne
  have fit : Builtin.List.listTooLong (old.toArray.size + new.toArray.size) = false := notLongL (by rw [List.size_toArray, List.size_toArray]; exact hz)
  have mx : (max ((a : Nat) : Int) ((min c old.length : Nat) : Int)).toNat = min c old.length := by omega
  unfold setItem
  try with_reducible refine wpAny_holding ?_
  first | refine wpAny_bind (wpAny_pure ?_) | skip
  refine wpAny_bind (wpAny_sequenceKey tl (by decide) ?_)
  refine wpAny_bind (wpAny_callSpecial?_slot (name := Str.ofString "__setitem__") tl slot_list_setitem (wpAny_call_entry slot_list_setitem tl entry_list_setitem ?_ (args_list_setitem _ _ _)))
  show wpAny _ _ (Builtin.List.listSubscript? (.ref sl) >>= _) _ _ s
  unfold Builtin.List.listSubscript?
  refine wpAny_bind (wpAny_bind (wpAny_specialOf ts slice_no_index ?_))
  simp only [Option.isNone_none, if_true]
  refine wpAny_pure ?_
  show wpAny _ _ (typeOf (.ref sl) >>= _) _ _ s
  refine wpAny_bind (wpAny_typeOf ts ?_)
  first
    | rw [if_neg (by decide)]
    | refine PySem.W.KFB.if_not (by decide) ?_
  rw [listSliceParts_eq]
  refine wpAny_bind (wpAny_bind (wpAny_field ho hd (x := .none) rfl (wpAny_bind (wpAny_listPart .none ?_))))
  rw [if_neg (show ¬ ((rawPart none == rawInt 0) = true) from Bool.false_ne_true)]
  refine wpAny_bind (wpAny_field ho hd (x := vl) rfl (wpAny_bind (wpAny_listPart pl ?_)))
  refine wpAny_bind (wpAny_field ho hd (x := vu) rfl (wpAny_bind (wpAny_listPart pu (wpAny_pure ?_))))
  first
    | simp only [dif, Bool.false_eq_true, if_false]
    | refine PySem.W.KFB.if_not dif ?_
  refine wpAny_bind (m := Builtin.List.listAllItems (.ref b) "must assign iterable to extended slice") ?_
  unfold Builtin.List.listAllItems
  refine wpAny_bind (wpAny_typeOf tb ?_)
  first
    | refine PySem.W.KFB.if_so (by decide) ?_
    | rw [if_pos (by decide)]
  unfold Builtin.List.listItems
  refine wpAny_bind (wpAny_seqItems e2 rfl (wpAny_pure ?_))
  refine wpAny_bind (wpAny_bind (wpAny_seqItems e rfl (wpAny_pure ?_)))
  have sb : sliceBounds (some (a : Int)) (some (c : Int)) none old.toArray.size = ((a : Int), ((min c old.length : Nat) : Int), 1) := by
    rw [List.size_toArray]
    exact sl_bounds h1 h2
  refine wpAny_bind (wpAny_of_eq (a := ((a : Int), ((min c old.length : Nat) : Int), (1 : Int))) ((sliceIndices_raw (some (a : Int)) (some (c : Int)) none old.toArray.size (by simp)).trans (congrArg (pure : Int × Int × Int → Sem (Int × Int × Int)) sb)) ?_)
  show wpAny _ _ (if ((1 : Int) == 1) = true then _ else _) _ _ s
  rw [if_pos (by decide)]
  refine wpAny_bind (wpAny_rule ?_)
  first
    | simp only [fit, Bool.false_eq_true, if_false]
    | refine PySem.W.KFB.if_not fit ?_
  first | refine wpAny_bind (wpAny_pure ?_) | skip
  show wpAny _ _ (updateSeq l (fun xs => xs.extract 0 ((a : Nat) : Int).toNat ++ new.toArray ++ xs.extract (max ((a : Nat) : Int) ((min c old.length : Nat) : Int)).toNat xs.size) >>= _) _ _ s
  rw [mx, Int.toNat_natCast]
  refine wpAny_bind (wpAny_updateSeq (hz := by rw [List.size_toArray]; omega) (_hz' := by simp only [Array.size_append, Array.size_extract, List.size_toArray]; omega) e rfl ?_)
  refine wpAny_bind (wpAny_letGo ?_)
  first
    | exact wpAny_bind (wpAny_pure (wpAny_pure ⟨.none, rfl, wpAny_pure h⟩))
    | exact wpAny_pure ⟨.none, rfl, wpAny_pure h⟩
end
end VSL
namespace VS
open PySem L2
section
variable {X : Cx}
/-- xs[a:c] = ys of another list -/
theorem set_slice2 {pins : List (Addr × Obj)} {s : Shared} {σ : L2.St} {H : Hp} {l b sl : Addr} {xs ys : List V} {a c : Int} {vl vu : Value} {Q : Unit → Shared → Prop} (I : Inv X pins σ H s)
    (hH : H l = some (.lst xs)) (hB : H b = some (.lst ys)) (hne : l ≠ b) (hs : s.heap.IsSliceOf sl vl vu .none) (pl : IsPart vl (some a)) (pu : IsPart vu (some c)) (h0 : 0 ≤ a) (hac : a ≤ c) (hal : a ≤ xs.length)
    (hz : xs.length + ys.length ≤ sizeLine) (h : ∀ s', Inv X pins σ (upd H l (.lst (xs.take a.toNat ++ ys ++ xs.drop c.toNat))) s' → Q () s') :
    wpAny (model X.prog X.w) X.A (setItem (.ref l) (.ref sl) (.ref b)) Q X.xe s := by
  obtain ⟨z, its, n, r, hl, e⟩ := I.lstM hH
  obtain ⟨z2, its2, n2, r2, hl2, e2⟩ := I.lstM hB
  obtain ⟨a', rfl⟩ := Int.eq_ofNat_of_zero_le h0
  obtain ⟨c', rfl⟩ := Int.eq_ofNat_of_zero_le (Int.le_trans h0 hac)
  simp only [Int.toNat_natCast] at h
  refine VSL.write_slice (a := a') (c := c') e e2 hne hs pl pu (by omega) (by omega) (by omega) (h _ ?_)
  have q : xs.drop c' = xs.drop (min c' its.length) := by
    by_cases k : c' ≤ its.length
    · rw [Nat.min_eq_left k]
    · rw [List.drop_of_length_le (by omega), List.drop_of_length_le (by omega)]
  rw [q]
  refine I.lset (its' := its.take a' ++ its2 ++ its.drop (min c' its.length)) (t' := s.toks) hH e ?_ (Vals.append (Vals.append (r.take _) r2) (r.drop _)) ?_
  · exact L2.splice_eq its its2 a' (min c' its.length)
  · rw [List.length_append, List.length_append, List.length_take, List.length_drop]
    omega
def gSl (to tl tu : TE) : TG := fun v σ H Q => to σ H fun x H1 => tl σ H1 fun y H2 => tu σ H2 fun z H3 => ∃ l b xs ys a c, x = .ref l ∧ v = .ref b ∧ y = .int a ∧ z = .int c ∧ H3 l = some (.lst xs) ∧ H3 b = some (.lst ys) ∧ l ≠ b ∧ 0 ≤ a ∧ a ≤ c ∧ a ≤ xs.length ∧ xs.length + ys.length ≤ sizeLine ∧
  Q σ (upd H3 l (.lst (xs.take a.toNat ++ ys ++ xs.drop c.toNat)))
theorem pg_slice {o lo hi : Expr} {to tl tu : TE} {p1 p2 : Pos} (ho : PE X o to) (hl : PE X lo tl) (hu : PE X hi tu) : PG X (.Subscript o (.Slice (some lo) (some hi) none p2) p1) (gSl to tl tu) := by
  refine ⟨fun pins s σ H v u Q I r h => ?_⟩
  show wpAny _ _ (do
    let ov ← holding [u] (eval o X.env)
    let iv ← holding [u, ov] (eval (.Slice (some lo) (some hi) none p2) X.env)
    standAt p1
    holding [u, ov, iv] (setItem ov iv u)
    release [iv, u, ov] []) _ _ _
  refine wpAny_bind (wpAny_holding (thn (ho.run pins s σ H _ I h) fun ov s1 ⟨x, H1, I1, r1, q1⟩ => ?_))
  refine wpAny_bind (wpAny_holding (wpAny_Slice ?_))
  rw [evalPart_some, evalPart_some, evalPart_none]
  refine thn (hl.run pins s1 σ H1 _ I1 q1) fun vl s2 ⟨y, H2, I2, r2, q2⟩ => thn (hu.run pins s2 σ H2 _ I2 q2) fun vu s3 ⟨z, H3, I3, r3, q3⟩ => ?_
  refine wpAny_pure ?_
  have I4 : Inv X pins σ H3 { s3 with heap := s3.heap.push { cls := .type "slice", data := .fields #[vl, vu, .none] } } := I3.kept (t' := s3.toks) fun b ob q => Heap.get?_push_of_some _ q
  obtain ⟨l, b, xs, ys, a, c, rfl, rfl, rfl, rfl, h1, h2, h3, h4, h5, h6, h7, q⟩ := q3
  cases r
  cases r1
  obtain ⟨ta, rfl⟩ := r2
  obtain ⟨tc, rfl⟩ := r3
  refine wpAny_bind (wpAny_standAt (wpAny_bind (wpAny_holding (set_slice2 I4 h1 h2 h3 (Heap.IsSliceOf.new ..) (.int a ta) (.int c tc) h4 h5 h6 h7 fun s' I5 => ?_))))
  exact wpAny_release ⟨σ, _, I5, q⟩
end
section
variable {F : Addr → Prop} {H : Hp}
theorem Reps.split : ∀ {ds : List D} {vs : List V} {fq : List Addr} (k : Nat), Reps F H ds vs fq → ∃ f1 f2, fq = f1 ++ f2 ∧ Reps F H (ds.take k) (vs.take k) f1 ∧ Reps F H (ds.drop k) (vs.drop k) f2
  | ds, vs, fq, 0, r => ⟨[], fq, rfl, ⟨rfl, rfl⟩, r⟩
  | [], vs, fq, k + 1, r => by
    simp only [Reps] at r
    obtain ⟨rfl, rfl⟩ := r
    exact ⟨[], [], rfl, ⟨rfl, rfl⟩, ⟨rfl, rfl⟩⟩
  | d :: ds, vs, fq, k + 1, r => by
    simp only [Reps] at r
    obtain ⟨u, ws, f1, f2, rfl, rfl, r1, r2⟩ := r
    obtain ⟨g1, g2, rfl, q1, q2⟩ := Reps.split k r2
    exact ⟨f1 ++ g1, g2, by simp, ⟨u, ws.take k, f1, g1, rfl, rfl, r1, q1⟩, q2⟩
end
section
variable {X : Cx} {C : CtxD} {clA : Str → Addr} {pv : Pv} {W : WX} {e a b c i tg lo hi : Expr} {e' a' b' c' i' lo' hi' : E} {pos : Pos} {st : Stmt}
theorem st_ins {x : Nat} {y : Str} {p0 apos cpos : Pos} (hN : X.N[x]? = some y) (hv : Vis X.env.scope y) (hd : (y == ("__debug__" : Str)) = false) (hcd : (y == ("__classdict__" : Str)) = false) (hst : notStar i = true) (hst2 : notStar e = true) (hline : (apos.endLine == cpos.line) = true)
    (hfew : ((PySem.backTo cpos (starEach [i, e] X.env)).all (fun x => !x.1) && (backToKw cpos (keywordEach [] X.env)).all (fun x => x.1.isSome)
      && decide (([i, e] : List Expr).length + ([] : List Keyword).length + (if ([] : List Keyword).isEmpty then 0 else 1) < 30)) = true) (hi : ∀ pv, HotP X C clA pv → ESound X C clA pv W i i') (he : ∀ pv, HotP X C clA pv → ESound X C clA pv W e e') :
    SSound X C clA W (.Expr (.Call (.Attribute (.Name y p0) "insert" apos) [i, e] [] cpos) pos) (.ins x i' e') := by
  refine ⟨fun pv na hna hot => tS.imp (ps_expr (pe_bm PySem.F.plainAttrs_list PySem.F.slot_list_insert PySem.F.type_list_insert mt_insert (pe_var hN hv hd hcd) (pa_cons (hi pv hot).esc (pa_cons (he pv hot).esc pa_nil (starEach_cons hst2)) (starEach_cons hst)) rfl hfew hline (starEach_cons hst) (starEach_any fun z hz => by simp at hz; subst hz; exact hst2))) fun σ H Dn F env φ s q => ?_⟩
  simp only [ex] at q
  by_cases hx : isLstD x env = true
  · rw [if_pos hx] at q
    unfold isLstD at hx
    split at hx
    · rename_i f0 xs0 ex0
      obtain ⟨vx, evx, rx⟩ := s.rep x _ ex0
      obtain ⟨a0, vs0, _, rfl, hq0, _⟩ := Rep.seqL (K := X.K) rx
      refine ⟨.ref a0, evx, .inl ⟨rfl, vs0, hq0⟩, ?_⟩
      refine tE.stm s q fun k env1 F1 H1 φ1 u fk e1 E1 o1 => ?_
      refine tE.stm2 E1.sr E1.st o1 fun d env2 F2 H2 φ2 v fd e2 E o => ?_
      obtain ⟨n1, n2⟩ := E.nd rfl
      unfold insS at o
      split at o
      · rename_i xs ex2
        split at o
        · rename_i kk
          split at o
          · rename_i hl
            obtain ⟨a, vs, fq, ea, ha, hφ, hr, nd⟩ := E.sr.ownList ex2
            rw [ea] at evx
            cases evx
            obtain ⟨g1, g2, hg, r1, r2⟩ := Reps.split kk.toNat hr
            subst hg
            obtain ⟨nd1, nd2⟩ := List.nodup_cons.mp nd
            obtain ⟨m1, m2, m3⟩ := List.nodup_append.mp nd2
            have afd : ∀ b ∈ fd, b ∉ a0 :: (g1 ++ g2) := fun b hb z => (n2 b hb).2 ⟨x, by rw [hφ]; exact z⟩
            have hnd : (a0 :: (g1 ++ fd ++ g2)).Nodup := by
              refine List.nodup_cons.mpr ⟨fun z => ?_, List.nodup_append.mpr ⟨List.nodup_append.mpr ⟨m1, n1, fun b hb c hc z => ?_⟩, m2, fun b hb c hc z => ?_⟩⟩
              · rcases List.mem_append.mp z with z | z
                · rcases List.mem_append.mp z with z | z
                  · exact nd1 (by simp [z])
                  · exact afd a0 z (by simp)
                · exact nd1 (by simp [z])
              · subst z; exact afd b hc (by simp [hb])
              · subst z
                rcases List.mem_append.mp hb with hb | hb
                · exact m3 b hb b hc rfl
                · exact afd b hb (by simp [hc])
            obtain ⟨s3, st3⟩ := E.sr.wr (fd := fd) ex2 ea ha hφ ((r1.append (Reps.one E.rep)).append r2) hnd (fun b hb => by
              rcases List.mem_append.mp hb with hb | hb
              · rcases List.mem_append.mp hb with hb | hb
                · exact .inl (by simp [hb])
                · exact .inr hb
              · exact .inl (by simp [hb])) n2
            refine ⟨a0, vs, kk, v, rfl, by rw [E1.rep.1], ha, by rw [hr.length]; exact hl.2.2, hl.1, by omega, o σ F2 _ _ rfl s3 ?_⟩
            exact E1.st.trans ((E.stp.mono (R' := fun b => Own φ2 b ∨ b ∈ fd) (fun _ h => h) fun b h => .inl (h.imp id fun z => ⟨rfl, z⟩)).trans st3)
          · exact o.elim
        · exact o.elim
      · exact o.elim
    · cases hx
  · rw [if_neg hx] at q
    exact q.elim
theorem st_setSl {x : Nat} {y : Str} {p0 p1 p2 : Pos} (hN : X.N[x]? = some y) (hv : Vis X.env.scope y) (hd : (y == ("__debug__" : Str)) = false) (hcd : (y == ("__classdict__" : Str)) = false)
    (hs : swapsWithSole [.Subscript (.Name y p0) (.Slice (some lo) (some hi) none p2) p1] e pos.line X.env = pure false) (hw : swappedStores [.Subscript (.Name y p0) (.Slice (some lo) (some hi) none p2) p1] e X.env = pure none)
    (he : ∀ pv, HotP X C clA pv → ESound X C clA pv W e e') (hl : ∀ pv, HotP X C clA pv → ESound X C clA pv W lo lo') (hu : ∀ pv, HotP X C clA pv → ESound X C clA pv W hi hi') :
    SSound X C clA W (.Assign [.Subscript (.Name y p0) (.Slice (some lo) (some hi) none p2) p1] e pos) (.setSl x lo' hi' e') := by
  refine ⟨fun pv na hna hot => tS.imp (ps_asg (he pv hot).esc (pg_slice (pe_var hN hv hd hcd) (hl pv hot).esc (hu pv hot).esc) hs hw) fun σ H Dn F env φ s q => ?_⟩
  simp only [ex] at q
  refine tE.stm s q fun d env1 F1 H1 φ1 v fd e1 E o => ?_
  obtain ⟨n1, n2⟩ := E.nd rfl
  by_cases hx : hasD x env1 = true
  · rw [if_pos hx] at o
    unfold hasD at hx
    split at hx
    · rename_i dx ex
      obtain ⟨vx, evx, _⟩ := E.sr.rep x dx ex
      refine ⟨vx, evx, ?_⟩
      refine tE.stm2 E.sr E.st o fun k env2 F2 H2 φ2 u fk e2 E2 o2 => ?_
      have ap := apart n2 E.rep.there E2.st
      have R1 : Rep F2 H2 d v fd := Rep.over E.sr E2.stp (fun a ha => (n2 a ha).2) E.rep
      have t2 : Stp F1 H1 (fun b => Own φ1 b ∨ b ∈ fd) F2 H2 (fun b => Own φ2 b ∨ b ∈ fd) := E2.st.mono (fun _ h => .inl h) fun b h => h.imp id fun z => .inl (.inr z)
      refine tE.stm2 E2.sr (E.st.trans E2.st) o2 fun k2 env3 F3 H3 φ3 u2 fk2 e3 E3 o3 => ?_
      have n3 : ∀ b ∈ fd, ¬ F2 b ∧ ¬ Own φ2 b := ap
      have ap3 := apart n3 R1.there E3.st
      have R2 : Rep F3 H3 d v fd := Rep.over E2.sr E3.stp (fun a ha => (n3 a ha).2) R1
      have t3 : Stp F2 H2 (fun b => Own φ2 b ∨ b ∈ fd) F3 H3 (fun b => Own φ3 b ∨ b ∈ fd) := E3.st.mono (fun _ h => .inl h) fun b h => h.imp id fun z => .inl (.inr z)
      unfold setSlS at o3
      split at o3
      · rename_i xs ex2
        split at o3
        · rename_i aa cc ys
          split at o3
          · rename_i hl
            obtain ⟨a, vs, fq, ea, ha, hφ, hr, nd⟩ := E3.sr.ownList ex2
            rw [ea] at evx
            cases evx
            simp only [Rep] at R2
            obtain ⟨b, us, fy, rfl, hb, ry, rfl⟩ := R2
            obtain ⟨z1, z2⟩ := List.nodup_cons.mp n1
            obtain ⟨nd1, nd2⟩ := List.nodup_cons.mp nd
            obtain ⟨g1, g2, hg, r1, r2⟩ := Reps.split aa.toNat hr
            obtain ⟨g3, g4, hg2, r3, r4⟩ := Reps.split (cc.toNat - aa.toNat) r2
            rw [List.drop_drop, List.drop_drop, show aa.toNat + (cc.toNat - aa.toNat) = cc.toNat by omega] at r4
            subst hg2 hg
            obtain ⟨m1, m2, m3⟩ := List.nodup_append.mp nd2
            obtain ⟨m4, m5, m6⟩ := List.nodup_append.mp m2
            have afd : ∀ c ∈ b :: fy, c ∉ a :: (g1 ++ (g3 ++ g4)) := fun c hc z => (ap3 c hc).2 ⟨x, by rw [hφ]; exact z⟩
            have hnd : (a :: (g1 ++ fy ++ g4)).Nodup := by
              refine List.nodup_cons.mpr ⟨fun z => ?_, List.nodup_append.mpr ⟨List.nodup_append.mpr ⟨m1, z2, fun c hc c2 hc2 z => ?_⟩, m5, fun c hc c2 hc2 z => ?_⟩⟩
              · rcases List.mem_append.mp z with z | z
                · rcases List.mem_append.mp z with z | z
                  · exact nd1 (by simp [z])
                  · exact afd a (by simp [z]) (by simp)
                · exact nd1 (by simp [z])
              · subst z; exact afd c (by simp [hc2]) (by simp [hc])
              · subst z
                rcases List.mem_append.mp hc with hc | hc
                · exact m3 c hc c (by simp [hc2]) rfl
                · exact afd c (by simp [hc]) (by simp [hc2])
            obtain ⟨s3, st3⟩ := E3.sr.wr (fd := b :: fy) ex2 ea ha hφ ((r1.append ry).append r4) hnd (fun c hc => by
              rcases List.mem_append.mp hc with hc | hc
              · rcases List.mem_append.mp hc with hc | hc
                · exact .inl (by simp [hc])
                · exact .inr (by simp [hc])
              · exact .inl (by simp [hc])) ap3
            have hab : a ≠ b := fun z => afd b (by simp) (by simp [z])
            refine ⟨a, b, vs, us, aa, cc, rfl, rfl, E2.rep.1, E3.rep.1, ha, hb, hab, hl.1, hl.2.1, by rw [hr.length]; exact hl.2.2.1, by rw [hr.length, ry.length]; exact hl.2.2.2.2, o3 σ F3 _ _ rfl s3 ?_⟩
            exact (E.stp.mono (R' := fun c => Own φ1 c ∨ c ∈ b :: fy) (fun _ h => h) fun c h => .inl (h.imp id fun z => ⟨rfl, z⟩)).trans (t2.trans (t3.trans st3))
          · exact o3.elim
        · exact o3.elim
      · exact o3.elim
    · cases hx
  · rw [if_neg hx] at o
    exact o.elim
end
end VS

end

section
set_option linter.all false
set_option maxRecDepth 100000
set_option maxHeartbeats 1000000
namespace VS
open PySem L2
theorem noX_post {α : Type} {X X' : Str → List (Str × D) → EnvD → Prop} {O : α → EnvD → Prop} {r : Res α} (h : Post X O r.noX) : Post X' O r := by
  cases r with
  | ok a e => exact h
  | exc c fs e => exact h.elim
  | no => exact h
theorem noX_ne {α : Type} {r : Res α} {c : Str} {fs : List (Str × D)} {e : EnvD} : r.noX ≠ .exc c fs e := by
  cases r <;> intro h <;> cases h
def condOf (C : CtxD) (c : Option E) : EnvD → Res D := fun e => match c with
  | some c => (ev C .ts c e).noX
  | none => .ok (.bl true) e
inductive CondS (P : Expr → E → Prop) : List Expr → Option E → Prop
  | none : CondS P [] none
  | some {c : Expr} {c' : E} : P c c' → CondS P [c] (some c')
section
variable {X : Cx} {C : CtxD} {clA : Str → Addr} {pv : Pv} {W : WX} {elt tg iter : Expr} {ifs : List Expr} {scope : Scope} {own : List (Str × Nat)} {pos : Pos} {g : Tg} {it : VS.It} {elt' : E} {cond' : Option E}
abbrev InBlk (X : Cx) (scope : Scope) (P : Cx → Prop) : Prop := ∀ (s : Shared) (H : Hp) (C : Addr) (cl : List (Str × Addr)) (fp : List Addr), P (X.blk s H scope (compEnvC scope cl C X.env) fp)
theorem condPTs {Y : Cx} (h : CondS (fun c c' => ESound Y C clA Pv.e WF c c') ifs cond') : PTs Y ifs (tT clA Pv.e WF false (condOf C cond')) := by
  cases h with
  | none =>
    refine ⟨fun pins s σ H Q I ⟨F, env, φ, s1, q⟩ => pts_nil.run pins s σ H Q I ?_⟩
    obtain ⟨b, e, q⟩ := (show OT Pv.e σ false F H φ Q (.bl true) env from q)
    cases e
    exact q F H φ s1 (Stp.refl ..) (fun _ => Cons.refl ..)
  | some h =>
    rename_i c c'
    refine ⟨fun pins s σ H Q I ⟨F, env, φ, s1, q⟩ => (pts_one h.t).run pins s σ H Q I ⟨F, env, φ, s1, ?_⟩⟩
    have q : Post (XOut clA Pv.e WF σ F H φ) (OT Pv.e σ false F H φ Q) (ev C .ts c' env).noX := q
    refine (noX_post q).mono (fun _ _ _ x => x) fun d e _ ⟨b, e1, o⟩ => ⟨b, e1, fun F' H' φ' s' st' _ => o F' H' φ' s' st' (fun z => nomatch z)⟩
theorem eltPE {Y : Cx} {e : Expr} {e' : E} (h : ESound Y C clA Pv.e WF e e') : PE Y e (tE clA Pv.e WF .esc false (prOf e') fun env => (ev C .esc e' env).noX) :=
  PE.imp h.esc fun σ H Q ⟨F, env, φ, s, q⟩ => ⟨F, env, φ, s, (noX_post q).mono (fun _ _ _ x => x) fun d e _ o F' H' φ' v fd E => o F' H' φ' v fd ⟨E.sr, E.rep, E.nd, E.stp, fun z => (nomatch z), E.pl⟩⟩
def compF (C : CtxD) (elt : E) (own : List Nat) (g : Tg) (it : VS.It) (cond : Option E) : EnvD → Res D := fun env =>
  (evIt C (cUses elt cond) it env).bind fun t env1 =>
    (compL own g (condOf C cond) (fun e => (ev C .esc elt e).noX) t.items [] env1).bind fun xs env2 =>
    .ok (.lst false xs) (putLk t.lk (putBack own env1 env2))
theorem lc_read {σ : L2.St} {H : Hp} {Q : VK} {F : Addr → Prop} {env : EnvD} {φ : Nat → List Addr} (htg : ∀ j ∈ g.slots, j ∈ own.map (·.2)) (s : Sta F σ H env φ pv) (q : Post (XOut clA pv W σ F H φ) (OE pv σ .esc false none F H φ Q) (compF C elt' (own.map (·.2)) g it cond' env)) :
    tLc (tIt clA pv W (evIt C (cUses elt' cond') it)) (tTg Pv.e g) (tT clA Pv.e WF false (condOf C cond')) (tE clA Pv.e WF .esc false (prOf elt') fun env => (ev C .esc elt' env).noX) (own.map (·.2)) σ H Q :=
  lc_of (fun e c fs e' => by
    unfold condOf
    cases cond' with
    | none => intro z; cases z
    | some c' => exact noX_ne) (fun e c fs e' => noX_ne) htg s q
theorem snd_comp (hc : X.calm = true) (hN : X.N.Nodup) (hs : ∀ x, foldedSetIterable iter X.env x = pure x) (hi : ∀ u, PI X tg iter (tIt clA pv W (evIt C u it))) (ok : BlkOk X.N X.env.scope scope own) (hg : InBlk X scope fun Y => PG Y tg (tTg Pv.e g)) (htg : ∀ j ∈ g.slots, j ∈ own.map (·.2))
    (hcd : InBlk X scope fun Y => CondS (fun c c' => ESound Y C clA Pv.e WF c c') ifs cond') (he : InBlk X scope fun Y => ESound Y C clA Pv.e WF elt elt') : ESound X C clA pv W (.ListComp elt [⟨tg, iter, ifs, 0⟩] scope pos) (.comp elt' (own.map (·.2)) g it cond') := by
  refine ESound.temp (f := compF C elt' (own.map (·.2)) g it cond') (fun m env => by simp only [ev, compF]; rfl) rfl (fun _ => rfl) ?_
  exact tE.imp (pe_lc hc hN (hi _) ok hg (fun s H C cl fp => condPTs (hcd s H C cl fp)) (fun s H C cl fp => eltPE (he s H C cl fp)) hs) fun σ H Q F env φ s q => lc_read htg s q
theorem st_setLc {i : Nat} {y : Str} {py spos : Pos} (hc : X.calm = true) (hN : X.N.Nodup) (hy : X.N[i]? = some y) (hyl : X.env.scope.names.lookup y = some .local) (hsw : swapsWith (.ListComp elt [⟨tg, iter, ifs, 0⟩] scope pos) (some (.Name y py)) spos.line X.env = pure true)
    (hs : ∀ x, foldedSetIterable iter X.env x = pure x) (hi : ∀ pv, HotP X C clA pv → ∀ u, PI X tg iter (tIt clA pv W (evIt C u it))) (ok : BlkOk X.N X.env.scope scope own) (hg : InBlk X scope fun Y => PG Y tg (tTg Pv.e g)) (htg : ∀ j ∈ g.slots, j ∈ own.map (·.2))
    (hcd : InBlk X scope fun Y => CondS (fun c c' => ESound Y C clA Pv.e WF c c') ifs cond') (he : InBlk X scope fun Y => ESound Y C clA Pv.e WF elt elt') : SSound X C clA W (.Assign [.Name y py] (.ListComp elt [⟨tg, iter, ifs, 0⟩] scope pos) spos) (.asg i (.comp elt' (own.map (·.2)) g it cond')) := by
  refine ⟨fun pv na hna hot => tS.imp (ps_setLc hc hN hy hyl hsw (hi pv hot (cUses elt' cond')) ok hg (fun s H C cl fp => condPTs (hcd s H C cl fp)) (fun s H C cl fp => eltPE (he s H C cl fp)) hs) fun σ H Dn F env φ s q => ?_⟩
  simp only [ex] at q
  split at q
  · exact q.elim
  · rename_i hn
    have q : EndS clA pv W σ.length F H φ Dn ((compF C elt' (own.map (·.2)) g it cond' env).toS fun d env => .nx (env.set i (some d))) := by
      simp only [ev, fin] at q
      exact q
    refine lc_read htg s (q.toS.mono (fun _ _ _ x => x) fun d env1 e o F1 H1 φ1 v fd E => ?_)
    exact asg_end (no_mem hna hn) E o
end
end VS

end

section
set_option linter.all false
set_option maxRecDepth 100000
set_option maxHeartbeats 1000000
namespace VS
open PySem PySem.Spec PyProof.Rows PySem.W L2
/-! ## own exceptions: super().__init__(m), then self.f = f for each parameter -/
/-- self.f = f, .. -/
inductive StoL (slf : Str) : List Stmt → List Str → Prop
  | nil : StoL slf [] []
  | cons {f : Str} {p1 p2 p3 p4 : Pos} {ss : List Stmt} {fs : List Str} (h : StoL slf ss fs) : StoL slf (.Assign [.Attribute (.Name slf p1) f p2] (.Name f p3) p4 :: ss) (f :: fs)
/-- what is known of the class at C and of its __init__ at fI -/
structure SupC (P : Program) (K : Frag) (C fI cc : Addr) (fd : FuncData) (slf : Str) (fs : List Str) : Prop where
  oex : OexC K C
  init : findIn K (.ref C) "__init__" = some (some (.ref fI))
  tI : typeIn K (.ref fI) = some (.type "function")
  lk : ∃ oc od osl, K.lookup fI = some ⟨oc, od, .func fd, osl⟩
  cd : codeIn K fd.code fd.qualname = true
  gl : fd.globals = mainGlobals
  bl : fd.builtins = builtinsNs
  clo : fd.closure = [(("__class__" : Str), cc)]
  cell : ∃ cl cld csl, K.lookup cc = some ⟨cl, cld, .cell (some (.ref C)), csl⟩
  file : ∃ cda oc od vs sl f tf, fd.code = .ref cda ∧ K.lookup cda = some ⟨oc, od, .fields vs, sl⟩ ∧ vs[2]? = some (.str f tf) ∧ ((P.main.file : Str) == f) = true
  head : ∃ ar, (fd.params.posonlyargs ++ fd.params.args).head? = some ar ∧ ar.arg = slf
  bind : ∀ us : List Value, us.length = fs.length + 1 → bindArgs fd ⟨us, []⟩ = pure ((slf :: fs).zip us)
  sk : fd.scope.kind = .function
  sco : fd.scope.isCoroutine = false
  sge : fd.scope.isGenerator = false
  ssu : fd.scope.names.lookup ("super" : Str) = some .globalImplicit
  scl : fd.scope.names.lookup ("__class__" : Str) = some .free
  slc : ∀ x ∈ slf :: fs, fd.scope.names.lookup x = some .local
  snc : ∀ x ∈ fd.scope.names, x.2 ≠ .cell
  nd : (slf :: fs).Nodup
  nm : ∀ x ∈ slf :: fs, (x == ("__debug__" : Str)) = false
  body : ∃ p0 p1 p2 p3 p4 p5 m j rest, fd.body = .stmts (.Expr (.Call (.Attribute (.Call (.Name "super" p0) [] [] p1) "__init__" p2) [.Constant (.str m) j p3] [] p4) p5 :: rest) ∧ (p2.endLine == p4.line) = true ∧ StoL slf rest fs
  sup : ks_superIn K C C "__init__" = some (some (.builtin "ValueError.__init__"))
  subV : subIn K (.ref C) (.type "ValueError") = some true
  subC : mroIn K C (.ref C) = some true
  noat : ∀ f ∈ fs, findIn K (.ref C) f = some none
  nosup : nsIn K mainGlobals "super" = some none
  opq : nsIn K cStatics "thirdparty.any" = some none
  main : (P.main.scope.names.lookup ("super" : Str)).isSome = false
/-- an exception that is being made -/
abbrev excD (C t : Addr) (d : Option Addr) : Obj := { cls := .ref C, dict := d, data := .fields #[.ref t, .none, .none, .none, .bool false, .none] }
section
variable {P : Program} {w : World} {K : Frag} {C fI cc : Addr} {fd : FuncData} {slf : Str} {fs : List Str} {A : Around} {E : Value → Shared → Prop}
/-- the state on the way -/
structure ExSt (X₀ : Heap) (L e C t : Addr) (mgl : Str → Option Value) (h : Heap) (mA : Str → Option Value) (don : List Str) : Prop where
  kp : ∀ b o, X₀.get? b = some o → h.get? b = some o
  ns : h.Ns L mgl
  at_ : (don = [] ∧ (∀ y, mA y = none) ∧ h.get? e = some (excD C t none)) ∨ ∃ dx, h.get? e = some (excD C t (some dx)) ∧ h.Ns1 dx mA ∧ X₀.get? dx = none ∧ dx ≠ e ∧ dx ≠ L
  wi : Within mA don
theorem Ns_of {h h' : Heap} {a : Addr} {m : Str → Option Value} (hn : h.Ns a m) (k : ∀ o, h.get? a = some o → h'.get? a = some o) : h'.Ns a m :=
  let ⟨o, es, ep, e, r⟩ := hn; ⟨o, es, ep, k _ e, r⟩
theorem Ns_lt {h : Heap} {a : Addr} {m : Str → Option Value} (hn : h.Ns a m) : a < h.objs.size := let ⟨_, _, _, e, _⟩ := hn; Heap.lt_size e
theorem Ns1_lt {h : Heap} {a : Addr} {m : Str → Option Value} (hn : h.Ns1 a m) : a < h.objs.size := let ⟨_, _, _, e, _⟩ := hn; Heap.lt_size e
/-- self.f = f -/
theorem sto_one {mgl : Str → Option Value} (S : SupC P K C fI cc fd slf fs) (X₀ : Heap) (KX : K.In X₀) {L e t : Addr} (xe : X₀.get? e = none) (xL : X₀.get? L = none) (nLe : L ≠ e) {s : Shared} {mA : Str → Option Value} {don : List Str} {f : Str} {v : Value} {Q : Unit → Shared → Prop} (hf : f ∈ fs)
    (J : ExSt X₀ L e C t mgl s.heap mA don) (hl : don.length ≤ 900)
    (h : ∀ h' tk, ExSt X₀ L e C t mgl h' (fun y => if y = f then some v else mA y) (f :: don) → Q () { s with heap := h', toks := tk }) : wpAny (model P w) A (setAttr (.ref e) f v) Q E s := by
  obtain ⟨nm, q, N, bs, bm, sn, sub, ab, col, dd, k0, k1, k2, k3, k5, hC, hbm⟩ := S.oex.cls
  have hcl : PySem.W.clsIn K C = some { name := nm, bases := bs, mro := .ref C :: bm, ns := N, qualname := q, hasDict := true, slotNames := sn, subclasses := sub, abstract := ab, collection := col, hasDel := false } := by unfold PySem.W.clsIn; rw [hC] <;> rfl
  have KI : K.In s.heap := KX.keeps J.kp
  obtain ⟨hp, g, d, tk, os⟩ := s
  have hno := S.noat f hf
  rcases J.at_ with ⟨rfl, hA, ho⟩ | ⟨dx, ho, hns, xd, de, dL⟩
  · refine PySem.W.set_plain KI (ox := excD C t none) (od := none) ⟨ho, rfl, rfl, trivial⟩ S.oex.sa ?_
    refine PySem.HandSPX.exc_osa KI ho hcl (show PySem.HandSPX.refsVE (.ref C :: bm) = true from hbm) rfl hno (fun h' tk' dx k dn dne hx hn => ?_)
    have hLt := Ns_lt J.ns
    have e1 : (fun y => if y = f then some v else mA y) = fun y => if y = f then some v else none := by funext y; rw [hA y]
    refine h h' tk' ⟨fun b o q => k b o (fun z => by rw [z, xe] at q; cases q) (J.kp b o q), Ns_of J.ns fun o q => k L o nLe q, .inr ⟨dx, hx, by rw [e1]; exact hn, ?_, dne, ?_⟩, J.wi.cons f v⟩
    · cases q : X₀.get? dx with
      | none => rfl
      | some o => exact absurd (Heap.lt_size (J.kp _ _ q)) (by simpa using dn)
    · intro z
      have h1 : L < hp.objs.size := hLt
      rw [← z] at h1
      exact absurd h1 (Nat.not_lt.mpr dn)
  · obtain ⟨oD, _, _, hoD, _, _⟩ := hns.count J.wi
    refine PySem.W.set_plain KI (ox := excD C t (some dx)) (od := some oD) ⟨ho, rfl, rfl, hoD⟩ S.oex.sa ?_
    refine PySem.OEX.osa_old KI ho hns J.wi (by omega) hcl (show PySem.HandSPX.refsVE (.ref C :: bm) = true from hbm) rfl hno (fun h' tk' k hn => ?_)
    exact h h' tk' ⟨fun b o q => k b o (fun z => by rw [z, xd] at q; cases q) (J.kp b o q), Ns_of J.ns fun o q => k L o (Ne.symm dL) q, .inr ⟨dx, k e _ (Ne.symm de) ho, hn, xd, de, dL⟩, J.wi.cons f v⟩
/-- the stores -/
theorem sto_run {mgl : Str → Option Value} (S : SupC P K C fI cc fd slf fs) (X₀ : Heap) (KX : K.In X₀) {L e t fa : Addr} (xe : X₀.get? e = none) (xL : X₀.get? L = none) (nLe : L ≠ e) (hs : mgl slf = some (.ref e)) (hv : ∀ f ∈ fs, (mgl f).isSome = true) : ∀ {ss : List Stmt} {gs : List Str}, StoL slf ss gs → (∀ f ∈ gs, f ∈ fs) → gs.Nodup → ∀ {s : Shared} {mA : Str → Option Value} {don : List Str} {Q : Flow → Shared → Prop},
    ExSt X₀ L e C t mgl s.heap mA don → don.length + gs.length ≤ 900 →
    (∀ h' tk mB don', ExSt X₀ L e C t mgl h' mB don' → (don' = [] → gs = [] ∧ don = []) → (∀ y, mB y = if y ∈ gs then mgl y else mA y) → Q .next { s with heap := h', toks := tk }) →
    wpAny (model P w) A (execs ss (callEnv fd L fa)) Q E s := by
  intro ss gs hS
  induction hS with
  | nil =>
    intro _ _ s mA don Q J hl h
    refine wpAny_execs_nil ?_
    obtain ⟨hp, g, d, tk, os⟩ := s
    exact h hp tk mA don J (fun z => ⟨rfl, z⟩) (fun y => by simp)
  | @cons f p1 p2 p3 p4 ss gs hS ih =>
    intro hgs hnd s mA don Q J hl h
    simp only [List.length_cons] at hl
    have hf : f ∈ fs := hgs f (by simp)
    obtain ⟨v, hvf⟩ := Option.isSome_iff_exists.mp (hv f hf)
    have kl : ∀ x ∈ slf :: fs, (callEnv fd L fa).kindOf x = some .local := fun x hx => S.slc x hx
    refine wpAny_execs_cons ?_
    refine plainObj_wpAny_Assign_Attribute (wpAny_Name (wpAny_loadName_local S.sk (kl f (by simp [hf])) J.ns hvf ?_) (S.nm f (by simp [hf])))
    refine wpAny_Name (wpAny_loadName_local S.sk (kl slf (by simp)) J.ns hs ?_) (S.nm slf (by simp))
    refine sto_one S X₀ KX xe xL nLe hf J (by omega) fun h' tk J2 => ?_
    obtain ⟨hnf, hnd2⟩ := List.nodup_cons.mp hnd
    refine ih (fun x hx => hgs x (by simp [hx])) hnd2 J2 (by simp only [List.length_cons]; omega) fun h2 tk2 mB don' J3 hne hB => ?_
    refine h h2 tk2 mB don' J3 (fun z => absurd (hne z).2 (by simp)) fun y => ?_
    rw [hB y]
    by_cases c : y ∈ gs
    · rw [if_pos c, if_pos (by simp [c])]
    · rw [if_neg c]
      by_cases c2 : y = f
      · rw [if_pos c2, if_pos (by simp [c2]), c2, hvf]
      · rw [if_neg c2, if_neg (by simp [c, c2])]
theorem lookup_zip_some : ∀ {ks : List Str} {vs : List Value} {y : Str}, y ∈ ks → ks.length = vs.length → ((ks.zip vs).lookup y).isSome = true
  | k :: ks, v :: vs, y, h, hl => by
    simp only [List.zip_cons_cons, List.lookup]
    cases c : y == k with
    | true => rfl
    | false =>
      simp only
      exact lookup_zip_some (by rcases List.mem_cons.mp h with rfl | h; · simp at c
                                exact h) (by simpa using hl)
theorem lookup_app {l r : List (Str × Value)} {y : Str} : (l ++ r).lookup y = match l.lookup y with
    | some v => some v
    | none => r.lookup y := by
  induction l with
  | nil => rfl
  | cons p l ih =>
    obtain ⟨k, v⟩ := p
    simp only [List.cons_append, List.lookup]
    cases y == k with
    | true => rfl
    | false => exact ih
theorem lookup_zip_none : ∀ {ks : List Str} {vs : List Value} {y : Str}, y ∉ ks → (ks.zip vs).lookup y = none
  | [], _, _, _ => rfl
  | k :: ks, [], _, _ => rfl
  | k :: ks, v :: vs, y, h => by
    have c : (y == k) = false := by simp only [beq_eq_false_iff_ne]; rintro rfl; simp at h
    simp only [List.zip_cons_cons, List.lookup, c]
    exact lookup_zip_none fun z => h (by simp [z])
theorem lookup_rev : ∀ {ks : List Str} {vs : List Value} {y : Str}, ks.Nodup → ks.length = vs.length → (ks.zip vs).reverse.lookup y = (ks.zip vs).lookup y
  | [], vs, y, _, _ => by simp
  | k :: ks, v :: vs, y, nd, hl => by
    obtain ⟨n1, n2⟩ := List.nodup_cons.mp nd
    simp only [List.zip_cons_cons, List.reverse_cons]
    rw [lookup_app, lookup_rev n2 (by simpa using hl)]
    cases c : y == k with
    | true =>
      have : y = k := by simpa using c
      subst this
      rw [lookup_zip_none n1]
      simp [List.lookup]
    | false =>
      simp only [List.lookup, c]
      cases (ks.zip vs).lookup y <;> rfl
theorem ev_callm {o c : Expr} {name : Str} {apos pos : Pos} {env : Env} (hl : (apos.endLine == pos.line) = true) (hf : methodCallForm 1 (PySem.backTo pos (starEach [c] env)) [] = true) :
    eval (.Call (.Attribute o name apos) [c] [] pos) env = (do
      let ov ← attributeBase o name env (eval o env)
      standAt apos.atName
      let (f, first) ← holding [ov] (calleeOf true o env ov name)
      callWith pos f first (PySem.backTo pos (starEach [c] env)) []) := by
  have hpos : methodCallPos true o env apos pos = pure pos := by unfold methodCallPos; simp [hl]
  rw [arm_eval_Call]
  show (do
      let ov ← attributeBase o name env (eval o env)
      standAt apos.atName
      let (f, first) ← holding [ov] (calleeOf (methodCallForm 1 (PySem.backTo pos (starEach [c] env)) []) o env ov name)
      let callPos ← methodCallPos (methodCallForm 1 (PySem.backTo pos (starEach [c] env)) []) o env apos pos
      callWith callPos f first (PySem.backTo pos (starEach [c] env)) []) = _
  rw [hf, hpos]
  rfl
/-- __init__(e, us): the fields stand in e's dict -/
theorem init_run {mg : Str → Option Value} {base : Heap} (S : SupC P K C fI cc fd slf fs) (M : Mod K mg base) {X₀ : Heap} {s : Shared} {e t : Addr} {us : List Value} {R : Result → Shared → Prop}
    (bs : ∀ b o, base.get? b = some o → X₀.get? b = some o) (kp : ∀ b o, X₀.get? b = some o → s.heap.get? b = some o) (xe : X₀.get? e = none) (he : s.heap.get? e = some (excD C t none)) (hdp : A.depth < recursionLimit) (hul : us.length = fs.length) (hfl : fs.length ≤ 800)
    (hq : ∀ h' tk t' mB, (∀ b o, X₀.get? b = some o → h'.get? b = some o) → ((fs = [] ∧ h'.get? e = some (excD C t' none)) ∨ ∃ dx, h'.get? e = some (excD C t' (some dx)) ∧ h'.Ns1 dx mB ∧ X₀.get? dx = none ∧ dx ≠ e) → (∀ y, mB y = if y ∈ fs then (fs.zip us).lookup y else none) → R (.ok (.ret .none)) { s with heap := h', toks := tk }) :
    codeAny (model P w) A (.call (.ref fI) ⟨.ref e :: us, []⟩) R s := by
  have KX : K.In X₀ := M.kin.keeps bs
  have KS : K.In s.heap := KX.keeps kp
  obtain ⟨oc, od, osl, lk⟩ := S.lk
  obtain ⟨p0, p1, p2, p3, p4, p5, m, j, rest, hb, hln, hst⟩ := S.body
  have hbind : BindsTo s fd ⟨.ref e :: us, []⟩ ((slf :: fs).zip (.ref e :: us)) := .of_eq (S.bind _ (by simp [hul]))
  refine ks_codeAny_call_defAt hdp (KS _ _ lk) rfl (M.nolimit.keeps fun b o z => kp b o (bs b o z)) (codeRec_of KS S.cd) hb hbind S.snc (fun x hx => S.slc x.1 (List.of_mem_zip hx).1) (fun h₁ hns hk => ?_) S.sco S.sge S.sk
  obtain ⟨L, hL⟩ : ∃ L, s.heap.objs.size = L := ⟨_, rfl⟩
  rw [hL] at hns ⊢
  obtain ⟨env, hE⟩ : ∃ env, callEnv fd L fI = env := ⟨_, rfl⟩
  have xL : X₀.get? L = none := by
    cases q : X₀.get? L with
    | none => rfl
    | some o => exact absurd (Heap.lt_size (kp _ _ q)) (by rw [hL]; exact Nat.lt_irrefl _)
  have eL : e < L := by rw [← hL]; exact Heap.lt_size he
  have nLe : L ≠ e := Nat.ne_of_gt eL
  have kindE : (callEnv fd L fI).scope.kind = .function := S.sk
  obtain ⟨cl, cld, csl, lkc⟩ := S.cell
  obtain ⟨cda, fo, fdd, fvs, fsl, ff, ftf, hcode, lkd, hf2, hfile⟩ := S.file
  obtain ⟨ar, har, hara⟩ := S.head
  obtain ⟨nm, q, N, bs', bm, sn, sub, ab, col, dd, k0, k1, k2, k3, k5, hC, hbm⟩ := S.oex.cls
  obtain ⟨cdC, hcd⟩ : ∃ cd : ClassData, clsIn K C = some cd := ⟨{ name := nm, bases := bs', mro := .ref C :: bm, ns := N, qualname := q, hasDict := true, slotNames := sn, subclasses := sub, abstract := ab, collection := col, hasDel := false }, by unfold PySem.W.clsIn; rw [hC] <;> rfl⟩
  obtain ⟨mgl, hm⟩ : ∃ mgl : Str → Option Value, (fun x => (((slf :: fs).zip (.ref e :: us)).reverse).lookup x) = mgl := ⟨_, rfl⟩
  rw [hm] at hns
  have hms : mgl slf = some (.ref e) := by rw [← hm]; exact (lookup_rev S.nd (by simp [hul])).trans (by simp [List.lookup])
  have hmf : ∀ y ∈ fs, mgl y = (fs.zip us).lookup y ∧ (mgl y).isSome = true := fun y hy => by
    have e1 : mgl y = (fs.zip us).lookup y := by
      rw [← hm]
      refine (lookup_rev S.nd (by simp [hul])).trans ?_
      have : (y == slf) = false := by
        have := (List.nodup_cons.mp S.nd).1
        simp only [beq_eq_false_iff_ne]
        rintro rfl
        exact this hy
      simp only [List.zip_cons_cons, List.lookup, this]
    exact ⟨e1, by rw [e1]; exact lookup_zip_some hy hul.symm⟩
  obtain ⟨mb, hb1, hb2⟩ := M.blt
  have hgl : (callEnv fd L fI).globals = mainGlobals := S.gl
  have hbl : (callEnv fd L fI).builtins = builtinsNs := S.bl
  have hcells : (callEnv fd L fI).cells = [(("__class__" : Str), cc)] := S.clo
  have k1e : ∀ b o, X₀.get? b = some o → h₁.get? b = some o := fun b o z => hk b o (kp b o z)
  have K1 : K.In h₁ := KX.keeps k1e
  have he1 : h₁.get? e = some (excD C t none) := hk _ _ he
  obtain ⟨oD, hD1, hD2⟩ : ∃ oD, h₁.get? C = some oD ∧ oD.data = .cls cdC := by
    unfold clsIn at hcd
    split at hcd
    · rename_i c d cd' sl ho
      cases hcd
      exact ⟨_, K1 _ _ ho, rfl⟩
    · cases hcd
  have xC : e ≠ C := fun z => by
    rw [z] at he1
    rw [hD1] at he1
    cases he1
    cases hD2
  obtain ⟨hp, gg, dr, tk, os⟩ := s
  refine ks_wpAt_execs_cons (ks_wpAt_Expr_any ?_ (by unfold interactive; rw [kindE]; rfl) rfl)
  refine ks_wpAt_MethodCall (he := ev_callm hln (by rfl)) ?_
  refine ks_wpAt_super_base (env := callEnv fd L fI) S.ssu S.scl (by decide +kernel) rfl (K1 _ _ lk) rfl har hcode (K1 _ _ lkd) rfl hf2 hfile S.main ?_
  refine ks_loadName_global kindE S.ssu (Calls.loadGlobal_builtin (by rw [hgl]; exact M.glob.keeps fun b o z => k1e b o (bs b o z)) (mg_none_of M.kin M.glob S.nosup) (by rw [hbl]; exact hb1.keeps fun b o z => k1e b o (bs b o z)) ((hb2 _ (by decide)).trans PyProof.Rows.Boot.«super») ⟨rfl, ?_⟩)
  refine wpAny_loadName_free kindE S.scl (by rw [hcells]; rfl) ⟨_, K1 _ _ lkc, rfl⟩ ?_
  refine wpAny_loadName_local kindE (by rw [hara]; exact S.slc slf (by simp)) hns (by rw [hara]; exact hms) ?_
  refine ks_wpAny_isType_cls hD1 hD2 ⟨rfl, ?_⟩
  refine ks_wpAny_call_super hD1 hD2 he1 rfl (fun c => by rintro ⟨⟩) (looks_mroIn K1 S.subC) (fun h2 hso k12 => ?_)
  have k2e : ∀ b o, X₀.get? b = some o → h2.get? b = some o := fun b o z => k12 b o (k1e b o z)
  have K2 : K.In h2 := KX.keeps k2e
  have hsup := S.sup
  unfold ks_superIn at hsup
  rw [hcd] at hsup
  have he2 := k12 _ _ he1
  have I2 : InstAt h2 e (excD C t none) C none := ⟨he2, rfl, rfl, trivial⟩
  refine kxs_getMethod kxs_ValueError hso (looks_opaque K2 S.opq) (l₀ := cdC.mro) (fun A Q E s k q => wpAny_bind ((looks_clsIn K2 hcd) A _ E s k (wpAny_pure q))) rfl K2 hsup (I2.type.andThen (looks_subIn K2 S.subV)) xC (by decide +kernel) ?_
  have k3e : ∀ b o, h2.get? b = some o → (h2.push (kxs_mw "ValueError.__init__" e)).get? b = some o := fun b o z => Heap.get?_push_of_some _ z
  have hu := Heap.get?_push_size h2 (o := kxs_mw "ValueError.__init__" e) rfl
  refine kxs_callWith (i := "ValueError.__init__") (x := e) rfl (PySem.Calls.evalArgs_plain (spliced_more (wpAny_Constant_str (spliced_none ⟨hu, ?_⟩)) rfl))
  have he3 := k3e _ _ he2
  have k4e : ∀ b o, X₀.get? b = some o → (h2.push (kxs_mw "ValueError.__init__" e)).get? b = some o := fun b o z => k3e b o (k2e b o z)
  have hC3 := k4e _ _ (KX _ _ hC)
  refine wpAny_call (codeAny_of_tree ?_)
  show wpAny _ _ (callAny (.ref h2.objs.size) ⟨[.str m _], []⟩) _ _ _
  simp only [callAny]
  refine wpAny_bind (wpAny_load hu ?_)
  simp only [kxs_mw, show (Value.type "method-wrapper" == Value.type "method" || Value.type "method-wrapper" == Value.type "builtin_function_or_method" || Value.type "method-wrapper" == Value.type "method-wrapper") = true by decide, if_true]
  refine KFB.if_so (by decide) ?_
  refine wpAny_bind (check_bound_init PySem.F.excBase_ValueError.toExcCallFacts hC3 he3 rfl ?_)
  refine wpAny_bind (wpAny_pure (wpAny_pure ?_))
  refine ⟨plainId_quiet PySem.F.excBase_ValueError.init.plain _, codeAny_builtin PySem.F.excBase_ValueError.initEntry ?_⟩
  refine exc_init_tree (cls := .ref C) (t0 := t) (dv := none) (c2 := .none) (c3 := .none) (b4 := .bool false) he3 (by show 1 ≤ sizeLine; rw [sizeLine_eq]; omega) fun h5 k5e he5 _ => ?_
  have k5 : ∀ b o, X₀.get? b = some o → h5.get? b = some o := fun b o z => k5e b o (fun y => by rw [y, xe] at z; cases z) (k4e b o z)
  have hns5 : h5.Ns L mgl := Ns_of hns fun o z => k5e L o nLe (k3e _ _ (k12 _ _ z))
  refine wpAt_of_wpAny ?_
  refine sto_run S X₀ KX xe xL nLe hms (fun f hf => (hmf f hf).2) hst (fun f hf => hf) (List.nodup_cons.mp S.nd).2 (mA := fun _ => none) (don := []) ⟨k5, hns5, .inl ⟨rfl, fun _ => rfl, he5⟩, .nil⟩ (by simp; omega) fun h' tk' mB don' J hne hB => ?_
  refine hq h' tk' (h2.push (kxs_mw "ValueError.__init__" e)).objs.size mB J.kp ?_ fun y => ?_
  · rcases J.at_ with ⟨rfl, _, ho⟩ | ⟨dx, ho, hns, xd, de, dL⟩
    · exact .inl ⟨(hne rfl).1, ho⟩
    · exact .inr ⟨dx, ho, hns, xd, de⟩
  · rw [hB y]
    by_cases c : y ∈ fs
    · rw [if_pos c, if_pos c, (hmf y c).1]
    · rw [if_neg c, if_neg c]
end
end VS

end

section
set_option linter.all false
set_option maxRecDepth 100000
set_option maxHeartbeats 1000000
namespace VS
open PySem PySem.Spec PyProof.Rows PySem.W L2
theorem relO_zip : ∀ {ks : List Str} {vs : List V} {us : List Value}, ks.length = vs.length → Vals vs us → ∀ y, RelO ((ks.zip vs).lookup y) (if y ∈ ks then (ks.zip us).lookup y else none)
  | [], vs, us, _, _, y => by simp; exact True.intro
  | k :: ks, v :: vs, _, hl, .cons r rs, y => by
    simp only [List.zip_cons_cons, List.lookup]
    cases c : y == k with
    | true =>
      have : y = k := by simpa using c
      subst this
      simp only [List.mem_cons, true_or, if_true]
      exact r
    | false =>
      have hne : y ≠ k := by simpa using c
      have := relO_zip (ks := ks) (by simpa using hl) rs y
      simp only [List.mem_cons, hne, false_or]
      exact this
section
variable {X : Cx} {x slf : Str} {e : Expr} {es : List Expr} {ta : TA} {C fI cc : Addr} {fd : FuncData} {fs : List Str} {p pos : Pos}
/-- C(e, ..) as an exception that is made -/
theorem pmk_sup (S : SupC X.prog X.K C fI cc fd slf fs) {k : Nat} (hr : Room k X.A) (hne : fs ≠ []) (hfl : fs.length ≤ 800) (hg : Gl X x) (hm : X.mg x = some (.ref C)) (ha : PA X (e :: es) ta)
    (hdb : (x == ("__debug__" : Str)) = false) (he : starEach (e :: es) X.env = (false, eval e X.env) :: starEach es X.env) (hpl : (PySem.backTo pos (starEach es X.env)).any (·.1) = false) :
    PMk X (.Call (.Name x p) (e :: es) [] pos) (fun σ H Q => ta σ H fun vs H1 => vs.length = fs.length ∧ ∀ d, H1 d = none → Q (.ref C) (some d) (upd H1 d (.xd (fs.zip vs)))) := by
  intro pins s σ H Q I h
  obtain ⟨nm, q, N, bs, bm, sn, sub, ab, col, dd, k0, k1, k2, k3, k5, hC, hbm⟩ := S.oex.cls
  refine wpAny_Call_Name_kw (ld_glob I hg hm ?_ hdb)
  refine PySem.W.callWith_K (h₀ := X.base) I.ok.mod.kin S.oex.kC (thn (ha.run pos pins s σ H _ I h) fun us s1 ⟨vs, H1, I1, r1, hz, q1⟩ => ⟨I1.kIn, ?_⟩) he hpl
  show wpAny _ _ (call (.ref C) us) _ _ _
  obtain ⟨hp, g, dr, tk, os⟩ := s1
  have hlen : us.length = fs.length := by rw [← r1.length]; exact hz
  have hus : us.length ≤ sizeLine := by rw [sizeLine_eq]; omega
  have hget : ((hp.push (PySem.W.kdv_tup us)).push (PySem.HandSPX.excO C hp.objs.size)).get? (hp.objs.size + 1) = some (PySem.HandSPX.excO C hp.objs.size) := by heap_get
  have hnew : hp.get? (hp.objs.size + 1) = none := Heap.get?_none_of_le (Nat.le_succ _)
  refine wpAny_call (PySem.HandSPX.call_own PySem.F.excBase_ValueError (fun Y => PySem.HandSPX.refsVE_contains Y bm hbm) (I1.kIn _ _ hC) (PySem.W.looks_findIn I1.kIn S.init) (fun self => PySem.W.bind_fn I1.kIn self S.tI) hus
    (init_run S I1.ok.mod (X₀ := hp) (e := hp.objs.size + 1) (t := hp.objs.size) (us := us) (fun b o z => I1.bk b o z) (fun b o z => Heap.get?_push_of_some _ (Heap.get?_push_of_some _ z)) hnew hget ?_ hlen hfl fun h' tk' t' mB kp hat hB => ?_))
  · rw [make_depth]; have := hr.dp; omega
  · rcases hat with ⟨z, _⟩ | ⟨dx, hex, hns, xd, de⟩
    · exact absurd z hne
    obtain ⟨G, g1, g2⟩ := restrict h' fun b => decide (b ≠ hp.objs.size + 1)
    have gk : ∀ b, b ≠ hp.objs.size + 1 → G.get? b = h'.get? b := fun b hb => g1 b (decide_eq_true hb)
    have ge : G.get? (hp.objs.size + 1) = none := g2 _ (by simp)
    have hnd : H1 dx = none := I1.hok.gone xd
    have hok : ObjOk X.prog X.w (upd H1 dx (.xd (fs.zip vs))) G dx (.xd (fs.zip vs)) := ⟨mB, hns.at fun o y => (gk dx de).trans y, fun f => by rw [hB f]; exact relO_zip hz.symm r1 f⟩
    have J : Inv X pins σ (upd H1 dx (.xd (fs.zip vs))) ⟨G, g, dr, tk', os⟩ := I1.laidN (t' := tk') (fun b u z => by
      rw [gk b (fun y => by rw [y, hnew] at z; cases z)]
      exact kp b u z) xd hnd hok
    refine ⟨rfl, hp.objs.size + 1, excD C t' (some dx), _, ⟨G, g, dr, tk', os⟩, _, .ref C, some dx, rfl, J, fun b o z => ?_, ge, hex, ⟨rfl, rfl⟩, rfl, rfl, ?_, rfl, J.bare, raises_own S.oex.exC S.oex.tyC, q1 dx hnd⟩
    · by_cases hb : b = hp.objs.size + 1
      · rw [hb, ge] at z; cases z
      · rw [gk b hb] at z; exact z
    · rw [upd_ne (Ne.symm de)]
      exact I1.hok.gone hnew
end
end VS

end

section
set_option linter.all false
set_option maxRecDepth 100000
set_option maxHeartbeats 1000000
namespace VS
open PySem PySem.Spec PyProof.Rows PySem.W L2
/-! ## what is known of the exception classes -/
/-- a class that isinstance may ask for -/
def clsV (clA : Str → Addr) (t : Str) : V := if t = "ValueError" then .ty "ValueError" else .ref (clA t)
def clsU (clA : Str → Addr) (t : Str) : Value := if t = "ValueError" then .type "ValueError" else .ref (clA t)
theorem clsV_eq {clA : Str → Addr} {t : Str} {u : Value} (h : RelV (clsV clA t) u) : u = clsU clA t := by
  unfold clsV at h
  unfold clsU
  by_cases c : t = "ValueError"
  · rw [if_pos c] at h ⊢
    exact h
  · rw [if_neg c] at h ⊢
    exact h
theorem clsV_rel {clA : Str → Addr} {t : Str} : RelV (clsV clA t) (clsU clA t) := by
  unfold clsV clsU
  by_cases c : t = "ValueError"
  · rw [if_pos c, if_pos c]; rfl
  · rw [if_neg c, if_neg c]; rfl
structure XInfo (P : Program) (K : Frag) (mg : Str → Option Value) (clA : Str → Addr) (cls : List (Str × List Str × List Str)) : Prop where
  glo : ∀ k ∈ cls.map (·.1), mg k = some (.ref (clA k)) ∧ k ≠ "ValueError" ∧ (k == ("__debug__" : Str)) = false
  ve : cls ≠ [] → mg "ValueError" = none
  xf : ∀ k ∈ cls.map (·.1), XfC K (clA k)
  ec : ∀ k ∈ cls.map (·.1), ExcC K (clA k)
  sub : ∀ p ∈ cls, ∀ t : Str, (t ∈ cls.map (·.1) ∨ t = "ValueError") → kitOne K (.ref (clA p.1)) (clsU clA t) = some (p.2.1.contains t)
  exm : ∀ p ∈ cls, ∀ t ∈ cls.map (·.1), exmOne K (.ref (clA p.1)) (.ref (clA t)) = some (p.2.1.contains t)
  fld : ∀ p ∈ cls, ∀ f ∈ p.2.2, findIn K (.ref (clA p.1)) f = some none
  mks : ∀ p ∈ cls, p.2.2 ≠ [] → p.2.2.length ≤ 800 ∧ ∃ fI cc fd slf, SupC P K (clA p.1) fI cc fd slf p.2.2
theorem lookup_mem {α : Type} : ∀ {l : List (Str × α)} {k : Str} {a : α}, l.lookup k = some a → (k, a) ∈ l
  | [], _, _, h => by cases h
  | (x, b) :: l, k, a, h => by
    rw [List.lookup_cons] at h
    cases c : k == x with
    | true =>
      rw [c] at h
      have : k = x := by simpa using c
      subst this
      cases h
      simp
    | false =>
      rw [c] at h
      exact List.mem_cons_of_mem _ (lookup_mem h)
/-- isinstance(e, ..), e the exception that the suite holds -/
def rIsX (K : Frag) (D a dd : Addr) : List V → Hp → VK → Prop := fun xs H Q => ∃ (gs : List (Str × V)) (b : Bool), H dd = some (.xd gs) ∧ Q (.bl b) H ∧
  ((∃ c cv, xs = [.ref a, c] ∧ (∀ u, RelV c u → u = cv) ∧ kitOne K (.ref D) cv = some b) ∨ ∃ p vs cvs, xs = [.ref a, .ref p] ∧ H p = some (.tup vs) ∧ (∀ us, Vals vs us → us = cvs) ∧ kitAny K (.ref D) cvs = some b)
theorem call_isX {X : Cx} {a D dd : Addr} {oe : Obj} {pn : List (Addr × Obj)} (C : ExcC X.K D) (hz : Zc (.ref D) (some dd) oe) (hf : ∃ vs, oe.data = .fields vs) : CallR (X.suite a ((a, oe) :: pn)) (.builtin "isinstance") (rIsX X.K D a dd) := by
  intro pins s σ H xs us Q I r h
  obtain ⟨gs, b, hdd, q, h⟩ := h
  obtain ⟨hget, _⟩ := I.pin (a, oe) (List.mem_append.mpr (.inl List.mem_cons_self))
  obtain ⟨od, hod⟩ := objOk_get (I.hok dd _ hdd)
  obtain ⟨cdD, hcD, _⟩ := any_some C.hd
  have J : InstAt s.heap a oe D (some od) := by
    obtain ⟨vs, hv⟩ := hf
    obtain ⟨oc, od', oda, osl⟩ := oe
    obtain ⟨h1, h2⟩ := hz
    dsimp only at h1 h2 hv
    subst h1 h2 hv
    exact ⟨hget, rfl, rfl, hod⟩
  have Z := kitx_exc (x := a) (ox := oe) (od := some od) (by rw [hcD]; rfl) C.hg C.hk C.hs C.ha C.hn C.ht C.hm
  rcases h with ⟨c, cv, rfl, hcv, e⟩ | ⟨p, vs, cvs, rfl, hp, hcv, e⟩
  · obtain ⟨u1, u2, rfl, r1, r2⟩ := vals2 r
    obtain rfl : u1 = Value.ref a := r1
    obtain rfl := hcv _ r2
    exact kia_one Z I.kIn J e (fun z => nomatch z) fun tk => ⟨.bl b, H, I.tok tk, rfl, q⟩
  · obtain ⟨u1, u2, rfl, r1, r2⟩ := vals2 r
    obtain rfl : u1 = Value.ref a := r1
    cases (show u2 = Value.ref p from r2)
    obtain ⟨_, its, rv, o, h1, h2, n, h3⟩ := (show ObjOk X.prog X.w H s.heap p (.tup vs) from I.hok p _ hp)
    have e3 := hcv _ rv
    obtain ⟨oc, od', dt, sl⟩ := o
    simp only at h2 h3
    subst h2 h3
    rw [← e3] at e
    exact kia_tup Z I.kIn J h1 e (fun z => nomatch z) fun tk => ⟨.bl b, H, I.tok tk, rfl, q⟩
section
variable {X : Cx} {C : CtxD} {clA : Str → Addr} {pv : Pv} {W : WX} {x f : Str} {p0 p1 p2 pos : Pos} {i : Nat} {k : Str} {fs : List (Str × D)}
theorem flds_mem {c : Str} (h : C.flds c ≠ []) : ∃ p ∈ C.cls, p.1 = c ∧ p.2.2 = C.flds c := by
  unfold CtxD.flds at h ⊢
  cases e : C.cls.lookup c with
  | none => rw [e] at h; exact absurd rfl h
  | some p => exact ⟨(c, p), lookup_mem e, rfl, rfl⟩
theorem sub_mem {k : Str} (h : (C.cls.lookup k).isSome = true) : ∃ p ∈ C.cls, p.1 = k ∧ (∀ t, C.sub k t = p.2.1.contains t) ∧ C.flds k = p.2.2 := by
  obtain ⟨q, e⟩ := Option.isSome_iff_exists.mp h
  exact ⟨(k, q), lookup_mem e, rfl, fun t => by unfold CtxD.sub; rw [e], by unfold CtxD.flds; rw [e]⟩
theorem Reps.look {F : Addr → Prop} {H : Hp} : ∀ {fs : List (Str × D)} {gs : List (Str × V)} {f : Str} {d : D}, gs.map (·.1) = fs.map (·.1) → Reps F H (fs.map (·.2)) (gs.map (·.2)) [] → fs.lookup f = some d → ∃ v, gs.lookup f = some v ∧ Rep F H d v []
  | [], _, _, _, _, _, e => by cases e
  | (y, c) :: fs, [], _, _, hn, _, _ => by cases hn
  | (y, c) :: fs, (z, w) :: gs, f, d, hn, r, e => by
    simp only [List.map_cons, List.cons.injEq] at hn
    obtain ⟨rfl, hn⟩ := hn
    simp only [List.map_cons, Reps] at r
    obtain ⟨v, ws, f1, f2, h1, h2, r1, r2⟩ := r
    obtain ⟨rfl, rfl⟩ := h1
    have hf := h2.symm
    rw [List.append_eq_nil_iff] at hf
    obtain ⟨rfl, rfl⟩ := hf
    rw [List.lookup_cons] at e ⊢
    cases c1 : f == z with
    | true => rw [c1] at e; cases e; exact ⟨_, rfl, r1⟩
    | false => rw [c1] at e; exact Reps.look hn r2 e
/-- e.f -/
theorem snd_exFld (XI : XInfo X.prog X.K X.mg clA C.cls) (hot : HotP X C clA pv) (he : C.ex = some (i, k, fs)) (hk : (C.cls.lookup k).isSome = true) (hfs : fs.map (·.1) = C.flds k) (hN : X.N[i]? = some x) (hv : Vis X.env.scope x) (hd : (x == ("__debug__" : Str)) = false) (hcd : (x == ("__classdict__" : Str)) = false) :
    ESound X C clA pv W (.Attribute (.Name x p0) f pos) (.exFld f) := by
  refine ESound.temp (f := fun env => Res.of (exFldD C f) env) (fun m env => by simp only [ev]) rfl (fun _ => rfl) ?_
  obtain ⟨X0, a, oe, dd, gs, pn, rfl, hz, hf, h4, h5⟩ := hot i k fs he
  obtain ⟨q, hq, rfl, _, hfl⟩ := sub_mem hk
  cases e : fs.lookup f with
  | none =>
    refine ⟨fun pins s σ H Q I ⟨F, env, φ, s, q⟩ => ?_⟩
    have q : Post _ _ (Res.of (exFldD C f) env) := q
    unfold exFldD at q
    rw [he] at q
    simp only [e] at q
    exact q.elim
  | some d =>
    have hmem : f ∈ q.2.2 := by
      rw [← hfl, ← hfs]
      exact List.mem_map.mpr ⟨_, lookup_mem e, rfl⟩
    refine tE.imp (pe_xf (XI.xf q.1 (List.mem_map.mpr ⟨q, hq, rfl⟩)) (XI.fld q hq f hmem) hz hf (pe_var hN hv hd hcd)) fun σ H Q F env φ s qq => ?_
    obtain ⟨r, er, o⟩ := Post.of qq
    unfold exFldD at er
    rw [he] at er
    simp only [e] at er
    cases er
    obtain ⟨x1, x2, x3⟩ := s.hx _ h5
    obtain ⟨v, l, rv⟩ := Reps.look x2 x3 e
    exact ⟨.ref a, s.pv _ h4, rfl, rfl, dd, gs, v, rfl, x1, l, o F H φ v [] (.flat s (Stp.refl ..) (fun _ => Cons.refl ..) rv)⟩
theorem pe_cls (XI : XInfo X.prog X.K X.mg clA C.cls) {t : Str} {p : Pos} (hne : C.cls ≠ []) (hg : Gl X t) (ht : t ∈ C.cls.map (·.1) ∨ t = "ValueError") : PE X (.Name t p) (tC (clsV clA t)) := by
  rcases ht with ht | rfl
  · obtain ⟨h1, h2, h3⟩ := XI.glo t ht
    have : clsV clA t = .ref (clA t) := if_neg h2
    rw [this]
    exact pe_glob hg h1 rfl h3
  · exact pe_bltn (u := .type "ValueError") (v := .ty "ValueError") hg (XI.ve hne) PyProof.Rows.Boot.«ValueError» rfl (by decide) (by decide)
theorem pa_cls (XI : XInfo X.prog X.K X.mg clA C.cls) (hne : C.cls ≠ []) : ∀ {es : List Expr} {ts : List Str}, (es.map fun e => match e with | .Name y _ => some y | _ => none) = ts.map some → (∀ t ∈ ts, Gl X t) → (∀ t ∈ ts, t ∈ C.cls.map (·.1) ∨ t = "ValueError") → PA X es (fun _ H Q => Q (ts.map (clsV clA)) H)
  | [], ts, h, _, _ => by
    cases ts with
    | nil => exact PA.imp pa_nil fun σ H Q q => q
    | cons t ts => cases h
  | e :: es, ts, h, hg, ht => by
    cases ts with
    | nil => cases h
    | cons t ts =>
      simp only [List.map_cons, List.cons.injEq] at h
      obtain ⟨h1, h2⟩ := h
      cases e with
      | Name y p =>
        cases h1
        exact PA.imp (pa_cons (pe_cls XI hne (hg _ (by simp)) (ht _ (by simp))) (pa_cls XI hne h2 (fun t h => hg t (by simp [h])) (fun t h => ht t (by simp [h])))) fun σ H Q q => q
      | _ => cases h1
theorem vals_cls : ∀ {ts : List Str} {us : List Value}, Vals (ts.map (clsV clA)) us → us = ts.map (clsU clA)
  | [], _, .nil => rfl
  | t :: ts, _, .cons r rs => by rw [clsV_eq r, vals_cls rs]; rfl
theorem kitAny_cls {q : Str × List Str × List Str} (XI : XInfo X.prog X.K X.mg clA C.cls) (hq : q ∈ C.cls) : ∀ {ts : List Str}, (∀ t ∈ ts, t ∈ C.cls.map (·.1) ∨ t = "ValueError") → kitAny X.K (.ref (clA q.1)) (ts.map (clsU clA)) = some (ts.any fun t => q.2.1.contains t)
  | [], _ => rfl
  | t :: ts, h => by
    have h1 := XI.sub q hq t (h t (by simp))
    have h2 := kitAny_cls XI hq (ts := ts) fun t z => h t (by simp [z])
    simp only [List.map_cons, kitAny, h1, List.any_cons]
    cases q.2.1.contains t with
    | true => rfl
    | false => exact h2
theorem isX_post {ts : List Str} {σ : L2.St} {H : Hp} {Q : VK} {F : Addr → Prop} {env : EnvD} {φ : Nat → List Addr} {q : Str × List Str × List Str} (hsub : ∀ t, C.sub q.1 t = q.2.1.contains t) (he : C.ex = some (i, q.1, fs)) (qq : Post (XOut clA pv W σ F H φ) (OE pv σ .esc true none F H φ Q) (Res.of (exIsD C ts) env)) :
    OE pv σ .esc true none F H φ Q (.bl (ts.any fun t => q.2.1.contains t)) env := by
  obtain ⟨r, er, o⟩ := Post.of qq
  unfold exIsD at er
  rw [he] at er
  simp only [Option.some.injEq] at er
  subst er
  have : (ts.any (C.sub q.1)) = ts.any fun t => q.2.1.contains t := by
    congr 1
    funext t
    exact hsub t
  rw [this] at o
  exact o
/-- isinstance(e, C) -/
theorem snd_exIs1 (XI : XInfo X.prog X.K X.mg clA C.cls) (hot : HotP X C clA pv) (he : C.ex = some (i, k, fs)) (hk : (C.cls.lookup k).isSome = true) (hN : X.N[i]? = some x) (hv : Vis X.env.scope x) (hd : (x == ("__debug__" : Str)) = false) (hcd : (x == ("__classdict__" : Str)) = false)
    {t : Str} (hg : Gl X "isinstance") (hm : X.mg "isinstance" = none) (hgt : Gl X t) (ht : t ∈ C.cls.map (·.1) ∨ t = "ValueError") : ESound X C clA pv W (.Call (.Name "isinstance" p0) [.Name x p1, .Name t p2] [] pos) (.exIs [t]) := by
  refine ESound.temp (f := fun env => Res.of (exIsD C [t]) env) (fun m env => by simp only [ev]) rfl (fun _ => rfl) ?_
  obtain ⟨X0, a, oe, dd, gs, pn, rfl, hz, hf, h4, h5⟩ := hot i k fs he
  obtain ⟨q, hq, rfl, hsub, hfl⟩ := sub_mem hk
  have hne : C.cls ≠ [] := fun z => by rw [z] at hq; cases hq
  refine tE.imp (pe_callB (call_isX (XI.ec q.1 (List.mem_map.mpr ⟨q, hq, rfl⟩)) hz hf) hg hm (by decide +kernel) (pa_cons (pe_var hN hv hd hcd) (pa_cons (pe_cls XI hne hgt ht) pa_nil)) (by decide) (by decide)) fun σ H Q F env φ s qq => ?_
  have o := isX_post hsub he qq
  obtain ⟨x1, x2, x3⟩ := s.hx _ h5
  refine ⟨.ref a, s.pv _ h4, gs, _, x1, o F H φ _ [] (.flat s (Stp.refl ..) (fun _ => Cons.refl ..) ⟨rfl, rfl⟩), .inl ⟨_, clsU clA t, rfl, fun u h => clsV_eq h, ?_⟩⟩
  have := XI.sub q hq t ht
  simp only [List.any_cons, List.any_nil, Bool.or_false]
  exact this
/-- isinstance(e, (C, ..)) -/
theorem snd_exIss (XI : XInfo X.prog X.K X.mg clA C.cls) (hot : HotP X C clA pv) (he : C.ex = some (i, k, fs)) (hk : (C.cls.lookup k).isSome = true) (hN : X.N[i]? = some x) (hv : Vis X.env.scope x) (hd : (x == ("__debug__" : Str)) = false) (hcd : (x == ("__classdict__" : Str)) = false)
    {ts : List Str} {es : List Expr} {k0 : Nat} (hl : ts.length ≤ 100) (hg : Gl X "isinstance") (hm : X.mg "isinstance" = none) (hes : (es.map fun e => match e with | .Name y _ => some y | _ => none) = ts.map some) (hgt : ∀ t ∈ ts, Gl X t) (ht : ∀ t ∈ ts, t ∈ C.cls.map (·.1) ∨ t = "ValueError") : ESound X C clA pv W (.Call (.Name "isinstance" p0) [.Name x p1, .Tuple es k0 p2] [] pos) (.exIs ts) := by
  refine ESound.temp (f := fun env => Res.of (exIsD C ts) env) (fun m env => by simp only [ev]) rfl (fun _ => rfl) ?_
  obtain ⟨X0, a, oe, dd, gs, pn, rfl, hz, hf, h4, h5⟩ := hot i k fs he
  obtain ⟨q, hq, rfl, hsub, hfl⟩ := sub_mem hk
  have hne : C.cls ≠ [] := fun z => by rw [z] at hq; cases hq
  refine tE.imp (pe_callB (call_isX (XI.ec q.1 (List.mem_map.mpr ⟨q, hq, rfl⟩)) hz hf) hg hm (by decide +kernel) (pa_cons (pe_var hN hv hd hcd) (pa_cons (pe_tup (pa_cls XI hne hes hgt ht)) pa_nil)) (by decide) (by decide)) fun σ H Q F env φ s qq => ?_
  have o := isX_post hsub he qq
  obtain ⟨x1, x2, x3⟩ := s.hx _ h5
  refine ⟨.ref a, s.pv _ h4, by rw [List.length_map, sizeLine_eq]; omega, fun p hp => ?_⟩
  have hk := upd_keeps (o := .tup (ts.map (clsV clA))) hp
  refine ⟨gs, _, hk _ _ x1, o F _ φ _ [] (.fresh s (Stp.refl ..) (fun _ => Cons.refl ..) hk ⟨rfl, rfl⟩ List.nodup_nil (by simp)), .inr ⟨p, ts.map (clsV clA), ts.map (clsU clA), rfl, upd_same, fun us h => vals_cls h, kitAny_cls XI hq ht⟩⟩
end
theorem frzs_len : ∀ ds : List D, (frzs ds).length = ds.length
  | [] => rfl
  | d :: ds => by simp only [frzs, List.length_cons, frzs_len ds]
/-! ## raise -/
section
variable {X : Cx} {C : CtxD} {clA : Str → Addr} {W : WX}
theorem st_raise (XI : XInfo X.prog X.K X.mg clA C.cls) (hc : X.calm = true) (tk : Takes X W) {kk : Nat} (hr : Room kk X.A) {c : Str} {e : Expr} {es : List Expr} {es' : Es} {p pos pos2 : Pos} (hfl : C.flds c ≠ []) (hg : Gl X c) (hst : ∀ a ∈ e :: es, notStar a = true)
    (ha : ∀ pv, HotP X C clA pv → PA X (e :: es) (tAE clA pv W true es'.cf (evs C es'))) : SSound X C clA W (.Raise (some (.Call (.Name c p) (e :: es) [] pos)) none pos2) (.raise c es') := by
  obtain ⟨q, hq, rfl, hqf⟩ := flds_mem hfl
  have hm : q.1 ∈ C.cls.map (·.1) := List.mem_map.mpr ⟨q, hq, rfl⟩
  obtain ⟨g1, g2, g3⟩ := XI.glo q.1 hm
  obtain ⟨hl8, fI, cc, fd, slf, S⟩ := XI.mks q hq (by rw [hqf]; exact hfl)
  refine ⟨fun pv na hna hot => tS.imp (ps_raise hc tk (pmk_sup S hr (by rw [hqf]; exact hfl) hl8 hg g1 (ha pv hot) g3 (starEach_cons (hst e (by simp))) (starEach_any fun a h => hst a (by simp [h])))) fun σ H Dn F env φ s qq => ?_⟩
  simp only [ex] at qq
  refine ⟨F, env, φ, s, qq.toS.mono (fun _ _ _ x => x) fun ds env1 e1 o F1 H1 φ1 vs fd A => ?_⟩
  have o : EndS clA pv W σ.length F H φ Dn (if ds.length = (C.flds q.1).length ∧ C.flds q.1 ≠ [] then SR.exc q.1 ((C.flds q.1).zip (frzs ds)) env1 else SR.no) := o
  split at o
  · rename_i hcond
    obtain ⟨n1, n2⟩ := A.nd rfl
    have hlv : vs.length = q.2.2.length := by rw [A.rep.length, hcond.1, hqf]
    refine ⟨hlv, fun d hd => ?_⟩
    have hk := upd_keeps (o := .xd (q.2.2.zip vs)) hd
    have hfp : ∀ a ∈ fd, ∃ ws, H1 a = some (.lst ws) := Reps.fpl _ _ _ A.rep
    refine o σ d (fun a => F1 a ∨ a ∈ fd) (upd H1 d (.xd (q.2.2.zip vs))) φ1 (q.2.2.zip vs) rfl (A.sr.grow hk (fun _ h => .inl h) (fun i a ha z => ?_) fun a z => ?_) upd_same ?_ ?_ (A.stp.trans ⟨fun _ h => .inl h, fun a h => ?_, fun a o h _ => hk a o h, fun a h => .inl (.inl h), fun a h => ?_⟩)
    · rcases z with z | z
      · exact A.sr.nf i a ha z
      · exact (n2 a z).2 ⟨i, ha⟩
    · have : H1 a ≠ none := by
        rcases z with z | z
        · exact A.sr.fh a z
        · obtain ⟨ws, e⟩ := hfp a z
          rw [e]; simp
      cases e : H1 a with
      | none => exact absurd e this
      | some o => rw [hk a o e]; simp
    · rw [hqf, List.map_fst_zip (by rw [hlv, hqf]; exact Nat.le_refl _), List.map_fst_zip (by rw [frzs_len, hcond.1]; exact Nat.le_refl _)]
    · rw [List.map_snd_zip (by rw [frzs_len, hcond.1]; exact Nat.le_refl _), List.map_snd_zip (by rw [hlv]; exact Nat.le_refl _)]
      exact (Reps.frz (F' := fun a => F1 a ∨ a ∈ fd) _ _ _ (fun _ h => .inl h) (fun _ h => .inr h) A.rep).same hk fun _ h => h
    · rcases h with h | h
      · exact .inl h
      · exact .inr (.inl (.inr ⟨rfl, h⟩))
    · cases e : H1 a with
      | none => exact absurd e h
      | some o => rw [hk a o e]; simp
  · exact o.elim
end
/-! ## try -/
section
variable {X : Cx} {C : CtxD} {clA : Str → Addr} {W : WX}
theorem catch_spec {x c : Str} {fs : List (Str × D)} {b : Bool} (h : C.catch x fs c = some b) : ∃ p ∈ C.cls, p.1 = x ∧ (C.cls.lookup x).isSome = true ∧ fs.map (·.1) = C.flds x ∧ p.2.1.contains c = b ∧ c ∈ C.cls.map (·.1) := by
  unfold CtxD.catch at h
  cases e : C.cls.lookup x with
  | none => rw [e] at h; cases h
  | some p =>
    rw [e] at h
    simp only at h
    split at h
    · rename_i hc
      cases h
      obtain ⟨q, hq⟩ := Option.isSome_iff_exists.mp hc.2
      exact ⟨(x, p), lookup_mem e, rfl, rfl, by unfold CtxD.flds; rw [e]; exact hc.1, rfl, List.mem_map.mpr ⟨_, lookup_mem hq, rfl⟩⟩
    · cases h
theorem noX_end {r : SR} {pv pv' : Pv} {n i : Nat} {F : Addr → Prop} {H : Hp} {φ : Nat → List Addr} {Dn : Ends} (hne : ∀ p ∈ pv, p.1 ≠ i) (hsl : ∀ p ∈ pv, p ∈ pv') (hhx : ∀ q ∈ pv.hx, q ∈ pv'.hx) (q : EndS clA pv W n F H φ Dn (r.noX.env fun e => e.set i none)) :
    EndS clA pv' (fun _ _ _ _ => False) n F H φ { nx := fun σ' H' => Dn.nx (σ'.set i none) H', rt := Dn.rt, bk := fun σ' H' => Dn.bk (σ'.set i none) H', ct := fun σ' H' => Dn.ct (σ'.set i none) H' } r := by
  have off : ∀ {F' : Addr → Prop} {σ' : L2.St} {H' : Hp} {e : EnvD} {φ' : Nat → List Addr}, Sta F' σ' H' e φ' pv' → Sta F' (σ'.set i none) H' (e.set i none) (offφ [i] φ') pv := fun {F' σ' H' e φ'} s => by
    refine s.off (pv' := pv) (is := [i]) (by rw [List.length_set, List.length_set]; exact s.len) (fun j hj => get_set_ne (by simpa using hj)) (fun j hj d z => ?_) (fun j v hj z => by rw [get_set_ne (by simpa using hj)]; exact z) (fun p hp => by rw [get_set_ne (hne p hp)]; exact s.pv p (hsl p hp)) hhx
    have : j = i := by simpa using hj
    subst this
    by_cases hl : j < e.length
    · rw [List.getElem?_set_self hl] at z; cases z
    · rw [List.getElem?_eq_none (by rw [List.length_set]; omega)] at z; cases z
  have sub : ∀ {φ' : Nat → List Addr} {a : Addr}, Own (offφ [i] φ') a → Own φ' a := fun h => Own_off' h
  cases r with
  | nx e => exact fun σ' F' H' φ' hl s st => q (σ'.set i none) F' H' _ (by rw [List.length_set]; exact hl) (off s) (st.mono (fun _ h => h) fun _ h => .inl (sub h))
  | bk e => exact fun σ' F' H' φ' hl s st => q (σ'.set i none) F' H' _ (by rw [List.length_set]; exact hl) (off s) (st.mono (fun _ h => h) fun _ h => .inl (sub h))
  | ct e => exact fun σ' F' H' φ' hl s st => q (σ'.set i none) F' H' _ (by rw [List.length_set]; exact hl) (off s) (st.mono (fun _ h => h) fun _ h => .inl (sub h))
  | rt d e => exact fun σ' F' H' φ' v fd hl s r nd ap st => q (σ'.set i none) F' H' _ v fd (by rw [List.length_set]; exact hl) (off s) r nd (fun a ha => ⟨(ap a ha).1, fun z => (ap a ha).2 (sub z)⟩) (st.mono (fun _ h => h) fun _ h => .inl (h.imp sub id))
  | exc c fs e => exact q.elim
  | no => exact q
theorem st_try (XI : XInfo X.prog X.K X.mg clA C.cls) (hs : X.stack = X.env :: X.outer) (hf : X.env.frame = some X.env.locals) (hN : X.N.Nodup) (tk : Takes X W) (cold : C.ex = none) {i : Nat} {n c : Str} {body suite : List Stmt} {b₀ : Stmt} {b' h' : Ss} {np pos pos' : Pos} (hi : X.N[i]? = some n) (hln : X.env.kindOf n = some .local) (hg : Gl X c) (hcm : c ∈ C.cls.map (·.1))
    (hb : ∀ (W' : WX) (pn : List (Addr × Obj)) (xe : Value → Shared → Prop), Takes (X.tr pn xe) W' → PassesOwn (model X.prog X.w) X.A X.env xe → SsSound (X.tr pn xe) C clA W' body b')
    (hsu : ∀ (a : Addr) (oe : Obj) (pn : List (Addr × Obj)) (k : Str) (fs : List (Str × D)), (C.cls.lookup k).isSome = true → fs.map (·.1) = C.flds k → SsSound (X.suite a ((a, oe) :: pn)) { C with ex := some (i, k, fs) } clA (fun _ _ _ _ => False) (b₀ :: suite) h') :
    SSound X C clA W (.Try body [.ExceptHandler (some (.Name c np)) (some n) (b₀ :: suite) pos'] [] [] pos) (.try_ b' i c h') := by
  obtain ⟨g1, g2, g3⟩ := XI.glo c hcm
  refine ⟨fun pv na hna hot => ?_⟩
  by_cases hni : na.contains i = true
  · refine ⟨fun pins s σ H Dn I ⟨F, env, φ, s, q⟩ => ?_⟩
    simp only [ex, hni, if_true] at q
    exact q.elim
  have hne : ∀ p ∈ pv, p.1 ≠ i := no_mem hna hni
  refine tS.imp (ps_try_as hs hf hN hi hln (c := .ref (clA c)) ⟨hg, g3, .inl g1⟩ tk (tb := fun W' => tS clA pv W' (exs C na b')) (ts := fun a cls d Dn σ H => ∃ k fs gs dd, cls = .ref (clA k) ∧ d = some dd ∧ (C.cls.lookup k).isSome = true ∧ fs.map (·.1) = C.flds k ∧ tS clA ⟨(i, .ref a) :: pv.sl, (dd, gs, fs) :: pv.hx⟩ (fun _ _ _ _ => False) (exs { C with ex := some (i, k, fs) } (i :: na) h') Dn σ H)
    (fun W' pn xe tk' po => (hb W' pn xe tk' po).run pv na hna (HotP.cold cold)) (fun a oe cls d pn hz hf' => ⟨fun pins s σ H Dn I ⟨k, fs, gs, dd, e1, e2, hk, hfs, q⟩ => ?_⟩)) fun σ H Dn F env φ s q => ?_
  · subst e1 e2
    refine ((hsu a oe pn k fs hk hfs).run _ (i :: na) (fun p hp => ?_) (fun i' k' fs' z => ?_)).run pins s σ H Dn I q
    · rcases List.mem_cons.mp (show p ∈ (i, V.ref a) :: pv.sl from hp) with rfl | hp
      · simp
      · exact List.mem_cons_of_mem _ (hna p hp)
    · cases z
      exact ⟨X, a, oe, dd, gs, pn, rfl, hz, hf', List.mem_cons_self, List.mem_cons_self⟩
  · simp only [ex] at q
    rw [if_neg hni] at q
    refine ⟨F, env, φ, s, ?_⟩
    cases hr : exs C na b' env with
    | nx e => rw [hr] at q; exact q
    | bk e => rw [hr] at q; exact q
    | ct e => rw [hr] at q; exact q
    | rt d e => rw [hr] at q; exact q
    | no => rw [hr] at q; exact q
    | exc x fs e =>
      rw [hr] at q
      simp only [onExc] at q
      intro σ' d F' H' φ' gs hl s' hd e2 r st
      cases hcat : C.catch x fs c with
      | none => rw [hcat] at q; exact q.elim
      | some b =>
        rw [hcat] at q
        obtain ⟨p, hp, rfl, hk, hfs, hpc, _⟩ := catch_spec hcat
        refine ⟨b, by rw [← hpc]; exact XI.exm p hp c hcm, fun hb a hna' => ?_, fun hb => ?_⟩
        · subst hb
          have q : EndS clA pv W σ.length F H φ Dn (if i < e.length then (exs { C with ex := some (i, p.1, fs) } (i :: na) h' (e.set i none)).noX.env (fun e => e.set i none) else .no) := q
          split at q
          · rename_i hil
            have hil' : i < σ'.length := by rw [s'.len]; exact hil
            refine ⟨p.1, fs, gs, d, rfl, rfl, hk, hfs, F', e.set i none, offφ [i] φ', ?_, ?_⟩
            · have s1 : Sta F' (σ'.set i (some (.ref a))) H' (e.set i none) (offφ [i] φ') ⟨(i, .ref a) :: pv.sl, pv.hx⟩ := by
                refine s'.off (is := [i]) (by rw [List.length_set, List.length_set]; exact s'.len) (fun j hj => get_set_ne (by simpa using hj)) (fun j hj d z => ?_) (fun j v hj z => by rw [get_set_ne (by simpa using hj)]; exact z) (fun p hp => ?_) (fun _ h => h)
                · have : j = i := by simpa using hj
                  subst this
                  rw [List.getElem?_set_self hil] at z; cases z
                · rcases List.mem_cons.mp (show p ∈ (i, V.ref a) :: pv.sl from hp) with rfl | hp
                  · exact List.getElem?_set_self hil'
                  · rw [get_set_ne (hne p hp)]; exact s'.pv p hp
              exact ⟨s1.len, s1.rep, s1.emp, s1.nd, s1.dj, s1.nf, s1.fh, s1.pv, fun q hq => by
                rcases List.mem_cons.mp hq with rfl | hq
                · exact ⟨hd, e2, r⟩
                · exact s1.hx q hq⟩
            · have q2 := noX_end (pv' := ⟨(i, .ref a) :: pv.sl, (d, gs, fs) :: pv.hx⟩) hne (fun p hp => List.mem_cons_of_mem _ hp) (fun p hp => List.mem_cons_of_mem _ hp) q
              rw [List.length_set, hl]
              exact q2.after (st.mono (fun _ h => h) fun _ h => .inl (Own_off' h))
          · exact q.elim
        · subst hb
          exact q σ' d F' H' φ' gs hl s' hd e2 r st
end
end VS

end

section
set_option linter.all false
set_option maxRecDepth 100000
set_option maxHeartbeats 2000000
namespace VS
open PySem L2
def bltNames : List Str := ["len", "int", "min", "max", "sum", "abs", "tuple", "list", "bool", "str", "isinstance", "range", "enumerate", "zip", "reversed"]
structure Good (T : Stc) (C : CtxD) (clA : Str → Addr) (X : Cx) : Prop where
  N : X.N = T.N
  nd : X.N.Nodup
  calm : T.hot = none → X.calm = true
  cold : T.hot = none → C.ex = none
  hot : ∀ y, T.hot = some y → ∃ i k fs, C.ex = some (i, k, fs) ∧ T.N[i]? = some y ∧ (C.cls.lookup k).isSome = true ∧ fs.map (·.1) = C.flds k
  u : X.A.units + 72 < cLine
  blt : ∀ x ∈ bltNames, X.mg x = none
  con : ∀ x d e, T.consts.lookup x = some d → constE d = some e → ∃ v u, X.mg x = some u ∧ RelV v u ∧ ((∃ i, e = .int i ∧ v = .int i) ∨ ∃ s, e = .str s ∧ v = .str s)
  fn : T.hot = none → ∀ i x, T.fns[i]? = some x → Def X clA C x i
  xi : XInfo X.prog X.K X.mg clA C.cls
  cl : T.cls = C.cls
section
variable {T : Stc} {C : CtxD} {clA : Str → Addr} {X : Cx}
theorem Good.blk (G : Good T C clA X) {s : Shared} {H : Hp} {scope : Scope} {cenv : Env} {fp : List Addr} : Good T C clA (X.blk s H scope cenv fp) :=
  ⟨G.N, G.nd, G.calm, G.cold, G.hot, G.u, G.blt, G.con, fun hh i x h => ⟨(G.fn hh i x h).ex⟩, G.xi, G.cl⟩
theorem findN_spec : ∀ {N : List Str} {x : Str} {i : Nat}, findN N x = some i → N[i]? = some x
  | [], _, _, h => by cases h
  | y :: N, x, i, h => by
    simp only [findN] at h
    split at h
    · rename_i e
      cases h
      simp [e]
    · cases e : findN N x with
      | none => rw [e] at h; cases h
      | some j => rw [e] at h; cases h; simpa using findN_spec e
theorem okName_spec {x : Str} (h : okName x = true) : (x == ("__debug__" : Str)) = false ∧ (x == ("__classdict__" : Str)) = false ∧ x ≠ "__name__" := by
  unfold okName at h
  simp only [Bool.and_eq_true, Bool.not_eq_true'] at h
  exact ⟨h.1.1, h.1.2, fun z => by rw [z] at h; simp at h⟩
theorem isVis_spec {sc : Scope} {x : Str} (h : isVis sc x = true) : Vis sc x := by
  unfold isVis at h
  split at h
  · exact .inl (by assumption)
  · exact .inr (.inl (by assumption))
  · exact .inr (.inr (by assumption))
  · cases h
theorem isLoc_spec {sc : Scope} {x : Str} (h : isLoc sc x = true) : Loc sc x := by
  unfold isLoc at h
  split at h
  · exact .inl (by assumption)
  · exact .inr (by assumption)
  · cases h
theorem Loc.vis {sc : Scope} {x : Str} (h : Loc sc x) : Vis sc x := h.elim .inl fun z => .inr (.inl z)
theorem trVar_spec {sc : Scope} {x : Str} {i : Nat} (h : trVar T sc x = some i) : T.N[i]? = some x ∧ Vis sc x ∧ okName x = true := by
  unfold trVar at h
  split at h
  · rename_i e
    rw [Bool.and_eq_true] at e
    exact ⟨findN_spec h, isVis_spec e.1, e.2⟩
  · cases h
theorem trLoc_spec {sc : Scope} {x : Str} {i : Nat} (h : trLoc T sc x = some i) : T.N[i]? = some x ∧ Loc sc x ∧ okName x = true := by
  unfold trLoc at h
  split at h
  · rename_i e
    rw [Bool.and_eq_true] at e
    exact ⟨findN_spec h, isLoc_spec e.1, e.2⟩
  · cases h
theorem bsome {α β : Type} {o : Option α} {f : α → Option β} {b : β} (h : o.bind f = some b) : ∃ a, o = some a ∧ f a = some b := by
  cases o with
  | none => cases h
  | some a => exact ⟨a, rfl, h⟩
theorem msome {α β : Type} {o : Option α} {f : α → β} {b : β} (h : o.map f = some b) : ∃ a, o = some a ∧ b = f a := by
  cases o with
  | none => cases h
  | some a => cases h; exact ⟨a, rfl, rfl⟩
/-! ## targets -/
theorem nm_of {sc : Scope} {ok fn : Str → Bool} (hok : ∀ x, Loc sc x → ok x = true → fn x = true ∨ sc.names.lookup x = some .local) : ∀ {es : List Expr} {is : List Nat}, trNames T sc ok es = some is → nmTg sc T.N fn es is
  | [], is, h => by cases h; rfl
  | e :: es, is, h => by
    cases e with
    | Name x p =>
      simp only [trNames] at h
      split at h
      · rename_i ho
        obtain ⟨i, h1, h⟩ := bsome h
        obtain ⟨r, h2, rfl⟩ := msome h
        obtain ⟨a1, a2, a3⟩ := trLoc_spec h1
        exact ⟨i, r, rfl, a1, a2, hok x a2 ho, nm_of hok h2⟩
      · cases h
    | _ => cases h
theorem tg_of {pv : Pv} {ok : Str → Bool} {tg : Expr} {g : Tg} (G : Good T C clA X) (hcold : T.hot = none) (hok : ∀ x, Loc X.env.scope x → ok x = true → X.fn x = true ∨ X.env.scope.names.lookup x = some .local) (h : trTg T X.env.scope ok tg = some g) : PG X tg (tTg pv g) := by
  cases tg with
  | Name x p =>
    simp only [trTg] at h
    split at h
    · rename_i ho
      obtain ⟨i, h1, rfl⟩ := msome h
      obtain ⟨a1, a2, a3⟩ := trLoc_spec h1
      exact tg_name G.nd (by rw [G.N]; exact a1) a2 (hok x a2 ho)
    · cases h
  | Tuple es k p =>
    simp only [trTg] at h
    obtain ⟨is, h1, rfl⟩ := msome h
    exact tg_tup G.nd (G.calm hcold) (by rw [G.N]; exact nm_of hok h1)
  | _ => cases h
/-! ## expressions -/
abbrev Snd (T : Stc) (C : CtxD) (clA : Str → Addr) (f : Scope → Expr → Option E) : Prop := ∀ X sc e e', f sc e = some e' → Good T C clA X → X.env.scope = sc → ∀ W, Takes X W → ∀ pv, HotP X C clA pv → ESound X C clA pv W e e'
theorem trE_notStar {n : Nat} {sc : Scope} {e : Expr} {e' : E} (h : trE T n sc e = some e') : notStar e = true := by
  cases n with
  | zero => cases h
  | succ n => cases e <;> first | rfl | cases h
theorem trE_notSet {n : Nat} {sc : Scope} {e : Expr} {e' : E} (h : trE T n sc e = some e') : notSetE e = true := by
  cases n with
  | zero => cases h
  | succ n => cases e <;> first | rfl | cases h
theorem trEs_all {f : Expr → Option E} : ∀ {es : List Expr} {es' : Es}, trEs f es = some es' → ∀ e ∈ es, ∃ e', f e = some e'
  | [], _, _, e, he => by cases he
  | a :: es, es', h, e, he => by
    simp only [trEs] at h
    obtain ⟨x, h1, h⟩ := bsome h
    obtain ⟨r, h2, _⟩ := msome h
    rcases List.mem_cons.mp he with rfl | he
    · exact ⟨x, h1⟩
    · exact trEs_all h2 e he
theorem trIt_sound {n : Nat} (ih : Snd T C clA (trE T n)) (G : Good T C clA X) {tg iter : Expr} {it : VS.It} {W : WX} (tk : Takes X W) (h : trIt T X.env.scope (trE T n X.env.scope) tg iter = some it) : (∀ pv, HotP X C clA pv → ∀ u, PI X tg iter (tIt clA pv W (evIt C u it))) ∧ ∀ x, foldedSetIterable iter X.env x = pure x := by
  have sE : ∀ {e e'}, trE T n X.env.scope e = some e' → ∀ pv, HotP X C clA pv → ESound X C clA pv W e e' := fun {e e'} h pv hp => ih X _ e e' h G rfl W tk pv hp
  have over : ∀ {e it}, (trE T n X.env.scope e).map VS.It.over = some it → ∀ pv, HotP X C clA pv → ∀ u, PI X tg e (tIt clA pv W (evIt C u it)) := fun {e it} h pv hp u => by
    obtain ⟨e', h1, rfl⟩ := msome h
    exact snd_over (sE h1 pv hp)
  cases iter with
  | Set => cases h
  | Call fe es kw pos =>
    refine ⟨?_, fun _ => rfl⟩
    cases fe with
    | Name x p =>
      cases kw with
      | nil =>
        simp only [trIt] at h
        have gl : ∀ {y : Str}, (isGl X.env.scope x && !(T.fns.contains x) && x == y) = true → Gl X x ∧ x = y := fun {y} z => by
          simp only [Bool.and_eq_true, beq_iff_eq] at z
          exact ⟨gl_of z.1.1, z.2⟩
        split at h
        · rename_i hc
          obtain ⟨g1, rfl⟩ := gl hc
          split at h
          · rename_i a
            obtain ⟨es', h1, rfl⟩ := msome h
            obtain ⟨a', ha⟩ := trEs_all h1 a (by simp)
            exact fun pv hp u => snd_rng1 (by rw [trEs_len h1]; rfl) g1 (G.blt _ (by decide +kernel)) (trE_notStar ha) (snd_es _ (fun e he => let ⟨_, z⟩ := trEs_all h1 e he; trE_notStar z) (fun e he e' z => sE z pv hp) h1)
          · rename_i a b
            obtain ⟨es', h1, rfl⟩ := msome h
            obtain ⟨a', ha⟩ := trEs_all h1 a (by simp)
            obtain ⟨b', hb⟩ := trEs_all h1 b (by simp)
            exact fun pv hp u => snd_rng2 (by rw [trEs_len h1]; rfl) g1 (G.blt _ (by decide +kernel)) (trE_notStar ha) (trE_notStar hb) (snd_es _ (fun e he => let ⟨_, z⟩ := trEs_all h1 e he; trE_notStar z) (fun e he e' z => sE z pv hp) h1)
          · cases h
        · split at h
          · rename_i hc
            rw [Bool.and_eq_true] at hc
            obtain ⟨g1, rfl⟩ := gl hc.1
            have ht := hc.2
            cases tg with
            | Tuple elts kk tp =>
              split at h
              · rename_i a
                obtain ⟨a', h1, rfl⟩ := msome h
                exact fun pv hp u => snd_enum g1 (G.blt _ (by decide +kernel)) (trE_notStar h1) (sE h1 pv hp)
              · cases h
            | _ => cases ht
          · split at h
            · rename_i hc
              rw [Bool.and_eq_true] at hc
              obtain ⟨g1, rfl⟩ := gl hc.1
              have ht := hc.2
              cases tg with
              | Tuple elts kk tp =>
                split at h
                · rename_i a b
                  obtain ⟨a', h1, h⟩ := bsome h
                  obtain ⟨b', h2, rfl⟩ := msome h
                  exact fun pv hp u => snd_zip g1 (G.blt _ (by decide +kernel)) (trE_notStar h1) (trE_notStar h2) (sE h1 pv hp) (sE h2 pv hp)
                · cases h
              | _ => cases ht
            · split at h
              · rename_i hc
                obtain ⟨g1, rfl⟩ := gl hc
                split at h
                · rename_i a
                  obtain ⟨a', h1, rfl⟩ := msome h
                  exact fun pv hp u => snd_rev g1 (G.blt _ (by decide +kernel)) (trE_notStar h1) (sE h1 pv hp)
                · cases h
              · exact over h
      | cons k ks => exact over h
    | _ => exact over h
  | _ => exact ⟨over h, fun _ => rfl⟩
end
end VS

end

section
set_option linter.all false
set_option maxRecDepth 100000
set_option maxHeartbeats 4000000
namespace VS
open PySem L2
section
variable {T : Stc} {C : CtxD} {clA : Str → Addr} {X : Cx}
theorem plainIx_of {n : Nat} {sc : Scope} {e : Expr} {e' : E} (h : trE T n sc e = some e') : PlainIx e := by
  cases n with
  | zero => cases h
  | succ n => cases e <;> first | exact fun _ _ => rfl | cases h
theorem blt_five {x : Str} (h : (["int", "bool", "str", "list", "tuple"] : List Str).contains x = true) : x ∈ bltNames := by
  have : ∀ y ∈ (["int", "bool", "str", "list", "tuple"] : List Str), y ∈ bltNames := by decide +kernel
  exact this x (by simpa using h)
theorem blt_eight {x : Str} (h : (["len", "int", "min", "max", "sum", "abs", "tuple", "list"] : List Str).contains x = true) : x ∈ bltNames := by
  have : ∀ y ∈ (["len", "int", "min", "max", "sum", "abs", "tuple", "list"] : List Str), y ∈ bltNames := by decide +kernel
  exact this x (by simpa using h)
theorem trTys_blt {sc : Scope} : ∀ {es : List Expr} {ts : List String}, trTys sc es = some ts → ∀ x p, Expr.Name x p ∈ es → x ∈ bltNames
  | [], _, _, x, p, h => by cases h
  | e :: es, ts, h, x, p, hm => by
    cases e with
    | Name y q =>
      simp only [trTys] at h
      obtain ⟨t, h1, h⟩ := bsome h
      obtain ⟨r, h2, _⟩ := msome h
      rcases List.mem_cons.mp hm with z | z
      · cases z
        obtain ⟨_, _, _, _, q⟩ := trTy_spec h1
        exact blt_five q
      · exact trTys_blt h2 x p z
    | _ => cases h
theorem mem_fns {x : Str} {i : Nat} (h : findN T.fns x = some i) : T.fns[i]? = some x := findN_spec h
theorem ownOk {scope sc : Scope} {s : Shared} {H : Hp} {C0 : Addr} {cl : List (Str × Addr)} {fp : List Addr} (x : Str) (h1 : Loc (relS scope sc) x) (h2 : ownNm scope x = true) : (scope.names.lookup x == some NameKind.cell) = true ∨ (relS scope sc).names.lookup x = some .local := by
  unfold ownNm at h2
  split at h2
  · rename_i e
    exact .inr (lookup_relS_keep (by decide) e)
  · rename_i e
    exact .inl (by rw [e]; rfl)
  · cases h2
/-- the comprehension's parts -/
theorem comp_parts {n : Nat} (ih : Snd T C clA (trE T n)) (G : Good T C clA X) {elt tg iter : Expr} {ifs : List Expr} {scope : Scope} {e' : E} {W : WX} (tk : Takes X W)
    (h : (if blkC T.N X.env.scope scope (ownOf T scope.names) && T.hot.isNone then
        (trIt T X.env.scope (trE T n X.env.scope) tg iter).bind fun it => (trTg T (relS scope X.env.scope) (ownNm scope) tg).bind fun g => (trE T n (relS scope X.env.scope) elt).bind fun el =>
        (match ifs with
          | [] => some none
          | [c] => (trE T n (relS scope X.env.scope) c).map some
          | _ => none).bind fun cd => if g.slots.all fun j => ((ownOf T scope.names).map Prod.snd).contains j then some (.comp el ((ownOf T scope.names).map Prod.snd) g it cd) else none
      else none) = some e') :
    ∃ g it el cd, e' = .comp el ((ownOf T scope.names).map Prod.snd) g it cd ∧ (∀ pv, HotP X C clA pv → ∀ u, PI X tg iter (tIt clA pv W (evIt C u it))) ∧ (∀ x, foldedSetIterable iter X.env x = pure x) ∧ BlkOk X.N X.env.scope scope (ownOf T scope.names) ∧ (InBlk X scope fun Y => PG Y tg (tTg Pv.e g)) ∧ (∀ j ∈ g.slots, j ∈ (ownOf T scope.names).map (·.2)) ∧
      (InBlk X scope fun Y => CondS (fun c c' => ESound Y C clA Pv.e WF c c') ifs cd) ∧ (InBlk X scope fun Y => ESound Y C clA Pv.e WF elt el) ∧ T.hot = none := by
  split at h
  · rename_i hb0
    rw [Bool.and_eq_true] at hb0
    obtain ⟨hb, hcold0⟩ := hb0
    have hcold : T.hot = none := by simpa using hcold0
    obtain ⟨it, h1, h⟩ := bsome h
    obtain ⟨g, h2, h⟩ := bsome h
    obtain ⟨el, h3, h⟩ := bsome h
    obtain ⟨cd, h4, h⟩ := bsome h
    split at h
    · rename_i hg
      cases h
      obtain ⟨a1, a2⟩ := trIt_sound ih G tk h1
      refine ⟨g, it, el, cd, rfl, a1, a2, by rw [G.N]; exact blkOk_by hb, fun s H C0 cl fp => ?_, fun j hj => ?_, fun s H C0 cl fp => ?_, fun s H C0 cl fp => ?_, hcold⟩
      · exact tg_of (X := X.blk s H scope (compEnvC scope cl C0 X.env) fp) (ok := ownNm scope) G.blk hcold (fun x l o => ownOk (s := s) (H := H) (C0 := C0) (cl := cl) (fp := fp) x l o) h2
      · have := List.all_eq_true.mp hg j hj
        simpa using this
      · cases ifs with
        | nil => cases h4; exact .none
        | cons c r =>
          cases r with
          | nil =>
            obtain ⟨c', h5, rfl⟩ := msome h4
            exact .some (ih (X.blk s H scope (compEnvC scope cl C0 X.env) fp) (relS scope X.env.scope) c c' h5 G.blk rfl WF takes0 Pv.e (HotP.cold (G.cold hcold)))
          | cons _ _ => cases h4
      · exact ih (X.blk s H scope (compEnvC scope cl C0 X.env) fp) (relS scope X.env.scope) elt el h3 G.blk rfl WF takes0 Pv.e (HotP.cold (G.cold hcold))
    · cases h
  · cases h
theorem trCls_spec {sc : Scope} : ∀ {es : List Expr} {ts : List Str}, trCls T sc es = some ts → (es.map fun e => match e with | .Name y _ => some y | _ => none) = ts.map some ∧ (∀ t ∈ ts, tstOk T sc t = true) ∧ ts.length = es.length
  | [], ts, h => by cases h; exact ⟨rfl, fun _ h => (nomatch h), rfl⟩
  | e :: es, ts, h => by
    cases e with
    | Name t p =>
      simp only [trCls] at h
      split at h
      · rename_i ht
        obtain ⟨r, h1, rfl⟩ := msome h
        obtain ⟨a1, a2, a3⟩ := trCls_spec h1
        exact ⟨by simp only [List.map_cons, a1], fun x hx => by rcases List.mem_cons.mp hx with rfl | hx; exact ht; exact a2 x hx, by simp [a3]⟩
      · cases h
    | _ => cases h
theorem tst_spec {t : Str} (G : Good T C clA X) (h : tstOk T X.env.scope t = true) : Gl X t ∧ (t ∈ C.cls.map (·.1) ∨ t = "ValueError") := by
  unfold tstOk at h
  rw [Bool.and_eq_true, Bool.or_eq_true] at h
  refine ⟨gl_of h.1, h.2.imp (fun z => ?_) fun z => by simpa using z⟩
  rw [G.cl] at z
  simpa using z
theorem hot_sound {W : WX} {pv : Pv} (G : Good T C clA X) (hot : HotP X C clA pv) {es : List Expr} {ts : List Str} {p0 pos : Pos} (h : trHot T X.env.scope es = some ts) (hg : Gl X "isinstance") : ESound X C clA pv W (.Call (.Name "isinstance" p0) es [] pos) (.exIs ts) := by
  unfold trHot at h
  split at h
  · rename_i z zp t tp
    split at h
    · rename_i hc
      cases h
      obtain ⟨i, k, fs, c1, c2, c3, c4⟩ := G.hot z hc.1
      obtain ⟨b1, b2, _⟩ := okName_spec hc.2.2.2
      obtain ⟨d1, d2⟩ := tst_spec G hc.2.1
      exact snd_exIs1 G.xi hot c1 c3 (by rw [G.N]; exact c2) (isVis_spec hc.2.2.1) b1 b2 hg (G.blt _ (by decide +kernel)) d1 d2
    · cases h
  · rename_i z zp es' k0 tp
    split at h
    · rename_i hc
      obtain ⟨i, k, fs, c1, c2, c3, c4⟩ := G.hot z hc.1
      obtain ⟨b1, b2, _⟩ := okName_spec hc.2.2.1
      obtain ⟨a1, a2, a3⟩ := trCls_spec h
      exact snd_exIss G.xi hot c1 c3 (by rw [G.N]; exact c2) (isVis_spec hc.2.1) b1 b2 (by rw [a3]; exact hc.2.2.2) hg (G.blt _ (by decide +kernel)) a1 (fun t ht => (tst_spec G (a2 t ht)).1) fun t ht => (tst_spec G (a2 t ht)).2
    · cases h
  · cases h
theorem trE_sound : ∀ n, Snd T C clA (trE T n)
  | 0 => fun X sc e e' h => by cases h
  | n + 1 => by
    intro X sc e e' h G hsc W tk pv hot
    subst hsc
    have ih := trE_sound n
    have sE : ∀ {e e'}, trE T n X.env.scope e = some e' → ESound X C clA pv W e e' := fun {e e'} h => ih X _ e e' h G rfl W tk pv hot
    have stars : ∀ {es es'}, trEs (trE T n X.env.scope) es = some es' → ∀ e ∈ es, notStar e = true := fun {es es'} h e he => let ⟨_, z⟩ := trEs_all h e he; trE_notStar z
    unfold trE at h
    split at h
    · split at h
      · cases h; exact snd_const (d := .non) pe_non (fun _ _ => ⟨rfl, rfl⟩) (fun m env => by simp only [ev]) rfl fun _ => rfl
      · cases h; exact snd_const (d := .bl _) pe_bl (fun _ _ => ⟨rfl, rfl⟩) (fun m env => by simp only [ev]) rfl fun _ => rfl
      · cases h; exact snd_const (d := .int _) pe_int (fun _ _ => ⟨rfl, rfl⟩) (fun m env => by simp only [ev]) rfl fun _ => rfl
      · cases h; exact snd_const (d := .str _) pe_str (fun _ _ => ⟨rfl, rfl⟩) (fun m env => by simp only [ev]) rfl fun _ => rfl
      · cases h
    · split at h
      · obtain ⟨i, h1, rfl⟩ := msome h
        obtain ⟨a1, a2, a3⟩ := trVar_spec h1
        obtain ⟨b1, b2, _⟩ := okName_spec a3
        exact snd_var (by rw [G.N]; exact a1) a2 b1 b2
      · split at h
        · rename_i hc
          rw [Bool.and_eq_true] at hc
          obtain ⟨d, h1, h2⟩ := bsome h
          obtain ⟨b1, b2, _⟩ := okName_spec hc.2
          obtain ⟨v, u, c1, c2, c3⟩ := G.con _ _ _ h1 h2
          have hp := fun pos => pe_glob (X := X) (pos := pos) (gl_of hc.1) c1 c2 b1
          rcases c3 with ⟨i, rfl, rfl⟩ | ⟨s, rfl, rfl⟩
          · exact snd_const (d := .int i) (hp _) (fun _ _ => ⟨rfl, rfl⟩) (fun m env => by simp only [ev]) rfl fun _ => rfl
          · exact snd_const (d := .str s) (hp _) (fun _ _ => ⟨rfl, rfl⟩) (fun m env => by simp only [ev]) rfl fun _ => rfl
        · cases h
    · obtain ⟨o, h1, h⟩ := bsome h
      obtain ⟨a', h2, h⟩ := bsome h
      obtain ⟨b', h3, rfl⟩ := msome h
      rw [opOf_tr h1]
      exact snd_bin (sE h2) (sE h3)
    · obtain ⟨a', h1, rfl⟩ := msome h
      exact snd_neg (sE h1)
    · obtain ⟨a', h1, rfl⟩ := msome h
      exact snd_not (sE h1)
    · exact (snd_and _ (fun e he e' z => sE z) h).1
    · exact (snd_or _ (fun e he e' z => sE z) h).1
    · obtain ⟨a', h1, rfl⟩ := msome h
      exact snd_isN false (sE h1)
    · obtain ⟨a', h1, rfl⟩ := msome h
      exact snd_isN true (sE h1)
    · obtain ⟨o, h1, h⟩ := bsome h
      obtain ⟨a', h2, h⟩ := bsome h
      obtain ⟨b', h3, rfl⟩ := msome h
      rw [copOf_tr h1]
      exact snd_cmp G.u (trE_notSet h3) (sE h2) (sE h3)
    · obtain ⟨o, h1, h⟩ := bsome h
      obtain ⟨p, h2, h⟩ := bsome h
      obtain ⟨a', h3, h⟩ := bsome h
      obtain ⟨b', h4, h⟩ := bsome h
      obtain ⟨c', h5, rfl⟩ := msome h
      rw [copOf_tr h1, copOf_tr h2]
      exact snd_cmp2 G.u (trE_notSet h5) (sE h3) (sE h4) (sE h5)
    · obtain ⟨c', h1, h⟩ := bsome h
      obtain ⟨a', h2, h⟩ := bsome h
      obtain ⟨b', h3, rfl⟩ := msome h
      exact snd_ite (sE h1) (sE h2) (sE h3)
    · obtain ⟨es', h1, rfl⟩ := msome h
      exact snd_tup (snd_es _ (stars h1) (fun e he e' z => sE z) h1)
    · obtain ⟨es', h1, rfl⟩ := msome h
      exact snd_lst (snd_es _ (stars h1) (fun e he e' z => sE z) h1)
    · rename_i a lo hi p2 pos
      obtain ⟨a', h1, h⟩ := bsome h
      obtain ⟨l', h2, h⟩ := bsome h
      obtain ⟨r', h3, rfl⟩ := msome h
      refine snd_slice (sE h1) ?_ ?_
      · cases lo with
        | none => cases h2; exact .none
        | some l => obtain ⟨x, h4, rfl⟩ := msome h2; exact .some (sE h4)
      · cases hi with
        | none => cases h3; exact .none
        | some l => obtain ⟨x, h4, rfl⟩ := msome h3; exact .some (sE h4)
    · cases h
    · obtain ⟨a', h1, h⟩ := bsome h
      obtain ⟨b', h2, rfl⟩ := msome h
      exact snd_sub (plainIx_of h2) (sE h1) (sE h2)
    · split at h
      · rename_i hc
        rw [Bool.and_eq_true] at hc
        have hg := gl_of hc.1
        obtain ⟨b1, b2, _⟩ := okName_spec hc.2
        split at h
        · rename_i i hi
          split at h
          · cases h
          · rename_i hne
            rw [Bool.or_eq_true, not_or] at hne
            have hcold : T.hot = none := by simpa using hne.2
            obtain ⟨es', h1, rfl⟩ := msome h
            exact snd_call (G.fn hcold _ _ (mem_fns hi)) tk (fun z => hne.1 (by rw [z]; rfl)) hg b1 (stars h1) (snd_args _ (stars h1) (fun e he e' z => sE z) h1)
        · split at h
          · rename_i hx
            subst hx
            split at h
            · rename_i ts hth
              cases h
              exact hot_sound G hot hth hg
            split at h
            · obtain ⟨a', h1, h⟩ := bsome h
              obtain ⟨t, h2, rfl⟩ := msome h
              obtain ⟨_, _, _, _, q⟩ := trTy_spec h2
              exact snd_isT hg (G.blt _ (by decide +kernel)) h2 (G.blt _ (blt_five q)) (trE_notStar h1) (sE h1)
            · obtain ⟨a', h1, h⟩ := bsome h
              obtain ⟨ts, h2, h⟩ := bsome h
              split at h
              · rename_i hl
                cases h
                exact snd_isTs hl hg (G.blt _ (by decide +kernel)) h2 (fun x p z => G.blt _ (trTys_blt h2 x p z)) (trE_notStar h1) (sE h1)
              · cases h
            · cases h
          · split at h
            · cases h
            rename_i hhot
            have hcold : T.hot = none := by simpa using hhot
            obtain ⟨p, h1, h⟩ := bsome h
            obtain ⟨es', h2, rfl⟩ := msome h
            obtain ⟨_, _, _, _, _, q⟩ := trPrim_spec h1
            exact snd_prim h1 (G.calm hcold) hg (G.blt _ (blt_eight q)) (stars h2) (snd_kds _ (stars h2) (fun e he e' z => sE z) h2)
      · cases h
    · rename_i o m apos es cpos
      split at h
      · rename_i hc
        rw [Bool.and_eq_true] at hc
        obtain ⟨p, h1, h⟩ := bsome h
        obtain ⟨a', h2, h⟩ := bsome h
        obtain ⟨es', h3, rfl⟩ := msome h
        obtain ⟨_, _, _, hk⟩ := trMt_spec h1
        match es, hk with
        | [e], _ => exact snd_meth h1 G.u hc.1 hc.2 (stars h3 e (by simp)) (sE h2) (snd_kds _ (stars h3) (fun e he e' z => sE z) h3)
      · cases h
    · rename_i y yp f pos
      split at h
      · rename_i hc
        cases h
        obtain ⟨i, k, fs, c1, c2, c3, c4⟩ := G.hot y hc.1
        obtain ⟨b1, b2, _⟩ := okName_spec hc.2.2
        exact snd_exFld G.xi hot c1 c3 c4 (by rw [G.N]; exact c2) (isVis_spec hc.2.1) b1 b2
      · cases h
    · rename_i elt tg iter ifs scope pos
      obtain ⟨g, it, el, cd, rfl, a1, a2, a3, a4, a5, a6, a7, a8⟩ := comp_parts ih G tk h
      exact snd_comp (G.calm a8) G.nd a2 (a1 pv hot) a3 a4 a5 a6 a7
    · cases h
end
end VS

end

section
set_option linter.all false
set_option maxRecDepth 100000
set_option maxHeartbeats 4000000
namespace VS
open PySem L2
structure GoodS (T : Stc) (C : CtxD) (clA : Str → Addr) (X : Cx) (W : WX) : Prop where
  good : Good T C clA X
  tk : Takes X W
  po : PassesOwn (model X.prog X.w) X.A X.env X.xe
  fn : ∀ x, X.fn x = true
  kind : X.env.scope.kind = .function
  stk : X.stack = X.env :: X.outer
  frm : X.env.frame = some X.env.locals
  rm : T.hot = none → ∃ k, Room k X.A
section
variable {T : Stc} {C : CtxD} {clA : Str → Addr} {X : Cx} {W : WX}
theorem noComp_sw {e : Expr} {t : Option Expr} {l : Nat} {env : Env} (h : isComp e = false) : swapsWith e t l env = pure false := by
  cases e <;> first | rfl | cases h
theorem noComp_sole {e t : Expr} {l : Nat} {env : Env} (h : isComp e = false) : swapsWithSole [t] e l env = pure false := by
  show swapsWith e (some t) l env = pure false
  exact noComp_sw h
theorem trE_comp {n : Nat} {sc : Scope} {e : Expr} {e' : E} (h : trE T n sc e = some e') (hs : isComp e = true) : ∃ elt gs scope pos, e = .ListComp elt gs scope pos := by
  cases n with
  | zero => cases h
  | succ n => cases e <;> first | cases hs; done | exact ⟨_, _, _, _, rfl⟩ | cases h
theorem trSs_sound {f : Stmt → Option S} : ∀ {ss : List Stmt} {ss' : Ss}, (∀ s ∈ ss, ∀ s', f s = some s' → SSound X C clA W s s') → trSs f ss = some ss' → SsSound X C clA W ss ss'
  | [], ss', _, h => by cases h; exact sts_nil
  | s :: ss, ss', hf, h => by
    simp only [trSs] at h
    obtain ⟨a, h1, h⟩ := bsome h
    obtain ⟨r, h2, rfl⟩ := msome h
    exact sts_cons (hf s (by simp) a h1) (trSs_sound (fun s hs => hf s (by simp [hs])) h2)
theorem swOk_spec {sc : Scope} {y : Str} {py pos : Pos} {scope : Scope} (h : swOk sc y py pos scope = true) : sc.names.lookup y = some .local ∧ (py.line == pos.line) = true ∧ (scope.names.any fun (n, k) => n == y && (k == .local || k == .cell)) = false := by
  unfold swOk at h
  simp only [Bool.and_eq_true, Bool.not_eq_true'] at h
  obtain ⟨⟨h1, h2⟩, h3⟩ := h
  refine ⟨?_, h2, h3⟩
  split at h1
  · assumption
  · cases h1
theorem isCell_spec {sc : Scope} {y : Str} (h : isCell sc y = true) : sc.names.lookup y = some .cell := by
  unfold isCell at h
  split at h
  · assumption
  · cases h
theorem sw_cell {elt : Expr} {gs : List Comprehension} {scope : Scope} {pos py : Pos} {y : Str} {l : Nat} {env : Env} (hy : env.scope.names.lookup y = some .cell) : swapsWith (.ListComp elt gs scope pos) (some (.Name y py)) l env = pure false := by
  have ky : env.kindOf y = some .cell := hy
  have kz : (env.kindOf y == some NameKind.local) = false := by rw [ky]; rfl
  unfold swapsWith
  simp only [kz, Bool.and_false, Bool.false_and]
theorem trS_sound : ∀ n {T : Stc} {C : CtxD} {X : Cx} {W : WX}, GoodS T C clA X W → ∀ s s', trS X.env.scope n T s = some s' → SSound X C clA W s s'
  | 0, _, _, _, _, _ => fun s s' h => by cases h
  | n + 1, T, C, X, W, G => by
    intro s s' h
    have ih := trS_sound n G
    have sE : ∀ {e e'}, trE T n X.env.scope e = some e' → ∀ pv, HotP X C clA pv → ESound X C clA pv W e e' := fun {e e'} h pv hot => trE_sound n X _ e e' h G.good rfl W G.tk pv hot
    have sS : ∀ {ss ss'}, trSs (trS X.env.scope n T) ss = some ss' → SsSound X C clA W ss ss' := fun {ss ss'} h => trSs_sound (fun s _ s' z => ih s s' z) h
    unfold trS at h
    split at h
    · rename_i y py elt gs scope pos spos
      obtain ⟨i, h1, h⟩ := bsome h
      obtain ⟨a1, a2, a3⟩ := trLoc_spec h1
      split at h
      · rename_i hsw
        obtain ⟨e', h2, rfl⟩ := msome h
        rw [Bool.or_eq_true] at hsw
        rcases hsw with hsw | hsw
        rotate_left
        · exact st_asg G.good.nd (by rw [G.good.N]; exact a1) a2 (.inl (G.fn y)) (sw_cell (isCell_spec hsw)) (sE h2)
        obtain ⟨b1, b2, b3⟩ := swOk_spec hsw
        cases n with
        | zero => cases h2
        | succ n =>
          unfold trE at h2
          split at h2 <;> first | (rename_i z; cases z; done) | skip
          · rename_i elt tg iter ifs scope pos z
            cases z
            obtain ⟨g, it, el, cd, rfl, c1, c2, c3, c4, c5, c6, c7, c8⟩ := comp_parts (trE_sound n) G.good G.tk h2
            exact st_setLc (G.good.calm c8) G.good.nd (by rw [G.good.N]; exact a1) b1 (sw_true G.kind b1 b2 b3) c2 c1 c3 c4 c5 c6 c7
          · cases h2
      · cases h
    · rename_i y py e spos hne
      split at h
      · cases h
      · rename_i hc
        obtain ⟨i, h1, h⟩ := bsome h
        obtain ⟨e', h2, rfl⟩ := msome h
        obtain ⟨a1, a2, a3⟩ := trLoc_spec h1
        exact st_asg G.good.nd (by rw [G.good.N]; exact a1) a2 (.inl (G.fn y)) (noComp_sw (by simpa using hc)) (sE h2)
    · rename_i ts k tp e spos
      split at h
      · cases h
      · rename_i hc
        simp only [Bool.or_eq_true, not_or] at hc
        have hcold : T.hot = none := by simpa using hc.2
        obtain ⟨is, h1, h⟩ := bsome h
        obtain ⟨e', h2, rfl⟩ := msome h
        have nc : isComp e = false := by simpa using hc.1.2
        refine st_unp G.good.nd (G.good.calm hcold) (by rw [G.good.N]; exact nm_of (fun x _ _ => .inl (G.fn x)) h1) (noComp_sole nc) ?_ rfl (sE h2)
        have ht := hc.1.1
        cases e <;> first | rfl | exact absurd rfl ht
    · rename_i x p0 lo hi p2 p1 e spos
      split at h
      · cases h
      · rename_i hc
        obtain ⟨x', h1, h⟩ := bsome h
        obtain ⟨a', h2, h⟩ := bsome h
        obtain ⟨b', h3, h⟩ := bsome h
        obtain ⟨e', h4, rfl⟩ := msome h
        obtain ⟨a1, a2, a3⟩ := trLoc_spec h1
        obtain ⟨b1, b2, _⟩ := okName_spec a3
        have nc : isComp e = false := by simpa using hc
        exact st_setSl (by rw [G.good.N]; exact a1) (Loc.vis a2) b1 b2 (noComp_sole nc) (by cases e <;> rfl) (sE h4) (sE h2) (sE h3)
    · rename_i x p0 i p1 e spos hnsl
      split at h
      · cases h
      · rename_i hc
        obtain ⟨x', h1, h⟩ := bsome h
        obtain ⟨i', h2, h⟩ := bsome h
        obtain ⟨e', h3, rfl⟩ := msome h
        obtain ⟨a1, a2, a3⟩ := trLoc_spec h1
        obtain ⟨b1, b2, _⟩ := okName_spec a3
        have h2 : trE T n X.env.scope i = some i' := by
          cases i <;> first | exact h2 | cases h2
        have nc : isComp e = false := by simpa using hc
        refine st_setI (by rw [G.good.N]; exact a1) (Loc.vis a2) b1 b2 (noComp_sole nc) (by cases e <;> rfl) (fun v => ?_) (sE h3) (sE h2)
        have := trE_notStar h2
        cases n with
        | zero => cases h2
        | succ n => cases i <;> first | rfl | cases h2
    · rename_i x p0 m apos e cpos spos
      split at h
      · rename_i hc
        obtain ⟨rfl, hl⟩ := hc
        obtain ⟨x', h1, h⟩ := bsome h
        obtain ⟨e', h2, rfl⟩ := msome h
        obtain ⟨a1, a2, a3⟩ := trVar_spec h1
        obtain ⟨b1, b2, _⟩ := okName_spec a3
        have hst := trE_notStar h2
        exact st_app (by rw [G.good.N]; exact a1) a2 b1 b2 hst hl (by rw [starEach_cons hst]; rfl) (sE h2)
      · cases h
    · rename_i x p0 m apos i e cpos spos
      split at h
      · rename_i hc
        obtain ⟨rfl, hl⟩ := hc
        obtain ⟨x', h1, h⟩ := bsome h
        obtain ⟨i', h2, h⟩ := bsome h
        obtain ⟨e', h3, rfl⟩ := msome h
        obtain ⟨a1, a2, a3⟩ := trVar_spec h1
        obtain ⟨b1, b2, _⟩ := okName_spec a3
        have hst := trE_notStar h2
        have hst2 := trE_notStar h3
        exact st_ins (by rw [G.good.N]; exact a1) a2 b1 b2 hst hst2 hl (by rw [starEach_cons hst, starEach_cons hst2]; rfl) (sE h2) (sE h3)
      · cases h
    · rename_i e spos hne hne2
      split at h
      · cases h
      · rename_i hc
        obtain ⟨e', h1, rfl⟩ := msome h
        exact st_expr (noComp_sw (by simpa using hc)) (sE h1)
    · obtain ⟨e', h1, rfl⟩ := msome h
      exact st_ret (sE h1)
    · cases h; exact st_retN
    · obtain ⟨c', h1, h⟩ := bsome h
      obtain ⟨a', h2, h⟩ := bsome h
      obtain ⟨b', h3, rfl⟩ := msome h
      exact st_if (sE h1) (sS h2) (sS h3)
    · split at h
      · cases h
      rename_i hhot
      have hcold : T.hot = none := by simpa using hhot
      obtain ⟨g, h1, h⟩ := bsome h
      obtain ⟨it, h2, h⟩ := bsome h
      obtain ⟨b', h3, rfl⟩ := msome h
      obtain ⟨a1, a2⟩ := trIt_sound (trE_sound n) G.good G.tk h2
      exact st_for G.po (G.good.calm hcold) a2 a1 (fun pv => tg_of G.good hcold (fun x _ _ => .inl (G.fn x)) h1) (sS h3)
    · obtain ⟨c', h1, h⟩ := bsome h
      obtain ⟨b', h2, rfl⟩ := msome h
      exact st_while G.po (sE h1) (sS h2)
    · cases h; exact st_brk
    · cases h; exact st_cont
    · cases h; exact st_pass
    · rename_i c cp e es cpos spos
      split at h
      · rename_i hc
        obtain ⟨es', h1, rfl⟩ := msome h
        obtain ⟨kk, hr⟩ := G.rm hc.1
        have stars : ∀ a ∈ e :: es, notStar a = true := fun a ha => let ⟨_, z⟩ := trEs_all h1 a ha; trE_notStar z
        refine st_raise G.good.xi (G.good.calm hc.1) G.tk hr (fun z => ?_) (gl_of hc.2.1) stars (fun pv hot => snd_es _ stars (fun e he e' z => sE z pv hot) h1)
        have h3 := hc.2.2
        have : fldsT T c = C.flds c := by unfold fldsT CtxD.flds; rw [G.good.cl] <;> rfl
        rw [this, z] at h3
        cases h3
      · cases h; exact st_never
    · cases h; exact st_never
    · rename_i body c np y b₀ suite hpos spos
      split at h
      · rename_i hc
        obtain ⟨i, h1, h⟩ := bsome h
        obtain ⟨b', h2, h⟩ := bsome h
        obtain ⟨h', h3, rfl⟩ := msome h
        have hcm : c ∈ C.cls.map (·.1) := by
          have := hc.2.2.1
          rw [G.good.cl] at this
          simpa using this
        refine st_try G.good.xi G.stk G.frm G.good.nd G.tk (G.good.cold hc.1) (by rw [G.good.N]; exact findN_spec h1) hc.2.2.2 (gl_of hc.2.1) hcm (fun W' pn xe tk' po => ?_) fun a oe pn k fs hk hfs => ?_
        · have G' : GoodS T C clA (X.tr pn xe) W' := ⟨⟨G.good.N, G.good.nd, G.good.calm, G.good.cold, G.good.hot, G.good.u, G.good.blt, G.good.con, fun hh i x z => ⟨(G.good.fn hh i x z).ex⟩, G.good.xi, G.good.cl⟩, tk', po, G.fn, G.kind, G.stk, G.frm, G.rm⟩
          exact trSs_sound (fun s _ s' z => trS_sound n G' s s' z) h2
        · have G' : GoodS { T with hot := some y } { C with ex := some (i, k, fs) } clA (X.suite a ((a, oe) :: pn)) (fun _ _ _ _ => False) := ⟨⟨G.good.N, G.good.nd, (fun z => nomatch z), (fun z => nomatch z), (fun y' hy => by cases hy; exact ⟨i, k, fs, rfl, findN_spec h1, hk, hfs⟩), G.good.u, G.good.blt, G.good.con, (fun z => nomatch z), G.good.xi, G.good.cl⟩, takes0, PassesOwn.never, G.fn, G.kind, G.stk, G.frm, (fun z => nomatch z)⟩
          exact trSs_sound (fun s _ s' z => trS_sound n G' s s' z) h3
      · cases h
    · cases h
end
end VS

end

section
set_option linter.all false
set_option maxRecDepth 100000
set_option maxHeartbeats 4000000
namespace VS
open PySem L2
def maskOf (P : Prog) (g : Nat) : List Bool := match P.fns[g]? with
  | some r => r.mask
  | none => []
theorem callN_eq (P : Prog) (W n f : Nat) (args : List D) : callN P W (n + 1) f args = match P.fns[f]? with
    | some fr => runF ⟨callN P W n, maskOf P, W, P.cls, none⟩ fr args
    | none => .no := rfl
section
theorem retE_get : ∀ {m : List Bool} {ds : List D} {i : Nat}, (retE m ds)[i]? = (ds[i]?).map fun d => if m.getD i false = true then some d else none
  | _, [], i => by simp [retE]
  | m, d :: ds, 0 => by
    simp only [retE]
    cases m with
    | nil => simp
    | cons b m => cases b <;> simp
  | m, d :: ds, i + 1 => by
    simp only [retE, List.getElem?_cons_succ]
    rw [retE_get]
    cases m with
    | nil => simp
    | cons b m => simp
theorem parsOf_spec : ∀ {n : Nat} {m : List Bool} {env : EnvD} {ps : List D}, parsOf n m env = some ps → ps.length = n ∧ ∀ i, i < n → m.getD i false = true → env[i]? = some (ps[i]?)
  | 0, m, env, ps, h => by
    cases h
    exact ⟨rfl, fun i hi => by omega⟩
  | n + 1, m, env, ps, h => by
    simp only [parsOf] at h
    cases env with
    | nil => cases h
    | cons o r =>
      obtain ⟨ds, h1, h⟩ := bsome h
      obtain ⟨h2, h3⟩ := parsOf_spec h1
      split at h
      · rename_i hm
        obtain ⟨d, h4, rfl⟩ := msome h
        refine ⟨by simp [h2], fun i hi hmi => ?_⟩
        cases i with
        | zero => simp [h4]
        | succ i =>
          have := h3 i (by omega) (by cases m <;> simpa using hmi)
          simpa using this
      · rename_i hm
        cases h
        refine ⟨by simp [h2], fun i hi hmi => ?_⟩
        cases i with
        | zero => exact absurd (by cases m <;> simpa using hmi) hm
        | succ i =>
          have := h3 i (by omega) (by cases m <;> simpa using hmi)
          simpa using this
theorem mem_naOf {m : List Bool} {i : Nat} : i ∈ naOf m ↔ m.getD i false = true := by
  unfold naOf
  rw [List.mem_filter, List.mem_range]
  refine ⟨fun h => h.2, fun h => ⟨?_, h⟩⟩
  by_cases hi : i < m.length
  · exact hi
  · rw [List.getD_eq_getElem?_getD, List.getElem?_eq_none (by omega)] at h
    cases h
def pv0 (m : List Bool) (vs : List V) : Pv := ⟨(naOf m).filterMap fun i => (vs[i]?).map fun v => (i, v), []⟩
theorem pv0_in {m : List Bool} {vs : List V} {p : Nat × V} (h : p ∈ pv0 m vs) : p.1 ∈ naOf m ∧ vs[p.1]? = some p.2 := by
  unfold pv0 at h
  obtain ⟨i, hi, e⟩ := List.mem_filterMap.mp h
  obtain ⟨v, e1, rfl⟩ := msome e
  exact ⟨hi, e1⟩
theorem pv0_mem {m : List Bool} {vs : List V} {i : Nat} {v : V} (h : m.getD i false = true) (e : vs[i]? = some v) : (i, v) ∈ pv0 m vs := List.mem_filterMap.mpr ⟨i, mem_naOf.mpr h, by rw [e]; rfl⟩
variable {F F' : Addr → Prop} {H H' : Hp} {σ σ' : L2.St} {env env' : EnvD} {φ φ' : Nat → List Addr}
theorem get_app {α : Type} {l : List (Option α)} {m i : Nat} {d : α} : (l ++ List.replicate m none)[i]? = some (some d) → l[i]? = some (some d) := fun h => by
  by_cases hi : i < l.length
  · rwa [List.getElem?_append_left hi] at h
  · rw [List.getElem?_append_right (by omega), List.getElem?_replicate] at h
    split at h <;> cases h
theorem Sta.ext (s : Sta F σ H env φ Pv.e) {m : Nat} {pv : Pv} (hp : ∀ p ∈ pv, σ[p.1]? = some (some p.2)) (hh : pv.hx = [] := by rfl) : Sta F (σ ++ List.replicate m none) H (env ++ List.replicate m none) φ pv where
  len := by simp [s.len]
  rep := fun i d e => by
    obtain ⟨v, e1, r⟩ := s.rep i d (get_app e)
    exact ⟨v, by rw [List.getElem?_append_left (get_lt e1)]; exact e1, r⟩
  emp := fun i h => s.emp i fun d e => h d (by rw [List.getElem?_append_left (get_lt e)]; exact e)
  nd := s.nd
  dj := s.dj
  nf := s.nf
  fh := s.fh
  pv := fun p h => by rw [List.getElem?_append_left (get_lt (hp p h))]; exact hp p h
  hx := by rw [hh]; exact fun _ h => nomatch h
/-- what is left of the parameters -/
def keepφ (m : List Bool) (np : Nat) (φ : Nat → List Addr) : Nat → List Addr := fun i => if i < np ∧ m.getD i false = true then φ i else []
theorem Own_keep {m : List Bool} {np : Nat} {a : Addr} (h : Own (keepφ m np φ) a) : Own φ a := by
  obtain ⟨i, h⟩ := h
  unfold keepφ at h
  split at h
  · exact ⟨i, h⟩
  · cases h
theorem Sta.back {m : List Bool} {vs : List V} {ps : List D} {np : Nat} (s : Sta F' σ' H' env' φ' (pv0 m vs)) (hv : vs.length = np) (h : parsOf np m env' = some ps) : Sta F' (vs.map some) H' (retE m ps) (keepφ m np φ') Pv.e := by
  obtain ⟨h1, h2⟩ := parsOf_spec h
  have key : ∀ i d, (retE m ps)[i]? = some (some d) → i < np ∧ m.getD i false = true ∧ env'[i]? = some (some d) := fun i d e => by
    rw [retE_get] at e
    cases hp : ps[i]? with
    | none => rw [hp] at e; cases e
    | some d' =>
      rw [hp] at e
      simp only [Option.map_some, Option.some.injEq] at e
      split at e
      · rename_i hm
        cases e
        have hi : i < np := by rw [← h1]; exact get_lt hp
        exact ⟨hi, hm, by rw [h2 i hi hm, hp]⟩
      · cases e
  have k1 : ∀ {i}, ¬ (i < np ∧ m.getD i false = true) → keepφ m np φ' i = [] := fun h => if_neg h
  have k2 : ∀ {i}, (i < np ∧ m.getD i false = true) → keepφ m np φ' i = φ' i := fun h => if_pos h
  have k3 : ∀ {i a}, a ∈ keepφ m np φ' i → a ∈ φ' i := fun {i a} h => by
    by_cases hc : i < np ∧ m.getD i false = true
    · rw [k2 hc] at h; exact h
    · rw [k1 hc] at h; cases h
  refine ⟨by rw [retE_len, h1, List.length_map, hv], fun i d e => ?_, fun i hi => ?_, fun i => ?_, fun i j a hij ha hb => s.dj i j a hij (k3 ha) (k3 hb), fun i a ha => s.nf i a (k3 ha), s.fh, (fun _ h => (Pv.mem_e h).elim), fun _ h => nomatch h⟩
  · obtain ⟨g1, g2, g3⟩ := key i d e
    obtain ⟨v, e1, r⟩ := s.rep i d g3
    have hvi : vs[i]? = some (vs[i]'(by omega)) := List.getElem?_eq_getElem (by omega)
    have := s.pv _ (pv0_mem g2 hvi)
    rw [e1] at this
    cases this
    exact ⟨_, by rw [List.getElem?_map, hvi]; rfl, by rw [k2 ⟨g1, g2⟩]; exact r⟩
  · by_cases hc : i < np ∧ m.getD i false = true
    · rw [k2 hc]
      refine s.emp i fun d e => ?_
      rw [h2 i hc.1 hc.2] at e
      have e : ps[i]? = some d := by simpa using e
      exact hi d (by rw [retE_get, e]; simp only [Option.map_some]; rw [if_pos hc.2])
    · exact k1 hc
  · by_cases hc : i < np ∧ m.getD i false = true
    · rw [k2 hc]; exact s.nd i
    · rw [k1 hc]; exact List.nodup_nil
end
/-! ## defs -/
structure DefI (K : PySem.W.Frag) (mg : Str → Option Value) (fns : List Str) (consts : List (Str × D)) (P : Prog) (i : Nat) (x : Str) (f : Addr) (fd : FuncData) (ps N : List Str) : Prop where
  mg : mg x = some (.ref f)
  keep : PySem.W.keepIn K (.ref f) = true
  bind : Binds K fd ps []
  body : ∃ (name qual : Str) (params : Arguments) (body : List Stmt) (scope : Scope) (dV kV doc pm cdv ct oc : Value) (an od : Option Addr) (osl : Array (Option Value)) (fr : FnR) (fuel : Nat),
    fd = PySem.W.fnOf name qual params body scope dV kV doc pm an cdv ct ∧ K.lookup f = some ⟨oc, od, .func (PySem.W.fnOf name qual params body scope dV kV doc pm an cdv ct), osl⟩ ∧ PySem.W.codeIn K cdv qual = true ∧ FnScope N ps scope ∧
    P.fns[i]? = some fr ∧ fr.np = ps.length ∧ fr.ns = N.length ∧ trSs (trS scope fuel ⟨N, fns, consts, P.cls, none⟩) body = some fr.body
structure LawI (Pr : Program) (K : PySem.W.Frag) (mg : Str → Option Value) (clA : Str → Addr) (fns : List Str) (consts : List (Str × D)) (P : Prog) : Prop where
  defs : ∀ i x, fns[i]? = some x → ∃ f fd ps N, DefI K mg fns consts P i x f fd ps N
  blt : ∀ x ∈ bltNames, mg x = none
  con : ∀ x d e, consts.lookup x = some d → constE d = some e → ∃ v u, mg x = some u ∧ RelV v u ∧ ((∃ i, e = .int i ∧ v = .int i) ∨ ∃ s, e = .str s ∧ v = .str s)
  xi : XInfo Pr K mg clA P.cls
section
variable {Pr : Program} {w : World} {K : PySem.W.Frag} {mg : Str → Option Value} {base : Heap} {fns : List Str} {consts : List (Str × D)} {P : Prog} {W : Nat} {clA : Str → Addr}
theorem CSp_len {m : List Bool} {call : List D → CRes} {np : Nat} (h : ∀ ds, ds.length ≠ np → call ds = .no) : ∀ vs H Q E, CSp clA m call vs H Q E → vs.length = np := fun vs H Q E ⟨F, ds, ψ, s, q⟩ => by
  have hl : vs.length = ds.length := by simpa using s.len
  rw [hl]
  by_cases hn : ds.length = np
  · exact hn
  · rw [h ds hn] at q
    exact q.elim
theorem fn_all (L : LawI Pr K mg clA fns consts P) : ∀ n i x f fd ps N, DefI K mg fns consts P i x f fd ps N → FnOk Pr w K mg base (L2.CX Pr w) n f fd ps (CSp clA (maskOf P i) (callN P W n i))
  | 0, i, x, f, fd, ps, N, d => ⟨fun vs H Q E ⟨F, ds, ψ, s, q⟩ => q.elim, fun A outer s H args us vs Q E _ _ _ _ ⟨F, ds, ψ, s, q⟩ => q.elim⟩
  | n + 1, i, x, f, fd, ps, N, dI => by
    obtain ⟨name, qual, params, body, scope, dV, kV, doc, pm, cdv, ct, oc, an, od, osl, fr, fuel, rfl, lk, hcd, S, hP, hnp, hns, htr⟩ := dI.body
    have ih := fn_all L n
    have hcall : ∀ ds, callN P W (n + 1) i ds = runF ⟨callN P W n, maskOf P, W, P.cls, none⟩ fr ds := fun ds => by rw [callN_eq, hP]
    have hmask : maskOf P i = fr.mask := by unfold maskOf; rw [hP]
    have hpN : ps.length ≤ N.length := by have := congrArg List.length S.pre; rw [List.length_take] at this; omega
    refine fn_of (N := N) lk hcd S (CSp_len fun ds hne => ?_) fun A outer s H vs Q E hR hsp => ?_
    · rw [hcall]
      unfold runF
      rw [if_neg fun z => hne (z.1.trans hnp)]
    · obtain ⟨X, hX⟩ : ∃ X, X = cxOf (L2.CX Pr w) Pr w K mg base N qual scope f cdv A outer s H E := ⟨_, rfl⟩
      obtain ⟨C, hC⟩ : ∃ C, C = CtxD.mk (callN P W n) (maskOf P) W P.cls none := ⟨_, rfl⟩
      have good : Good ⟨N, fns, consts, P.cls, none⟩ C clA X := by
        subst hX hC
        exact ⟨rfl, S.nd, (fun _ => rfl), (fun _ => rfl), (fun y z => nomatch z), (show (A.deeper (PyProof.Rows.envOfC qual scope s.heap.objs.size f cdv)).units + 72 < cLine by have := hR.un; omega), L.blt, L.con, (fun _ j y hy => by
          obtain ⟨f', fd', ps', N', d'⟩ := L.defs j y hy
          exact ⟨n, f', fd', ps', ih j y f' fd' ps' N' d', hR, d'.mg, d'.keep, d'.bind⟩), L.xi, rfl⟩
      have gs : GoodS ⟨N, fns, consts, P.cls, none⟩ C clA X (fun cls d _ H => E cls d H) := by
        subst hX
        exact ⟨good, takes_of rfl rfl rfl rfl, passes_of rfl, fun _ => rfl, S.kind, rfl, rfl, fun _ => ⟨n, hR⟩⟩
      have hb := trSs_sound (C := C) (clA := clA) (X := X) (W := fun cls d _ H => E cls d H) (fun s _ s' z => trS_sound fuel gs s s' (by rw [hX]; exact z)) htr
      rw [← hX]
      refine ⟨_, hb.run (pv0 fr.mask vs) (naOf fr.mask) (fun p hp => (pv0_in hp).1) (HotP.cold (by rw [hC])), ?_⟩
      obtain ⟨F, ds, ψ, sσ, q⟩ := hsp
      rw [hcall, hmask, ← hC] at q
      have hl : vs.length = ds.length := by simpa using sσ.len
      by_cases hc : ds.length = fr.np ∧ fr.np ≤ fr.ns
      · have e1 : L2.start N vs = vs.map some ++ List.replicate (fr.ns - fr.np) none := by unfold L2.start; rw [hns, hl, hc.1]
        have hp : ∀ p ∈ pv0 fr.mask vs, (vs.map some)[p.1]? = some (some p.2) := fun p hp => by rw [List.getElem?_map, (pv0_in hp).2]; rfl
        refine ⟨F, ds.map some ++ List.replicate (fr.ns - fr.np) none, ψ, by rw [e1]; exact sσ.ext hp, ?_⟩
        have hrun : runF C fr ds = (match exs C (naOf fr.mask) fr.body (ds.map some ++ List.replicate (fr.ns - fr.np) none) with
          | .rt d env => match parsOf fr.np fr.mask env with
            | some ps => .ok d ps
            | none => .no
          | .nx env => match parsOf fr.np fr.mask env with
            | some ps => .ok .non ps
            | none => .no
          | .exc c fs env => match parsOf fr.np fr.mask env with
            | some ps => .exc c fs ps
            | none => .no
          | _ => .no) := by
          unfold runF
          rw [if_pos hc] <;> rfl
        rw [hrun] at q
        have hvn : vs.length = fr.np := by rw [hl]; exact hc.1
        cases hr : exs C (naOf fr.mask) fr.body (ds.map some ++ List.replicate (fr.ns - fr.np) none) with
        | rt d env =>
          rw [hr] at q
          simp only at q
          cases hps : parsOf fr.np fr.mask env with
          | none => rw [hps] at q; exact q.elim
          | some rs =>
            rw [hps] at q
            intro σ' F' H' φ' v fd hl' s' r nd ap st
            refine q F' H' (keepφ fr.mask fr.np φ') v fd ⟨s'.back hvn hps, r, nd, fun a ha => ⟨(ap a ha).1, fun z => (ap a ha).2 (Own_keep z)⟩, st.mono (fun _ h => h) fun a h => .inl (h.imp Own_keep id)⟩
        | nx env =>
          rw [hr] at q
          simp only at q
          cases hps : parsOf fr.np fr.mask env with
          | none => rw [hps] at q; exact q.elim
          | some rs =>
            rw [hps] at q
            intro σ' F' H' φ' hl' s' st
            refine q F' H' (keepφ fr.mask fr.np φ') .non [] ⟨s'.back hvn hps, ⟨rfl, rfl⟩, List.nodup_nil, fun _ h => (nomatch h), st.mono (fun _ h => h) fun a h => .inl (h.elim Own_keep fun z => (nomatch z))⟩
        | exc c fs env =>
          rw [hr] at q
          simp only at q
          cases hps : parsOf fr.np fr.mask env with
          | none => rw [hps] at q; exact q.elim
          | some rs =>
            rw [hps] at q
            intro σ' dd F' H' φ' gs hl' s' hd e2 r st
            exact q dd F' H' (keepφ fr.mask fr.np φ') gs (s'.back hvn hps) hd e2 r (st.mono (fun _ h => h) fun a h => .inl (Own_keep h))
        | bk env => rw [hr] at q; exact q.elim
        | ct env => rw [hr] at q; exact q.elim
        | no => rw [hr] at q; exact q.elim
      · have : runF C fr ds = .no := by unfold runF; rw [if_neg hc]
        rw [this] at q
        exact q.elim
end
end VS

end

section
set_option linter.all false
set_option maxRecDepth 100000
set_option maxHeartbeats 1000000
namespace VS
open PySem PySem.Spec PyProof.Rows PySem.W L2
/-! ## a hook that tells of the exception classes too -/
def isLstO (o : Obj) : Bool := match o.cls with
  | .type c => c == "list"
  | _ => false
def nlK (K : Frag) : Frag := K.filter fun p => !isLstO p.2
theorem lookup_memA {α : Type} : ∀ {l : List (Addr × α)} {k : Addr} {a : α}, l.lookup k = some a → (k, a) ∈ l
  | [], _, _, h => by cases h
  | (x, b) :: l, k, a, h => by
    rw [List.lookup_cons] at h
    cases c : k == x with
    | true =>
      rw [c] at h
      have : k = x := by simpa using c
      subst this
      cases h
      simp
    | false =>
      rw [c] at h
      exact List.mem_cons_of_mem _ (lookup_memA h)
theorem nlK_at : ∀ {K : Frag} {a : Addr} {o : Obj}, (nlK K).lookup a = some o → isLstO o = false := fun {K a o} h => by
  have : (a, o) ∈ nlK K := lookup_memA h
  have := (List.mem_filter.mp this).2
  simpa using this
def asX (g : Addr → Option Obj) : Nat → List Addr
  | 0 => [mainGlobals, cStatics]
  | n + 1 => He.growD g (asX g n)
def frX (g : Addr → Option Obj) (n : Nat) : Frag := nlK (He.frG g (asX g n))
theorem frG_same {g : Addr → Option Obj} : ∀ (as : List Addr) {p : Addr × Obj}, p ∈ He.frG g as → g p.1 = some p.2
  | [], _, h => by cases h
  | b :: r, p, h => by
    unfold He.frG at h
    obtain ⟨c, _, hc⟩ := List.mem_filterMap.mp h
    cases e : g c with
    | none => rw [e] at hc; cases hc
    | some o => rw [e] at hc; cases hc; exact e
theorem frX_in {h : Heap} {n : Nat} : (frX h.get? n).In h := fun a o e => by
  have : (a, o) ∈ frX h.get? n := lookup_memA e
  exact frG_same _ (List.mem_filter.mp this).1
/-- an exception class: name, the classes above and itself, fields, its self, its __init__ -/
structure XcC where
  x : Str
  sup : List Str
  fs : List Str
  slf : Str
  init : Stmt
abbrev XcC.row (c : XcC) : Str × List Str × List Str := (c.x, c.sup, c.fs)
def clsInit (s : Stmt) : Stmt := match s with
  | .ClassDef _ _ _ b _ _ _ _ _ _ _ => (b.find? fun t => match t with | .FunctionDef .. => true | _ => false).getD s
  | _ => s
abbrev XW : Type := Option (Arguments × FuncBody × Scope × Addr × List Str × Addr × Value)
def XcC.fI (K : Frag) (c : XcC) : Addr := He.ma K (He.ga K c.x) "__init__"
def XcC.xw (K : Frag) (c : XcC) : XW := if c.fs.isEmpty then none else match K.lookup (c.fI K) with
  | some ⟨_, _, .func fd, _⟩ => some (fd.params, fd.body, fd.scope, fd.globals, fd.closure.map (·.1), fd.builtins, fd.defaults)
  | _ => none
def XcC.xv (c : XcC) : XW := if c.fs.isEmpty then none else some (defArgs c.init, .stmts (defBody c.init), defScope c.init, mainGlobals, [("__class__" : Str)], builtinsNs, .none)
def oexB (K : Frag) (C : Addr) : Bool := (match K.lookup C with
  | some ⟨.type t, _, .cls cd, ⟨[_, _, _, _, some (.builtin n), _]⟩⟩ => (match cd.mro with
    | .ref C' :: bm => t == "type" && (C' == C && (n == "ValueError.__new__" && (!cd.hasDel && (cd.hasDict && PySem.HandSPX.refsVE bm))))
    | _ => false)
  | _ => false) && (decide (findIn K (.ref C) "__setattr__" = some (some (.builtin "object.__setattr__"))) && (decide (subIn K (.ref C) (.type "BaseException") = some true) && (decide (typeIn K (.ref C) = some (.type "type")) && keepIn K (.ref C))))
theorem ba2 {a b : Bool} (h : (a && b) = true) : a = true ∧ b = true := Bool.and_eq_true_iff.mp h
theorem oexB_ok {K : Frag} {C : Addr} (h : oexB K C = true) : OexC K C := by
  unfold oexB at h
  obtain ⟨h1, h⟩ := ba2 h
  obtain ⟨h2, h⟩ := ba2 h
  obtain ⟨h3, h⟩ := ba2 h
  obtain ⟨h4, h5⟩ := ba2 h
  refine ⟨?_, of_decide_eq_true h2, of_decide_eq_true h3, of_decide_eq_true h4, h5⟩
  split at h1
  · rename_i t d cd k0 k1 k2 k3 n k5 hl
    split at h1
    · rename_i C' bm hm
      obtain ⟨g1, h1⟩ := ba2 h1
      obtain ⟨g2, h1⟩ := ba2 h1
      obtain ⟨g3, h1⟩ := ba2 h1
      obtain ⟨g4, h1⟩ := ba2 h1
      obtain ⟨g5, g6⟩ := ba2 h1
      obtain ⟨nm, bs, mro, ns, qn, hd, sn, sb, ab, col, del⟩ := cd
      simp only at hm g4 g5
      have e1 : t = "type" := by simpa using g1
      have e2 : C' = C := by simpa using g2
      have e3 : n = "ValueError.__new__" := by simpa using g3
      have e4 : del = false := by simpa using g4
      subst e1 e2 e3 e4 hm g5
      exact ⟨nm, qn, ns, bs, bm, sn, sb, ab, col, d, k0, k1, k2, k3, k5, hl, g6⟩
    · cases h1
  · cases h1
def ecB (K : Frag) (D : Addr) : Bool := decide (findIn K (.ref D) "__getattribute__" = some (some (.builtin "BaseException.__getattribute__"))) && (decide (findIn K (.ref D) "__getattr__" = some none) && (decide (subIn K (.ref D) (.type "BaseException") = some true) && (hasDictIn K D && (decide (findIn K (.ref D) "__class__" = some (some (.builtin "object.__class__"))) && (decide (specialIn K (.builtin "object.__class__") "__get__" = some (some (.builtin "getset_descriptor.__get__"))) && (decide (takesIn K (.builtin "object.__class__") = some true) && decide (mroIn K D (.type "object") = some true)))))))
theorem ecB_ok {K : Frag} {D : Addr} (h : ecB K D = true) : ExcC K D := by
  unfold ecB at h
  obtain ⟨h1, h⟩ := ba2 h
  obtain ⟨h2, h⟩ := ba2 h
  obtain ⟨h3, h⟩ := ba2 h
  obtain ⟨h4, h⟩ := ba2 h
  obtain ⟨h5, h⟩ := ba2 h
  obtain ⟨h6, h⟩ := ba2 h
  obtain ⟨h7, h8⟩ := ba2 h
  exact ⟨of_decide_eq_true h1, of_decide_eq_true h2, of_decide_eq_true h3, h4, of_decide_eq_true h5, of_decide_eq_true h6, of_decide_eq_true h7, of_decide_eq_true h8⟩
/-- what the heap must say of the class's __init__ -/
def supB (file : Str) (K : Frag) (c : XcC) : Bool := (match K.lookup (c.fI K) with
  | some ⟨_, _, .func fd, _⟩ => codeIn K fd.code fd.qualname && ((match fd.closure with
      | [(_, cc)] => (match K.lookup cc with
        | some ⟨_, _, .cell (some (.ref C')), _⟩ => C' == He.ga K c.x
        | _ => false)
      | _ => false) && (match fd.code with
      | .ref cda => (match K.lookup cda with
        | some ⟨_, _, .fields vs, _⟩ => (match (vs[2]? : Option Value) with
          | some (.str f _) => file == f
          | _ => false)
        | _ => false)
      | _ => false))
  | _ => false) && (decide (findIn K (.ref (He.ga K c.x)) "__init__" = some (some (.ref (c.fI K)))) && (decide (typeIn K (.ref (c.fI K)) = some (.type "function")) && (decide (ks_superIn K (He.ga K c.x) (He.ga K c.x) "__init__" = some (some (.builtin "ValueError.__init__"))) &&
    (decide (subIn K (.ref (He.ga K c.x)) (.type "ValueError") = some true) && (decide (mroIn K (He.ga K c.x) (.ref (He.ga K c.x)) = some true) && (decide (nsIn K mainGlobals "super" = some none) && decide (nsIn K cStatics "thirdparty.any" = some none)))))))
/-- what the text must say of it -/
structure OkX (c : XcC) : Prop where
  ne : c.x ≠ "ValueError"
  db : (c.x == ("__debug__" : Str)) = false
  ini : c.fs ≠ [] → c.fs.length ≤ 800 ∧ (∃ ar, ((defArgs c.init).posonlyargs ++ (defArgs c.init).args).head? = some ar ∧ ar.arg = c.slf) ∧
    (∀ fd : FuncData, fd.params = defArgs c.init → fd.defaults = .none → ∀ us : List Value, us.length = c.fs.length + 1 → bindArgs fd ⟨us, []⟩ = pure ((c.slf :: c.fs).zip us)) ∧
    (defScope c.init).kind = .function ∧ (defScope c.init).isCoroutine = false ∧ (defScope c.init).isGenerator = false ∧ (defScope c.init).names.lookup ("super" : Str) = some .globalImplicit ∧ (defScope c.init).names.lookup ("__class__" : Str) = some .free ∧
    (∀ x ∈ c.slf :: c.fs, (defScope c.init).names.lookup x = some .local) ∧ (∀ x ∈ (defScope c.init).names, x.2 ≠ .cell) ∧ (c.slf :: c.fs).Nodup ∧ (∀ x ∈ c.slf :: c.fs, (x == ("__debug__" : Str)) = false) ∧
    (∃ p0 p1 p2 p3 p4 p5 m j rest, defBody c.init = .Expr (.Call (.Attribute (.Call (.Name "super" p0) [] [] p1) "__init__" p2) [.Constant (.str m) j p3] [] p4) p5 :: rest ∧ (p2.endLine == p4.line) = true ∧ StoL c.slf rest c.fs)
theorem supC_of {P : Program} {K : Frag} {c : XcC} {file : Str} (hfile : P.main.file = file) (hmain : (P.main.scope.names.lookup ("super" : Str)).isSome = false) (O : OkX c) (hne : c.fs ≠ []) (hx : oexB K (He.ga K c.x) = true) (hs : supB file K c = true) (hf : ∀ f ∈ c.fs, findIn K (.ref (He.ga K c.x)) f = some none) (hw : c.xw K = c.xv) :
    ∃ fI cc fd slf, SupC P K (He.ga K c.x) fI cc fd slf c.fs := by
  obtain ⟨_, o1, o2, o3, o4, o5, o6, o7, o8, o9, o10, o11, o12⟩ := O.ini hne
  have hemp : c.fs.isEmpty = false := by cases h : c.fs with | nil => exact absurd h hne | cons _ _ => rfl
  unfold supB at hs
  obtain ⟨h1, hs⟩ := ba2 hs
  obtain ⟨h2, hs⟩ := ba2 hs
  obtain ⟨h3, hs⟩ := ba2 hs
  obtain ⟨h4, hs⟩ := ba2 hs
  obtain ⟨h5, hs⟩ := ba2 hs
  obtain ⟨h6, hs⟩ := ba2 hs
  obtain ⟨h7, h8⟩ := ba2 hs
  unfold XcC.xw XcC.xv at hw
  rw [hemp] at hw
  simp only [Bool.false_eq_true, if_false] at hw
  split at h1
  · rename_i oc od fd osl lk
    rw [lk] at hw
    simp only [Option.some.injEq, Prod.mk.injEq] at hw
    obtain ⟨w1, w2, w3, w4, w5, w6, w7⟩ := hw
    obtain ⟨g1, h1⟩ := ba2 h1
    obtain ⟨g2, g3⟩ := ba2 h1
    split at g2
    · rename_i nm cc hclo
      split at g2
      · rename_i cl cld C' csl lkc
        have e1 : C' = He.ga K c.x := by simpa using g2
        subst e1
        split at g3
        · rename_i cda hcode
          split at g3
          · rename_i fo fdd vs sl lkd
            split at g3
            · rename_i f tf hv
              rw [hclo] at w5
              have e5 : nm = ("__class__" : Str) := by simpa using w5
              subst e5
              obtain ⟨p0, p1, p2, p3, p4, p5, m, j, rest, b1, b2, b3⟩ := o12
              exact ⟨c.fI K, cc, fd, c.slf, oexB_ok hx, of_decide_eq_true h2, of_decide_eq_true h3, ⟨oc, od, osl, lk⟩, g1, w4, w6, hclo, ⟨cl, cld, csl, lkc⟩, ⟨cda, fo, fdd, vs, sl, f, tf, hcode, lkd, hv, by rw [hfile]; exact g3⟩, by rw [w1]; exact o1, o2 fd w1 w7, by rw [w3]; exact o3, by rw [w3]; exact o4, by rw [w3]; exact o5, by rw [w3]; exact o6, by rw [w3]; exact o7, by rw [w3]; exact o8, by rw [w3]; exact o9, o10, o11, ⟨p0, p1, p2, p3, p4, p5, m, j, rest, by rw [w2, b1], b2, b3⟩, of_decide_eq_true h4, of_decide_eq_true h5, of_decide_eq_true h6, hf, of_decide_eq_true h7, of_decide_eq_true h8, hmain⟩
            · cases g3
          · cases g3
        · cases g3
      · cases g2
    · cases g2
  · cases h1
/-- all facts about the classes -/
def xcB (file : Str) (K : Frag) (xs : List XcC) (c : XcC) : Bool := (He.Fa.glo c.x).ok K && (xfB K (He.ga K c.x) && (ecB K (He.ga K c.x) && ((xs.all fun t => decide (kitOne K (.ref (He.ga K c.x)) (.ref (He.ga K t.x)) = some (c.sup.contains t.x)) && decide (exmOne K (.ref (He.ga K c.x)) (.ref (He.ga K t.x)) = some (c.sup.contains t.x))) &&
  (decide (kitOne K (.ref (He.ga K c.x)) (.type "ValueError") = some (c.sup.contains ("ValueError" : Str))) && ((c.fs.all fun f => decide (findIn K (.ref (He.ga K c.x)) f = some none)) && (c.fs.isEmpty || (oexB K (He.ga K c.x) && supB file K c)))))))
def xsB (file : Str) (K : Frag) (xs : List XcC) : Bool := (xs.isEmpty || (He.Fa.free ("ValueError" : Str)).ok K) && xs.all (xcB file K xs)
abbrev AlX : Type := He.AlD × Bool × List XW
def obsX (fa : List He.Fa) (fn : List He.DefD) (file : Str) (xs : List XcC) (K : Frag) : AlX := (He.obsD fa fn K, xsB file K xs, xs.map (XcC.xw K))
def valX (fn : List He.DefD) (xs : List XcC) : AlX := (He.valD fn, true, xs.map XcC.xv)
def obsXG (n : Nat) (fa : List He.Fa) (fn : List He.DefD) (file : Str) (xs : List XcC) (g : Addr → Option Obj) : AlX := obsX fa fn file xs (frX g n)
def hookX (n : Nat) (fa : List He.Fa) (fn : List He.DefD) (file : Str) (xs : List XcC) : PySem.W.Hook where
  α := AlX
  obs := fun s => obsXG n fa fn file xs s.heap.get?
  val := fun _ => valX fn xs
  says := fun _ h => ∃ K : Frag, K.In h ∧ (∀ a o, K.lookup a = some o → isLstO o = false) ∧ obsX fa fn file xs K = valX fn xs
  of := fun _ _ e => ⟨_, frX_in, fun _ _ h => nlK_at h, e⟩
  keeps := fun _ _ _ ⟨K, hK, hn, c⟩ k => ⟨K, PySem.W.Frag.In.keeps hK k, hn, c⟩
theorem obsXG_eq {n : Nat} {fa : List He.Fa} {fn : List He.DefD} {file : Str} {xs : List XcC} {g : Addr → Option Obj} {s : Shared} (h : ∀ a, g a = s.heap.get? a) : obsXG n fa fn file xs g = (hookX n fa fn file xs).obs s := by
  have e : g = s.heap.get? := funext h
  rw [e] <;> rfl
def AllX (P : XcC → Prop) : List XcC → Prop
  | [] => True
  | c :: cs => P c ∧ AllX P cs
theorem AllX.get {P : XcC → Prop} : ∀ {cs : List XcC} {c : XcC}, AllX P cs → c ∈ cs → P c
  | d :: cs, c, h, hm => by
    rcases List.mem_cons.mp hm with rfl | hm
    · exact h.1
    · exact AllX.get h.2 hm
theorem xInfo_of {P : Program} {K : Frag} {h : Heap} {mg : Str → Option Value} {file : Str} {xs : List XcC} (X : K.In h) (G : h.Ns mainGlobals mg) (hfile : P.main.file = file) (hmain : (P.main.scope.names.lookup ("super" : Str)).isSome = false) (O : AllX OkX xs) (hb : xsB file K xs = true) (hw : xs.map (XcC.xw K) = xs.map XcC.xv) :
    XInfo P K mg (He.ga K) (xs.map XcC.row) := by
  obtain ⟨hv, ha⟩ := ba2 hb
  have nm : ∀ {t : Str}, t ∈ (xs.map XcC.row).map (·.1) → ∃ c ∈ xs, c.x = t := fun {t} h => by
    obtain ⟨p, hp, rfl⟩ := List.mem_map.mp h
    obtain ⟨c, hc, rfl⟩ := List.mem_map.mp hp
    exact ⟨c, hc, rfl⟩
  have row : ∀ {p : Str × List Str × List Str}, p ∈ xs.map XcC.row → ∃ c ∈ xs, c.row = p := fun {p} h => List.mem_map.mp h
  have all : ∀ c ∈ xs, xcB file K xs c = true := fun c hc => List.all_eq_true.mp ha c hc
  have sb : ∀ c ∈ xs, ∀ t ∈ xs, kitOne K (.ref (He.ga K c.x)) (.ref (He.ga K t.x)) = some (c.sup.contains t.x) ∧ exmOne K (.ref (He.ga K c.x)) (.ref (He.ga K t.x)) = some (c.sup.contains t.x) := fun c hc t ht => by
    obtain ⟨_, h1⟩ := ba2 (all c hc)
    obtain ⟨_, h1⟩ := ba2 h1
    obtain ⟨_, h1⟩ := ba2 h1
    obtain ⟨h1, _⟩ := ba2 h1
    obtain ⟨a, b⟩ := ba2 (List.all_eq_true.mp h1 t ht)
    exact ⟨of_decide_eq_true a, of_decide_eq_true b⟩
  refine ⟨fun k hk => ?_, fun hne => ?_, fun k hk => ?_, fun k hk => ?_, fun p hp t ht => ?_, fun p hp t ht => ?_, fun p hp f hf => ?_, fun p hp hne => ?_⟩
  · obtain ⟨c, hc, rfl⟩ := nm hk
    obtain ⟨h1, _⟩ := ba2 (all c hc)
    exact ⟨He.glo_ok X G h1, (O.get hc).ne, (O.get hc).db⟩
  · rw [Bool.or_eq_true] at hv
    rcases hv with hv | hv
    · cases xs with
      | nil => exact absurd rfl hne
      | cons _ _ => cases hv
    · exact He.free_ok X G hv
  · obtain ⟨c, hc, rfl⟩ := nm hk
    obtain ⟨_, h1⟩ := ba2 (all c hc)
    exact xfB_ok (ba2 h1).1
  · obtain ⟨c, hc, rfl⟩ := nm hk
    obtain ⟨_, h1⟩ := ba2 (all c hc)
    obtain ⟨_, h1⟩ := ba2 h1
    exact ecB_ok (ba2 h1).1
  · obtain ⟨c, hc, rfl⟩ := row hp
    by_cases ct : t = "ValueError"
    · subst ct
      obtain ⟨_, h1⟩ := ba2 (all c hc)
      obtain ⟨_, h1⟩ := ba2 h1
      obtain ⟨_, h1⟩ := ba2 h1
      obtain ⟨_, h1⟩ := ba2 h1
      obtain ⟨h1, _⟩ := ba2 h1
      exact of_decide_eq_true h1
    · rcases ht with ht | ht
      · obtain ⟨d, hd, rfl⟩ := nm ht
        have : clsU (He.ga K) d.x = .ref (He.ga K d.x) := if_neg ct
        rw [this]
        exact (sb c hc d hd).1
      · exact absurd ht ct
  · obtain ⟨c, hc, rfl⟩ := row hp
    obtain ⟨d, hd, rfl⟩ := nm ht
    exact (sb c hc d hd).2
  · obtain ⟨c, hc, rfl⟩ := row hp
    obtain ⟨_, h1⟩ := ba2 (all c hc)
    obtain ⟨_, h1⟩ := ba2 h1
    obtain ⟨_, h1⟩ := ba2 h1
    obtain ⟨_, h1⟩ := ba2 h1
    obtain ⟨_, h1⟩ := ba2 h1
    obtain ⟨h1, _⟩ := ba2 h1
    exact of_decide_eq_true (List.all_eq_true.mp h1 f hf)
  · obtain ⟨c, hc, rfl⟩ := row hp
    have hne : c.fs ≠ [] := hne
    obtain ⟨_, h1⟩ := ba2 (all c hc)
    obtain ⟨_, h1⟩ := ba2 h1
    obtain ⟨_, h1⟩ := ba2 h1
    obtain ⟨_, h1⟩ := ba2 h1
    obtain ⟨_, h1⟩ := ba2 h1
    obtain ⟨h0, h1⟩ := ba2 h1
    rw [Bool.or_eq_true] at h1
    rcases h1 with h1 | h1
    · cases h : c.fs with
      | nil => exact absurd h hne
      | cons _ _ => rw [h] at h1; cases h1
    · obtain ⟨g1, g2⟩ := ba2 h1
      refine ⟨((O.get hc).ini hne).1, supC_of hfile hmain (O.get hc) hne g1 g2 (fun f hf => of_decide_eq_true (List.all_eq_true.mp h0 f hf)) ?_⟩
      have : ∀ {l : List XcC}, l.map (XcC.xw K) = l.map XcC.xv → ∀ c ∈ l, c.xw K = c.xv := fun {l} => by
        induction l with
        | nil => intro _ c h; cases h
        | cons d l ih =>
          intro h c hc
          simp only [List.map_cons, List.cons.injEq] at h
          rcases List.mem_cons.mp hc with rfl | hc
          · exact h.1
          · exact ih h.2 c hc
      exact this hw c hc
end VS

end

section
set_option linter.all false
set_option maxRecDepth 100000
set_option maxHeartbeats 4000000
namespace VS
open PySem L2
/-! ## the law's end -/
structure DefC where
  x : Str
  st : Stmt
  ps : List Str
  N : List Str
  fr : FnR
def DefC.d (c : DefC) : He.DefD := ⟨(c.x, none), c.x, c.x, defArgs c.st, defBody c.st, defScope c.st, [], []⟩
structure OkC (fns : List Str) (consts : List (Str × D)) (cls : List (Str × List Str × List Str)) (c : DefC) : Prop where
  sc : FnScope c.N c.ps (defScope c.st)
  bind : ∀ (kV doc pm : Value) (an : Option Addr) (cdv ct : Value) (us : List Value), us.length = c.ps.length → bindArgs (PySem.W.fnOf c.x c.x (defArgs c.st) (defBody c.st) (defScope c.st) .none kV doc pm an cdv ct) ⟨us, []⟩ = pure (c.ps.zip us)
  np : c.fr.np = c.ps.length
  ns : c.fr.ns = c.N.length
  tr : trSs (trS (defScope c.st) 60 ⟨c.N, fns, consts, cls, none⟩) (defBody c.st) = some c.fr.body
def AllC (P : DefC → Prop) : List DefC → Prop
  | [] => True
  | c :: cs => P c ∧ AllC P cs
theorem AllC.get {P : DefC → Prop} : ∀ {cs : List DefC} {c : DefC}, AllC P cs → c ∈ cs → P c
  | d :: cs, c, h, hm => by
    rcases List.mem_cons.mp hm with rfl | hm
    · exact h.1
    · exact AllC.get h.2 hm
def constFa : Str × D → List He.Fa
  | (x, .int i) => [.int x i]
  | (x, .str s) => [.str x s]
  | _ => []
abbrev progOf (tab : List DefC) (xs : List XcC) : Prog := ⟨tab.map DefC.fr, xs.map XcC.row⟩
section
variable {K : PySem.W.Frag} {mg : Str → Option Value} {h : Heap} {tab : List DefC} {consts : List (Str × D)} {fa : List He.Fa} {xs : List XcC}
theorem defI_of (X : K.In h) (G : h.Ns mainGlobals mg) (hfa : ∀ c ∈ tab, He.Fa.glo c.x ∈ fa) (s : He.SaysD fa (tab.map DefC.d) K) (ok : AllC (OkC (tab.map DefC.x) consts (xs.map XcC.row)) tab) {i : Nat} {c : DefC} (hc : tab[i]? = some c) :
    ∃ f fd, DefI K mg (tab.map DefC.x) consts (progOf tab xs) i c.x f fd c.ps c.N ∧ ∀ (s : Shared) (us : List Value), us.length = c.ps.length → BindsTo s fd ⟨us, []⟩ (c.ps.zip us) := by
  have O := ok.get (List.mem_of_getElem? hc)
  have e1 : (tab.map DefC.d)[i]? = some c.d := by rw [List.getElem?_map, hc]; rfl
  obtain ⟨fd, F⟩ := s.def_ i e1
  have F : FunD K c.x c.x (defArgs c.st) (defBody c.st) (defScope c.st) [] [] (He.fAd K (c.x, none)) fd := F
  have hm : mg c.x = some (.ref (He.ga K c.x)) := He.glo_ok X G (s.facts (hfa c (List.mem_of_getElem? hc)))
  have hb := F.bindsA (ps := c.ps) O.bind
  have hkp := F.kp
  obtain ⟨oc, od, dV, kV, doc, pm, an, cdv, ct, osl, rfl, lk, hcd, hD, hK⟩ := F.ex
  exact ⟨He.ga K c.x, _, ⟨hm, hkp, fun s us _ hl => by rw [List.append_nil] at hl ⊢; exact hb s us hl, c.x, c.x, defArgs c.st, defBody c.st, defScope c.st, dV, kV, doc, pm, cdv, ct, oc, an, od, osl, c.fr, 60, rfl, lk, hcd, O.sc, by show (tab.map DefC.fr)[i]? = _; rw [List.getElem?_map, hc]; rfl, O.np, O.ns, O.tr⟩, hb⟩
theorem lawI_of {P : Program} {file : Str} (X : K.In h) (G : h.Ns mainGlobals mg) (hfile : P.main.file = file) (hmain : (P.main.scope.names.lookup ("super" : Str)).isSome = false) (OX : AllX OkX xs) (hb : xsB file K xs = true) (hw : xs.map (XcC.xw K) = xs.map XcC.xv)
    (hfa : ∀ c ∈ tab, He.Fa.glo c.x ∈ fa) (hbl : ∀ x ∈ bltNames, He.Fa.free x ∈ fa) (hco : ∀ p ∈ consts, ∀ f ∈ constFa p, f ∈ fa) (s : He.SaysD fa (tab.map DefC.d) K) (ok : AllC (OkC (tab.map DefC.x) consts (xs.map XcC.row)) tab) :
    LawI P K mg (He.ga K) (tab.map DefC.x) consts (progOf tab xs) where
  defs := fun i x hx => by
    rw [List.getElem?_map] at hx
    obtain ⟨c, hc, rfl⟩ := msome hx
    obtain ⟨f, fd, hd, _⟩ := defI_of X G hfa s ok hc
    exact ⟨f, fd, c.ps, c.N, hd⟩
  blt := fun x hx => He.free_ok X G (s.facts (hbl x hx))
  con := fun x d e h1 h2 => by
    have hm := PySem.mem_of_lookup h1
    cases d with
    | int i =>
      cases h2
      obtain ⟨t, ht⟩ := He.int_ok X G (s.facts (hco _ hm (.int x i) (by simp [constFa])))
      exact ⟨.int i, _, ht, ⟨t, rfl⟩, .inl ⟨i, rfl, rfl⟩⟩
    | str z =>
      cases h2
      obtain ⟨t, ht⟩ := He.str_ok X G (s.facts (hco _ hm (.str x z) (by simp [constFa])))
      exact ⟨.str z, _, ht, ⟨t, rfl⟩, .inr ⟨z, rfl, rfl⟩⟩
    | _ => cases h2
  xi := xInfo_of X G hfile hmain OX hb hw
end
theorem rep_ints {F : Addr → Prop} {H : Hp} : ∀ ns : List Int, Reps F H (ns.map D.int) (ns.map V.int) []
  | [] => ⟨rfl, rfl⟩
  | i :: ns => ⟨.int i, ns.map V.int, [], [], rfl, rfl, ⟨rfl, rfl⟩, rep_ints ns⟩
theorem frz_ints : ∀ ns : List Int, shrs (ns.map D.int) = true
  | [] => rfl
  | i :: ns => by simp [shrs, D.shr, frz_ints ns]
/-- a law told by the interpreter -/
theorem law_walk {l : PySem.W.OpenLaw} {n k m W i : Nat} {q : Program} {loose : List Str} {XP : (Str → Option Value) → Heap → Prop} {d : DefRec} {tab : List DefC} {consts : List (Str × D)} {fa : List He.Fa} {c : DefC} {file : Str} {xs : List XcC} (hn : l.most = some n) (hn2 : n ≤ sizeLine) (hdf : d.params.defaults = []) (hr : Room k callerA)
    (hfile : l.prog.main.file = file) (hmain : (l.prog.main.scope.names.lookup ("super" : Str)).isSome = false) (OX : AllX OkX xs)
    (hfa : ∀ c ∈ tab, He.Fa.glo c.x ∈ fa) (hbl : ∀ x ∈ bltNames, He.Fa.free x ∈ fa) (hco : ∀ p ∈ consts, ∀ f ∈ constFa p, f ∈ fa) (ok : AllC (OkC (tab.map DefC.x) consts (xs.map XcC.row)) tab) (hc : tab[i]? = some c) (hx : c.x = d.name) (hps : ∃ x, c.ps = [x])
    (hrun : ∀ ns : List Int, ns.length ≤ n → ∃ rs, callN (progOf tab xs) W k i [.lst true (ns.map .int)] = .ok (.bl true) rs) :
    PySem.W.WalkO q loose XP (hookX m fa (tab.map DefC.d) file xs).says l.row.toRowW d [] (fun f vs => PySem.call f vs) := by
  refine Att.attach_call hn hdf fun w s₀ s₁ mg mb fad o pm cd doc a vs ns G Y ho hd hcd hmg hobj hints hlen hg => ?_
  obtain ⟨K, KX, nl, S0⟩ := Y
  have S : He.SaysD fa (tab.map DefC.d) K := congrArg (fun z : AlX => z.1) S0
  have hB : xsB file K xs = true := congrArg (fun z : AlX => z.2.1) S0
  have hW : xs.map (XcC.xw K) = xs.map XcC.xv := congrArg (fun z : AlX => z.2.2) S0
  obtain ⟨x, hps⟩ := hps
  have LI := lawI_of (P := l.prog) (file := file) (xs := xs) KX G.T.g hfile hmain OX hB hW hfa hbl hco S ok
  obtain ⟨f, fd, hd2, hb⟩ := defI_of (xs := xs) KX G.T.g hfa S ok hc
  have hf : f = fad := by
    have z := hd2.mg
    rw [hx, hmg] at z
    cases z; rfl
  subst hf
  refine law_call (x := x) (CX := L2.CX l.prog w) (sp := CSp (He.ga K) (maskOf (progOf tab xs) i) (callN (progOf tab xs) W k i)) (fd := fd) KX G.T.g G.T.b G.T.builtins G.T.nolimit hg hobj hints (Nat.le_trans hlen hn2) hr (fun base hKb hGb => ?_) (fun s u => ?_) (fun H hO hS => ?_) fun H e s' ⟨_, _, _, _, _, _, _, _, _, _, _, _, z⟩ => z
  · have := fn_all (Pr := l.prog) (w := w) (base := base) (W := W) (clA := He.ga K) LI k i c.x f fd c.ps c.N hd2
    rw [hps] at this
    exact this
  · have := hb s [u] (by rw [hps]; rfl)
    rw [hps] at this
    exact this
  · obtain ⟨rs, hrs⟩ := hrun ns hlen
    have hR : Rd H a (.lst (ns.map V.int)) := by
      rcases hS with z | ⟨o, its, m, z, z2, _⟩
      · exact z
      · have := nl a o z
        unfold isLstO at this
        rw [z2] at this
        simp at this
    refine ⟨fun b => b = a, [.lst true (ns.map .int)], fun _ => [], ⟨rfl, fun j d e => ?_, fun _ _ => rfl, fun _ => List.nodup_nil, fun _ _ _ _ h => (nomatch h), fun _ _ h => (nomatch h), fun b hb => ?_, (fun _ h => (Pv.mem_e h).elim), fun _ h => (nomatch h)⟩, ?_⟩
    · cases j with
      | zero =>
        cases e
        exact ⟨.ref a, rfl, a, ns.map V.int, rfl, rfl, hR, rep_ints ns, rfl⟩
      | succ j => simp at e
    · subst hb
      rcases hR with z | ⟨o, z⟩ <;> rw [z] <;> simp
    · rw [hrs]
      intro F' H' ψ' v fd ck
      exact ck.rep.1
end VS

end

section
set_option linter.all false
set_option maxRecDepth 100000
namespace VS
open PySem
/-! ## running by rewriting -/
section
variable {α β : Type} {a : α} {e env : EnvD} {k : α → EnvD → Res β} {ks : α → EnvD → SR} {x d : D} {i j : Int} {f g : Bool} {xs ys : List D} {n : Nat}







theorem bind_ok : (Res.ok a e).bind k = k a e := rfl
theorem of_some : Res.of (some a) e = .ok a e := rfl
theorem toS_ok : (Res.ok a e).toS ks = ks a e := rfl
theorem fin_esc {r : Res D} : fin .esc r = r := rfl
theorem fin_rd {r : Res D} : fin .rd r = r := rfl
theorem fin_kd : fin .kd (.ok x e) = .ok x.frzK e := rfl
theorem fin_ts : fin .ts (.ok x e) = Res.of (x.truth.map .bl) e := rfl
def vGet (m : Mode) (i : Nat) (env : EnvD) (o : Option (Option D)) : Res D := match o with
  | some (some d) => match m with
    | .esc => if d.shr then .ok d env else .ok d.frz (env.set i (some d.frz))
    | .rd => .ok d env
    | .kd => if d.shrK then .ok d env else .ok d.frzK (env.set i (some d.frzK))
    | .ts => Res.of (d.truth.map .bl) env
  | _ => .no
theorem ev_var {C : CtxD} {m : Mode} : ev C m (.var n) env = vGet m n env env[n]? := rfl
theorem vName_eq {m : Mode} : vName m n env = vGet m n env env[n]? := rfl
theorem vGet_rd : vGet .rd n env (some (some d)) = .ok d env := rfl
theorem vGet_esc : vGet .esc n env (some (some d)) = if d.shr = true then .ok d env else .ok d.frz (env.set n (some d.frz)) := rfl
theorem vGet_kd : vGet .kd n env (some (some d)) = if d.shrK = true then .ok d env else .ok d.frzK (env.set n (some d.frzK)) := rfl
theorem vGet_ts : vGet .ts n env (some (some d)) = Res.of (d.truth.map .bl) env := rfl
theorem onPart_esc : onPart .esc n (some d) env = if d.shr = true then .ok d env else match env[n]? with
    | some (some c) => .ok d.frz (env.set n (some c.frz))
    | _ => .no := rfl
theorem onPart_rd : onPart .rd n (some d) env = .ok d env := rfl
theorem onPart_kd : onPart .kd n (some d) env = if d.shrK = true then .ok d env else match env[n]? with
    | some (some c) => .ok d.frz (env.set n (some c.frz))
    | _ => .no := rfl
theorem onPart_ts : onPart .ts n (some d) env = Res.of (d.truth.map .bl) env := rfl
theorem shr_int : (D.int i).shr = true := rfl
theorem shr_bl : (D.bl f).shr = true := rfl
theorem shr_non : D.non.shr = true := rfl
theorem shr_str {s : Str} : (D.str s).shr = true := rfl
theorem shr_lst : (D.lst f xs).shr = (f && shrs xs) := rfl
theorem shr_tup : (D.tup xs).shr = shrs xs := rfl
theorem shrs_nil : shrs [] = true := rfl
theorem shrs_cons : shrs (d :: xs) = (d.shr && shrs xs) := rfl
theorem shrK_int : (D.int i).shrK = true := rfl
theorem shrK_bl : (D.bl f).shrK = true := rfl
theorem shrK_non : D.non.shrK = true := rfl
theorem shrK_str {s : Str} : (D.str s).shrK = true := rfl
theorem shrK_lst : (D.lst f xs).shrK = shrs xs := rfl
theorem shrK_tup : (D.tup xs).shrK = shrs xs := rfl
theorem frzK_int : (D.int i).frzK = .int i := rfl
theorem frzK_bl : (D.bl f).frzK = .bl f := rfl
theorem frzK_non : D.non.frzK = .non := rfl
theorem frzK_str {s : Str} : (D.str s).frzK = .str s := rfl
theorem frzK_lst : (D.lst f xs).frzK = .lst f (frzs xs) := rfl
theorem frzK_tup : (D.tup xs).frzK = .tup (frzs xs) := rfl
theorem frz_lst : (D.lst f xs).frz = .lst true (frzs xs) := rfl
theorem frz_tup : (D.tup xs).frz = .tup (frzs xs) := rfl
theorem frz_int : (D.int i).frz = .int i := rfl
theorem frz_bl : (D.bl f).frz = .bl f := rfl
theorem frz_non : D.non.frz = .non := rfl
theorem frz_str {s : Str} : (D.str s).frz = .str s := rfl
theorem frzs_nil : frzs [] = [] := rfl
theorem frzs_cons : frzs (d :: xs) = d.frz :: frzs xs := rfl
theorem truth_bl : (D.bl f).truth = some f := rfl
theorem truth_int : (D.int i).truth = some (i != 0) := rfl
theorem truth_lst : (D.lst f xs).truth = some (!xs.isEmpty) := rfl
theorem truth_tup : (D.tup xs).truth = some (!xs.isEmpty) := rfl
theorem truth_non : D.non.truth = some false := rfl
theorem map_some {γ : Type} {h : α → γ} : (some a).map h = some (h a) := rfl
theorem b_add : bop .add (.int i) (.int j) = some (.int (i + j)) := rfl
theorem b_sub : bop .sub (.int i) (.int j) = some (.int (i - j)) := rfl
theorem b_mul : bop .mul (.int i) (.int j) = if mulOk i j = true then some (.int (i * j)) else none := rfl
theorem b_fdiv : bop .fdiv (.int i) (.int j) = if 0 < j ∧ j.natAbs.log2 < 9000 then some (.int (i / j)) else none := rfl
theorem b_mod : bop .mod (.int i) (.int j) = if 0 < j then some (.int (i % j)) else none := rfl
theorem b_lst : bop .add (.lst f xs) (.lst g ys) = if xs.length + ys.length ≤ sizeLine then some (.lst false (xs ++ ys)) else none := rfl
theorem b_tup : bop .add (.tup xs) (.tup ys) = if xs.length + ys.length ≤ sizeLine then some (.tup (xs ++ ys)) else none := rfl
theorem c_lt : cop .lt (.int i) (.int j) = some (decide (i < j)) := rfl
theorem c_le : cop .le (.int i) (.int j) = some (decide (i ≤ j)) := rfl
theorem c_gt : cop .gt (.int i) (.int j) = some (decide (j < i)) := rfl
theorem c_ge : cop .ge (.int i) (.int j) = some (decide (j ≤ i)) := rfl
theorem c_is {f g : Bool} : cop .is_ (.bl f) (.bl g) = some (f == g) := rfl
theorem c_isnt {f g : Bool} : cop .isnt (.bl f) (.bl g) = some (!(f == g)) := rfl
theorem c_eq {y : D} : cop .eq x y = eqD x y := rfl
theorem c_ne {y : D} : cop .ne x y = (eqD x y).map (!·) := rfl
theorem cop_in {y : D} : cop .isin x y = inD x y := rfl
theorem cop_notin {y : D} : cop .notin x y = (inD x y).map (!·) := rfl
theorem inD_lst {y : D} : inD y (.lst f xs) = if SeqAt.shaped y.py && SeqAt.shaped (.list (pys xs)) then some ((pys xs).any fun z => PyData.eqv z y.py) else none := rfl
theorem eqD_int : eqD (.int i) (.int j) = some (decide (i = j)) := by
  show some (PyData.eqv (.int i) (.int j)) = _
  congr 1
theorem p_len_l : prim .len [.lst f xs] = some (.int xs.length) := rfl
theorem p_len_t : prim .len [.tup xs] = some (.int xs.length) := rfl
theorem p_int : prim .int1 [.int i] = some (.int i) := rfl
theorem p_min2 : prim .min2 [.int i, .int j] = some (.int (if j < i then j else i)) := rfl
theorem p_max2 : prim .max2 [.int i, .int j] = some (.int (if j > i then j else i)) := rfl
theorem p_sum_l : prim .sum [.lst f xs] = (ints? xs).map fun ns => .int ns.sum := rfl
theorem p_sum_t : prim .sum [.tup xs] = (ints? xs).map fun ns => .int ns.sum := rfl
theorem p_tup_l : prim .tuple1 [.lst f xs] = some (.tup xs) := rfl
theorem p_tup_t : prim .tuple1 [.tup xs] = some (.tup xs) := rfl
theorem p_lst_l : prim .list1 [.lst f xs] = some (.lst false xs) := rfl
theorem p_lst_t : prim .list1 [.tup xs] = some (.lst false xs) := rfl
theorem p_isT {ts : List String} : prim (.isT ts) [d] = (isTys d ts).map .bl := rfl
theorem s_lst : subD (.lst f xs) (.int i) = L2.atI xs i := rfl
theorem s_tup : subD (.tup xs) (.int i) = L2.atI xs i := rfl
theorem onBool_bl {t u no : α} : onBool (.bl f) t u no = if f = true then t else u := by cases f <;> rfl
theorem onOB_some {t u no : α} : onOB (some f) t u no = if f = true then t else u := by cases f <;> rfl
theorem vNeg_int : vNeg (.int i) env = .ok (.int (-i)) env := rfl
theorem vInt_ok : vInt (.ok (.int i) e) = .ok (some i) e := rfl
theorem setTg_v : setTg (.v n) d env = some (env.set n (some d)) := rfl
theorem isNon_int : D.isNon (.int i) = false := rfl
theorem isNon_non : D.isNon .non = true := rfl
end
/-! ## lists of ints -/
abbrev iL (l : List Int) : List D := l.map D.int
theorem shrs_iL : ∀ l : List Int, shrs (iL l) = true
  | [] => rfl
  | i :: l => by simp [shrs, D.shr, shrs_iL l]
theorem frzs_iL : ∀ l : List Int, frzs (iL l) = iL l
  | [] => rfl
  | i :: l => by simp [frzs, D.frz, frzs_iL l]
theorem ints_iL : ∀ l : List Int, ints? (iL l) = some l
  | [] => rfl
  | i :: l => by simp [ints?, ints_iL l]
def gI (l : List Int) (i : Int) : Int := l.getD i.toNat 0
theorem atI_iL {l : List Int} {i : Int} (h0 : 0 ≤ i) (h1 : i < l.length) : L2.atI (iL l) i = some (.int (gI l i)) := by
  unfold L2.atI L2.ixN gI
  rw [List.length_map, if_pos h0, if_pos h1]
  have : i.toNat < l.length := by omega
  simp [this]
theorem le_sz {m : Nat} (h : m ≤ 1000) : (m ≤ sizeLine) = True := eq_true (Nat.le_trans h (by decide))
theorem lt_sz {m : Nat} (h : m < 1000) : (m < sizeLine) = True := eq_true (Nat.lt_of_lt_of_le h (by decide))
/-! ## the frame of a def -/
def cx (P : Prog) (W n : Nat) : CtxD := ⟨callN P W n, fun g => match P.fns[g]? with | some r => r.mask | none => [], W, P.cls, none⟩
def finF (np : Nat) (m : List Bool) : SR → CRes
  | .rt d env => match parsOf np m env with
    | some ps => .ok d ps
    | none => .no
  | .nx env => match parsOf np m env with
    | some ps => .ok .non ps
    | none => .no
  | .exc c fs env => match parsOf np m env with
    | some ps => .exc c fs ps
    | none => .no
  | _ => .no
section
variable {n : Nat} {m : List Bool} {env r : EnvD} {d : D} {ds ps : List D} {as : List Arg} {C : CtxD} {f i : Nat} {o : Option D}
theorem pars_t : parsOf (n + 1) (true :: m) (some d :: r) = (parsOf n m r).map (d :: ·) := by
  simp only [parsOf, List.headD_cons, List.tail_cons, if_true]
  cases parsOf n m r <;> rfl
theorem pars_f : parsOf (n + 1) (false :: m) (o :: r) = (parsOf n m r).map (D.non :: ·) := by
  simp only [parsOf, List.headD_cons, List.tail_cons]
  cases parsOf n m r <;> rfl
theorem pars_0 : parsOf 0 m env = some [] := rfl
theorem fF_rt : finF n m (.rt d env) = match parsOf n m env with
    | some ps => .ok d ps
    | none => .no := rfl
theorem fF_nx : finF n m (.nx env) = match parsOf n m env with
    | some ps => .ok .non ps
    | none => .no := rfl
theorem callA {args : List Arg} : callArgs C f args env = if (slotsOf args).Nodup then
    match treesOf env args with
    | some ts => match C.call f ts with
      | .ok d ps => if ps.length = args.length then .ok d (backTo args ps env) else .no
      | .exc c fs ps => if ps.length = args.length then .exc c fs (backTo args ps env) else .no
      | .no => .no
    | none => .no
  else .no := rfl
theorem finF_rt (h : parsOf n m env = some ps) : finF n m (.rt d env) = .ok d ps := by simp only [finF, h]
theorem finF_nx (h : parsOf n m env = some ps) : finF n m (.nx env) = .ok .non ps := by simp only [finF, h]
/-- a call whose arguments come back as they were -/
theorem call_ok {args : List Arg} {ts : List D} (h1 : (slotsOf args).Nodup) (h2 : treesOf env args = some ts) (h3 : C.call f ts = .ok d ps) (h4 : ps.length = args.length) : callArgs C f args env = .ok d (backTo args ps env) := by
  unfold callArgs
  rw [if_pos h1, h2]
  simp only [h3, h4, if_true]
end
section
variable {na : List Nat} {i x : Nat} {env e : EnvD} {o : Option (Option D)} {d k : D} {f : Bool} {xs ys items : List D} {u : Nat → Bool} {lk : List (Nat × D)} {j : Int} {is : List Nat} {r : Res D}
def rGet (na : List Nat) (i : Nat) (env : EnvD) (o : Option (Option D)) : SR := match o with
  | some (some d) => if d.shr then .rt d env else if na.contains i then .rt d.frz (env.set i (some d.frz)) else .rt d (env.set i none)
  | _ => .no
theorem retS_eq : retS na i env = rGet na i env env[i]? := rfl
theorem rGet_some : rGet na i env (some (some d)) = if d.shr = true then .rt d env else if na.contains i = true then .rt d.frz (env.set i (some d.frz)) else .rt d (env.set i none) := rfl
def hasO (o : Option (Option D)) : Bool := match o with
  | some (some _) => true
  | _ => false
theorem hasD_eq : hasD x env = hasO env[x]? := rfl
theorem hasO_some : hasO (some (some d)) = true := rfl
def isLO (o : Option (Option D)) : Bool := match o with
  | some (some (.lst _ _)) => true
  | _ => false
theorem isLstD_eq : isLstD x env = isLO env[x]? := rfl
theorem isLO_some : isLO (some (some (.lst f xs))) = true := rfl
def setO (x : Nat) (k d : D) (env : EnvD) (o : Option (Option D)) : SR := match o with
  | some (some (.lst false xs)) => match k with
    | .int k => match L2.ixN xs.length k with
      | some j => .nx (env.set x (some (.lst false (xs.set j d))))
      | none => .no
    | _ => .no
  | _ => .no
theorem setS_eq : setS x k d env = setO x k d env env[x]? := rfl
theorem setO_some : setO x (.int j) d env (some (some (.lst false xs))) = match L2.ixN xs.length j with
      | some j => .nx (env.set x (some (.lst false (xs.set j d))))
      | none => .no := rfl
def appO (x : Nat) (d : D) (env : EnvD) (o : Option (Option D)) : SR := match o with
  | some (some (.lst false xs)) => if xs.length < sizeLine then .nx (env.set x (some (.lst false (xs ++ [d])))) else .no
  | _ => .no
theorem appS_eq : appS x d env = appO x d env env[x]? := rfl
def insO (x : Nat) (k d : D) (env : EnvD) (o : Option (Option D)) : SR := match o with
  | some (some (.lst false xs)) => match k with
    | .int i => if 0 ≤ i ∧ i < 1000000 ∧ xs.length < sizeLine then .nx (env.set x (some (.lst false (xs.take i.toNat ++ [d] ++ xs.drop i.toNat)))) else .no
    | _ => .no
  | _ => .no
theorem insS_eq {k : D} : insS x k d env = insO x k d env env[x]? := rfl
theorem insO_some {j : Int} : insO x (.int j) d env (some (some (.lst false xs))) = if 0 ≤ j ∧ j < 1000000 ∧ xs.length < sizeLine then .nx (env.set x (some (.lst false (xs.take j.toNat ++ [d] ++ xs.drop j.toNat)))) else .no := rfl
def setSlO (x : Nat) (a b d : D) (env : EnvD) (o : Option (Option D)) : SR := match o with
  | some (some (.lst false xs)) => match a, b, d with
    | .int a, .int c, .lst false ys => if 0 ≤ a ∧ a ≤ c ∧ a ≤ xs.length ∧ c < 1000000 ∧ xs.length + ys.length ≤ sizeLine then .nx (env.set x (some (.lst false (xs.take a.toNat ++ ys ++ xs.drop c.toNat)))) else .no
    | _, _, _ => .no
  | _ => .no
theorem setSlS_eq {a b : D} : setSlS x a b d env = setSlO x a b d env env[x]? := rfl
theorem setSlO_some {a c : Int} : setSlO x (.int a) (.int c) (.lst false ys) env (some (some (.lst false xs))) = if 0 ≤ a ∧ a ≤ c ∧ a ≤ xs.length ∧ c < 1000000 ∧ xs.length + ys.length ≤ sizeLine then .nx (env.set x (some (.lst false (xs.take a.toNat ++ ys ++ xs.drop c.toNat)))) else .no := rfl
theorem appO_some : appO x d env (some (some (.lst false xs))) = if xs.length < sizeLine then .nx (env.set x (some (.lst false (xs ++ [d])))) else .no := rfl
theorem unpS_tup : unpS is (.tup xs) env = if is.length = xs.length then .nx ((is.zip xs).foldl (fun e p => e.set p.1 (some p.2)) env) else .no := rfl
theorem unpS_lst : unpS is (.lst f xs) env = if is.length = xs.length then .nx ((is.zip xs).foldl (fun e p => e.set p.1 (some p.2)) env) else .no := rfl
def sGet (u : Nat → Bool) (i : Nat) (env : EnvD) (o : Option (Option D)) : Res (D × List (Nat × D)) := match o with
  | some (some d) => if d.shr then .ok (d, []) env else if u i then .ok (d.frz, []) (env.set i (some d.frz)) else .ok (d.frzK, [(i, d.frzK)]) (env.set i none)
  | _ => .no
theorem srcVar_eq : srcVar u i env = sGet u i env env[i]? := rfl
theorem sGet_some : sGet u i env (some (some d)) = if d.shr = true then .ok (d, []) env else if u i = true then .ok (d.frz, []) (env.set i (some d.frz)) else .ok (d.frzK, [(i, d.frzK)]) (env.set i none) := rfl
theorem srcOf_var : srcOf u (.var i) r env = srcVar u i env := rfl
theorem srcOf_call {g : Nat} {es : Es} : srcOf u (.call g es) r env = (vSrc false r).bind fun d env => .ok (d, []) env := rfl
theorem srcOf_sub {a b : E} : srcOf u (.sub a b) r env = (vSrc (E.sub a b).place r).bind fun d env => .ok (d, []) env := rfl
theorem srcOf_lst {es : Es} : srcOf u (.lst es) r env = (vSrc false r).bind fun d env => .ok (d, []) env := rfl
theorem srcOf_slice {a : E} {lo hi : Option E} : srcOf u (.slice a lo hi) r env = (vSrc false r).bind fun d env => .ok (d, []) env := rfl
theorem srcOf_prim {p : Pr} {es : Es} : srcOf u (.prim p es) r env = (vSrc false r).bind fun d env => .ok (d, []) env := rfl
theorem vSrc_t : vSrc true r = r := rfl
theorem vSrc_f : vSrc false r = r.bind fun x env => .ok x.frzK env := rfl
theorem itsOf_some : itsOf (some items) lk env = .ok ⟨items, lk⟩ env := rfl
theorem items_lst : (D.lst f xs).items = some xs := rfl
theorem items_tup : (D.tup xs).items = some xs := rfl
theorem enumD_lst : enumD (.lst f xs) = some (xs.mapIdx fun k d => .tup [.int k, d]) := rfl
theorem enumD_tup : enumD (.tup xs) = some (xs.mapIdx fun k d => .tup [.int k, d]) := rfl
theorem rangeD_1 : rangeD [.int j] = if rngOk j = true then some (rangeL 0 j.toNat) else none := rfl
theorem rangeD_2 {i j : Int} : rangeD [.int i, .int j] = if (rngOk i && rngOk j) = true then some (rangeL i (j - i).toNat) else none := rfl
theorem senv_nx {g : EnvD → EnvD} : (SR.nx e).env g = .nx (g e) := rfl
theorem senv_rt {g : EnvD → EnvD} : (SR.rt d e).env g = .rt d (g e) := rfl
theorem putLk_nil : putLk [] e = e := rfl
theorem putLk_cons : putLk ((i, d) :: lk) e = (putLk lk e).set i (some d) := rfl
theorem rngOk_of {i : Int} (h1 : -1000000 ≤ i) (h2 : i ≤ 1000000) : rngOk i = true := by
  unfold rngOk
  exact decide_eq_true (by omega)
/-! ## loops -/
/-- every turn goes on -/
theorem forL_all {tg : Tg} {body : EnvD → SR} (Inv : EnvD → Prop) : ∀ {ds : List D} {env : EnvD}, (∀ d ∈ ds, ∀ env, Inv env → ∃ e1 e2, setTg tg d env = some e1 ∧ body e1 = .nx e2 ∧ Inv e2) → Inv env → ∃ e, forL tg body ds env = .nx e ∧ Inv e
  | [], env, _, hi => ⟨env, rfl, hi⟩
  | d :: ds, env, h, hi => by
    obtain ⟨e1, e2, h1, h2, h3⟩ := h d (by simp) env hi
    obtain ⟨e, h4, h5⟩ := forL_all Inv (ds := ds) (fun d hd => h d (by simp [hd])) h3
    refine ⟨e, ?_, h5⟩
    simp only [forL, h1, h2, h4]
/-- a loop over a range, told by its states -/
theorem forL_rng {tg : Tg} {body : EnvD → SR} (P : Nat → EnvD → Prop) {lo : Int} {n : Nat} (h : ∀ k env, k < n → P k env → ∃ e1 e2, setTg tg (.int (lo + (k : Nat))) env = some e1 ∧ body e1 = .nx e2 ∧ P (k + 1) e2) {env : EnvD} (h0 : P 0 env) : ∃ e, forL tg body (rangeL lo n) env = .nx e ∧ P n e := by
  have key : ∀ m k env, k + m = n → P k env → ∃ e, forL tg body (((List.range n).drop k).map fun k => D.int (lo + (k : Nat))) env = .nx e ∧ P n e := by
    intro m
    induction m with
    | zero =>
      intro k env hk hp
      have : k = n := by omega
      subst this
      exact ⟨env, by rw [List.drop_of_length_le (by simp)]; rfl, hp⟩
    | succ m ih =>
      intro k env hk hp
      have hlt : k < n := by omega
      obtain ⟨e1, e2, h1, h2, h3⟩ := h k env hlt hp
      obtain ⟨e, h4, h5⟩ := ih (k + 1) e2 (by omega) h3
      refine ⟨e, ?_, h5⟩
      rw [List.drop_eq_getElem_cons (by simpa using hlt), List.map_cons, List.getElem_range]
      simp only [forL, h1, h2]
      exact h4
  obtain ⟨e, h1, h2⟩ := key n 0 env (by omega) h0
  exact ⟨e, by simpa [rangeL] using h1, h2⟩
end
/-! ## comprehensions -/
theorem compL_map {own : List Nat} {tg : Tg} {cond elt : EnvD → Res D} (f : D → D) {E0 : EnvD} : ∀ {ds acc : List D} {env : EnvD}, wipeE own env = E0 → (∀ d ∈ ds, ∃ e1, setTg tg d E0 = some e1 ∧ cond e1 = .ok (.bl true) e1 ∧ elt e1 = .ok (f d) e1 ∧ wipeE own e1 = E0) → acc.length + ds.length ≤ sizeLine →
    ∃ e, compL own tg cond elt ds acc env = .ok (acc ++ ds.map f) e ∧ wipeE own e = E0
  | [], acc, env, h0, h, hl => ⟨env, by simp [compL], h0⟩
  | d :: ds, acc, env, h0, h, hl => by
    obtain ⟨e1, h1, h2, h3, h4⟩ := h d (by simp)
    simp only [List.length_cons] at hl
    obtain ⟨e, h5, h6⟩ := compL_map f (ds := ds) (acc := acc ++ [f d]) h4 (fun d hd => h d (by simp [hd])) (by simp; omega)
    refine ⟨e, ?_, h6⟩
    simp only [compL, h0, h1, h2, bind_ok, onBool_bl, if_true, h3]
    rw [if_pos (by omega), h5]
    simp
/-! ## a loop over a range that may leave early -/
def goF {S R : Type} (f : Nat → S → R ⊕ S) : Nat → Nat → S → R ⊕ S
  | 0, _, s => .inr s
  | m + 1, k, s => match f k s with
    | .inl r => .inl r
    | .inr s' => goF f m (k + 1) s'
theorem forL_go {S R : Type} {tg : Tg} {body : EnvD → SR} {lo : Int} {n : Nat} (f : Nat → S → R ⊕ S) (enc : S → EnvD → Prop) (out : R → D → EnvD → Prop)
    (h : ∀ k s env, k < n → enc s env → match f k s with
      | .inl r => ∃ e1 d e2, setTg tg (.int (lo + (k : Nat))) env = some e1 ∧ body e1 = .rt d e2 ∧ out r d e2
      | .inr s' => ∃ e1 e2, setTg tg (.int (lo + (k : Nat))) env = some e1 ∧ body e1 = .nx e2 ∧ enc s' e2) {s : S} {env : EnvD} (h0 : enc s env) :
    match goF f n 0 s with
    | .inl r => ∃ d e, forL tg body (rangeL lo n) env = .rt d e ∧ out r d e
    | .inr s' => ∃ e, forL tg body (rangeL lo n) env = .nx e ∧ enc s' e := by
  have key : ∀ m k s env, k + m = n → enc s env → match goF f m k s with
      | .inl r => ∃ d e, forL tg body (((List.range n).drop k).map fun k => D.int (lo + (k : Nat))) env = .rt d e ∧ out r d e
      | .inr s' => ∃ e, forL tg body (((List.range n).drop k).map fun k => D.int (lo + (k : Nat))) env = .nx e ∧ enc s' e := by
    intro m
    induction m with
    | zero =>
      intro k s env hk hp
      have : k = n := by omega
      subst this
      exact ⟨env, by rw [List.drop_of_length_le (by simp)]; rfl, hp⟩
    | succ m ih =>
      intro k s env hk hp
      have hlt : k < n := by omega
      have q := h k s env hlt hp
      rw [List.drop_eq_getElem_cons (by simpa using hlt), List.map_cons, List.getElem_range]
      simp only [goF]
      cases hf : f k s with
      | inl r =>
        rw [hf] at q
        obtain ⟨e1, d, e2, h1, h2, h3⟩ := q
        exact ⟨d, e2, by simp only [forL, h1, h2], h3⟩
      | inr s' =>
        rw [hf] at q
        obtain ⟨e1, e2, h1, h2, h3⟩ := q
        have z := ih (k + 1) s' e2 (by omega) h3
        simp only
        cases hg : goF f m (k + 1) s' with
        | inl r =>
          rw [hg] at z
          obtain ⟨d, e, h4, h5⟩ := z
          exact ⟨d, e, by simp only [forL, h1, h2]; exact h4, h5⟩
        | inr s2 =>
          rw [hg] at z
          obtain ⟨e, h4, h5⟩ := z
          exact ⟨e, by simp only [forL, h1, h2]; exact h4, h5⟩
  have := key n 0 s env (by omega) h0
  simpa [rangeL] using this
/-- the same where no turn leaves -/
def itF {S : Type} (f : Nat → S → S) : Nat → Nat → S → S
  | 0, _, s => s
  | m + 1, k, s => itF f m (k + 1) (f k s)
theorem forL_it {S : Type} {tg : Tg} {body : EnvD → SR} {lo : Int} {n : Nat} (f : Nat → S → S) (enc : S → EnvD → Prop)
    (h : ∀ k s env, k < n → enc s env → ∃ e1 e2, setTg tg (.int (lo + (k : Nat))) env = some e1 ∧ body e1 = .nx e2 ∧ enc (f k s) e2) {s : S} {env : EnvD} (h0 : enc s env) :
    ∃ e, forL tg body (rangeL lo n) env = .nx e ∧ enc (itF f n 0 s) e := by
  have key : ∀ m k s, goF (R := Empty) (fun k s => .inr (f k s)) m k s = .inr (itF f m k s) := by
    intro m
    induction m with
    | zero => intros; rfl
    | succ m ih => intro k s; simp only [goF, itF, ih]
  have := forL_go (R := Empty) (tg := tg) (body := body) (lo := lo) (n := n) (fun k s => .inr (f k s)) enc (fun r _ _ => r.elim) (fun k s env hk he => h k s env hk he) h0
  rw [key] at this
  exact this
theorem itF_succ {S : Type} (f : Nat → S → S) : ∀ m k s, itF f (m + 1) k s = f (k + m) (itF f m k s)
  | 0, k, s => rfl
  | m + 1, k, s => by
    show itF f (m + 1) (k + 1) (f k s) = _
    rw [itF_succ f m (k + 1) (f k s)]
    show f (k + 1 + m) _ = f (k + (m + 1)) (itF f m (k + 1) (f k s))
    congr 1
    omega
theorem call_fr {P : Prog} {W n f : Nat} {args : List D} {fr : FnR} {na : List Nat} {env : EnvD} (h : P.fns[f]? = some fr) (h1 : (args.length == fr.np) = true) (h2 : Nat.ble fr.np fr.ns = true) (hn : naOf fr.mask = na) (he : args.map some ++ List.replicate (fr.ns - fr.np) none = env) : callN P W (n + 1) f args = finF fr.np fr.mask (exs (cx P W n) na fr.body env) := by
  subst hn he
  unfold callN
  rw [h]
  show runF (cx P W n) fr args = _
  unfold runF
  rw [if_pos ⟨by simpa using h1, Nat.le_of_ble_eq_true h2⟩]
  rfl
end VS

end

section
set_option linter.all false
set_option maxRecDepth 100000
namespace VS
open PySem
/-! ## the interpreter's steps, without binders -/
section
variable {C : CtxD} {m : Mode} {env e : EnvD} {a b c i : E} {es : Es} {x y z d : D} {o p : Bop} {q r : Cop} {n f : Nat} {ds : List D} {na : List Nat} {s : S} {ss sa sb : Ss} {as : List Arg} {ms : List Bool} {u : Nat → Bool} {it : It} {tg : Tg} {lk : List (Nat × D)} {items : List D}
theorem e_non : ev C m .non env = fin m (.ok .non env) := by simp only [ev]
theorem e_bl {t : Bool} : ev C m (.bl t) env = fin m (.ok (.bl t) env) := by simp only [ev]
theorem e_int {i : Int} : ev C m (.int i) env = fin m (.ok (.int i) env) := by simp only [ev]
theorem e_str {t : Str} : ev C m (.str t) env = fin m (.ok (.str t) env) := by simp only [ev]
theorem e_var : ev C m (.var n) env = vGet m n env env[n]? := rfl
theorem lft_t : lft C m true a env = ev C m a env := rfl
theorem lft_f : lft C m false a env = frzR (ev C .esc a env) := rfl
theorem frzR_ok : frzR (.ok x env) = .ok x.frz env := rfl
def binK2 (o : Bop) (x y : D) (env : EnvD) : Res D := Res.of (bop o x y) env
def binK (C : CtxD) (o : Bop) (b : E) (x : D) (env : EnvD) : Res D := (ev C .kd b env).bind (binK2 o x)
theorem e_bin : ev C m (.bin o a b) env = fin m ((lft C .kd b.cf a env).bind (binK C o b)) := by simp only [ev]; rfl
theorem binK_eq : binK C o b x env = (ev C .kd b env).bind (binK2 o x) := rfl
theorem binK2_eq : binK2 o x y env = Res.of (bop o x y) env := rfl
theorem e_neg : ev C m (.neg a) env = fin m ((ev C .esc a env).bind vNeg) := by simp only [ev]
def cmpK2 (o : Cop) (x y : D) (env : EnvD) : Res D := Res.of ((cop o x y).map .bl) env
def cmpK (C : CtxD) (o : Cop) (b : E) (x : D) (env : EnvD) : Res D := (ev C .rd b env).bind (cmpK2 o x)
theorem e_cmp : ev C m (.cmp q a b) env = fin m ((lft C .rd b.cf a env).bind (cmpK C q b)) := by simp only [ev]; rfl
theorem cmpK_eq : cmpK C q b x env = (ev C .rd b env).bind (cmpK2 q x) := rfl
theorem cmpK2_eq : cmpK2 q x y env = Res.of ((cop q x y).map .bl) env := rfl
def c2K3 (p : Cop) (y z : D) (env : EnvD) : Res D := Res.of ((cop p y z).map .bl) env
def c2K2 (C : CtxD) (o p : Cop) (c : E) (x y : D) (env : EnvD) : Res D := if x.shr && y.shr then onOB (cop o x y) ((ev C .esc c env).bind (c2K3 p y)) (.ok (.bl false) env) .no else .no
def c2K (C : CtxD) (o p : Cop) (b c : E) (x : D) (env : EnvD) : Res D := (ev C .esc b env).bind (c2K2 C o p c x)
theorem e_cmp2 : ev C m (.cmp2 q r a b c) env = fin m ((ev C .esc a env).bind (c2K C q r b c)) := by simp only [ev]; rfl
theorem c2K_eq : c2K C q r b c x env = (ev C .esc b env).bind (c2K2 C q r c x) := rfl
theorem c2K2_eq : c2K2 C q r c x y env = if (x.shr && y.shr) = true then onOB (cop q x y) ((ev C .esc c env).bind (c2K3 r y)) (.ok (.bl false) env) .no else .no := rfl
theorem c2K3_eq : c2K3 r y z env = Res.of ((cop r y z).map .bl) env := rfl
def isNK (n : Bool) (x : D) (env : EnvD) : Res D := .ok (.bl (x.isNon != n)) env
theorem e_isN {t : Bool} : ev C m (.isN t a) env = fin m ((ev C .rd a env).bind (isNK t)) := by simp only [ev]; rfl
theorem isNK_eq {t : Bool} : isNK t x env = .ok (.bl (x.isNon != t)) env := rfl
def andT (C : CtxD) (b : E) (x : D) (env : EnvD) : Res D := onBool x (ev C .ts b env) (.ok (.bl false) env) .no
def andV (C : CtxD) (b : E) (x : D) (env : EnvD) : Res D := onBool x (ev C .esc b env) (.ok (.bl false) env) .no
def orT (C : CtxD) (b : E) (x : D) (env : EnvD) : Res D := onBool x (.ok (.bl true) env) (ev C .ts b env) .no
def orV (C : CtxD) (b : E) (x : D) (env : EnvD) : Res D := onBool x (.ok (.bl true) env) (ev C .esc b env) .no
def notT (x : D) (env : EnvD) : Res D := onBool x (.ok (.bl false) env) (.ok (.bl true) env) .no
def notV (x : D) (env : EnvD) : Res D := Res.of (x.truth.map fun b => .bl (!b)) env
theorem e_andT : ev C .ts (.and_ a b) env = (ev C .ts a env).bind (andT C b) := by simp only [ev]; rfl
theorem e_andV : ev C .esc (.and_ a b) env = (ev C .esc a env).bind (andV C b) := by simp only [ev]; rfl
theorem e_orT : ev C .ts (.or_ a b) env = (ev C .ts a env).bind (orT C b) := by simp only [ev]; rfl
theorem e_orV : ev C .esc (.or_ a b) env = (ev C .esc a env).bind (orV C b) := by simp only [ev]; rfl
theorem e_notT : ev C .ts (.not_ a) env = (ev C .ts a env).bind notT := by simp only [ev]; rfl
theorem e_notV : ev C .esc (.not_ a) env = (ev C .rd a env).bind notV := by simp only [ev]; rfl
theorem andT_eq {t : Bool} : andT C b (.bl t) env = if t = true then ev C .ts b env else .ok (.bl false) env := by cases t <;> rfl
theorem andV_eq {t : Bool} : andV C b (.bl t) env = if t = true then ev C .esc b env else .ok (.bl false) env := by cases t <;> rfl
theorem orT_eq {t : Bool} : orT C b (.bl t) env = if t = true then .ok (.bl true) env else ev C .ts b env := by cases t <;> rfl
theorem orV_eq {t : Bool} : orV C b (.bl t) env = if t = true then .ok (.bl true) env else ev C .esc b env := by cases t <;> rfl
theorem notT_eq {t : Bool} : notT (.bl t) env = .ok (.bl (!t)) env := by cases t <;> rfl
theorem notV_eq {t : Bool} : notV (.bl t) env = .ok (.bl (!t)) env := rfl
def iteK (C : CtxD) (a b : E) (t : D) (env : EnvD) : Res D := onBool t (ev C .esc a env) (ev C .esc b env) .no
theorem e_ite : ev C .esc (.ite c a b) env = (ev C .ts c env).bind (iteK C a b) := by simp only [ev]; rfl
theorem iteK_eq {t : Bool} : iteK C a b (.bl t) env = if t = true then ev C .esc a env else ev C .esc b env := by cases t <;> rfl
def tupK (ds : List D) (env : EnvD) : Res D := if ds.length ≤ sizeLine then .ok (.tup ds) env else .no
def lstK (ds : List D) (env : EnvD) : Res D := if ds.length ≤ sizeLine then .ok (.lst false ds) env else .no
theorem e_tup : ev C m (.tup es) env = fin m ((evs C es env).bind tupK) := by simp only [ev]; rfl
theorem e_lst : ev C m (.lst es) env = fin m ((evs C es env).bind lstK) := by simp only [ev]; rfl
theorem tupK_eq : tupK ds env = if ds.length ≤ sizeLine then .ok (.tup ds) env else .no := rfl
theorem lstK_eq : lstK ds env = if ds.length ≤ sizeLine then .ok (.lst false ds) env else .no := rfl
def subK2 (m : Mode) (r : Nat) (x y : D) (env : EnvD) : Res D := onPart m r (subD x y) env
def subK (C : CtxD) (m : Mode) (r : Nat) (i : E) (x : D) (env : EnvD) : Res D := if x.shr || i.cf then (ev C .esc i env).bind (subK2 m r x) else .no
def subJ2 (x y : D) (env : EnvD) : Res D := Res.of (subD x y) env
def subJ (C : CtxD) (i : E) (x : D) (env : EnvD) : Res D := (ev C .esc i env).bind (subJ2 x)
theorem e_sub : ev C m (.sub a i) env = if a.place = true then (ev C .rd a env).bind (subK C m a.root i) else fin m ((ev C .esc a env).bind (subJ C i)) := by simp only [ev]; rfl
theorem subK_eq : subK C m n i x env = if (x.shr || i.cf) = true then (ev C .esc i env).bind (subK2 m n x) else .no := rfl
theorem subK2_eq : subK2 m n x y env = onPart m n (subD x y) env := rfl
theorem subJ_eq : subJ C i x env = (ev C .esc i env).bind (subJ2 x) := rfl
theorem subJ2_eq : subJ2 x y env = Res.of (subD x y) env := rfl
def slP (C : CtxD) (x : D) : Option E → EnvD → Res (Option Int)
  | none, env => .ok none env
  | some e, env => if x.shr || e.cf then vInt (ev C .esc e env) else .no
def slK3 (x : D) (l h : Option Int) (env : EnvD) : Res D := Res.of (sliceD x l h) env
def slK2 (C : CtxD) (hi : Option E) (x : D) (l : Option Int) (env : EnvD) : Res D := (slP C x hi env).bind (slK3 x l)
def slK (C : CtxD) (lo hi : Option E) (x : D) (env : EnvD) : Res D := (slP C x lo env).bind (slK2 C hi x)
theorem e_slice {lo hi : Option E} : ev C m (.slice a lo hi) env = fin m ((ev C .kd a env).bind (slK C lo hi)) := by cases lo <;> cases hi <;> simp only [ev] <;> rfl
theorem slK_eq {lo hi : Option E} : slK C lo hi x env = (slP C x lo env).bind (slK2 C hi x) := rfl
theorem slK2_eq {hi : Option E} {l : Option Int} : slK2 C hi x l env = (slP C x hi env).bind (slK3 x l) := rfl
theorem slK3_eq {l h : Option Int} : slK3 x l h env = Res.of (sliceD x l h) env := rfl
theorem slP_none : slP C x none env = .ok none env := rfl
theorem slP_some : slP C x (some a) env = if (x.shr || a.cf) = true then vInt (ev C .esc a env) else .no := rfl
theorem e_call : ev C m (.call f es) env = fin m ((evArgs C (C.mask f) es env).bind (callArgs C f)) := by simp only [ev]
def primK (p : Pr) (ds : List D) (env : EnvD) : Res D := Res.of (prim p ds) env
theorem e_prim {p : Pr} : ev C m (.prim p es) env = fin m ((kds C es env).bind (primK p)) := by simp only [ev]; rfl
theorem primK_eq {p : Pr} : primK p ds env = Res.of (prim p ds) env := rfl
def methK2 (p : Mt) (x : D) (ds : List D) (env : EnvD) : Res D := Res.of (methD p x ds) env
def methK (C : CtxD) (p : Mt) (es : Es) (x : D) (env : EnvD) : Res D := if mtOk p x then (kds C es env).bind (methK2 p x) else .no
theorem e_meth {p : Mt} : ev C m (.meth p a es) env = fin m ((lft C .kd es.cf a env).bind (methK C p es)) := by simp only [ev]; rfl
theorem methK_eq {p : Mt} : methK C p es x env = if mtOk p x = true then (kds C es env).bind (methK2 p x) else .no := rfl
theorem methK2_eq {p : Mt} : methK2 p x ds env = Res.of (methD p x ds) env := rfl
def consK (d : D) (ds : List D) (env : EnvD) : Res (List D) := .ok (d :: ds) env
def evsK (C : CtxD) (es : Es) (d : D) (env : EnvD) : Res (List D) := (evs C es env).bind (consK d)
theorem es_nil : evs C .nil env = .ok [] env := by simp only [evs]
theorem es_cons : evs C (.cons a es) env = (ev C .esc a env).bind (evsK C es) := by simp only [evs]; rfl
theorem evsK_eq : evsK C es d env = (evs C es env).bind (consK d) := rfl
theorem consK_eq : consK d ds env = .ok (d :: ds) env := rfl
def kdsK (C : CtxD) (es : Es) (d : D) (env : EnvD) : Res (List D) := if d.shr || es.cf then (kds C es env).bind (consK d) else .no
theorem kd_nil : kds C .nil env = .ok [] env := by simp only [kds]
theorem kd_cons : kds C (.cons a es) env = (ev C .kd a env).bind (kdsK C es) := by simp only [kds]; rfl
theorem kdsK_eq : kdsK C es d env = if (d.shr || es.cf) = true then (kds C es env).bind (consK d) else .no := rfl
/-! arguments -/
def consA (a : Arg) (as : List Arg) (env : EnvD) : Res (List Arg) := .ok (a :: as) env
def argK (C : CtxD) (ms : List Bool) (es : Es) (d : D) (env : EnvD) : Res (List Arg) := (evArgs C ms es env).bind (consA (.val d))
def argG (C : CtxD) (ms : List Bool) (es : Es) (i : Nat) (env : EnvD) (o : Option (Option D)) : Res (List Arg) := match o with
  | some (some d) => if d.shr then (evArgs C ms.tail es env).bind (consA (.val d))
      else if ms.headD false then (evArgs C ms.tail es env).bind (consA (.slot i))
      else (evArgs C ms.tail es (env.set i (some d.frz))).bind (consA (.val d.frz))
  | _ => .no
theorem a_nil : evArgs C ms .nil env = .ok [] env := by simp only [evArgs]
theorem a_var : evArgs C ms (.cons (.var n) es) env = argG C ms es n env env[n]? := by simp only [evArgs]; rfl
theorem argG_some : argG C ms es n env (some (some d)) = if d.shr = true then (evArgs C ms.tail es env).bind (consA (.val d)) else if ms.headD false = true then (evArgs C ms.tail es env).bind (consA (.slot n)) else (evArgs C ms.tail es (env.set n (some d.frz))).bind (consA (.val d.frz)) := rfl
theorem argK_eq : argK C ms es d env = (evArgs C ms es env).bind (consA (.val d)) := rfl
theorem consA_eq {t : Arg} : consA t as env = .ok (t :: as) env := rfl
theorem a_int {i : Int} : evArgs C ms (.cons (.int i) es) env = (ev C .esc (.int i) env).bind (argK C ms.tail es) := by simp only [evArgs]; rfl
theorem a_str {i : Str} : evArgs C ms (.cons (.str i) es) env = (ev C .esc (.str i) env).bind (argK C ms.tail es) := by simp only [evArgs]; rfl
theorem a_bl {i : Bool} : evArgs C ms (.cons (.bl i) es) env = (ev C .esc (.bl i) env).bind (argK C ms.tail es) := by simp only [evArgs]; rfl
theorem a_non : evArgs C ms (.cons .non es) env = (ev C .esc .non env).bind (argK C ms.tail es) := by simp only [evArgs]; rfl
theorem a_bin : evArgs C ms (.cons (.bin o a b) es) env = (ev C .esc (.bin o a b) env).bind (argK C ms.tail es) := by simp only [evArgs]; rfl
theorem a_neg : evArgs C ms (.cons (.neg a) es) env = (ev C .esc (.neg a) env).bind (argK C ms.tail es) := by simp only [evArgs]; rfl
theorem a_cmp : evArgs C ms (.cons (.cmp q a b) es) env = (ev C .esc (.cmp q a b) env).bind (argK C ms.tail es) := by simp only [evArgs]; rfl
theorem a_ite : evArgs C ms (.cons (.ite c a b) es) env = (ev C .esc (.ite c a b) env).bind (argK C ms.tail es) := by simp only [evArgs]; rfl
theorem a_tup {t : Es} : evArgs C ms (.cons (.tup t) es) env = (ev C .esc (.tup t) env).bind (argK C ms.tail es) := by simp only [evArgs]; rfl
theorem a_lst {t : Es} : evArgs C ms (.cons (.lst t) es) env = (ev C .esc (.lst t) env).bind (argK C ms.tail es) := by simp only [evArgs]; rfl
theorem a_sub : evArgs C ms (.cons (.sub a i) es) env = (ev C .esc (.sub a i) env).bind (argK C ms.tail es) := by simp only [evArgs]; rfl
theorem a_slice {lo hi : Option E} : evArgs C ms (.cons (.slice a lo hi) es) env = (ev C .esc (.slice a lo hi) env).bind (argK C ms.tail es) := by simp only [evArgs]; rfl
theorem a_call {t : Es} : evArgs C ms (.cons (.call f t) es) env = (ev C .esc (.call f t) env).bind (argK C ms.tail es) := by simp only [evArgs]; rfl
theorem a_prim {p : Pr} {t : Es} : evArgs C ms (.cons (.prim p t) es) env = (ev C .esc (.prim p t) env).bind (argK C ms.tail es) := by simp only [evArgs]; rfl
theorem a_meth {p : Mt} {t : Es} : evArgs C ms (.cons (.meth p a t) es) env = (ev C .esc (.meth p a t) env).bind (argK C ms.tail es) := by simp only [evArgs]; rfl
theorem a_comp {t : E} {ow : List Nat} {cd : Option E} : evArgs C ms (.cons (.comp t ow tg it cd) es) env = (ev C .esc (.comp t ow tg it cd) env).bind (argK C ms.tail es) := by simp only [evArgs]; rfl
/-! what is walked -/
def rngK (ds : List D) (env : EnvD) : Res Its := itsOf (rangeD ds) [] env
def overK (p : D × List (Nat × D)) (env : EnvD) : Res Its := itsOf p.1.items p.2 env
def enumK (p : D × List (Nat × D)) (env : EnvD) : Res Its := itsOf (enumD p.1) p.2 env
def revK (p : D × List (Nat × D)) (env : EnvD) : Res Its := itsOf (revD p.1) p.2 env
def zipK2 (p q : D × List (Nat × D)) (env : EnvD) : Res Its := if zipOk p.2 q.2 env then itsOf (zipD p.1 q.1) (p.2 ++ q.2) env else .no
def zipK (C : CtxD) (u : Nat → Bool) (b : E) (p : D × List (Nat × D)) (env : EnvD) : Res Its := (srcOf u b (ev C .esc b env) env).bind (zipK2 p)
def zipU (u : Nat → Bool) (b : E) (k : Nat) : Bool := u k || b.uses k
theorem i_rng : evIt C u (.rng es) env = (evs C es env).bind rngK := by simp only [evIt]; rfl
theorem i_over : evIt C u (.over a) env = (srcOf u a (ev C .esc a env) env).bind overK := by simp only [evIt]; rfl
theorem i_enum : evIt C u (.enum a) env = (srcOf u a (ev C .esc a env) env).bind enumK := by simp only [evIt]; rfl
theorem i_rev : evIt C u (.rev a) env = (srcOf u a (ev C .esc a env) env).bind revK := by simp only [evIt]; rfl
theorem i_zip : evIt C u (.zip a b) env = (srcOf (zipU u b) a (ev C .esc a env) env).bind (zipK C u b) := by simp only [evIt]; rfl
theorem rngK_eq : rngK ds env = itsOf (rangeD ds) [] env := rfl
theorem overK_eq : overK (d, lk) env = itsOf d.items lk env := rfl
theorem enumK_eq : enumK (d, lk) env = itsOf (enumD d) lk env := rfl
theorem revK_eq : revK (d, lk) env = itsOf (revD d) lk env := rfl
theorem zipK_eq {p : D × List (Nat × D)} : zipK C u b p env = (srcOf u b (ev C .esc b env) env).bind (zipK2 p) := rfl
theorem zipK2_eq {lk2 : List (Nat × D)} : zipK2 (d, lk) (x, lk2) env = if zipOk lk lk2 env = true then itsOf (zipD d x) (lk ++ lk2) env else .no := rfl
/-! comprehensions -/
def cdF (C : CtxD) (cd : Option E) : EnvD → Res D := fun e => match cd with
  | some c => (ev C .ts c e).noX
  | none => .ok (.bl true) e
def elF (C : CtxD) (t : E) : EnvD → Res D := fun e => (ev C .esc t e).noX
def cmpE (own : List Nat) (lk : List (Nat × D)) (env1 : EnvD) (xs : List D) (env2 : EnvD) : Res D := .ok (.lst false xs) (putLk lk (putBack own env1 env2))
def compK (C : CtxD) (t : E) (own : List Nat) (tg : Tg) (cd : Option E) (k : Its) (env1 : EnvD) : Res D := (compL own tg (cdF C cd) (elF C t) k.items [] env1).bind (cmpE own k.lk env1)
theorem e_comp {t : E} {ow : List Nat} {cd : Option E} : ev C m (.comp t ow tg it cd) env = fin m ((evIt C (cUses t cd) it env).bind (compK C t ow tg cd)) := by simp only [ev]; rfl
theorem compK_eq {t : E} {ow : List Nat} {cd : Option E} : compK C t ow tg cd ⟨items, lk⟩ env = (compL ow tg (cdF C cd) (elF C t) items [] env).bind (cmpE ow lk env) := rfl
theorem cmpE_eq {ow : List Nat} : cmpE ow lk env ds e = .ok (.lst false ds) (putLk lk (putBack ow env e)) := rfl
theorem cdF_none : cdF C none e = .ok (.bl true) e := rfl
theorem cdF_some : cdF C (some c) e = (ev C .ts c e).noX := rfl
theorem elF_eq : elF C a e = (ev C .esc a e).noX := rfl
theorem noX_ok {α : Type} {t : α} : (Res.ok t e).noX = .ok t e := rfl
/-! statements -/
def seqK (C : CtxD) (na : List Nat) (ss : Ss) : SR → SR
  | .nx e => exs C na ss e
  | r => r
theorem x_nil : exs C na .nil env = .nx env := by simp only [exs]
theorem x_cons : exs C na (.cons s ss) env = seqK C na ss (ex C na s env) := by simp only [exs]; cases ex C na s env <;> rfl
theorem seqK_nx : seqK C na ss (.nx e) = exs C na ss e := rfl
theorem seqK_rt : seqK C na ss (.rt d e) = .rt d e := rfl
theorem seqK_bk : seqK C na ss (.bk e) = .bk e := rfl
theorem seqK_ct : seqK C na ss (.ct e) = .ct e := rfl
def asgK (n : Nat) (d : D) (env : EnvD) : SR := .nx (env.set n (some d))
theorem x_asg : ex C na (.asg n a) env = if na.contains n = true then .no else (ev C .esc a env).toS (asgK n) := by simp only [ex]; rfl
theorem asgK_eq : asgK n d env = .nx (env.set n (some d)) := rfl
theorem x_unp {is : List Nat} : ex C na (.unp is a) env = if free na is = true then (ev C .esc a env).toS (unpS is) else .no := by simp only [ex]
def setK2 (n : Nat) (d k : D) (env : EnvD) : SR := setS n k d env
def setK (C : CtxD) (n : Nat) (i : E) (d : D) (env : EnvD) : SR := if hasD n env then (ev C .esc i env).toS (setK2 n d) else .no
theorem x_setI : ex C na (.setI n i a) env = (ev C .esc a env).toS (setK C n i) := by simp only [ex]; rfl
theorem setK_eq : setK C n i d env = if hasD n env = true then (ev C .esc i env).toS (setK2 n d) else .no := rfl
theorem setK2_eq : setK2 n d x env = setS n x d env := rfl
def insK2 (n : Nat) (k d : D) (env : EnvD) : SR := insS n k d env
def insK (C : CtxD) (n : Nat) (a : E) (k : D) (env : EnvD) : SR := (ev C .esc a env).toS (insK2 n k)
theorem x_ins : ex C na (.ins n i a) env = if isLstD n env = true then (ev C .esc i env).toS (insK C n a) else .no := by simp only [ex]; rfl
theorem insK_eq : insK C n a x env = (ev C .esc a env).toS (insK2 n x) := rfl
theorem insK2_eq : insK2 n x d env = insS n x d env := rfl
def slsK3 (n : Nat) (d a b : D) (env : EnvD) : SR := setSlS n a b d env
def slsK2 (C : CtxD) (n : Nat) (hi : E) (d a : D) (env : EnvD) : SR := (ev C .esc hi env).toS (slsK3 n d a)
def slsK (C : CtxD) (n : Nat) (lo hi : E) (d : D) (env : EnvD) : SR := if hasD n env then (ev C .esc lo env).toS (slsK2 C n hi d) else .no
theorem x_setSl : ex C na (.setSl n a b c) env = (ev C .esc c env).toS (slsK C n a b) := by simp only [ex]; rfl
theorem slsK_eq : slsK C n a b d env = if hasD n env = true then (ev C .esc a env).toS (slsK2 C n b d) else .no := rfl
theorem slsK2_eq : slsK2 C n b d x env = (ev C .esc b env).toS (slsK3 n d x) := rfl
theorem slsK3_eq : slsK3 n d x y env = setSlS n x y d env := rfl
theorem x_app : ex C na (.app n a) env = if isLstD n env = true then (ev C .esc a env).toS (appS n) else .no := by simp only [ex]
def exprK (_ : D) (env : EnvD) : SR := .nx env
theorem x_expr : ex C na (.expr a) env = (ev C .esc a env).toS exprK := by simp only [ex]; rfl
theorem exprK_eq : exprK d env = .nx env := rfl
theorem x_retv : ex C na (.ret (.var n)) env = rGet na n env env[n]? := by simp only [ex]; rfl
def retK (d : D) (env : EnvD) : SR := .rt d env
theorem retK_eq : retK d env = .rt d env := rfl
theorem x_ret (h : ∀ n, a ≠ .var n) : ex C na (.ret a) env = (ev C .esc a env).toS retK := by
  cases a <;> first | exact absurd rfl (h _) | (simp only [ex]; rfl)
def ifK (C : CtxD) (na : List Nat) (sa sb : Ss) (t : D) (env : EnvD) : SR := onBool t (exs C na sa env) (exs C na sb env) .no
theorem x_if : ex C na (.if_ a sa sb) env = (ev C .ts a env).toS (ifK C na sa sb) := by simp only [ex]; rfl
theorem ifK_eq {t : Bool} : ifK C na sa sb (.bl t) env = if t = true then exs C na sa env else exs C na sb env := by cases t <;> rfl
def bodyF (C : CtxD) (na : List Nat) (ss : Ss) : EnvD → SR := fun e => exs C na ss e
theorem bodyF_eq : bodyF C na ss e = exs C na ss e := rfl
def forU (b : Ss) (tg : Tg) (i : Nat) : Bool := b.uses i || tg.slots.contains i
def forK (C : CtxD) (na : List Nat) (tg : Tg) (ss : Ss) (t : Its) (env : EnvD) : SR := if free (t.lk.map (·.1)) tg.slots then (forL tg (bodyF C (t.lk.map (·.1) ++ na) ss) t.items env).env (putLk t.lk) else .no
theorem x_for : ex C na (.for_ tg it ss) env = if free na tg.slots = true then (evIt C (forU ss tg) it env).toS (forK C na tg ss) else .no := by simp only [ex]; rfl
theorem forK_eq : forK C na tg ss ⟨items, lk⟩ env = if free (lk.map (·.1)) tg.slots = true then (forL tg (bodyF C (lk.map (·.1) ++ na) ss) items env).env (putLk lk) else .no := rfl
def tsF (C : CtxD) (a : E) : EnvD → Res D := fun e => ev C .ts a e
theorem tsF_eq : tsF C a e = ev C .ts a e := rfl
theorem x_while : ex C na (.while_ a ss) env = whileF (tsF C a) (bodyF C na ss) C.W env := by simp only [ex]; rfl
theorem x_brk : ex C na .brk env = .bk env := by simp only [ex]
theorem x_cont : ex C na .cont env = .ct env := by simp only [ex]
theorem x_pass : ex C na .pass env = .nx env := by simp only [ex]
end
section
variable {c : EnvD → Res D} {b : EnvD → SR} {n : Nat} {env e e2 : EnvD} {d : D}
theorem whileF_f (h : c env = .ok (.bl false) e) : whileF c b (n + 1) env = .nx e := by simp only [whileF, h, toS_ok, onBool]
theorem whileF_nx (h : c env = .ok (.bl true) e) (h2 : b e = .nx e2) : whileF c b (n + 1) env = whileF c b n e2 := by simp only [whileF, h, toS_ok, onBool, h2]
theorem whileF_rt (h : c env = .ok (.bl true) e) (h2 : b e = .rt d e2) : whileF c b (n + 1) env = .rt d e2 := by simp only [whileF, h, toS_ok, onBool, h2]
end
end VS

end

section
set_option linter.all false
set_option maxRecDepth 100000
namespace VS
open PySem
/-! ## equations for exceptions -/
section
variable {C : CtxD} {m : Mode} {na : List Nat} {env e : EnvD} {c x : Str} {fs : List (Str × D)} {d : D} {ds : List D} {es : Es} {ss b h : Ss} {i : Nat} {n : Nat} {ms : List Bool}
def CtxD.withX (C : CtxD) (p : Nat × Str × List (Str × D)) : CtxD := { C with ex := some p }
theorem bind_exc {α β : Type} {k : α → EnvD → Res β} : (Res.exc c fs e : Res α).bind k = .exc c fs e := rfl
theorem toS_exc {α : Type} {k : α → EnvD → SR} : (Res.exc c fs e : Res α).toS k = .exc c fs e := rfl
theorem fin_exc : fin m (.exc c fs e) = .exc c fs e := by cases m <;> rfl
theorem seqK_exc : seqK C na ss (.exc c fs e) = .exc c fs e := rfl
theorem senv_exc {g : EnvD → EnvD} : (SR.exc c fs e).env g = .exc c fs (g e) := rfl
theorem fF_exc : finF n ms (.exc c fs env) = match parsOf n ms env with
    | some ps => .exc c fs ps
    | none => .no := rfl
theorem e_exIs {ts : List Str} : ev C m (.exIs ts) env = fin m (Res.of (exIsD C ts) env) := by simp only [ev]
theorem e_exFld {f : Str} : ev C m (.exFld f) env = fin m (Res.of (exFldD C f) env) := by simp only [ev]
theorem exIs_eq {p : Nat × Str × List (Str × D)} {ts : List Str} : exIsD (C.withX p) ts = some (.bl (ts.any (C.sub p.2.1))) := rfl
theorem exFld_eq {p : Nat × Str × List (Str × D)} {f : Str} : exFldD (C.withX p) f = p.2.2.lookup f := rfl
def raiseK (C : CtxD) (c : Str) (ds : List D) (env : EnvD) : SR := if ds.length = (C.flds c).length ∧ C.flds c ≠ [] then .exc c ((C.flds c).zip (frzs ds)) env else .no
theorem x_raise : ex C na (.raise c es) env = (evs C es env).toS (raiseK C c) := by simp only [ex]; rfl
theorem raiseK_eq : raiseK C c ds env = if ds.length = (C.flds c).length ∧ C.flds c ≠ [] then .exc c ((C.flds c).zip (frzs ds)) env else .no := rfl
def clr (i : Nat) (e : EnvD) : EnvD := e.set i none
theorem clr_eq : clr i e = e.set i none := rfl
def suiF (C : CtxD) (na : List Nat) (i : Nat) (h : Ss) (k : Str) (fs : List (Str × D)) (e : EnvD) : SR := exs (C.withX (i, k, fs)) (i :: na) h e
theorem suiF_eq : suiF C na i h c fs e = exs (C.withX (i, c, fs)) (i :: na) h e := rfl
def tryK (C : CtxD) (na : List Nat) (i : Nat) (c : Str) (h : Ss) (r : SR) : SR := onExc C c i (suiF C na i h) r
theorem x_try : ex C na (.try_ b i c h) env = if na.contains i = true then .no else tryK C na i c h (exs C na b env) := by simp only [ex]; rfl
theorem tryK_nx : tryK C na i c h (.nx e) = .nx e := rfl
theorem tryK_rt : tryK C na i c h (.rt d e) = .rt d e := rfl
theorem tryK_bk : tryK C na i c h (.bk e) = .bk e := rfl
theorem tryK_ct : tryK C na i c h (.ct e) = .ct e := rfl
def catK (C : CtxD) (na : List Nat) (i : Nat) (h : Ss) (x : Str) (fs : List (Str × D)) (e : EnvD) : Option Bool → SR
  | some true => if i < e.length then (suiF C na i h x fs (clr i e)).noX.env (clr i) else .no
  | some false => .exc x fs e
  | none => .no
theorem tryK_exc : tryK C na i c h (.exc x fs e) = catK C na i h x fs e (C.catch x fs c) := by
  unfold tryK onExc
  simp only
  cases C.catch x fs c with
  | none => rfl
  | some t => cases t <;> rfl
theorem catK_t : catK C na i h x fs e (some true) = if i < e.length then (suiF C na i h x fs (clr i e)).noX.env (clr i) else .no := rfl
theorem catK_f : catK C na i h x fs e (some false) = .exc x fs e := rfl
theorem noX_nx : (SR.nx e).noX = .nx e := rfl
theorem noX_rt : (SR.rt d e).noX = .rt d e := rfl
theorem noX_bk : (SR.bk e).noX = .bk e := rfl
theorem noX_ct : (SR.ct e).noX = .ct e := rfl
theorem zip_c {α β : Type} {a : α} {b : β} {as : List α} {bs : List β} : (a :: as).zip (b :: bs) = (a, b) :: as.zip bs := rfl
theorem zip_n {α β : Type} {bs : List β} : ([] : List α).zip bs = [] := rfl
end
end VS

end

section
set_option maxRecDepth 100000
set_option linter.all false
namespace K13
open PySem VS
/-- check_flag(name, value): 0=name 1=value -/
def b_check_flag : Ss :=
 (.cons (.if_ (.not_ (.prim (.isT ["bool"]) (.cons (.var 1) .nil))) (.cons (.raise "BadRow" (.cons (.var 0) (.cons .non .nil)))
 .nil) .nil)
 (.cons (.ret (.var 1))
 .nil))
def f_check_flag : FnR := ⟨2, [true, true], 2, b_check_flag⟩
def b_run_row_1 : Ss :=
 (.cons (.if_ (.cmp .eq (.var 4) (.str "u")) (.cons (.if_ (.var 0) (.cons (.asg 3 (.bin .add (.var 3) (.int 1)))
 .nil) .nil)
 (.cons (.asg 2 (.bin .add (.var 2) (.int 1)))
 (.cons (.asg 0 (.bl true))
 .nil))) (.cons (.if_ (.not_ (.var 0)) (.cons (.asg 2 (.bin .add (.var 2) (.int 1)))
 .nil) .nil)
 (.cons (.asg 3 (.bin .add (.var 3) (.int 1)))
 (.cons (.asg 0 (.bl false))
 .nil))))
 .nil)
/-- run_row(full, row): 0=full 1=row 2=filled 3=drained 4=sign -/
def b_run_row : Ss :=
 (.cons (.asg 2 (.int 0))
 (.cons (.asg 3 (.int 0))
 (.cons (.for_ (.v 4) (.over (.var 1)) b_run_row_1)
 (.cons (.ret (.tup (.cons (.var 2) (.cons (.var 3) (.cons (.var 0) .nil)))))
 .nil))))
def f_run_row : FnR := ⟨2, [false, true], 5, b_run_row⟩
def b_fills_1 : Ss :=
 (.cons (.if_ (.and_ (.cmp .ne (.var 3) (.str "u")) (.cmp .ne (.var 3) (.str "d"))) (.cons (.raise "BadRow" (.cons (.str "row") (.cons (.var 2) .nil)))
 .nil) .nil)
 .nil)
/-- fills(full, row): 0=full 1=row 2=place 3=sign -/
def b_fills : Ss :=
 (.cons (.expr (.call 0 (.cons (.str "full") (.cons (.var 0) .nil))))
 (.cons (.if_ (.cmp .gt (.prim .len (.cons (.var 1) .nil)) (.int 200)) (.cons (.raise "TooMany" (.cons (.int 200) .nil))
 .nil) .nil)
 (.cons (.for_ (.t [2, 3]) (.enum (.var 1)) b_fills_1)
 (.cons (.ret (.call 1 (.cons (.var 0) (.cons (.var 1) .nil))))
 .nil))))
def f_fills : FnR := ⟨2, [true, true], 4, b_fills⟩
def b_law_box_1 : Ss :=
 (.cons (.asg 4 (.prim .int1 (.cons (.sub (.var 0) (.bin .sub (.bin .sub (.var 2) (.int 1)) (.var 3))) .nil)))
 (.cons (.if_ (.and_ (.cmp .lt (.neg (.bin .pow (.int 10) (.int 18))) (.var 4)) (.cmp .lt (.var 4) (.bin .pow (.int 10) (.int 18)))) (.cons (.asg 4 (.bin .mod (.bin .add (.bin .mul (.var 4) (.int 6364136223846793005)) (.bin .mul (.bin .sub (.var 2) (.var 3)) (.int 1442695040888963407))) (.bin .add (.bin .pow (.int 10) (.int 24)) (.int 7))))
 (.cons (.asg 4 (.bin .mod (.bin .mul (.var 4) (.var 4)) (.bin .add (.bin .pow (.int 10) (.int 24)) (.int 7))))
 .nil)) .nil)
 (.cons (.asg 1 (.bin .add (.bin .mul (.var 1) (.bin .pow (.int 10) (.int 24))) (.bin .mod (.var 4) (.bin .pow (.int 10) (.int 24)))))
 .nil)))
/-- _law_box(script): 0=script 1=pool 2=count 3=k 4=cell -/
def b_law_box : Ss :=
 (.cons (.asg 1 (.int 1))
 (.cons (.asg 2 (.prim .min2 (.cons (.prim .len (.cons (.var 0) .nil)) (.cons (.int 63) .nil))))
 (.cons (.for_ (.v 3) (.rng (.cons (.var 2) .nil)) b_law_box_1)
 (.cons (.ret (.lst (.cons (.var 1) (.cons (.bin .mod (.var 1) (.int 2147483647)) .nil))))
 .nil))))
def f_law_box : FnR := ⟨1, [true], 5, b_law_box⟩
/-- _law_take(box, many): 0=box 1=many 2=digit -/
def b_law_take : Ss :=
 (.cons (.if_ (.cmp .lt (.sub (.var 0) (.int 0)) (.var 1)) (.cons (.setI 0 (.int 1) (.bin .mod (.bin .add (.bin .mul (.sub (.var 0) (.int 1)) (.int 48271)) (.int 12345)) (.int 2147483647)))
 (.cons (.setI 0 (.int 0) (.bin .add (.sub (.var 0) (.int 0)) (.bin .mul (.sub (.var 0) (.int 1)) (.sub (.var 0) (.int 1)))))
 .nil)) .nil)
 (.cons (.asg 2 (.bin .mod (.sub (.var 0) (.int 0)) (.var 1)))
 (.cons (.setI 0 (.int 0) (.bin .fdiv (.sub (.var 0) (.int 0)) (.var 1)))
 (.cons (.ret (.var 2))
 .nil))))
def f_law_take : FnR := ⟨2, [true, true], 3, b_law_take⟩
def b_law_row_1 : Ss :=
 (.cons (.asg 2 (.bin .add (.var 2) (.sub (.str "ud") (.call 4 (.cons (.var 0) (.cons (.int 2) .nil))))))
 .nil)
/-- _law_row(box, size): 0=box 1=size 2=row 3=k -/
def b_law_row : Ss :=
 (.cons (.asg 2 (.str ""))
 (.cons (.for_ (.v 3) (.rng (.cons (.var 1) .nil)) b_law_row_1)
 (.cons (.ret (.var 2))
 .nil)))
def f_law_row : FnR := ⟨2, [true, true], 4, b_law_row⟩
/-- _law_wrong_sign(box): 0=box 1=signs -/
def b_law_wrong_sign : Ss :=
 (.cons (.asg 1 (.str (⟨#[10, 32, 33, 34, 35, 36, 38, 39, 40, 41, 42, 43, 44, 45, 46, 47, 48, 49, 50, 51, 52, 53, 54, 55, 56, 57, 58, 59, 60, 61, 62, 63, 64, 65, 66, 67, 68, 69, 70, 71, 72, 73, 74, 75, 76, 77, 78, 79, 80, 81, 82, 83, 84, 85, 86, 87, 88, 89, 90, 91, 92, 93, 94, 95, 96, 97, 98, 99, 101, 102, 103, 104, 105, 106, 107, 108, 109, 110, 111, 112, 113, 114, 115, 116, 118, 119, 120, 121, 122, 123, 124, 125, 126]⟩ : Str)))
 (.cons (.ret (.sub (.var 1) (.call 4 (.cons (.var 0) (.cons (.prim .len (.cons (.var 1) .nil)) .nil)))))
 .nil))
def f_law_wrong_sign : FnR := ⟨1, [true], 2, b_law_wrong_sign⟩
def b_law_due_1 : Ss :=
 (.cons (.if_ (.cmp .eq (.slice (.var 2) (some (.var 5)) (some (.bin .add (.var 5) (.int 2)))) (.str "dd")) (.cons (.asg 3 (.bin .add (.var 3) (.int 1)))
 .nil) .nil)
 (.cons (.if_ (.cmp .eq (.slice (.var 2) (some (.var 5)) (some (.bin .add (.var 5) (.int 2)))) (.str "uu")) (.cons (.asg 4 (.bin .add (.var 4) (.int 1)))
 .nil) .nil)
 .nil))
/-- _law_due(full, row): 0=full 1=row 2=line 3=filled 4=drained 5=k -/
def b_law_due : Ss :=
 (.cons (.asg 2 (.bin .add (.sub (.str "du") (.prim .int1 (.cons (.var 0) .nil))) (.var 1)))
 (.cons (.asg 3 (.meth .scount (.var 1) (.cons (.str "u") .nil)))
 (.cons (.asg 4 (.meth .scount (.var 1) (.cons (.str "d") .nil)))
 (.cons (.for_ (.v 5) (.rng (.cons (.prim .len (.cons (.var 1) .nil)) .nil)) b_law_due_1)
 (.cons (.ret (.tup (.cons (.var 3) (.cons (.var 4) (.cons (.cmp .eq (.sub (.var 2) (.neg (.int 1))) (.str "u")) .nil)))))
 .nil)))))
def f_law_due : FnR := ⟨2, [true, true], 6, b_law_due⟩
def b_law_same_1 : Ss :=
 (.cons (.if_ (.or_ (.not_ (.prim (.isT ["int"]) (.cons (.sub (.var 0) (.var 2)) .nil))) (.prim (.isT ["bool"]) (.cons (.sub (.var 0) (.var 2)) .nil))) (.cons (.ret (.bl false))
 .nil) .nil)
 .nil)
/-- _law_same(told, due): 0=told 1=due 2=k -/
def b_law_same : Ss :=
 (.cons (.if_ (.or_ (.not_ (.prim (.isT ["tuple"]) (.cons (.var 0) .nil))) (.or_ (.cmp .ne (.prim .len (.cons (.var 0) .nil)) (.int 3)) (.not_ (.prim (.isT ["bool"]) (.cons (.sub (.var 0) (.int 2)) .nil))))) (.cons (.ret (.bl false))
 .nil) .nil)
 (.cons (.for_ (.v 2) (.rng (.cons (.int 2) .nil)) b_law_same_1)
 (.cons (.ret (.cmp .eq (.var 0) (.var 1)))
 .nil)))
def f_law_same : FnR := ⟨2, [true, true], 3, b_law_same⟩
def b_law_refusal_1 : Ss :=
 (.cons (.expr (.call 2 (.cons (.var 0) (.cons (.var 1) .nil))))
 .nil)
def b_law_refusal_2 : Ss :=
 (.cons (.if_ (.exIs ["BadCalendar", "BadCanal", "BadDeed", "BadLevels", "BadWork", "NoWork", "NotClean", "NotPlain", "NotRoomy"]) (.cons (.ret (.tup (.cons (.str "other") .nil)))
 .nil) .nil)
 (.cons (.if_ (.or_ (.exIs ["NothingDone", "ShortWater", "TextError"]) (.not_ (.exIs ["ValueError"]))) (.cons (.ret (.tup (.cons (.str "other") .nil)))
 .nil) .nil)
 (.cons (.if_ (.and_ (.exIs ["TooMany"]) (.not_ (.exIs ["BadRow"]))) (.cons (.ret (.tup (.cons (.str "many") (.cons (.exFld "limit") (.cons (.prim (.isT ["bool"]) (.cons (.exFld "limit") .nil)) .nil)))))
 .nil) .nil)
 (.cons (.if_ (.and_ (.exIs ["BadRow"]) (.not_ (.exIs ["TooMany"]))) (.cons (.ret (.tup (.cons (.str "bad") (.cons (.exFld "name") (.cons (.exFld "place") (.cons (.prim (.isT ["bool"]) (.cons (.exFld "place") .nil)) .nil))))))
 .nil) .nil)
 (.cons (.ret (.tup (.cons (.str "other") .nil)))
 .nil)))))
/-- _law_refusal(full, row): 0=full 1=row 2=e -/
def b_law_refusal : Ss :=
 (.cons (.try_ b_law_refusal_1 2 "CanalError" b_law_refusal_2)
 (.cons (.ret (.tup (.cons (.str "answer") .nil)))
 .nil))
def f_law_refusal : FnR := ⟨2, [false, false], 3, b_law_refusal⟩
def b_law_1 : Ss :=
 (.cons (.if_ (.not_ (.call 8 (.cons (.call 2 (.cons (.var 5) (.cons (.var 4) .nil))) (.cons (.call 7 (.cons (.var 5) (.cons (.var 4) .nil))) .nil)))) (.cons (.ret (.bl false))
 .nil) .nil)
 .nil)
/-- law(script): 0=script 1=box 2=kind 3=size 4=row 5=full 6=place 7=spoilt 8=due 9=longer 10=both 11=wrong -/
def b_law : Ss :=
 (.cons (.asg 1 (.call 3 (.cons (.var 0) .nil)))
 (.cons (.asg 2 (.call 4 (.cons (.var 1) (.cons (.int 8) .nil))))
 (.cons (.asg 3 (.call 4 (.cons (.var 1) (.cons (.int 13) .nil))))
 (.cons (.if_ (.or_ (.cmp .eq (.var 2) (.int 5)) (.cmp .eq (.var 2) (.int 6))) (.cons (.asg 3 (.call 4 (.cons (.var 1) (.cons (.int 201) .nil))))
 .nil) .nil)
 (.cons (.if_ (.cmp .eq (.var 2) (.int 7)) (.cons (.asg 3 (.int 200))
 .nil) .nil)
 (.cons (.asg 4 (.call 5 (.cons (.var 1) (.cons (.var 3) .nil))))
 (.cons (.for_ (.v 5) (.over (.lst (.cons (.bl false) (.cons (.bl true) .nil)))) b_law_1)
 (.cons (.asg 5 (.cmp .eq (.call 4 (.cons (.var 1) (.cons (.int 2) .nil))) (.int 1)))
 (.cons (.asg 6 (.call 4 (.cons (.var 1) (.cons (.bin .add (.var 3) (.int 1)) .nil))))
 (.cons (.asg 7 (.bin .add (.bin .add (.bin .add (.slice (.var 4) none (some (.var 6))) (.call 6 (.cons (.var 1) .nil))) (.slice (.var 4) (some (.var 6)) none)) (.sub (.lst (.cons (.str "") (.cons (.str "x") .nil))) (.call 4 (.cons (.var 1) (.cons (.int 2) .nil))))))
 (.cons (.asg 8 (.tup (.cons (.str "bad") (.cons (.str "row") (.cons (.var 6) (.cons (.bl false) .nil))))))
 (.cons (.if_ (.cmp .gt (.prim .len (.cons (.var 7) .nil)) (.int 200)) (.cons (.asg 8 (.tup (.cons (.str "many") (.cons (.int 200) (.cons (.bl false) .nil)))))
 .nil) .nil)
 (.cons (.if_ (.cmp .ne (.call 9 (.cons (.var 5) (.cons (.var 7) .nil))) (.var 8)) (.cons (.ret (.bl false))
 .nil) .nil)
 (.cons (.asg 9 (.slice (.bin .add (.var 4) (.bin .mul (.str "duu") (.int 100))) none (some (.bin .add (.int 201) (.call 4 (.cons (.var 1) (.cons (.int 60) .nil)))))))
 (.cons (.asg 10 (.bin .add (.bin .add (.slice (.var 9) none (some (.var 6))) (.call 6 (.cons (.var 1) .nil))) (.slice (.var 9) (some (.var 6)) none)))
 (.cons (.if_ (.or_ (.cmp .ne (.call 9 (.cons (.var 5) (.cons (.var 9) .nil))) (.tup (.cons (.str "many") (.cons (.int 200) (.cons (.bl false) .nil))))) (.cmp .ne (.call 9 (.cons (.var 5) (.cons (.var 10) .nil))) (.tup (.cons (.str "many") (.cons (.int 200) (.cons (.bl false) .nil)))))) (.cons (.ret (.bl false))
 .nil) .nil)
 (.cons (.asg 11 (.sub (.lst (.cons (.int 0) (.cons (.int 1) (.cons .non (.cons (.str "") (.cons (.str "u") (.cons (.str "True") (.cons (.neg (.int 1)) (.cons (.lst (.cons (.bl true) .nil)) .nil))))))))) (.call 4 (.cons (.var 1) (.cons (.int 8) .nil)))))
 (.cons (.if_ (.cmp .ne (.call 9 (.cons (.var 11) (.cons (.sub (.lst (.cons (.var 4) (.cons (.var 7) (.cons (.var 10) .nil)))) (.call 4 (.cons (.var 1) (.cons (.int 3) .nil)))) .nil))) (.tup (.cons (.str "bad") (.cons (.str "full") (.cons .non (.cons (.bl false) .nil)))))) (.cons (.ret (.bl false))
 .nil) .nil)
 (.cons (.ret (.call 8 (.cons (.call 2 (.cons (.var 5) (.cons (.var 4) .nil))) (.cons (.call 7 (.cons (.var 5) (.cons (.var 4) .nil))) .nil))))
 .nil)))))))))))))))))))
def f_law : FnR := ⟨1, [true], 12, b_law⟩
def clss : List (Str × List Str × List Str) := [("CanalError", ["CanalError", "ValueError"], []), ("TooMany", ["TooMany", "CanalError", "ValueError"], ["limit"]), ("BadRow", ["BadRow", "CanalError", "ValueError"], ["name", "place"]), ("BadCanal", ["BadCanal", "CanalError", "ValueError"], ["part", "place"]), ("BadLevels", ["BadLevels", "CanalError", "ValueError"], ["levels"]), ("BadDeed", ["BadDeed", "CanalError", "ValueError"], ["deed"]), ("ShortWater", ["ShortWater", "CanalError", "ValueError"], ["kind", "place", "missing"]), ("NothingDone", ["NothingDone", "CanalError", "ValueError"], []), ("NotClean", ["NotClean", "CanalError", "ValueError"], ["place"]), ("NotPlain", ["NotPlain", "CanalError", "ValueError"], []), ("NotRoomy", ["NotRoomy", "CanalError", "ValueError"], []), ("BadCalendar", ["BadCalendar", "CanalError", "ValueError"], ["phase", "day"]), ("BadWork", ["BadWork", "CanalError", "ValueError"], []), ("NoWork", ["NoWork", "CanalError", "ValueError"], ["day"]), ("TextError", ["TextError", "CanalError", "ValueError"], ["line"])]
def prog : Prog := ⟨[f_check_flag, f_run_row, f_fills, f_law_box, f_law_take, f_law_row, f_law_wrong_sign, f_law_due, f_law_same, f_law_refusal, f_law], clss⟩
end K13

end

section
set_option maxRecDepth 100000
set_option linter.all false
namespace K13
open PySem VS
variable {W n : Nat}
theorem r_check_flag (a0 a1 : D) : callN prog W (n + 1) 0 [a0, a1] = finF 2 [true, true] (exs (cx prog W n) [0, 1] b_check_flag [some a0, some a1]) := call_fr (fr := f_check_flag) rfl rfl rfl rfl rfl
theorem k_check_flag : (cx prog W n).mask 0 = [true, true] := rfl
theorem r_run_row (a0 a1 : D) : callN prog W (n + 1) 1 [a0, a1] = finF 2 [false, true] (exs (cx prog W n) [1] b_run_row [some a0, some a1, none, none, none]) := call_fr (fr := f_run_row) rfl rfl rfl rfl rfl
theorem k_run_row : (cx prog W n).mask 1 = [false, true] := rfl
theorem r_fills (a0 a1 : D) : callN prog W (n + 1) 2 [a0, a1] = finF 2 [true, true] (exs (cx prog W n) [0, 1] b_fills [some a0, some a1, none, none]) := call_fr (fr := f_fills) rfl rfl rfl rfl rfl
theorem k_fills : (cx prog W n).mask 2 = [true, true] := rfl
theorem r_law_box (a0 : D) : callN prog W (n + 1) 3 [a0] = finF 1 [true] (exs (cx prog W n) [0] b_law_box [some a0, none, none, none, none]) := call_fr (fr := f_law_box) rfl rfl rfl rfl rfl
theorem k_law_box : (cx prog W n).mask 3 = [true] := rfl
theorem r_law_take (a0 a1 : D) : callN prog W (n + 1) 4 [a0, a1] = finF 2 [true, true] (exs (cx prog W n) [0, 1] b_law_take [some a0, some a1, none]) := call_fr (fr := f_law_take) rfl rfl rfl rfl rfl
theorem k_law_take : (cx prog W n).mask 4 = [true, true] := rfl
theorem r_law_row (a0 a1 : D) : callN prog W (n + 1) 5 [a0, a1] = finF 2 [true, true] (exs (cx prog W n) [0, 1] b_law_row [some a0, some a1, none, none]) := call_fr (fr := f_law_row) rfl rfl rfl rfl rfl
theorem k_law_row : (cx prog W n).mask 5 = [true, true] := rfl
theorem r_law_wrong_sign (a0 : D) : callN prog W (n + 1) 6 [a0] = finF 1 [true] (exs (cx prog W n) [0] b_law_wrong_sign [some a0, none]) := call_fr (fr := f_law_wrong_sign) rfl rfl rfl rfl rfl
theorem k_law_wrong_sign : (cx prog W n).mask 6 = [true] := rfl
theorem r_law_due (a0 a1 : D) : callN prog W (n + 1) 7 [a0, a1] = finF 2 [true, true] (exs (cx prog W n) [0, 1] b_law_due [some a0, some a1, none, none, none, none]) := call_fr (fr := f_law_due) rfl rfl rfl rfl rfl
theorem k_law_due : (cx prog W n).mask 7 = [true, true] := rfl
theorem r_law_same (a0 a1 : D) : callN prog W (n + 1) 8 [a0, a1] = finF 2 [true, true] (exs (cx prog W n) [0, 1] b_law_same [some a0, some a1, none]) := call_fr (fr := f_law_same) rfl rfl rfl rfl rfl
theorem k_law_same : (cx prog W n).mask 8 = [true, true] := rfl
theorem r_law_refusal (a0 a1 : D) : callN prog W (n + 1) 9 [a0, a1] = finF 2 [false, false] (exs (cx prog W n) [] b_law_refusal [some a0, some a1, none]) := call_fr (fr := f_law_refusal) rfl rfl rfl rfl rfl
theorem k_law_refusal : (cx prog W n).mask 9 = [false, false] := rfl
theorem r_law (a0 : D) : callN prog W (n + 1) 10 [a0] = finF 1 [true] (exs (cx prog W n) [0] b_law [some a0, none, none, none, none, none, none, none, none, none, none, none]) := call_fr (fr := f_law) rfl rfl rfl rfl rfl
theorem k_law : (cx prog W n).mask 10 = [true] := rfl
theorem fl_BadRow : (cx prog W n).flds ("BadRow" : Str) = (["name", "place"] : List Str) := rfl
theorem ct_BadRow_CanalError {d0 d1 : D} : (cx prog W n).catch ("BadRow" : Str) [(("name" : Str), d0), (("place" : Str), d1)] ("CanalError" : Str) = some true := rfl
theorem sb_BadRow_BadCalendar : (cx prog W n).sub ("BadRow" : Str) ("BadCalendar" : Str) = false := rfl
theorem sb_BadRow_BadCanal : (cx prog W n).sub ("BadRow" : Str) ("BadCanal" : Str) = false := rfl
theorem sb_BadRow_BadDeed : (cx prog W n).sub ("BadRow" : Str) ("BadDeed" : Str) = false := rfl
theorem sb_BadRow_BadLevels : (cx prog W n).sub ("BadRow" : Str) ("BadLevels" : Str) = false := rfl
theorem sb_BadRow_BadRow : (cx prog W n).sub ("BadRow" : Str) ("BadRow" : Str) = true := rfl
theorem sb_BadRow_BadWork : (cx prog W n).sub ("BadRow" : Str) ("BadWork" : Str) = false := rfl
theorem sb_BadRow_NoWork : (cx prog W n).sub ("BadRow" : Str) ("NoWork" : Str) = false := rfl
theorem sb_BadRow_NotClean : (cx prog W n).sub ("BadRow" : Str) ("NotClean" : Str) = false := rfl
theorem sb_BadRow_NotPlain : (cx prog W n).sub ("BadRow" : Str) ("NotPlain" : Str) = false := rfl
theorem sb_BadRow_NotRoomy : (cx prog W n).sub ("BadRow" : Str) ("NotRoomy" : Str) = false := rfl
theorem sb_BadRow_NothingDone : (cx prog W n).sub ("BadRow" : Str) ("NothingDone" : Str) = false := rfl
theorem sb_BadRow_ShortWater : (cx prog W n).sub ("BadRow" : Str) ("ShortWater" : Str) = false := rfl
theorem sb_BadRow_TextError : (cx prog W n).sub ("BadRow" : Str) ("TextError" : Str) = false := rfl
theorem sb_BadRow_TooMany : (cx prog W n).sub ("BadRow" : Str) ("TooMany" : Str) = false := rfl
theorem sb_BadRow_ValueError : (cx prog W n).sub ("BadRow" : Str) ("ValueError" : Str) = true := rfl
theorem xf_BadRow_name {C : CtxD} {i : Nat} {d0 d1 : D} : exFldD (C.withX (i, ("BadRow" : Str), [(("name" : Str), d0), (("place" : Str), d1)])) ("name" : Str) = some d0 := rfl
theorem xf_BadRow_place {C : CtxD} {i : Nat} {d0 d1 : D} : exFldD (C.withX (i, ("BadRow" : Str), [(("name" : Str), d0), (("place" : Str), d1)])) ("place" : Str) = some d1 := rfl
theorem fl_TooMany : (cx prog W n).flds ("TooMany" : Str) = (["limit"] : List Str) := rfl
theorem ct_TooMany_CanalError {d0 : D} : (cx prog W n).catch ("TooMany" : Str) [(("limit" : Str), d0)] ("CanalError" : Str) = some true := rfl
theorem sb_TooMany_BadCalendar : (cx prog W n).sub ("TooMany" : Str) ("BadCalendar" : Str) = false := rfl
theorem sb_TooMany_BadCanal : (cx prog W n).sub ("TooMany" : Str) ("BadCanal" : Str) = false := rfl
theorem sb_TooMany_BadDeed : (cx prog W n).sub ("TooMany" : Str) ("BadDeed" : Str) = false := rfl
theorem sb_TooMany_BadLevels : (cx prog W n).sub ("TooMany" : Str) ("BadLevels" : Str) = false := rfl
theorem sb_TooMany_BadRow : (cx prog W n).sub ("TooMany" : Str) ("BadRow" : Str) = false := rfl
theorem sb_TooMany_BadWork : (cx prog W n).sub ("TooMany" : Str) ("BadWork" : Str) = false := rfl
theorem sb_TooMany_NoWork : (cx prog W n).sub ("TooMany" : Str) ("NoWork" : Str) = false := rfl
theorem sb_TooMany_NotClean : (cx prog W n).sub ("TooMany" : Str) ("NotClean" : Str) = false := rfl
theorem sb_TooMany_NotPlain : (cx prog W n).sub ("TooMany" : Str) ("NotPlain" : Str) = false := rfl
theorem sb_TooMany_NotRoomy : (cx prog W n).sub ("TooMany" : Str) ("NotRoomy" : Str) = false := rfl
theorem sb_TooMany_NothingDone : (cx prog W n).sub ("TooMany" : Str) ("NothingDone" : Str) = false := rfl
theorem sb_TooMany_ShortWater : (cx prog W n).sub ("TooMany" : Str) ("ShortWater" : Str) = false := rfl
theorem sb_TooMany_TextError : (cx prog W n).sub ("TooMany" : Str) ("TextError" : Str) = false := rfl
theorem sb_TooMany_TooMany : (cx prog W n).sub ("TooMany" : Str) ("TooMany" : Str) = true := rfl
theorem sb_TooMany_ValueError : (cx prog W n).sub ("TooMany" : Str) ("ValueError" : Str) = true := rfl
theorem xf_TooMany_limit {C : CtxD} {i : Nat} {d0 : D} : exFldD (C.withX (i, ("TooMany" : Str), [(("limit" : Str), d0)])) ("limit" : Str) = some d0 := rfl
theorem cx_call {i : Nat} {ts : List D} : (cx prog W n).call i ts = callN prog W n i ts := rfl
end K13

end

section
set_option maxRecDepth 100000
set_option linter.all false
namespace K13
open PySem VS
variable {W n : Nat}
theorem mulR {i j : Int} (h : j.natAbs < 2 ^ 64) : mulOk i j = true := by
  unfold mulOk
  rw [decide_eq_true h]
  simp
theorem mulL {i j : Int} (h : i.natAbs < 2 ^ 64) : mulOk i j = true := by
  unfold mulOk
  rw [decide_eq_true h]
  simp
theorem log_lt {m k : Nat} (h : m < 2 ^ k) (hk : 0 < k) : m.log2 < k := by
  by_cases c : m = 0
  · subst c; simpa using hk
  · exact (Nat.log2_lt c).mpr h
theorem mulB {i j : Int} (hi : i.natAbs < 2 ^ 100000) (hj : j.natAbs < 2 ^ 100000) : mulOk i j = true := by
  unfold mulOk
  have a := log_lt hi (by omega)
  have b := log_lt hj (by omega)
  rw [decide_eq_true (show i.natAbs.log2 + j.natAbs.log2 < 1000000 by omega)]
  simp
theorem fdL {i j : Int} (h1 : 0 < j) (h2 : j.natAbs.log2 < 9000) : bop .fdiv (.int i) (.int j) = some (.int (i / j)) := if_pos ⟨h1, h2⟩
theorem pow18 : bop .pow (.int 10) (.int 18) = some (.int 1000000000000000000) := by
  show (if 0 ≤ (18 : Int) ∧ (18 : Int) ≤ 1000000 ∧ (10 : Int).natAbs < 2 ^ 64 then some (D.int ((10 : Int) ^ (18 : Int).toNat)) else none) = _
  rw [if_pos (by decide)]
  rfl
theorem pow24 : bop .pow (.int 10) (.int 24) = some (.int 1000000000000000000000000) := by
  show (if 0 ≤ (24 : Int) ∧ (24 : Int) ≤ 1000000 ∧ (10 : Int).natAbs < 2 ^ 64 then some (D.int ((10 : Int) ^ (24 : Int).toNat)) else none) = _
  rw [if_pos (by decide)]
  rfl
theorem ap0 {a b : D} : L2.atI [a, b] 0 = some a := rfl
theorem ap1 {a b : D} : L2.atI [a, b] 1 = some b := rfl
theorem ix20 : L2.ixN 2 0 = some 0 := rfl
theorem ix21 : L2.ixN 2 1 = some 1 := rfl
theorem p_intT : prim .int1 [.bl true] = some (.int 1) := rfl
theorem p_intF : prim .int1 [.bl false] = some (.int 0) := rfl

end K13

end

section
set_option maxRecDepth 100000
set_option linter.all false
namespace K13
open PySem VS
variable {W n : Nat}
/-- the box of drawn digits -/
def boxD (a b : Int) : D := .lst false [.int a, .int b]
theorem i_law_take (a b many : Int) (a0 : 0 ≤ a) (b0 : 0 ≤ b) (b1 : b < 2147483647) (m0 : 0 < many) (m1 : many ≤ 1000000000) : ∃ a' b' d, 0 ≤ a' ∧ 0 ≤ b' ∧ b' < 2147483647 ∧ 0 ≤ d ∧ d < many ∧ callN prog W (n + 1) 4 [boxD a b, .int many] = .ok (.int d) [boxD a' b', .int many] := by
  have hm : (0 < many) = True := eq_true m0
  have hl : many.natAbs.log2 < 9000 := log_lt (k := 9000) (Nat.lt_of_lt_of_le (show many.natAbs < 2 ^ 30 by omega) (Nat.pow_le_pow_right (by decide) (by decide))) (by decide)
  have dm := fun z : Int => Int.emod_nonneg z (show many ≠ 0 by omega)
  have dl := fun z : Int => Int.emod_lt_of_pos z m0
  have dd := fun (z : Int) (h : 0 ≤ z) => Int.ediv_nonneg h (show (0 : Int) ≤ many by omega)
  unfold boxD
  rw [r_law_take]
  by_cases c : a < many
  · obtain ⟨b', hb⟩ : ∃ b', (b * 48271 + 12345) % 2147483647 = b' := ⟨_, rfl⟩
    have h1 : 0 ≤ b' := by omega
    have h2 : b' < 2147483647 := by omega
    have hmul : mulOk b' b' = true := mulR (by omega)
    have hsq : 0 ≤ b' * b' := Int.mul_nonneg h1 h1
    exact ⟨_, b', _, dd (a + b' * b') (by omega), h1, h2, dm (a + b' * b'), dl _, by simp only [bind_ok, of_some, toS_ok, fin_esc, fin_rd, fin_kd, fin_ts, e_non, e_bl, e_int, e_str, e_var, lft_t, lft_f, frzR_ok, e_bin, binK_eq, binK2_eq, e_neg, e_cmp, cmpK_eq, cmpK2_eq, e_cmp2, c2K_eq, c2K2_eq, c2K3_eq, e_isN, isNK_eq, e_andT, e_andV, e_orT, e_orV, e_notT, e_notV, andT_eq, andV_eq, orT_eq, orV_eq, notT_eq, notV_eq, e_ite, iteK_eq, e_tup, e_lst, tupK_eq, lstK_eq, e_sub, subK_eq, subK2_eq, subJ_eq, subJ2_eq, e_slice, slK_eq, slK2_eq, slK3_eq, slP_none, slP_some, e_call, e_prim, primK_eq, e_meth, methK_eq, methK2_eq, mtOk, a_meth, cop_in, cop_notin, es_nil, es_cons, evsK_eq, consK_eq, kd_nil, kd_cons, kdsK_eq, a_nil, a_var, argG_some, argK_eq, consA_eq, a_int, a_str, a_bl, a_non, a_bin, a_neg, a_cmp, a_ite, a_tup, a_lst, a_sub, a_slice, a_call, a_prim, a_comp, i_rng, i_over, i_enum, i_rev, i_zip, rngK_eq, overK_eq, enumK_eq, revK_eq, zipK_eq, zipK2_eq, e_comp, compK_eq, cmpE_eq, noX_ok, x_nil, x_cons, seqK_nx, seqK_rt, seqK_bk, seqK_ct, x_asg, asgK_eq, x_unp, x_setI, setK_eq, setK2_eq, x_app, x_expr, exprK_eq, x_retv, retK_eq, x_ret, x_if, ifK_eq, bodyF_eq, x_for, forK_eq, tsF_eq, x_while, x_brk, x_cont, x_pass, vGet_rd, vGet_esc, vGet_kd, vGet_ts, onPart_esc, onPart_rd, onPart_kd, onPart_ts, shr_int, shr_bl, shr_non, shr_str, shr_lst, shr_tup, shrs_nil, shrs_cons, shrK_int, shrK_bl, shrK_non, shrK_str, shrK_lst, shrK_tup, frzK_int, frzK_bl, frzK_non, frzK_str, frzK_lst, frzK_tup, frz_lst, frz_tup, frz_int, frz_bl, frz_non, frz_str, frzs_nil, frzs_cons, truth_bl, truth_int, truth_lst, truth_tup, truth_non, map_some, b_add, b_sub, b_mul, b_mod, b_lst, b_tup, c_lt, c_le, c_gt, c_ge, c_eq, c_ne, eqD_int, p_len_l, p_len_t, p_int, p_min2, p_max2, p_sum_l, p_sum_t, p_tup_l, p_tup_t, p_lst_l, p_lst_t, p_isT, s_lst, s_tup, onOB_some, vNeg_int, vInt_ok, setTg_v, isNon_int, isNon_non, shrs_iL, frzs_iL, ints_iL, E.place, E.root, E.cf, Es.cf, List.getElem?_cons_zero, List.getElem?_cons_succ, List.set_cons_zero, List.set_cons_succ, List.headD_cons, List.tail_cons, Bool.true_and, Bool.and_true, Bool.true_or, Bool.or_true, Bool.false_and, Bool.and_false, Bool.false_or, Bool.or_false, ite_true, ite_false, if_true, if_false, Bool.false_eq_true, List.length_cons, List.length_nil, List.contains_eq_mem, List.mem_cons, List.not_mem_nil, decide_eq_true_eq, or_false, false_or, or_true, true_or, and_true, true_and, and_self, not_false_eq_true, not_true_eq_false, fF_rt, fF_nx, pars_t, pars_f, pars_0, Nat.reduceEqDiff, callA, slotsOf, treesOf, VS.backTo, List.nodup_cons, List.nodup_nil, cx_call, rGet_some, hasD_eq, hasO_some, isLstD_eq, isLO_some, setS_eq, setO_some, appS_eq, appO_some, unpS_tup, unpS_lst, srcVar_eq, sGet_some, srcOf_var, srcOf_call, srcOf_sub, srcOf_lst, srcOf_slice, srcOf_prim, vSrc_t, vSrc_f, itsOf_some, items_lst, items_tup, enumD_lst, enumD_tup, rangeD_1, rangeD_2, senv_nx, senv_rt, putLk_nil, putLk_cons, free, List.all_cons, List.all_nil, Tg.slots, List.zip_cons_cons, List.zip_nil_right, List.foldl_cons, List.foldl_nil, List.map_nil, List.map_cons, List.append_nil, List.nil_append, List.cons_append, isTys, isTy, Bool.not_true, Bool.not_false, Bool.not_eq_true, decide_true, decide_false, List.length_map, ne_eq, reduceCtorEq, Nat.reduceBEq, Nat.reduceAdd, Nat.zero_add, Nat.reduceLeDiff, Nat.reduceLT, Int.reduceLT, Int.reduceLE, Int.reduceNeg, le_sz, lt_sz, forall_const, implies_true, bind_exc, toS_exc, fin_exc, seqK_exc, senv_exc, fF_exc, e_exIs, e_exFld, exIs_eq, x_raise, raiseK_eq, clr_eq, suiF_eq, x_try, tryK_nx, tryK_rt, tryK_bk, tryK_ct, tryK_exc, catK_t, catK_f, noX_nx, noX_rt, noX_bk, noX_ct, zip_c, zip_n, x_ins, insK_eq, insK2_eq, insS_eq, insO_some, x_setSl, slsK_eq, slsK2_eq, slsK3_eq, setSlS_eq, setSlO_some, c_is, c_isnt, List.any_cons, List.any_nil, k_check_flag, k_run_row, k_fills, k_law_box, k_law_take, k_law_row, k_law_wrong_sign, k_law_due, k_law_same, k_law_refusal, k_law, b_law_take, ap0, ap1, ix20, ix21, c, hm, hb, hmul, mulR (j := 48271) (by decide), fdL m0 hl]⟩
  · exact ⟨_, b, _, dd _ a0, b0, b1, dm a, dl a, by simp only [bind_ok, of_some, toS_ok, fin_esc, fin_rd, fin_kd, fin_ts, e_non, e_bl, e_int, e_str, e_var, lft_t, lft_f, frzR_ok, e_bin, binK_eq, binK2_eq, e_neg, e_cmp, cmpK_eq, cmpK2_eq, e_cmp2, c2K_eq, c2K2_eq, c2K3_eq, e_isN, isNK_eq, e_andT, e_andV, e_orT, e_orV, e_notT, e_notV, andT_eq, andV_eq, orT_eq, orV_eq, notT_eq, notV_eq, e_ite, iteK_eq, e_tup, e_lst, tupK_eq, lstK_eq, e_sub, subK_eq, subK2_eq, subJ_eq, subJ2_eq, e_slice, slK_eq, slK2_eq, slK3_eq, slP_none, slP_some, e_call, e_prim, primK_eq, e_meth, methK_eq, methK2_eq, mtOk, a_meth, cop_in, cop_notin, es_nil, es_cons, evsK_eq, consK_eq, kd_nil, kd_cons, kdsK_eq, a_nil, a_var, argG_some, argK_eq, consA_eq, a_int, a_str, a_bl, a_non, a_bin, a_neg, a_cmp, a_ite, a_tup, a_lst, a_sub, a_slice, a_call, a_prim, a_comp, i_rng, i_over, i_enum, i_rev, i_zip, rngK_eq, overK_eq, enumK_eq, revK_eq, zipK_eq, zipK2_eq, e_comp, compK_eq, cmpE_eq, noX_ok, x_nil, x_cons, seqK_nx, seqK_rt, seqK_bk, seqK_ct, x_asg, asgK_eq, x_unp, x_setI, setK_eq, setK2_eq, x_app, x_expr, exprK_eq, x_retv, retK_eq, x_ret, x_if, ifK_eq, bodyF_eq, x_for, forK_eq, tsF_eq, x_while, x_brk, x_cont, x_pass, vGet_rd, vGet_esc, vGet_kd, vGet_ts, onPart_esc, onPart_rd, onPart_kd, onPart_ts, shr_int, shr_bl, shr_non, shr_str, shr_lst, shr_tup, shrs_nil, shrs_cons, shrK_int, shrK_bl, shrK_non, shrK_str, shrK_lst, shrK_tup, frzK_int, frzK_bl, frzK_non, frzK_str, frzK_lst, frzK_tup, frz_lst, frz_tup, frz_int, frz_bl, frz_non, frz_str, frzs_nil, frzs_cons, truth_bl, truth_int, truth_lst, truth_tup, truth_non, map_some, b_add, b_sub, b_mul, b_mod, b_lst, b_tup, c_lt, c_le, c_gt, c_ge, c_eq, c_ne, eqD_int, p_len_l, p_len_t, p_int, p_min2, p_max2, p_sum_l, p_sum_t, p_tup_l, p_tup_t, p_lst_l, p_lst_t, p_isT, s_lst, s_tup, onOB_some, vNeg_int, vInt_ok, setTg_v, isNon_int, isNon_non, shrs_iL, frzs_iL, ints_iL, E.place, E.root, E.cf, Es.cf, List.getElem?_cons_zero, List.getElem?_cons_succ, List.set_cons_zero, List.set_cons_succ, List.headD_cons, List.tail_cons, Bool.true_and, Bool.and_true, Bool.true_or, Bool.or_true, Bool.false_and, Bool.and_false, Bool.false_or, Bool.or_false, ite_true, ite_false, if_true, if_false, Bool.false_eq_true, List.length_cons, List.length_nil, List.contains_eq_mem, List.mem_cons, List.not_mem_nil, decide_eq_true_eq, or_false, false_or, or_true, true_or, and_true, true_and, and_self, not_false_eq_true, not_true_eq_false, fF_rt, fF_nx, pars_t, pars_f, pars_0, Nat.reduceEqDiff, callA, slotsOf, treesOf, VS.backTo, List.nodup_cons, List.nodup_nil, cx_call, rGet_some, hasD_eq, hasO_some, isLstD_eq, isLO_some, setS_eq, setO_some, appS_eq, appO_some, unpS_tup, unpS_lst, srcVar_eq, sGet_some, srcOf_var, srcOf_call, srcOf_sub, srcOf_lst, srcOf_slice, srcOf_prim, vSrc_t, vSrc_f, itsOf_some, items_lst, items_tup, enumD_lst, enumD_tup, rangeD_1, rangeD_2, senv_nx, senv_rt, putLk_nil, putLk_cons, free, List.all_cons, List.all_nil, Tg.slots, List.zip_cons_cons, List.zip_nil_right, List.foldl_cons, List.foldl_nil, List.map_nil, List.map_cons, List.append_nil, List.nil_append, List.cons_append, isTys, isTy, Bool.not_true, Bool.not_false, Bool.not_eq_true, decide_true, decide_false, List.length_map, ne_eq, reduceCtorEq, Nat.reduceBEq, Nat.reduceAdd, Nat.zero_add, Nat.reduceLeDiff, Nat.reduceLT, Int.reduceLT, Int.reduceLE, Int.reduceNeg, le_sz, lt_sz, forall_const, implies_true, bind_exc, toS_exc, fin_exc, seqK_exc, senv_exc, fF_exc, e_exIs, e_exFld, exIs_eq, x_raise, raiseK_eq, clr_eq, suiF_eq, x_try, tryK_nx, tryK_rt, tryK_bk, tryK_ct, tryK_exc, catK_t, catK_f, noX_nx, noX_rt, noX_bk, noX_ct, zip_c, zip_n, x_ins, insK_eq, insK2_eq, insS_eq, insO_some, x_setSl, slsK_eq, slsK2_eq, slsK3_eq, setSlS_eq, setSlO_some, c_is, c_isnt, List.any_cons, List.any_nil, k_check_flag, k_run_row, k_fills, k_law_box, k_law_take, k_law_row, k_law_wrong_sign, k_law_due, k_law_same, k_law_refusal, k_law, b_law_take, ap0, ap1, ix20, ix21, c, hm, fdL m0 hl]⟩
theorem i_law_box (ns : List Int) (hn : ns.length ≤ 63) : ∃ a b, 0 ≤ a ∧ 0 ≤ b ∧ b < 2147483647 ∧ callN prog W (n + 1) 3 [.lst true (iL ns)] = .ok (boxD a b) [.lst true (iL ns)] := by
  have p7 : ((0 : Int) < 1000000000000000000000000 + 7) = True := eq_true (by decide)
  have hp24 : (1000000000000000000000000 : Int).natAbs < 2 ^ 100000 := Nat.lt_of_lt_of_le (show (1000000000000000000000000 : Int).natAbs < 2 ^ 80 by decide) (Nat.pow_le_pow_right (by decide) (by decide))
  have loop := forL_rng (tg := .v 3) (lo := 0) (n := ns.length) (body := bodyF (cx prog W n) [0] b_law_box_1) (fun k e => ∃ (N : Nat) (y3 y4 : Option D), N < 2 ^ (80 * (k + 1)) ∧ e = [some (.lst true (iL ns)), some (.int (N : Nat)), some (.int (ns.length : Nat)), y3, y4]) (fun k env hk ⟨N, y3, y4, hN, he⟩ => by
    subst he
    have at_ := atI_iL (l := ns) (i := (ns.length : Int) - 1 - (k : Nat)) (by omega) (by omega)
    obtain ⟨c, hc⟩ : ∃ c, gI ns ((ns.length : Int) - 1 - (k : Nat)) = c := ⟨_, rfl⟩
    rw [hc] at at_
    have hNb : ((N : Nat) : Int).natAbs < 2 ^ 100000 := by
      rw [Int.natAbs_natCast]
      exact Nat.lt_of_lt_of_le hN (Nat.pow_le_pow_right (by decide) (by omega))
    have hmul : mulOk ((N : Nat) : Int) 1000000000000000000000000 = true := mulB hNb hp24
    have next : ∀ r : Int, 0 ≤ r → r < 1000000000000000000000000 → ∃ M : Nat, M < 2 ^ (80 * (k + 1 + 1)) ∧ ((N : Nat) : Int) * 1000000000000000000000000 + r = (M : Nat) := fun r r0 r1 => by
      refine ⟨(((N : Nat) : Int) * 1000000000000000000000000 + r).toNat, ?_, by omega⟩
      obtain ⟨A, hA⟩ : ∃ A, 2 ^ (80 * (k + 1)) = A := ⟨_, rfl⟩
      have e : 2 ^ (80 * (k + 1 + 1)) = A * 1208925819614629174706176 := by
        rw [show 80 * (k + 1 + 1) = 80 * (k + 1) + 80 by omega, Nat.pow_add, hA]
      rw [e]
      rw [hA] at hN
      omega
    by_cases c1 : -1000000000000000000 < c
    · by_cases c2 : c < 1000000000000000000
      · obtain ⟨e, he⟩ : ∃ e, (c * 6364136223846793005 + ((ns.length : Int) - (k : Nat)) * 1442695040888963407) % (1000000000000000000000000 + 7) = e := ⟨_, rfl⟩
        have e0 : 0 ≤ e := by omega
        have e1 : e < 1000000000000000000000007 := by omega
        have hee : mulOk e e = true := by
          have : e.natAbs < 2 ^ 100000 := Nat.lt_of_lt_of_le (show e.natAbs < 2 ^ 80 by omega) (Nat.pow_le_pow_right (by decide) (by decide))
          exact mulB this this
        obtain ⟨f, hf⟩ : ∃ f, e * e % (1000000000000000000000000 + 7) = f := ⟨_, rfl⟩
        obtain ⟨M, hM, eM⟩ := next (f % 1000000000000000000000000) (by omega) (by omega)
        exact ⟨_, _, rfl, by simp only [bind_ok, of_some, toS_ok, fin_esc, fin_rd, fin_kd, fin_ts, e_non, e_bl, e_int, e_str, e_var, lft_t, lft_f, frzR_ok, e_bin, binK_eq, binK2_eq, e_neg, e_cmp, cmpK_eq, cmpK2_eq, e_cmp2, c2K_eq, c2K2_eq, c2K3_eq, e_isN, isNK_eq, e_andT, e_andV, e_orT, e_orV, e_notT, e_notV, andT_eq, andV_eq, orT_eq, orV_eq, notT_eq, notV_eq, e_ite, iteK_eq, e_tup, e_lst, tupK_eq, lstK_eq, e_sub, subK_eq, subK2_eq, subJ_eq, subJ2_eq, e_slice, slK_eq, slK2_eq, slK3_eq, slP_none, slP_some, e_call, e_prim, primK_eq, e_meth, methK_eq, methK2_eq, mtOk, a_meth, cop_in, cop_notin, es_nil, es_cons, evsK_eq, consK_eq, kd_nil, kd_cons, kdsK_eq, a_nil, a_var, argG_some, argK_eq, consA_eq, a_int, a_str, a_bl, a_non, a_bin, a_neg, a_cmp, a_ite, a_tup, a_lst, a_sub, a_slice, a_call, a_prim, a_comp, i_rng, i_over, i_enum, i_rev, i_zip, rngK_eq, overK_eq, enumK_eq, revK_eq, zipK_eq, zipK2_eq, e_comp, compK_eq, cmpE_eq, noX_ok, x_nil, x_cons, seqK_nx, seqK_rt, seqK_bk, seqK_ct, x_asg, asgK_eq, x_unp, x_setI, setK_eq, setK2_eq, x_app, x_expr, exprK_eq, x_retv, retK_eq, x_ret, x_if, ifK_eq, bodyF_eq, x_for, forK_eq, tsF_eq, x_while, x_brk, x_cont, x_pass, vGet_rd, vGet_esc, vGet_kd, vGet_ts, onPart_esc, onPart_rd, onPart_kd, onPart_ts, shr_int, shr_bl, shr_non, shr_str, shr_lst, shr_tup, shrs_nil, shrs_cons, shrK_int, shrK_bl, shrK_non, shrK_str, shrK_lst, shrK_tup, frzK_int, frzK_bl, frzK_non, frzK_str, frzK_lst, frzK_tup, frz_lst, frz_tup, frz_int, frz_bl, frz_non, frz_str, frzs_nil, frzs_cons, truth_bl, truth_int, truth_lst, truth_tup, truth_non, map_some, b_add, b_sub, b_mul, b_mod, b_lst, b_tup, c_lt, c_le, c_gt, c_ge, c_eq, c_ne, eqD_int, p_len_l, p_len_t, p_int, p_min2, p_max2, p_sum_l, p_sum_t, p_tup_l, p_tup_t, p_lst_l, p_lst_t, p_isT, s_lst, s_tup, onOB_some, vNeg_int, vInt_ok, setTg_v, isNon_int, isNon_non, shrs_iL, frzs_iL, ints_iL, E.place, E.root, E.cf, Es.cf, List.getElem?_cons_zero, List.getElem?_cons_succ, List.set_cons_zero, List.set_cons_succ, List.headD_cons, List.tail_cons, Bool.true_and, Bool.and_true, Bool.true_or, Bool.or_true, Bool.false_and, Bool.and_false, Bool.false_or, Bool.or_false, ite_true, ite_false, if_true, if_false, Bool.false_eq_true, List.length_cons, List.length_nil, List.contains_eq_mem, List.mem_cons, List.not_mem_nil, decide_eq_true_eq, or_false, false_or, or_true, true_or, and_true, true_and, and_self, not_false_eq_true, not_true_eq_false, fF_rt, fF_nx, pars_t, pars_f, pars_0, Nat.reduceEqDiff, callA, slotsOf, treesOf, VS.backTo, List.nodup_cons, List.nodup_nil, cx_call, rGet_some, hasD_eq, hasO_some, isLstD_eq, isLO_some, setS_eq, setO_some, appS_eq, appO_some, unpS_tup, unpS_lst, srcVar_eq, sGet_some, srcOf_var, srcOf_call, srcOf_sub, srcOf_lst, srcOf_slice, srcOf_prim, vSrc_t, vSrc_f, itsOf_some, items_lst, items_tup, enumD_lst, enumD_tup, rangeD_1, rangeD_2, senv_nx, senv_rt, putLk_nil, putLk_cons, free, List.all_cons, List.all_nil, Tg.slots, List.zip_cons_cons, List.zip_nil_right, List.foldl_cons, List.foldl_nil, List.map_nil, List.map_cons, List.append_nil, List.nil_append, List.cons_append, isTys, isTy, Bool.not_true, Bool.not_false, Bool.not_eq_true, decide_true, decide_false, List.length_map, ne_eq, reduceCtorEq, Nat.reduceBEq, Nat.reduceAdd, Nat.zero_add, Nat.reduceLeDiff, Nat.reduceLT, Int.reduceLT, Int.reduceLE, Int.reduceNeg, le_sz, lt_sz, forall_const, implies_true, bind_exc, toS_exc, fin_exc, seqK_exc, senv_exc, fF_exc, e_exIs, e_exFld, exIs_eq, x_raise, raiseK_eq, clr_eq, suiF_eq, x_try, tryK_nx, tryK_rt, tryK_bk, tryK_ct, tryK_exc, catK_t, catK_f, noX_nx, noX_rt, noX_bk, noX_ct, zip_c, zip_n, x_ins, insK_eq, insK2_eq, insS_eq, insO_some, x_setSl, slsK_eq, slsK2_eq, slsK3_eq, setSlS_eq, setSlO_some, c_is, c_isnt, List.any_cons, List.any_nil, k_check_flag, k_run_row, k_fills, k_law_box, k_law_take, k_law_row, k_law_wrong_sign, k_law_due, k_law_same, k_law_refusal, k_law, b_law_box_1, Int.zero_add, at_, pow18, pow24, p7, c1, c2, he, hee, hf, hmul, eM, mulR (j := 6364136223846793005) (by decide), mulR (j := 1442695040888963407) (by decide)]; rfl, M, _, _, hM, rfl⟩
      · obtain ⟨M, hM, eM⟩ := next (c % 1000000000000000000000000) (by omega) (by omega)
        exact ⟨_, _, rfl, by simp only [bind_ok, of_some, toS_ok, fin_esc, fin_rd, fin_kd, fin_ts, e_non, e_bl, e_int, e_str, e_var, lft_t, lft_f, frzR_ok, e_bin, binK_eq, binK2_eq, e_neg, e_cmp, cmpK_eq, cmpK2_eq, e_cmp2, c2K_eq, c2K2_eq, c2K3_eq, e_isN, isNK_eq, e_andT, e_andV, e_orT, e_orV, e_notT, e_notV, andT_eq, andV_eq, orT_eq, orV_eq, notT_eq, notV_eq, e_ite, iteK_eq, e_tup, e_lst, tupK_eq, lstK_eq, e_sub, subK_eq, subK2_eq, subJ_eq, subJ2_eq, e_slice, slK_eq, slK2_eq, slK3_eq, slP_none, slP_some, e_call, e_prim, primK_eq, e_meth, methK_eq, methK2_eq, mtOk, a_meth, cop_in, cop_notin, es_nil, es_cons, evsK_eq, consK_eq, kd_nil, kd_cons, kdsK_eq, a_nil, a_var, argG_some, argK_eq, consA_eq, a_int, a_str, a_bl, a_non, a_bin, a_neg, a_cmp, a_ite, a_tup, a_lst, a_sub, a_slice, a_call, a_prim, a_comp, i_rng, i_over, i_enum, i_rev, i_zip, rngK_eq, overK_eq, enumK_eq, revK_eq, zipK_eq, zipK2_eq, e_comp, compK_eq, cmpE_eq, noX_ok, x_nil, x_cons, seqK_nx, seqK_rt, seqK_bk, seqK_ct, x_asg, asgK_eq, x_unp, x_setI, setK_eq, setK2_eq, x_app, x_expr, exprK_eq, x_retv, retK_eq, x_ret, x_if, ifK_eq, bodyF_eq, x_for, forK_eq, tsF_eq, x_while, x_brk, x_cont, x_pass, vGet_rd, vGet_esc, vGet_kd, vGet_ts, onPart_esc, onPart_rd, onPart_kd, onPart_ts, shr_int, shr_bl, shr_non, shr_str, shr_lst, shr_tup, shrs_nil, shrs_cons, shrK_int, shrK_bl, shrK_non, shrK_str, shrK_lst, shrK_tup, frzK_int, frzK_bl, frzK_non, frzK_str, frzK_lst, frzK_tup, frz_lst, frz_tup, frz_int, frz_bl, frz_non, frz_str, frzs_nil, frzs_cons, truth_bl, truth_int, truth_lst, truth_tup, truth_non, map_some, b_add, b_sub, b_mul, b_mod, b_lst, b_tup, c_lt, c_le, c_gt, c_ge, c_eq, c_ne, eqD_int, p_len_l, p_len_t, p_int, p_min2, p_max2, p_sum_l, p_sum_t, p_tup_l, p_tup_t, p_lst_l, p_lst_t, p_isT, s_lst, s_tup, onOB_some, vNeg_int, vInt_ok, setTg_v, isNon_int, isNon_non, shrs_iL, frzs_iL, ints_iL, E.place, E.root, E.cf, Es.cf, List.getElem?_cons_zero, List.getElem?_cons_succ, List.set_cons_zero, List.set_cons_succ, List.headD_cons, List.tail_cons, Bool.true_and, Bool.and_true, Bool.true_or, Bool.or_true, Bool.false_and, Bool.and_false, Bool.false_or, Bool.or_false, ite_true, ite_false, if_true, if_false, Bool.false_eq_true, List.length_cons, List.length_nil, List.contains_eq_mem, List.mem_cons, List.not_mem_nil, decide_eq_true_eq, or_false, false_or, or_true, true_or, and_true, true_and, and_self, not_false_eq_true, not_true_eq_false, fF_rt, fF_nx, pars_t, pars_f, pars_0, Nat.reduceEqDiff, callA, slotsOf, treesOf, VS.backTo, List.nodup_cons, List.nodup_nil, cx_call, rGet_some, hasD_eq, hasO_some, isLstD_eq, isLO_some, setS_eq, setO_some, appS_eq, appO_some, unpS_tup, unpS_lst, srcVar_eq, sGet_some, srcOf_var, srcOf_call, srcOf_sub, srcOf_lst, srcOf_slice, srcOf_prim, vSrc_t, vSrc_f, itsOf_some, items_lst, items_tup, enumD_lst, enumD_tup, rangeD_1, rangeD_2, senv_nx, senv_rt, putLk_nil, putLk_cons, free, List.all_cons, List.all_nil, Tg.slots, List.zip_cons_cons, List.zip_nil_right, List.foldl_cons, List.foldl_nil, List.map_nil, List.map_cons, List.append_nil, List.nil_append, List.cons_append, isTys, isTy, Bool.not_true, Bool.not_false, Bool.not_eq_true, decide_true, decide_false, List.length_map, ne_eq, reduceCtorEq, Nat.reduceBEq, Nat.reduceAdd, Nat.zero_add, Nat.reduceLeDiff, Nat.reduceLT, Int.reduceLT, Int.reduceLE, Int.reduceNeg, le_sz, lt_sz, forall_const, implies_true, bind_exc, toS_exc, fin_exc, seqK_exc, senv_exc, fF_exc, e_exIs, e_exFld, exIs_eq, x_raise, raiseK_eq, clr_eq, suiF_eq, x_try, tryK_nx, tryK_rt, tryK_bk, tryK_ct, tryK_exc, catK_t, catK_f, noX_nx, noX_rt, noX_bk, noX_ct, zip_c, zip_n, x_ins, insK_eq, insK2_eq, insS_eq, insO_some, x_setSl, slsK_eq, slsK2_eq, slsK3_eq, setSlS_eq, setSlO_some, c_is, c_isnt, List.any_cons, List.any_nil, k_check_flag, k_run_row, k_fills, k_law_box, k_law_take, k_law_row, k_law_wrong_sign, k_law_due, k_law_same, k_law_refusal, k_law, b_law_box_1, Int.zero_add, at_, pow18, pow24, p7, c1, c2, hmul, eM]; rfl, M, _, _, hM, rfl⟩
    · obtain ⟨M, hM, eM⟩ := next (c % 1000000000000000000000000) (by omega) (by omega)
      exact ⟨_, _, rfl, by simp only [bind_ok, of_some, toS_ok, fin_esc, fin_rd, fin_kd, fin_ts, e_non, e_bl, e_int, e_str, e_var, lft_t, lft_f, frzR_ok, e_bin, binK_eq, binK2_eq, e_neg, e_cmp, cmpK_eq, cmpK2_eq, e_cmp2, c2K_eq, c2K2_eq, c2K3_eq, e_isN, isNK_eq, e_andT, e_andV, e_orT, e_orV, e_notT, e_notV, andT_eq, andV_eq, orT_eq, orV_eq, notT_eq, notV_eq, e_ite, iteK_eq, e_tup, e_lst, tupK_eq, lstK_eq, e_sub, subK_eq, subK2_eq, subJ_eq, subJ2_eq, e_slice, slK_eq, slK2_eq, slK3_eq, slP_none, slP_some, e_call, e_prim, primK_eq, e_meth, methK_eq, methK2_eq, mtOk, a_meth, cop_in, cop_notin, es_nil, es_cons, evsK_eq, consK_eq, kd_nil, kd_cons, kdsK_eq, a_nil, a_var, argG_some, argK_eq, consA_eq, a_int, a_str, a_bl, a_non, a_bin, a_neg, a_cmp, a_ite, a_tup, a_lst, a_sub, a_slice, a_call, a_prim, a_comp, i_rng, i_over, i_enum, i_rev, i_zip, rngK_eq, overK_eq, enumK_eq, revK_eq, zipK_eq, zipK2_eq, e_comp, compK_eq, cmpE_eq, noX_ok, x_nil, x_cons, seqK_nx, seqK_rt, seqK_bk, seqK_ct, x_asg, asgK_eq, x_unp, x_setI, setK_eq, setK2_eq, x_app, x_expr, exprK_eq, x_retv, retK_eq, x_ret, x_if, ifK_eq, bodyF_eq, x_for, forK_eq, tsF_eq, x_while, x_brk, x_cont, x_pass, vGet_rd, vGet_esc, vGet_kd, vGet_ts, onPart_esc, onPart_rd, onPart_kd, onPart_ts, shr_int, shr_bl, shr_non, shr_str, shr_lst, shr_tup, shrs_nil, shrs_cons, shrK_int, shrK_bl, shrK_non, shrK_str, shrK_lst, shrK_tup, frzK_int, frzK_bl, frzK_non, frzK_str, frzK_lst, frzK_tup, frz_lst, frz_tup, frz_int, frz_bl, frz_non, frz_str, frzs_nil, frzs_cons, truth_bl, truth_int, truth_lst, truth_tup, truth_non, map_some, b_add, b_sub, b_mul, b_mod, b_lst, b_tup, c_lt, c_le, c_gt, c_ge, c_eq, c_ne, eqD_int, p_len_l, p_len_t, p_int, p_min2, p_max2, p_sum_l, p_sum_t, p_tup_l, p_tup_t, p_lst_l, p_lst_t, p_isT, s_lst, s_tup, onOB_some, vNeg_int, vInt_ok, setTg_v, isNon_int, isNon_non, shrs_iL, frzs_iL, ints_iL, E.place, E.root, E.cf, Es.cf, List.getElem?_cons_zero, List.getElem?_cons_succ, List.set_cons_zero, List.set_cons_succ, List.headD_cons, List.tail_cons, Bool.true_and, Bool.and_true, Bool.true_or, Bool.or_true, Bool.false_and, Bool.and_false, Bool.false_or, Bool.or_false, ite_true, ite_false, if_true, if_false, Bool.false_eq_true, List.length_cons, List.length_nil, List.contains_eq_mem, List.mem_cons, List.not_mem_nil, decide_eq_true_eq, or_false, false_or, or_true, true_or, and_true, true_and, and_self, not_false_eq_true, not_true_eq_false, fF_rt, fF_nx, pars_t, pars_f, pars_0, Nat.reduceEqDiff, callA, slotsOf, treesOf, VS.backTo, List.nodup_cons, List.nodup_nil, cx_call, rGet_some, hasD_eq, hasO_some, isLstD_eq, isLO_some, setS_eq, setO_some, appS_eq, appO_some, unpS_tup, unpS_lst, srcVar_eq, sGet_some, srcOf_var, srcOf_call, srcOf_sub, srcOf_lst, srcOf_slice, srcOf_prim, vSrc_t, vSrc_f, itsOf_some, items_lst, items_tup, enumD_lst, enumD_tup, rangeD_1, rangeD_2, senv_nx, senv_rt, putLk_nil, putLk_cons, free, List.all_cons, List.all_nil, Tg.slots, List.zip_cons_cons, List.zip_nil_right, List.foldl_cons, List.foldl_nil, List.map_nil, List.map_cons, List.append_nil, List.nil_append, List.cons_append, isTys, isTy, Bool.not_true, Bool.not_false, Bool.not_eq_true, decide_true, decide_false, List.length_map, ne_eq, reduceCtorEq, Nat.reduceBEq, Nat.reduceAdd, Nat.zero_add, Nat.reduceLeDiff, Nat.reduceLT, Int.reduceLT, Int.reduceLE, Int.reduceNeg, le_sz, lt_sz, forall_const, implies_true, bind_exc, toS_exc, fin_exc, seqK_exc, senv_exc, fF_exc, e_exIs, e_exFld, exIs_eq, x_raise, raiseK_eq, clr_eq, suiF_eq, x_try, tryK_nx, tryK_rt, tryK_bk, tryK_ct, tryK_exc, catK_t, catK_f, noX_nx, noX_rt, noX_bk, noX_ct, zip_c, zip_n, x_ins, insK_eq, insK2_eq, insS_eq, insO_some, x_setSl, slsK_eq, slsK2_eq, slsK3_eq, setSlS_eq, setSlO_some, c_is, c_isnt, List.any_cons, List.any_nil, k_check_flag, k_run_row, k_fills, k_law_box, k_law_take, k_law_row, k_law_wrong_sign, k_law_due, k_law_same, k_law_refusal, k_law, b_law_box_1, Int.zero_add, at_, pow18, pow24, p7, c1, hmul, eM]; rfl, M, _, _, hM, rfl⟩) (env := [some (.lst true (iL ns)), some (.int ((1 : Nat) : Int)), some (.int (ns.length : Nat)), none, none]) ⟨1, none, none, Nat.one_lt_two_pow (by omega), rfl⟩
  obtain ⟨e, e1, N, y3, y4, hN, rfl⟩ := loop
  have e1' : forL (.v 3) (bodyF (cx prog W n) [0] b_law_box_1) (rangeL 0 ns.length) [some (.lst true (iL ns)), some (.int 1), some (.int (ns.length : Nat)), none, none] = _ := e1
  have r1 : rngOk (ns.length : Int) = true := rngOk_of (by omega) (by omega)
  have hm : (if (63 : Int) < (ns.length : Int) then (63 : Int) else (ns.length : Int)) = (ns.length : Int) := if_neg (by omega)
  refine ⟨(N : Int), (N : Int) % 2147483647, by omega, by omega, by omega, ?_⟩
  unfold boxD
  rw [r_law_box]
  simp only [bind_ok, of_some, toS_ok, fin_esc, fin_rd, fin_kd, fin_ts, e_non, e_bl, e_int, e_str, e_var, lft_t, lft_f, frzR_ok, e_bin, binK_eq, binK2_eq, e_neg, e_cmp, cmpK_eq, cmpK2_eq, e_cmp2, c2K_eq, c2K2_eq, c2K3_eq, e_isN, isNK_eq, e_andT, e_andV, e_orT, e_orV, e_notT, e_notV, andT_eq, andV_eq, orT_eq, orV_eq, notT_eq, notV_eq, e_ite, iteK_eq, e_tup, e_lst, tupK_eq, lstK_eq, e_sub, subK_eq, subK2_eq, subJ_eq, subJ2_eq, e_slice, slK_eq, slK2_eq, slK3_eq, slP_none, slP_some, e_call, e_prim, primK_eq, e_meth, methK_eq, methK2_eq, mtOk, a_meth, cop_in, cop_notin, es_nil, es_cons, evsK_eq, consK_eq, kd_nil, kd_cons, kdsK_eq, a_nil, a_var, argG_some, argK_eq, consA_eq, a_int, a_str, a_bl, a_non, a_bin, a_neg, a_cmp, a_ite, a_tup, a_lst, a_sub, a_slice, a_call, a_prim, a_comp, i_rng, i_over, i_enum, i_rev, i_zip, rngK_eq, overK_eq, enumK_eq, revK_eq, zipK_eq, zipK2_eq, e_comp, compK_eq, cmpE_eq, noX_ok, x_nil, x_cons, seqK_nx, seqK_rt, seqK_bk, seqK_ct, x_asg, asgK_eq, x_unp, x_setI, setK_eq, setK2_eq, x_app, x_expr, exprK_eq, x_retv, retK_eq, x_ret, x_if, ifK_eq, bodyF_eq, x_for, forK_eq, tsF_eq, x_while, x_brk, x_cont, x_pass, vGet_rd, vGet_esc, vGet_kd, vGet_ts, onPart_esc, onPart_rd, onPart_kd, onPart_ts, shr_int, shr_bl, shr_non, shr_str, shr_lst, shr_tup, shrs_nil, shrs_cons, shrK_int, shrK_bl, shrK_non, shrK_str, shrK_lst, shrK_tup, frzK_int, frzK_bl, frzK_non, frzK_str, frzK_lst, frzK_tup, frz_lst, frz_tup, frz_int, frz_bl, frz_non, frz_str, frzs_nil, frzs_cons, truth_bl, truth_int, truth_lst, truth_tup, truth_non, map_some, b_add, b_sub, b_mul, b_mod, b_lst, b_tup, c_lt, c_le, c_gt, c_ge, c_eq, c_ne, eqD_int, p_len_l, p_len_t, p_int, p_min2, p_max2, p_sum_l, p_sum_t, p_tup_l, p_tup_t, p_lst_l, p_lst_t, p_isT, s_lst, s_tup, onOB_some, vNeg_int, vInt_ok, setTg_v, isNon_int, isNon_non, shrs_iL, frzs_iL, ints_iL, E.place, E.root, E.cf, Es.cf, List.getElem?_cons_zero, List.getElem?_cons_succ, List.set_cons_zero, List.set_cons_succ, List.headD_cons, List.tail_cons, Bool.true_and, Bool.and_true, Bool.true_or, Bool.or_true, Bool.false_and, Bool.and_false, Bool.false_or, Bool.or_false, ite_true, ite_false, if_true, if_false, Bool.false_eq_true, List.length_cons, List.length_nil, List.contains_eq_mem, List.mem_cons, List.not_mem_nil, decide_eq_true_eq, or_false, false_or, or_true, true_or, and_true, true_and, and_self, not_false_eq_true, not_true_eq_false, fF_rt, fF_nx, pars_t, pars_f, pars_0, Nat.reduceEqDiff, callA, slotsOf, treesOf, VS.backTo, List.nodup_cons, List.nodup_nil, cx_call, rGet_some, hasD_eq, hasO_some, isLstD_eq, isLO_some, setS_eq, setO_some, appS_eq, appO_some, unpS_tup, unpS_lst, srcVar_eq, sGet_some, srcOf_var, srcOf_call, srcOf_sub, srcOf_lst, srcOf_slice, srcOf_prim, vSrc_t, vSrc_f, itsOf_some, items_lst, items_tup, enumD_lst, enumD_tup, rangeD_1, rangeD_2, senv_nx, senv_rt, putLk_nil, putLk_cons, free, List.all_cons, List.all_nil, Tg.slots, List.zip_cons_cons, List.zip_nil_right, List.foldl_cons, List.foldl_nil, List.map_nil, List.map_cons, List.append_nil, List.nil_append, List.cons_append, isTys, isTy, Bool.not_true, Bool.not_false, Bool.not_eq_true, decide_true, decide_false, List.length_map, ne_eq, reduceCtorEq, Nat.reduceBEq, Nat.reduceAdd, Nat.zero_add, Nat.reduceLeDiff, Nat.reduceLT, Int.reduceLT, Int.reduceLE, Int.reduceNeg, le_sz, lt_sz, forall_const, implies_true, bind_exc, toS_exc, fin_exc, seqK_exc, senv_exc, fF_exc, e_exIs, e_exFld, exIs_eq, x_raise, raiseK_eq, clr_eq, suiF_eq, x_try, tryK_nx, tryK_rt, tryK_bk, tryK_ct, tryK_exc, catK_t, catK_f, noX_nx, noX_rt, noX_bk, noX_ct, zip_c, zip_n, x_ins, insK_eq, insK2_eq, insS_eq, insO_some, x_setSl, slsK_eq, slsK2_eq, slsK3_eq, setSlS_eq, setSlO_some, c_is, c_isnt, List.any_cons, List.any_nil, k_check_flag, k_run_row, k_fills, k_law_box, k_law_take, k_law_row, k_law_wrong_sign, k_law_due, k_law_same, k_law_refusal, k_law, b_law_box, hm, r1, Int.toNat_natCast, e1']

end K13

end

section
set_option maxRecDepth 100000
set_option linter.all false
namespace K13
open PySem VS
variable {W n : Nat}
theorem occ_cnt (x : Str) (c lim : Nat) : ∀ (n lo : Nat) (st : Array Nat × Nat), st.2 ≤ lo → st.1.size + n ≤ lim → (forIn (List.range' lo n) st (StrLaws.occBody x ⟨#[c]⟩ x.length lim)).run.fst.size = st.1.size + ((x.cps.toList.drop lo).take n).count c := by
  intro n
  induction n with
  | zero => intro lo st _ _; simp
  | succ n ih =>
    intro lo st h1 h2
    rw [List.range'_succ, List.forIn_cons]
    unfold StrLaws.occBody
    have key := StrLaws.subAt_one x c lo
    by_cases hc : x.cps.toList[lo]? = some c
    · have k := key.2 hc
      rw [if_pos ⟨⟨⟨by omega, h1⟩, k.1⟩, k.2⟩]
      have := ih (lo + 1) (st.1.push lo, lo + (⟨#[c]⟩ : Str).length) (Nat.le_refl _) (by simp; omega)
      refine Eq.trans this ?_
      obtain ⟨hl, he⟩ := List.getElem?_eq_some_iff.1 hc
      rw [List.drop_eq_getElem_cons hl, List.take_succ_cons, he, List.count_cons_self]
      simp only [Array.size_push]; omega
    · have k : ¬ (((st.1.size < lim ∧ st.2 ≤ lo) ∧ lo + (⟨#[c]⟩ : Str).length ≤ x.length) ∧ Builtin.Str.subAt x ⟨#[c]⟩ lo = true) := fun h => hc (key.1 ⟨h.1.2, h.2⟩)
      rw [if_neg k]
      have := ih (lo + 1) (st.1, st.2) (by simp only; omega) (by simp only; omega)
      refine Eq.trans this ?_
      by_cases hl : lo < x.cps.toList.length
      · rw [List.drop_eq_getElem_cons hl, List.take_succ_cons, List.count_cons_of_ne]
        intro h
        exact hc (by rw [List.getElem?_eq_getElem hl, h])
      · rw [List.drop_of_length_le (by omega), List.drop_of_length_le (by omega)]; simp
theorem count_one (x : Str) (c : Nat) : Txt.count x ⟨#[c]⟩ = ((x.cps.toList.count c : Nat) : Int) := by
  unfold Txt.count
  rw [StrLaws.occ_eq, Array.length_toList, occ_cnt x c (x.length + 1) (x.length + 1 - 0) 0 (#[], 0) (Nat.le_refl _) (by simp)]
  congr 1
  simp only [List.size_toArray, List.length_nil, List.drop_zero, Nat.zero_add, Nat.sub_zero, Array.size_empty]
  rw [List.take_of_length_le (by show x.cps.toList.length ≤ x.cps.size + 1; simp)]

end K13

end

section
set_option maxRecDepth 100000
set_option linter.all false
namespace K13
open PySem VS
variable {W n : Nat}
/-- a text by its code points -/
def tx (cs : List Nat) : Str := ⟨cs.toArray⟩
theorem tx_len (a : List Nat) : (tx a).length = a.length := by show a.toArray.size = _; simp
theorem tx_add (a b : List Nat) : tx a ++ tx b = tx (a ++ b) := SX.S_cat a b
theorem tx_inj {a b : List Nat} (h : tx a = tx b) : a = b := SX.S_inj h
theorem tx_item {a : List Nat} : (D.str (tx a)).items = some (a.map fun c => .str (tx [c])) := by
  show some (a.toArray.toList.map fun c => D.str ⟨#[c]⟩) = _
  rw [List.toList_toArray]; rfl
theorem tx_sub {a : List Nat} {i : Int} (h : a.length ≤ 16777216) : subD (.str (tx a)) (.int i) = (L2.atI a i).map fun c => .str (tx [c]) := by
  show (if (tx a).length ≤ sizeLine then (L2.atI a.toArray.toList i).map fun c => D.str ⟨#[c]⟩ else none) = _
  rw [tx_len, if_pos (by unfold sizeLine; omega), List.toList_toArray]; rfl
theorem tx_plen {a : List Nat} (h : a.length ≤ 16777216) : prim .len [.str (tx a)] = some (.int a.length) := by
  show (if (tx a).length ≤ sizeLine then some (D.int (tx a).length) else none) = _
  rw [tx_len, if_pos (by unfold sizeLine; omega)]
theorem tx_cat {a b : List Nat} (h : a.length + b.length ≤ 16777216) : bop .add (.str (tx a)) (.str (tx b)) = some (.str (tx (a ++ b))) := by
  show (if (tx a).length + (tx b).length ≤ sizeLine then some (D.str (tx a ++ tx b)) else none) = _
  rw [tx_len, tx_len, if_pos (by unfold sizeLine; omega), tx_add]
def cps (a : List Nat) : Bool := a.all fun c => decide (c < 0x110000)
theorem tx_shaped {a : List Nat} (h : cps a = true) : SeqAt.shaped (.str (tx a)) = true := by
  have e : PyData.strOk (tx a) = cps a := by
    show (a.toArray.all fun c => decide (c < 0x110000)) = _
    rw [List.all_toArray]; rfl
  show (PyData.strOk (tx a) && decide (PyData.depth (.str (tx a)) ≤ 64)) = true
  rw [e, h]
  rfl
theorem tx_eq {a b : List Nat} (ha : cps a = true) (hb : cps b = true) : eqD (.str (tx a)) (.str (tx b)) = some (decide (a = b)) := by
  show (if (SeqAt.shaped (.str (tx a)) && SeqAt.shaped (.str (tx b))) = true then some (PyData.eqv (.str (tx a)) (.str (tx b))) else none) = _
  rw [tx_shaped ha, tx_shaped hb]
  show some (PyData.eqv (.str (tx a)) (.str (tx b))) = _
  congr 1
  simp only [PyData.eqv]
  exact SX.S_beq_eq
theorem tx_to {a : List Nat} {i : Int} (h : 0 ≤ i) (hl : a.length ≤ 16777216) : sliceD (.str (tx a)) none (some i) = some (.str (tx (a.take i.toNat))) := by
  show (if (tx a).length ≤ sizeLine then some (D.str (Txt.slice (tx a) none (some i))) else none) = _
  rw [tx_len, if_pos (by unfold sizeLine; omega)]
  exact congrArg (fun z => some (D.str z)) (SX.slice_to h)
theorem tx_from {a : List Nat} {i : Int} (h : 0 ≤ i) (hl : a.length ≤ 16777216) : sliceD (.str (tx a)) (some i) none = some (.str (tx (a.drop i.toNat))) := by
  show (if (tx a).length ≤ sizeLine then some (D.str (Txt.slice (tx a) (some i) none)) else none) = _
  rw [tx_len, if_pos (by unfold sizeLine; omega)]
  exact congrArg (fun z => some (D.str z)) (SX.slice_from h)
theorem tx_count {a : List Nat} {c : Nat} : methD .scount (.str (tx a)) [.str (tx [c])] = some (.int ((a.count c : Nat) : Int)) := by
  show some (D.int (Txt.count (tx a) ⟨#[c]⟩)) = _
  rw [count_one]
  show some (D.int ((a.toArray.toList.count c : Nat) : Int)) = _
  rw [List.toList_toArray]
theorem tx_mid {a : List Nat} {i j : Int} (h : 0 ≤ i) (h1 : i ≤ j) (h2 : j ≤ a.length) (hl : a.length ≤ 16777216) : sliceD (.str (tx a)) (some i) (some j) = some (.str (tx ((a.drop i.toNat).take (j - i).toNat))) := by
  show (if (tx a).length ≤ sizeLine then some (D.str (Txt.slice (tx a) (some i) (some j))) else none) = _
  rw [tx_len, if_pos (by unfold sizeLine; omega)]
  have e := beq_iff_eq.mp (PyProof.Rows.slice_closesL (x := tx a) h h1 (by rw [tx_len]; exact h2))
  rw [e]
  show some (D.str ⟨((a.toArray.toList.drop i.toNat).take (j - i).toNat).toArray⟩) = _
  rw [List.toList_toArray]; rfl
/-- what enumerate gives of a text -/
def en : Nat → List Nat → List D
  | _, [] => []
  | j, c :: cs => .tup [.int (j : Nat), .str (tx [c])] :: en (j + 1) cs
theorem en_eq : ∀ (cs : List Nat) (j : Nat), (cs.mapIdx fun k c => D.tup [.int ((j + k : Nat) : Int), .str (tx [c])]) = en j cs
  | [], _ => rfl
  | c :: cs, j => by
    rw [List.mapIdx_cons, en, ← en_eq cs (j + 1)]
    congr 1
    congr 1
    funext k c
    rw [show j + (k + 1) = j + 1 + k by omega]
theorem tx_enum {a : List Nat} : enumD (.str (tx a)) = some (en 0 a) := by
  show some (a.toArray.toList.mapIdx fun k c => D.tup [.int k, .str ⟨#[c]⟩]) = _
  rw [List.toList_toArray, ← en_eq a 0]
  congr 2
  funext k c
  rw [Nat.zero_add]; rfl

end K13

end

section
set_option maxRecDepth 100000
set_option linter.all false
namespace K13
open PySem VS
variable {W n : Nat}
def isB : D → Bool
  | .bl _ => true
  | _ => false
theorem i_check_flag (s : Str) (d : D) (hd : d.shr = true) : callN prog W (n + 1) 0 [.str s, d] = if isB d then .ok d [.str s, d] else .exc "BadRow" [(("name" : Str), .str s), ("place", .non)] [.str s, d] := by
  cases d with
  | bl b => rw [r_check_flag]; simp only [bind_ok, of_some, toS_ok, fin_esc, fin_rd, fin_kd, fin_ts, e_non, e_bl, e_int, e_str, e_var, lft_t, lft_f, frzR_ok, e_bin, binK_eq, binK2_eq, e_neg, e_cmp, cmpK_eq, cmpK2_eq, e_cmp2, c2K_eq, c2K2_eq, c2K3_eq, e_isN, isNK_eq, e_andT, e_andV, e_orT, e_orV, e_notT, e_notV, andT_eq, andV_eq, orT_eq, orV_eq, notT_eq, notV_eq, e_ite, iteK_eq, e_tup, e_lst, tupK_eq, lstK_eq, e_sub, subK_eq, subK2_eq, subJ_eq, subJ2_eq, e_slice, slK_eq, slK2_eq, slK3_eq, slP_none, slP_some, e_call, e_prim, primK_eq, e_meth, methK_eq, methK2_eq, mtOk, a_meth, cop_in, cop_notin, es_nil, es_cons, evsK_eq, consK_eq, kd_nil, kd_cons, kdsK_eq, a_nil, a_var, argG_some, argK_eq, consA_eq, a_int, a_str, a_bl, a_non, a_bin, a_neg, a_cmp, a_ite, a_tup, a_lst, a_sub, a_slice, a_call, a_prim, a_comp, i_rng, i_over, i_enum, i_rev, i_zip, rngK_eq, overK_eq, enumK_eq, revK_eq, zipK_eq, zipK2_eq, e_comp, compK_eq, cmpE_eq, noX_ok, x_nil, x_cons, seqK_nx, seqK_rt, seqK_bk, seqK_ct, x_asg, asgK_eq, x_unp, x_setI, setK_eq, setK2_eq, x_app, x_expr, exprK_eq, x_retv, retK_eq, x_ret, x_if, ifK_eq, bodyF_eq, x_for, forK_eq, tsF_eq, x_while, x_brk, x_cont, x_pass, vGet_rd, vGet_esc, vGet_kd, vGet_ts, onPart_esc, onPart_rd, onPart_kd, onPart_ts, shr_int, shr_bl, shr_non, shr_str, shr_lst, shr_tup, shrs_nil, shrs_cons, shrK_int, shrK_bl, shrK_non, shrK_str, shrK_lst, shrK_tup, frzK_int, frzK_bl, frzK_non, frzK_str, frzK_lst, frzK_tup, frz_lst, frz_tup, frz_int, frz_bl, frz_non, frz_str, frzs_nil, frzs_cons, truth_bl, truth_int, truth_lst, truth_tup, truth_non, map_some, b_add, b_sub, b_mul, b_mod, b_lst, b_tup, c_lt, c_le, c_gt, c_ge, c_eq, c_ne, eqD_int, p_len_l, p_len_t, p_int, p_min2, p_max2, p_sum_l, p_sum_t, p_tup_l, p_tup_t, p_lst_l, p_lst_t, p_isT, s_lst, s_tup, onOB_some, vNeg_int, vInt_ok, setTg_v, isNon_int, isNon_non, shrs_iL, frzs_iL, ints_iL, E.place, E.root, E.cf, Es.cf, List.getElem?_cons_zero, List.getElem?_cons_succ, List.set_cons_zero, List.set_cons_succ, List.headD_cons, List.tail_cons, Bool.true_and, Bool.and_true, Bool.true_or, Bool.or_true, Bool.false_and, Bool.and_false, Bool.false_or, Bool.or_false, ite_true, ite_false, if_true, if_false, Bool.false_eq_true, List.length_cons, List.length_nil, List.contains_eq_mem, List.mem_cons, List.not_mem_nil, decide_eq_true_eq, or_false, false_or, or_true, true_or, and_true, true_and, and_self, not_false_eq_true, not_true_eq_false, fF_rt, fF_nx, pars_t, pars_f, pars_0, Nat.reduceEqDiff, callA, slotsOf, treesOf, VS.backTo, List.nodup_cons, List.nodup_nil, cx_call, rGet_some, hasD_eq, hasO_some, isLstD_eq, isLO_some, setS_eq, setO_some, appS_eq, appO_some, unpS_tup, unpS_lst, srcVar_eq, sGet_some, srcOf_var, srcOf_call, srcOf_sub, srcOf_lst, srcOf_slice, srcOf_prim, vSrc_t, vSrc_f, itsOf_some, items_lst, items_tup, enumD_lst, enumD_tup, rangeD_1, rangeD_2, senv_nx, senv_rt, putLk_nil, putLk_cons, free, List.all_cons, List.all_nil, Tg.slots, List.zip_cons_cons, List.zip_nil_right, List.foldl_cons, List.foldl_nil, List.map_nil, List.map_cons, List.append_nil, List.nil_append, List.cons_append, isTys, isTy, Bool.not_true, Bool.not_false, Bool.not_eq_true, decide_true, decide_false, List.length_map, ne_eq, reduceCtorEq, Nat.reduceBEq, Nat.reduceAdd, Nat.zero_add, Nat.reduceLeDiff, Nat.reduceLT, Int.reduceLT, Int.reduceLE, Int.reduceNeg, le_sz, lt_sz, forall_const, implies_true, bind_exc, toS_exc, fin_exc, seqK_exc, senv_exc, fF_exc, e_exIs, e_exFld, exIs_eq, x_raise, raiseK_eq, clr_eq, suiF_eq, x_try, tryK_nx, tryK_rt, tryK_bk, tryK_ct, tryK_exc, catK_t, catK_f, noX_nx, noX_rt, noX_bk, noX_ct, zip_c, zip_n, x_ins, insK_eq, insK2_eq, insS_eq, insO_some, x_setSl, slsK_eq, slsK2_eq, slsK3_eq, setSlS_eq, setSlO_some, c_is, c_isnt, List.any_cons, List.any_nil, k_check_flag, k_run_row, k_fills, k_law_box, k_law_take, k_law_row, k_law_wrong_sign, k_law_due, k_law_same, k_law_refusal, k_law, b_check_flag, fl_BadRow, ct_BadRow_CanalError, sb_BadRow_BadCalendar, sb_BadRow_BadCanal, sb_BadRow_BadDeed, sb_BadRow_BadLevels, sb_BadRow_BadRow, sb_BadRow_BadWork, sb_BadRow_NoWork, sb_BadRow_NotClean, sb_BadRow_NotPlain, sb_BadRow_NotRoomy, sb_BadRow_NothingDone, sb_BadRow_ShortWater, sb_BadRow_TextError, sb_BadRow_TooMany, sb_BadRow_ValueError, xf_BadRow_name, xf_BadRow_place, fl_TooMany, ct_TooMany_CanalError, sb_TooMany_BadCalendar, sb_TooMany_BadCanal, sb_TooMany_BadDeed, sb_TooMany_BadLevels, sb_TooMany_BadRow, sb_TooMany_BadWork, sb_TooMany_NoWork, sb_TooMany_NotClean, sb_TooMany_NotPlain, sb_TooMany_NotRoomy, sb_TooMany_NothingDone, sb_TooMany_ShortWater, sb_TooMany_TextError, sb_TooMany_TooMany, sb_TooMany_ValueError, xf_TooMany_limit, isB] <;> rfl
  | non => rw [r_check_flag]; simp only [bind_ok, of_some, toS_ok, fin_esc, fin_rd, fin_kd, fin_ts, e_non, e_bl, e_int, e_str, e_var, lft_t, lft_f, frzR_ok, e_bin, binK_eq, binK2_eq, e_neg, e_cmp, cmpK_eq, cmpK2_eq, e_cmp2, c2K_eq, c2K2_eq, c2K3_eq, e_isN, isNK_eq, e_andT, e_andV, e_orT, e_orV, e_notT, e_notV, andT_eq, andV_eq, orT_eq, orV_eq, notT_eq, notV_eq, e_ite, iteK_eq, e_tup, e_lst, tupK_eq, lstK_eq, e_sub, subK_eq, subK2_eq, subJ_eq, subJ2_eq, e_slice, slK_eq, slK2_eq, slK3_eq, slP_none, slP_some, e_call, e_prim, primK_eq, e_meth, methK_eq, methK2_eq, mtOk, a_meth, cop_in, cop_notin, es_nil, es_cons, evsK_eq, consK_eq, kd_nil, kd_cons, kdsK_eq, a_nil, a_var, argG_some, argK_eq, consA_eq, a_int, a_str, a_bl, a_non, a_bin, a_neg, a_cmp, a_ite, a_tup, a_lst, a_sub, a_slice, a_call, a_prim, a_comp, i_rng, i_over, i_enum, i_rev, i_zip, rngK_eq, overK_eq, enumK_eq, revK_eq, zipK_eq, zipK2_eq, e_comp, compK_eq, cmpE_eq, noX_ok, x_nil, x_cons, seqK_nx, seqK_rt, seqK_bk, seqK_ct, x_asg, asgK_eq, x_unp, x_setI, setK_eq, setK2_eq, x_app, x_expr, exprK_eq, x_retv, retK_eq, x_ret, x_if, ifK_eq, bodyF_eq, x_for, forK_eq, tsF_eq, x_while, x_brk, x_cont, x_pass, vGet_rd, vGet_esc, vGet_kd, vGet_ts, onPart_esc, onPart_rd, onPart_kd, onPart_ts, shr_int, shr_bl, shr_non, shr_str, shr_lst, shr_tup, shrs_nil, shrs_cons, shrK_int, shrK_bl, shrK_non, shrK_str, shrK_lst, shrK_tup, frzK_int, frzK_bl, frzK_non, frzK_str, frzK_lst, frzK_tup, frz_lst, frz_tup, frz_int, frz_bl, frz_non, frz_str, frzs_nil, frzs_cons, truth_bl, truth_int, truth_lst, truth_tup, truth_non, map_some, b_add, b_sub, b_mul, b_mod, b_lst, b_tup, c_lt, c_le, c_gt, c_ge, c_eq, c_ne, eqD_int, p_len_l, p_len_t, p_int, p_min2, p_max2, p_sum_l, p_sum_t, p_tup_l, p_tup_t, p_lst_l, p_lst_t, p_isT, s_lst, s_tup, onOB_some, vNeg_int, vInt_ok, setTg_v, isNon_int, isNon_non, shrs_iL, frzs_iL, ints_iL, E.place, E.root, E.cf, Es.cf, List.getElem?_cons_zero, List.getElem?_cons_succ, List.set_cons_zero, List.set_cons_succ, List.headD_cons, List.tail_cons, Bool.true_and, Bool.and_true, Bool.true_or, Bool.or_true, Bool.false_and, Bool.and_false, Bool.false_or, Bool.or_false, ite_true, ite_false, if_true, if_false, Bool.false_eq_true, List.length_cons, List.length_nil, List.contains_eq_mem, List.mem_cons, List.not_mem_nil, decide_eq_true_eq, or_false, false_or, or_true, true_or, and_true, true_and, and_self, not_false_eq_true, not_true_eq_false, fF_rt, fF_nx, pars_t, pars_f, pars_0, Nat.reduceEqDiff, callA, slotsOf, treesOf, VS.backTo, List.nodup_cons, List.nodup_nil, cx_call, rGet_some, hasD_eq, hasO_some, isLstD_eq, isLO_some, setS_eq, setO_some, appS_eq, appO_some, unpS_tup, unpS_lst, srcVar_eq, sGet_some, srcOf_var, srcOf_call, srcOf_sub, srcOf_lst, srcOf_slice, srcOf_prim, vSrc_t, vSrc_f, itsOf_some, items_lst, items_tup, enumD_lst, enumD_tup, rangeD_1, rangeD_2, senv_nx, senv_rt, putLk_nil, putLk_cons, free, List.all_cons, List.all_nil, Tg.slots, List.zip_cons_cons, List.zip_nil_right, List.foldl_cons, List.foldl_nil, List.map_nil, List.map_cons, List.append_nil, List.nil_append, List.cons_append, isTys, isTy, Bool.not_true, Bool.not_false, Bool.not_eq_true, decide_true, decide_false, List.length_map, ne_eq, reduceCtorEq, Nat.reduceBEq, Nat.reduceAdd, Nat.zero_add, Nat.reduceLeDiff, Nat.reduceLT, Int.reduceLT, Int.reduceLE, Int.reduceNeg, le_sz, lt_sz, forall_const, implies_true, bind_exc, toS_exc, fin_exc, seqK_exc, senv_exc, fF_exc, e_exIs, e_exFld, exIs_eq, x_raise, raiseK_eq, clr_eq, suiF_eq, x_try, tryK_nx, tryK_rt, tryK_bk, tryK_ct, tryK_exc, catK_t, catK_f, noX_nx, noX_rt, noX_bk, noX_ct, zip_c, zip_n, x_ins, insK_eq, insK2_eq, insS_eq, insO_some, x_setSl, slsK_eq, slsK2_eq, slsK3_eq, setSlS_eq, setSlO_some, c_is, c_isnt, List.any_cons, List.any_nil, k_check_flag, k_run_row, k_fills, k_law_box, k_law_take, k_law_row, k_law_wrong_sign, k_law_due, k_law_same, k_law_refusal, k_law, b_check_flag, fl_BadRow, ct_BadRow_CanalError, sb_BadRow_BadCalendar, sb_BadRow_BadCanal, sb_BadRow_BadDeed, sb_BadRow_BadLevels, sb_BadRow_BadRow, sb_BadRow_BadWork, sb_BadRow_NoWork, sb_BadRow_NotClean, sb_BadRow_NotPlain, sb_BadRow_NotRoomy, sb_BadRow_NothingDone, sb_BadRow_ShortWater, sb_BadRow_TextError, sb_BadRow_TooMany, sb_BadRow_ValueError, xf_BadRow_name, xf_BadRow_place, fl_TooMany, ct_TooMany_CanalError, sb_TooMany_BadCalendar, sb_TooMany_BadCanal, sb_TooMany_BadDeed, sb_TooMany_BadLevels, sb_TooMany_BadRow, sb_TooMany_BadWork, sb_TooMany_NoWork, sb_TooMany_NotClean, sb_TooMany_NotPlain, sb_TooMany_NotRoomy, sb_TooMany_NothingDone, sb_TooMany_ShortWater, sb_TooMany_TextError, sb_TooMany_TooMany, sb_TooMany_ValueError, xf_TooMany_limit, isB] <;> rfl
  | int i => rw [r_check_flag]; simp only [bind_ok, of_some, toS_ok, fin_esc, fin_rd, fin_kd, fin_ts, e_non, e_bl, e_int, e_str, e_var, lft_t, lft_f, frzR_ok, e_bin, binK_eq, binK2_eq, e_neg, e_cmp, cmpK_eq, cmpK2_eq, e_cmp2, c2K_eq, c2K2_eq, c2K3_eq, e_isN, isNK_eq, e_andT, e_andV, e_orT, e_orV, e_notT, e_notV, andT_eq, andV_eq, orT_eq, orV_eq, notT_eq, notV_eq, e_ite, iteK_eq, e_tup, e_lst, tupK_eq, lstK_eq, e_sub, subK_eq, subK2_eq, subJ_eq, subJ2_eq, e_slice, slK_eq, slK2_eq, slK3_eq, slP_none, slP_some, e_call, e_prim, primK_eq, e_meth, methK_eq, methK2_eq, mtOk, a_meth, cop_in, cop_notin, es_nil, es_cons, evsK_eq, consK_eq, kd_nil, kd_cons, kdsK_eq, a_nil, a_var, argG_some, argK_eq, consA_eq, a_int, a_str, a_bl, a_non, a_bin, a_neg, a_cmp, a_ite, a_tup, a_lst, a_sub, a_slice, a_call, a_prim, a_comp, i_rng, i_over, i_enum, i_rev, i_zip, rngK_eq, overK_eq, enumK_eq, revK_eq, zipK_eq, zipK2_eq, e_comp, compK_eq, cmpE_eq, noX_ok, x_nil, x_cons, seqK_nx, seqK_rt, seqK_bk, seqK_ct, x_asg, asgK_eq, x_unp, x_setI, setK_eq, setK2_eq, x_app, x_expr, exprK_eq, x_retv, retK_eq, x_ret, x_if, ifK_eq, bodyF_eq, x_for, forK_eq, tsF_eq, x_while, x_brk, x_cont, x_pass, vGet_rd, vGet_esc, vGet_kd, vGet_ts, onPart_esc, onPart_rd, onPart_kd, onPart_ts, shr_int, shr_bl, shr_non, shr_str, shr_lst, shr_tup, shrs_nil, shrs_cons, shrK_int, shrK_bl, shrK_non, shrK_str, shrK_lst, shrK_tup, frzK_int, frzK_bl, frzK_non, frzK_str, frzK_lst, frzK_tup, frz_lst, frz_tup, frz_int, frz_bl, frz_non, frz_str, frzs_nil, frzs_cons, truth_bl, truth_int, truth_lst, truth_tup, truth_non, map_some, b_add, b_sub, b_mul, b_mod, b_lst, b_tup, c_lt, c_le, c_gt, c_ge, c_eq, c_ne, eqD_int, p_len_l, p_len_t, p_int, p_min2, p_max2, p_sum_l, p_sum_t, p_tup_l, p_tup_t, p_lst_l, p_lst_t, p_isT, s_lst, s_tup, onOB_some, vNeg_int, vInt_ok, setTg_v, isNon_int, isNon_non, shrs_iL, frzs_iL, ints_iL, E.place, E.root, E.cf, Es.cf, List.getElem?_cons_zero, List.getElem?_cons_succ, List.set_cons_zero, List.set_cons_succ, List.headD_cons, List.tail_cons, Bool.true_and, Bool.and_true, Bool.true_or, Bool.or_true, Bool.false_and, Bool.and_false, Bool.false_or, Bool.or_false, ite_true, ite_false, if_true, if_false, Bool.false_eq_true, List.length_cons, List.length_nil, List.contains_eq_mem, List.mem_cons, List.not_mem_nil, decide_eq_true_eq, or_false, false_or, or_true, true_or, and_true, true_and, and_self, not_false_eq_true, not_true_eq_false, fF_rt, fF_nx, pars_t, pars_f, pars_0, Nat.reduceEqDiff, callA, slotsOf, treesOf, VS.backTo, List.nodup_cons, List.nodup_nil, cx_call, rGet_some, hasD_eq, hasO_some, isLstD_eq, isLO_some, setS_eq, setO_some, appS_eq, appO_some, unpS_tup, unpS_lst, srcVar_eq, sGet_some, srcOf_var, srcOf_call, srcOf_sub, srcOf_lst, srcOf_slice, srcOf_prim, vSrc_t, vSrc_f, itsOf_some, items_lst, items_tup, enumD_lst, enumD_tup, rangeD_1, rangeD_2, senv_nx, senv_rt, putLk_nil, putLk_cons, free, List.all_cons, List.all_nil, Tg.slots, List.zip_cons_cons, List.zip_nil_right, List.foldl_cons, List.foldl_nil, List.map_nil, List.map_cons, List.append_nil, List.nil_append, List.cons_append, isTys, isTy, Bool.not_true, Bool.not_false, Bool.not_eq_true, decide_true, decide_false, List.length_map, ne_eq, reduceCtorEq, Nat.reduceBEq, Nat.reduceAdd, Nat.zero_add, Nat.reduceLeDiff, Nat.reduceLT, Int.reduceLT, Int.reduceLE, Int.reduceNeg, le_sz, lt_sz, forall_const, implies_true, bind_exc, toS_exc, fin_exc, seqK_exc, senv_exc, fF_exc, e_exIs, e_exFld, exIs_eq, x_raise, raiseK_eq, clr_eq, suiF_eq, x_try, tryK_nx, tryK_rt, tryK_bk, tryK_ct, tryK_exc, catK_t, catK_f, noX_nx, noX_rt, noX_bk, noX_ct, zip_c, zip_n, x_ins, insK_eq, insK2_eq, insS_eq, insO_some, x_setSl, slsK_eq, slsK2_eq, slsK3_eq, setSlS_eq, setSlO_some, c_is, c_isnt, List.any_cons, List.any_nil, k_check_flag, k_run_row, k_fills, k_law_box, k_law_take, k_law_row, k_law_wrong_sign, k_law_due, k_law_same, k_law_refusal, k_law, b_check_flag, fl_BadRow, ct_BadRow_CanalError, sb_BadRow_BadCalendar, sb_BadRow_BadCanal, sb_BadRow_BadDeed, sb_BadRow_BadLevels, sb_BadRow_BadRow, sb_BadRow_BadWork, sb_BadRow_NoWork, sb_BadRow_NotClean, sb_BadRow_NotPlain, sb_BadRow_NotRoomy, sb_BadRow_NothingDone, sb_BadRow_ShortWater, sb_BadRow_TextError, sb_BadRow_TooMany, sb_BadRow_ValueError, xf_BadRow_name, xf_BadRow_place, fl_TooMany, ct_TooMany_CanalError, sb_TooMany_BadCalendar, sb_TooMany_BadCanal, sb_TooMany_BadDeed, sb_TooMany_BadLevels, sb_TooMany_BadRow, sb_TooMany_BadWork, sb_TooMany_NoWork, sb_TooMany_NotClean, sb_TooMany_NotPlain, sb_TooMany_NotRoomy, sb_TooMany_NothingDone, sb_TooMany_ShortWater, sb_TooMany_TextError, sb_TooMany_TooMany, sb_TooMany_ValueError, xf_TooMany_limit, isB] <;> rfl
  | str s => rw [r_check_flag]; simp only [bind_ok, of_some, toS_ok, fin_esc, fin_rd, fin_kd, fin_ts, e_non, e_bl, e_int, e_str, e_var, lft_t, lft_f, frzR_ok, e_bin, binK_eq, binK2_eq, e_neg, e_cmp, cmpK_eq, cmpK2_eq, e_cmp2, c2K_eq, c2K2_eq, c2K3_eq, e_isN, isNK_eq, e_andT, e_andV, e_orT, e_orV, e_notT, e_notV, andT_eq, andV_eq, orT_eq, orV_eq, notT_eq, notV_eq, e_ite, iteK_eq, e_tup, e_lst, tupK_eq, lstK_eq, e_sub, subK_eq, subK2_eq, subJ_eq, subJ2_eq, e_slice, slK_eq, slK2_eq, slK3_eq, slP_none, slP_some, e_call, e_prim, primK_eq, e_meth, methK_eq, methK2_eq, mtOk, a_meth, cop_in, cop_notin, es_nil, es_cons, evsK_eq, consK_eq, kd_nil, kd_cons, kdsK_eq, a_nil, a_var, argG_some, argK_eq, consA_eq, a_int, a_str, a_bl, a_non, a_bin, a_neg, a_cmp, a_ite, a_tup, a_lst, a_sub, a_slice, a_call, a_prim, a_comp, i_rng, i_over, i_enum, i_rev, i_zip, rngK_eq, overK_eq, enumK_eq, revK_eq, zipK_eq, zipK2_eq, e_comp, compK_eq, cmpE_eq, noX_ok, x_nil, x_cons, seqK_nx, seqK_rt, seqK_bk, seqK_ct, x_asg, asgK_eq, x_unp, x_setI, setK_eq, setK2_eq, x_app, x_expr, exprK_eq, x_retv, retK_eq, x_ret, x_if, ifK_eq, bodyF_eq, x_for, forK_eq, tsF_eq, x_while, x_brk, x_cont, x_pass, vGet_rd, vGet_esc, vGet_kd, vGet_ts, onPart_esc, onPart_rd, onPart_kd, onPart_ts, shr_int, shr_bl, shr_non, shr_str, shr_lst, shr_tup, shrs_nil, shrs_cons, shrK_int, shrK_bl, shrK_non, shrK_str, shrK_lst, shrK_tup, frzK_int, frzK_bl, frzK_non, frzK_str, frzK_lst, frzK_tup, frz_lst, frz_tup, frz_int, frz_bl, frz_non, frz_str, frzs_nil, frzs_cons, truth_bl, truth_int, truth_lst, truth_tup, truth_non, map_some, b_add, b_sub, b_mul, b_mod, b_lst, b_tup, c_lt, c_le, c_gt, c_ge, c_eq, c_ne, eqD_int, p_len_l, p_len_t, p_int, p_min2, p_max2, p_sum_l, p_sum_t, p_tup_l, p_tup_t, p_lst_l, p_lst_t, p_isT, s_lst, s_tup, onOB_some, vNeg_int, vInt_ok, setTg_v, isNon_int, isNon_non, shrs_iL, frzs_iL, ints_iL, E.place, E.root, E.cf, Es.cf, List.getElem?_cons_zero, List.getElem?_cons_succ, List.set_cons_zero, List.set_cons_succ, List.headD_cons, List.tail_cons, Bool.true_and, Bool.and_true, Bool.true_or, Bool.or_true, Bool.false_and, Bool.and_false, Bool.false_or, Bool.or_false, ite_true, ite_false, if_true, if_false, Bool.false_eq_true, List.length_cons, List.length_nil, List.contains_eq_mem, List.mem_cons, List.not_mem_nil, decide_eq_true_eq, or_false, false_or, or_true, true_or, and_true, true_and, and_self, not_false_eq_true, not_true_eq_false, fF_rt, fF_nx, pars_t, pars_f, pars_0, Nat.reduceEqDiff, callA, slotsOf, treesOf, VS.backTo, List.nodup_cons, List.nodup_nil, cx_call, rGet_some, hasD_eq, hasO_some, isLstD_eq, isLO_some, setS_eq, setO_some, appS_eq, appO_some, unpS_tup, unpS_lst, srcVar_eq, sGet_some, srcOf_var, srcOf_call, srcOf_sub, srcOf_lst, srcOf_slice, srcOf_prim, vSrc_t, vSrc_f, itsOf_some, items_lst, items_tup, enumD_lst, enumD_tup, rangeD_1, rangeD_2, senv_nx, senv_rt, putLk_nil, putLk_cons, free, List.all_cons, List.all_nil, Tg.slots, List.zip_cons_cons, List.zip_nil_right, List.foldl_cons, List.foldl_nil, List.map_nil, List.map_cons, List.append_nil, List.nil_append, List.cons_append, isTys, isTy, Bool.not_true, Bool.not_false, Bool.not_eq_true, decide_true, decide_false, List.length_map, ne_eq, reduceCtorEq, Nat.reduceBEq, Nat.reduceAdd, Nat.zero_add, Nat.reduceLeDiff, Nat.reduceLT, Int.reduceLT, Int.reduceLE, Int.reduceNeg, le_sz, lt_sz, forall_const, implies_true, bind_exc, toS_exc, fin_exc, seqK_exc, senv_exc, fF_exc, e_exIs, e_exFld, exIs_eq, x_raise, raiseK_eq, clr_eq, suiF_eq, x_try, tryK_nx, tryK_rt, tryK_bk, tryK_ct, tryK_exc, catK_t, catK_f, noX_nx, noX_rt, noX_bk, noX_ct, zip_c, zip_n, x_ins, insK_eq, insK2_eq, insS_eq, insO_some, x_setSl, slsK_eq, slsK2_eq, slsK3_eq, setSlS_eq, setSlO_some, c_is, c_isnt, List.any_cons, List.any_nil, k_check_flag, k_run_row, k_fills, k_law_box, k_law_take, k_law_row, k_law_wrong_sign, k_law_due, k_law_same, k_law_refusal, k_law, b_check_flag, fl_BadRow, ct_BadRow_CanalError, sb_BadRow_BadCalendar, sb_BadRow_BadCanal, sb_BadRow_BadDeed, sb_BadRow_BadLevels, sb_BadRow_BadRow, sb_BadRow_BadWork, sb_BadRow_NoWork, sb_BadRow_NotClean, sb_BadRow_NotPlain, sb_BadRow_NotRoomy, sb_BadRow_NothingDone, sb_BadRow_ShortWater, sb_BadRow_TextError, sb_BadRow_TooMany, sb_BadRow_ValueError, xf_BadRow_name, xf_BadRow_place, fl_TooMany, ct_TooMany_CanalError, sb_TooMany_BadCalendar, sb_TooMany_BadCanal, sb_TooMany_BadDeed, sb_TooMany_BadLevels, sb_TooMany_BadRow, sb_TooMany_BadWork, sb_TooMany_NoWork, sb_TooMany_NotClean, sb_TooMany_NotPlain, sb_TooMany_NotRoomy, sb_TooMany_NothingDone, sb_TooMany_ShortWater, sb_TooMany_TextError, sb_TooMany_TooMany, sb_TooMany_ValueError, xf_TooMany_limit, isB] <;> rfl
  | lst f xs =>
    simp only [shr_lst, Bool.and_eq_true] at hd
    obtain ⟨rfl, hx⟩ := hd
    rw [r_check_flag]; simp only [bind_ok, of_some, toS_ok, fin_esc, fin_rd, fin_kd, fin_ts, e_non, e_bl, e_int, e_str, e_var, lft_t, lft_f, frzR_ok, e_bin, binK_eq, binK2_eq, e_neg, e_cmp, cmpK_eq, cmpK2_eq, e_cmp2, c2K_eq, c2K2_eq, c2K3_eq, e_isN, isNK_eq, e_andT, e_andV, e_orT, e_orV, e_notT, e_notV, andT_eq, andV_eq, orT_eq, orV_eq, notT_eq, notV_eq, e_ite, iteK_eq, e_tup, e_lst, tupK_eq, lstK_eq, e_sub, subK_eq, subK2_eq, subJ_eq, subJ2_eq, e_slice, slK_eq, slK2_eq, slK3_eq, slP_none, slP_some, e_call, e_prim, primK_eq, e_meth, methK_eq, methK2_eq, mtOk, a_meth, cop_in, cop_notin, es_nil, es_cons, evsK_eq, consK_eq, kd_nil, kd_cons, kdsK_eq, a_nil, a_var, argG_some, argK_eq, consA_eq, a_int, a_str, a_bl, a_non, a_bin, a_neg, a_cmp, a_ite, a_tup, a_lst, a_sub, a_slice, a_call, a_prim, a_comp, i_rng, i_over, i_enum, i_rev, i_zip, rngK_eq, overK_eq, enumK_eq, revK_eq, zipK_eq, zipK2_eq, e_comp, compK_eq, cmpE_eq, noX_ok, x_nil, x_cons, seqK_nx, seqK_rt, seqK_bk, seqK_ct, x_asg, asgK_eq, x_unp, x_setI, setK_eq, setK2_eq, x_app, x_expr, exprK_eq, x_retv, retK_eq, x_ret, x_if, ifK_eq, bodyF_eq, x_for, forK_eq, tsF_eq, x_while, x_brk, x_cont, x_pass, vGet_rd, vGet_esc, vGet_kd, vGet_ts, onPart_esc, onPart_rd, onPart_kd, onPart_ts, shr_int, shr_bl, shr_non, shr_str, shr_lst, shr_tup, shrs_nil, shrs_cons, shrK_int, shrK_bl, shrK_non, shrK_str, shrK_lst, shrK_tup, frzK_int, frzK_bl, frzK_non, frzK_str, frzK_lst, frzK_tup, frz_lst, frz_tup, frz_int, frz_bl, frz_non, frz_str, frzs_nil, frzs_cons, truth_bl, truth_int, truth_lst, truth_tup, truth_non, map_some, b_add, b_sub, b_mul, b_mod, b_lst, b_tup, c_lt, c_le, c_gt, c_ge, c_eq, c_ne, eqD_int, p_len_l, p_len_t, p_int, p_min2, p_max2, p_sum_l, p_sum_t, p_tup_l, p_tup_t, p_lst_l, p_lst_t, p_isT, s_lst, s_tup, onOB_some, vNeg_int, vInt_ok, setTg_v, isNon_int, isNon_non, shrs_iL, frzs_iL, ints_iL, E.place, E.root, E.cf, Es.cf, List.getElem?_cons_zero, List.getElem?_cons_succ, List.set_cons_zero, List.set_cons_succ, List.headD_cons, List.tail_cons, Bool.true_and, Bool.and_true, Bool.true_or, Bool.or_true, Bool.false_and, Bool.and_false, Bool.false_or, Bool.or_false, ite_true, ite_false, if_true, if_false, Bool.false_eq_true, List.length_cons, List.length_nil, List.contains_eq_mem, List.mem_cons, List.not_mem_nil, decide_eq_true_eq, or_false, false_or, or_true, true_or, and_true, true_and, and_self, not_false_eq_true, not_true_eq_false, fF_rt, fF_nx, pars_t, pars_f, pars_0, Nat.reduceEqDiff, callA, slotsOf, treesOf, VS.backTo, List.nodup_cons, List.nodup_nil, cx_call, rGet_some, hasD_eq, hasO_some, isLstD_eq, isLO_some, setS_eq, setO_some, appS_eq, appO_some, unpS_tup, unpS_lst, srcVar_eq, sGet_some, srcOf_var, srcOf_call, srcOf_sub, srcOf_lst, srcOf_slice, srcOf_prim, vSrc_t, vSrc_f, itsOf_some, items_lst, items_tup, enumD_lst, enumD_tup, rangeD_1, rangeD_2, senv_nx, senv_rt, putLk_nil, putLk_cons, free, List.all_cons, List.all_nil, Tg.slots, List.zip_cons_cons, List.zip_nil_right, List.foldl_cons, List.foldl_nil, List.map_nil, List.map_cons, List.append_nil, List.nil_append, List.cons_append, isTys, isTy, Bool.not_true, Bool.not_false, Bool.not_eq_true, decide_true, decide_false, List.length_map, ne_eq, reduceCtorEq, Nat.reduceBEq, Nat.reduceAdd, Nat.zero_add, Nat.reduceLeDiff, Nat.reduceLT, Int.reduceLT, Int.reduceLE, Int.reduceNeg, le_sz, lt_sz, forall_const, implies_true, bind_exc, toS_exc, fin_exc, seqK_exc, senv_exc, fF_exc, e_exIs, e_exFld, exIs_eq, x_raise, raiseK_eq, clr_eq, suiF_eq, x_try, tryK_nx, tryK_rt, tryK_bk, tryK_ct, tryK_exc, catK_t, catK_f, noX_nx, noX_rt, noX_bk, noX_ct, zip_c, zip_n, x_ins, insK_eq, insK2_eq, insS_eq, insO_some, x_setSl, slsK_eq, slsK2_eq, slsK3_eq, setSlS_eq, setSlO_some, c_is, c_isnt, List.any_cons, List.any_nil, k_check_flag, k_run_row, k_fills, k_law_box, k_law_take, k_law_row, k_law_wrong_sign, k_law_due, k_law_same, k_law_refusal, k_law, b_check_flag, fl_BadRow, ct_BadRow_CanalError, sb_BadRow_BadCalendar, sb_BadRow_BadCanal, sb_BadRow_BadDeed, sb_BadRow_BadLevels, sb_BadRow_BadRow, sb_BadRow_BadWork, sb_BadRow_NoWork, sb_BadRow_NotClean, sb_BadRow_NotPlain, sb_BadRow_NotRoomy, sb_BadRow_NothingDone, sb_BadRow_ShortWater, sb_BadRow_TextError, sb_BadRow_TooMany, sb_BadRow_ValueError, xf_BadRow_name, xf_BadRow_place, fl_TooMany, ct_TooMany_CanalError, sb_TooMany_BadCalendar, sb_TooMany_BadCanal, sb_TooMany_BadDeed, sb_TooMany_BadLevels, sb_TooMany_BadRow, sb_TooMany_BadWork, sb_TooMany_NoWork, sb_TooMany_NotClean, sb_TooMany_NotPlain, sb_TooMany_NotRoomy, sb_TooMany_NothingDone, sb_TooMany_ShortWater, sb_TooMany_TextError, sb_TooMany_TooMany, sb_TooMany_ValueError, xf_TooMany_limit, isB, hx] <;> rfl
  | tup xs =>
    simp only [shr_tup] at hd
    rw [r_check_flag]; simp only [bind_ok, of_some, toS_ok, fin_esc, fin_rd, fin_kd, fin_ts, e_non, e_bl, e_int, e_str, e_var, lft_t, lft_f, frzR_ok, e_bin, binK_eq, binK2_eq, e_neg, e_cmp, cmpK_eq, cmpK2_eq, e_cmp2, c2K_eq, c2K2_eq, c2K3_eq, e_isN, isNK_eq, e_andT, e_andV, e_orT, e_orV, e_notT, e_notV, andT_eq, andV_eq, orT_eq, orV_eq, notT_eq, notV_eq, e_ite, iteK_eq, e_tup, e_lst, tupK_eq, lstK_eq, e_sub, subK_eq, subK2_eq, subJ_eq, subJ2_eq, e_slice, slK_eq, slK2_eq, slK3_eq, slP_none, slP_some, e_call, e_prim, primK_eq, e_meth, methK_eq, methK2_eq, mtOk, a_meth, cop_in, cop_notin, es_nil, es_cons, evsK_eq, consK_eq, kd_nil, kd_cons, kdsK_eq, a_nil, a_var, argG_some, argK_eq, consA_eq, a_int, a_str, a_bl, a_non, a_bin, a_neg, a_cmp, a_ite, a_tup, a_lst, a_sub, a_slice, a_call, a_prim, a_comp, i_rng, i_over, i_enum, i_rev, i_zip, rngK_eq, overK_eq, enumK_eq, revK_eq, zipK_eq, zipK2_eq, e_comp, compK_eq, cmpE_eq, noX_ok, x_nil, x_cons, seqK_nx, seqK_rt, seqK_bk, seqK_ct, x_asg, asgK_eq, x_unp, x_setI, setK_eq, setK2_eq, x_app, x_expr, exprK_eq, x_retv, retK_eq, x_ret, x_if, ifK_eq, bodyF_eq, x_for, forK_eq, tsF_eq, x_while, x_brk, x_cont, x_pass, vGet_rd, vGet_esc, vGet_kd, vGet_ts, onPart_esc, onPart_rd, onPart_kd, onPart_ts, shr_int, shr_bl, shr_non, shr_str, shr_lst, shr_tup, shrs_nil, shrs_cons, shrK_int, shrK_bl, shrK_non, shrK_str, shrK_lst, shrK_tup, frzK_int, frzK_bl, frzK_non, frzK_str, frzK_lst, frzK_tup, frz_lst, frz_tup, frz_int, frz_bl, frz_non, frz_str, frzs_nil, frzs_cons, truth_bl, truth_int, truth_lst, truth_tup, truth_non, map_some, b_add, b_sub, b_mul, b_mod, b_lst, b_tup, c_lt, c_le, c_gt, c_ge, c_eq, c_ne, eqD_int, p_len_l, p_len_t, p_int, p_min2, p_max2, p_sum_l, p_sum_t, p_tup_l, p_tup_t, p_lst_l, p_lst_t, p_isT, s_lst, s_tup, onOB_some, vNeg_int, vInt_ok, setTg_v, isNon_int, isNon_non, shrs_iL, frzs_iL, ints_iL, E.place, E.root, E.cf, Es.cf, List.getElem?_cons_zero, List.getElem?_cons_succ, List.set_cons_zero, List.set_cons_succ, List.headD_cons, List.tail_cons, Bool.true_and, Bool.and_true, Bool.true_or, Bool.or_true, Bool.false_and, Bool.and_false, Bool.false_or, Bool.or_false, ite_true, ite_false, if_true, if_false, Bool.false_eq_true, List.length_cons, List.length_nil, List.contains_eq_mem, List.mem_cons, List.not_mem_nil, decide_eq_true_eq, or_false, false_or, or_true, true_or, and_true, true_and, and_self, not_false_eq_true, not_true_eq_false, fF_rt, fF_nx, pars_t, pars_f, pars_0, Nat.reduceEqDiff, callA, slotsOf, treesOf, VS.backTo, List.nodup_cons, List.nodup_nil, cx_call, rGet_some, hasD_eq, hasO_some, isLstD_eq, isLO_some, setS_eq, setO_some, appS_eq, appO_some, unpS_tup, unpS_lst, srcVar_eq, sGet_some, srcOf_var, srcOf_call, srcOf_sub, srcOf_lst, srcOf_slice, srcOf_prim, vSrc_t, vSrc_f, itsOf_some, items_lst, items_tup, enumD_lst, enumD_tup, rangeD_1, rangeD_2, senv_nx, senv_rt, putLk_nil, putLk_cons, free, List.all_cons, List.all_nil, Tg.slots, List.zip_cons_cons, List.zip_nil_right, List.foldl_cons, List.foldl_nil, List.map_nil, List.map_cons, List.append_nil, List.nil_append, List.cons_append, isTys, isTy, Bool.not_true, Bool.not_false, Bool.not_eq_true, decide_true, decide_false, List.length_map, ne_eq, reduceCtorEq, Nat.reduceBEq, Nat.reduceAdd, Nat.zero_add, Nat.reduceLeDiff, Nat.reduceLT, Int.reduceLT, Int.reduceLE, Int.reduceNeg, le_sz, lt_sz, forall_const, implies_true, bind_exc, toS_exc, fin_exc, seqK_exc, senv_exc, fF_exc, e_exIs, e_exFld, exIs_eq, x_raise, raiseK_eq, clr_eq, suiF_eq, x_try, tryK_nx, tryK_rt, tryK_bk, tryK_ct, tryK_exc, catK_t, catK_f, noX_nx, noX_rt, noX_bk, noX_ct, zip_c, zip_n, x_ins, insK_eq, insK2_eq, insS_eq, insO_some, x_setSl, slsK_eq, slsK2_eq, slsK3_eq, setSlS_eq, setSlO_some, c_is, c_isnt, List.any_cons, List.any_nil, k_check_flag, k_run_row, k_fills, k_law_box, k_law_take, k_law_row, k_law_wrong_sign, k_law_due, k_law_same, k_law_refusal, k_law, b_check_flag, fl_BadRow, ct_BadRow_CanalError, sb_BadRow_BadCalendar, sb_BadRow_BadCanal, sb_BadRow_BadDeed, sb_BadRow_BadLevels, sb_BadRow_BadRow, sb_BadRow_BadWork, sb_BadRow_NoWork, sb_BadRow_NotClean, sb_BadRow_NotPlain, sb_BadRow_NotRoomy, sb_BadRow_NothingDone, sb_BadRow_ShortWater, sb_BadRow_TextError, sb_BadRow_TooMany, sb_BadRow_ValueError, xf_BadRow_name, xf_BadRow_place, fl_TooMany, ct_TooMany_CanalError, sb_TooMany_BadCalendar, sb_TooMany_BadCanal, sb_TooMany_BadDeed, sb_TooMany_BadLevels, sb_TooMany_BadRow, sb_TooMany_BadWork, sb_TooMany_NoWork, sb_TooMany_NotClean, sb_TooMany_NotPlain, sb_TooMany_NotRoomy, sb_TooMany_NothingDone, sb_TooMany_ShortWater, sb_TooMany_TextError, sb_TooMany_TooMany, sb_TooMany_ValueError, xf_TooMany_limit, isB, hd] <;> rfl
theorem cf_ok (s : Str) (b : Bool) : callN prog W (n + 1) 0 [.str s, .bl b] = .ok (.bl b) [.str s, .bl b] := i_check_flag s (.bl b) rfl
theorem cf_bad (s : Str) (d : D) (hd : d.shr = true) (h : isB d = false) : callN prog W (n + 1) 0 [.str s, d] = .exc "BadRow" [(("name" : Str), .str s), ("place", .non)] [.str s, d] := by
  rw [i_check_flag s d hd, h]; rfl
def cd (x : Bool) : Nat := if x then 117 else 100
def rw_ (l : List Bool) : Str := tx (l.map cd)
theorem lit_u : ("u" : Str) = tx [117] := rfl
theorem lit_d : ("d" : Str) = tx [100] := rfl
theorem lit_uu : ("uu" : Str) = tx [117, 117] := rfl
theorem lit_dd : ("dd" : Str) = tx [100, 100] := rfl
theorem lit_0 : ("" : Str) = tx [] := rfl
theorem lit_x : ("x" : Str) = tx [120] := rfl
/-- one passing -/
def stp (t : Nat × Nat × Bool) (x : Bool) : Nat × Nat × Bool := if x then (t.1 + 1, t.2.1 + (if t.2.2 then 1 else 0), true) else (t.1 + (if t.2.2 then 0 else 1), t.2.1 + 1, false)
def rnn (b : Bool) (l : List Bool) : Nat × Nat × Bool := l.foldl stp (0, 0, b)
theorem fl_go {tg : Tg} {body : EnvD → SR} {d : D} {ds : List D} {env e1 e2 : EnvD} (h1 : setTg tg d env = some e1) (h2 : body e1 = .nx e2) : forL tg body (d :: ds) env = forL tg body ds e2 := by
  simp only [forL, h1, h2]
theorem eqUd : eqD (.str (tx [100])) (.str (tx [117])) = some false := by decide +kernel
theorem eqUu : eqD (.str (tx [117])) (.str (tx [117])) = some true := by decide +kernel
theorem rr_loop : ∀ (l : List Bool) (t : Nat × Nat × Bool) (r y : Option D), ∃ y', forL (.v 4) (bodyF (cx prog W n) [1] b_run_row_1) ((l.map cd).map fun c => .str (tx [c])) [some (.bl t.2.2), r, some (.int (t.1 : Nat)), some (.int (t.2.1 : Nat)), y] = .nx [some (.bl (l.foldl stp t).2.2), r, some (.int ((l.foldl stp t).1 : Nat)), some (.int ((l.foldl stp t).2.1 : Nat)), y'] := by
  intro l
  induction l with
  | nil => intro t r y; exact ⟨_, rfl⟩
  | cons x l ih =>
    intro t r y
    obtain ⟨y', h⟩ := ih (stp t x) r (some (.str (tx [cd x])))
    refine ⟨y', ?_⟩
    rw [List.map_cons, List.map_cons, List.foldl_cons]
    refine (fl_go rfl ?_).trans h
    rw [bodyF_eq]
    obtain ⟨f, g, s⟩ := t
    cases x <;> cases s <;> simp only [bind_ok, of_some, toS_ok, fin_esc, fin_rd, fin_kd, fin_ts, e_non, e_bl, e_int, e_str, e_var, lft_t, lft_f, frzR_ok, e_bin, binK_eq, binK2_eq, e_neg, e_cmp, cmpK_eq, cmpK2_eq, e_cmp2, c2K_eq, c2K2_eq, c2K3_eq, e_isN, isNK_eq, e_andT, e_andV, e_orT, e_orV, e_notT, e_notV, andT_eq, andV_eq, orT_eq, orV_eq, notT_eq, notV_eq, e_ite, iteK_eq, e_tup, e_lst, tupK_eq, lstK_eq, e_sub, subK_eq, subK2_eq, subJ_eq, subJ2_eq, e_slice, slK_eq, slK2_eq, slK3_eq, slP_none, slP_some, e_call, e_prim, primK_eq, e_meth, methK_eq, methK2_eq, mtOk, a_meth, cop_in, cop_notin, es_nil, es_cons, evsK_eq, consK_eq, kd_nil, kd_cons, kdsK_eq, a_nil, a_var, argG_some, argK_eq, consA_eq, a_int, a_str, a_bl, a_non, a_bin, a_neg, a_cmp, a_ite, a_tup, a_lst, a_sub, a_slice, a_call, a_prim, a_comp, i_rng, i_over, i_enum, i_rev, i_zip, rngK_eq, overK_eq, enumK_eq, revK_eq, zipK_eq, zipK2_eq, e_comp, compK_eq, cmpE_eq, noX_ok, x_nil, x_cons, seqK_nx, seqK_rt, seqK_bk, seqK_ct, x_asg, asgK_eq, x_unp, x_setI, setK_eq, setK2_eq, x_app, x_expr, exprK_eq, x_retv, retK_eq, x_ret, x_if, ifK_eq, bodyF_eq, x_for, forK_eq, tsF_eq, x_while, x_brk, x_cont, x_pass, vGet_rd, vGet_esc, vGet_kd, vGet_ts, onPart_esc, onPart_rd, onPart_kd, onPart_ts, shr_int, shr_bl, shr_non, shr_str, shr_lst, shr_tup, shrs_nil, shrs_cons, shrK_int, shrK_bl, shrK_non, shrK_str, shrK_lst, shrK_tup, frzK_int, frzK_bl, frzK_non, frzK_str, frzK_lst, frzK_tup, frz_lst, frz_tup, frz_int, frz_bl, frz_non, frz_str, frzs_nil, frzs_cons, truth_bl, truth_int, truth_lst, truth_tup, truth_non, map_some, b_add, b_sub, b_mul, b_mod, b_lst, b_tup, c_lt, c_le, c_gt, c_ge, c_eq, c_ne, eqD_int, p_len_l, p_len_t, p_int, p_min2, p_max2, p_sum_l, p_sum_t, p_tup_l, p_tup_t, p_lst_l, p_lst_t, p_isT, s_lst, s_tup, onOB_some, vNeg_int, vInt_ok, setTg_v, isNon_int, isNon_non, shrs_iL, frzs_iL, ints_iL, E.place, E.root, E.cf, Es.cf, List.getElem?_cons_zero, List.getElem?_cons_succ, List.set_cons_zero, List.set_cons_succ, List.headD_cons, List.tail_cons, Bool.true_and, Bool.and_true, Bool.true_or, Bool.or_true, Bool.false_and, Bool.and_false, Bool.false_or, Bool.or_false, ite_true, ite_false, if_true, if_false, Bool.false_eq_true, List.length_cons, List.length_nil, List.contains_eq_mem, List.mem_cons, List.not_mem_nil, decide_eq_true_eq, or_false, false_or, or_true, true_or, and_true, true_and, and_self, not_false_eq_true, not_true_eq_false, fF_rt, fF_nx, pars_t, pars_f, pars_0, Nat.reduceEqDiff, callA, slotsOf, treesOf, VS.backTo, List.nodup_cons, List.nodup_nil, cx_call, rGet_some, hasD_eq, hasO_some, isLstD_eq, isLO_some, setS_eq, setO_some, appS_eq, appO_some, unpS_tup, unpS_lst, srcVar_eq, sGet_some, srcOf_var, srcOf_call, srcOf_sub, srcOf_lst, srcOf_slice, srcOf_prim, vSrc_t, vSrc_f, itsOf_some, items_lst, items_tup, enumD_lst, enumD_tup, rangeD_1, rangeD_2, senv_nx, senv_rt, putLk_nil, putLk_cons, free, List.all_cons, List.all_nil, Tg.slots, List.zip_cons_cons, List.zip_nil_right, List.foldl_cons, List.foldl_nil, List.map_nil, List.map_cons, List.append_nil, List.nil_append, List.cons_append, isTys, isTy, Bool.not_true, Bool.not_false, Bool.not_eq_true, decide_true, decide_false, List.length_map, ne_eq, reduceCtorEq, Nat.reduceBEq, Nat.reduceAdd, Nat.zero_add, Nat.reduceLeDiff, Nat.reduceLT, Int.reduceLT, Int.reduceLE, Int.reduceNeg, le_sz, lt_sz, forall_const, implies_true, bind_exc, toS_exc, fin_exc, seqK_exc, senv_exc, fF_exc, e_exIs, e_exFld, exIs_eq, x_raise, raiseK_eq, clr_eq, suiF_eq, x_try, tryK_nx, tryK_rt, tryK_bk, tryK_ct, tryK_exc, catK_t, catK_f, noX_nx, noX_rt, noX_bk, noX_ct, zip_c, zip_n, x_ins, insK_eq, insK2_eq, insS_eq, insO_some, x_setSl, slsK_eq, slsK2_eq, slsK3_eq, setSlS_eq, setSlO_some, c_is, c_isnt, List.any_cons, List.any_nil, k_check_flag, k_run_row, k_fills, k_law_box, k_law_take, k_law_row, k_law_wrong_sign, k_law_due, k_law_same, k_law_refusal, k_law, b_run_row_1, cd, stp, lit_u, eqUd, eqUu, Int.natCast_add, Int.natCast_one, Nat.add_zero] <;> rfl
theorem i_run_row (b : Bool) (l : List Bool) : callN prog W (n + 1) 1 [.bl b, .str (rw_ l)] = .ok (.tup [.int ((rnn b l).1 : Nat), .int ((rnn b l).2.1 : Nat), .bl (rnn b l).2.2]) [.non, .str (rw_ l)] := by
  obtain ⟨y', h⟩ := rr_loop (W := W) (n := n) l (0, 0, b) (some (.str (rw_ l))) none
  have h : forL (.v 4) (bodyF (cx prog W n) [1] b_run_row_1) ((l.map cd).map fun c => .str (tx [c])) [some (.bl b), some (.str (rw_ l)), some (.int 0), some (.int 0), none] = _ := h
  rw [r_run_row]
  unfold rw_ at h ⊢
  simp only [bind_ok, of_some, toS_ok, fin_esc, fin_rd, fin_kd, fin_ts, e_non, e_bl, e_int, e_str, e_var, lft_t, lft_f, frzR_ok, e_bin, binK_eq, binK2_eq, e_neg, e_cmp, cmpK_eq, cmpK2_eq, e_cmp2, c2K_eq, c2K2_eq, c2K3_eq, e_isN, isNK_eq, e_andT, e_andV, e_orT, e_orV, e_notT, e_notV, andT_eq, andV_eq, orT_eq, orV_eq, notT_eq, notV_eq, e_ite, iteK_eq, e_tup, e_lst, tupK_eq, lstK_eq, e_sub, subK_eq, subK2_eq, subJ_eq, subJ2_eq, e_slice, slK_eq, slK2_eq, slK3_eq, slP_none, slP_some, e_call, e_prim, primK_eq, e_meth, methK_eq, methK2_eq, mtOk, a_meth, cop_in, cop_notin, es_nil, es_cons, evsK_eq, consK_eq, kd_nil, kd_cons, kdsK_eq, a_nil, a_var, argG_some, argK_eq, consA_eq, a_int, a_str, a_bl, a_non, a_bin, a_neg, a_cmp, a_ite, a_tup, a_lst, a_sub, a_slice, a_call, a_prim, a_comp, i_rng, i_over, i_enum, i_rev, i_zip, rngK_eq, overK_eq, enumK_eq, revK_eq, zipK_eq, zipK2_eq, e_comp, compK_eq, cmpE_eq, noX_ok, x_nil, x_cons, seqK_nx, seqK_rt, seqK_bk, seqK_ct, x_asg, asgK_eq, x_unp, x_setI, setK_eq, setK2_eq, x_app, x_expr, exprK_eq, x_retv, retK_eq, x_ret, x_if, ifK_eq, bodyF_eq, x_for, forK_eq, tsF_eq, x_while, x_brk, x_cont, x_pass, vGet_rd, vGet_esc, vGet_kd, vGet_ts, onPart_esc, onPart_rd, onPart_kd, onPart_ts, shr_int, shr_bl, shr_non, shr_str, shr_lst, shr_tup, shrs_nil, shrs_cons, shrK_int, shrK_bl, shrK_non, shrK_str, shrK_lst, shrK_tup, frzK_int, frzK_bl, frzK_non, frzK_str, frzK_lst, frzK_tup, frz_lst, frz_tup, frz_int, frz_bl, frz_non, frz_str, frzs_nil, frzs_cons, truth_bl, truth_int, truth_lst, truth_tup, truth_non, map_some, b_add, b_sub, b_mul, b_mod, b_lst, b_tup, c_lt, c_le, c_gt, c_ge, c_eq, c_ne, eqD_int, p_len_l, p_len_t, p_int, p_min2, p_max2, p_sum_l, p_sum_t, p_tup_l, p_tup_t, p_lst_l, p_lst_t, p_isT, s_lst, s_tup, onOB_some, vNeg_int, vInt_ok, setTg_v, isNon_int, isNon_non, shrs_iL, frzs_iL, ints_iL, E.place, E.root, E.cf, Es.cf, List.getElem?_cons_zero, List.getElem?_cons_succ, List.set_cons_zero, List.set_cons_succ, List.headD_cons, List.tail_cons, Bool.true_and, Bool.and_true, Bool.true_or, Bool.or_true, Bool.false_and, Bool.and_false, Bool.false_or, Bool.or_false, ite_true, ite_false, if_true, if_false, Bool.false_eq_true, List.length_cons, List.length_nil, List.contains_eq_mem, List.mem_cons, List.not_mem_nil, decide_eq_true_eq, or_false, false_or, or_true, true_or, and_true, true_and, and_self, not_false_eq_true, not_true_eq_false, fF_rt, fF_nx, pars_t, pars_f, pars_0, Nat.reduceEqDiff, callA, slotsOf, treesOf, VS.backTo, List.nodup_cons, List.nodup_nil, cx_call, rGet_some, hasD_eq, hasO_some, isLstD_eq, isLO_some, setS_eq, setO_some, appS_eq, appO_some, unpS_tup, unpS_lst, srcVar_eq, sGet_some, srcOf_var, srcOf_call, srcOf_sub, srcOf_lst, srcOf_slice, srcOf_prim, vSrc_t, vSrc_f, itsOf_some, items_lst, items_tup, enumD_lst, enumD_tup, rangeD_1, rangeD_2, senv_nx, senv_rt, putLk_nil, putLk_cons, free, List.all_cons, List.all_nil, Tg.slots, List.zip_cons_cons, List.zip_nil_right, List.foldl_cons, List.foldl_nil, List.map_nil, List.map_cons, List.append_nil, List.nil_append, List.cons_append, isTys, isTy, Bool.not_true, Bool.not_false, Bool.not_eq_true, decide_true, decide_false, List.length_map, ne_eq, reduceCtorEq, Nat.reduceBEq, Nat.reduceAdd, Nat.zero_add, Nat.reduceLeDiff, Nat.reduceLT, Int.reduceLT, Int.reduceLE, Int.reduceNeg, le_sz, lt_sz, forall_const, implies_true, bind_exc, toS_exc, fin_exc, seqK_exc, senv_exc, fF_exc, e_exIs, e_exFld, exIs_eq, x_raise, raiseK_eq, clr_eq, suiF_eq, x_try, tryK_nx, tryK_rt, tryK_bk, tryK_ct, tryK_exc, catK_t, catK_f, noX_nx, noX_rt, noX_bk, noX_ct, zip_c, zip_n, x_ins, insK_eq, insK2_eq, insS_eq, insO_some, x_setSl, slsK_eq, slsK2_eq, slsK3_eq, setSlS_eq, setSlO_some, c_is, c_isnt, List.any_cons, List.any_nil, k_check_flag, k_run_row, k_fills, k_law_box, k_law_take, k_law_row, k_law_wrong_sign, k_law_due, k_law_same, k_law_refusal, k_law, b_run_row, tx_item, h] <;> rfl

end K13

end

section
set_option maxRecDepth 100000
set_option linter.all false
namespace K13
open PySem VS
variable {W n : Nat}
theorem boxSh {a b : Int} : (boxD a b).shr = false := rfl
def wr : List Nat := [10, 32, 33, 34, 35, 36, 38, 39, 40, 41, 42, 43, 44, 45, 46, 47, 48, 49, 50, 51, 52, 53, 54, 55, 56, 57, 58, 59, 60, 61, 62, 63, 64, 65, 66, 67, 68, 69, 70, 71, 72, 73, 74, 75, 76, 77, 78, 79, 80, 81, 82, 83, 84, 85, 86, 87, 88, 89, 90, 91, 92, 93, 94, 95, 96, 97, 98, 99, 101, 102, 103, 104, 105, 106, 107, 108, 109, 110, 111, 112, 113, 114, 115, 116, 118, 119, 120, 121, 122, 123, 124, 125, 126]
theorem lit_w : (⟨#[10, 32, 33, 34, 35, 36, 38, 39, 40, 41, 42, 43, 44, 45, 46, 47, 48, 49, 50, 51, 52, 53, 54, 55, 56, 57, 58, 59, 60, 61, 62, 63, 64, 65, 66, 67, 68, 69, 70, 71, 72, 73, 74, 75, 76, 77, 78, 79, 80, 81, 82, 83, 84, 85, 86, 87, 88, 89, 90, 91, 92, 93, 94, 95, 96, 97, 98, 99, 101, 102, 103, 104, 105, 106, 107, 108, 109, 110, 111, 112, 113, 114, 115, 116, 118, 119, 120, 121, 122, 123, 124, 125, 126]⟩ : Str) = tx wr := rfl
theorem lit_ud : ("ud" : Str) = tx [117, 100] := rfl
theorem lit_du : ("du" : Str) = tx [100, 117] := rfl
theorem wr_ok : wr.all (fun c => decide (c ≠ 117 ∧ c ≠ 100 ∧ c < 200)) = true := by decide +kernel
theorem i_law_row (a b : Int) (size : Nat) (a0 : 0 ≤ a) (b0 : 0 ≤ b) (b1 : b < 2147483647) (hs : size ≤ 200) : ∃ a' b' l, 0 ≤ a' ∧ 0 ≤ b' ∧ b' < 2147483647 ∧ l.length = size ∧ callN prog W (n + 2) 5 [boxD a b, .int size] = .ok (.str (rw_ l)) [boxD a' b', .int size] := by
  have loop := forL_rng (tg := .v 3) (lo := 0) (n := size) (body := bodyF (cx prog W (n + 1)) [0, 1] b_law_row_1) (fun k e => ∃ (a b : Int) (l : List Bool) (y : Option D), 0 ≤ a ∧ 0 ≤ b ∧ b < 2147483647 ∧ l.length = k ∧ e = [some (boxD a b), some (.int size), some (.str (rw_ l)), y]) (fun k env hk ⟨a, b, l, y, a0, b0, b1, hl, he⟩ => by
    subst he
    obtain ⟨a, b, d, a0, b0, b1, d0, d1, e1⟩ := i_law_take (W := W) (n := n) a b 2 a0 b0 b1 (by decide) (by decide)
    have hc : ∀ x : Bool, bop .add (.str (rw_ l)) (.str (tx [cd x])) = some (.str (rw_ (l ++ [x]))) := fun x => by
      unfold rw_
      rw [tx_cat (by simp; omega)]
      simp
    rcases (show d = 0 ∨ d = 1 by omega) with rfl | rfl
    · have s0 : subD (.str (tx [117, 100])) (.int 0) = some (.str (tx [cd true])) := rfl
      exact ⟨_, _, rfl, by simp only [bind_ok, of_some, toS_ok, fin_esc, fin_rd, fin_kd, fin_ts, e_non, e_bl, e_int, e_str, e_var, lft_t, lft_f, frzR_ok, e_bin, binK_eq, binK2_eq, e_neg, e_cmp, cmpK_eq, cmpK2_eq, e_cmp2, c2K_eq, c2K2_eq, c2K3_eq, e_isN, isNK_eq, e_andT, e_andV, e_orT, e_orV, e_notT, e_notV, andT_eq, andV_eq, orT_eq, orV_eq, notT_eq, notV_eq, e_ite, iteK_eq, e_tup, e_lst, tupK_eq, lstK_eq, e_sub, subK_eq, subK2_eq, subJ_eq, subJ2_eq, e_slice, slK_eq, slK2_eq, slK3_eq, slP_none, slP_some, e_call, e_prim, primK_eq, e_meth, methK_eq, methK2_eq, mtOk, a_meth, cop_in, cop_notin, es_nil, es_cons, evsK_eq, consK_eq, kd_nil, kd_cons, kdsK_eq, a_nil, a_var, argG_some, argK_eq, consA_eq, a_int, a_str, a_bl, a_non, a_bin, a_neg, a_cmp, a_ite, a_tup, a_lst, a_sub, a_slice, a_call, a_prim, a_comp, i_rng, i_over, i_enum, i_rev, i_zip, rngK_eq, overK_eq, enumK_eq, revK_eq, zipK_eq, zipK2_eq, e_comp, compK_eq, cmpE_eq, noX_ok, x_nil, x_cons, seqK_nx, seqK_rt, seqK_bk, seqK_ct, x_asg, asgK_eq, x_unp, x_setI, setK_eq, setK2_eq, x_app, x_expr, exprK_eq, x_retv, retK_eq, x_ret, x_if, ifK_eq, bodyF_eq, x_for, forK_eq, tsF_eq, x_while, x_brk, x_cont, x_pass, vGet_rd, vGet_esc, vGet_kd, vGet_ts, onPart_esc, onPart_rd, onPart_kd, onPart_ts, shr_int, shr_bl, shr_non, shr_str, shr_lst, shr_tup, shrs_nil, shrs_cons, shrK_int, shrK_bl, shrK_non, shrK_str, shrK_lst, shrK_tup, frzK_int, frzK_bl, frzK_non, frzK_str, frzK_lst, frzK_tup, frz_lst, frz_tup, frz_int, frz_bl, frz_non, frz_str, frzs_nil, frzs_cons, truth_bl, truth_int, truth_lst, truth_tup, truth_non, map_some, b_add, b_sub, b_mul, b_mod, b_lst, b_tup, c_lt, c_le, c_gt, c_ge, c_eq, c_ne, eqD_int, p_len_l, p_len_t, p_int, p_min2, p_max2, p_sum_l, p_sum_t, p_tup_l, p_tup_t, p_lst_l, p_lst_t, p_isT, s_lst, s_tup, onOB_some, vNeg_int, vInt_ok, setTg_v, isNon_int, isNon_non, shrs_iL, frzs_iL, ints_iL, E.place, E.root, E.cf, Es.cf, List.getElem?_cons_zero, List.getElem?_cons_succ, List.set_cons_zero, List.set_cons_succ, List.headD_cons, List.tail_cons, Bool.true_and, Bool.and_true, Bool.true_or, Bool.or_true, Bool.false_and, Bool.and_false, Bool.false_or, Bool.or_false, ite_true, ite_false, if_true, if_false, Bool.false_eq_true, List.length_cons, List.length_nil, List.contains_eq_mem, List.mem_cons, List.not_mem_nil, decide_eq_true_eq, or_false, false_or, or_true, true_or, and_true, true_and, and_self, not_false_eq_true, not_true_eq_false, fF_rt, fF_nx, pars_t, pars_f, pars_0, Nat.reduceEqDiff, callA, slotsOf, treesOf, VS.backTo, List.nodup_cons, List.nodup_nil, cx_call, rGet_some, hasD_eq, hasO_some, isLstD_eq, isLO_some, setS_eq, setO_some, appS_eq, appO_some, unpS_tup, unpS_lst, srcVar_eq, sGet_some, srcOf_var, srcOf_call, srcOf_sub, srcOf_lst, srcOf_slice, srcOf_prim, vSrc_t, vSrc_f, itsOf_some, items_lst, items_tup, enumD_lst, enumD_tup, rangeD_1, rangeD_2, senv_nx, senv_rt, putLk_nil, putLk_cons, free, List.all_cons, List.all_nil, Tg.slots, List.zip_cons_cons, List.zip_nil_right, List.foldl_cons, List.foldl_nil, List.map_nil, List.map_cons, List.append_nil, List.nil_append, List.cons_append, isTys, isTy, Bool.not_true, Bool.not_false, Bool.not_eq_true, decide_true, decide_false, List.length_map, ne_eq, reduceCtorEq, Nat.reduceBEq, Nat.reduceAdd, Nat.zero_add, Nat.reduceLeDiff, Nat.reduceLT, Int.reduceLT, Int.reduceLE, Int.reduceNeg, le_sz, lt_sz, forall_const, implies_true, bind_exc, toS_exc, fin_exc, seqK_exc, senv_exc, fF_exc, e_exIs, e_exFld, exIs_eq, x_raise, raiseK_eq, clr_eq, suiF_eq, x_try, tryK_nx, tryK_rt, tryK_bk, tryK_ct, tryK_exc, catK_t, catK_f, noX_nx, noX_rt, noX_bk, noX_ct, zip_c, zip_n, x_ins, insK_eq, insK2_eq, insS_eq, insO_some, x_setSl, slsK_eq, slsK2_eq, slsK3_eq, setSlS_eq, setSlO_some, c_is, c_isnt, List.any_cons, List.any_nil, k_check_flag, k_run_row, k_fills, k_law_box, k_law_take, k_law_row, k_law_wrong_sign, k_law_due, k_law_same, k_law_refusal, k_law, b_law_row_1, boxSh, e1, lit_ud, s0, hc]; rfl, a, b, l ++ [true], _, a0, b0, b1, by simp [hl], rfl⟩
    · have s0 : subD (.str (tx [117, 100])) (.int 1) = some (.str (tx [cd false])) := rfl
      exact ⟨_, _, rfl, by simp only [bind_ok, of_some, toS_ok, fin_esc, fin_rd, fin_kd, fin_ts, e_non, e_bl, e_int, e_str, e_var, lft_t, lft_f, frzR_ok, e_bin, binK_eq, binK2_eq, e_neg, e_cmp, cmpK_eq, cmpK2_eq, e_cmp2, c2K_eq, c2K2_eq, c2K3_eq, e_isN, isNK_eq, e_andT, e_andV, e_orT, e_orV, e_notT, e_notV, andT_eq, andV_eq, orT_eq, orV_eq, notT_eq, notV_eq, e_ite, iteK_eq, e_tup, e_lst, tupK_eq, lstK_eq, e_sub, subK_eq, subK2_eq, subJ_eq, subJ2_eq, e_slice, slK_eq, slK2_eq, slK3_eq, slP_none, slP_some, e_call, e_prim, primK_eq, e_meth, methK_eq, methK2_eq, mtOk, a_meth, cop_in, cop_notin, es_nil, es_cons, evsK_eq, consK_eq, kd_nil, kd_cons, kdsK_eq, a_nil, a_var, argG_some, argK_eq, consA_eq, a_int, a_str, a_bl, a_non, a_bin, a_neg, a_cmp, a_ite, a_tup, a_lst, a_sub, a_slice, a_call, a_prim, a_comp, i_rng, i_over, i_enum, i_rev, i_zip, rngK_eq, overK_eq, enumK_eq, revK_eq, zipK_eq, zipK2_eq, e_comp, compK_eq, cmpE_eq, noX_ok, x_nil, x_cons, seqK_nx, seqK_rt, seqK_bk, seqK_ct, x_asg, asgK_eq, x_unp, x_setI, setK_eq, setK2_eq, x_app, x_expr, exprK_eq, x_retv, retK_eq, x_ret, x_if, ifK_eq, bodyF_eq, x_for, forK_eq, tsF_eq, x_while, x_brk, x_cont, x_pass, vGet_rd, vGet_esc, vGet_kd, vGet_ts, onPart_esc, onPart_rd, onPart_kd, onPart_ts, shr_int, shr_bl, shr_non, shr_str, shr_lst, shr_tup, shrs_nil, shrs_cons, shrK_int, shrK_bl, shrK_non, shrK_str, shrK_lst, shrK_tup, frzK_int, frzK_bl, frzK_non, frzK_str, frzK_lst, frzK_tup, frz_lst, frz_tup, frz_int, frz_bl, frz_non, frz_str, frzs_nil, frzs_cons, truth_bl, truth_int, truth_lst, truth_tup, truth_non, map_some, b_add, b_sub, b_mul, b_mod, b_lst, b_tup, c_lt, c_le, c_gt, c_ge, c_eq, c_ne, eqD_int, p_len_l, p_len_t, p_int, p_min2, p_max2, p_sum_l, p_sum_t, p_tup_l, p_tup_t, p_lst_l, p_lst_t, p_isT, s_lst, s_tup, onOB_some, vNeg_int, vInt_ok, setTg_v, isNon_int, isNon_non, shrs_iL, frzs_iL, ints_iL, E.place, E.root, E.cf, Es.cf, List.getElem?_cons_zero, List.getElem?_cons_succ, List.set_cons_zero, List.set_cons_succ, List.headD_cons, List.tail_cons, Bool.true_and, Bool.and_true, Bool.true_or, Bool.or_true, Bool.false_and, Bool.and_false, Bool.false_or, Bool.or_false, ite_true, ite_false, if_true, if_false, Bool.false_eq_true, List.length_cons, List.length_nil, List.contains_eq_mem, List.mem_cons, List.not_mem_nil, decide_eq_true_eq, or_false, false_or, or_true, true_or, and_true, true_and, and_self, not_false_eq_true, not_true_eq_false, fF_rt, fF_nx, pars_t, pars_f, pars_0, Nat.reduceEqDiff, callA, slotsOf, treesOf, VS.backTo, List.nodup_cons, List.nodup_nil, cx_call, rGet_some, hasD_eq, hasO_some, isLstD_eq, isLO_some, setS_eq, setO_some, appS_eq, appO_some, unpS_tup, unpS_lst, srcVar_eq, sGet_some, srcOf_var, srcOf_call, srcOf_sub, srcOf_lst, srcOf_slice, srcOf_prim, vSrc_t, vSrc_f, itsOf_some, items_lst, items_tup, enumD_lst, enumD_tup, rangeD_1, rangeD_2, senv_nx, senv_rt, putLk_nil, putLk_cons, free, List.all_cons, List.all_nil, Tg.slots, List.zip_cons_cons, List.zip_nil_right, List.foldl_cons, List.foldl_nil, List.map_nil, List.map_cons, List.append_nil, List.nil_append, List.cons_append, isTys, isTy, Bool.not_true, Bool.not_false, Bool.not_eq_true, decide_true, decide_false, List.length_map, ne_eq, reduceCtorEq, Nat.reduceBEq, Nat.reduceAdd, Nat.zero_add, Nat.reduceLeDiff, Nat.reduceLT, Int.reduceLT, Int.reduceLE, Int.reduceNeg, le_sz, lt_sz, forall_const, implies_true, bind_exc, toS_exc, fin_exc, seqK_exc, senv_exc, fF_exc, e_exIs, e_exFld, exIs_eq, x_raise, raiseK_eq, clr_eq, suiF_eq, x_try, tryK_nx, tryK_rt, tryK_bk, tryK_ct, tryK_exc, catK_t, catK_f, noX_nx, noX_rt, noX_bk, noX_ct, zip_c, zip_n, x_ins, insK_eq, insK2_eq, insS_eq, insO_some, x_setSl, slsK_eq, slsK2_eq, slsK3_eq, setSlS_eq, setSlO_some, c_is, c_isnt, List.any_cons, List.any_nil, k_check_flag, k_run_row, k_fills, k_law_box, k_law_take, k_law_row, k_law_wrong_sign, k_law_due, k_law_same, k_law_refusal, k_law, b_law_row_1, boxSh, e1, lit_ud, s0, hc]; rfl, a, b, l ++ [false], _, a0, b0, b1, by simp [hl], rfl⟩) (env := [some (boxD a b), some (.int size), some (.str (rw_ [])), none]) ⟨a, b, [], none, a0, b0, b1, rfl, rfl⟩
  obtain ⟨e, e1, a, b, l, y, a0, b0, b1, hl, rfl⟩ := loop
  refine ⟨a, b, l, a0, b0, b1, hl, ?_⟩
  have r1 : rngOk (size : Int) = true := rngOk_of (by omega) (by omega)
  have e1' : forL (.v 3) (bodyF (cx prog W (n + 1)) [0, 1] b_law_row_1) (rangeL 0 size) [some (boxD _ _), some (.int size), some (.str ""), none] = _ := e1
  rw [r_law_row]
  simp only [bind_ok, of_some, toS_ok, fin_esc, fin_rd, fin_kd, fin_ts, e_non, e_bl, e_int, e_str, e_var, lft_t, lft_f, frzR_ok, e_bin, binK_eq, binK2_eq, e_neg, e_cmp, cmpK_eq, cmpK2_eq, e_cmp2, c2K_eq, c2K2_eq, c2K3_eq, e_isN, isNK_eq, e_andT, e_andV, e_orT, e_orV, e_notT, e_notV, andT_eq, andV_eq, orT_eq, orV_eq, notT_eq, notV_eq, e_ite, iteK_eq, e_tup, e_lst, tupK_eq, lstK_eq, e_sub, subK_eq, subK2_eq, subJ_eq, subJ2_eq, e_slice, slK_eq, slK2_eq, slK3_eq, slP_none, slP_some, e_call, e_prim, primK_eq, e_meth, methK_eq, methK2_eq, mtOk, a_meth, cop_in, cop_notin, es_nil, es_cons, evsK_eq, consK_eq, kd_nil, kd_cons, kdsK_eq, a_nil, a_var, argG_some, argK_eq, consA_eq, a_int, a_str, a_bl, a_non, a_bin, a_neg, a_cmp, a_ite, a_tup, a_lst, a_sub, a_slice, a_call, a_prim, a_comp, i_rng, i_over, i_enum, i_rev, i_zip, rngK_eq, overK_eq, enumK_eq, revK_eq, zipK_eq, zipK2_eq, e_comp, compK_eq, cmpE_eq, noX_ok, x_nil, x_cons, seqK_nx, seqK_rt, seqK_bk, seqK_ct, x_asg, asgK_eq, x_unp, x_setI, setK_eq, setK2_eq, x_app, x_expr, exprK_eq, x_retv, retK_eq, x_ret, x_if, ifK_eq, bodyF_eq, x_for, forK_eq, tsF_eq, x_while, x_brk, x_cont, x_pass, vGet_rd, vGet_esc, vGet_kd, vGet_ts, onPart_esc, onPart_rd, onPart_kd, onPart_ts, shr_int, shr_bl, shr_non, shr_str, shr_lst, shr_tup, shrs_nil, shrs_cons, shrK_int, shrK_bl, shrK_non, shrK_str, shrK_lst, shrK_tup, frzK_int, frzK_bl, frzK_non, frzK_str, frzK_lst, frzK_tup, frz_lst, frz_tup, frz_int, frz_bl, frz_non, frz_str, frzs_nil, frzs_cons, truth_bl, truth_int, truth_lst, truth_tup, truth_non, map_some, b_add, b_sub, b_mul, b_mod, b_lst, b_tup, c_lt, c_le, c_gt, c_ge, c_eq, c_ne, eqD_int, p_len_l, p_len_t, p_int, p_min2, p_max2, p_sum_l, p_sum_t, p_tup_l, p_tup_t, p_lst_l, p_lst_t, p_isT, s_lst, s_tup, onOB_some, vNeg_int, vInt_ok, setTg_v, isNon_int, isNon_non, shrs_iL, frzs_iL, ints_iL, E.place, E.root, E.cf, Es.cf, List.getElem?_cons_zero, List.getElem?_cons_succ, List.set_cons_zero, List.set_cons_succ, List.headD_cons, List.tail_cons, Bool.true_and, Bool.and_true, Bool.true_or, Bool.or_true, Bool.false_and, Bool.and_false, Bool.false_or, Bool.or_false, ite_true, ite_false, if_true, if_false, Bool.false_eq_true, List.length_cons, List.length_nil, List.contains_eq_mem, List.mem_cons, List.not_mem_nil, decide_eq_true_eq, or_false, false_or, or_true, true_or, and_true, true_and, and_self, not_false_eq_true, not_true_eq_false, fF_rt, fF_nx, pars_t, pars_f, pars_0, Nat.reduceEqDiff, callA, slotsOf, treesOf, VS.backTo, List.nodup_cons, List.nodup_nil, cx_call, rGet_some, hasD_eq, hasO_some, isLstD_eq, isLO_some, setS_eq, setO_some, appS_eq, appO_some, unpS_tup, unpS_lst, srcVar_eq, sGet_some, srcOf_var, srcOf_call, srcOf_sub, srcOf_lst, srcOf_slice, srcOf_prim, vSrc_t, vSrc_f, itsOf_some, items_lst, items_tup, enumD_lst, enumD_tup, rangeD_1, rangeD_2, senv_nx, senv_rt, putLk_nil, putLk_cons, free, List.all_cons, List.all_nil, Tg.slots, List.zip_cons_cons, List.zip_nil_right, List.foldl_cons, List.foldl_nil, List.map_nil, List.map_cons, List.append_nil, List.nil_append, List.cons_append, isTys, isTy, Bool.not_true, Bool.not_false, Bool.not_eq_true, decide_true, decide_false, List.length_map, ne_eq, reduceCtorEq, Nat.reduceBEq, Nat.reduceAdd, Nat.zero_add, Nat.reduceLeDiff, Nat.reduceLT, Int.reduceLT, Int.reduceLE, Int.reduceNeg, le_sz, lt_sz, forall_const, implies_true, bind_exc, toS_exc, fin_exc, seqK_exc, senv_exc, fF_exc, e_exIs, e_exFld, exIs_eq, x_raise, raiseK_eq, clr_eq, suiF_eq, x_try, tryK_nx, tryK_rt, tryK_bk, tryK_ct, tryK_exc, catK_t, catK_f, noX_nx, noX_rt, noX_bk, noX_ct, zip_c, zip_n, x_ins, insK_eq, insK2_eq, insS_eq, insO_some, x_setSl, slsK_eq, slsK2_eq, slsK3_eq, setSlS_eq, setSlO_some, c_is, c_isnt, List.any_cons, List.any_nil, k_check_flag, k_run_row, k_fills, k_law_box, k_law_take, k_law_row, k_law_wrong_sign, k_law_due, k_law_same, k_law_refusal, k_law, b_law_row, r1, Int.toNat_natCast, e1'] <;> rfl
theorem i_wrong (a b : Int) (a0 : 0 ≤ a) (b0 : 0 ≤ b) (b1 : b < 2147483647) : ∃ a' b' c, 0 ≤ a' ∧ 0 ≤ b' ∧ b' < 2147483647 ∧ c ≠ 117 ∧ c ≠ 100 ∧ c < 200 ∧ callN prog W (n + 2) 6 [boxD a b] = .ok (.str (tx [c])) [boxD a' b'] := by
  have hl : ((wr.length : Nat) : Int) = 93 := by decide +kernel
  obtain ⟨a, b, d, a0, b0, b1, d0, d1, e1⟩ := i_law_take (W := W) (n := n) a b 93 a0 b0 b1 (by decide) (by decide)
  obtain ⟨c, hc⟩ : ∃ c, wr[d.toNat]? = some c := ⟨_, List.getElem?_eq_getElem (by omega)⟩
  have hm := List.all_eq_true.1 wr_ok c (List.mem_of_getElem? hc)
  have hm := of_decide_eq_true hm
  have h1 := tx_plen (a := wr) (by decide +kernel)
  rw [hl] at h1
  have h2 : subD (.str (tx wr)) (.int d) = some (.str (tx [c])) := by
    rw [tx_sub (by decide +kernel)]
    have e : d = ((d.toNat : Nat) : Int) := by omega
    rw [e, L2.atI_nat hc]; rfl
  refine ⟨a, b, c, a0, b0, b1, hm.1, hm.2.1, hm.2.2, ?_⟩
  rw [r_law_wrong_sign]
  simp only [bind_ok, of_some, toS_ok, fin_esc, fin_rd, fin_kd, fin_ts, e_non, e_bl, e_int, e_str, e_var, lft_t, lft_f, frzR_ok, e_bin, binK_eq, binK2_eq, e_neg, e_cmp, cmpK_eq, cmpK2_eq, e_cmp2, c2K_eq, c2K2_eq, c2K3_eq, e_isN, isNK_eq, e_andT, e_andV, e_orT, e_orV, e_notT, e_notV, andT_eq, andV_eq, orT_eq, orV_eq, notT_eq, notV_eq, e_ite, iteK_eq, e_tup, e_lst, tupK_eq, lstK_eq, e_sub, subK_eq, subK2_eq, subJ_eq, subJ2_eq, e_slice, slK_eq, slK2_eq, slK3_eq, slP_none, slP_some, e_call, e_prim, primK_eq, e_meth, methK_eq, methK2_eq, mtOk, a_meth, cop_in, cop_notin, es_nil, es_cons, evsK_eq, consK_eq, kd_nil, kd_cons, kdsK_eq, a_nil, a_var, argG_some, argK_eq, consA_eq, a_int, a_str, a_bl, a_non, a_bin, a_neg, a_cmp, a_ite, a_tup, a_lst, a_sub, a_slice, a_call, a_prim, a_comp, i_rng, i_over, i_enum, i_rev, i_zip, rngK_eq, overK_eq, enumK_eq, revK_eq, zipK_eq, zipK2_eq, e_comp, compK_eq, cmpE_eq, noX_ok, x_nil, x_cons, seqK_nx, seqK_rt, seqK_bk, seqK_ct, x_asg, asgK_eq, x_unp, x_setI, setK_eq, setK2_eq, x_app, x_expr, exprK_eq, x_retv, retK_eq, x_ret, x_if, ifK_eq, bodyF_eq, x_for, forK_eq, tsF_eq, x_while, x_brk, x_cont, x_pass, vGet_rd, vGet_esc, vGet_kd, vGet_ts, onPart_esc, onPart_rd, onPart_kd, onPart_ts, shr_int, shr_bl, shr_non, shr_str, shr_lst, shr_tup, shrs_nil, shrs_cons, shrK_int, shrK_bl, shrK_non, shrK_str, shrK_lst, shrK_tup, frzK_int, frzK_bl, frzK_non, frzK_str, frzK_lst, frzK_tup, frz_lst, frz_tup, frz_int, frz_bl, frz_non, frz_str, frzs_nil, frzs_cons, truth_bl, truth_int, truth_lst, truth_tup, truth_non, map_some, b_add, b_sub, b_mul, b_mod, b_lst, b_tup, c_lt, c_le, c_gt, c_ge, c_eq, c_ne, eqD_int, p_len_l, p_len_t, p_int, p_min2, p_max2, p_sum_l, p_sum_t, p_tup_l, p_tup_t, p_lst_l, p_lst_t, p_isT, s_lst, s_tup, onOB_some, vNeg_int, vInt_ok, setTg_v, isNon_int, isNon_non, shrs_iL, frzs_iL, ints_iL, E.place, E.root, E.cf, Es.cf, List.getElem?_cons_zero, List.getElem?_cons_succ, List.set_cons_zero, List.set_cons_succ, List.headD_cons, List.tail_cons, Bool.true_and, Bool.and_true, Bool.true_or, Bool.or_true, Bool.false_and, Bool.and_false, Bool.false_or, Bool.or_false, ite_true, ite_false, if_true, if_false, Bool.false_eq_true, List.length_cons, List.length_nil, List.contains_eq_mem, List.mem_cons, List.not_mem_nil, decide_eq_true_eq, or_false, false_or, or_true, true_or, and_true, true_and, and_self, not_false_eq_true, not_true_eq_false, fF_rt, fF_nx, pars_t, pars_f, pars_0, Nat.reduceEqDiff, callA, slotsOf, treesOf, VS.backTo, List.nodup_cons, List.nodup_nil, cx_call, rGet_some, hasD_eq, hasO_some, isLstD_eq, isLO_some, setS_eq, setO_some, appS_eq, appO_some, unpS_tup, unpS_lst, srcVar_eq, sGet_some, srcOf_var, srcOf_call, srcOf_sub, srcOf_lst, srcOf_slice, srcOf_prim, vSrc_t, vSrc_f, itsOf_some, items_lst, items_tup, enumD_lst, enumD_tup, rangeD_1, rangeD_2, senv_nx, senv_rt, putLk_nil, putLk_cons, free, List.all_cons, List.all_nil, Tg.slots, List.zip_cons_cons, List.zip_nil_right, List.foldl_cons, List.foldl_nil, List.map_nil, List.map_cons, List.append_nil, List.nil_append, List.cons_append, isTys, isTy, Bool.not_true, Bool.not_false, Bool.not_eq_true, decide_true, decide_false, List.length_map, ne_eq, reduceCtorEq, Nat.reduceBEq, Nat.reduceAdd, Nat.zero_add, Nat.reduceLeDiff, Nat.reduceLT, Int.reduceLT, Int.reduceLE, Int.reduceNeg, le_sz, lt_sz, forall_const, implies_true, bind_exc, toS_exc, fin_exc, seqK_exc, senv_exc, fF_exc, e_exIs, e_exFld, exIs_eq, x_raise, raiseK_eq, clr_eq, suiF_eq, x_try, tryK_nx, tryK_rt, tryK_bk, tryK_ct, tryK_exc, catK_t, catK_f, noX_nx, noX_rt, noX_bk, noX_ct, zip_c, zip_n, x_ins, insK_eq, insK2_eq, insS_eq, insO_some, x_setSl, slsK_eq, slsK2_eq, slsK3_eq, setSlS_eq, setSlO_some, c_is, c_isnt, List.any_cons, List.any_nil, k_check_flag, k_run_row, k_fills, k_law_box, k_law_take, k_law_row, k_law_wrong_sign, k_law_due, k_law_same, k_law_refusal, k_law, b_law_wrong_sign, lit_w, boxSh, h1, e1, h2] <;> rfl

end K13

end

section
set_option maxRecDepth 100000
set_option linter.all false
namespace K13
open PySem VS
variable {W n : Nat}
theorem bff : (false == false) = true := rfl
theorem bft : (false == true) = false := rfl
theorem btf : (true == false) = false := rfl
theorem btt : (true == true) = true := rfl
theorem run_last : ∀ (l : List Bool) (t : Nat × Nat × Bool), ∃ i, t.2.2 :: l = i ++ [(l.foldl stp t).2.2]
  | [], t => ⟨[], rfl⟩
  | x :: l, t => by
    obtain ⟨i, h⟩ := run_last l (stp t x)
    have e : (stp t x).2.2 = x := by unfold stp; cases x <;> rfl
    rw [e] at h
    exact ⟨t.2.2 :: i, by rw [List.foldl_cons, h]; rfl⟩
theorem run_at {l : List Bool} {b : Bool} {k : Nat} (h : k ≤ l.length) : (b :: l)[k]? = some (rnn b (l.take k)).2.2 := by
  obtain ⟨i, e⟩ := run_last (l.take k) (0, 0, b)
  have e : b :: l.take k = i ++ [(rnn b (l.take k)).2.2] := e
  have hi : i.length = k := by
    have := congrArg List.length e
    simp at this
    omega
  have e2 : (b :: l.take k)[k]? = (b :: l)[k]? := by
    rw [← List.take_succ_cons, List.getElem?_take_of_lt (by omega)]
  rw [← e2, e, List.getElem?_append_right (by omega), hi]
  simp
theorem run_snoc {l : List Bool} {b x : Bool} {k : Nat} (h : l[k]? = some x) : rnn b (l.take (k + 1)) = stp (rnn b (l.take k)) x := by
  unfold rnn
  rw [List.take_succ, h, List.foldl_append]; rfl
theorem cnt_cd : ∀ l : List Bool, (l.map cd).count 117 = l.count true ∧ (l.map cd).count 100 = l.count false
  | [] => ⟨rfl, rfl⟩
  | x :: l => by
    obtain ⟨h1, h2⟩ := cnt_cd l
    cases x
    · simp [cd, h1, h2]
    · simp [cd, h1, h2]
theorem drop_cons {l : List Bool} {k : Nat} {x : Bool} (h : l[k]? = some x) : l.drop k = x :: l.drop (k + 1) := by
  obtain ⟨hl, e⟩ := List.getElem?_eq_some_iff.1 h
  rw [List.drop_eq_getElem_cons hl, e]
theorem eq2 (p q : Bool) (c : Bool) : eqD (.str (tx [cd p, cd q])) (.str (tx [cd c, cd c])) = some (p == c && q == c) := by
  cases p <;> cases q <;> cases c <;> decide +kernel
theorem cps_cd (l : List Bool) : cps (l.map cd) = true := by
  unfold cps
  rw [List.all_eq_true]
  intro c hc
  obtain ⟨x, _, rfl⟩ := List.mem_map.1 hc
  cases x <;> decide
theorem due_loop (b : Bool) (l : List Bool) (hl : l.length ≤ 200) : ∃ y, forL (.v 5) (bodyF (cx prog W n) [0, 1] b_law_due_1) (rangeL 0 l.length) [some (.bl b), some (.str (rw_ l)), some (.str (rw_ (b :: l))), some (.int (l.count true : Nat)), some (.int (l.count false : Nat)), none] = .nx [some (.bl b), some (.str (rw_ l)), some (.str (rw_ (b :: l))), some (.int ((rnn b l).1 : Nat)), some (.int ((rnn b l).2.1 : Nat)), y] := by
  have loop := forL_rng (tg := .v 5) (lo := 0) (n := l.length) (body := bodyF (cx prog W n) [0, 1] b_law_due_1) (fun k e => ∃ y, e = [some (.bl b), some (.str (rw_ l)), some (.str (rw_ (b :: l))), some (.int (((rnn b (l.take k)).1 + (l.drop k).count true : Nat) : Int)), some (.int (((rnn b (l.take k)).2.1 + (l.drop k).count false : Nat) : Int)), y]) (fun k env hk ⟨y, he⟩ => by
    subst he
    obtain ⟨x, hx⟩ : ∃ x, l[k]? = some x := ⟨_, List.getElem?_eq_getElem hk⟩
    obtain ⟨p, hp⟩ : ∃ p, (rnn b (l.take k)).2.2 = p := ⟨_, rfl⟩
    have hp2 := run_at (b := b) (show k ≤ l.length by omega)
    rw [hp] at hp2
    have hs : sliceD (.str (rw_ (b :: l))) (some ((0 : Int) + (k : Nat))) (some ((0 : Int) + (k : Nat) + 2)) = some (.str (tx [cd p, cd x])) := by
      unfold rw_
      rw [tx_mid (by omega) (by omega) (by simp; omega) (by simp; omega)]
      have e1 : ((0 : Int) + (k : Nat) + 2 - (0 + (k : Nat))).toNat = 2 := by omega
      have e2 : ((0 : Int) + (k : Nat)).toNat = k := by omega
      rw [e1, e2, ← List.map_drop, drop_cons hp2, drop_cons (k := k + 1) (x := x) (by simpa using hx)]
      rfl
    have q1 := eq2 p x true
    have q2 := eq2 p x false
    have d1 := drop_cons hx
    have r1 := run_snoc (b := b) hx
    obtain ⟨f, hf⟩ : ∃ f, (rnn b (l.take k)).1 = f := ⟨_, rfl⟩
    obtain ⟨g, hg⟩ : ∃ g, (rnn b (l.take k)).2.1 = g := ⟨_, rfl⟩
    have r2 : rnn b (l.take (k + 1)) = stp (f, g, p) x := by rw [r1, ← hf, ← hg, ← hp]
    obtain ⟨u, hu⟩ : ∃ u, (l.drop (k + 1)).count true = u := ⟨_, rfl⟩
    obtain ⟨v, hv⟩ : ∃ v, (l.drop (k + 1)).count false = v := ⟨_, rfl⟩
    rw [d1, hf, hg]
    refine ⟨_, _, rfl, ?_, some (.int ((0 : Int) + (k : Nat))), rfl⟩
    rw [r2, hu, hv, List.count_cons, List.count_cons, hu, hv]
    have t1 : ∀ z : Nat, ((z : Nat) : Int) + 1 = ((z + 1 : Nat) : Int) := fun z => by omega
    rw [bodyF_eq]
    cases p <;> cases x <;> simp only [cd, Bool.false_eq_true, if_true, if_false] at hs q1 q2 <;> simp only [bind_ok, of_some, toS_ok, fin_esc, fin_rd, fin_kd, fin_ts, e_non, e_bl, e_int, e_str, e_var, lft_t, lft_f, frzR_ok, e_bin, binK_eq, binK2_eq, e_neg, e_cmp, cmpK_eq, cmpK2_eq, e_cmp2, c2K_eq, c2K2_eq, c2K3_eq, e_isN, isNK_eq, e_andT, e_andV, e_orT, e_orV, e_notT, e_notV, andT_eq, andV_eq, orT_eq, orV_eq, notT_eq, notV_eq, e_ite, iteK_eq, e_tup, e_lst, tupK_eq, lstK_eq, e_sub, subK_eq, subK2_eq, subJ_eq, subJ2_eq, e_slice, slK_eq, slK2_eq, slK3_eq, slP_none, slP_some, e_call, e_prim, primK_eq, e_meth, methK_eq, methK2_eq, mtOk, a_meth, cop_in, cop_notin, es_nil, es_cons, evsK_eq, consK_eq, kd_nil, kd_cons, kdsK_eq, a_nil, a_var, argG_some, argK_eq, consA_eq, a_int, a_str, a_bl, a_non, a_bin, a_neg, a_cmp, a_ite, a_tup, a_lst, a_sub, a_slice, a_call, a_prim, a_comp, i_rng, i_over, i_enum, i_rev, i_zip, rngK_eq, overK_eq, enumK_eq, revK_eq, zipK_eq, zipK2_eq, e_comp, compK_eq, cmpE_eq, noX_ok, x_nil, x_cons, seqK_nx, seqK_rt, seqK_bk, seqK_ct, x_asg, asgK_eq, x_unp, x_setI, setK_eq, setK2_eq, x_app, x_expr, exprK_eq, x_retv, retK_eq, x_ret, x_if, ifK_eq, bodyF_eq, x_for, forK_eq, tsF_eq, x_while, x_brk, x_cont, x_pass, vGet_rd, vGet_esc, vGet_kd, vGet_ts, onPart_esc, onPart_rd, onPart_kd, onPart_ts, shr_int, shr_bl, shr_non, shr_str, shr_lst, shr_tup, shrs_nil, shrs_cons, shrK_int, shrK_bl, shrK_non, shrK_str, shrK_lst, shrK_tup, frzK_int, frzK_bl, frzK_non, frzK_str, frzK_lst, frzK_tup, frz_lst, frz_tup, frz_int, frz_bl, frz_non, frz_str, frzs_nil, frzs_cons, truth_bl, truth_int, truth_lst, truth_tup, truth_non, map_some, b_add, b_sub, b_mul, b_mod, b_lst, b_tup, c_lt, c_le, c_gt, c_ge, c_eq, c_ne, eqD_int, p_len_l, p_len_t, p_int, p_min2, p_max2, p_sum_l, p_sum_t, p_tup_l, p_tup_t, p_lst_l, p_lst_t, p_isT, s_lst, s_tup, onOB_some, vNeg_int, vInt_ok, setTg_v, isNon_int, isNon_non, shrs_iL, frzs_iL, ints_iL, E.place, E.root, E.cf, Es.cf, List.getElem?_cons_zero, List.getElem?_cons_succ, List.set_cons_zero, List.set_cons_succ, List.headD_cons, List.tail_cons, Bool.true_and, Bool.and_true, Bool.true_or, Bool.or_true, Bool.false_and, Bool.and_false, Bool.false_or, Bool.or_false, ite_true, ite_false, if_true, if_false, Bool.false_eq_true, List.length_cons, List.length_nil, List.contains_eq_mem, List.mem_cons, List.not_mem_nil, decide_eq_true_eq, or_false, false_or, or_true, true_or, and_true, true_and, and_self, not_false_eq_true, not_true_eq_false, fF_rt, fF_nx, pars_t, pars_f, pars_0, Nat.reduceEqDiff, callA, slotsOf, treesOf, VS.backTo, List.nodup_cons, List.nodup_nil, cx_call, rGet_some, hasD_eq, hasO_some, isLstD_eq, isLO_some, setS_eq, setO_some, appS_eq, appO_some, unpS_tup, unpS_lst, srcVar_eq, sGet_some, srcOf_var, srcOf_call, srcOf_sub, srcOf_lst, srcOf_slice, srcOf_prim, vSrc_t, vSrc_f, itsOf_some, items_lst, items_tup, enumD_lst, enumD_tup, rangeD_1, rangeD_2, senv_nx, senv_rt, putLk_nil, putLk_cons, free, List.all_cons, List.all_nil, Tg.slots, List.zip_cons_cons, List.zip_nil_right, List.foldl_cons, List.foldl_nil, List.map_nil, List.map_cons, List.append_nil, List.nil_append, List.cons_append, isTys, isTy, Bool.not_true, Bool.not_false, Bool.not_eq_true, decide_true, decide_false, List.length_map, ne_eq, reduceCtorEq, Nat.reduceBEq, Nat.reduceAdd, Nat.zero_add, Nat.reduceLeDiff, Nat.reduceLT, Int.reduceLT, Int.reduceLE, Int.reduceNeg, le_sz, lt_sz, forall_const, implies_true, bind_exc, toS_exc, fin_exc, seqK_exc, senv_exc, fF_exc, e_exIs, e_exFld, exIs_eq, x_raise, raiseK_eq, clr_eq, suiF_eq, x_try, tryK_nx, tryK_rt, tryK_bk, tryK_ct, tryK_exc, catK_t, catK_f, noX_nx, noX_rt, noX_bk, noX_ct, zip_c, zip_n, x_ins, insK_eq, insK2_eq, insS_eq, insO_some, x_setSl, slsK_eq, slsK2_eq, slsK3_eq, setSlS_eq, setSlO_some, c_is, c_isnt, List.any_cons, List.any_nil, k_check_flag, k_run_row, k_fills, k_law_box, k_law_take, k_law_row, k_law_wrong_sign, k_law_due, k_law_same, k_law_refusal, k_law, b_law_due_1, hs, lit_uu, lit_dd, q1, q2, stp, bff, bft, btf, btt] <;> simp <;> omega) (env := [some (.bl b), some (.str (rw_ l)), some (.str (rw_ (b :: l))), some (.int (l.count true : Nat)), some (.int (l.count false : Nat)), none]) ⟨none, by simp [rnn]⟩
  obtain ⟨e, e1, y, rfl⟩ := loop
  refine ⟨y, e1.trans ?_⟩
  rw [List.take_of_length_le (Nat.le_refl _), List.drop_of_length_le (Nat.le_refl _)]
  rfl

end K13

end

section
set_option maxRecDepth 100000
set_option linter.all false
namespace K13
open PySem VS
variable {W n : Nat}
theorem last_cd {b : Bool} {l : List Bool} : L2.atI ((b :: l).map cd) (-1) = some (cd (rnn b l).2.2) := by
  obtain ⟨i, e⟩ := run_last l (0, 0, b)
  have e : b :: l = i ++ [(rnn b l).2.2] := e
  rw [e, List.map_append, List.map_cons, List.map_nil]
  exact L2.atI_last _ _
theorem eq1 (s : Bool) : eqD (.str (tx [cd s])) (.str (tx [117])) = some s := by cases s <;> decide +kernel
def trD (b : Bool) (l : List Bool) : D := .tup [.int ((rnn b l).1 : Nat), .int ((rnn b l).2.1 : Nat), .bl (rnn b l).2.2]
theorem i_law_due (b : Bool) (l : List Bool) (hl : l.length ≤ 200) : callN prog W (n + 1) 7 [.bl b, .str (rw_ l)] = .ok (trD b l) [.bl b, .str (rw_ l)] := by
  obtain ⟨y, h⟩ := due_loop (W := W) (n := n) b l hl
  have r1 : rngOk (l.length : Int) = true := rngOk_of (by omega) (by omega)
  have p1 : prim .len [.str (rw_ l)] = some (.int l.length) := by
    unfold rw_
    rw [tx_plen (by simp; omega), List.length_map]
  have c1 : methD .scount (.str (rw_ l)) [.str (tx [117])] = some (.int (l.count true : Nat)) := by
    unfold rw_
    rw [tx_count, (cnt_cd l).1]
  have c2 : methD .scount (.str (rw_ l)) [.str (tx [100])] = some (.int (l.count false : Nat)) := by
    unfold rw_
    rw [tx_count, (cnt_cd l).2]
  have k1 : bop .add (.str (tx [cd b])) (.str (rw_ l)) = some (.str (rw_ (b :: l))) := by
    unfold rw_
    rw [tx_cat (by simp; omega)]
    rfl
  have s1 : subD (.str (tx [100, 117])) (.int (if b then 1 else 0)) = some (.str (tx [cd b])) := by cases b <;> rfl
  have s2 : subD (.str (rw_ (b :: l))) (.int (-1)) = some (.str (tx [cd (rnn b l).2.2])) := by
    unfold rw_
    rw [tx_sub (by simp; omega), last_cd]; rfl
  have e1 := eq1 (rnn b l).2.2
  rw [r_law_due]
  unfold trD
  cases b <;> simp only [Bool.false_eq_true, if_true, if_false] at s1 <;> simp only [bind_ok, of_some, toS_ok, fin_esc, fin_rd, fin_kd, fin_ts, e_non, e_bl, e_int, e_str, e_var, lft_t, lft_f, frzR_ok, e_bin, binK_eq, binK2_eq, e_neg, e_cmp, cmpK_eq, cmpK2_eq, e_cmp2, c2K_eq, c2K2_eq, c2K3_eq, e_isN, isNK_eq, e_andT, e_andV, e_orT, e_orV, e_notT, e_notV, andT_eq, andV_eq, orT_eq, orV_eq, notT_eq, notV_eq, e_ite, iteK_eq, e_tup, e_lst, tupK_eq, lstK_eq, e_sub, subK_eq, subK2_eq, subJ_eq, subJ2_eq, e_slice, slK_eq, slK2_eq, slK3_eq, slP_none, slP_some, e_call, e_prim, primK_eq, e_meth, methK_eq, methK2_eq, mtOk, a_meth, cop_in, cop_notin, es_nil, es_cons, evsK_eq, consK_eq, kd_nil, kd_cons, kdsK_eq, a_nil, a_var, argG_some, argK_eq, consA_eq, a_int, a_str, a_bl, a_non, a_bin, a_neg, a_cmp, a_ite, a_tup, a_lst, a_sub, a_slice, a_call, a_prim, a_comp, i_rng, i_over, i_enum, i_rev, i_zip, rngK_eq, overK_eq, enumK_eq, revK_eq, zipK_eq, zipK2_eq, e_comp, compK_eq, cmpE_eq, noX_ok, x_nil, x_cons, seqK_nx, seqK_rt, seqK_bk, seqK_ct, x_asg, asgK_eq, x_unp, x_setI, setK_eq, setK2_eq, x_app, x_expr, exprK_eq, x_retv, retK_eq, x_ret, x_if, ifK_eq, bodyF_eq, x_for, forK_eq, tsF_eq, x_while, x_brk, x_cont, x_pass, vGet_rd, vGet_esc, vGet_kd, vGet_ts, onPart_esc, onPart_rd, onPart_kd, onPart_ts, shr_int, shr_bl, shr_non, shr_str, shr_lst, shr_tup, shrs_nil, shrs_cons, shrK_int, shrK_bl, shrK_non, shrK_str, shrK_lst, shrK_tup, frzK_int, frzK_bl, frzK_non, frzK_str, frzK_lst, frzK_tup, frz_lst, frz_tup, frz_int, frz_bl, frz_non, frz_str, frzs_nil, frzs_cons, truth_bl, truth_int, truth_lst, truth_tup, truth_non, map_some, b_add, b_sub, b_mul, b_mod, b_lst, b_tup, c_lt, c_le, c_gt, c_ge, c_eq, c_ne, eqD_int, p_len_l, p_len_t, p_int, p_min2, p_max2, p_sum_l, p_sum_t, p_tup_l, p_tup_t, p_lst_l, p_lst_t, p_isT, s_lst, s_tup, onOB_some, vNeg_int, vInt_ok, setTg_v, isNon_int, isNon_non, shrs_iL, frzs_iL, ints_iL, E.place, E.root, E.cf, Es.cf, List.getElem?_cons_zero, List.getElem?_cons_succ, List.set_cons_zero, List.set_cons_succ, List.headD_cons, List.tail_cons, Bool.true_and, Bool.and_true, Bool.true_or, Bool.or_true, Bool.false_and, Bool.and_false, Bool.false_or, Bool.or_false, ite_true, ite_false, if_true, if_false, Bool.false_eq_true, List.length_cons, List.length_nil, List.contains_eq_mem, List.mem_cons, List.not_mem_nil, decide_eq_true_eq, or_false, false_or, or_true, true_or, and_true, true_and, and_self, not_false_eq_true, not_true_eq_false, fF_rt, fF_nx, pars_t, pars_f, pars_0, Nat.reduceEqDiff, callA, slotsOf, treesOf, VS.backTo, List.nodup_cons, List.nodup_nil, cx_call, rGet_some, hasD_eq, hasO_some, isLstD_eq, isLO_some, setS_eq, setO_some, appS_eq, appO_some, unpS_tup, unpS_lst, srcVar_eq, sGet_some, srcOf_var, srcOf_call, srcOf_sub, srcOf_lst, srcOf_slice, srcOf_prim, vSrc_t, vSrc_f, itsOf_some, items_lst, items_tup, enumD_lst, enumD_tup, rangeD_1, rangeD_2, senv_nx, senv_rt, putLk_nil, putLk_cons, free, List.all_cons, List.all_nil, Tg.slots, List.zip_cons_cons, List.zip_nil_right, List.foldl_cons, List.foldl_nil, List.map_nil, List.map_cons, List.append_nil, List.nil_append, List.cons_append, isTys, isTy, Bool.not_true, Bool.not_false, Bool.not_eq_true, decide_true, decide_false, List.length_map, ne_eq, reduceCtorEq, Nat.reduceBEq, Nat.reduceAdd, Nat.zero_add, Nat.reduceLeDiff, Nat.reduceLT, Int.reduceLT, Int.reduceLE, Int.reduceNeg, le_sz, lt_sz, forall_const, implies_true, bind_exc, toS_exc, fin_exc, seqK_exc, senv_exc, fF_exc, e_exIs, e_exFld, exIs_eq, x_raise, raiseK_eq, clr_eq, suiF_eq, x_try, tryK_nx, tryK_rt, tryK_bk, tryK_ct, tryK_exc, catK_t, catK_f, noX_nx, noX_rt, noX_bk, noX_ct, zip_c, zip_n, x_ins, insK_eq, insK2_eq, insS_eq, insO_some, x_setSl, slsK_eq, slsK2_eq, slsK3_eq, setSlS_eq, setSlO_some, c_is, c_isnt, List.any_cons, List.any_nil, k_check_flag, k_run_row, k_fills, k_law_box, k_law_take, k_law_row, k_law_wrong_sign, k_law_due, k_law_same, k_law_refusal, k_law, b_law_due, lit_du, lit_u, lit_d, p_intT, p_intF, s1, k1, c1, c2, p1, r1, Int.toNat_natCast, h, s2, e1]
theorem eqT (b : Bool) (l : List Bool) : eqD (trD b l) (trD b l) = some true := by
  have hs : SeqAt.shaped (trD b l).py = true := rfl
  unfold eqD
  rw [hs]
  simp only [Bool.and_true, if_true]
  rw [SeqAt.eqv_refl _ (SeqAt.canLay_of_shaped hs)]
theorem a30 {a b c : D} : L2.atI [a, b, c] 0 = some a := rfl
theorem a31 {a b c : D} : L2.atI [a, b, c] 1 = some b := rfl
theorem a32 {a b c : D} : L2.atI [a, b, c] 2 = some c := rfl
theorem same_loop (x : D) (f g : Int) (s : Bool) (y : Option D) : ∃ y, forL (.v 2) (bodyF (cx prog W n) [0, 1] b_law_same_1) (rangeL 0 2) [some (.tup [.int f, .int g, .bl s]), some x, none] = .nx [some (.tup [.int f, .int g, .bl s]), some x, y] := by
  obtain ⟨e, e1, y, rfl⟩ := forL_rng (tg := .v 2) (lo := 0) (n := 2) (body := bodyF (cx prog W n) [0, 1] b_law_same_1) (fun k e => ∃ y, e = [some (.tup [.int f, .int g, .bl s]), some x, y]) (fun k env hk ⟨y, he⟩ => by
    subst he
    rcases (show k = 0 ∨ k = 1 by omega) with rfl | rfl
    · exact ⟨_, _, rfl, by have z : ((0 : Int) + (0 : Nat)) = 0 := rfl
                           rw [z]; simp only [bind_ok, of_some, toS_ok, fin_esc, fin_rd, fin_kd, fin_ts, e_non, e_bl, e_int, e_str, e_var, lft_t, lft_f, frzR_ok, e_bin, binK_eq, binK2_eq, e_neg, e_cmp, cmpK_eq, cmpK2_eq, e_cmp2, c2K_eq, c2K2_eq, c2K3_eq, e_isN, isNK_eq, e_andT, e_andV, e_orT, e_orV, e_notT, e_notV, andT_eq, andV_eq, orT_eq, orV_eq, notT_eq, notV_eq, e_ite, iteK_eq, e_tup, e_lst, tupK_eq, lstK_eq, e_sub, subK_eq, subK2_eq, subJ_eq, subJ2_eq, e_slice, slK_eq, slK2_eq, slK3_eq, slP_none, slP_some, e_call, e_prim, primK_eq, e_meth, methK_eq, methK2_eq, mtOk, a_meth, cop_in, cop_notin, es_nil, es_cons, evsK_eq, consK_eq, kd_nil, kd_cons, kdsK_eq, a_nil, a_var, argG_some, argK_eq, consA_eq, a_int, a_str, a_bl, a_non, a_bin, a_neg, a_cmp, a_ite, a_tup, a_lst, a_sub, a_slice, a_call, a_prim, a_comp, i_rng, i_over, i_enum, i_rev, i_zip, rngK_eq, overK_eq, enumK_eq, revK_eq, zipK_eq, zipK2_eq, e_comp, compK_eq, cmpE_eq, noX_ok, x_nil, x_cons, seqK_nx, seqK_rt, seqK_bk, seqK_ct, x_asg, asgK_eq, x_unp, x_setI, setK_eq, setK2_eq, x_app, x_expr, exprK_eq, x_retv, retK_eq, x_ret, x_if, ifK_eq, bodyF_eq, x_for, forK_eq, tsF_eq, x_while, x_brk, x_cont, x_pass, vGet_rd, vGet_esc, vGet_kd, vGet_ts, onPart_esc, onPart_rd, onPart_kd, onPart_ts, shr_int, shr_bl, shr_non, shr_str, shr_lst, shr_tup, shrs_nil, shrs_cons, shrK_int, shrK_bl, shrK_non, shrK_str, shrK_lst, shrK_tup, frzK_int, frzK_bl, frzK_non, frzK_str, frzK_lst, frzK_tup, frz_lst, frz_tup, frz_int, frz_bl, frz_non, frz_str, frzs_nil, frzs_cons, truth_bl, truth_int, truth_lst, truth_tup, truth_non, map_some, b_add, b_sub, b_mul, b_mod, b_lst, b_tup, c_lt, c_le, c_gt, c_ge, c_eq, c_ne, eqD_int, p_len_l, p_len_t, p_int, p_min2, p_max2, p_sum_l, p_sum_t, p_tup_l, p_tup_t, p_lst_l, p_lst_t, p_isT, s_lst, s_tup, onOB_some, vNeg_int, vInt_ok, setTg_v, isNon_int, isNon_non, shrs_iL, frzs_iL, ints_iL, E.place, E.root, E.cf, Es.cf, List.getElem?_cons_zero, List.getElem?_cons_succ, List.set_cons_zero, List.set_cons_succ, List.headD_cons, List.tail_cons, Bool.true_and, Bool.and_true, Bool.true_or, Bool.or_true, Bool.false_and, Bool.and_false, Bool.false_or, Bool.or_false, ite_true, ite_false, if_true, if_false, Bool.false_eq_true, List.length_cons, List.length_nil, List.contains_eq_mem, List.mem_cons, List.not_mem_nil, decide_eq_true_eq, or_false, false_or, or_true, true_or, and_true, true_and, and_self, not_false_eq_true, not_true_eq_false, fF_rt, fF_nx, pars_t, pars_f, pars_0, Nat.reduceEqDiff, callA, slotsOf, treesOf, VS.backTo, List.nodup_cons, List.nodup_nil, cx_call, rGet_some, hasD_eq, hasO_some, isLstD_eq, isLO_some, setS_eq, setO_some, appS_eq, appO_some, unpS_tup, unpS_lst, srcVar_eq, sGet_some, srcOf_var, srcOf_call, srcOf_sub, srcOf_lst, srcOf_slice, srcOf_prim, vSrc_t, vSrc_f, itsOf_some, items_lst, items_tup, enumD_lst, enumD_tup, rangeD_1, rangeD_2, senv_nx, senv_rt, putLk_nil, putLk_cons, free, List.all_cons, List.all_nil, Tg.slots, List.zip_cons_cons, List.zip_nil_right, List.foldl_cons, List.foldl_nil, List.map_nil, List.map_cons, List.append_nil, List.nil_append, List.cons_append, isTys, isTy, Bool.not_true, Bool.not_false, Bool.not_eq_true, decide_true, decide_false, List.length_map, ne_eq, reduceCtorEq, Nat.reduceBEq, Nat.reduceAdd, Nat.zero_add, Nat.reduceLeDiff, Nat.reduceLT, Int.reduceLT, Int.reduceLE, Int.reduceNeg, le_sz, lt_sz, forall_const, implies_true, bind_exc, toS_exc, fin_exc, seqK_exc, senv_exc, fF_exc, e_exIs, e_exFld, exIs_eq, x_raise, raiseK_eq, clr_eq, suiF_eq, x_try, tryK_nx, tryK_rt, tryK_bk, tryK_ct, tryK_exc, catK_t, catK_f, noX_nx, noX_rt, noX_bk, noX_ct, zip_c, zip_n, x_ins, insK_eq, insK2_eq, insS_eq, insO_some, x_setSl, slsK_eq, slsK2_eq, slsK3_eq, setSlS_eq, setSlO_some, c_is, c_isnt, List.any_cons, List.any_nil, k_check_flag, k_run_row, k_fills, k_law_box, k_law_take, k_law_row, k_law_wrong_sign, k_law_due, k_law_same, k_law_refusal, k_law, b_law_same_1, a30]; rfl, _, rfl⟩
    · exact ⟨_, _, rfl, by have z : ((0 : Int) + (1 : Nat)) = 1 := rfl
                           rw [z]; simp only [bind_ok, of_some, toS_ok, fin_esc, fin_rd, fin_kd, fin_ts, e_non, e_bl, e_int, e_str, e_var, lft_t, lft_f, frzR_ok, e_bin, binK_eq, binK2_eq, e_neg, e_cmp, cmpK_eq, cmpK2_eq, e_cmp2, c2K_eq, c2K2_eq, c2K3_eq, e_isN, isNK_eq, e_andT, e_andV, e_orT, e_orV, e_notT, e_notV, andT_eq, andV_eq, orT_eq, orV_eq, notT_eq, notV_eq, e_ite, iteK_eq, e_tup, e_lst, tupK_eq, lstK_eq, e_sub, subK_eq, subK2_eq, subJ_eq, subJ2_eq, e_slice, slK_eq, slK2_eq, slK3_eq, slP_none, slP_some, e_call, e_prim, primK_eq, e_meth, methK_eq, methK2_eq, mtOk, a_meth, cop_in, cop_notin, es_nil, es_cons, evsK_eq, consK_eq, kd_nil, kd_cons, kdsK_eq, a_nil, a_var, argG_some, argK_eq, consA_eq, a_int, a_str, a_bl, a_non, a_bin, a_neg, a_cmp, a_ite, a_tup, a_lst, a_sub, a_slice, a_call, a_prim, a_comp, i_rng, i_over, i_enum, i_rev, i_zip, rngK_eq, overK_eq, enumK_eq, revK_eq, zipK_eq, zipK2_eq, e_comp, compK_eq, cmpE_eq, noX_ok, x_nil, x_cons, seqK_nx, seqK_rt, seqK_bk, seqK_ct, x_asg, asgK_eq, x_unp, x_setI, setK_eq, setK2_eq, x_app, x_expr, exprK_eq, x_retv, retK_eq, x_ret, x_if, ifK_eq, bodyF_eq, x_for, forK_eq, tsF_eq, x_while, x_brk, x_cont, x_pass, vGet_rd, vGet_esc, vGet_kd, vGet_ts, onPart_esc, onPart_rd, onPart_kd, onPart_ts, shr_int, shr_bl, shr_non, shr_str, shr_lst, shr_tup, shrs_nil, shrs_cons, shrK_int, shrK_bl, shrK_non, shrK_str, shrK_lst, shrK_tup, frzK_int, frzK_bl, frzK_non, frzK_str, frzK_lst, frzK_tup, frz_lst, frz_tup, frz_int, frz_bl, frz_non, frz_str, frzs_nil, frzs_cons, truth_bl, truth_int, truth_lst, truth_tup, truth_non, map_some, b_add, b_sub, b_mul, b_mod, b_lst, b_tup, c_lt, c_le, c_gt, c_ge, c_eq, c_ne, eqD_int, p_len_l, p_len_t, p_int, p_min2, p_max2, p_sum_l, p_sum_t, p_tup_l, p_tup_t, p_lst_l, p_lst_t, p_isT, s_lst, s_tup, onOB_some, vNeg_int, vInt_ok, setTg_v, isNon_int, isNon_non, shrs_iL, frzs_iL, ints_iL, E.place, E.root, E.cf, Es.cf, List.getElem?_cons_zero, List.getElem?_cons_succ, List.set_cons_zero, List.set_cons_succ, List.headD_cons, List.tail_cons, Bool.true_and, Bool.and_true, Bool.true_or, Bool.or_true, Bool.false_and, Bool.and_false, Bool.false_or, Bool.or_false, ite_true, ite_false, if_true, if_false, Bool.false_eq_true, List.length_cons, List.length_nil, List.contains_eq_mem, List.mem_cons, List.not_mem_nil, decide_eq_true_eq, or_false, false_or, or_true, true_or, and_true, true_and, and_self, not_false_eq_true, not_true_eq_false, fF_rt, fF_nx, pars_t, pars_f, pars_0, Nat.reduceEqDiff, callA, slotsOf, treesOf, VS.backTo, List.nodup_cons, List.nodup_nil, cx_call, rGet_some, hasD_eq, hasO_some, isLstD_eq, isLO_some, setS_eq, setO_some, appS_eq, appO_some, unpS_tup, unpS_lst, srcVar_eq, sGet_some, srcOf_var, srcOf_call, srcOf_sub, srcOf_lst, srcOf_slice, srcOf_prim, vSrc_t, vSrc_f, itsOf_some, items_lst, items_tup, enumD_lst, enumD_tup, rangeD_1, rangeD_2, senv_nx, senv_rt, putLk_nil, putLk_cons, free, List.all_cons, List.all_nil, Tg.slots, List.zip_cons_cons, List.zip_nil_right, List.foldl_cons, List.foldl_nil, List.map_nil, List.map_cons, List.append_nil, List.nil_append, List.cons_append, isTys, isTy, Bool.not_true, Bool.not_false, Bool.not_eq_true, decide_true, decide_false, List.length_map, ne_eq, reduceCtorEq, Nat.reduceBEq, Nat.reduceAdd, Nat.zero_add, Nat.reduceLeDiff, Nat.reduceLT, Int.reduceLT, Int.reduceLE, Int.reduceNeg, le_sz, lt_sz, forall_const, implies_true, bind_exc, toS_exc, fin_exc, seqK_exc, senv_exc, fF_exc, e_exIs, e_exFld, exIs_eq, x_raise, raiseK_eq, clr_eq, suiF_eq, x_try, tryK_nx, tryK_rt, tryK_bk, tryK_ct, tryK_exc, catK_t, catK_f, noX_nx, noX_rt, noX_bk, noX_ct, zip_c, zip_n, x_ins, insK_eq, insK2_eq, insS_eq, insO_some, x_setSl, slsK_eq, slsK2_eq, slsK3_eq, setSlS_eq, setSlO_some, c_is, c_isnt, List.any_cons, List.any_nil, k_check_flag, k_run_row, k_fills, k_law_box, k_law_take, k_law_row, k_law_wrong_sign, k_law_due, k_law_same, k_law_refusal, k_law, b_law_same_1, a31]; rfl, _, rfl⟩) (env := [some (.tup [.int f, .int g, .bl s]), some x, none]) ⟨none, rfl⟩
  exact ⟨y, e1⟩
theorem i_law_same (b : Bool) (l : List Bool) : callN prog W (n + 1) 8 [trD b l, trD b l] = .ok (.bl true) [trD b l, trD b l] := by
  have e := eqT b l
  obtain ⟨y, h⟩ := same_loop (W := W) (n := n) (trD b l) ((rnn b l).1 : Nat) ((rnn b l).2.1 : Nat) (rnn b l).2.2 none
  rw [r_law_same]
  unfold trD at h e ⊢
  have r2 : rngOk 2 = true := by decide
  have i3 : (((3 : Nat) : Int) = 3) = True := eq_true rfl
  simp only [bind_ok, of_some, toS_ok, fin_esc, fin_rd, fin_kd, fin_ts, e_non, e_bl, e_int, e_str, e_var, lft_t, lft_f, frzR_ok, e_bin, binK_eq, binK2_eq, e_neg, e_cmp, cmpK_eq, cmpK2_eq, e_cmp2, c2K_eq, c2K2_eq, c2K3_eq, e_isN, isNK_eq, e_andT, e_andV, e_orT, e_orV, e_notT, e_notV, andT_eq, andV_eq, orT_eq, orV_eq, notT_eq, notV_eq, e_ite, iteK_eq, e_tup, e_lst, tupK_eq, lstK_eq, e_sub, subK_eq, subK2_eq, subJ_eq, subJ2_eq, e_slice, slK_eq, slK2_eq, slK3_eq, slP_none, slP_some, e_call, e_prim, primK_eq, e_meth, methK_eq, methK2_eq, mtOk, a_meth, cop_in, cop_notin, es_nil, es_cons, evsK_eq, consK_eq, kd_nil, kd_cons, kdsK_eq, a_nil, a_var, argG_some, argK_eq, consA_eq, a_int, a_str, a_bl, a_non, a_bin, a_neg, a_cmp, a_ite, a_tup, a_lst, a_sub, a_slice, a_call, a_prim, a_comp, i_rng, i_over, i_enum, i_rev, i_zip, rngK_eq, overK_eq, enumK_eq, revK_eq, zipK_eq, zipK2_eq, e_comp, compK_eq, cmpE_eq, noX_ok, x_nil, x_cons, seqK_nx, seqK_rt, seqK_bk, seqK_ct, x_asg, asgK_eq, x_unp, x_setI, setK_eq, setK2_eq, x_app, x_expr, exprK_eq, x_retv, retK_eq, x_ret, x_if, ifK_eq, bodyF_eq, x_for, forK_eq, tsF_eq, x_while, x_brk, x_cont, x_pass, vGet_rd, vGet_esc, vGet_kd, vGet_ts, onPart_esc, onPart_rd, onPart_kd, onPart_ts, shr_int, shr_bl, shr_non, shr_str, shr_lst, shr_tup, shrs_nil, shrs_cons, shrK_int, shrK_bl, shrK_non, shrK_str, shrK_lst, shrK_tup, frzK_int, frzK_bl, frzK_non, frzK_str, frzK_lst, frzK_tup, frz_lst, frz_tup, frz_int, frz_bl, frz_non, frz_str, frzs_nil, frzs_cons, truth_bl, truth_int, truth_lst, truth_tup, truth_non, map_some, b_add, b_sub, b_mul, b_mod, b_lst, b_tup, c_lt, c_le, c_gt, c_ge, c_eq, c_ne, eqD_int, p_len_l, p_len_t, p_int, p_min2, p_max2, p_sum_l, p_sum_t, p_tup_l, p_tup_t, p_lst_l, p_lst_t, p_isT, s_lst, s_tup, onOB_some, vNeg_int, vInt_ok, setTg_v, isNon_int, isNon_non, shrs_iL, frzs_iL, ints_iL, E.place, E.root, E.cf, Es.cf, List.getElem?_cons_zero, List.getElem?_cons_succ, List.set_cons_zero, List.set_cons_succ, List.headD_cons, List.tail_cons, Bool.true_and, Bool.and_true, Bool.true_or, Bool.or_true, Bool.false_and, Bool.and_false, Bool.false_or, Bool.or_false, ite_true, ite_false, if_true, if_false, Bool.false_eq_true, List.length_cons, List.length_nil, List.contains_eq_mem, List.mem_cons, List.not_mem_nil, decide_eq_true_eq, or_false, false_or, or_true, true_or, and_true, true_and, and_self, not_false_eq_true, not_true_eq_false, fF_rt, fF_nx, pars_t, pars_f, pars_0, Nat.reduceEqDiff, callA, slotsOf, treesOf, VS.backTo, List.nodup_cons, List.nodup_nil, cx_call, rGet_some, hasD_eq, hasO_some, isLstD_eq, isLO_some, setS_eq, setO_some, appS_eq, appO_some, unpS_tup, unpS_lst, srcVar_eq, sGet_some, srcOf_var, srcOf_call, srcOf_sub, srcOf_lst, srcOf_slice, srcOf_prim, vSrc_t, vSrc_f, itsOf_some, items_lst, items_tup, enumD_lst, enumD_tup, rangeD_1, rangeD_2, senv_nx, senv_rt, putLk_nil, putLk_cons, free, List.all_cons, List.all_nil, Tg.slots, List.zip_cons_cons, List.zip_nil_right, List.foldl_cons, List.foldl_nil, List.map_nil, List.map_cons, List.append_nil, List.nil_append, List.cons_append, isTys, isTy, Bool.not_true, Bool.not_false, Bool.not_eq_true, decide_true, decide_false, List.length_map, ne_eq, reduceCtorEq, Nat.reduceBEq, Nat.reduceAdd, Nat.zero_add, Nat.reduceLeDiff, Nat.reduceLT, Int.reduceLT, Int.reduceLE, Int.reduceNeg, le_sz, lt_sz, forall_const, implies_true, bind_exc, toS_exc, fin_exc, seqK_exc, senv_exc, fF_exc, e_exIs, e_exFld, exIs_eq, x_raise, raiseK_eq, clr_eq, suiF_eq, x_try, tryK_nx, tryK_rt, tryK_bk, tryK_ct, tryK_exc, catK_t, catK_f, noX_nx, noX_rt, noX_bk, noX_ct, zip_c, zip_n, x_ins, insK_eq, insK2_eq, insS_eq, insO_some, x_setSl, slsK_eq, slsK2_eq, slsK3_eq, setSlS_eq, setSlO_some, c_is, c_isnt, List.any_cons, List.any_nil, k_check_flag, k_run_row, k_fills, k_law_box, k_law_take, k_law_row, k_law_wrong_sign, k_law_due, k_law_same, k_law_refusal, k_law, b_law_same, r2, a32, h, e, i3, Int.reduceToNat]
/-- good signs -/
theorem fo_loop : ∀ (l : List Bool) (j : Nat) (r0 r1 y2 y3 : Option D) (rest : List D), ∃ y2' y3', forL (.t [2, 3]) (bodyF (cx prog W n) [0, 1] b_fills_1) (en j (l.map cd) ++ rest) [r0, r1, y2, y3] = forL (.t [2, 3]) (bodyF (cx prog W n) [0, 1] b_fills_1) rest [r0, r1, y2', y3'] := by
  intro l
  induction l with
  | nil => intro j r0 r1 y2 y3 rest; exact ⟨_, _, rfl⟩
  | cons x l ih =>
    intro j r0 r1 y2 y3 rest
    obtain ⟨y2', y3', h⟩ := ih (j + 1) r0 r1 (some (.int (j : Nat))) (some (.str (tx [cd x]))) rest
    refine ⟨y2', y3', ?_⟩
    rw [List.map_cons, en, List.cons_append]
    refine (fl_go rfl ?_).trans h
    have e1 := eq1 x
    have e2 : eqD (.str (tx [cd x])) (.str (tx [100])) = some (!x) := by cases x <;> decide +kernel
    rw [bodyF_eq]
    cases x <;> simp only [bind_ok, of_some, toS_ok, fin_esc, fin_rd, fin_kd, fin_ts, e_non, e_bl, e_int, e_str, e_var, lft_t, lft_f, frzR_ok, e_bin, binK_eq, binK2_eq, e_neg, e_cmp, cmpK_eq, cmpK2_eq, e_cmp2, c2K_eq, c2K2_eq, c2K3_eq, e_isN, isNK_eq, e_andT, e_andV, e_orT, e_orV, e_notT, e_notV, andT_eq, andV_eq, orT_eq, orV_eq, notT_eq, notV_eq, e_ite, iteK_eq, e_tup, e_lst, tupK_eq, lstK_eq, e_sub, subK_eq, subK2_eq, subJ_eq, subJ2_eq, e_slice, slK_eq, slK2_eq, slK3_eq, slP_none, slP_some, e_call, e_prim, primK_eq, e_meth, methK_eq, methK2_eq, mtOk, a_meth, cop_in, cop_notin, es_nil, es_cons, evsK_eq, consK_eq, kd_nil, kd_cons, kdsK_eq, a_nil, a_var, argG_some, argK_eq, consA_eq, a_int, a_str, a_bl, a_non, a_bin, a_neg, a_cmp, a_ite, a_tup, a_lst, a_sub, a_slice, a_call, a_prim, a_comp, i_rng, i_over, i_enum, i_rev, i_zip, rngK_eq, overK_eq, enumK_eq, revK_eq, zipK_eq, zipK2_eq, e_comp, compK_eq, cmpE_eq, noX_ok, x_nil, x_cons, seqK_nx, seqK_rt, seqK_bk, seqK_ct, x_asg, asgK_eq, x_unp, x_setI, setK_eq, setK2_eq, x_app, x_expr, exprK_eq, x_retv, retK_eq, x_ret, x_if, ifK_eq, bodyF_eq, x_for, forK_eq, tsF_eq, x_while, x_brk, x_cont, x_pass, vGet_rd, vGet_esc, vGet_kd, vGet_ts, onPart_esc, onPart_rd, onPart_kd, onPart_ts, shr_int, shr_bl, shr_non, shr_str, shr_lst, shr_tup, shrs_nil, shrs_cons, shrK_int, shrK_bl, shrK_non, shrK_str, shrK_lst, shrK_tup, frzK_int, frzK_bl, frzK_non, frzK_str, frzK_lst, frzK_tup, frz_lst, frz_tup, frz_int, frz_bl, frz_non, frz_str, frzs_nil, frzs_cons, truth_bl, truth_int, truth_lst, truth_tup, truth_non, map_some, b_add, b_sub, b_mul, b_mod, b_lst, b_tup, c_lt, c_le, c_gt, c_ge, c_eq, c_ne, eqD_int, p_len_l, p_len_t, p_int, p_min2, p_max2, p_sum_l, p_sum_t, p_tup_l, p_tup_t, p_lst_l, p_lst_t, p_isT, s_lst, s_tup, onOB_some, vNeg_int, vInt_ok, setTg_v, isNon_int, isNon_non, shrs_iL, frzs_iL, ints_iL, E.place, E.root, E.cf, Es.cf, List.getElem?_cons_zero, List.getElem?_cons_succ, List.set_cons_zero, List.set_cons_succ, List.headD_cons, List.tail_cons, Bool.true_and, Bool.and_true, Bool.true_or, Bool.or_true, Bool.false_and, Bool.and_false, Bool.false_or, Bool.or_false, ite_true, ite_false, if_true, if_false, Bool.false_eq_true, List.length_cons, List.length_nil, List.contains_eq_mem, List.mem_cons, List.not_mem_nil, decide_eq_true_eq, or_false, false_or, or_true, true_or, and_true, true_and, and_self, not_false_eq_true, not_true_eq_false, fF_rt, fF_nx, pars_t, pars_f, pars_0, Nat.reduceEqDiff, callA, slotsOf, treesOf, VS.backTo, List.nodup_cons, List.nodup_nil, cx_call, rGet_some, hasD_eq, hasO_some, isLstD_eq, isLO_some, setS_eq, setO_some, appS_eq, appO_some, unpS_tup, unpS_lst, srcVar_eq, sGet_some, srcOf_var, srcOf_call, srcOf_sub, srcOf_lst, srcOf_slice, srcOf_prim, vSrc_t, vSrc_f, itsOf_some, items_lst, items_tup, enumD_lst, enumD_tup, rangeD_1, rangeD_2, senv_nx, senv_rt, putLk_nil, putLk_cons, free, List.all_cons, List.all_nil, Tg.slots, List.zip_cons_cons, List.zip_nil_right, List.foldl_cons, List.foldl_nil, List.map_nil, List.map_cons, List.append_nil, List.nil_append, List.cons_append, isTys, isTy, Bool.not_true, Bool.not_false, Bool.not_eq_true, decide_true, decide_false, List.length_map, ne_eq, reduceCtorEq, Nat.reduceBEq, Nat.reduceAdd, Nat.zero_add, Nat.reduceLeDiff, Nat.reduceLT, Int.reduceLT, Int.reduceLE, Int.reduceNeg, le_sz, lt_sz, forall_const, implies_true, bind_exc, toS_exc, fin_exc, seqK_exc, senv_exc, fF_exc, e_exIs, e_exFld, exIs_eq, x_raise, raiseK_eq, clr_eq, suiF_eq, x_try, tryK_nx, tryK_rt, tryK_bk, tryK_ct, tryK_exc, catK_t, catK_f, noX_nx, noX_rt, noX_bk, noX_ct, zip_c, zip_n, x_ins, insK_eq, insK2_eq, insS_eq, insO_some, x_setSl, slsK_eq, slsK2_eq, slsK3_eq, setSlS_eq, setSlO_some, c_is, c_isnt, List.any_cons, List.any_nil, k_check_flag, k_run_row, k_fills, k_law_box, k_law_take, k_law_row, k_law_wrong_sign, k_law_due, k_law_same, k_law_refusal, k_law, b_fills_1, lit_u, lit_d, e1, e2] <;> rfl
theorem i_fills_ok (b : Bool) (l : List Bool) (hl : l.length ≤ 200) : callN prog W (n + 2) 2 [.bl b, .str (rw_ l)] = .ok (trD b l) [.bl b, .str (rw_ l)] := by
  have a := cf_ok (W := W) (n := n) "full" b
  have a2 := i_run_row (W := W) (n := n) b l
  obtain ⟨y2, y3, h⟩ := fo_loop (W := W) (n := n + 1) l 0 (some (.bl b)) (some (.str (rw_ l))) none none []
  rw [List.append_nil] at h
  have p1 : prim .len [.str (rw_ l)] = some (.int l.length) := by
    unfold rw_
    rw [tx_plen (by simp; omega), List.length_map]
  have c : ¬ (200 : Int) < l.length := by omega
  have en1 : enumD (.str (rw_ l)) = some (en 0 (l.map cd)) := tx_enum
  have h0 : ∀ e, forL (.t [2, 3]) (bodyF (cx prog W (n + 1)) [0, 1] b_fills_1) [] e = .nx e := fun e => rfl
  rw [h0] at h
  rw [r_fills]
  unfold trD
  simp only [bind_ok, of_some, toS_ok, fin_esc, fin_rd, fin_kd, fin_ts, e_non, e_bl, e_int, e_str, e_var, lft_t, lft_f, frzR_ok, e_bin, binK_eq, binK2_eq, e_neg, e_cmp, cmpK_eq, cmpK2_eq, e_cmp2, c2K_eq, c2K2_eq, c2K3_eq, e_isN, isNK_eq, e_andT, e_andV, e_orT, e_orV, e_notT, e_notV, andT_eq, andV_eq, orT_eq, orV_eq, notT_eq, notV_eq, e_ite, iteK_eq, e_tup, e_lst, tupK_eq, lstK_eq, e_sub, subK_eq, subK2_eq, subJ_eq, subJ2_eq, e_slice, slK_eq, slK2_eq, slK3_eq, slP_none, slP_some, e_call, e_prim, primK_eq, e_meth, methK_eq, methK2_eq, mtOk, a_meth, cop_in, cop_notin, es_nil, es_cons, evsK_eq, consK_eq, kd_nil, kd_cons, kdsK_eq, a_nil, a_var, argG_some, argK_eq, consA_eq, a_int, a_str, a_bl, a_non, a_bin, a_neg, a_cmp, a_ite, a_tup, a_lst, a_sub, a_slice, a_call, a_prim, a_comp, i_rng, i_over, i_enum, i_rev, i_zip, rngK_eq, overK_eq, enumK_eq, revK_eq, zipK_eq, zipK2_eq, e_comp, compK_eq, cmpE_eq, noX_ok, x_nil, x_cons, seqK_nx, seqK_rt, seqK_bk, seqK_ct, x_asg, asgK_eq, x_unp, x_setI, setK_eq, setK2_eq, x_app, x_expr, exprK_eq, x_retv, retK_eq, x_ret, x_if, ifK_eq, bodyF_eq, x_for, forK_eq, tsF_eq, x_while, x_brk, x_cont, x_pass, vGet_rd, vGet_esc, vGet_kd, vGet_ts, onPart_esc, onPart_rd, onPart_kd, onPart_ts, shr_int, shr_bl, shr_non, shr_str, shr_lst, shr_tup, shrs_nil, shrs_cons, shrK_int, shrK_bl, shrK_non, shrK_str, shrK_lst, shrK_tup, frzK_int, frzK_bl, frzK_non, frzK_str, frzK_lst, frzK_tup, frz_lst, frz_tup, frz_int, frz_bl, frz_non, frz_str, frzs_nil, frzs_cons, truth_bl, truth_int, truth_lst, truth_tup, truth_non, map_some, b_add, b_sub, b_mul, b_mod, b_lst, b_tup, c_lt, c_le, c_gt, c_ge, c_eq, c_ne, eqD_int, p_len_l, p_len_t, p_int, p_min2, p_max2, p_sum_l, p_sum_t, p_tup_l, p_tup_t, p_lst_l, p_lst_t, p_isT, s_lst, s_tup, onOB_some, vNeg_int, vInt_ok, setTg_v, isNon_int, isNon_non, shrs_iL, frzs_iL, ints_iL, E.place, E.root, E.cf, Es.cf, List.getElem?_cons_zero, List.getElem?_cons_succ, List.set_cons_zero, List.set_cons_succ, List.headD_cons, List.tail_cons, Bool.true_and, Bool.and_true, Bool.true_or, Bool.or_true, Bool.false_and, Bool.and_false, Bool.false_or, Bool.or_false, ite_true, ite_false, if_true, if_false, Bool.false_eq_true, List.length_cons, List.length_nil, List.contains_eq_mem, List.mem_cons, List.not_mem_nil, decide_eq_true_eq, or_false, false_or, or_true, true_or, and_true, true_and, and_self, not_false_eq_true, not_true_eq_false, fF_rt, fF_nx, pars_t, pars_f, pars_0, Nat.reduceEqDiff, callA, slotsOf, treesOf, VS.backTo, List.nodup_cons, List.nodup_nil, cx_call, rGet_some, hasD_eq, hasO_some, isLstD_eq, isLO_some, setS_eq, setO_some, appS_eq, appO_some, unpS_tup, unpS_lst, srcVar_eq, sGet_some, srcOf_var, srcOf_call, srcOf_sub, srcOf_lst, srcOf_slice, srcOf_prim, vSrc_t, vSrc_f, itsOf_some, items_lst, items_tup, enumD_lst, enumD_tup, rangeD_1, rangeD_2, senv_nx, senv_rt, putLk_nil, putLk_cons, free, List.all_cons, List.all_nil, Tg.slots, List.zip_cons_cons, List.zip_nil_right, List.foldl_cons, List.foldl_nil, List.map_nil, List.map_cons, List.append_nil, List.nil_append, List.cons_append, isTys, isTy, Bool.not_true, Bool.not_false, Bool.not_eq_true, decide_true, decide_false, List.length_map, ne_eq, reduceCtorEq, Nat.reduceBEq, Nat.reduceAdd, Nat.zero_add, Nat.reduceLeDiff, Nat.reduceLT, Int.reduceLT, Int.reduceLE, Int.reduceNeg, le_sz, lt_sz, forall_const, implies_true, bind_exc, toS_exc, fin_exc, seqK_exc, senv_exc, fF_exc, e_exIs, e_exFld, exIs_eq, x_raise, raiseK_eq, clr_eq, suiF_eq, x_try, tryK_nx, tryK_rt, tryK_bk, tryK_ct, tryK_exc, catK_t, catK_f, noX_nx, noX_rt, noX_bk, noX_ct, zip_c, zip_n, x_ins, insK_eq, insK2_eq, insS_eq, insO_some, x_setSl, slsK_eq, slsK2_eq, slsK3_eq, setSlS_eq, setSlO_some, c_is, c_isnt, List.any_cons, List.any_nil, k_check_flag, k_run_row, k_fills, k_law_box, k_law_take, k_law_row, k_law_wrong_sign, k_law_due, k_law_same, k_law_refusal, k_law, b_fills, a, p1, c, en1, h, a2]
theorem i_fills_many (b : Bool) (a : List Nat) (h1 : 200 < a.length) (h2 : a.length ≤ 1000000) : callN prog W (n + 2) 2 [.bl b, .str (tx a)] = .exc "TooMany" [(("limit" : Str), .int 200)] [.bl b, .str (tx a)] := by
  have a1 := cf_ok (W := W) (n := n) "full" b
  have p1 := tx_plen (a := a) (by omega)
  have c : (200 : Int) < a.length := by omega
  rw [r_fills]
  simp only [bind_ok, of_some, toS_ok, fin_esc, fin_rd, fin_kd, fin_ts, e_non, e_bl, e_int, e_str, e_var, lft_t, lft_f, frzR_ok, e_bin, binK_eq, binK2_eq, e_neg, e_cmp, cmpK_eq, cmpK2_eq, e_cmp2, c2K_eq, c2K2_eq, c2K3_eq, e_isN, isNK_eq, e_andT, e_andV, e_orT, e_orV, e_notT, e_notV, andT_eq, andV_eq, orT_eq, orV_eq, notT_eq, notV_eq, e_ite, iteK_eq, e_tup, e_lst, tupK_eq, lstK_eq, e_sub, subK_eq, subK2_eq, subJ_eq, subJ2_eq, e_slice, slK_eq, slK2_eq, slK3_eq, slP_none, slP_some, e_call, e_prim, primK_eq, e_meth, methK_eq, methK2_eq, mtOk, a_meth, cop_in, cop_notin, es_nil, es_cons, evsK_eq, consK_eq, kd_nil, kd_cons, kdsK_eq, a_nil, a_var, argG_some, argK_eq, consA_eq, a_int, a_str, a_bl, a_non, a_bin, a_neg, a_cmp, a_ite, a_tup, a_lst, a_sub, a_slice, a_call, a_prim, a_comp, i_rng, i_over, i_enum, i_rev, i_zip, rngK_eq, overK_eq, enumK_eq, revK_eq, zipK_eq, zipK2_eq, e_comp, compK_eq, cmpE_eq, noX_ok, x_nil, x_cons, seqK_nx, seqK_rt, seqK_bk, seqK_ct, x_asg, asgK_eq, x_unp, x_setI, setK_eq, setK2_eq, x_app, x_expr, exprK_eq, x_retv, retK_eq, x_ret, x_if, ifK_eq, bodyF_eq, x_for, forK_eq, tsF_eq, x_while, x_brk, x_cont, x_pass, vGet_rd, vGet_esc, vGet_kd, vGet_ts, onPart_esc, onPart_rd, onPart_kd, onPart_ts, shr_int, shr_bl, shr_non, shr_str, shr_lst, shr_tup, shrs_nil, shrs_cons, shrK_int, shrK_bl, shrK_non, shrK_str, shrK_lst, shrK_tup, frzK_int, frzK_bl, frzK_non, frzK_str, frzK_lst, frzK_tup, frz_lst, frz_tup, frz_int, frz_bl, frz_non, frz_str, frzs_nil, frzs_cons, truth_bl, truth_int, truth_lst, truth_tup, truth_non, map_some, b_add, b_sub, b_mul, b_mod, b_lst, b_tup, c_lt, c_le, c_gt, c_ge, c_eq, c_ne, eqD_int, p_len_l, p_len_t, p_int, p_min2, p_max2, p_sum_l, p_sum_t, p_tup_l, p_tup_t, p_lst_l, p_lst_t, p_isT, s_lst, s_tup, onOB_some, vNeg_int, vInt_ok, setTg_v, isNon_int, isNon_non, shrs_iL, frzs_iL, ints_iL, E.place, E.root, E.cf, Es.cf, List.getElem?_cons_zero, List.getElem?_cons_succ, List.set_cons_zero, List.set_cons_succ, List.headD_cons, List.tail_cons, Bool.true_and, Bool.and_true, Bool.true_or, Bool.or_true, Bool.false_and, Bool.and_false, Bool.false_or, Bool.or_false, ite_true, ite_false, if_true, if_false, Bool.false_eq_true, List.length_cons, List.length_nil, List.contains_eq_mem, List.mem_cons, List.not_mem_nil, decide_eq_true_eq, or_false, false_or, or_true, true_or, and_true, true_and, and_self, not_false_eq_true, not_true_eq_false, fF_rt, fF_nx, pars_t, pars_f, pars_0, Nat.reduceEqDiff, callA, slotsOf, treesOf, VS.backTo, List.nodup_cons, List.nodup_nil, cx_call, rGet_some, hasD_eq, hasO_some, isLstD_eq, isLO_some, setS_eq, setO_some, appS_eq, appO_some, unpS_tup, unpS_lst, srcVar_eq, sGet_some, srcOf_var, srcOf_call, srcOf_sub, srcOf_lst, srcOf_slice, srcOf_prim, vSrc_t, vSrc_f, itsOf_some, items_lst, items_tup, enumD_lst, enumD_tup, rangeD_1, rangeD_2, senv_nx, senv_rt, putLk_nil, putLk_cons, free, List.all_cons, List.all_nil, Tg.slots, List.zip_cons_cons, List.zip_nil_right, List.foldl_cons, List.foldl_nil, List.map_nil, List.map_cons, List.append_nil, List.nil_append, List.cons_append, isTys, isTy, Bool.not_true, Bool.not_false, Bool.not_eq_true, decide_true, decide_false, List.length_map, ne_eq, reduceCtorEq, Nat.reduceBEq, Nat.reduceAdd, Nat.zero_add, Nat.reduceLeDiff, Nat.reduceLT, Int.reduceLT, Int.reduceLE, Int.reduceNeg, le_sz, lt_sz, forall_const, implies_true, bind_exc, toS_exc, fin_exc, seqK_exc, senv_exc, fF_exc, e_exIs, e_exFld, exIs_eq, x_raise, raiseK_eq, clr_eq, suiF_eq, x_try, tryK_nx, tryK_rt, tryK_bk, tryK_ct, tryK_exc, catK_t, catK_f, noX_nx, noX_rt, noX_bk, noX_ct, zip_c, zip_n, x_ins, insK_eq, insK2_eq, insS_eq, insO_some, x_setSl, slsK_eq, slsK2_eq, slsK3_eq, setSlS_eq, setSlO_some, c_is, c_isnt, List.any_cons, List.any_nil, k_check_flag, k_run_row, k_fills, k_law_box, k_law_take, k_law_row, k_law_wrong_sign, k_law_due, k_law_same, k_law_refusal, k_law, b_fills, a1, p1, c, fl_BadRow, ct_BadRow_CanalError, sb_BadRow_BadCalendar, sb_BadRow_BadCanal, sb_BadRow_BadDeed, sb_BadRow_BadLevels, sb_BadRow_BadRow, sb_BadRow_BadWork, sb_BadRow_NoWork, sb_BadRow_NotClean, sb_BadRow_NotPlain, sb_BadRow_NotRoomy, sb_BadRow_NothingDone, sb_BadRow_ShortWater, sb_BadRow_TextError, sb_BadRow_TooMany, sb_BadRow_ValueError, xf_BadRow_name, xf_BadRow_place, fl_TooMany, ct_TooMany_CanalError, sb_TooMany_BadCalendar, sb_TooMany_BadCanal, sb_TooMany_BadDeed, sb_TooMany_BadLevels, sb_TooMany_BadRow, sb_TooMany_BadWork, sb_TooMany_NoWork, sb_TooMany_NotClean, sb_TooMany_NotPlain, sb_TooMany_NotRoomy, sb_TooMany_NothingDone, sb_TooMany_ShortWater, sb_TooMany_TextError, sb_TooMany_TooMany, sb_TooMany_ValueError, xf_TooMany_limit]
theorem fl_exc {tg : Tg} {body : EnvD → SR} {d : D} {ds : List D} {env e1 e2 : EnvD} {c : Str} {fs : List (Str × D)} (h1 : setTg tg d env = some e1) (h2 : body e1 = .exc c fs e2) : forL tg body (d :: ds) env = .exc c fs e2 := by
  simp only [forL, h1, h2]
theorem en_app : ∀ (a b : List Nat) (j : Nat), en j (a ++ b) = en j a ++ en (j + a.length) b
  | [], b, j => rfl
  | c :: a, b, j => by
    rw [List.cons_append, en, en, List.cons_append, en_app a b (j + 1), List.length_cons, show j + (a.length + 1) = j + 1 + a.length by omega]
theorem i_fills_bad (b : Bool) (l : List Bool) (c : Nat) (r : List Nat) (h1 : c ≠ 117) (h2 : c ≠ 100) (h3 : c < 200) (hl : l.length + 1 + r.length ≤ 200) : callN prog W (n + 2) 2 [.bl b, .str (tx (l.map cd ++ c :: r))] = .exc "BadRow" [(("name" : Str), .str "row"), ("place", .int l.length)] [.bl b, .str (tx (l.map cd ++ c :: r))] := by
  have a := cf_ok (W := W) (n := n) "full" b
  obtain ⟨y2, y3, h⟩ := fo_loop (W := W) (n := n + 1) l 0 (some (.bl b)) (some (.str (tx (l.map cd ++ c :: r)))) none none (en (0 + (l.map cd).length) (c :: r))
  have p1 := tx_plen (a := l.map cd ++ c :: r) (by simp; omega)
  have c0 : ¬ (200 : Int) < ((l.map cd ++ c :: r).length : Nat) := by simp; omega
  have cc : cps [c] = true := by
    unfold cps
    rw [List.all_cons, decide_eq_true (by omega)]; rfl
  have e1 : eqD (.str (tx [c])) (.str (tx [117])) = some false := by
    rw [tx_eq cc (by decide)]
    congr 1
    exact decide_eq_false fun h => h1 (by simpa using h)
  have e2 : eqD (.str (tx [c])) (.str (tx [100])) = some false := by
    rw [tx_eq cc (by decide)]
    congr 1
    exact decide_eq_false fun h => h2 (by simpa using h)
  have en1 : enumD (.str (tx (l.map cd ++ c :: r))) = some (en 0 (l.map cd) ++ en (0 + (l.map cd).length) (c :: r)) := by rw [tx_enum, en_app]
  have h4 : forL (.t [2, 3]) (bodyF (cx prog W (n + 1)) [0, 1] b_fills_1) (en (0 + (l.map cd).length) (c :: r)) [some (.bl b), some (.str (tx (l.map cd ++ c :: r))), y2, y3] = .exc "BadRow" [(("name" : Str), .str "row"), ("place", .int l.length)] [some (.bl b), some (.str (tx (l.map cd ++ c :: r))), some (.int l.length), some (.str (tx [c]))] := by
    rw [en, List.length_map, Nat.zero_add]
    refine fl_exc (e1 := [some (.bl b), some (.str (tx (l.map cd ++ c :: r))), some (.int l.length), some (.str (tx [c]))]) rfl ?_
    rw [bodyF_eq]
    simp only [bind_ok, of_some, toS_ok, fin_esc, fin_rd, fin_kd, fin_ts, e_non, e_bl, e_int, e_str, e_var, lft_t, lft_f, frzR_ok, e_bin, binK_eq, binK2_eq, e_neg, e_cmp, cmpK_eq, cmpK2_eq, e_cmp2, c2K_eq, c2K2_eq, c2K3_eq, e_isN, isNK_eq, e_andT, e_andV, e_orT, e_orV, e_notT, e_notV, andT_eq, andV_eq, orT_eq, orV_eq, notT_eq, notV_eq, e_ite, iteK_eq, e_tup, e_lst, tupK_eq, lstK_eq, e_sub, subK_eq, subK2_eq, subJ_eq, subJ2_eq, e_slice, slK_eq, slK2_eq, slK3_eq, slP_none, slP_some, e_call, e_prim, primK_eq, e_meth, methK_eq, methK2_eq, mtOk, a_meth, cop_in, cop_notin, es_nil, es_cons, evsK_eq, consK_eq, kd_nil, kd_cons, kdsK_eq, a_nil, a_var, argG_some, argK_eq, consA_eq, a_int, a_str, a_bl, a_non, a_bin, a_neg, a_cmp, a_ite, a_tup, a_lst, a_sub, a_slice, a_call, a_prim, a_comp, i_rng, i_over, i_enum, i_rev, i_zip, rngK_eq, overK_eq, enumK_eq, revK_eq, zipK_eq, zipK2_eq, e_comp, compK_eq, cmpE_eq, noX_ok, x_nil, x_cons, seqK_nx, seqK_rt, seqK_bk, seqK_ct, x_asg, asgK_eq, x_unp, x_setI, setK_eq, setK2_eq, x_app, x_expr, exprK_eq, x_retv, retK_eq, x_ret, x_if, ifK_eq, bodyF_eq, x_for, forK_eq, tsF_eq, x_while, x_brk, x_cont, x_pass, vGet_rd, vGet_esc, vGet_kd, vGet_ts, onPart_esc, onPart_rd, onPart_kd, onPart_ts, shr_int, shr_bl, shr_non, shr_str, shr_lst, shr_tup, shrs_nil, shrs_cons, shrK_int, shrK_bl, shrK_non, shrK_str, shrK_lst, shrK_tup, frzK_int, frzK_bl, frzK_non, frzK_str, frzK_lst, frzK_tup, frz_lst, frz_tup, frz_int, frz_bl, frz_non, frz_str, frzs_nil, frzs_cons, truth_bl, truth_int, truth_lst, truth_tup, truth_non, map_some, b_add, b_sub, b_mul, b_mod, b_lst, b_tup, c_lt, c_le, c_gt, c_ge, c_eq, c_ne, eqD_int, p_len_l, p_len_t, p_int, p_min2, p_max2, p_sum_l, p_sum_t, p_tup_l, p_tup_t, p_lst_l, p_lst_t, p_isT, s_lst, s_tup, onOB_some, vNeg_int, vInt_ok, setTg_v, isNon_int, isNon_non, shrs_iL, frzs_iL, ints_iL, E.place, E.root, E.cf, Es.cf, List.getElem?_cons_zero, List.getElem?_cons_succ, List.set_cons_zero, List.set_cons_succ, List.headD_cons, List.tail_cons, Bool.true_and, Bool.and_true, Bool.true_or, Bool.or_true, Bool.false_and, Bool.and_false, Bool.false_or, Bool.or_false, ite_true, ite_false, if_true, if_false, Bool.false_eq_true, List.length_cons, List.length_nil, List.contains_eq_mem, List.mem_cons, List.not_mem_nil, decide_eq_true_eq, or_false, false_or, or_true, true_or, and_true, true_and, and_self, not_false_eq_true, not_true_eq_false, fF_rt, fF_nx, pars_t, pars_f, pars_0, Nat.reduceEqDiff, callA, slotsOf, treesOf, VS.backTo, List.nodup_cons, List.nodup_nil, cx_call, rGet_some, hasD_eq, hasO_some, isLstD_eq, isLO_some, setS_eq, setO_some, appS_eq, appO_some, unpS_tup, unpS_lst, srcVar_eq, sGet_some, srcOf_var, srcOf_call, srcOf_sub, srcOf_lst, srcOf_slice, srcOf_prim, vSrc_t, vSrc_f, itsOf_some, items_lst, items_tup, enumD_lst, enumD_tup, rangeD_1, rangeD_2, senv_nx, senv_rt, putLk_nil, putLk_cons, free, List.all_cons, List.all_nil, Tg.slots, List.zip_cons_cons, List.zip_nil_right, List.foldl_cons, List.foldl_nil, List.map_nil, List.map_cons, List.append_nil, List.nil_append, List.cons_append, isTys, isTy, Bool.not_true, Bool.not_false, Bool.not_eq_true, decide_true, decide_false, List.length_map, ne_eq, reduceCtorEq, Nat.reduceBEq, Nat.reduceAdd, Nat.zero_add, Nat.reduceLeDiff, Nat.reduceLT, Int.reduceLT, Int.reduceLE, Int.reduceNeg, le_sz, lt_sz, forall_const, implies_true, bind_exc, toS_exc, fin_exc, seqK_exc, senv_exc, fF_exc, e_exIs, e_exFld, exIs_eq, x_raise, raiseK_eq, clr_eq, suiF_eq, x_try, tryK_nx, tryK_rt, tryK_bk, tryK_ct, tryK_exc, catK_t, catK_f, noX_nx, noX_rt, noX_bk, noX_ct, zip_c, zip_n, x_ins, insK_eq, insK2_eq, insS_eq, insO_some, x_setSl, slsK_eq, slsK2_eq, slsK3_eq, setSlS_eq, setSlO_some, c_is, c_isnt, List.any_cons, List.any_nil, k_check_flag, k_run_row, k_fills, k_law_box, k_law_take, k_law_row, k_law_wrong_sign, k_law_due, k_law_same, k_law_refusal, k_law, b_fills_1, lit_u, lit_d, e1, e2, fl_BadRow, ct_BadRow_CanalError, sb_BadRow_BadCalendar, sb_BadRow_BadCanal, sb_BadRow_BadDeed, sb_BadRow_BadLevels, sb_BadRow_BadRow, sb_BadRow_BadWork, sb_BadRow_NoWork, sb_BadRow_NotClean, sb_BadRow_NotPlain, sb_BadRow_NotRoomy, sb_BadRow_NothingDone, sb_BadRow_ShortWater, sb_BadRow_TextError, sb_BadRow_TooMany, sb_BadRow_ValueError, xf_BadRow_name, xf_BadRow_place, fl_TooMany, ct_TooMany_CanalError, sb_TooMany_BadCalendar, sb_TooMany_BadCanal, sb_TooMany_BadDeed, sb_TooMany_BadLevels, sb_TooMany_BadRow, sb_TooMany_BadWork, sb_TooMany_NoWork, sb_TooMany_NotClean, sb_TooMany_NotPlain, sb_TooMany_NotRoomy, sb_TooMany_NothingDone, sb_TooMany_ShortWater, sb_TooMany_TextError, sb_TooMany_TooMany, sb_TooMany_ValueError, xf_TooMany_limit]
  rw [h4] at h
  obtain ⟨T, hT⟩ : ∃ T, l.map cd ++ c :: r = T := ⟨_, rfl⟩
  obtain ⟨L, hL⟩ : ∃ L, en 0 (l.map cd) ++ en (0 + (l.map cd).length) (c :: r) = L := ⟨_, rfl⟩
  rw [hT] at p1 c0 en1 h ⊢
  rw [hL] at en1 h
  obtain ⟨N, hN⟩ : ∃ N : Int, (T.length : Int) = N := ⟨_, rfl⟩
  rw [hN] at p1 c0
  rw [r_fills]
  simp only [bind_ok, of_some, toS_ok, fin_esc, fin_rd, fin_kd, fin_ts, e_non, e_bl, e_int, e_str, e_var, lft_t, lft_f, frzR_ok, e_bin, binK_eq, binK2_eq, e_neg, e_cmp, cmpK_eq, cmpK2_eq, e_cmp2, c2K_eq, c2K2_eq, c2K3_eq, e_isN, isNK_eq, e_andT, e_andV, e_orT, e_orV, e_notT, e_notV, andT_eq, andV_eq, orT_eq, orV_eq, notT_eq, notV_eq, e_ite, iteK_eq, e_tup, e_lst, tupK_eq, lstK_eq, e_sub, subK_eq, subK2_eq, subJ_eq, subJ2_eq, e_slice, slK_eq, slK2_eq, slK3_eq, slP_none, slP_some, e_call, e_prim, primK_eq, e_meth, methK_eq, methK2_eq, mtOk, a_meth, cop_in, cop_notin, es_nil, es_cons, evsK_eq, consK_eq, kd_nil, kd_cons, kdsK_eq, a_nil, a_var, argG_some, argK_eq, consA_eq, a_int, a_str, a_bl, a_non, a_bin, a_neg, a_cmp, a_ite, a_tup, a_lst, a_sub, a_slice, a_call, a_prim, a_comp, i_rng, i_over, i_enum, i_rev, i_zip, rngK_eq, overK_eq, enumK_eq, revK_eq, zipK_eq, zipK2_eq, e_comp, compK_eq, cmpE_eq, noX_ok, x_nil, x_cons, seqK_nx, seqK_rt, seqK_bk, seqK_ct, x_asg, asgK_eq, x_unp, x_setI, setK_eq, setK2_eq, x_app, x_expr, exprK_eq, x_retv, retK_eq, x_ret, x_if, ifK_eq, bodyF_eq, x_for, forK_eq, tsF_eq, x_while, x_brk, x_cont, x_pass, vGet_rd, vGet_esc, vGet_kd, vGet_ts, onPart_esc, onPart_rd, onPart_kd, onPart_ts, shr_int, shr_bl, shr_non, shr_str, shr_lst, shr_tup, shrs_nil, shrs_cons, shrK_int, shrK_bl, shrK_non, shrK_str, shrK_lst, shrK_tup, frzK_int, frzK_bl, frzK_non, frzK_str, frzK_lst, frzK_tup, frz_lst, frz_tup, frz_int, frz_bl, frz_non, frz_str, frzs_nil, frzs_cons, truth_bl, truth_int, truth_lst, truth_tup, truth_non, map_some, b_add, b_sub, b_mul, b_mod, b_lst, b_tup, c_lt, c_le, c_gt, c_ge, c_eq, c_ne, eqD_int, p_len_l, p_len_t, p_int, p_min2, p_max2, p_sum_l, p_sum_t, p_tup_l, p_tup_t, p_lst_l, p_lst_t, p_isT, s_lst, s_tup, onOB_some, vNeg_int, vInt_ok, setTg_v, isNon_int, isNon_non, shrs_iL, frzs_iL, ints_iL, E.place, E.root, E.cf, Es.cf, List.getElem?_cons_zero, List.getElem?_cons_succ, List.set_cons_zero, List.set_cons_succ, List.headD_cons, List.tail_cons, Bool.true_and, Bool.and_true, Bool.true_or, Bool.or_true, Bool.false_and, Bool.and_false, Bool.false_or, Bool.or_false, ite_true, ite_false, if_true, if_false, Bool.false_eq_true, List.length_cons, List.length_nil, List.contains_eq_mem, List.mem_cons, List.not_mem_nil, decide_eq_true_eq, or_false, false_or, or_true, true_or, and_true, true_and, and_self, not_false_eq_true, not_true_eq_false, fF_rt, fF_nx, pars_t, pars_f, pars_0, Nat.reduceEqDiff, callA, slotsOf, treesOf, VS.backTo, List.nodup_cons, List.nodup_nil, cx_call, rGet_some, hasD_eq, hasO_some, isLstD_eq, isLO_some, setS_eq, setO_some, appS_eq, appO_some, unpS_tup, unpS_lst, srcVar_eq, sGet_some, srcOf_var, srcOf_call, srcOf_sub, srcOf_lst, srcOf_slice, srcOf_prim, vSrc_t, vSrc_f, itsOf_some, items_lst, items_tup, enumD_lst, enumD_tup, rangeD_1, rangeD_2, senv_nx, senv_rt, putLk_nil, putLk_cons, free, List.all_cons, List.all_nil, Tg.slots, List.zip_cons_cons, List.zip_nil_right, List.foldl_cons, List.foldl_nil, List.map_nil, List.map_cons, List.append_nil, List.nil_append, List.cons_append, isTys, isTy, Bool.not_true, Bool.not_false, Bool.not_eq_true, decide_true, decide_false, List.length_map, ne_eq, reduceCtorEq, Nat.reduceBEq, Nat.reduceAdd, Nat.zero_add, Nat.reduceLeDiff, Nat.reduceLT, Int.reduceLT, Int.reduceLE, Int.reduceNeg, le_sz, lt_sz, forall_const, implies_true, bind_exc, toS_exc, fin_exc, seqK_exc, senv_exc, fF_exc, e_exIs, e_exFld, exIs_eq, x_raise, raiseK_eq, clr_eq, suiF_eq, x_try, tryK_nx, tryK_rt, tryK_bk, tryK_ct, tryK_exc, catK_t, catK_f, noX_nx, noX_rt, noX_bk, noX_ct, zip_c, zip_n, x_ins, insK_eq, insK2_eq, insS_eq, insO_some, x_setSl, slsK_eq, slsK2_eq, slsK3_eq, setSlS_eq, setSlO_some, c_is, c_isnt, List.any_cons, List.any_nil, k_check_flag, k_run_row, k_fills, k_law_box, k_law_take, k_law_row, k_law_wrong_sign, k_law_due, k_law_same, k_law_refusal, k_law, b_fills, a, p1, c0, en1, h]
theorem i_fills_flag (d : D) (x : Str) (hd : d.shr = true) (h : isB d = false) : callN prog W (n + 2) 2 [d, .str x] = .exc "BadRow" [(("name" : Str), .str "full"), ("place", .non)] [d, .str x] := by
  have a := cf_bad (W := W) (n := n) "full" d hd h
  rw [r_fills]
  simp only [bind_ok, of_some, toS_ok, fin_esc, fin_rd, fin_kd, fin_ts, e_non, e_bl, e_int, e_str, e_var, lft_t, lft_f, frzR_ok, e_bin, binK_eq, binK2_eq, e_neg, e_cmp, cmpK_eq, cmpK2_eq, e_cmp2, c2K_eq, c2K2_eq, c2K3_eq, e_isN, isNK_eq, e_andT, e_andV, e_orT, e_orV, e_notT, e_notV, andT_eq, andV_eq, orT_eq, orV_eq, notT_eq, notV_eq, e_ite, iteK_eq, e_tup, e_lst, tupK_eq, lstK_eq, e_sub, subK_eq, subK2_eq, subJ_eq, subJ2_eq, e_slice, slK_eq, slK2_eq, slK3_eq, slP_none, slP_some, e_call, e_prim, primK_eq, e_meth, methK_eq, methK2_eq, mtOk, a_meth, cop_in, cop_notin, es_nil, es_cons, evsK_eq, consK_eq, kd_nil, kd_cons, kdsK_eq, a_nil, a_var, argG_some, argK_eq, consA_eq, a_int, a_str, a_bl, a_non, a_bin, a_neg, a_cmp, a_ite, a_tup, a_lst, a_sub, a_slice, a_call, a_prim, a_comp, i_rng, i_over, i_enum, i_rev, i_zip, rngK_eq, overK_eq, enumK_eq, revK_eq, zipK_eq, zipK2_eq, e_comp, compK_eq, cmpE_eq, noX_ok, x_nil, x_cons, seqK_nx, seqK_rt, seqK_bk, seqK_ct, x_asg, asgK_eq, x_unp, x_setI, setK_eq, setK2_eq, x_app, x_expr, exprK_eq, x_retv, retK_eq, x_ret, x_if, ifK_eq, bodyF_eq, x_for, forK_eq, tsF_eq, x_while, x_brk, x_cont, x_pass, vGet_rd, vGet_esc, vGet_kd, vGet_ts, onPart_esc, onPart_rd, onPart_kd, onPart_ts, shr_int, shr_bl, shr_non, shr_str, shr_lst, shr_tup, shrs_nil, shrs_cons, shrK_int, shrK_bl, shrK_non, shrK_str, shrK_lst, shrK_tup, frzK_int, frzK_bl, frzK_non, frzK_str, frzK_lst, frzK_tup, frz_lst, frz_tup, frz_int, frz_bl, frz_non, frz_str, frzs_nil, frzs_cons, truth_bl, truth_int, truth_lst, truth_tup, truth_non, map_some, b_add, b_sub, b_mul, b_mod, b_lst, b_tup, c_lt, c_le, c_gt, c_ge, c_eq, c_ne, eqD_int, p_len_l, p_len_t, p_int, p_min2, p_max2, p_sum_l, p_sum_t, p_tup_l, p_tup_t, p_lst_l, p_lst_t, p_isT, s_lst, s_tup, onOB_some, vNeg_int, vInt_ok, setTg_v, isNon_int, isNon_non, shrs_iL, frzs_iL, ints_iL, E.place, E.root, E.cf, Es.cf, List.getElem?_cons_zero, List.getElem?_cons_succ, List.set_cons_zero, List.set_cons_succ, List.headD_cons, List.tail_cons, Bool.true_and, Bool.and_true, Bool.true_or, Bool.or_true, Bool.false_and, Bool.and_false, Bool.false_or, Bool.or_false, ite_true, ite_false, if_true, if_false, Bool.false_eq_true, List.length_cons, List.length_nil, List.contains_eq_mem, List.mem_cons, List.not_mem_nil, decide_eq_true_eq, or_false, false_or, or_true, true_or, and_true, true_and, and_self, not_false_eq_true, not_true_eq_false, fF_rt, fF_nx, pars_t, pars_f, pars_0, Nat.reduceEqDiff, callA, slotsOf, treesOf, VS.backTo, List.nodup_cons, List.nodup_nil, cx_call, rGet_some, hasD_eq, hasO_some, isLstD_eq, isLO_some, setS_eq, setO_some, appS_eq, appO_some, unpS_tup, unpS_lst, srcVar_eq, sGet_some, srcOf_var, srcOf_call, srcOf_sub, srcOf_lst, srcOf_slice, srcOf_prim, vSrc_t, vSrc_f, itsOf_some, items_lst, items_tup, enumD_lst, enumD_tup, rangeD_1, rangeD_2, senv_nx, senv_rt, putLk_nil, putLk_cons, free, List.all_cons, List.all_nil, Tg.slots, List.zip_cons_cons, List.zip_nil_right, List.foldl_cons, List.foldl_nil, List.map_nil, List.map_cons, List.append_nil, List.nil_append, List.cons_append, isTys, isTy, Bool.not_true, Bool.not_false, Bool.not_eq_true, decide_true, decide_false, List.length_map, ne_eq, reduceCtorEq, Nat.reduceBEq, Nat.reduceAdd, Nat.zero_add, Nat.reduceLeDiff, Nat.reduceLT, Int.reduceLT, Int.reduceLE, Int.reduceNeg, le_sz, lt_sz, forall_const, implies_true, bind_exc, toS_exc, fin_exc, seqK_exc, senv_exc, fF_exc, e_exIs, e_exFld, exIs_eq, x_raise, raiseK_eq, clr_eq, suiF_eq, x_try, tryK_nx, tryK_rt, tryK_bk, tryK_ct, tryK_exc, catK_t, catK_f, noX_nx, noX_rt, noX_bk, noX_ct, zip_c, zip_n, x_ins, insK_eq, insK2_eq, insS_eq, insO_some, x_setSl, slsK_eq, slsK2_eq, slsK3_eq, setSlS_eq, setSlO_some, c_is, c_isnt, List.any_cons, List.any_nil, k_check_flag, k_run_row, k_fills, k_law_box, k_law_take, k_law_row, k_law_wrong_sign, k_law_due, k_law_same, k_law_refusal, k_law, b_fills, a, hd]
theorem rf_many (b : Bool) (a : List Nat) (h1 : 200 < a.length) (h2 : a.length ≤ 1000000) : callN prog W (n + 3) 9 [.bl b, .str (tx a)] = .ok (.tup [.str "many", .int 200, .bl false]) [.non, .non] := by
  have a1 := i_fills_many (W := W) (n := n) b a h1 h2
  rw [r_law_refusal]
  simp only [bind_ok, of_some, toS_ok, fin_esc, fin_rd, fin_kd, fin_ts, e_non, e_bl, e_int, e_str, e_var, lft_t, lft_f, frzR_ok, e_bin, binK_eq, binK2_eq, e_neg, e_cmp, cmpK_eq, cmpK2_eq, e_cmp2, c2K_eq, c2K2_eq, c2K3_eq, e_isN, isNK_eq, e_andT, e_andV, e_orT, e_orV, e_notT, e_notV, andT_eq, andV_eq, orT_eq, orV_eq, notT_eq, notV_eq, e_ite, iteK_eq, e_tup, e_lst, tupK_eq, lstK_eq, e_sub, subK_eq, subK2_eq, subJ_eq, subJ2_eq, e_slice, slK_eq, slK2_eq, slK3_eq, slP_none, slP_some, e_call, e_prim, primK_eq, e_meth, methK_eq, methK2_eq, mtOk, a_meth, cop_in, cop_notin, es_nil, es_cons, evsK_eq, consK_eq, kd_nil, kd_cons, kdsK_eq, a_nil, a_var, argG_some, argK_eq, consA_eq, a_int, a_str, a_bl, a_non, a_bin, a_neg, a_cmp, a_ite, a_tup, a_lst, a_sub, a_slice, a_call, a_prim, a_comp, i_rng, i_over, i_enum, i_rev, i_zip, rngK_eq, overK_eq, enumK_eq, revK_eq, zipK_eq, zipK2_eq, e_comp, compK_eq, cmpE_eq, noX_ok, x_nil, x_cons, seqK_nx, seqK_rt, seqK_bk, seqK_ct, x_asg, asgK_eq, x_unp, x_setI, setK_eq, setK2_eq, x_app, x_expr, exprK_eq, x_retv, retK_eq, x_ret, x_if, ifK_eq, bodyF_eq, x_for, forK_eq, tsF_eq, x_while, x_brk, x_cont, x_pass, vGet_rd, vGet_esc, vGet_kd, vGet_ts, onPart_esc, onPart_rd, onPart_kd, onPart_ts, shr_int, shr_bl, shr_non, shr_str, shr_lst, shr_tup, shrs_nil, shrs_cons, shrK_int, shrK_bl, shrK_non, shrK_str, shrK_lst, shrK_tup, frzK_int, frzK_bl, frzK_non, frzK_str, frzK_lst, frzK_tup, frz_lst, frz_tup, frz_int, frz_bl, frz_non, frz_str, frzs_nil, frzs_cons, truth_bl, truth_int, truth_lst, truth_tup, truth_non, map_some, b_add, b_sub, b_mul, b_mod, b_lst, b_tup, c_lt, c_le, c_gt, c_ge, c_eq, c_ne, eqD_int, p_len_l, p_len_t, p_int, p_min2, p_max2, p_sum_l, p_sum_t, p_tup_l, p_tup_t, p_lst_l, p_lst_t, p_isT, s_lst, s_tup, onOB_some, vNeg_int, vInt_ok, setTg_v, isNon_int, isNon_non, shrs_iL, frzs_iL, ints_iL, E.place, E.root, E.cf, Es.cf, List.getElem?_cons_zero, List.getElem?_cons_succ, List.set_cons_zero, List.set_cons_succ, List.headD_cons, List.tail_cons, Bool.true_and, Bool.and_true, Bool.true_or, Bool.or_true, Bool.false_and, Bool.and_false, Bool.false_or, Bool.or_false, ite_true, ite_false, if_true, if_false, Bool.false_eq_true, List.length_cons, List.length_nil, List.contains_eq_mem, List.mem_cons, List.not_mem_nil, decide_eq_true_eq, or_false, false_or, or_true, true_or, and_true, true_and, and_self, not_false_eq_true, not_true_eq_false, fF_rt, fF_nx, pars_t, pars_f, pars_0, Nat.reduceEqDiff, callA, slotsOf, treesOf, VS.backTo, List.nodup_cons, List.nodup_nil, cx_call, rGet_some, hasD_eq, hasO_some, isLstD_eq, isLO_some, setS_eq, setO_some, appS_eq, appO_some, unpS_tup, unpS_lst, srcVar_eq, sGet_some, srcOf_var, srcOf_call, srcOf_sub, srcOf_lst, srcOf_slice, srcOf_prim, vSrc_t, vSrc_f, itsOf_some, items_lst, items_tup, enumD_lst, enumD_tup, rangeD_1, rangeD_2, senv_nx, senv_rt, putLk_nil, putLk_cons, free, List.all_cons, List.all_nil, Tg.slots, List.zip_cons_cons, List.zip_nil_right, List.foldl_cons, List.foldl_nil, List.map_nil, List.map_cons, List.append_nil, List.nil_append, List.cons_append, isTys, isTy, Bool.not_true, Bool.not_false, Bool.not_eq_true, decide_true, decide_false, List.length_map, ne_eq, reduceCtorEq, Nat.reduceBEq, Nat.reduceAdd, Nat.zero_add, Nat.reduceLeDiff, Nat.reduceLT, Int.reduceLT, Int.reduceLE, Int.reduceNeg, le_sz, lt_sz, forall_const, implies_true, bind_exc, toS_exc, fin_exc, seqK_exc, senv_exc, fF_exc, e_exIs, e_exFld, exIs_eq, x_raise, raiseK_eq, clr_eq, suiF_eq, x_try, tryK_nx, tryK_rt, tryK_bk, tryK_ct, tryK_exc, catK_t, catK_f, noX_nx, noX_rt, noX_bk, noX_ct, zip_c, zip_n, x_ins, insK_eq, insK2_eq, insS_eq, insO_some, x_setSl, slsK_eq, slsK2_eq, slsK3_eq, setSlS_eq, setSlO_some, c_is, c_isnt, List.any_cons, List.any_nil, k_check_flag, k_run_row, k_fills, k_law_box, k_law_take, k_law_row, k_law_wrong_sign, k_law_due, k_law_same, k_law_refusal, k_law, b_law_refusal, b_law_refusal_1, b_law_refusal_2, a1, fl_BadRow, ct_BadRow_CanalError, sb_BadRow_BadCalendar, sb_BadRow_BadCanal, sb_BadRow_BadDeed, sb_BadRow_BadLevels, sb_BadRow_BadRow, sb_BadRow_BadWork, sb_BadRow_NoWork, sb_BadRow_NotClean, sb_BadRow_NotPlain, sb_BadRow_NotRoomy, sb_BadRow_NothingDone, sb_BadRow_ShortWater, sb_BadRow_TextError, sb_BadRow_TooMany, sb_BadRow_ValueError, xf_BadRow_name, xf_BadRow_place, fl_TooMany, ct_TooMany_CanalError, sb_TooMany_BadCalendar, sb_TooMany_BadCanal, sb_TooMany_BadDeed, sb_TooMany_BadLevels, sb_TooMany_BadRow, sb_TooMany_BadWork, sb_TooMany_NoWork, sb_TooMany_NotClean, sb_TooMany_NotPlain, sb_TooMany_NotRoomy, sb_TooMany_NothingDone, sb_TooMany_ShortWater, sb_TooMany_TextError, sb_TooMany_TooMany, sb_TooMany_ValueError, xf_TooMany_limit]
theorem rf_bad (b : Bool) (l : List Bool) (c : Nat) (r : List Nat) (h1 : c ≠ 117) (h2 : c ≠ 100) (h3 : c < 200) (hl : l.length + 1 + r.length ≤ 200) : callN prog W (n + 3) 9 [.bl b, .str (tx (l.map cd ++ c :: r))] = .ok (.tup [.str "bad", .str "row", .int l.length, .bl false]) [.non, .non] := by
  have a1 := i_fills_bad (W := W) (n := n) b l c r h1 h2 h3 hl
  obtain ⟨T, hT⟩ : ∃ T, l.map cd ++ c :: r = T := ⟨_, rfl⟩
  rw [hT] at a1 ⊢
  rw [r_law_refusal]
  simp only [bind_ok, of_some, toS_ok, fin_esc, fin_rd, fin_kd, fin_ts, e_non, e_bl, e_int, e_str, e_var, lft_t, lft_f, frzR_ok, e_bin, binK_eq, binK2_eq, e_neg, e_cmp, cmpK_eq, cmpK2_eq, e_cmp2, c2K_eq, c2K2_eq, c2K3_eq, e_isN, isNK_eq, e_andT, e_andV, e_orT, e_orV, e_notT, e_notV, andT_eq, andV_eq, orT_eq, orV_eq, notT_eq, notV_eq, e_ite, iteK_eq, e_tup, e_lst, tupK_eq, lstK_eq, e_sub, subK_eq, subK2_eq, subJ_eq, subJ2_eq, e_slice, slK_eq, slK2_eq, slK3_eq, slP_none, slP_some, e_call, e_prim, primK_eq, e_meth, methK_eq, methK2_eq, mtOk, a_meth, cop_in, cop_notin, es_nil, es_cons, evsK_eq, consK_eq, kd_nil, kd_cons, kdsK_eq, a_nil, a_var, argG_some, argK_eq, consA_eq, a_int, a_str, a_bl, a_non, a_bin, a_neg, a_cmp, a_ite, a_tup, a_lst, a_sub, a_slice, a_call, a_prim, a_comp, i_rng, i_over, i_enum, i_rev, i_zip, rngK_eq, overK_eq, enumK_eq, revK_eq, zipK_eq, zipK2_eq, e_comp, compK_eq, cmpE_eq, noX_ok, x_nil, x_cons, seqK_nx, seqK_rt, seqK_bk, seqK_ct, x_asg, asgK_eq, x_unp, x_setI, setK_eq, setK2_eq, x_app, x_expr, exprK_eq, x_retv, retK_eq, x_ret, x_if, ifK_eq, bodyF_eq, x_for, forK_eq, tsF_eq, x_while, x_brk, x_cont, x_pass, vGet_rd, vGet_esc, vGet_kd, vGet_ts, onPart_esc, onPart_rd, onPart_kd, onPart_ts, shr_int, shr_bl, shr_non, shr_str, shr_lst, shr_tup, shrs_nil, shrs_cons, shrK_int, shrK_bl, shrK_non, shrK_str, shrK_lst, shrK_tup, frzK_int, frzK_bl, frzK_non, frzK_str, frzK_lst, frzK_tup, frz_lst, frz_tup, frz_int, frz_bl, frz_non, frz_str, frzs_nil, frzs_cons, truth_bl, truth_int, truth_lst, truth_tup, truth_non, map_some, b_add, b_sub, b_mul, b_mod, b_lst, b_tup, c_lt, c_le, c_gt, c_ge, c_eq, c_ne, eqD_int, p_len_l, p_len_t, p_int, p_min2, p_max2, p_sum_l, p_sum_t, p_tup_l, p_tup_t, p_lst_l, p_lst_t, p_isT, s_lst, s_tup, onOB_some, vNeg_int, vInt_ok, setTg_v, isNon_int, isNon_non, shrs_iL, frzs_iL, ints_iL, E.place, E.root, E.cf, Es.cf, List.getElem?_cons_zero, List.getElem?_cons_succ, List.set_cons_zero, List.set_cons_succ, List.headD_cons, List.tail_cons, Bool.true_and, Bool.and_true, Bool.true_or, Bool.or_true, Bool.false_and, Bool.and_false, Bool.false_or, Bool.or_false, ite_true, ite_false, if_true, if_false, Bool.false_eq_true, List.length_cons, List.length_nil, List.contains_eq_mem, List.mem_cons, List.not_mem_nil, decide_eq_true_eq, or_false, false_or, or_true, true_or, and_true, true_and, and_self, not_false_eq_true, not_true_eq_false, fF_rt, fF_nx, pars_t, pars_f, pars_0, Nat.reduceEqDiff, callA, slotsOf, treesOf, VS.backTo, List.nodup_cons, List.nodup_nil, cx_call, rGet_some, hasD_eq, hasO_some, isLstD_eq, isLO_some, setS_eq, setO_some, appS_eq, appO_some, unpS_tup, unpS_lst, srcVar_eq, sGet_some, srcOf_var, srcOf_call, srcOf_sub, srcOf_lst, srcOf_slice, srcOf_prim, vSrc_t, vSrc_f, itsOf_some, items_lst, items_tup, enumD_lst, enumD_tup, rangeD_1, rangeD_2, senv_nx, senv_rt, putLk_nil, putLk_cons, free, List.all_cons, List.all_nil, Tg.slots, List.zip_cons_cons, List.zip_nil_right, List.foldl_cons, List.foldl_nil, List.map_nil, List.map_cons, List.append_nil, List.nil_append, List.cons_append, isTys, isTy, Bool.not_true, Bool.not_false, Bool.not_eq_true, decide_true, decide_false, List.length_map, ne_eq, reduceCtorEq, Nat.reduceBEq, Nat.reduceAdd, Nat.zero_add, Nat.reduceLeDiff, Nat.reduceLT, Int.reduceLT, Int.reduceLE, Int.reduceNeg, le_sz, lt_sz, forall_const, implies_true, bind_exc, toS_exc, fin_exc, seqK_exc, senv_exc, fF_exc, e_exIs, e_exFld, exIs_eq, x_raise, raiseK_eq, clr_eq, suiF_eq, x_try, tryK_nx, tryK_rt, tryK_bk, tryK_ct, tryK_exc, catK_t, catK_f, noX_nx, noX_rt, noX_bk, noX_ct, zip_c, zip_n, x_ins, insK_eq, insK2_eq, insS_eq, insO_some, x_setSl, slsK_eq, slsK2_eq, slsK3_eq, setSlS_eq, setSlO_some, c_is, c_isnt, List.any_cons, List.any_nil, k_check_flag, k_run_row, k_fills, k_law_box, k_law_take, k_law_row, k_law_wrong_sign, k_law_due, k_law_same, k_law_refusal, k_law, b_law_refusal, b_law_refusal_1, b_law_refusal_2, a1, fl_BadRow, ct_BadRow_CanalError, sb_BadRow_BadCalendar, sb_BadRow_BadCanal, sb_BadRow_BadDeed, sb_BadRow_BadLevels, sb_BadRow_BadRow, sb_BadRow_BadWork, sb_BadRow_NoWork, sb_BadRow_NotClean, sb_BadRow_NotPlain, sb_BadRow_NotRoomy, sb_BadRow_NothingDone, sb_BadRow_ShortWater, sb_BadRow_TextError, sb_BadRow_TooMany, sb_BadRow_ValueError, xf_BadRow_name, xf_BadRow_place, fl_TooMany, ct_TooMany_CanalError, sb_TooMany_BadCalendar, sb_TooMany_BadCanal, sb_TooMany_BadDeed, sb_TooMany_BadLevels, sb_TooMany_BadRow, sb_TooMany_BadWork, sb_TooMany_NoWork, sb_TooMany_NotClean, sb_TooMany_NotPlain, sb_TooMany_NotRoomy, sb_TooMany_NothingDone, sb_TooMany_ShortWater, sb_TooMany_TextError, sb_TooMany_TooMany, sb_TooMany_ValueError, xf_TooMany_limit]
theorem rf_flag (d : D) (x : Str) (hd : d.shr = true) (h : isB d = false) : callN prog W (n + 3) 9 [d, .str x] = .ok (.tup [.str "bad", .str "full", .non, .bl false]) [.non, .non] := by
  have a1 := i_fills_flag (W := W) (n := n) d x hd h
  rw [r_law_refusal]
  simp only [bind_ok, of_some, toS_ok, fin_esc, fin_rd, fin_kd, fin_ts, e_non, e_bl, e_int, e_str, e_var, lft_t, lft_f, frzR_ok, e_bin, binK_eq, binK2_eq, e_neg, e_cmp, cmpK_eq, cmpK2_eq, e_cmp2, c2K_eq, c2K2_eq, c2K3_eq, e_isN, isNK_eq, e_andT, e_andV, e_orT, e_orV, e_notT, e_notV, andT_eq, andV_eq, orT_eq, orV_eq, notT_eq, notV_eq, e_ite, iteK_eq, e_tup, e_lst, tupK_eq, lstK_eq, e_sub, subK_eq, subK2_eq, subJ_eq, subJ2_eq, e_slice, slK_eq, slK2_eq, slK3_eq, slP_none, slP_some, e_call, e_prim, primK_eq, e_meth, methK_eq, methK2_eq, mtOk, a_meth, cop_in, cop_notin, es_nil, es_cons, evsK_eq, consK_eq, kd_nil, kd_cons, kdsK_eq, a_nil, a_var, argG_some, argK_eq, consA_eq, a_int, a_str, a_bl, a_non, a_bin, a_neg, a_cmp, a_ite, a_tup, a_lst, a_sub, a_slice, a_call, a_prim, a_comp, i_rng, i_over, i_enum, i_rev, i_zip, rngK_eq, overK_eq, enumK_eq, revK_eq, zipK_eq, zipK2_eq, e_comp, compK_eq, cmpE_eq, noX_ok, x_nil, x_cons, seqK_nx, seqK_rt, seqK_bk, seqK_ct, x_asg, asgK_eq, x_unp, x_setI, setK_eq, setK2_eq, x_app, x_expr, exprK_eq, x_retv, retK_eq, x_ret, x_if, ifK_eq, bodyF_eq, x_for, forK_eq, tsF_eq, x_while, x_brk, x_cont, x_pass, vGet_rd, vGet_esc, vGet_kd, vGet_ts, onPart_esc, onPart_rd, onPart_kd, onPart_ts, shr_int, shr_bl, shr_non, shr_str, shr_lst, shr_tup, shrs_nil, shrs_cons, shrK_int, shrK_bl, shrK_non, shrK_str, shrK_lst, shrK_tup, frzK_int, frzK_bl, frzK_non, frzK_str, frzK_lst, frzK_tup, frz_lst, frz_tup, frz_int, frz_bl, frz_non, frz_str, frzs_nil, frzs_cons, truth_bl, truth_int, truth_lst, truth_tup, truth_non, map_some, b_add, b_sub, b_mul, b_mod, b_lst, b_tup, c_lt, c_le, c_gt, c_ge, c_eq, c_ne, eqD_int, p_len_l, p_len_t, p_int, p_min2, p_max2, p_sum_l, p_sum_t, p_tup_l, p_tup_t, p_lst_l, p_lst_t, p_isT, s_lst, s_tup, onOB_some, vNeg_int, vInt_ok, setTg_v, isNon_int, isNon_non, shrs_iL, frzs_iL, ints_iL, E.place, E.root, E.cf, Es.cf, List.getElem?_cons_zero, List.getElem?_cons_succ, List.set_cons_zero, List.set_cons_succ, List.headD_cons, List.tail_cons, Bool.true_and, Bool.and_true, Bool.true_or, Bool.or_true, Bool.false_and, Bool.and_false, Bool.false_or, Bool.or_false, ite_true, ite_false, if_true, if_false, Bool.false_eq_true, List.length_cons, List.length_nil, List.contains_eq_mem, List.mem_cons, List.not_mem_nil, decide_eq_true_eq, or_false, false_or, or_true, true_or, and_true, true_and, and_self, not_false_eq_true, not_true_eq_false, fF_rt, fF_nx, pars_t, pars_f, pars_0, Nat.reduceEqDiff, callA, slotsOf, treesOf, VS.backTo, List.nodup_cons, List.nodup_nil, cx_call, rGet_some, hasD_eq, hasO_some, isLstD_eq, isLO_some, setS_eq, setO_some, appS_eq, appO_some, unpS_tup, unpS_lst, srcVar_eq, sGet_some, srcOf_var, srcOf_call, srcOf_sub, srcOf_lst, srcOf_slice, srcOf_prim, vSrc_t, vSrc_f, itsOf_some, items_lst, items_tup, enumD_lst, enumD_tup, rangeD_1, rangeD_2, senv_nx, senv_rt, putLk_nil, putLk_cons, free, List.all_cons, List.all_nil, Tg.slots, List.zip_cons_cons, List.zip_nil_right, List.foldl_cons, List.foldl_nil, List.map_nil, List.map_cons, List.append_nil, List.nil_append, List.cons_append, isTys, isTy, Bool.not_true, Bool.not_false, Bool.not_eq_true, decide_true, decide_false, List.length_map, ne_eq, reduceCtorEq, Nat.reduceBEq, Nat.reduceAdd, Nat.zero_add, Nat.reduceLeDiff, Nat.reduceLT, Int.reduceLT, Int.reduceLE, Int.reduceNeg, le_sz, lt_sz, forall_const, implies_true, bind_exc, toS_exc, fin_exc, seqK_exc, senv_exc, fF_exc, e_exIs, e_exFld, exIs_eq, x_raise, raiseK_eq, clr_eq, suiF_eq, x_try, tryK_nx, tryK_rt, tryK_bk, tryK_ct, tryK_exc, catK_t, catK_f, noX_nx, noX_rt, noX_bk, noX_ct, zip_c, zip_n, x_ins, insK_eq, insK2_eq, insS_eq, insO_some, x_setSl, slsK_eq, slsK2_eq, slsK3_eq, setSlS_eq, setSlO_some, c_is, c_isnt, List.any_cons, List.any_nil, k_check_flag, k_run_row, k_fills, k_law_box, k_law_take, k_law_row, k_law_wrong_sign, k_law_due, k_law_same, k_law_refusal, k_law, b_law_refusal, b_law_refusal_1, b_law_refusal_2, a1, fl_BadRow, ct_BadRow_CanalError, sb_BadRow_BadCalendar, sb_BadRow_BadCanal, sb_BadRow_BadDeed, sb_BadRow_BadLevels, sb_BadRow_BadRow, sb_BadRow_BadWork, sb_BadRow_NoWork, sb_BadRow_NotClean, sb_BadRow_NotPlain, sb_BadRow_NotRoomy, sb_BadRow_NothingDone, sb_BadRow_ShortWater, sb_BadRow_TextError, sb_BadRow_TooMany, sb_BadRow_ValueError, xf_BadRow_name, xf_BadRow_place, fl_TooMany, ct_TooMany_CanalError, sb_TooMany_BadCalendar, sb_TooMany_BadCanal, sb_TooMany_BadDeed, sb_TooMany_BadLevels, sb_TooMany_BadRow, sb_TooMany_BadWork, sb_TooMany_NoWork, sb_TooMany_NotClean, sb_TooMany_NotPlain, sb_TooMany_NotRoomy, sb_TooMany_NothingDone, sb_TooMany_ShortWater, sb_TooMany_TextError, sb_TooMany_TooMany, sb_TooMany_ValueError, xf_TooMany_limit, hd]

end K13

end

section
set_option maxRecDepth 100000
set_option linter.all false
namespace K13
open PySem VS
variable {W n : Nat}
def spre : Nat → Ss → Ss → Ss
  | 0, _, t => t
  | k + 1, .cons s ss, t => .cons s (spre k ss t)
  | _ + 1, .nil, _ => .nil
def sdrop : Nat → Ss → Ss
  | 0, b => b
  | k + 1, .cons _ ss => sdrop k ss
  | _ + 1, .nil => .nil
theorem spre_eq : ∀ (k : Nat) (b : Ss), spre k b (sdrop k b) = b
  | 0, _ => rfl
  | k + 1, .cons s ss => by rw [sdrop, spre, spre_eq k ss]
  | _ + 1, .nil => rfl

end K13

end

section
set_option maxRecDepth 100000
set_option linter.all false
namespace K13
open PySem VS
variable {W n : Nat}
def suf : Ss := sdrop 5 b_law
theorem law_cut : b_law = spre 5 b_law suf := (spre_eq 5 b_law).symm
theorem lit_duu : ("duu" : Str) = tx [100, 117, 117] := rfl
def M300 : List Nat := (Txt.mul (tx [100, 117, 117]) 100).cps.toList
theorem M300_len : M300.length = 300 := by decide +kernel
theorem mulD : bop .mul (.str (tx [100, 117, 117])) (.int 100) = some (.str (tx M300)) := rfl
theorem eqM : eqD (.tup [.str "many", .int 200, .bl false]) (.tup [.str "many", .int 200, .bl false]) = some true := by decide +kernel
theorem eqF : eqD (.tup [.str "bad", .str "full", .non, .bl false]) (.tup [.str "bad", .str "full", .non, .bl false]) = some true := by decide +kernel
theorem eqR (p : Int) : eqD (.tup [.str "bad", .str "row", .int p, .bl false]) (.tup [.str "bad", .str "row", .int p, .bl false]) = some true := by
  have s1 : PyData.strOk ("bad" : Str) = true := by decide +kernel
  have s2 : PyData.strOk ("row" : Str) = true := by decide +kernel
  have hs : SeqAt.shaped (D.tup [.str "bad", .str "row", .int p, .bl false]).py = true := by
    show (PyData.canLay0 (.tuple [.str "bad", .str "row", .int p, .bool false]) && decide (PyData.depth (.tuple [.str "bad", .str "row", .int p, .bool false]) ≤ 64)) = true
    simp only [PyData.canLay0, PyData.canLayAll0, s1, s2, Bool.and_true, PyData.depth, PyData.depthAll]
    rfl
  unfold eqD
  rw [hs]
  simp only [Bool.and_true, if_true]
  rw [SeqAt.eqv_refl _ (SeqAt.canLay_of_shaped hs)]
theorem one_turn (sc : D) (bx : D) (k z : D) (l : List Bool) (b : Bool) (y : Option D) (hl : l.length ≤ 200) : bodyF (cx prog W (n + 9)) [0] b_law_1 [some sc, some bx, some k, some z, some (.str (rw_ l)), some (.bl b), none, none, none, none, none, none] = .nx [some sc, some bx, some k, some z, some (.str (rw_ l)), some (.bl b), none, none, none, none, none, none] := by
  have a1 := i_fills_ok (W := W) (n := n + 7) b l hl
  have a2 := i_law_due (W := W) (n := n + 8) b l hl
  have a3 := i_law_same (W := W) (n := n + 8) b l
  have hs : (trD b l).shr = true := rfl
  rw [bodyF_eq]
  simp only [bind_ok, of_some, toS_ok, fin_esc, fin_rd, fin_kd, fin_ts, e_non, e_bl, e_int, e_str, e_var, lft_t, lft_f, frzR_ok, e_bin, binK_eq, binK2_eq, e_neg, e_cmp, cmpK_eq, cmpK2_eq, e_cmp2, c2K_eq, c2K2_eq, c2K3_eq, e_isN, isNK_eq, e_andT, e_andV, e_orT, e_orV, e_notT, e_notV, andT_eq, andV_eq, orT_eq, orV_eq, notT_eq, notV_eq, e_ite, iteK_eq, e_tup, e_lst, tupK_eq, lstK_eq, e_sub, subK_eq, subK2_eq, subJ_eq, subJ2_eq, e_slice, slK_eq, slK2_eq, slK3_eq, slP_none, slP_some, e_call, e_prim, primK_eq, e_meth, methK_eq, methK2_eq, mtOk, a_meth, cop_in, cop_notin, es_nil, es_cons, evsK_eq, consK_eq, kd_nil, kd_cons, kdsK_eq, a_nil, a_var, argG_some, argK_eq, consA_eq, a_int, a_str, a_bl, a_non, a_bin, a_neg, a_cmp, a_ite, a_tup, a_lst, a_sub, a_slice, a_call, a_prim, a_comp, i_rng, i_over, i_enum, i_rev, i_zip, rngK_eq, overK_eq, enumK_eq, revK_eq, zipK_eq, zipK2_eq, e_comp, compK_eq, cmpE_eq, noX_ok, x_nil, x_cons, seqK_nx, seqK_rt, seqK_bk, seqK_ct, x_asg, asgK_eq, x_unp, x_setI, setK_eq, setK2_eq, x_app, x_expr, exprK_eq, x_retv, retK_eq, x_ret, x_if, ifK_eq, bodyF_eq, x_for, forK_eq, tsF_eq, x_while, x_brk, x_cont, x_pass, vGet_rd, vGet_esc, vGet_kd, vGet_ts, onPart_esc, onPart_rd, onPart_kd, onPart_ts, shr_int, shr_bl, shr_non, shr_str, shr_lst, shr_tup, shrs_nil, shrs_cons, shrK_int, shrK_bl, shrK_non, shrK_str, shrK_lst, shrK_tup, frzK_int, frzK_bl, frzK_non, frzK_str, frzK_lst, frzK_tup, frz_lst, frz_tup, frz_int, frz_bl, frz_non, frz_str, frzs_nil, frzs_cons, truth_bl, truth_int, truth_lst, truth_tup, truth_non, map_some, b_add, b_sub, b_mul, b_mod, b_lst, b_tup, c_lt, c_le, c_gt, c_ge, c_eq, c_ne, eqD_int, p_len_l, p_len_t, p_int, p_min2, p_max2, p_sum_l, p_sum_t, p_tup_l, p_tup_t, p_lst_l, p_lst_t, p_isT, s_lst, s_tup, onOB_some, vNeg_int, vInt_ok, setTg_v, isNon_int, isNon_non, shrs_iL, frzs_iL, ints_iL, E.place, E.root, E.cf, Es.cf, List.getElem?_cons_zero, List.getElem?_cons_succ, List.set_cons_zero, List.set_cons_succ, List.headD_cons, List.tail_cons, Bool.true_and, Bool.and_true, Bool.true_or, Bool.or_true, Bool.false_and, Bool.and_false, Bool.false_or, Bool.or_false, ite_true, ite_false, if_true, if_false, Bool.false_eq_true, List.length_cons, List.length_nil, List.contains_eq_mem, List.mem_cons, List.not_mem_nil, decide_eq_true_eq, or_false, false_or, or_true, true_or, and_true, true_and, and_self, not_false_eq_true, not_true_eq_false, fF_rt, fF_nx, pars_t, pars_f, pars_0, Nat.reduceEqDiff, callA, slotsOf, treesOf, VS.backTo, List.nodup_cons, List.nodup_nil, cx_call, rGet_some, hasD_eq, hasO_some, isLstD_eq, isLO_some, setS_eq, setO_some, appS_eq, appO_some, unpS_tup, unpS_lst, srcVar_eq, sGet_some, srcOf_var, srcOf_call, srcOf_sub, srcOf_lst, srcOf_slice, srcOf_prim, vSrc_t, vSrc_f, itsOf_some, items_lst, items_tup, enumD_lst, enumD_tup, rangeD_1, rangeD_2, senv_nx, senv_rt, putLk_nil, putLk_cons, free, List.all_cons, List.all_nil, Tg.slots, List.zip_cons_cons, List.zip_nil_right, List.foldl_cons, List.foldl_nil, List.map_nil, List.map_cons, List.append_nil, List.nil_append, List.cons_append, isTys, isTy, Bool.not_true, Bool.not_false, Bool.not_eq_true, decide_true, decide_false, List.length_map, ne_eq, reduceCtorEq, Nat.reduceBEq, Nat.reduceAdd, Nat.zero_add, Nat.reduceLeDiff, Nat.reduceLT, Int.reduceLT, Int.reduceLE, Int.reduceNeg, le_sz, lt_sz, forall_const, implies_true, bind_exc, toS_exc, fin_exc, seqK_exc, senv_exc, fF_exc, e_exIs, e_exFld, exIs_eq, x_raise, raiseK_eq, clr_eq, suiF_eq, x_try, tryK_nx, tryK_rt, tryK_bk, tryK_ct, tryK_exc, catK_t, catK_f, noX_nx, noX_rt, noX_bk, noX_ct, zip_c, zip_n, x_ins, insK_eq, insK2_eq, insS_eq, insO_some, x_setSl, slsK_eq, slsK2_eq, slsK3_eq, setSlS_eq, setSlO_some, c_is, c_isnt, List.any_cons, List.any_nil, k_check_flag, k_run_row, k_fills, k_law_box, k_law_take, k_law_row, k_law_wrong_sign, k_law_due, k_law_same, k_law_refusal, k_law, b_law_1, a1, a2, a3, hs]
theorem both_turns (sc : D) (bx : D) (k z : D) (l : List Bool) (hl : l.length ≤ 200) : forL (.v 5) (bodyF (cx prog W (n + 9)) [0] b_law_1) [.bl false, .bl true] [some sc, some bx, some k, some z, some (.str (rw_ l)), none, none, none, none, none, none, none] = .nx [some sc, some bx, some k, some z, some (.str (rw_ l)), some (.bl true), none, none, none, none, none, none] := by
  refine (fl_go rfl (one_turn (W := W) (n := n) sc bx k z l false none hl)).trans ?_
  exact (fl_go rfl (one_turn (W := W) (n := n) sc bx k z l true none hl)).trans rfl
theorem suf_ok (sc : D) (hsc : sc.shr = true) (a b : Int) (a0 : 0 ≤ a) (b0 : 0 ≤ b) (b1 : b < 2147483647) (k : D) (size : Nat) (hz : size ≤ 200) : ∃ rs, finF 1 [true] (exs (cx prog W (n + 9)) [0] suf [some sc, some (boxD a b), some k, some (.int size), none, none, none, none, none, none, none, none]) = .ok (.bl true) rs := by
  obtain ⟨a, b, l, a0, b0, b1, hl, e1⟩ := i_law_row (W := W) (n := n + 7) a b size a0 b0 b1 hz
  have h1 := both_turns (W := W) (n := n) sc (boxD a b) k (.int size) l (by omega)
  obtain ⟨a, b, f, a0, b0, b1, f0, f1, e2⟩ := i_law_take (W := W) (n := n + 8) a b 2 a0 b0 b1 (by decide) (by decide)
  obtain ⟨B, hB⟩ : ∃ B : Bool, decide (f = 1) = B := ⟨_, rfl⟩
  obtain ⟨a, b, p, a0, b0, b1, p0, p1, e3⟩ := i_law_take (W := W) (n := n + 8) a b ((size : Int) + 1) a0 b0 b1 (by omega) (by omega)
  obtain ⟨p, rfl⟩ : ∃ q : Nat, p = q := ⟨p.toNat, by omega⟩
  obtain ⟨a, b, c, a0, b0, b1, c1, c2, c3, e4⟩ := i_wrong (W := W) (n := n + 7) a b a0 b0 b1
  obtain ⟨a, b, x, a0, b0, b1, x0, x1, e5⟩ := i_law_take (W := W) (n := n + 8) a b 2 a0 b0 b1 (by decide) (by decide)
  obtain ⟨ex, hex, hx⟩ : ∃ ex : List Nat, ex.length ≤ 1 ∧ L2.atI [D.str (tx []), .str (tx [120])] x = some (.str (tx ex)) := by
    rcases (show x = 0 ∨ x = 1 by omega) with rfl | rfl
    · exact ⟨[], by decide, rfl⟩
    · exact ⟨[120], by decide, rfl⟩
  have hpl : (l.take p).length = p := by simp; omega
  obtain ⟨S, hS⟩ : ∃ S, (l.take p).map cd ++ c :: ((l.drop p).map cd ++ ex) = S := ⟨_, rfl⟩
  have hSl : S.length = size + 1 + ex.length := by rw [← hS]; simp; omega
  have g1 : sliceD (.str (rw_ l)) none (some (p : Int)) = some (.str (tx ((l.take p).map cd))) := by
    unfold rw_
    rw [tx_to (by omega) (by simp; omega), Int.toNat_natCast, List.map_take]
  have g2 : sliceD (.str (rw_ l)) (some (p : Int)) none = some (.str (tx ((l.drop p).map cd))) := by
    unfold rw_
    rw [tx_from (by omega) (by simp; omega), Int.toNat_natCast, List.map_drop]
  have g3 : bop .add (.str (tx ((l.take p).map cd))) (.str (tx [c])) = some (.str (tx ((l.take p).map cd ++ [c]))) := tx_cat (by simp; omega)
  have g4 : bop .add (.str (tx ((l.take p).map cd ++ [c]))) (.str (tx ((l.drop p).map cd))) = some (.str (tx ((l.take p).map cd ++ [c] ++ (l.drop p).map cd))) := tx_cat (by simp; omega)
  have g5 : bop .add (.str (tx ((l.take p).map cd ++ [c] ++ (l.drop p).map cd))) (.str (tx ex)) = some (.str (tx S)) := by
    rw [tx_cat (by simp; omega), ← hS]
    congr 3
    simp
  have g6 := tx_plen (a := S) (by omega)
  obtain ⟨a, b, t, a0, b0, b1, t0, t1, e6⟩ := i_law_take (W := W) (n := n + 8) a b 60 a0 b0 b1 (by decide) (by decide)
  obtain ⟨L, hL⟩ : ∃ L, (l.map cd ++ M300).take ((201 : Int) + t).toNat = L := ⟨_, rfl⟩
  have hm := M300_len
  have hLl : L.length = ((201 : Int) + t).toNat := by rw [← hL]; simp; omega
  have g7 : bop .add (.str (rw_ l)) (.str (tx M300)) = some (.str (tx (l.map cd ++ M300))) := tx_cat (by simp; omega)
  have g8 : sliceD (.str (tx (l.map cd ++ M300))) none (some (201 + t)) = some (.str (tx L)) := by rw [tx_to (by omega) (by simp; omega), hL]
  obtain ⟨a, b, d, a0, b0, b1, d1, d2, d3, e7⟩ := i_wrong (W := W) (n := n + 7) a b a0 b0 b1
  obtain ⟨K, hK⟩ : ∃ K, L.take p ++ [d] ++ L.drop p = K := ⟨_, rfl⟩
  have hKl : K.length = ((201 : Int) + t).toNat + 1 := by rw [← hK]; simp; omega
  have g9 : sliceD (.str (tx L)) none (some (p : Int)) = some (.str (tx (L.take p))) := by rw [tx_to (by omega) (by omega), Int.toNat_natCast]
  have g10 : sliceD (.str (tx L)) (some (p : Int)) none = some (.str (tx (L.drop p))) := by rw [tx_from (by omega) (by omega), Int.toNat_natCast]
  have g11 : bop .add (.str (tx (L.take p))) (.str (tx [d])) = some (.str (tx (L.take p ++ [d]))) := tx_cat (by simp; omega)
  have g12 : bop .add (.str (tx (L.take p ++ [d]))) (.str (tx (L.drop p))) = some (.str (tx K)) := by
    rw [tx_cat (by simp; omega), hK]
  have q2 := rf_many (W := W) (n := n + 6) B L (by omega) (by omega)
  have q3 := rf_many (W := W) (n := n + 6) B K (by omega) (by omega)
  obtain ⟨a, b, j, a0, b0, b1, j0, j1, e8⟩ := i_law_take (W := W) (n := n + 8) a b 8 a0 b0 b1 (by decide) (by decide)
  obtain ⟨v, hv, v1, v2, v3⟩ : ∃ v, L2.atI [D.int 0, .int 1, .non, .str (tx []), .str (tx [117]), .str "True", .int (-1), .lst false [.bl true]] j = some v ∧ isB v.frz = false ∧ v.frz.shr = true ∧ (v = v.frz ∧ v.shr = true ∨ v.shr = false) := by
    rcases (show j = 0 ∨ j = 1 ∨ j = 2 ∨ j = 3 ∨ j = 4 ∨ j = 5 ∨ j = 6 ∨ j = 7 by omega) with rfl | rfl | rfl | rfl | rfl | rfl | rfl | rfl
    all_goals first | exact ⟨_, rfl, by decide +kernel, rfl, .inl ⟨rfl, rfl⟩⟩ | exact ⟨_, rfl, by decide +kernel, rfl, .inr rfl⟩
  obtain ⟨a, b, i, a0, b0, b1, i0, i1, e9⟩ := i_law_take (W := W) (n := n + 8) a b 3 a0 b0 b1 (by decide) (by decide)
  obtain ⟨X, hX⟩ : ∃ X, L2.atI [D.str (rw_ l), .str (tx S), .str (tx K)] i = some (.str X) := by
    rcases (show i = 0 ∨ i = 1 ∨ i = 2 by omega) with rfl | rfl | rfl <;> exact ⟨_, rfl⟩
  have q4 := rf_flag (W := W) (n := n + 6) v.frz X v2 v1
  have a1 := i_fills_ok (W := W) (n := n + 7) B l (by omega)
  have a2 := i_law_due (W := W) (n := n + 8) B l (by omega)
  have a3 := i_law_same (W := W) (n := n + 8) B l
  have hs : (trD B l).shr = true := rfl
  have hq1 : callN prog W (n + 9) 9 [.bl B, .str (tx S)] = .ok (if 200 < (S.length : Int) then .tup [.str "many", .int 200, .bl false] else .tup [.str "bad", .str "row", .int p, .bl false]) [.non, .non] := by
    by_cases h : 200 < (S.length : Int)
    · rw [if_pos h]
      exact rf_many (W := W) (n := n + 6) B S (by omega) (by omega)
    · rw [if_neg h]
      have := rf_bad (W := W) (n := n + 6) B (l.take p) c ((l.drop p).map cd ++ ex) c1 c2 c3 (by simp; omega)
      rw [hS, hpl] at this
      exact this
  have e10 := eqR p
  obtain ⟨N, hN⟩ : ∃ N : Int, (S.length : Int) = N := ⟨_, rfl⟩
  rw [hN] at g6 hq1
  have A : suf = sdrop 5 b_law := rfl
  rw [A]
  by_cases cN : 200 < N
  · rw [if_pos cN] at hq1
    rcases v3 with ⟨v3, v4⟩ | v4
    · rw [← v3] at q4
      simp only [bind_ok, of_some, toS_ok, fin_esc, fin_rd, fin_kd, fin_ts, e_non, e_bl, e_int, e_str, e_var, lft_t, lft_f, frzR_ok, e_bin, binK_eq, binK2_eq, e_neg, e_cmp, cmpK_eq, cmpK2_eq, e_cmp2, c2K_eq, c2K2_eq, c2K3_eq, e_isN, isNK_eq, e_andT, e_andV, e_orT, e_orV, e_notT, e_notV, andT_eq, andV_eq, orT_eq, orV_eq, notT_eq, notV_eq, e_ite, iteK_eq, e_tup, e_lst, tupK_eq, lstK_eq, e_sub, subK_eq, subK2_eq, subJ_eq, subJ2_eq, e_slice, slK_eq, slK2_eq, slK3_eq, slP_none, slP_some, e_call, e_prim, primK_eq, e_meth, methK_eq, methK2_eq, mtOk, a_meth, cop_in, cop_notin, es_nil, es_cons, evsK_eq, consK_eq, kd_nil, kd_cons, kdsK_eq, a_nil, a_var, argG_some, argK_eq, consA_eq, a_int, a_str, a_bl, a_non, a_bin, a_neg, a_cmp, a_ite, a_tup, a_lst, a_sub, a_slice, a_call, a_prim, a_comp, i_rng, i_over, i_enum, i_rev, i_zip, rngK_eq, overK_eq, enumK_eq, revK_eq, zipK_eq, zipK2_eq, e_comp, compK_eq, cmpE_eq, noX_ok, x_nil, x_cons, seqK_nx, seqK_rt, seqK_bk, seqK_ct, x_asg, asgK_eq, x_unp, x_setI, setK_eq, setK2_eq, x_app, x_expr, exprK_eq, x_retv, retK_eq, x_ret, x_if, ifK_eq, bodyF_eq, x_for, forK_eq, tsF_eq, x_while, x_brk, x_cont, x_pass, vGet_rd, vGet_esc, vGet_kd, vGet_ts, onPart_esc, onPart_rd, onPart_kd, onPart_ts, shr_int, shr_bl, shr_non, shr_str, shr_lst, shr_tup, shrs_nil, shrs_cons, shrK_int, shrK_bl, shrK_non, shrK_str, shrK_lst, shrK_tup, frzK_int, frzK_bl, frzK_non, frzK_str, frzK_lst, frzK_tup, frz_lst, frz_tup, frz_int, frz_bl, frz_non, frz_str, frzs_nil, frzs_cons, truth_bl, truth_int, truth_lst, truth_tup, truth_non, map_some, b_add, b_sub, b_mul, b_mod, b_lst, b_tup, c_lt, c_le, c_gt, c_ge, c_eq, c_ne, eqD_int, p_len_l, p_len_t, p_int, p_min2, p_max2, p_sum_l, p_sum_t, p_tup_l, p_tup_t, p_lst_l, p_lst_t, p_isT, s_lst, s_tup, onOB_some, vNeg_int, vInt_ok, setTg_v, isNon_int, isNon_non, shrs_iL, frzs_iL, ints_iL, E.place, E.root, E.cf, Es.cf, List.getElem?_cons_zero, List.getElem?_cons_succ, List.set_cons_zero, List.set_cons_succ, List.headD_cons, List.tail_cons, Bool.true_and, Bool.and_true, Bool.true_or, Bool.or_true, Bool.false_and, Bool.and_false, Bool.false_or, Bool.or_false, ite_true, ite_false, if_true, if_false, Bool.false_eq_true, List.length_cons, List.length_nil, List.contains_eq_mem, List.mem_cons, List.not_mem_nil, decide_eq_true_eq, or_false, false_or, or_true, true_or, and_true, true_and, and_self, not_false_eq_true, not_true_eq_false, fF_rt, fF_nx, pars_t, pars_f, pars_0, Nat.reduceEqDiff, callA, slotsOf, treesOf, VS.backTo, List.nodup_cons, List.nodup_nil, cx_call, rGet_some, hasD_eq, hasO_some, isLstD_eq, isLO_some, setS_eq, setO_some, appS_eq, appO_some, unpS_tup, unpS_lst, srcVar_eq, sGet_some, srcOf_var, srcOf_call, srcOf_sub, srcOf_lst, srcOf_slice, srcOf_prim, vSrc_t, vSrc_f, itsOf_some, items_lst, items_tup, enumD_lst, enumD_tup, rangeD_1, rangeD_2, senv_nx, senv_rt, putLk_nil, putLk_cons, free, List.all_cons, List.all_nil, Tg.slots, List.zip_cons_cons, List.zip_nil_right, List.foldl_cons, List.foldl_nil, List.map_nil, List.map_cons, List.append_nil, List.nil_append, List.cons_append, isTys, isTy, Bool.not_true, Bool.not_false, Bool.not_eq_true, decide_true, decide_false, List.length_map, ne_eq, reduceCtorEq, Nat.reduceBEq, Nat.reduceAdd, Nat.zero_add, Nat.reduceLeDiff, Nat.reduceLT, Int.reduceLT, Int.reduceLE, Int.reduceNeg, le_sz, lt_sz, forall_const, implies_true, bind_exc, toS_exc, fin_exc, seqK_exc, senv_exc, fF_exc, e_exIs, e_exFld, exIs_eq, x_raise, raiseK_eq, clr_eq, suiF_eq, x_try, tryK_nx, tryK_rt, tryK_bk, tryK_ct, tryK_exc, catK_t, catK_f, noX_nx, noX_rt, noX_bk, noX_ct, zip_c, zip_n, x_ins, insK_eq, insK2_eq, insS_eq, insO_some, x_setSl, slsK_eq, slsK2_eq, slsK3_eq, setSlS_eq, setSlO_some, c_is, c_isnt, List.any_cons, List.any_nil, k_check_flag, k_run_row, k_fills, k_law_box, k_law_take, k_law_row, k_law_wrong_sign, k_law_due, k_law_same, k_law_refusal, k_law, b_law, sdrop, hsc, boxSh, lit_0, lit_x, lit_u, lit_duu, e1, h1, e2, hB, e3, g1, e4, g3, g2, g4, e5, hx, g5, g6, cN, hq1, eqM, mulD, g7, e6, g8, g9, e7, g11, g10, g12, q2, q3, e8, hv, v4, e9, hX, q4, eqF, a1, a2, a3, hs]
      exact ⟨_, rfl⟩
    · simp only [bind_ok, of_some, toS_ok, fin_esc, fin_rd, fin_kd, fin_ts, e_non, e_bl, e_int, e_str, e_var, lft_t, lft_f, frzR_ok, e_bin, binK_eq, binK2_eq, e_neg, e_cmp, cmpK_eq, cmpK2_eq, e_cmp2, c2K_eq, c2K2_eq, c2K3_eq, e_isN, isNK_eq, e_andT, e_andV, e_orT, e_orV, e_notT, e_notV, andT_eq, andV_eq, orT_eq, orV_eq, notT_eq, notV_eq, e_ite, iteK_eq, e_tup, e_lst, tupK_eq, lstK_eq, e_sub, subK_eq, subK2_eq, subJ_eq, subJ2_eq, e_slice, slK_eq, slK2_eq, slK3_eq, slP_none, slP_some, e_call, e_prim, primK_eq, e_meth, methK_eq, methK2_eq, mtOk, a_meth, cop_in, cop_notin, es_nil, es_cons, evsK_eq, consK_eq, kd_nil, kd_cons, kdsK_eq, a_nil, a_var, argG_some, argK_eq, consA_eq, a_int, a_str, a_bl, a_non, a_bin, a_neg, a_cmp, a_ite, a_tup, a_lst, a_sub, a_slice, a_call, a_prim, a_comp, i_rng, i_over, i_enum, i_rev, i_zip, rngK_eq, overK_eq, enumK_eq, revK_eq, zipK_eq, zipK2_eq, e_comp, compK_eq, cmpE_eq, noX_ok, x_nil, x_cons, seqK_nx, seqK_rt, seqK_bk, seqK_ct, x_asg, asgK_eq, x_unp, x_setI, setK_eq, setK2_eq, x_app, x_expr, exprK_eq, x_retv, retK_eq, x_ret, x_if, ifK_eq, bodyF_eq, x_for, forK_eq, tsF_eq, x_while, x_brk, x_cont, x_pass, vGet_rd, vGet_esc, vGet_kd, vGet_ts, onPart_esc, onPart_rd, onPart_kd, onPart_ts, shr_int, shr_bl, shr_non, shr_str, shr_lst, shr_tup, shrs_nil, shrs_cons, shrK_int, shrK_bl, shrK_non, shrK_str, shrK_lst, shrK_tup, frzK_int, frzK_bl, frzK_non, frzK_str, frzK_lst, frzK_tup, frz_lst, frz_tup, frz_int, frz_bl, frz_non, frz_str, frzs_nil, frzs_cons, truth_bl, truth_int, truth_lst, truth_tup, truth_non, map_some, b_add, b_sub, b_mul, b_mod, b_lst, b_tup, c_lt, c_le, c_gt, c_ge, c_eq, c_ne, eqD_int, p_len_l, p_len_t, p_int, p_min2, p_max2, p_sum_l, p_sum_t, p_tup_l, p_tup_t, p_lst_l, p_lst_t, p_isT, s_lst, s_tup, onOB_some, vNeg_int, vInt_ok, setTg_v, isNon_int, isNon_non, shrs_iL, frzs_iL, ints_iL, E.place, E.root, E.cf, Es.cf, List.getElem?_cons_zero, List.getElem?_cons_succ, List.set_cons_zero, List.set_cons_succ, List.headD_cons, List.tail_cons, Bool.true_and, Bool.and_true, Bool.true_or, Bool.or_true, Bool.false_and, Bool.and_false, Bool.false_or, Bool.or_false, ite_true, ite_false, if_true, if_false, Bool.false_eq_true, List.length_cons, List.length_nil, List.contains_eq_mem, List.mem_cons, List.not_mem_nil, decide_eq_true_eq, or_false, false_or, or_true, true_or, and_true, true_and, and_self, not_false_eq_true, not_true_eq_false, fF_rt, fF_nx, pars_t, pars_f, pars_0, Nat.reduceEqDiff, callA, slotsOf, treesOf, VS.backTo, List.nodup_cons, List.nodup_nil, cx_call, rGet_some, hasD_eq, hasO_some, isLstD_eq, isLO_some, setS_eq, setO_some, appS_eq, appO_some, unpS_tup, unpS_lst, srcVar_eq, sGet_some, srcOf_var, srcOf_call, srcOf_sub, srcOf_lst, srcOf_slice, srcOf_prim, vSrc_t, vSrc_f, itsOf_some, items_lst, items_tup, enumD_lst, enumD_tup, rangeD_1, rangeD_2, senv_nx, senv_rt, putLk_nil, putLk_cons, free, List.all_cons, List.all_nil, Tg.slots, List.zip_cons_cons, List.zip_nil_right, List.foldl_cons, List.foldl_nil, List.map_nil, List.map_cons, List.append_nil, List.nil_append, List.cons_append, isTys, isTy, Bool.not_true, Bool.not_false, Bool.not_eq_true, decide_true, decide_false, List.length_map, ne_eq, reduceCtorEq, Nat.reduceBEq, Nat.reduceAdd, Nat.zero_add, Nat.reduceLeDiff, Nat.reduceLT, Int.reduceLT, Int.reduceLE, Int.reduceNeg, le_sz, lt_sz, forall_const, implies_true, bind_exc, toS_exc, fin_exc, seqK_exc, senv_exc, fF_exc, e_exIs, e_exFld, exIs_eq, x_raise, raiseK_eq, clr_eq, suiF_eq, x_try, tryK_nx, tryK_rt, tryK_bk, tryK_ct, tryK_exc, catK_t, catK_f, noX_nx, noX_rt, noX_bk, noX_ct, zip_c, zip_n, x_ins, insK_eq, insK2_eq, insS_eq, insO_some, x_setSl, slsK_eq, slsK2_eq, slsK3_eq, setSlS_eq, setSlO_some, c_is, c_isnt, List.any_cons, List.any_nil, k_check_flag, k_run_row, k_fills, k_law_box, k_law_take, k_law_row, k_law_wrong_sign, k_law_due, k_law_same, k_law_refusal, k_law, b_law, sdrop, hsc, boxSh, lit_0, lit_x, lit_u, lit_duu, e1, h1, e2, hB, e3, g1, e4, g3, g2, g4, e5, hx, g5, g6, cN, hq1, eqM, mulD, g7, e6, g8, g9, e7, g11, g10, g12, q2, q3, e8, hv, v4, e9, hX, q4, eqF, a1, a2, a3, hs]
      exact ⟨_, rfl⟩
  · rw [if_neg cN] at hq1
    rcases v3 with ⟨v3, v4⟩ | v4
    · rw [← v3] at q4
      simp only [bind_ok, of_some, toS_ok, fin_esc, fin_rd, fin_kd, fin_ts, e_non, e_bl, e_int, e_str, e_var, lft_t, lft_f, frzR_ok, e_bin, binK_eq, binK2_eq, e_neg, e_cmp, cmpK_eq, cmpK2_eq, e_cmp2, c2K_eq, c2K2_eq, c2K3_eq, e_isN, isNK_eq, e_andT, e_andV, e_orT, e_orV, e_notT, e_notV, andT_eq, andV_eq, orT_eq, orV_eq, notT_eq, notV_eq, e_ite, iteK_eq, e_tup, e_lst, tupK_eq, lstK_eq, e_sub, subK_eq, subK2_eq, subJ_eq, subJ2_eq, e_slice, slK_eq, slK2_eq, slK3_eq, slP_none, slP_some, e_call, e_prim, primK_eq, e_meth, methK_eq, methK2_eq, mtOk, a_meth, cop_in, cop_notin, es_nil, es_cons, evsK_eq, consK_eq, kd_nil, kd_cons, kdsK_eq, a_nil, a_var, argG_some, argK_eq, consA_eq, a_int, a_str, a_bl, a_non, a_bin, a_neg, a_cmp, a_ite, a_tup, a_lst, a_sub, a_slice, a_call, a_prim, a_comp, i_rng, i_over, i_enum, i_rev, i_zip, rngK_eq, overK_eq, enumK_eq, revK_eq, zipK_eq, zipK2_eq, e_comp, compK_eq, cmpE_eq, noX_ok, x_nil, x_cons, seqK_nx, seqK_rt, seqK_bk, seqK_ct, x_asg, asgK_eq, x_unp, x_setI, setK_eq, setK2_eq, x_app, x_expr, exprK_eq, x_retv, retK_eq, x_ret, x_if, ifK_eq, bodyF_eq, x_for, forK_eq, tsF_eq, x_while, x_brk, x_cont, x_pass, vGet_rd, vGet_esc, vGet_kd, vGet_ts, onPart_esc, onPart_rd, onPart_kd, onPart_ts, shr_int, shr_bl, shr_non, shr_str, shr_lst, shr_tup, shrs_nil, shrs_cons, shrK_int, shrK_bl, shrK_non, shrK_str, shrK_lst, shrK_tup, frzK_int, frzK_bl, frzK_non, frzK_str, frzK_lst, frzK_tup, frz_lst, frz_tup, frz_int, frz_bl, frz_non, frz_str, frzs_nil, frzs_cons, truth_bl, truth_int, truth_lst, truth_tup, truth_non, map_some, b_add, b_sub, b_mul, b_mod, b_lst, b_tup, c_lt, c_le, c_gt, c_ge, c_eq, c_ne, eqD_int, p_len_l, p_len_t, p_int, p_min2, p_max2, p_sum_l, p_sum_t, p_tup_l, p_tup_t, p_lst_l, p_lst_t, p_isT, s_lst, s_tup, onOB_some, vNeg_int, vInt_ok, setTg_v, isNon_int, isNon_non, shrs_iL, frzs_iL, ints_iL, E.place, E.root, E.cf, Es.cf, List.getElem?_cons_zero, List.getElem?_cons_succ, List.set_cons_zero, List.set_cons_succ, List.headD_cons, List.tail_cons, Bool.true_and, Bool.and_true, Bool.true_or, Bool.or_true, Bool.false_and, Bool.and_false, Bool.false_or, Bool.or_false, ite_true, ite_false, if_true, if_false, Bool.false_eq_true, List.length_cons, List.length_nil, List.contains_eq_mem, List.mem_cons, List.not_mem_nil, decide_eq_true_eq, or_false, false_or, or_true, true_or, and_true, true_and, and_self, not_false_eq_true, not_true_eq_false, fF_rt, fF_nx, pars_t, pars_f, pars_0, Nat.reduceEqDiff, callA, slotsOf, treesOf, VS.backTo, List.nodup_cons, List.nodup_nil, cx_call, rGet_some, hasD_eq, hasO_some, isLstD_eq, isLO_some, setS_eq, setO_some, appS_eq, appO_some, unpS_tup, unpS_lst, srcVar_eq, sGet_some, srcOf_var, srcOf_call, srcOf_sub, srcOf_lst, srcOf_slice, srcOf_prim, vSrc_t, vSrc_f, itsOf_some, items_lst, items_tup, enumD_lst, enumD_tup, rangeD_1, rangeD_2, senv_nx, senv_rt, putLk_nil, putLk_cons, free, List.all_cons, List.all_nil, Tg.slots, List.zip_cons_cons, List.zip_nil_right, List.foldl_cons, List.foldl_nil, List.map_nil, List.map_cons, List.append_nil, List.nil_append, List.cons_append, isTys, isTy, Bool.not_true, Bool.not_false, Bool.not_eq_true, decide_true, decide_false, List.length_map, ne_eq, reduceCtorEq, Nat.reduceBEq, Nat.reduceAdd, Nat.zero_add, Nat.reduceLeDiff, Nat.reduceLT, Int.reduceLT, Int.reduceLE, Int.reduceNeg, le_sz, lt_sz, forall_const, implies_true, bind_exc, toS_exc, fin_exc, seqK_exc, senv_exc, fF_exc, e_exIs, e_exFld, exIs_eq, x_raise, raiseK_eq, clr_eq, suiF_eq, x_try, tryK_nx, tryK_rt, tryK_bk, tryK_ct, tryK_exc, catK_t, catK_f, noX_nx, noX_rt, noX_bk, noX_ct, zip_c, zip_n, x_ins, insK_eq, insK2_eq, insS_eq, insO_some, x_setSl, slsK_eq, slsK2_eq, slsK3_eq, setSlS_eq, setSlO_some, c_is, c_isnt, List.any_cons, List.any_nil, k_check_flag, k_run_row, k_fills, k_law_box, k_law_take, k_law_row, k_law_wrong_sign, k_law_due, k_law_same, k_law_refusal, k_law, b_law, sdrop, hsc, boxSh, lit_0, lit_x, lit_u, lit_duu, e1, h1, e2, hB, e3, g1, e4, g3, g2, g4, e5, hx, g5, g6, cN, hq1, e10, eqM, mulD, g7, e6, g8, g9, e7, g11, g10, g12, q2, q3, e8, hv, v4, e9, hX, q4, eqF, a1, a2, a3, hs]
      exact ⟨_, rfl⟩
    · simp only [bind_ok, of_some, toS_ok, fin_esc, fin_rd, fin_kd, fin_ts, e_non, e_bl, e_int, e_str, e_var, lft_t, lft_f, frzR_ok, e_bin, binK_eq, binK2_eq, e_neg, e_cmp, cmpK_eq, cmpK2_eq, e_cmp2, c2K_eq, c2K2_eq, c2K3_eq, e_isN, isNK_eq, e_andT, e_andV, e_orT, e_orV, e_notT, e_notV, andT_eq, andV_eq, orT_eq, orV_eq, notT_eq, notV_eq, e_ite, iteK_eq, e_tup, e_lst, tupK_eq, lstK_eq, e_sub, subK_eq, subK2_eq, subJ_eq, subJ2_eq, e_slice, slK_eq, slK2_eq, slK3_eq, slP_none, slP_some, e_call, e_prim, primK_eq, e_meth, methK_eq, methK2_eq, mtOk, a_meth, cop_in, cop_notin, es_nil, es_cons, evsK_eq, consK_eq, kd_nil, kd_cons, kdsK_eq, a_nil, a_var, argG_some, argK_eq, consA_eq, a_int, a_str, a_bl, a_non, a_bin, a_neg, a_cmp, a_ite, a_tup, a_lst, a_sub, a_slice, a_call, a_prim, a_comp, i_rng, i_over, i_enum, i_rev, i_zip, rngK_eq, overK_eq, enumK_eq, revK_eq, zipK_eq, zipK2_eq, e_comp, compK_eq, cmpE_eq, noX_ok, x_nil, x_cons, seqK_nx, seqK_rt, seqK_bk, seqK_ct, x_asg, asgK_eq, x_unp, x_setI, setK_eq, setK2_eq, x_app, x_expr, exprK_eq, x_retv, retK_eq, x_ret, x_if, ifK_eq, bodyF_eq, x_for, forK_eq, tsF_eq, x_while, x_brk, x_cont, x_pass, vGet_rd, vGet_esc, vGet_kd, vGet_ts, onPart_esc, onPart_rd, onPart_kd, onPart_ts, shr_int, shr_bl, shr_non, shr_str, shr_lst, shr_tup, shrs_nil, shrs_cons, shrK_int, shrK_bl, shrK_non, shrK_str, shrK_lst, shrK_tup, frzK_int, frzK_bl, frzK_non, frzK_str, frzK_lst, frzK_tup, frz_lst, frz_tup, frz_int, frz_bl, frz_non, frz_str, frzs_nil, frzs_cons, truth_bl, truth_int, truth_lst, truth_tup, truth_non, map_some, b_add, b_sub, b_mul, b_mod, b_lst, b_tup, c_lt, c_le, c_gt, c_ge, c_eq, c_ne, eqD_int, p_len_l, p_len_t, p_int, p_min2, p_max2, p_sum_l, p_sum_t, p_tup_l, p_tup_t, p_lst_l, p_lst_t, p_isT, s_lst, s_tup, onOB_some, vNeg_int, vInt_ok, setTg_v, isNon_int, isNon_non, shrs_iL, frzs_iL, ints_iL, E.place, E.root, E.cf, Es.cf, List.getElem?_cons_zero, List.getElem?_cons_succ, List.set_cons_zero, List.set_cons_succ, List.headD_cons, List.tail_cons, Bool.true_and, Bool.and_true, Bool.true_or, Bool.or_true, Bool.false_and, Bool.and_false, Bool.false_or, Bool.or_false, ite_true, ite_false, if_true, if_false, Bool.false_eq_true, List.length_cons, List.length_nil, List.contains_eq_mem, List.mem_cons, List.not_mem_nil, decide_eq_true_eq, or_false, false_or, or_true, true_or, and_true, true_and, and_self, not_false_eq_true, not_true_eq_false, fF_rt, fF_nx, pars_t, pars_f, pars_0, Nat.reduceEqDiff, callA, slotsOf, treesOf, VS.backTo, List.nodup_cons, List.nodup_nil, cx_call, rGet_some, hasD_eq, hasO_some, isLstD_eq, isLO_some, setS_eq, setO_some, appS_eq, appO_some, unpS_tup, unpS_lst, srcVar_eq, sGet_some, srcOf_var, srcOf_call, srcOf_sub, srcOf_lst, srcOf_slice, srcOf_prim, vSrc_t, vSrc_f, itsOf_some, items_lst, items_tup, enumD_lst, enumD_tup, rangeD_1, rangeD_2, senv_nx, senv_rt, putLk_nil, putLk_cons, free, List.all_cons, List.all_nil, Tg.slots, List.zip_cons_cons, List.zip_nil_right, List.foldl_cons, List.foldl_nil, List.map_nil, List.map_cons, List.append_nil, List.nil_append, List.cons_append, isTys, isTy, Bool.not_true, Bool.not_false, Bool.not_eq_true, decide_true, decide_false, List.length_map, ne_eq, reduceCtorEq, Nat.reduceBEq, Nat.reduceAdd, Nat.zero_add, Nat.reduceLeDiff, Nat.reduceLT, Int.reduceLT, Int.reduceLE, Int.reduceNeg, le_sz, lt_sz, forall_const, implies_true, bind_exc, toS_exc, fin_exc, seqK_exc, senv_exc, fF_exc, e_exIs, e_exFld, exIs_eq, x_raise, raiseK_eq, clr_eq, suiF_eq, x_try, tryK_nx, tryK_rt, tryK_bk, tryK_ct, tryK_exc, catK_t, catK_f, noX_nx, noX_rt, noX_bk, noX_ct, zip_c, zip_n, x_ins, insK_eq, insK2_eq, insS_eq, insO_some, x_setSl, slsK_eq, slsK2_eq, slsK3_eq, setSlS_eq, setSlO_some, c_is, c_isnt, List.any_cons, List.any_nil, k_check_flag, k_run_row, k_fills, k_law_box, k_law_take, k_law_row, k_law_wrong_sign, k_law_due, k_law_same, k_law_refusal, k_law, b_law, sdrop, hsc, boxSh, lit_0, lit_x, lit_u, lit_duu, e1, h1, e2, hB, e3, g1, e4, g3, g2, g4, e5, hx, g5, g6, cN, hq1, e10, eqM, mulD, g7, e6, g8, g9, e7, g11, g10, g12, q2, q3, e8, hv, v4, e9, hX, q4, eqF, a1, a2, a3, hs]
      exact ⟨_, rfl⟩

end K13

end

section
set_option maxRecDepth 100000
set_option linter.all false
namespace K13
open PySem VS
variable {W n : Nat}
theorem i_law (ns : List Int) (hn : ns.length ≤ 63) : ∃ rs, callN prog W (n + 10) 10 [.lst true (iL ns)] = .ok (.bl true) rs := by
  obtain ⟨a, b, a0, b0, b1, e0⟩ := i_law_box (W := W) (n := n + 8) ns hn
  obtain ⟨a, b, k, a0, b0, b1, k0, k1, e1⟩ := i_law_take (W := W) (n := n + 8) a b 8 a0 b0 b1 (by decide) (by decide)
  obtain ⟨a, b, s, a0, b0, b1, s0, s1, e2⟩ := i_law_take (W := W) (n := n + 8) a b 13 a0 b0 b1 (by decide) (by decide)
  have hsc : (D.lst true (iL ns)).shr = true := by simp only [shr_lst, shrs_iL, Bool.and_true]
  rw [r_law, law_cut]
  by_cases c5 : k = 5
  · subst c5
    obtain ⟨a, b, z, a0, b0, b1, z0, z1, e3⟩ := i_law_take (W := W) (n := n + 8) a b 201 a0 b0 b1 (by decide) (by decide)
    obtain ⟨z, rfl⟩ : ∃ q : Nat, z = q := ⟨z.toNat, by omega⟩
    have d1 : ((5 : Int) = 7) = False := eq_false (by decide)
    simp only [bind_ok, of_some, toS_ok, fin_esc, fin_rd, fin_kd, fin_ts, e_non, e_bl, e_int, e_str, e_var, lft_t, lft_f, frzR_ok, e_bin, binK_eq, binK2_eq, e_neg, e_cmp, cmpK_eq, cmpK2_eq, e_cmp2, c2K_eq, c2K2_eq, c2K3_eq, e_isN, isNK_eq, e_andT, e_andV, e_orT, e_orV, e_notT, e_notV, andT_eq, andV_eq, orT_eq, orV_eq, notT_eq, notV_eq, e_ite, iteK_eq, e_tup, e_lst, tupK_eq, lstK_eq, e_sub, subK_eq, subK2_eq, subJ_eq, subJ2_eq, e_slice, slK_eq, slK2_eq, slK3_eq, slP_none, slP_some, e_call, e_prim, primK_eq, e_meth, methK_eq, methK2_eq, mtOk, a_meth, cop_in, cop_notin, es_nil, es_cons, evsK_eq, consK_eq, kd_nil, kd_cons, kdsK_eq, a_nil, a_var, argG_some, argK_eq, consA_eq, a_int, a_str, a_bl, a_non, a_bin, a_neg, a_cmp, a_ite, a_tup, a_lst, a_sub, a_slice, a_call, a_prim, a_comp, i_rng, i_over, i_enum, i_rev, i_zip, rngK_eq, overK_eq, enumK_eq, revK_eq, zipK_eq, zipK2_eq, e_comp, compK_eq, cmpE_eq, noX_ok, x_nil, x_cons, seqK_nx, seqK_rt, seqK_bk, seqK_ct, x_asg, asgK_eq, x_unp, x_setI, setK_eq, setK2_eq, x_app, x_expr, exprK_eq, x_retv, retK_eq, x_ret, x_if, ifK_eq, bodyF_eq, x_for, forK_eq, tsF_eq, x_while, x_brk, x_cont, x_pass, vGet_rd, vGet_esc, vGet_kd, vGet_ts, onPart_esc, onPart_rd, onPart_kd, onPart_ts, shr_int, shr_bl, shr_non, shr_str, shr_lst, shr_tup, shrs_nil, shrs_cons, shrK_int, shrK_bl, shrK_non, shrK_str, shrK_lst, shrK_tup, frzK_int, frzK_bl, frzK_non, frzK_str, frzK_lst, frzK_tup, frz_lst, frz_tup, frz_int, frz_bl, frz_non, frz_str, frzs_nil, frzs_cons, truth_bl, truth_int, truth_lst, truth_tup, truth_non, map_some, b_add, b_sub, b_mul, b_mod, b_lst, b_tup, c_lt, c_le, c_gt, c_ge, c_eq, c_ne, eqD_int, p_len_l, p_len_t, p_int, p_min2, p_max2, p_sum_l, p_sum_t, p_tup_l, p_tup_t, p_lst_l, p_lst_t, p_isT, s_lst, s_tup, onOB_some, vNeg_int, vInt_ok, setTg_v, isNon_int, isNon_non, shrs_iL, frzs_iL, ints_iL, E.place, E.root, E.cf, Es.cf, List.getElem?_cons_zero, List.getElem?_cons_succ, List.set_cons_zero, List.set_cons_succ, List.headD_cons, List.tail_cons, Bool.true_and, Bool.and_true, Bool.true_or, Bool.or_true, Bool.false_and, Bool.and_false, Bool.false_or, Bool.or_false, ite_true, ite_false, if_true, if_false, Bool.false_eq_true, List.length_cons, List.length_nil, List.contains_eq_mem, List.mem_cons, List.not_mem_nil, decide_eq_true_eq, or_false, false_or, or_true, true_or, and_true, true_and, and_self, not_false_eq_true, not_true_eq_false, fF_rt, fF_nx, pars_t, pars_f, pars_0, Nat.reduceEqDiff, callA, slotsOf, treesOf, VS.backTo, List.nodup_cons, List.nodup_nil, cx_call, rGet_some, hasD_eq, hasO_some, isLstD_eq, isLO_some, setS_eq, setO_some, appS_eq, appO_some, unpS_tup, unpS_lst, srcVar_eq, sGet_some, srcOf_var, srcOf_call, srcOf_sub, srcOf_lst, srcOf_slice, srcOf_prim, vSrc_t, vSrc_f, itsOf_some, items_lst, items_tup, enumD_lst, enumD_tup, rangeD_1, rangeD_2, senv_nx, senv_rt, putLk_nil, putLk_cons, free, List.all_cons, List.all_nil, Tg.slots, List.zip_cons_cons, List.zip_nil_right, List.foldl_cons, List.foldl_nil, List.map_nil, List.map_cons, List.append_nil, List.nil_append, List.cons_append, isTys, isTy, Bool.not_true, Bool.not_false, Bool.not_eq_true, decide_true, decide_false, List.length_map, ne_eq, reduceCtorEq, Nat.reduceBEq, Nat.reduceAdd, Nat.zero_add, Nat.reduceLeDiff, Nat.reduceLT, Int.reduceLT, Int.reduceLE, Int.reduceNeg, le_sz, lt_sz, forall_const, implies_true, bind_exc, toS_exc, fin_exc, seqK_exc, senv_exc, fF_exc, e_exIs, e_exFld, exIs_eq, x_raise, raiseK_eq, clr_eq, suiF_eq, x_try, tryK_nx, tryK_rt, tryK_bk, tryK_ct, tryK_exc, catK_t, catK_f, noX_nx, noX_rt, noX_bk, noX_ct, zip_c, zip_n, x_ins, insK_eq, insK2_eq, insS_eq, insO_some, x_setSl, slsK_eq, slsK2_eq, slsK3_eq, setSlS_eq, setSlO_some, c_is, c_isnt, List.any_cons, List.any_nil, k_check_flag, k_run_row, k_fills, k_law_box, k_law_take, k_law_row, k_law_wrong_sign, k_law_due, k_law_same, k_law_refusal, k_law, b_law, spre, e0, boxSh, e1, e2, e3, d1]
    exact suf_ok (.lst true (iL ns)) hsc a b a0 b0 b1 (.int 5) z (by omega)
  · by_cases c6 : k = 6
    · subst c6
      obtain ⟨a, b, z, a0, b0, b1, z0, z1, e3⟩ := i_law_take (W := W) (n := n + 8) a b 201 a0 b0 b1 (by decide) (by decide)
      obtain ⟨z, rfl⟩ : ∃ q : Nat, z = q := ⟨z.toNat, by omega⟩
      have d1 : ((6 : Int) = 7) = False := eq_false (by decide)
      have d2 : ((6 : Int) = 5) = False := eq_false (by decide)
      simp only [bind_ok, of_some, toS_ok, fin_esc, fin_rd, fin_kd, fin_ts, e_non, e_bl, e_int, e_str, e_var, lft_t, lft_f, frzR_ok, e_bin, binK_eq, binK2_eq, e_neg, e_cmp, cmpK_eq, cmpK2_eq, e_cmp2, c2K_eq, c2K2_eq, c2K3_eq, e_isN, isNK_eq, e_andT, e_andV, e_orT, e_orV, e_notT, e_notV, andT_eq, andV_eq, orT_eq, orV_eq, notT_eq, notV_eq, e_ite, iteK_eq, e_tup, e_lst, tupK_eq, lstK_eq, e_sub, subK_eq, subK2_eq, subJ_eq, subJ2_eq, e_slice, slK_eq, slK2_eq, slK3_eq, slP_none, slP_some, e_call, e_prim, primK_eq, e_meth, methK_eq, methK2_eq, mtOk, a_meth, cop_in, cop_notin, es_nil, es_cons, evsK_eq, consK_eq, kd_nil, kd_cons, kdsK_eq, a_nil, a_var, argG_some, argK_eq, consA_eq, a_int, a_str, a_bl, a_non, a_bin, a_neg, a_cmp, a_ite, a_tup, a_lst, a_sub, a_slice, a_call, a_prim, a_comp, i_rng, i_over, i_enum, i_rev, i_zip, rngK_eq, overK_eq, enumK_eq, revK_eq, zipK_eq, zipK2_eq, e_comp, compK_eq, cmpE_eq, noX_ok, x_nil, x_cons, seqK_nx, seqK_rt, seqK_bk, seqK_ct, x_asg, asgK_eq, x_unp, x_setI, setK_eq, setK2_eq, x_app, x_expr, exprK_eq, x_retv, retK_eq, x_ret, x_if, ifK_eq, bodyF_eq, x_for, forK_eq, tsF_eq, x_while, x_brk, x_cont, x_pass, vGet_rd, vGet_esc, vGet_kd, vGet_ts, onPart_esc, onPart_rd, onPart_kd, onPart_ts, shr_int, shr_bl, shr_non, shr_str, shr_lst, shr_tup, shrs_nil, shrs_cons, shrK_int, shrK_bl, shrK_non, shrK_str, shrK_lst, shrK_tup, frzK_int, frzK_bl, frzK_non, frzK_str, frzK_lst, frzK_tup, frz_lst, frz_tup, frz_int, frz_bl, frz_non, frz_str, frzs_nil, frzs_cons, truth_bl, truth_int, truth_lst, truth_tup, truth_non, map_some, b_add, b_sub, b_mul, b_mod, b_lst, b_tup, c_lt, c_le, c_gt, c_ge, c_eq, c_ne, eqD_int, p_len_l, p_len_t, p_int, p_min2, p_max2, p_sum_l, p_sum_t, p_tup_l, p_tup_t, p_lst_l, p_lst_t, p_isT, s_lst, s_tup, onOB_some, vNeg_int, vInt_ok, setTg_v, isNon_int, isNon_non, shrs_iL, frzs_iL, ints_iL, E.place, E.root, E.cf, Es.cf, List.getElem?_cons_zero, List.getElem?_cons_succ, List.set_cons_zero, List.set_cons_succ, List.headD_cons, List.tail_cons, Bool.true_and, Bool.and_true, Bool.true_or, Bool.or_true, Bool.false_and, Bool.and_false, Bool.false_or, Bool.or_false, ite_true, ite_false, if_true, if_false, Bool.false_eq_true, List.length_cons, List.length_nil, List.contains_eq_mem, List.mem_cons, List.not_mem_nil, decide_eq_true_eq, or_false, false_or, or_true, true_or, and_true, true_and, and_self, not_false_eq_true, not_true_eq_false, fF_rt, fF_nx, pars_t, pars_f, pars_0, Nat.reduceEqDiff, callA, slotsOf, treesOf, VS.backTo, List.nodup_cons, List.nodup_nil, cx_call, rGet_some, hasD_eq, hasO_some, isLstD_eq, isLO_some, setS_eq, setO_some, appS_eq, appO_some, unpS_tup, unpS_lst, srcVar_eq, sGet_some, srcOf_var, srcOf_call, srcOf_sub, srcOf_lst, srcOf_slice, srcOf_prim, vSrc_t, vSrc_f, itsOf_some, items_lst, items_tup, enumD_lst, enumD_tup, rangeD_1, rangeD_2, senv_nx, senv_rt, putLk_nil, putLk_cons, free, List.all_cons, List.all_nil, Tg.slots, List.zip_cons_cons, List.zip_nil_right, List.foldl_cons, List.foldl_nil, List.map_nil, List.map_cons, List.append_nil, List.nil_append, List.cons_append, isTys, isTy, Bool.not_true, Bool.not_false, Bool.not_eq_true, decide_true, decide_false, List.length_map, ne_eq, reduceCtorEq, Nat.reduceBEq, Nat.reduceAdd, Nat.zero_add, Nat.reduceLeDiff, Nat.reduceLT, Int.reduceLT, Int.reduceLE, Int.reduceNeg, le_sz, lt_sz, forall_const, implies_true, bind_exc, toS_exc, fin_exc, seqK_exc, senv_exc, fF_exc, e_exIs, e_exFld, exIs_eq, x_raise, raiseK_eq, clr_eq, suiF_eq, x_try, tryK_nx, tryK_rt, tryK_bk, tryK_ct, tryK_exc, catK_t, catK_f, noX_nx, noX_rt, noX_bk, noX_ct, zip_c, zip_n, x_ins, insK_eq, insK2_eq, insS_eq, insO_some, x_setSl, slsK_eq, slsK2_eq, slsK3_eq, setSlS_eq, setSlO_some, c_is, c_isnt, List.any_cons, List.any_nil, k_check_flag, k_run_row, k_fills, k_law_box, k_law_take, k_law_row, k_law_wrong_sign, k_law_due, k_law_same, k_law_refusal, k_law, b_law, spre, e0, boxSh, e1, e2, e3, d1, d2]
      exact suf_ok (.lst true (iL ns)) hsc a b a0 b0 b1 (.int 6) z (by omega)
    · obtain ⟨z, rfl⟩ : ∃ q : Nat, s = q := ⟨s.toNat, by omega⟩
      by_cases c7 : k = 7
      · subst c7
        simp only [bind_ok, of_some, toS_ok, fin_esc, fin_rd, fin_kd, fin_ts, e_non, e_bl, e_int, e_str, e_var, lft_t, lft_f, frzR_ok, e_bin, binK_eq, binK2_eq, e_neg, e_cmp, cmpK_eq, cmpK2_eq, e_cmp2, c2K_eq, c2K2_eq, c2K3_eq, e_isN, isNK_eq, e_andT, e_andV, e_orT, e_orV, e_notT, e_notV, andT_eq, andV_eq, orT_eq, orV_eq, notT_eq, notV_eq, e_ite, iteK_eq, e_tup, e_lst, tupK_eq, lstK_eq, e_sub, subK_eq, subK2_eq, subJ_eq, subJ2_eq, e_slice, slK_eq, slK2_eq, slK3_eq, slP_none, slP_some, e_call, e_prim, primK_eq, e_meth, methK_eq, methK2_eq, mtOk, a_meth, cop_in, cop_notin, es_nil, es_cons, evsK_eq, consK_eq, kd_nil, kd_cons, kdsK_eq, a_nil, a_var, argG_some, argK_eq, consA_eq, a_int, a_str, a_bl, a_non, a_bin, a_neg, a_cmp, a_ite, a_tup, a_lst, a_sub, a_slice, a_call, a_prim, a_comp, i_rng, i_over, i_enum, i_rev, i_zip, rngK_eq, overK_eq, enumK_eq, revK_eq, zipK_eq, zipK2_eq, e_comp, compK_eq, cmpE_eq, noX_ok, x_nil, x_cons, seqK_nx, seqK_rt, seqK_bk, seqK_ct, x_asg, asgK_eq, x_unp, x_setI, setK_eq, setK2_eq, x_app, x_expr, exprK_eq, x_retv, retK_eq, x_ret, x_if, ifK_eq, bodyF_eq, x_for, forK_eq, tsF_eq, x_while, x_brk, x_cont, x_pass, vGet_rd, vGet_esc, vGet_kd, vGet_ts, onPart_esc, onPart_rd, onPart_kd, onPart_ts, shr_int, shr_bl, shr_non, shr_str, shr_lst, shr_tup, shrs_nil, shrs_cons, shrK_int, shrK_bl, shrK_non, shrK_str, shrK_lst, shrK_tup, frzK_int, frzK_bl, frzK_non, frzK_str, frzK_lst, frzK_tup, frz_lst, frz_tup, frz_int, frz_bl, frz_non, frz_str, frzs_nil, frzs_cons, truth_bl, truth_int, truth_lst, truth_tup, truth_non, map_some, b_add, b_sub, b_mul, b_mod, b_lst, b_tup, c_lt, c_le, c_gt, c_ge, c_eq, c_ne, eqD_int, p_len_l, p_len_t, p_int, p_min2, p_max2, p_sum_l, p_sum_t, p_tup_l, p_tup_t, p_lst_l, p_lst_t, p_isT, s_lst, s_tup, onOB_some, vNeg_int, vInt_ok, setTg_v, isNon_int, isNon_non, shrs_iL, frzs_iL, ints_iL, E.place, E.root, E.cf, Es.cf, List.getElem?_cons_zero, List.getElem?_cons_succ, List.set_cons_zero, List.set_cons_succ, List.headD_cons, List.tail_cons, Bool.true_and, Bool.and_true, Bool.true_or, Bool.or_true, Bool.false_and, Bool.and_false, Bool.false_or, Bool.or_false, ite_true, ite_false, if_true, if_false, Bool.false_eq_true, List.length_cons, List.length_nil, List.contains_eq_mem, List.mem_cons, List.not_mem_nil, decide_eq_true_eq, or_false, false_or, or_true, true_or, and_true, true_and, and_self, not_false_eq_true, not_true_eq_false, fF_rt, fF_nx, pars_t, pars_f, pars_0, Nat.reduceEqDiff, callA, slotsOf, treesOf, VS.backTo, List.nodup_cons, List.nodup_nil, cx_call, rGet_some, hasD_eq, hasO_some, isLstD_eq, isLO_some, setS_eq, setO_some, appS_eq, appO_some, unpS_tup, unpS_lst, srcVar_eq, sGet_some, srcOf_var, srcOf_call, srcOf_sub, srcOf_lst, srcOf_slice, srcOf_prim, vSrc_t, vSrc_f, itsOf_some, items_lst, items_tup, enumD_lst, enumD_tup, rangeD_1, rangeD_2, senv_nx, senv_rt, putLk_nil, putLk_cons, free, List.all_cons, List.all_nil, Tg.slots, List.zip_cons_cons, List.zip_nil_right, List.foldl_cons, List.foldl_nil, List.map_nil, List.map_cons, List.append_nil, List.nil_append, List.cons_append, isTys, isTy, Bool.not_true, Bool.not_false, Bool.not_eq_true, decide_true, decide_false, List.length_map, ne_eq, reduceCtorEq, Nat.reduceBEq, Nat.reduceAdd, Nat.zero_add, Nat.reduceLeDiff, Nat.reduceLT, Int.reduceLT, Int.reduceLE, Int.reduceNeg, le_sz, lt_sz, forall_const, implies_true, bind_exc, toS_exc, fin_exc, seqK_exc, senv_exc, fF_exc, e_exIs, e_exFld, exIs_eq, x_raise, raiseK_eq, clr_eq, suiF_eq, x_try, tryK_nx, tryK_rt, tryK_bk, tryK_ct, tryK_exc, catK_t, catK_f, noX_nx, noX_rt, noX_bk, noX_ct, zip_c, zip_n, x_ins, insK_eq, insK2_eq, insS_eq, insO_some, x_setSl, slsK_eq, slsK2_eq, slsK3_eq, setSlS_eq, setSlO_some, c_is, c_isnt, List.any_cons, List.any_nil, k_check_flag, k_run_row, k_fills, k_law_box, k_law_take, k_law_row, k_law_wrong_sign, k_law_due, k_law_same, k_law_refusal, k_law, b_law, spre, e0, boxSh, e1, e2, c5, c6]
        exact suf_ok (.lst true (iL ns)) hsc a b a0 b0 b1 (.int 7) 200 (by omega)
      · simp only [bind_ok, of_some, toS_ok, fin_esc, fin_rd, fin_kd, fin_ts, e_non, e_bl, e_int, e_str, e_var, lft_t, lft_f, frzR_ok, e_bin, binK_eq, binK2_eq, e_neg, e_cmp, cmpK_eq, cmpK2_eq, e_cmp2, c2K_eq, c2K2_eq, c2K3_eq, e_isN, isNK_eq, e_andT, e_andV, e_orT, e_orV, e_notT, e_notV, andT_eq, andV_eq, orT_eq, orV_eq, notT_eq, notV_eq, e_ite, iteK_eq, e_tup, e_lst, tupK_eq, lstK_eq, e_sub, subK_eq, subK2_eq, subJ_eq, subJ2_eq, e_slice, slK_eq, slK2_eq, slK3_eq, slP_none, slP_some, e_call, e_prim, primK_eq, e_meth, methK_eq, methK2_eq, mtOk, a_meth, cop_in, cop_notin, es_nil, es_cons, evsK_eq, consK_eq, kd_nil, kd_cons, kdsK_eq, a_nil, a_var, argG_some, argK_eq, consA_eq, a_int, a_str, a_bl, a_non, a_bin, a_neg, a_cmp, a_ite, a_tup, a_lst, a_sub, a_slice, a_call, a_prim, a_comp, i_rng, i_over, i_enum, i_rev, i_zip, rngK_eq, overK_eq, enumK_eq, revK_eq, zipK_eq, zipK2_eq, e_comp, compK_eq, cmpE_eq, noX_ok, x_nil, x_cons, seqK_nx, seqK_rt, seqK_bk, seqK_ct, x_asg, asgK_eq, x_unp, x_setI, setK_eq, setK2_eq, x_app, x_expr, exprK_eq, x_retv, retK_eq, x_ret, x_if, ifK_eq, bodyF_eq, x_for, forK_eq, tsF_eq, x_while, x_brk, x_cont, x_pass, vGet_rd, vGet_esc, vGet_kd, vGet_ts, onPart_esc, onPart_rd, onPart_kd, onPart_ts, shr_int, shr_bl, shr_non, shr_str, shr_lst, shr_tup, shrs_nil, shrs_cons, shrK_int, shrK_bl, shrK_non, shrK_str, shrK_lst, shrK_tup, frzK_int, frzK_bl, frzK_non, frzK_str, frzK_lst, frzK_tup, frz_lst, frz_tup, frz_int, frz_bl, frz_non, frz_str, frzs_nil, frzs_cons, truth_bl, truth_int, truth_lst, truth_tup, truth_non, map_some, b_add, b_sub, b_mul, b_mod, b_lst, b_tup, c_lt, c_le, c_gt, c_ge, c_eq, c_ne, eqD_int, p_len_l, p_len_t, p_int, p_min2, p_max2, p_sum_l, p_sum_t, p_tup_l, p_tup_t, p_lst_l, p_lst_t, p_isT, s_lst, s_tup, onOB_some, vNeg_int, vInt_ok, setTg_v, isNon_int, isNon_non, shrs_iL, frzs_iL, ints_iL, E.place, E.root, E.cf, Es.cf, List.getElem?_cons_zero, List.getElem?_cons_succ, List.set_cons_zero, List.set_cons_succ, List.headD_cons, List.tail_cons, Bool.true_and, Bool.and_true, Bool.true_or, Bool.or_true, Bool.false_and, Bool.and_false, Bool.false_or, Bool.or_false, ite_true, ite_false, if_true, if_false, Bool.false_eq_true, List.length_cons, List.length_nil, List.contains_eq_mem, List.mem_cons, List.not_mem_nil, decide_eq_true_eq, or_false, false_or, or_true, true_or, and_true, true_and, and_self, not_false_eq_true, not_true_eq_false, fF_rt, fF_nx, pars_t, pars_f, pars_0, Nat.reduceEqDiff, callA, slotsOf, treesOf, VS.backTo, List.nodup_cons, List.nodup_nil, cx_call, rGet_some, hasD_eq, hasO_some, isLstD_eq, isLO_some, setS_eq, setO_some, appS_eq, appO_some, unpS_tup, unpS_lst, srcVar_eq, sGet_some, srcOf_var, srcOf_call, srcOf_sub, srcOf_lst, srcOf_slice, srcOf_prim, vSrc_t, vSrc_f, itsOf_some, items_lst, items_tup, enumD_lst, enumD_tup, rangeD_1, rangeD_2, senv_nx, senv_rt, putLk_nil, putLk_cons, free, List.all_cons, List.all_nil, Tg.slots, List.zip_cons_cons, List.zip_nil_right, List.foldl_cons, List.foldl_nil, List.map_nil, List.map_cons, List.append_nil, List.nil_append, List.cons_append, isTys, isTy, Bool.not_true, Bool.not_false, Bool.not_eq_true, decide_true, decide_false, List.length_map, ne_eq, reduceCtorEq, Nat.reduceBEq, Nat.reduceAdd, Nat.zero_add, Nat.reduceLeDiff, Nat.reduceLT, Int.reduceLT, Int.reduceLE, Int.reduceNeg, le_sz, lt_sz, forall_const, implies_true, bind_exc, toS_exc, fin_exc, seqK_exc, senv_exc, fF_exc, e_exIs, e_exFld, exIs_eq, x_raise, raiseK_eq, clr_eq, suiF_eq, x_try, tryK_nx, tryK_rt, tryK_bk, tryK_ct, tryK_exc, catK_t, catK_f, noX_nx, noX_rt, noX_bk, noX_ct, zip_c, zip_n, x_ins, insK_eq, insK2_eq, insS_eq, insO_some, x_setSl, slsK_eq, slsK2_eq, slsK3_eq, setSlS_eq, setSlO_some, c_is, c_isnt, List.any_cons, List.any_nil, k_check_flag, k_run_row, k_fills, k_law_box, k_law_take, k_law_row, k_law_wrong_sign, k_law_due, k_law_same, k_law_refusal, k_law, b_law, spre, e0, boxSh, e1, e2, c5, c6, c7]
        exact suf_ok (.lst true (iL ns)) hsc a b a0 b0 b1 (.int k) z (by omega)
theorem hrun (ns : List Int) (h : ns.length ≤ 63) : ∃ rs, callN prog 5000 40 10 [.lst true (ns.map .int)] = .ok (.bl true) rs := i_law (W := 5000) (n := 30) ns h

end K13

end

section
set_option maxRecDepth 100000
set_option linter.all false
set_option maxHeartbeats 0
namespace K13
open PySem VS L2
abbrev stm (i : Nat) : Stmt := PySem.Challenge.pw_longpound_k13_chamber_fills.main.body.getD i (.Pass ⟨0, 0, 0, 0⟩)
def fns : List Str := (["check_flag", "run_row", "fills", "_law_box", "_law_take", "_law_row", "_law_wrong_sign", "_law_due", "_law_same", "_law_refusal", "law"] : List Str)
def consts : List (Str × D) := [("MOST_SIGNS", .int 200)]
def c_check_flag : DefC := ⟨"check_flag", stm 17, ["name", "value"], ["name", "value"], f_check_flag⟩
theorem ok_check_flag : OkC fns consts clss c_check_flag := ⟨⟨rfl, rfl, rfl, by decide +kernel, rfl, by decide +kernel, by decide +kernel⟩, fun _ _ _ _ _ _ us hl => match us, hl with | [_, _], _ => rfl, rfl, rfl, by kernel_rfl⟩
def c_run_row : DefC := ⟨"run_row", stm 20, ["full", "row"], ["full", "row", "filled", "drained", "sign"], f_run_row⟩
theorem ok_run_row : OkC fns consts clss c_run_row := ⟨⟨rfl, rfl, rfl, by decide +kernel, rfl, by decide +kernel, by decide +kernel⟩, fun _ _ _ _ _ _ us hl => match us, hl with | [_, _], _ => rfl, rfl, rfl, by kernel_rfl⟩
def c_fills : DefC := ⟨"fills", stm 21, ["full", "row"], ["full", "row", "place", "sign"], f_fills⟩
theorem ok_fills : OkC fns consts clss c_fills := ⟨⟨rfl, rfl, rfl, by decide +kernel, rfl, by decide +kernel, by decide +kernel⟩, fun _ _ _ _ _ _ us hl => match us, hl with | [_, _], _ => rfl, rfl, rfl, by kernel_rfl⟩
def c_law_box : DefC := ⟨"_law_box", stm 23, ["script"], ["script", "pool", "count", "k", "cell"], f_law_box⟩
theorem ok_law_box : OkC fns consts clss c_law_box := ⟨⟨rfl, rfl, rfl, by decide +kernel, rfl, by decide +kernel, by decide +kernel⟩, fun _ _ _ _ _ _ us hl => match us, hl with | [_], _ => rfl, rfl, rfl, by kernel_rfl⟩
def c_law_take : DefC := ⟨"_law_take", stm 24, ["box", "many"], ["box", "many", "digit"], f_law_take⟩
theorem ok_law_take : OkC fns consts clss c_law_take := ⟨⟨rfl, rfl, rfl, by decide +kernel, rfl, by decide +kernel, by decide +kernel⟩, fun _ _ _ _ _ _ us hl => match us, hl with | [_, _], _ => rfl, rfl, rfl, by kernel_rfl⟩
def c_law_row : DefC := ⟨"_law_row", stm 25, ["box", "size"], ["box", "size", "row", "k"], f_law_row⟩
theorem ok_law_row : OkC fns consts clss c_law_row := ⟨⟨rfl, rfl, rfl, by decide +kernel, rfl, by decide +kernel, by decide +kernel⟩, fun _ _ _ _ _ _ us hl => match us, hl with | [_, _], _ => rfl, rfl, rfl, by kernel_rfl⟩
def c_law_wrong_sign : DefC := ⟨"_law_wrong_sign", stm 26, ["box"], ["box", "signs"], f_law_wrong_sign⟩
theorem ok_law_wrong_sign : OkC fns consts clss c_law_wrong_sign := ⟨⟨rfl, rfl, rfl, by decide +kernel, rfl, by decide +kernel, by decide +kernel⟩, fun _ _ _ _ _ _ us hl => match us, hl with | [_], _ => rfl, rfl, rfl, by kernel_rfl⟩
def c_law_due : DefC := ⟨"_law_due", stm 27, ["full", "row"], ["full", "row", "line", "filled", "drained", "k"], f_law_due⟩
theorem ok_law_due : OkC fns consts clss c_law_due := ⟨⟨rfl, rfl, rfl, by decide +kernel, rfl, by decide +kernel, by decide +kernel⟩, fun _ _ _ _ _ _ us hl => match us, hl with | [_, _], _ => rfl, rfl, rfl, by kernel_rfl⟩
def c_law_same : DefC := ⟨"_law_same", stm 28, ["told", "due"], ["told", "due", "k"], f_law_same⟩
theorem ok_law_same : OkC fns consts clss c_law_same := ⟨⟨rfl, rfl, rfl, by decide +kernel, rfl, by decide +kernel, by decide +kernel⟩, fun _ _ _ _ _ _ us hl => match us, hl with | [_, _], _ => rfl, rfl, rfl, by kernel_rfl⟩
def c_law_refusal : DefC := ⟨"_law_refusal", stm 29, ["full", "row"], ["full", "row", "e"], f_law_refusal⟩
theorem ok_law_refusal : OkC fns consts clss c_law_refusal := ⟨⟨rfl, rfl, rfl, by decide +kernel, rfl, by decide +kernel, by decide +kernel⟩, fun _ _ _ _ _ _ us hl => match us, hl with | [_, _], _ => rfl, rfl, rfl, by kernel_rfl⟩
def c_law : DefC := ⟨"law", stm 30, ["script"], ["script", "box", "kind", "size", "row", "full", "place", "spoilt", "due", "longer", "both", "wrong"], f_law⟩
theorem ok_law : OkC fns consts clss c_law := ⟨⟨rfl, rfl, rfl, by decide +kernel, rfl, by decide +kernel, by decide +kernel⟩, fun _ _ _ _ _ _ us hl => match us, hl with | [_], _ => rfl, rfl, rfl, by kernel_rfl⟩
def tab : List DefC := [c_check_flag, c_run_row, c_fills, c_law_box, c_law_take, c_law_row, c_law_wrong_sign, c_law_due, c_law_same, c_law_refusal, c_law]
theorem tab_x : tab.map DefC.x = fns := rfl
def x_CanalError : XcC := ⟨"CanalError", ["CanalError", "ValueError"], [], "self", clsInit (stm 1)⟩
theorem okx_CanalError : OkX x_CanalError := ⟨by decide +kernel, by decide +kernel, fun h => absurd rfl h⟩
def x_TooMany : XcC := ⟨"TooMany", ["TooMany", "CanalError", "ValueError"], ["limit"], "self", clsInit (stm 2)⟩
theorem okx_TooMany : OkX x_TooMany := ⟨by decide +kernel, by decide +kernel, fun _ => ⟨by decide, ⟨_, rfl, rfl⟩, fun fd h1 h2 us hl => by cases fd; cases h1; cases h2; exact (match us, hl with | [_, _], _ => rfl), rfl, rfl, rfl, by decide +kernel, by decide +kernel, by decide +kernel, by decide +kernel, by decide +kernel, by decide +kernel, ⟨_, _, _, _, _, _, _, _, _, rfl, by decide +kernel, .cons (.nil)⟩⟩⟩
def x_BadRow : XcC := ⟨"BadRow", ["BadRow", "CanalError", "ValueError"], ["name", "place"], "self", clsInit (stm 3)⟩
theorem okx_BadRow : OkX x_BadRow := ⟨by decide +kernel, by decide +kernel, fun _ => ⟨by decide, ⟨_, rfl, rfl⟩, fun fd h1 h2 us hl => by cases fd; cases h1; cases h2; exact (match us, hl with | [_, _, _], _ => rfl), rfl, rfl, rfl, by decide +kernel, by decide +kernel, by decide +kernel, by decide +kernel, by decide +kernel, by decide +kernel, ⟨_, _, _, _, _, _, _, _, _, rfl, by decide +kernel, .cons (.cons (.nil))⟩⟩⟩
def x_BadCanal : XcC := ⟨"BadCanal", ["BadCanal", "CanalError", "ValueError"], ["part", "place"], "self", clsInit (stm 4)⟩
theorem okx_BadCanal : OkX x_BadCanal := ⟨by decide +kernel, by decide +kernel, fun _ => ⟨by decide, ⟨_, rfl, rfl⟩, fun fd h1 h2 us hl => by cases fd; cases h1; cases h2; exact (match us, hl with | [_, _, _], _ => rfl), rfl, rfl, rfl, by decide +kernel, by decide +kernel, by decide +kernel, by decide +kernel, by decide +kernel, by decide +kernel, ⟨_, _, _, _, _, _, _, _, _, rfl, by decide +kernel, .cons (.cons (.nil))⟩⟩⟩
def x_BadLevels : XcC := ⟨"BadLevels", ["BadLevels", "CanalError", "ValueError"], ["levels"], "self", clsInit (stm 5)⟩
theorem okx_BadLevels : OkX x_BadLevels := ⟨by decide +kernel, by decide +kernel, fun _ => ⟨by decide, ⟨_, rfl, rfl⟩, fun fd h1 h2 us hl => by cases fd; cases h1; cases h2; exact (match us, hl with | [_, _], _ => rfl), rfl, rfl, rfl, by decide +kernel, by decide +kernel, by decide +kernel, by decide +kernel, by decide +kernel, by decide +kernel, ⟨_, _, _, _, _, _, _, _, _, rfl, by decide +kernel, .cons (.nil)⟩⟩⟩
def x_BadDeed : XcC := ⟨"BadDeed", ["BadDeed", "CanalError", "ValueError"], ["deed"], "self", clsInit (stm 6)⟩
theorem okx_BadDeed : OkX x_BadDeed := ⟨by decide +kernel, by decide +kernel, fun _ => ⟨by decide, ⟨_, rfl, rfl⟩, fun fd h1 h2 us hl => by cases fd; cases h1; cases h2; exact (match us, hl with | [_, _], _ => rfl), rfl, rfl, rfl, by decide +kernel, by decide +kernel, by decide +kernel, by decide +kernel, by decide +kernel, by decide +kernel, ⟨_, _, _, _, _, _, _, _, _, rfl, by decide +kernel, .cons (.nil)⟩⟩⟩
def x_ShortWater : XcC := ⟨"ShortWater", ["ShortWater", "CanalError", "ValueError"], ["kind", "place", "missing"], "self", clsInit (stm 7)⟩
theorem okx_ShortWater : OkX x_ShortWater := ⟨by decide +kernel, by decide +kernel, fun _ => ⟨by decide, ⟨_, rfl, rfl⟩, fun fd h1 h2 us hl => by cases fd; cases h1; cases h2; exact (match us, hl with | [_, _, _, _], _ => rfl), rfl, rfl, rfl, by decide +kernel, by decide +kernel, by decide +kernel, by decide +kernel, by decide +kernel, by decide +kernel, ⟨_, _, _, _, _, _, _, _, _, rfl, by decide +kernel, .cons (.cons (.cons (.nil)))⟩⟩⟩
def x_NothingDone : XcC := ⟨"NothingDone", ["NothingDone", "CanalError", "ValueError"], [], "self", clsInit (stm 8)⟩
theorem okx_NothingDone : OkX x_NothingDone := ⟨by decide +kernel, by decide +kernel, fun h => absurd rfl h⟩
def x_NotClean : XcC := ⟨"NotClean", ["NotClean", "CanalError", "ValueError"], ["place"], "self", clsInit (stm 9)⟩
theorem okx_NotClean : OkX x_NotClean := ⟨by decide +kernel, by decide +kernel, fun _ => ⟨by decide, ⟨_, rfl, rfl⟩, fun fd h1 h2 us hl => by cases fd; cases h1; cases h2; exact (match us, hl with | [_, _], _ => rfl), rfl, rfl, rfl, by decide +kernel, by decide +kernel, by decide +kernel, by decide +kernel, by decide +kernel, by decide +kernel, ⟨_, _, _, _, _, _, _, _, _, rfl, by decide +kernel, .cons (.nil)⟩⟩⟩
def x_NotPlain : XcC := ⟨"NotPlain", ["NotPlain", "CanalError", "ValueError"], [], "self", clsInit (stm 10)⟩
theorem okx_NotPlain : OkX x_NotPlain := ⟨by decide +kernel, by decide +kernel, fun h => absurd rfl h⟩
def x_NotRoomy : XcC := ⟨"NotRoomy", ["NotRoomy", "CanalError", "ValueError"], [], "self", clsInit (stm 11)⟩
theorem okx_NotRoomy : OkX x_NotRoomy := ⟨by decide +kernel, by decide +kernel, fun h => absurd rfl h⟩
def x_BadCalendar : XcC := ⟨"BadCalendar", ["BadCalendar", "CanalError", "ValueError"], ["phase", "day"], "self", clsInit (stm 12)⟩
theorem okx_BadCalendar : OkX x_BadCalendar := ⟨by decide +kernel, by decide +kernel, fun _ => ⟨by decide, ⟨_, rfl, rfl⟩, fun fd h1 h2 us hl => by cases fd; cases h1; cases h2; exact (match us, hl with | [_, _, _], _ => rfl), rfl, rfl, rfl, by decide +kernel, by decide +kernel, by decide +kernel, by decide +kernel, by decide +kernel, by decide +kernel, ⟨_, _, _, _, _, _, _, _, _, rfl, by decide +kernel, .cons (.cons (.nil))⟩⟩⟩
def x_BadWork : XcC := ⟨"BadWork", ["BadWork", "CanalError", "ValueError"], [], "self", clsInit (stm 13)⟩
theorem okx_BadWork : OkX x_BadWork := ⟨by decide +kernel, by decide +kernel, fun h => absurd rfl h⟩
def x_NoWork : XcC := ⟨"NoWork", ["NoWork", "CanalError", "ValueError"], ["day"], "self", clsInit (stm 14)⟩
theorem okx_NoWork : OkX x_NoWork := ⟨by decide +kernel, by decide +kernel, fun _ => ⟨by decide, ⟨_, rfl, rfl⟩, fun fd h1 h2 us hl => by cases fd; cases h1; cases h2; exact (match us, hl with | [_, _], _ => rfl), rfl, rfl, rfl, by decide +kernel, by decide +kernel, by decide +kernel, by decide +kernel, by decide +kernel, by decide +kernel, ⟨_, _, _, _, _, _, _, _, _, rfl, by decide +kernel, .cons (.nil)⟩⟩⟩
def x_TextError : XcC := ⟨"TextError", ["TextError", "CanalError", "ValueError"], ["line"], "self", clsInit (stm 15)⟩
theorem okx_TextError : OkX x_TextError := ⟨by decide +kernel, by decide +kernel, fun _ => ⟨by decide, ⟨_, rfl, rfl⟩, fun fd h1 h2 us hl => by cases fd; cases h1; cases h2; exact (match us, hl with | [_, _], _ => rfl), rfl, rfl, rfl, by decide +kernel, by decide +kernel, by decide +kernel, by decide +kernel, by decide +kernel, by decide +kernel, ⟨_, _, _, _, _, _, _, _, _, rfl, by decide +kernel, .cons (.nil)⟩⟩⟩
def xs : List XcC := [x_CanalError, x_TooMany, x_BadRow, x_BadCanal, x_BadLevels, x_BadDeed, x_ShortWater, x_NothingDone, x_NotClean, x_NotPlain, x_NotRoomy, x_BadCalendar, x_BadWork, x_NoWork, x_TextError]
theorem xs_row : xs.map XcC.row = clss := rfl
theorem xs_ok : AllX OkX xs := ⟨okx_CanalError, okx_TooMany, okx_BadRow, okx_BadCanal, okx_BadLevels, okx_BadDeed, okx_ShortWater, okx_NothingDone, okx_NotClean, okx_NotPlain, okx_NotRoomy, okx_BadCalendar, okx_BadWork, okx_NoWork, okx_TextError, trivial⟩
theorem tab_fr : progOf tab xs = prog := rfl
theorem tab_ok : AllC (OkC (tab.map DefC.x) consts (xs.map XcC.row)) tab := by
  rw [tab_x, xs_row]
  exact ⟨ok_check_flag, ok_run_row, ok_fills, ok_law_box, ok_law_take, ok_law_row, ok_law_wrong_sign, ok_law_due, ok_law_same, ok_law_refusal, ok_law, trivial⟩
end K13

end

section
set_option maxRecDepth 100000
set_option linter.all false
set_option maxHeartbeats 0
set_option Elab.async false
namespace K13
open PySem PySem.Spec PyProof.Rows L2
def fa : List He.Fa := (tab.map fun c => He.Fa.glo c.x) ++ (VS.bltNames.map He.Fa.free) ++ consts.flatMap VS.constFa
abbrev R : PySem.W.OpenRow := PySem.W.OpenLaw.row PySem.Challenge.rw_longpound_k13_chamber_fills
abbrev file : Str := R.prog.main.file
abbrev hk : PySem.W.Hook := VS.hookX 4 fa (tab.map VS.DefC.d) file xs
def ob (s : PySem.W.SharedT) : VS.AlX := VS.obsXG 4 fa (tab.map VS.DefC.d) file xs (HandSHeadRun.getT s)
theorem ob_eq (s : PySem.W.SharedT) : ob s = hk.obs s.abs := VS.obsXG_eq (HandSHeadRun.getT_eq s)
def loose0 : List Str := ["__name__", "CanalError", "TooMany", "BadRow", "BadCanal", "BadLevels", "BadDeed", "ShortWater", "NothingDone", "NotClean", "NotPlain", "NotRoomy", "BadCalendar", "BadWork", "NoWork", "TextError", "check_flag", "MOST_SIGNS", "run_row", "fills", "_law_box", "_law_take", "_law_row", "_law_wrong_sign", "_law_due", "_law_same", "_law_refusal"]
def loose : List Str := loose0
theorem run (w : World) : HandSHeadRun.RunEq R (PySem.W.view R.prog [30]) hk ob 6000 loose w := by
  intro os
  kernel_rfl
theorem hfa : ∀ c ∈ tab, He.Fa.glo c.x ∈ fa := fun c hc => List.mem_append_left _ (List.mem_append_left _ (List.mem_map.mpr ⟨c, hc, rfl⟩))
theorem hbl : ∀ x ∈ VS.bltNames, He.Fa.free x ∈ fa := fun x hx => List.mem_append_left _ (List.mem_append_right _ (List.mem_map.mpr ⟨x, hx, rfl⟩))
theorem hco : ∀ p ∈ consts, ∀ f ∈ VS.constFa p, f ∈ fa := fun p hp f hf => List.mem_append_right _ (List.mem_flatMap.mpr ⟨p, hp, hf⟩)
end K13

end

section
set_option maxRecDepth 100000
set_option linter.all false
set_option maxHeartbeats 0
set_option Elab.async false
open PySem PySem.W PySem.Calls PyProof.Rows
theorem PySem.Challenge.cw_longpound_k13_chamber_fills_holds : PySem.Challenge.rw_longpound_k13_chamber_fills.Holds := by
  w_on; o_law
  refine HandSHeadRun.head_any (r := OpenLaw.row PySem.Challenge.rw_longpound_k13_chamber_fills) (q := view (OpenLaw.row PySem.Challenge.rw_longpound_k13_chamber_fills).prog [30]) (H := K13.hk) (ob := K13.ob) (M := 6000) (loose := K13.loose) (d := HandSHeadRun.topDef (OpenLaw.row PySem.Challenge.rw_longpound_k13_chamber_fills).prog 30) (kwd := []) K13.ob_eq
    (by kernel_rfl) (fun s => by kernel_rfl) K13.run (by kernel_rfl) (by kernel_rfl) (by kernel_rfl) (by rfl) (by first | assumption | decide +kernel) (by decide +kernel) ⟨rfl, rfl, rfl, rfl, rfl, by decide +kernel⟩ ?hw ?hc
  case hw => w_witness2
  case hc => exact VS.law_walk (l := PySem.Challenge.rw_longpound_k13_chamber_fills) (n := 63) (k := 40) (W := 5000) (i := 10) (c := K13.c_law) rfl (by decide) (by kernel_rfl) ⟨rfl, by decide, by decide⟩ (file := K13.file) (xs := K13.xs) rfl (by kernel_rfl) K13.xs_ok K13.hfa K13.hbl K13.hco K13.tab_ok rfl (by kernel_rfl) ⟨_, rfl⟩ (fun ns h => by rw [K13.tab_fr]; exact K13.hrun ns h)

end
