import PyProof.Rows.All
import Wide.All
import OpenK.AllK
import Wide.FinOn
import HandS.ForMost
import HandS.Exc
import HandS.TryMany
import HandS.Property
import HandS.Defaults
import KE.KDictKeyed
import KE.KDictCopyH
import HandS.Lambda
import HandS.Wide
import HandS.WideBits
import HandS.TupAny
import HandS.TupMul
import HandS.Flow
import HandS.NoneIn
import HandS.Iter
import HandS.CallRecv
import HandS.ExcOwn
import KE.KOpsOwn
import KE.KCallOwn
import KE.KFmtOwn
import HandS.IsInst
import HandS.Text
import HandS.List
import HandS.FStr
import HandS.RaiseMore
import HandS.Small
import Lean
import HandS.Words
import HandS.Head0
import HandS.Head1
import HandS.Head2
import HandS.HeadEnd
import HandS.HeadHook1
import HandS.HeadHook2
import HandS.HeadHook3
import KE.KIntText
import KE.BitLaws
import HandS.Deep
import HandS.Conv
import HandS.Zip
import KE.GoesZip
import KE.GoesMore
import KE.GoesEnum
import PyProof.RulesMatch
import HandS.MakeKw
import HandS.MakeKwOnly
import KE.KExcInit
import KE.KExcSuper
import KE.KSuper
import HandS.ExcInit
import HandS.ExcField
import HandS.ExcIs
import PyProof.Rows.FactsExc_KeyError
import PyProof.ExcBaseAll.RuntimeError
import PyProof.ExcBaseAll.LookupError
import KE.KExcIs
import HandS.DictEq
import PyProof.NeKinds
import PyProof.StrOps2
import HandS.EndTab
import HandS.HeadWalk
import KE.KNestM
import HandS.OwnEq
import HandS.Codes
import HandS.Style
import KE.KRevSl
import HandS.ReplaceLit
import KE.OsScanText
import HandS.DictComp
import KE.KDictWalk
import PyProof.Rows.SortStr
import PyProof.DictUpdate
import KE.KDictOf
import HandS.Set
import HandS.SetBool
import HandS.Strs
import HandS.Comp
import KE.KDictLaws
import PyProof.TupleOfGen
import KE.KDictPairs
import KE.KEqDict
import KE.SortData
import KE.KIndexOf
import HandS.TupSets
import KE.KeyNested
import HandS.Star
import HandS.ExcValue
import PySem.Challenge.RW_signskept_k05_exceptions_apart
section
set_option Elab.async false
set_option linter.all false
set_option maxRecDepth 100000
namespace MP
open PySem L2
inductive Atm where
  | nil | non | int (i : Int) | str (s : List Nat)
inductive PV where
  | non | bl (b : Bool) | int (i : Int) | str (s : List Nat)
  | tup (xs : List PV) | lst (xs : List PV)
  | dct (ks vs : List PV)
  | obj (k : Nat) (ns : List Nat) (xs : List PV)
  | loc (n : Nat) | st (k : Nat) | ty (n : String) | scr (ns : List Int)
  | lnt (ks vs : List PV)
  | exo (k : Nat) (t : Atm)
inductive Cell where
  | lst (xs : List PV)
  | dct (ks vs : List PV)
  | ins (k : Nat) (ns : List Nat) (xs : List PV)
  | tab (i : Nat)
abbrev Hs := List Cell
abbrev Loc := List (Option PV)
structure Mp where
  l : List Addr
  h : List Addr
  k : List (Addr × HO)
def getR {A : Type} (l : List A) (n : Nat) : Option A := l.reverse[n]?
structure Sta where
  P : Program
  w : World
  K : PySem.W.Frag
  mg : Str → Option Value
  base : Heap
  G : Nat → Addr
  FN : Nat → Str
  inj : ∀ i j, FN i = FN j → i = j
  tb : Nat → Addr × Str := fun _ => (0, Str.empty)
def isTup : PV → Bool
  | .tup _ => true
  | _ => false
def isFlat : PV → Bool
  | .non => true
  | .bl _ => true
  | .int _ => true
  | .str _ => true
  | _ => false
def eqF : PV → PV → Bool
  | .non, .non => true
  | .bl a, .bl b => a == b
  | .bl a, .int j => (if a then 1 else 0) == j
  | .int i, .bl b => i == (if b then 1 else 0)
  | .int i, .int j => i == j
  | .str s, .str t => s == t
  | _, _ => false
def eqAll (f : PV → PV → Bool) : List PV → List PV → Bool
  | [], [] => true
  | x :: xs, y :: ys => f x y && eqAll f xs ys
  | _, _ => false
def isKey : Nat → PV → Bool
  | 0, v => isFlat v
  | n + 1, v => match v with
    | .tup xs => xs.all (isKey n)
    | v => isFlat v
def keyEq : Nat → PV → PV → Bool
  | 0, a, b => eqF a b
  | n + 1, a, b => match a with
    | .tup xs => (match b with
      | .tup ys => eqAll (keyEq n) xs ys
      | _ => false)
    | a => eqF a b
abbrev kd : Nat := 8
def isK1 : PV → Bool
  | .int _ => true
  | .str _ => true
  | _ => false
def Atm.v : Atm → V
  | .int i => .int i
  | .str s => .str ⟨s.toArray⟩
  | _ => .non
end MP
set_option maxRecDepth 100000
namespace MP
open PySem L2
inductive RE where
  | ok (v : PV) (S : Hs) | ex (k : Nat) (v : PV) (S : Hs) | bad
inductive RA where
  | ok (vs : List PV) (S : Hs) | ex (k : Nat) (v : PV) (S : Hs) | bad
inductive RB where
  | ok (b : Bool) (S : Hs) | ex (k : Nat) (v : PV) (S : Hs) | bad
inductive RS where
  | nx (L : Loc) (S : Hs) | rt (v : PV) (S : Hs) | bk (L : Loc) (S : Hs) | ct (L : Loc) (S : Hs) | ex (k : Nat) (v : PV) (L : Loc) (S : Hs) | bad
def RE.bind (r : RE) (f : PV → Hs → RE) : RE := match r with
  | .ok v S => f v S | .ex k v S => .ex k v S | .bad => .bad
def RE.bindA (r : RE) (f : PV → Hs → RA) : RA := match r with
  | .ok v S => f v S | .ex k v S => .ex k v S | .bad => .bad
def RE.bindS (r : RE) (L : Loc) (f : PV → Hs → RS) : RS := match r with
  | .ok v S => f v S | .ex k v S => .ex k v L S | .bad => .bad
def RA.bind (r : RA) (f : List PV → Hs → RE) : RE := match r with
  | .ok v S => f v S | .ex k v S => .ex k v S | .bad => .bad
def RA.bindA (r : RA) (f : List PV → Hs → RA) : RA := match r with
  | .ok v S => f v S | .ex k v S => .ex k v S | .bad => .bad
def RB.bind (r : RB) (f : Bool → Hs → RE) : RE := match r with
  | .ok v S => f v S | .ex k v S => .ex k v S | .bad => .bad
def RB.bindS (r : RB) (L : Loc) (f : Bool → Hs → RS) : RS := match r with
  | .ok v S => f v S | .ex k v S => .ex k v L S | .bad => .bad
def RS.bind (r : RS) (f : Loc → Hs → RS) : RS := match r with
  | .nx L S => f L S | r => r
section
variable {Z : Sta} {W : WX} {σ : St} {H H1 : Hp} {m m1 : Mp} {Q : VK} {X : Cx}
def varE (i : Nat) : Loc → Hs → RE := fun L S => match L[i]? with
  | some (some v) => .ok v S
  | _ => .bad
def conE (v : PV) : Loc → Hs → RE := fun _ S => .ok v S
def nilA : Loc → Hs → RA := fun _ S => .ok [] S
def consA (f : Loc → Hs → RE) (g : Loc → Hs → RA) : Loc → Hs → RA := fun L S => (f L S).bindA fun v S1 => (g L S1).bindA fun vs S2 => .ok (v :: vs) S2
def fits {A : Type} (xs : List A) : Bool := decide (xs.length ≤ 16777216)
def lstE (fz : Bool) (f : Loc → Hs → RA) : Loc → Hs → RE := fun L S => (f L S).bind fun vs S1 => if fits vs then (if fz then .ok (.lst vs) S1 else .ok (.loc S1.length) (.lst vs :: S1)) else .bad
end
end MP
set_option maxRecDepth 100000
namespace MP
open PySem L2
def asL (S : Hs) : PV → Option (List PV)
  | .lst xs => some xs
  | .loc n => match getR S n with
    | some (.lst xs) => some xs
    | _ => none
  | _ => none
def dctOf (S : Hs) : PV → Option (List PV × List PV)
  | .dct ks vs => some (ks, vs)
  | .lnt ks vs => some (ks, vs)
  | .loc n => match getR S n with
    | some (.dct ks vs) => some (ks, vs)
    | _ => none
  | _ => none
def asQ (S : Hs) : PV → Option (List PV)
  | .tup xs => some xs
  | .scr ns => some (ns.map .int)
  | v => asL S v
section
variable {Z : Sta} {W : WX} {σ : L2.St} {H H1 : Hp} {m m1 : Mp} {Q : VK} {X : Cx} {S : Hs}
def binE (f g : Loc → Hs → RE) (o : PV → PV → Hs → RE) : Loc → Hs → RE := fun L S => (f L S).bind fun v S1 => (g L S1).bind fun w S2 => o v w S2
end
end MP
set_option maxRecDepth 100000
namespace MP
open PySem L2
def mulOk (i j : Int) : Bool := decide (i.natAbs.log2 + j.natAbs.log2 < 1000000)
def fdivI (i j : Int) : Option Int :=
  if decide (0 < j) && decide (j.natAbs.log2 < 9000) then some (i / j) else if decide (j ≠ 0) && decide (j.natAbs < 1073741824) then some (i.fdiv j) else none
def modI (i j : Int) : Option Int := if decide (0 < j) then some (i % j) else if decide (j ≠ 0) then some (i.fmod j) else none
def powOk (i j : Int) : Bool := decide (0 ≤ j) && decide (j ≤ 1000000) && decide (i.natAbs < 18446744073709551616)
def okO (v : Option PV) (S : Hs) : RE := match v with
  | some v => .ok v S
  | none => .bad
def newL (fz : Bool) (xs : List PV) (S : Hs) : RE := if fits xs then (if fz then .ok (.lst xs) S else .ok (.loc S.length) (.lst xs :: S)) else .bad
def newT (xs : List PV) (S : Hs) : RE := if fits xs then .ok (.tup xs) S else .bad
def addV (fz : Bool) (a b : PV) (S : Hs) : RE := match a, b with
  | .int i, .int j => .ok (.int (i + j)) S
  | .str s, .str t => if fits (s ++ t) then .ok (.str (s ++ t)) S else .bad
  | .tup xs, .tup ys => newT (xs ++ ys) S
  | a, b => match asL S a, asL S b with
    | some xs, some ys => newL fz (xs ++ ys) S
    | _, _ => .bad
def intV (f : Int → Int → Option Int) (a b : PV) (S : Hs) : RE := match a, b with
  | .int i, .int j => okO ((f i j).map .int) S
  | _, _ => .bad
def repL (xs : List PV) (k : Nat) : List PV := (List.replicate k xs).flatten
def mulV (fz : Bool) (a b : PV) (S : Hs) : RE := match a, b with
  | .int i, .int j => if mulOk i j then .ok (.int (i * j)) S else .bad
  | .tup xs, .int k => if (!xs.isEmpty) && decide (2 ≤ k) && decide (k ≤ 1000) && decide (xs.length ≤ 1000) then .ok (.tup (repL xs k.toNat)) S else if decide (k = 1) then .ok (.tup xs) S else if decide (k = 0) && !xs.isEmpty then .ok (.tup []) S else .bad
  | a, .int k => match asL S a with
    | some xs => if decide (0 ≤ k) && decide (k ≤ 16777216) && decide (xs.length * k.toNat ≤ 16777216) then newL fz (repL xs k.toNat) S else .bad
    | _ => .bad
  | _, _ => .bad
def binV (op : Operator) (fz : Bool) : PV → PV → Hs → RE := match op with
  | .Add => addV fz
  | .Sub => intV fun i j => some (i - j)
  | .Mult => mulV fz
  | .FloorDiv => intV fdivI
  | .Mod => intV modI
  | .Pow => intV fun i j => if powOk i j then some (i ^ j.toNat) else none
  | .LShift => intV fun i j => if powOk i j then some (i * 2 ^ j.toNat) else none
  | .RShift => intV fun i j => if decide (0 ≤ j) then some (i / 2 ^ j.toNat) else none
  | .BitAnd => intV fun i j => some (Builtin.bitAnd i j)
  | .BitOr => intV fun i j => some (Builtin.bitOr i j)
  | .BitXor => intV fun i j => some (Builtin.bitXor i j)
  | _ => fun _ _ _ => .bad
end MP
set_option maxRecDepth 100000
namespace MP
open PySem L2
def isD (S : Hs) : Nat → PV → Bool
  | 0, v => isFlat v
  | n + 1, v => if isFlat v then true else match asQ S v with
    | some xs => xs.all (isD S n)
    | none => false
def eqB (S : Hs) : Nat → PV → PV → Bool
  | 0, a, b => eqF a b
  | n + 1, a, b => if isFlat a || isFlat b then eqF a b else match asQ S a, asQ S b with
    | some xs, some ys => (isTup a == isTup b) && eqAll (eqB S n) xs ys
    | _, _ => false
section
variable {Z : Sta} {W : WX} {σ : L2.St} {H H1 : Hp} {m m1 : Mp} {Q : VK} {X : Cx} {S : Hs} {x y : V}
def deep : Nat := 12
def eqV (a b : PV) (S : Hs) : RE := if isD S deep a && isD S deep b then .ok (.bl (eqB S deep a b)) S else .bad
def neV (a b : PV) (S : Hs) : RE := if isD S deep a && isD S deep b then .ok (.bl (!eqB S deep a b)) S else .bad
end
end MP
set_option maxRecDepth 100000
namespace MP
open PySem L2
def ordV (f : Int → Int → Bool) (a b : PV) (S : Hs) : RE := match a, b with
  | .int i, .int j => .ok (.bl (f i j)) S
  | _, _ => .bad
def inB (S : Hs) (a b : PV) : Option Bool := match b with
  | .str t => match a with
    | .str [c] => some (t.contains c)
    | _ => none
  | b => match asQ S b with
    | some xs => if isFlat a && xs.all isFlat then some (xs.any fun y => eqF y a) else none
    | none => none
def inV (a b : PV) (S : Hs) : RE := okO ((inB S a b).map .bl) S
def ninV (a b : PV) (S : Hs) : RE := okO ((inB S a b).map fun c => .bl (!c)) S
def isNon : PV → Bool
  | .non => true
  | _ => false
def isV (neg : Bool) (a b : PV) (S : Hs) : RE := if isNon b then .ok (.bl (if neg then !isNon a else isNon a)) S else .bad
def cmpV (op : CmpOp) : PV → PV → Hs → RE := match op with
  | .Eq => eqV
  | .NotEq => neV
  | .Lt => ordV fun i j => decide (i < j)
  | .LtE => ordV fun i j => decide (i ≤ j)
  | .Gt => ordV fun i j => decide (j < i)
  | .GtE => ordV fun i j => decide (j ≤ i)
  | .In => inV
  | .NotIn => ninV
  | .Is => isV false
  | .IsNot => isV true
section
variable {Z : Sta} {W : WX} {σ : L2.St} {H H1 : Hp} {m m1 : Mp} {Q : VK} {X : Cx} {S : Hs} {x y : V}
def asB : RE → RB
  | .ok (.bl b) S => .ok b S
  | .ex k v S => .ex k v S
  | _ => .bad
def cmpB (f : Loc → Hs → RE) : Loc → Hs → RB := fun L S => asB (f L S)
end
end MP
set_option maxRecDepth 100000
namespace MP
open PySem L2
abbrev TgF := PV → Loc → Hs → RS
section
variable {Z : Sta} {W : WX} {σ : L2.St} {H H1 : Hp} {m m1 : Mp} {X : Cx} {S : Hs} {x y : V}
variable {T T' : List Nat}
def nameT (i : Nat) : TgF := fun v L S => .nx (L.set i (some v)) S
end
end MP
set_option maxRecDepth 100000
namespace MP
open PySem L2
def setR {A : Type} (S : List A) (n : Nat) (a : A) : List A := (S.reverse.set n a).reverse
end MP
set_option maxRecDepth 100000
namespace MP
open PySem L2
section
variable {Z : Sta} {W : WX} {σ : L2.St} {H H1 : Hp} {m m1 : Mp} {X : Cx} {S : Hs} {x y : V} {a : Addr} {T : List Nat}
def nilS : Loc → Hs → RS := fun L S => .nx L S
def seqS (f g : Loc → Hs → RS) : Loc → Hs → RS := fun L S => (f L S).bind g
def retS (f : Loc → Hs → RE) : Loc → Hs → RS := fun L S => (f L S).bindS L fun v S1 => .rt v S1
def ifS (c : Loc → Hs → RB) (f g : Loc → Hs → RS) : Loc → Hs → RS := fun L S => (c L S).bindS L fun b S1 => if b then f L S1 else g L S1
def onlyN : RS → RS
  | .nx L S => .nx L S
  | _ => .bad
def asgS (f : Loc → Hs → RE) (g : TgF) : Loc → Hs → RS := fun L S => (f L S).bindS L fun v S1 => onlyN (g v L S1)
end
end MP
set_option maxRecDepth 100000
namespace MP
open PySem L2
def mapO {A B : Type} (f : A → Option B) : List A → Option (List B)
  | [] => some []
  | a :: as => match f a with
    | some b => match mapO f as with
      | some bs => some (b :: bs)
      | none => none
    | none => none
def freeze (S : Hs) : Nat → PV → Option PV
  | 0, _ => none
  | n + 1, v => match v with
    | .tup xs => (mapO (freeze S n) xs).map .tup
    | .lst xs => (mapO (freeze S n) xs).map .lst
    | .dct ks vs => (mapO (freeze S n) vs).map (.dct ks)
    | .lnt ks vs => (mapO (freeze S n) vs).map (.lnt ks)
    | .obj k ns xs => (mapO (freeze S n) xs).map (.obj k ns)
    | .loc i => match getR S i with
      | some (.lst xs) => (mapO (freeze S n) xs).map .lst
      | some (.dct ks vs) => (mapO (freeze S n) vs).map (.dct ks)
      | some (.ins k ns xs) => (mapO (freeze S n) xs).map (.obj k ns)
      | some (.tab _) => none
      | none => none
    | v => some v
def dpF : Nat := 24
section
variable {Z : Sta} {W : WX} {σ : L2.St} {H H1 : Hp} {m m1 m2 : Mp} {X : Cx} {S : Hs} {x y : V} {a : Addr}
def endC (S : Hs) : RE → RE
  | .ok v [] => .ok v S
  | .ok v S1 => match freeze S1 dpF v with
    | some w => .ok w S
    | none => .bad
  | .ex k v [] => .ex k v S
  | .ex k v S1 => match freeze S1 dpF v with
    | some w => .ex k w S
    | none => .bad
  | .bad => .bad
def isoC (f : List PV → Hs → RE) (args : List PV) (S : Hs) : RE := match S with
  | [] => endC [] (f args [])
  | S => match mapO (freeze [] dpF) args with
    | some as => endC S (f as [])
    | none => f args S
end
end MP
set_option maxRecDepth 100000
namespace MP
open PySem L2
section
variable {Z : Sta} {W : WX} {σ : L2.St} {H H1 : Hp} {m m1 m2 : Mp} {X : Cx} {S : Hs} {x y : V} {a : Addr} {lv : Nat}
def callE (n nk : Nat) (ga gk : Loc → Hs → RA) (f : List PV → List PV → Hs → RE) : Loc → Hs → RE := fun L S => (ga L S).bind fun vs S1 => (gk L S1).bind fun qs S2 => if vs.length = n ∧ qs.length = nk then f vs qs S2 else .bad
end
section
variable {Z : Sta} {W : WX} {σ : L2.St} {H H1 : Hp} {m m1 m2 : Mp} {X : Cx} {S : Hs} {x y : V} {a : Addr} {lv g : Nat} {fd : FuncData} {ps ks : List Str} {f : List PV → Hs → RE} {pins : List (Addr × Obj)} {s : Shared} {Q : VK}
def useC (iso : Bool) (f : List PV → Hs → RE) (args : List PV) (S : Hs) : RE := if iso then isoC f args S else f args S
end
end MP
set_option maxRecDepth 100000
namespace MP
open PySem L2
inductive FK where
  | fld | prop (g : Nat) | meth (g : Nat) | bad
structure Tab where
  run : Nat → List PV → Hs → RE
  has : Nat → Bool
  mem : Nat → Nat → FK
  arr : Nat → Nat → List Str → Option (List PV → List PV → List PV)
def clsOf (S : Hs) : PV → Option (Nat × List Nat × List PV)
  | .obj k ns xs => some (k, ns, xs)
  | .loc i => match getR S i with
    | some (.ins k ns xs) => some (k, ns, xs)
    | _ => none
  | _ => none
end MP
set_option maxRecDepth 100000
set_option maxRecDepth 100000
set_option maxRecDepth 100000
namespace MP
open PySem L2
def ownC (T : Tab) (k f : Nat) (args : List PV) (S : Hs) : RE := match T.mem k f with
  | .meth g => match T.arr g args.length [] with
    | some a => isoC (T.run g) (a args []) S
    | none => .bad
  | _ => .bad
end MP
set_option maxRecDepth 100000
set_option maxRecDepth 100000
namespace MP
open PySem L2
def tyN (S : Hs) : PV → Option Nat
  | .non => some 0
  | .bl _ => some 1
  | .int _ => some 2
  | .str _ => some 3
  | .lst _ => some 4
  | .tup _ => some 5
  | .dct _ _ => some 6
  | .lnt _ _ => some 6
  | .scr _ => some 4
  | .obj k _ _ => some (100 + k)
  | .loc i => match getR S i with
    | some (.lst _) => some 4
    | some (.dct _ _) => some 6
    | some (.ins k _ _) => some (100 + k)
    | some (.tab _) => none
    | none => none
  | _ => none
def tyS : Nat → String
  | 0 => "NoneType" | 1 => "bool" | 2 => "int" | 3 => "str" | 4 => "list" | 5 => "tuple" | 6 => "dict" | _ => "object"
end MP
set_option maxRecDepth 100000
namespace MP
open PySem L2
structure CmpT where
  e : Nat
  c : Nat
  l : Nat
  s : Nat
  r : Nat
  ks : List Nat
  ls : List Nat
def rightOk (S : Hs) (k : Nat) (q : PV) : Bool := match tyN S q with
  | some n => decide (n < 7) || decide (n = 100 + k)
  | none => false
def eqD (T : Tab) (c : CmpT) (p q : PV) (S : Hs) : RE := match clsOf S p with
  | some (k, _, _) => if k ∈ c.ks ∧ rightOk S k q = true then ownC T k c.e [p, q] S else .bad
  | none => if (clsOf S q).isNone then eqV p q S else .bad
def notR : RE → RE
  | .ok (.bl b) S => .ok (.bl (!b)) S
  | .ex k v S => .ex k v S
  | _ => .bad
def neD (T : Tab) (c : CmpT) (p q : PV) (S : Hs) : RE := match clsOf S p with
  | some (k, _, _) => if k ∈ c.ks ∧ rightOk S k q = true then notR (ownC T k c.e [p, q] S) else .bad
  | none => if (clsOf S q).isNone then neV p q S else .bad
def blR : RE → RE
  | .ok (.bl b) S => .ok (.bl b) S
  | .ex k v S => .ex k v S
  | _ => .bad
def inD (T : Tab) (c : CmpT) (p q : PV) (S : Hs) : RE := match clsOf S q with
  | some (k, _, _) => blR (ownC T k c.c [q, p] S)
  | none => inV p q S
def ninD (T : Tab) (c : CmpT) (p q : PV) (S : Hs) : RE := match clsOf S q with
  | some (k, _, _) => notR (ownC T k c.c [q, p] S)
  | none => ninV p q S
def cmpD (T : Tab) (c : CmpT) (op : CmpOp) : PV → PV → Hs → RE := match op with
  | .Eq => eqD T c
  | .NotEq => neD T c
  | .In => inD T c
  | .NotIn => ninD T c
  | op => cmpV op
section
variable {Z : Sta} {W : WX} {σ : L2.St} {H H1 : Hp} {m m1 m2 : Mp} {X : Cx} {S : Hs} {x y : V} {a : Addr} {lv g k f : Nat} {T : Tab} {fdO : Nat → FuncData} {psO : Nat → List Str} {pins : List (Addr × Obj)} {s : Shared} {Q : VK} {c : CmpT}
def bltE (ga : Loc → Hs → RA) (g : List PV → Hs → RE) : Loc → Hs → RE := fun L S => (ga L S).bind g
end
end MP
set_option maxRecDepth 100000
set_option maxRecDepth 100000
namespace MP
open PySem L2
abbrev IsaT := Nat → Nat → Option Bool
def tyNo (n : String) : Nat := if n = "bool" then 1 else if n = "int" then 2 else if n = "str" then 3 else if n = "list" then 4 else if n = "tuple" then 5 else if n = "dict" then 6 else 99
def clsNo : PV → Option Nat
  | .st k => some (100 + k)
  | .ty n => if decide (tyNo n < 7) && decide (n = tyS (tyNo n)) then some (tyNo n) else none
  | _ => none
def isi1 (isa : IsaT) (t : Nat) (c : PV) : Option Bool := match clsNo c with
  | some k => isa t k
  | none => none
def anyI (f : PV → Option Bool) : List PV → Option Bool
  | [] => some false
  | c :: r => match f c with
    | some true => some true
    | some false => anyI f r
    | none => none
def isiV (isa : IsaT) (ps : List PV) (S : Hs) : RE := match ps with
  | [v, c] => match tyN S v with
    | some t => match c with
      | .tup (c :: cs) => okO ((anyI (isi1 isa t) (c :: cs)).map .bl) S
      | c => okO ((isi1 isa t c).map .bl) S
    | none => .bad
  | _ => .bad
end MP
set_option maxRecDepth 100000
set_option maxRecDepth 100000
set_option maxRecDepth 100000
set_option maxRecDepth 100000
namespace MP
open PySem L2
abbrev Fr : Type := PySem.W.Frag
def eqB' (a b : Option (Option Value)) : Bool := decide (a = b)
def kitB (K : Fr) (t c : Value) (b : Bool) : Bool := decide (PySem.W.kitOne K t c = some b)
def gloK (K : Fr) (x : Str) (a : Addr) : Bool := eqB' (PySem.W.nsIn K mainGlobals x) (some (some (.ref a)))
def freK (K : Fr) (x : Str) : Bool := eqB' (PySem.W.nsIn K mainGlobals x) (some none)
section
variable {K : Fr} {C g p : Addr} {m f x : Str} {Z : Sta} {k : Nat}
theorem ba2 {a b : Bool} (h : (a && b) = true) : a = true ∧ b = true := Bool.and_eq_true_iff.mp h
end
structure MDef where
  adr : Fr → Addr
  name : Str
  qual : Str
  params : Arguments
  body : List Stmt
  scope : Scope
  dfl : Fr → List V := fun _ => []
  kwd : Fr → List (Str × V) := fun _ => []
  clo : List Str := []
def fnM (K : Fr) (a : Addr) : He.FnW := match K.lookup a with
  | some ⟨_, _, .func fd, _⟩ => some (fd.name, fd.qualname, fd.params, fd.body, fd.scope, fd.globals, fd.closure.map fun p => (p.1, (0 : Addr)), fd.builtins)
  | _ => none
def MDef.val (d : MDef) : He.FnW := some (d.name, d.qual, d.params, .stmts d.body, d.scope, mainGlobals, d.clo.map fun x => (x, (0 : Addr)), builtinsNs)
def MDef.ok (K : Fr) (d : MDef) : Bool := PySem.W.keepIn K (.ref (d.adr K)) && PySem.W.isFn K (.ref (d.adr K)) && (match K.lookup (d.adr K) with
  | some ⟨_, _, .func fd, _⟩ => PySem.W.codeIn K fd.code d.qual && (He.dflB K fd.defaults (d.dfl K) && He.kwdB K fd.kwdefaults (d.kwd K))
  | _ => false)
structure MFun (K : Fr) (d : MDef) (fd : FuncData) : Prop where
  f : FunD K d.name d.qual d.params d.body d.scope (d.dfl K) (d.kwd K) (d.adr K) fd
  fn : PySem.W.isFn K (.ref (d.adr K)) = true
theorem MDef.funD {K : Fr} {d : MDef} (e : fnM K (d.adr K) = d.val) (c : d.ok K = true) (hc : d.clo = []) : ∃ fd, MFun K d fd := by
  obtain ⟨c, c2⟩ := ba2 c
  obtain ⟨kp, c1⟩ := ba2 c
  unfold fnM at e
  cases q : K.lookup (d.adr K) with
  | none =>
    rw [q] at c2
    cases c2
  | some o =>
    obtain ⟨oc, od, dt, osl⟩ := o
    rw [q] at c2 e
    cases dt with
    | func fd =>
      obtain ⟨n1, n2, n3, n4, n5, n6, n7, n8, n9, n10, n11, n12, n13, n14, n15⟩ := fd
      have e2 : (some (n1, n2, n3, n4, n5, n6, n7.map fun p => (p.1, (0 : Addr)), n15) : He.FnW) = some (d.name, d.qual, d.params, .stmts d.body, d.scope, mainGlobals, [], builtinsNs) := by
        have e3 : (some (n1, n2, n3, n4, n5, n6, n7.map fun p => (p.1, (0 : Addr)), n15) : He.FnW) = d.val := e
        rw [e3]
        unfold MDef.val
        rw [hc]
        rfl
      simp only [Option.some.injEq, Prod.mk.injEq] at e2
      obtain ⟨h1, h2, h3, h4, h5, h6, h7, h8⟩ := e2
      have h7 := List.map_eq_nil_iff.mp h7
      subst h1 h2 h3 h4 h5 h6 h7 h8
      obtain ⟨k1, k2⟩ := ba2 (show (PySem.W.codeIn K n13 d.qual && (He.dflB K n8 (d.dfl K) && He.kwdB K n9 (d.kwd K))) = true from c2)
      obtain ⟨k3, k4⟩ := ba2 k2
      exact ⟨_, ⟨⟨oc, od, n8, n9, n10, n11, n12, n13, n14, osl, rfl, q, k1, He.dflB_ok k3, He.kwdB_ok k4⟩, kp⟩, c1⟩
    | _ => cases c2
structure MOk (K : Fr) (d : MDef) : Prop where
  fd : d.clo = [] → ∃ fd, MFun K d fd
  val : fnM K (d.adr K) = d.val
  ok : d.ok K = true
abbrev DTab : Type := (Fr → Addr) × List Str
abbrev AlM : Type := Bool × List He.FnW × List (Option (List (Option (Str × Int))))
def obsM (ex : List (Fr → Bool)) (ds : List MDef) (tx : List DTab) (K : Fr) : AlM := ((ex.all fun f => f K) && ds.all fun d => d.ok K, ds.map fun d => fnM K (d.adr K), tx.map fun t => He.dicW K (t.1 K))
def valM (ds : List MDef) (tx : List DTab) (w : World) : AlM := (true, ds.map MDef.val, tx.map fun t => some (He.keysIn w.params t.2))
structure SaysM (ex : List (Fr → Bool)) (ds : List MDef) (tx : List DTab) (w : World) (K : Fr) : Prop where
  ex : ∀ f ∈ ex, f K = true
  ds : ∀ d ∈ ds, MOk K d
  tx : ∀ t ∈ tx, He.dicW K (t.1 K) = some (He.keysIn w.params t.2)
theorem saysM_of {ex : List (Fr → Bool)} {ds : List MDef} {tx : List DTab} {w : World} {K : Fr} (e : obsM ex ds tx K = valM ds tx w) : SaysM ex ds tx w K := by
  have e1 : ((ex.all fun f => f K) && ds.all fun d => d.ok K) = true := congrArg (fun z : AlM => z.1) e
  have e2 : ds.map (fun d => fnM K (d.adr K)) = ds.map MDef.val := congrArg (fun z : AlM => z.2.1) e
  have e4 : tx.map (fun t => He.dicW K (t.1 K)) = tx.map fun t => some (He.keysIn w.params t.2) := congrArg (fun z : AlM => z.2.2) e
  obtain ⟨h1, h2⟩ := ba2 e1
  refine ⟨fun f hf => List.all_eq_true.mp h1 f hf, fun d hd => ?_, fun t ht => List.map_inj_left.mp e4 t ht⟩
  obtain ⟨i, hi, ei⟩ := List.mem_iff_getElem.mp hd
  have e3 : (ds.map fun d => fnM K (d.adr K))[i]? = (ds.map MDef.val)[i]? := by rw [e2]
  rw [List.getElem?_map, List.getElem?_map, List.getElem?_eq_getElem hi, ei] at e3
  exact ⟨MDef.funD (Option.some.inj e3) (List.all_eq_true.mp h2 d hd), Option.some.inj e3, List.all_eq_true.mp h2 d hd⟩
def addN : List Addr → Nat → List Addr → Nat × List Addr
  | [], m, acc => (m, acc)
  | a :: r, m, acc => match Nat.beq (Nat.land (Nat.shiftRight m a) 1) 1 with
    | true => addN r m acc
    | false => HandSHeadRun.frNat (Nat.lor m (Nat.shiftLeft 1 a)) fun m' => addN r m' (a :: acc)
def refsM (g : Addr → Option Obj) : List Addr → List Addr
  | [] => []
  | a :: r => match g a with
    | some o => He.refsD o ++ refsM g r
    | none => refsM g r
def growM (g : Addr → Option Obj) : Nat → Nat → List Addr → List Addr → List Addr
  | 0, _, all, fr => all ++ fr
  | n + 1, m, all, fr => match addN (refsM g fr) m [] with
    | (m', new) => growM g n m' (all ++ fr) new.reverse
def asM (g : Addr → Option Obj) (n : Nat) : List Addr := match addN [mainGlobals, cStatics] 0 [] with
  | (m, new) => growM g n m [] new.reverse
def obsMG (n : Nat) (ex : List (Fr → Bool)) (ds : List MDef) (tx : List DTab) (g : Addr → Option Obj) : AlM := obsM ex ds tx (He.frG g (asM g n))
def hookM (n : Nat) (ex : List (Fr → Bool)) (ds : List MDef) (tx : List DTab) : PySem.W.Hook where
  α := AlM
  obs := fun s => obsMG n ex ds tx s.heap.get?
  val := fun w => valM ds tx w
  says := fun w h => ∃ K : Fr, K.In h ∧ SaysM ex ds tx w K
  of := fun _ _ e => ⟨_, He.frG_in, saysM_of e⟩
  keeps := fun _ _ _ ⟨K, hK, c⟩ k => ⟨K, PySem.W.Frag.In.keeps hK k, c⟩
theorem obsMG_eq {n : Nat} {ex : List (Fr → Bool)} {ds : List MDef} {tx : List DTab} {g : Addr → Option Obj} {s : Shared} (h : ∀ a, g a = s.heap.get? a) : obsMG n ex ds tx g = (hookM n ex ds tx).obs s := by
  have e : g = s.heap.get? := funext h
  rw [e] <;> rfl
def aG (x : Str) (K : Fr) : Addr := He.ga K x
def aM (x m : Str) (K : Fr) : Addr := He.ma K (He.ga K x) m
def clsBody : Stmt → List Stmt
  | .ClassDef _ _ _ b _ _ _ _ _ _ _ => b
  | _ => []
end MP
set_option maxRecDepth 100000
set_option maxRecDepth 100000
set_option maxRecDepth 100000
namespace MP
open PySem L2
def FNof (names : List Str) (i : Nat) : Str := match names[i]? with
  | some x => x
  | none => ⟨Array.replicate (i + 100) 0⟩
def GofK (da ca : List (Fr → Addr)) (K : Fr) (i : Nat) : Addr := bif Nat.ble 500 i then (match ca[i - 500]? with
  | some f => f K
  | none => 0) else match da[i]? with
  | some f => f K
  | none => 0
structure Ctx (exL : List (Fr → Bool)) (dsL : List MDef) (txL : List DTab) (da ca : List (Fr → Addr)) (names : List Str) (Z : Sta) : Prop where
  K : ∃ h : Heap, Z.K.In h ∧ h.Ns mainGlobals Z.mg
  ex : ∀ f ∈ exL, f Z.K = true
  ds : ∀ d ∈ dsL, MOk Z.K d
  tx : ∀ t ∈ txL, He.dicW Z.K (t.1 Z.K) = some (He.keysIn Z.w.params t.2)
  G : Z.G = GofK da ca Z.K
  FN : Z.FN = FNof names
end MP
set_option maxRecDepth 100000
namespace MP
open PySem L2
def ixV (a b : PV) (S : Hs) : RE := match b with
  | .int i => match a with
    | .str s => if fits s then okO ((atI s i).map fun c => .str [c]) S else .bad
    | a => match asQ S a with
      | some xs => okO (atI xs i) S
      | none => .bad
  | _ => .bad
end MP
set_option maxRecDepth 100000
namespace MP
open PySem L2
def setV (o i v : PV) (S : Hs) : Option Hs := match o, i with
  | .loc n, .int k => match getR S n with
    | some (.lst xs) => (ixN xs.length k).map fun j => setR S n (.lst (xs.set j v))
    | _ => none
  | _, _ => none
section
variable {Z : Sta} {W : WX} {σ : L2.St} {H H1 : Hp} {m m1 m2 : Mp} {X : Cx} {S : Hs} {x y : V} {a : Addr} {lv g k f : Nat} {T : Tab} {fdO : Nat → FuncData} {psO : Nat → List Str} {pins : List (Addr × Obj)} {s : Shared} {Q : VK} {c : CmpT}
def intV1 (ps : List PV) (S : Hs) : RE := match ps with
  | [.int i] => .ok (.int i) S
  | [.bl k] => .ok (.int (if k then 1 else 0)) S
  | _ => .bad
def clsNos : List PV → Option (List Nat)
  | [] => some []
  | c :: r => match clsNo c with
    | some k => (clsNos r).map (k :: ·)
    | none => none
def isiL (isa : IsaT) (t : Nat) : List Nat → Option Bool
  | [] => some false
  | k :: r => match isa t k with
    | some true => some true
    | some false => isiL isa t r
    | none => none
def isiW (isa : IsaT) (ps : List PV) (S : Hs) : RE := match ps with
  | [v, .tup cs] => match tyN S v, clsNos cs with
    | some t, some (k :: ks) => okO ((isiL isa t (k :: ks)).map .bl) S
    | _, _ => .bad
  | _ => .bad
def isiA (isa : IsaT) (ps : List PV) (S : Hs) : RE := match ps with
  | [_, .tup _] => isiW isa ps S
  | _ => isiV isa ps S
end
end MP
set_option maxRecDepth 100000
set_option maxRecDepth 100000
set_option maxRecDepth 100000
set_option maxRecDepth 100000
set_option maxRecDepth 100000
set_option maxRecDepth 100000
namespace MP
open PySem L2
def findK : List PV → List PV → PV → Option PV
  | k :: ks, v :: vs, j => if keyEq kd k j then some v else findK ks vs j
  | _, _, _ => none
section
variable {Z : Sta} {W : WX} {σ : L2.St} {H H1 : Hp} {m m1 m2 : Mp} {X : Cx} {S : Hs} {x y : V} {a : Addr} {lv g k f : Nat} {T : Tab} {pins : List (Addr × Obj)} {s : Shared} {Q : VK} {c : CmpT} {es : List (Int × V × V)} {ks vs : List PV}
def kindOk (ks : List PV) (k : PV) : Bool := match ks with
  | [] => isK1 k || (isTup k && isKey kd k)
  | j :: _ => (isK1 j && isK1 k) || (isTup j && (isTup k && isKey kd k))
end
end MP
set_option maxRecDepth 100000
namespace MP
open PySem L2
def ixK : List PV → PV → Option Nat
  | [], _ => none
  | k :: ks, j => if keyEq kd k j then some 0 else (ixK ks j).map (· + 1)
def putKs (ks : List PV) (j : PV) : List PV := match ixK ks j with
  | some _ => ks
  | none => ks ++ [j]
def putVs {A : Type} (ks : List PV) (j : PV) (vs : List A) (v : A) : List A := match ixK ks j with
  | some i => vs.set i v
  | none => vs ++ [v]
end MP
set_option maxRecDepth 100000
namespace MP
open PySem L2 PyProof.Rows
section
variable {Z : Sta} {W : WX} {σ : L2.St} {H H1 : Hp} {m m1 m2 : Mp} {X : Cx} {S : Hs} {x y : V} {a : Addr} {lv g k f : Nat} {T : Tab} {fdO : Nat → FuncData} {psO : Nat → List Str} {pins : List (Addr × Obj)} {s : Shared} {Q : VK} {c : CmpT} {es : List (Int × V × V)} {ks vs : List PV}
def inV2 (a b : PV) (S : Hs) : RE := match dctOf S b with
  | some (ks, vs) => if kindOk ks a then .ok (.bl (findK ks vs a).isSome) S else .bad
  | none => match inB S a b with
    | some k => .ok (.bl k) S
    | none => match asL S b with
      | some xs => if isD S deep.pred a && isD S deep b then .ok (.bl (xs.any fun y => eqB S deep.pred y a)) S else .bad
      | none => .bad
def ninV2 (a b : PV) (S : Hs) : RE := match inV2 a b S with
  | .ok (.bl k) S => .ok (.bl !k) S
  | _ => .bad
def inD2 (T : Tab) (c : CmpT) (p q : PV) (S : Hs) : RE := match clsOf S q with
  | some _ => inD T c p q S
  | none => inV2 p q S
def ninD2 (T : Tab) (c : CmpT) (p q : PV) (S : Hs) : RE := match clsOf S q with
  | some _ => ninD T c p q S
  | none => ninV2 p q S
end
end MP
set_option maxRecDepth 100000
namespace MP
open PySem L2 PyProof.Rows
section
variable {Z : Sta} {W : WX} {σ : L2.St} {H H1 : Hp} {m m1 m2 : Mp} {X : Cx} {S : Hs} {x y : V} {a : Addr} {lv g k f : Nat} {T : Tab} {fdO : Nat → FuncData} {psO : Nat → List Str} {pins : List (Addr × Obj)} {s : Shared} {Q : VK} {c : CmpT} {es : List (Int × V × V)} {ks vs : List PV}
def cmpD2 (T : Tab) (c : CmpT) (op : CmpOp) : PV → PV → Hs → RE := match op with
  | .In => inD2 T c
  | .NotIn => ninD2 T c
  | op => cmpD T c op
def ixV2 (a b : PV) (S : Hs) : RE := match dctOf S a with
  | some (ks, vs) => if kindOk ks b then okO (findK ks vs b) S else .bad
  | none => ixV a b S
def setV2 (o i v : PV) (S : Hs) : Option Hs := match o with
  | .loc n => match getR S n with
    | some (.dct ks vs) => if kindOk ks i && decide (ks.length < 16777216) then some (setR S n (.dct (putKs ks i) (putVs ks i vs v))) else none
    | _ => setV o i v S
  | _ => none
def subT2 (fo fi : Loc → Hs → RE) : TgF := fun v L S => match fo L S with
  | .ok o S1 => match fi L S1 with
    | .ok i S2 => match setV2 o i v S2 with
      | some S3 => .nx L S3
      | none => .bad
    | _ => .bad
  | _ => .bad
end
end MP
set_option maxRecDepth 100000
set_option maxRecDepth 100000
set_option maxRecDepth 100000
set_option maxRecDepth 100000
set_option maxRecDepth 100000
set_option maxRecDepth 100000
set_option maxRecDepth 100000
set_option maxRecDepth 100000
set_option maxRecDepth 100000
set_option maxRecDepth 100000
set_option maxRecDepth 100000
namespace MP
open PySem L2 PyProof.Rows
def exB (K : Fr) (C : Addr) : Bool := PySem.W.hasDictIn K C && eqB' (PySem.W.findIn K (.ref C) "__getattribute__") (some (some (.builtin "BaseException.__getattribute__"))) && eqB' (PySem.W.findIn K (.ref C) "__getattr__") (some none) && decide (PySem.W.subIn K (.ref C) (.type "BaseException") = some true) &&
  eqB' (PySem.W.findIn K (.ref C) "value") (some none) && eqB' (PySem.W.findIn K (.ref C) "__class__") (some (some (.builtin "object.__class__"))) && eqB' (PySem.W.specialIn K (.builtin "object.__class__") "__get__") (some (some (.builtin "getset_descriptor.__get__"))) && decide (PySem.W.takesIn K (.builtin "object.__class__") = some true) && decide (PySem.W.mroIn K C (.type "object") = some true) &&
  decide (PySem.W.typeIn K (.ref C) = some (.type "type"))
end MP
set_option maxRecDepth 100000
namespace MP
open PySem L2 PyProof.Rows
structure SupP (P : Program) (fileL : Str) : Prop where
  file : ((P.main.file : Str) == fileL) = true
  top : (P.main.scope.names.lookup ("super" : Str)).isSome = false
def codeFileB (K : Fr) (fileL : Str) : Value → Bool
  | .ref cda => (match K.lookup cda with
    | some ⟨_, _, .fields vs, _⟩ => (match (vs[2]? : Option Value) with
      | some (Value.str file _) => file == fileL
      | _ => false)
    | _ => false)
  | _ => false
def cellOfB (K : Fr) (D : Addr) : List (Str × Addr) → Bool
  | [(_, cc)] => (match K.lookup cc with
    | some ⟨_, _, .cell (some (.ref d)), _⟩ => d == D
    | _ => false)
  | _ => false
def fnPartsB (K : Fr) (D : Addr) (fileL : Str) (dflt code : Value) (clo : List (Str × Addr)) : Bool := decide (dflt = .none) && codeFileB K fileL code && cellOfB K D clo
def supB (K : Fr) (fI D : Addr) (fileL : Str) : Bool := freK K "super" && eqB' (PySem.W.nsIn K cStatics "thirdparty.any") (some none) && (PySem.W.clsIn K D).isSome && (match K.lookup fI with
  | some ⟨_, _, .func fd, _⟩ => fnPartsB K D fileL fd.defaults fd.code fd.closure
  | _ => false)
def oexB (K : Fr) (C D fI : Addr) (B newId initId : String) (bmB : List Value) : Bool := (match K.lookup C with
  | some ⟨c, _, .cls cd, sl⟩ => decide (c = .type "type") && (match cd.mro with
    | m :: bm => decide (m = .ref C) && PySem.W.excTail bmB bm
    | [] => false) && cd.hasDict && !cd.hasDel && (match sl.toList with
    | [_, _, _, _, k4, _] => decide (k4 = some (.builtin newId))
    | _ => false)
  | _ => false) && eqB' (PySem.W.findIn K (.ref C) "__setattr__") (some (some (.builtin "object.__setattr__"))) && decide (PySem.W.subIn K (.ref C) (.type "BaseException") = some true) && decide (PySem.W.typeIn K (.ref C) = some (.type "type")) && PySem.W.keepIn K (.ref C) &&
  eqB' (PySem.W.findIn K (.ref C) "__init__") (some (some (.ref fI))) && decide (PySem.W.typeIn K (.ref fI) = some (.type "function")) && eqB' (PySem.W.findIn K (.ref C) "value") (some none) && eqB' (PySem.W.ks_superIn K C D "__init__") (some (some (.builtin initId))) && decide (PySem.W.mroIn K C (.ref D) = some true) && decide (PySem.W.subIn K (.ref C) (.type B) = some true)
end MP
set_option maxRecDepth 100000
set_option maxRecDepth 100000
set_option maxRecDepth 100000
set_option maxRecDepth 100000
set_option maxRecDepth 100000
set_option maxRecDepth 100000
set_option maxRecDepth 100000
set_option maxRecDepth 100000
set_option maxRecDepth 100000
set_option maxRecDepth 100000
set_option maxRecDepth 100000
set_option maxRecDepth 100000
set_option maxRecDepth 100000
set_option maxRecDepth 100000
set_option maxRecDepth 100000
set_option maxRecDepth 100000
set_option maxRecDepth 100000
set_option maxRecDepth 100000
set_option maxRecDepth 100000
set_option maxRecDepth 100000
set_option maxRecDepth 100000
set_option maxRecDepth 100000
set_option maxRecDepth 100000
set_option maxRecDepth 100000
set_option maxRecDepth 100000
set_option maxRecDepth 100000
set_option maxRecDepth 100000
set_option maxRecDepth 100000
set_option maxRecDepth 100000
set_option maxRecDepth 100000
set_option maxRecDepth 100000
set_option maxRecDepth 100000
set_option maxRecDepth 100000
set_option maxRecDepth 100000
set_option maxRecDepth 100000
set_option maxRecDepth 100000
set_option maxRecDepth 100000
set_option maxRecDepth 100000
set_option maxRecDepth 100000
set_option maxRecDepth 100000
set_option maxRecDepth 100000
set_option maxRecDepth 100000
set_option maxRecDepth 100000
set_option maxRecDepth 100000
set_option maxRecDepth 100000
set_option maxRecDepth 100000
set_option maxRecDepth 100000
set_option maxRecDepth 100000
namespace MP
open PySem PySem.Spec PyProof.Rows L2
open PySem.W (alike alikeAll keyToks keyToksAll dataLe AllAlike Sortable EachIs TotalLe sameRank sortLe_total sort_unique)
section
variable {le : PV → PV → Bool} (h : TotalLe le)
include h
end
end MP
set_option maxRecDepth 100000
set_option maxRecDepth 100000
set_option maxRecDepth 100000
set_option maxRecDepth 100000
set_option maxRecDepth 100000
set_option maxRecDepth 100000
set_option maxRecDepth 100000
set_option maxRecDepth 100000
set_option maxRecDepth 100000
set_option maxRecDepth 100000
set_option maxRecDepth 100000
set_option maxRecDepth 100000
set_option maxRecDepth 100000
set_option maxRecDepth 100000
set_option maxRecDepth 100000
set_option maxRecDepth 100000
set_option maxRecDepth 100000
set_option maxRecDepth 100000
set_option maxRecDepth 100000
namespace MP
open PySem PySem.Spec PyProof.Rows L2
def txL : List PV → Option (List (List Nat))
  | [] => some []
  | .str s :: r => (match txL r with
    | some l => some (s :: l)
    | none => none)
  | _ => none
end MP
set_option maxRecDepth 100000
set_option maxRecDepth 100000
set_option maxRecDepth 100000
set_option maxRecDepth 100000
namespace MP
open PySem L2 PyProof.Rows
def atmO : PV → Option Atm
  | .non => some .non
  | .int i => some (.int i)
  | .str s => some (.str s)
  | _ => none
def exoV (k : Nat) (ps : List PV) (S : Hs) : RE := match ps with
  | [v] => (match atmO v with
    | some t => .ok (.exo k t) S
    | none => .bad)
  | _ => .bad
section
variable {Z : Sta} {W : WX} {σ : L2.St} {H H1 : Hp} {m m1 m2 : Mp} {X : Cx} {S : Hs} {x y : V} {a : Addr} {lv k i : Nat} {pins : List (Addr × Obj)} {s : Shared} {Q : VK} {N : List Str} {sc : Scope} {vs ls : List Nat} {gs : List Str}
def clsX : PV → Option Nat
  | .st k => if k < 900 then some k else none
  | .ty n => if n = "KeyError" then some 900 else if n = "OverflowError" then some 901 else if n = "RuntimeError" then some 902 else if n = "ValueError" then some 903 else none
  | _ => none
def clsXW (G : Nat → Addr) (c : Nat) : Value := if c = 900 then .type "KeyError" else if c = 901 then .type "OverflowError" else if c = 902 then .type "RuntimeError" else if c = 903 then .type "ValueError" else .ref (G c)
def isiE (isx : Nat → Nat → Option Bool) (isa : IsaT) (ps : List PV) (S : Hs) : RE := match ps with
  | [.exo k _, c] => (match clsX c with
    | some j => okO ((isx k j).map .bl) S
    | none => .bad)
  | ps => isiA isa ps S
abbrev IsxL := List (Nat × List (Nat × Bool))
def isxT (l : IsxL) (k c : Nat) : Option Bool := match l.find? (fun r => Nat.beq r.1 k) with
  | some r => (match r.2.find? (fun e => Nat.beq e.1 c) with
    | some e => some e.2
    | none => none)
  | none => none
def isxB (da ca : List (Fr → Addr)) (l : IsxL) (K : Fr) : Bool := l.all fun r => exB K (GofK da ca K r.1) && r.2.all fun e => kitB K (.ref (GofK da ca K r.1)) (clsXW (GofK da ca K) e.1) e.2
end
end MP
set_option maxRecDepth 100000
set_option maxHeartbeats 0
namespace MP.LW
open PySem L2
def top (i : Nat) : Stmt := PySem.Challenge.pw_signskept_k05_exceptions_apart.main.body.getD i (.Pass ⟨0, 0, 0, 0⟩)
abbrev st0 : Stmt := (top 46)
abbrev st1 : Stmt := (top 47)
abbrev st2 : Stmt := (top 48)
abbrev st3 : Stmt := (top 49)
abbrev st4 : Stmt := (top 50)
abbrev st5 : Stmt := (top 51)
abbrev st6 : Stmt := (top 52)
def da : List (Fr → Addr) := [aG "_law_pool", aG "_law_take", aG "_law_kinds", aG "_law_first_values", aG "_law_values", aG "_law_roots", aG "law"]
def ca : List (Fr → Addr) := [aG "SignsError", aG "BadDress", aG "BadMark", aG "BadNumber", aG "Unlike", aG "BadArity", aG "BadWants", aG "BadOperation", aG "BadOperands", aG "BadTable", aG "BadBlocks", aG "BadStarts", aG "BadRow", aG "BadProgram", aG "BadRoad", aG "BadRun", aG "BadText", aG "BadDraft", aG "BadKind", aG "NotSimple", aG "NoEnd", aG "BadPuts", aG "BadFrequencies", aG "BadFlow", aG "BadFunctions", aG "BadFunction", aG "BadGroup", aG "BadPromises", aG "BadPromise", aG "BadBook", aG "BadBooks", aG "BadTurns", aG "BadChange", aG "BadChosen", aG "Absent", aG "NoOperation", aG "NoBlock", aG "NoPlace", aG "NoVariable", aG "NoEntry", aG "NoFunction", aG "TooLarge", aG "TooMany", aG "NothingToUndo"]
def md0 : MDef := { adr := aG "_law_pool", name := "_law_pool", qual := "_law_pool", params := defArgs st0, body := defBody st0, scope := defScope st0 }
def md1 : MDef := { adr := aG "_law_take", name := "_law_take", qual := "_law_take", params := defArgs st1, body := defBody st1, scope := defScope st1 }
def md2 : MDef := { adr := aG "_law_kinds", name := "_law_kinds", qual := "_law_kinds", params := defArgs st2, body := defBody st2, scope := defScope st2 }
def md3 : MDef := { adr := aG "_law_first_values", name := "_law_first_values", qual := "_law_first_values", params := defArgs st3, body := defBody st3, scope := defScope st3 }
def md4 : MDef := { adr := aG "_law_values", name := "_law_values", qual := "_law_values", params := defArgs st4, body := defBody st4, scope := defScope st4 }
def md5 : MDef := { adr := aG "_law_roots", name := "_law_roots", qual := "_law_roots", params := defArgs st5, body := defBody st5, scope := defScope st5 }
def md6 : MDef := { adr := aG "law", name := "law", qual := "law", params := defArgs st6, body := defBody st6, scope := defScope st6 }
def txL : List DTab := []
abbrev stx_Absent : Stmt := ((clsBody (top 35)).getD 0 (.Pass ⟨0, 0, 0, 0⟩))
def mx_Absent : MDef := { adr := aM "Absent" "__init__", name := "__init__", qual := "Absent.__init__", params := defArgs stx_Absent, body := defBody stx_Absent, scope := defScope stx_Absent, clo := ["__class__"] }
abbrev stx_SignsError : Stmt := ((clsBody (top 1)).getD 0 (.Pass ⟨0, 0, 0, 0⟩))
def mx_SignsError : MDef := { adr := aM "SignsError" "__init__", name := "__init__", qual := "SignsError.__init__", params := defArgs stx_SignsError, body := defBody stx_SignsError, scope := defScope stx_SignsError, clo := ["__class__"] }
abbrev stx_TooLarge : Stmt := ((clsBody (top 42)).getD 0 (.Pass ⟨0, 0, 0, 0⟩))
def mx_TooLarge : MDef := { adr := aM "TooLarge" "__init__", name := "__init__", qual := "TooLarge.__init__", params := defArgs stx_TooLarge, body := defBody stx_TooLarge, scope := defScope stx_TooLarge, clo := ["__class__"] }
abbrev stx_TooMany : Stmt := ((clsBody (top 43)).getD 0 (.Pass ⟨0, 0, 0, 0⟩))
def mx_TooMany : MDef := { adr := aM "TooMany" "__init__", name := "__init__", qual := "TooMany.__init__", params := defArgs stx_TooMany, body := defBody stx_TooMany, scope := defScope stx_TooMany, clo := ["__class__"] }
def dsL : List MDef := [md0, md1, md2, md3, md4, md5, md6, mx_Absent, mx_SignsError, mx_TooLarge, mx_TooMany]
abbrev fileL : Str := PySem.Challenge.pw_signskept_k05_exceptions_apart.main.file
def ct : CmpT := ⟨0, 1, 2, 3, 4, [], []⟩
def isaL : List (Nat × Nat × Bool) := []
def isa (t c : Nat) : Option Bool := match isaL.find? (fun e => Nat.beq e.1 t && Nat.beq e.2.1 c) with
  | some e => some e.2.2
  | none => none
def isxR : IsxL := [(534, [(534, true), (505, false), (510, false), (529, false), (530, false), (532, false), (533, false), (517, false), (501, false), (523, false), (522, false), (525, false), (524, false), (526, false), (518, false), (502, false), (503, false), (508, false), (507, false), (513, false), (528, false), (527, false), (521, false), (514, false), (512, false), (515, false), (511, false), (509, false), (516, false), (531, false), (506, false), (900, true), (536, false), (520, false), (539, false), (540, false), (535, false), (537, false), (538, false), (519, false), (901, false), (902, false), (500, false), (541, false), (542, false), (504, false), (903, false)]),
  (505, [(534, false), (505, true), (510, false), (529, false), (530, false), (532, false), (533, false), (517, false), (501, false), (523, false), (522, false), (525, false), (524, false), (526, false), (518, false), (502, false), (503, false), (508, false), (507, false), (513, false), (528, false), (527, false), (521, false), (514, false), (512, false), (515, false), (511, false), (509, false), (516, false), (531, false), (506, false), (900, false), (536, false), (520, false), (539, false), (540, false), (535, false), (537, false), (538, false), (519, false), (901, false), (902, false), (500, true), (541, false), (542, false), (504, false), (903, true)]),
  (510, [(534, false), (505, false), (510, true), (529, false), (530, false), (532, false), (533, false), (517, false), (501, false), (523, false), (522, false), (525, false), (524, false), (526, false), (518, false), (502, false), (503, false), (508, false), (507, false), (513, false), (528, false), (527, false), (521, false), (514, false), (512, false), (515, false), (511, false), (509, false), (516, false), (531, false), (506, false), (900, false), (536, false), (520, false), (539, false), (540, false), (535, false), (537, false), (538, false), (519, false), (901, false), (902, false), (500, true), (541, false), (542, false), (504, false), (903, true)]),
  (529, [(534, false), (505, false), (510, false), (529, true), (530, false), (532, false), (533, false), (517, false), (501, false), (523, false), (522, false), (525, false), (524, false), (526, false), (518, false), (502, false), (503, false), (508, false), (507, false), (513, false), (528, false), (527, false), (521, false), (514, false), (512, false), (515, false), (511, false), (509, false), (516, false), (531, false), (506, false), (900, false), (536, false), (520, false), (539, false), (540, false), (535, false), (537, false), (538, false), (519, false), (901, false), (902, false), (500, true), (541, false), (542, false), (504, false), (903, true)]),
  (530, [(534, false), (505, false), (510, false), (529, false), (530, true), (532, false), (533, false), (517, false), (501, false), (523, false), (522, false), (525, false), (524, false), (526, false), (518, false), (502, false), (503, false), (508, false), (507, false), (513, false), (528, false), (527, false), (521, false), (514, false), (512, false), (515, false), (511, false), (509, false), (516, false), (531, false), (506, false), (900, false), (536, false), (520, false), (539, false), (540, false), (535, false), (537, false), (538, false), (519, false), (901, false), (902, false), (500, true), (541, false), (542, false), (504, false), (903, true)]),
  (532, [(534, false), (505, false), (510, false), (529, false), (530, false), (532, true), (533, false), (517, false), (501, false), (523, false), (522, false), (525, false), (524, false), (526, false), (518, false), (502, false), (503, false), (508, false), (507, false), (513, false), (528, false), (527, false), (521, false), (514, false), (512, false), (515, false), (511, false), (509, false), (516, false), (531, false), (506, false), (900, false), (536, false), (520, false), (539, false), (540, false), (535, false), (537, false), (538, false), (519, false), (901, false), (902, false), (500, true), (541, false), (542, false), (504, false), (903, true)]),
  (533, [(534, false), (505, false), (510, false), (529, false), (530, false), (532, false), (533, true), (517, false), (501, false), (523, false), (522, false), (525, false), (524, false), (526, false), (518, false), (502, false), (503, false), (508, false), (507, false), (513, false), (528, false), (527, false), (521, false), (514, false), (512, false), (515, false), (511, false), (509, false), (516, false), (531, false), (506, false), (900, false), (536, false), (520, false), (539, false), (540, false), (535, false), (537, false), (538, false), (519, false), (901, false), (902, false), (500, true), (541, false), (542, false), (504, false), (903, true)]),
  (517, [(534, false), (505, false), (510, false), (529, false), (530, false), (532, false), (533, false), (517, true), (501, false), (523, false), (522, false), (525, false), (524, false), (526, false), (518, false), (502, false), (503, false), (508, false), (507, false), (513, false), (528, false), (527, false), (521, false), (514, false), (512, false), (515, false), (511, false), (509, false), (516, false), (531, false), (506, false), (900, false), (536, false), (520, false), (539, false), (540, false), (535, false), (537, false), (538, false), (519, false), (901, false), (902, false), (500, true), (541, false), (542, false), (504, false), (903, true)]),
  (501, [(534, false), (505, false), (510, false), (529, false), (530, false), (532, false), (533, false), (517, false), (501, true), (523, false), (522, false), (525, false), (524, false), (526, false), (518, false), (502, false), (503, false), (508, false), (507, false), (513, false), (528, false), (527, false), (521, false), (514, false), (512, false), (515, false), (511, false), (509, false), (516, false), (531, false), (506, false), (900, false), (536, false), (520, false), (539, false), (540, false), (535, false), (537, false), (538, false), (519, false), (901, false), (902, false), (500, true), (541, false), (542, false), (504, false), (903, true)]),
  (523, [(534, false), (505, false), (510, false), (529, false), (530, false), (532, false), (533, false), (517, false), (501, false), (523, true), (522, false), (525, false), (524, false), (526, false), (518, false), (502, false), (503, false), (508, false), (507, false), (513, false), (528, false), (527, false), (521, false), (514, false), (512, false), (515, false), (511, false), (509, false), (516, false), (531, false), (506, false), (900, false), (536, false), (520, false), (539, false), (540, false), (535, false), (537, false), (538, false), (519, false), (901, false), (902, false), (500, true), (541, false), (542, false), (504, false), (903, true)]),
  (522, [(534, false), (505, false), (510, false), (529, false), (530, false), (532, false), (533, false), (517, false), (501, false), (523, false), (522, true), (525, false), (524, false), (526, false), (518, false), (502, false), (503, false), (508, false), (507, false), (513, false), (528, false), (527, false), (521, false), (514, false), (512, false), (515, false), (511, false), (509, false), (516, false), (531, false), (506, false), (900, false), (536, false), (520, false), (539, false), (540, false), (535, false), (537, false), (538, false), (519, false), (901, false), (902, false), (500, true), (541, false), (542, false), (504, false), (903, true)]),
  (525, [(534, false), (505, false), (510, false), (529, false), (530, false), (532, false), (533, false), (517, false), (501, false), (523, false), (522, false), (525, true), (524, false), (526, false), (518, false), (502, false), (503, false), (508, false), (507, false), (513, false), (528, false), (527, false), (521, false), (514, false), (512, false), (515, false), (511, false), (509, false), (516, false), (531, false), (506, false), (900, false), (536, false), (520, false), (539, false), (540, false), (535, false), (537, false), (538, false), (519, false), (901, false), (902, false), (500, true), (541, false), (542, false), (504, false), (903, true)]),
  (524, [(534, false), (505, false), (510, false), (529, false), (530, false), (532, false), (533, false), (517, false), (501, false), (523, false), (522, false), (525, false), (524, true), (526, false), (518, false), (502, false), (503, false), (508, false), (507, false), (513, false), (528, false), (527, false), (521, false), (514, false), (512, false), (515, false), (511, false), (509, false), (516, false), (531, false), (506, false), (900, false), (536, false), (520, false), (539, false), (540, false), (535, false), (537, false), (538, false), (519, false), (901, false), (902, false), (500, true), (541, false), (542, false), (504, false), (903, true)]),
  (526, [(534, false), (505, false), (510, false), (529, false), (530, false), (532, false), (533, false), (517, false), (501, false), (523, false), (522, false), (525, false), (524, false), (526, true), (518, false), (502, false), (503, false), (508, false), (507, false), (513, false), (528, false), (527, false), (521, false), (514, false), (512, false), (515, false), (511, false), (509, false), (516, false), (531, false), (506, false), (900, false), (536, false), (520, false), (539, false), (540, false), (535, false), (537, false), (538, false), (519, false), (901, false), (902, false), (500, true), (541, false), (542, false), (504, false), (903, true)]),
  (518, [(534, false), (505, false), (510, false), (529, false), (530, false), (532, false), (533, false), (517, false), (501, false), (523, false), (522, false), (525, false), (524, false), (526, false), (518, true), (502, false), (503, false), (508, false), (507, false), (513, false), (528, false), (527, false), (521, false), (514, false), (512, false), (515, false), (511, false), (509, false), (516, false), (531, false), (506, false), (900, false), (536, false), (520, false), (539, false), (540, false), (535, false), (537, false), (538, false), (519, false), (901, false), (902, false), (500, true), (541, false), (542, false), (504, false), (903, true)]),
  (502, [(534, false), (505, false), (510, false), (529, false), (530, false), (532, false), (533, false), (517, false), (501, false), (523, false), (522, false), (525, false), (524, false), (526, false), (518, false), (502, true), (503, false), (508, false), (507, false), (513, false), (528, false), (527, false), (521, false), (514, false), (512, false), (515, false), (511, false), (509, false), (516, false), (531, false), (506, false), (900, false), (536, false), (520, false), (539, false), (540, false), (535, false), (537, false), (538, false), (519, false), (901, false), (902, false), (500, true), (541, false), (542, false), (504, false), (903, true)]),
  (503, [(534, false), (505, false), (510, false), (529, false), (530, false), (532, false), (533, false), (517, false), (501, false), (523, false), (522, false), (525, false), (524, false), (526, false), (518, false), (502, false), (503, true), (508, false), (507, false), (513, false), (528, false), (527, false), (521, false), (514, false), (512, false), (515, false), (511, false), (509, false), (516, false), (531, false), (506, false), (900, false), (536, false), (520, false), (539, false), (540, false), (535, false), (537, false), (538, false), (519, false), (901, false), (902, false), (500, true), (541, false), (542, false), (504, false), (903, true)]),
  (508, [(534, false), (505, false), (510, false), (529, false), (530, false), (532, false), (533, false), (517, false), (501, false), (523, false), (522, false), (525, false), (524, false), (526, false), (518, false), (502, false), (503, false), (508, true), (507, false), (513, false), (528, false), (527, false), (521, false), (514, false), (512, false), (515, false), (511, false), (509, false), (516, false), (531, false), (506, false), (900, false), (536, false), (520, false), (539, false), (540, false), (535, false), (537, false), (538, false), (519, false), (901, false), (902, false), (500, true), (541, false), (542, false), (504, false), (903, true)]),
  (507, [(534, false), (505, false), (510, false), (529, false), (530, false), (532, false), (533, false), (517, false), (501, false), (523, false), (522, false), (525, false), (524, false), (526, false), (518, false), (502, false), (503, false), (508, false), (507, true), (513, false), (528, false), (527, false), (521, false), (514, false), (512, false), (515, false), (511, false), (509, false), (516, false), (531, false), (506, false), (900, false), (536, false), (520, false), (539, false), (540, false), (535, false), (537, false), (538, false), (519, false), (901, false), (902, false), (500, true), (541, false), (542, false), (504, false), (903, true)]),
  (513, [(534, false), (505, false), (510, false), (529, false), (530, false), (532, false), (533, false), (517, false), (501, false), (523, false), (522, false), (525, false), (524, false), (526, false), (518, false), (502, false), (503, false), (508, false), (507, false), (513, true), (528, false), (527, false), (521, false), (514, false), (512, false), (515, false), (511, false), (509, false), (516, false), (531, false), (506, false), (900, false), (536, false), (520, false), (539, false), (540, false), (535, false), (537, false), (538, false), (519, false), (901, false), (902, false), (500, true), (541, false), (542, false), (504, false), (903, true)]),
  (528, [(534, false), (505, false), (510, false), (529, false), (530, false), (532, false), (533, false), (517, false), (501, false), (523, false), (522, false), (525, false), (524, false), (526, false), (518, false), (502, false), (503, false), (508, false), (507, false), (513, false), (528, true), (527, false), (521, false), (514, false), (512, false), (515, false), (511, false), (509, false), (516, false), (531, false), (506, false), (900, false), (536, false), (520, false), (539, false), (540, false), (535, false), (537, false), (538, false), (519, false), (901, false), (902, false), (500, true), (541, false), (542, false), (504, false), (903, true)]),
  (527, [(534, false), (505, false), (510, false), (529, false), (530, false), (532, false), (533, false), (517, false), (501, false), (523, false), (522, false), (525, false), (524, false), (526, false), (518, false), (502, false), (503, false), (508, false), (507, false), (513, false), (528, false), (527, true), (521, false), (514, false), (512, false), (515, false), (511, false), (509, false), (516, false), (531, false), (506, false), (900, false), (536, false), (520, false), (539, false), (540, false), (535, false), (537, false), (538, false), (519, false), (901, false), (902, false), (500, true), (541, false), (542, false), (504, false), (903, true)]),
  (521, [(534, false), (505, false), (510, false), (529, false), (530, false), (532, false), (533, false), (517, false), (501, false), (523, false), (522, false), (525, false), (524, false), (526, false), (518, false), (502, false), (503, false), (508, false), (507, false), (513, false), (528, false), (527, false), (521, true), (514, false), (512, false), (515, false), (511, false), (509, false), (516, false), (531, false), (506, false), (900, false), (536, false), (520, false), (539, false), (540, false), (535, false), (537, false), (538, false), (519, false), (901, false), (902, false), (500, true), (541, false), (542, false), (504, false), (903, true)]),
  (514, [(534, false), (505, false), (510, false), (529, false), (530, false), (532, false), (533, false), (517, false), (501, false), (523, false), (522, false), (525, false), (524, false), (526, false), (518, false), (502, false), (503, false), (508, false), (507, false), (513, false), (528, false), (527, false), (521, false), (514, true), (512, false), (515, false), (511, false), (509, false), (516, false), (531, false), (506, false), (900, false), (536, false), (520, false), (539, false), (540, false), (535, false), (537, false), (538, false), (519, false), (901, false), (902, false), (500, true), (541, false), (542, false), (504, false), (903, true)]),
  (512, [(534, false), (505, false), (510, false), (529, false), (530, false), (532, false), (533, false), (517, false), (501, false), (523, false), (522, false), (525, false), (524, false), (526, false), (518, false), (502, false), (503, false), (508, false), (507, false), (513, false), (528, false), (527, false), (521, false), (514, false), (512, true), (515, false), (511, false), (509, false), (516, false), (531, false), (506, false), (900, false), (536, false), (520, false), (539, false), (540, false), (535, false), (537, false), (538, false), (519, false), (901, false), (902, false), (500, true), (541, false), (542, false), (504, false), (903, true)]),
  (515, [(534, false), (505, false), (510, false), (529, false), (530, false), (532, false), (533, false), (517, false), (501, false), (523, false), (522, false), (525, false), (524, false), (526, false), (518, false), (502, false), (503, false), (508, false), (507, false), (513, false), (528, false), (527, false), (521, false), (514, false), (512, false), (515, true), (511, false), (509, false), (516, false), (531, false), (506, false), (900, false), (536, false), (520, false), (539, false), (540, false), (535, false), (537, false), (538, false), (519, false), (901, false), (902, false), (500, true), (541, false), (542, false), (504, false), (903, true)]),
  (511, [(534, false), (505, false), (510, false), (529, false), (530, false), (532, false), (533, false), (517, false), (501, false), (523, false), (522, false), (525, false), (524, false), (526, false), (518, false), (502, false), (503, false), (508, false), (507, false), (513, false), (528, false), (527, false), (521, false), (514, false), (512, false), (515, false), (511, true), (509, false), (516, false), (531, false), (506, false), (900, false), (536, false), (520, false), (539, false), (540, false), (535, false), (537, false), (538, false), (519, false), (901, false), (902, false), (500, true), (541, false), (542, false), (504, false), (903, true)]),
  (509, [(534, false), (505, false), (510, false), (529, false), (530, false), (532, false), (533, false), (517, false), (501, false), (523, false), (522, false), (525, false), (524, false), (526, false), (518, false), (502, false), (503, false), (508, false), (507, false), (513, false), (528, false), (527, false), (521, false), (514, false), (512, false), (515, false), (511, false), (509, true), (516, false), (531, false), (506, false), (900, false), (536, false), (520, false), (539, false), (540, false), (535, false), (537, false), (538, false), (519, false), (901, false), (902, false), (500, true), (541, false), (542, false), (504, false), (903, true)]),
  (516, [(534, false), (505, false), (510, false), (529, false), (530, false), (532, false), (533, false), (517, false), (501, false), (523, false), (522, false), (525, false), (524, false), (526, false), (518, false), (502, false), (503, false), (508, false), (507, false), (513, false), (528, false), (527, false), (521, false), (514, false), (512, false), (515, false), (511, false), (509, false), (516, true), (531, false), (506, false), (900, false), (536, false), (520, false), (539, false), (540, false), (535, false), (537, false), (538, false), (519, false), (901, false), (902, false), (500, true), (541, false), (542, false), (504, false), (903, true)]),
  (531, [(534, false), (505, false), (510, false), (529, false), (530, false), (532, false), (533, false), (517, false), (501, false), (523, false), (522, false), (525, false), (524, false), (526, false), (518, false), (502, false), (503, false), (508, false), (507, false), (513, false), (528, false), (527, false), (521, false), (514, false), (512, false), (515, false), (511, false), (509, false), (516, false), (531, true), (506, false), (900, false), (536, false), (520, false), (539, false), (540, false), (535, false), (537, false), (538, false), (519, false), (901, false), (902, false), (500, true), (541, false), (542, false), (504, false), (903, true)]),
  (506, [(534, false), (505, false), (510, false), (529, false), (530, false), (532, false), (533, false), (517, false), (501, false), (523, false), (522, false), (525, false), (524, false), (526, false), (518, false), (502, false), (503, false), (508, false), (507, false), (513, false), (528, false), (527, false), (521, false), (514, false), (512, false), (515, false), (511, false), (509, false), (516, false), (531, false), (506, true), (900, false), (536, false), (520, false), (539, false), (540, false), (535, false), (537, false), (538, false), (519, false), (901, false), (902, false), (500, true), (541, false), (542, false), (504, false), (903, true)]),
  (536, [(534, true), (505, false), (510, false), (529, false), (530, false), (532, false), (533, false), (517, false), (501, false), (523, false), (522, false), (525, false), (524, false), (526, false), (518, false), (502, false), (503, false), (508, false), (507, false), (513, false), (528, false), (527, false), (521, false), (514, false), (512, false), (515, false), (511, false), (509, false), (516, false), (531, false), (506, false), (900, true), (536, true), (520, false), (539, false), (540, false), (535, false), (537, false), (538, false), (519, false), (901, false), (902, false), (500, false), (541, false), (542, false), (504, false), (903, false)]),
  (520, [(534, false), (505, false), (510, false), (529, false), (530, false), (532, false), (533, false), (517, false), (501, false), (523, false), (522, false), (525, false), (524, false), (526, false), (518, false), (502, false), (503, false), (508, false), (507, false), (513, false), (528, false), (527, false), (521, false), (514, false), (512, false), (515, false), (511, false), (509, false), (516, false), (531, false), (506, false), (900, false), (536, false), (520, true), (539, false), (540, false), (535, false), (537, false), (538, false), (519, false), (901, false), (902, false), (500, true), (541, false), (542, false), (504, false), (903, true)]),
  (539, [(534, true), (505, false), (510, false), (529, false), (530, false), (532, false), (533, false), (517, false), (501, false), (523, false), (522, false), (525, false), (524, false), (526, false), (518, false), (502, false), (503, false), (508, false), (507, false), (513, false), (528, false), (527, false), (521, false), (514, false), (512, false), (515, false), (511, false), (509, false), (516, false), (531, false), (506, false), (900, true), (536, false), (520, false), (539, true), (540, false), (535, false), (537, false), (538, false), (519, false), (901, false), (902, false), (500, false), (541, false), (542, false), (504, false), (903, false)]),
  (540, [(534, true), (505, false), (510, false), (529, false), (530, false), (532, false), (533, false), (517, false), (501, false), (523, false), (522, false), (525, false), (524, false), (526, false), (518, false), (502, false), (503, false), (508, false), (507, false), (513, false), (528, false), (527, false), (521, false), (514, false), (512, false), (515, false), (511, false), (509, false), (516, false), (531, false), (506, false), (900, true), (536, false), (520, false), (539, false), (540, true), (535, false), (537, false), (538, false), (519, false), (901, false), (902, false), (500, false), (541, false), (542, false), (504, false), (903, false)]),
  (535, [(534, true), (505, false), (510, false), (529, false), (530, false), (532, false), (533, false), (517, false), (501, false), (523, false), (522, false), (525, false), (524, false), (526, false), (518, false), (502, false), (503, false), (508, false), (507, false), (513, false), (528, false), (527, false), (521, false), (514, false), (512, false), (515, false), (511, false), (509, false), (516, false), (531, false), (506, false), (900, true), (536, false), (520, false), (539, false), (540, false), (535, true), (537, false), (538, false), (519, false), (901, false), (902, false), (500, false), (541, false), (542, false), (504, false), (903, false)]),
  (537, [(534, true), (505, false), (510, false), (529, false), (530, false), (532, false), (533, false), (517, false), (501, false), (523, false), (522, false), (525, false), (524, false), (526, false), (518, false), (502, false), (503, false), (508, false), (507, false), (513, false), (528, false), (527, false), (521, false), (514, false), (512, false), (515, false), (511, false), (509, false), (516, false), (531, false), (506, false), (900, true), (536, false), (520, false), (539, false), (540, false), (535, false), (537, true), (538, false), (519, false), (901, false), (902, false), (500, false), (541, false), (542, false), (504, false), (903, false)]),
  (538, [(534, true), (505, false), (510, false), (529, false), (530, false), (532, false), (533, false), (517, false), (501, false), (523, false), (522, false), (525, false), (524, false), (526, false), (518, false), (502, false), (503, false), (508, false), (507, false), (513, false), (528, false), (527, false), (521, false), (514, false), (512, false), (515, false), (511, false), (509, false), (516, false), (531, false), (506, false), (900, true), (536, false), (520, false), (539, false), (540, false), (535, false), (537, false), (538, true), (519, false), (901, false), (902, false), (500, false), (541, false), (542, false), (504, false), (903, false)]),
  (519, [(534, false), (505, false), (510, false), (529, false), (530, false), (532, false), (533, false), (517, false), (501, false), (523, false), (522, false), (525, false), (524, false), (526, false), (518, false), (502, false), (503, false), (508, false), (507, false), (513, false), (528, false), (527, false), (521, false), (514, false), (512, false), (515, false), (511, false), (509, false), (516, false), (531, false), (506, false), (900, false), (536, false), (520, false), (539, false), (540, false), (535, false), (537, false), (538, false), (519, true), (901, false), (902, false), (500, true), (541, false), (542, false), (504, false), (903, true)]),
  (543, [(534, false), (505, false), (510, false), (529, false), (530, false), (532, false), (533, false), (517, false), (501, false), (523, false), (522, false), (525, false), (524, false), (526, false), (518, false), (502, false), (503, false), (508, false), (507, false), (513, false), (528, false), (527, false), (521, false), (514, false), (512, false), (515, false), (511, false), (509, false), (516, false), (531, false), (506, false), (900, false), (536, false), (520, false), (539, false), (540, false), (535, false), (537, false), (538, false), (519, false), (901, false), (902, true), (500, false), (541, false), (542, false), (504, false), (903, false)]),
  (500, [(534, false), (505, false), (510, false), (529, false), (530, false), (532, false), (533, false), (517, false), (501, false), (523, false), (522, false), (525, false), (524, false), (526, false), (518, false), (502, false), (503, false), (508, false), (507, false), (513, false), (528, false), (527, false), (521, false), (514, false), (512, false), (515, false), (511, false), (509, false), (516, false), (531, false), (506, false), (900, false), (536, false), (520, false), (539, false), (540, false), (535, false), (537, false), (538, false), (519, false), (901, false), (902, false), (500, true), (541, false), (542, false), (504, false), (903, true)]),
  (541, [(534, false), (505, false), (510, false), (529, false), (530, false), (532, false), (533, false), (517, false), (501, false), (523, false), (522, false), (525, false), (524, false), (526, false), (518, false), (502, false), (503, false), (508, false), (507, false), (513, false), (528, false), (527, false), (521, false), (514, false), (512, false), (515, false), (511, false), (509, false), (516, false), (531, false), (506, false), (900, false), (536, false), (520, false), (539, false), (540, false), (535, false), (537, false), (538, false), (519, false), (901, true), (902, false), (500, false), (541, true), (542, false), (504, false), (903, false)]),
  (542, [(534, false), (505, false), (510, false), (529, false), (530, false), (532, false), (533, false), (517, false), (501, false), (523, false), (522, false), (525, false), (524, false), (526, false), (518, false), (502, false), (503, false), (508, false), (507, false), (513, false), (528, false), (527, false), (521, false), (514, false), (512, false), (515, false), (511, false), (509, false), (516, false), (531, false), (506, false), (900, false), (536, false), (520, false), (539, false), (540, false), (535, false), (537, false), (538, false), (519, false), (901, true), (902, false), (500, false), (541, false), (542, true), (504, false), (903, false)]),
  (504, [(534, false), (505, false), (510, false), (529, false), (530, false), (532, false), (533, false), (517, false), (501, false), (523, false), (522, false), (525, false), (524, false), (526, false), (518, false), (502, false), (503, false), (508, false), (507, false), (513, false), (528, false), (527, false), (521, false), (514, false), (512, false), (515, false), (511, false), (509, false), (516, false), (531, false), (506, false), (900, false), (536, false), (520, false), (539, false), (540, false), (535, false), (537, false), (538, false), (519, false), (901, false), (902, false), (500, true), (541, false), (542, false), (504, true), (903, true)])]
def e1 (T : Tab) : Loc → Hs → RS :=
    (seqS (ifS (cmpB (binE (binE (varE 0) (conE (.int 0)) ixV2) (conE (.int 0)) (cmpD2 T ct .Gt)))
    (seqS (asgS (binE (bltE (consA (binE (varE 0) (conE (.int 0)) ixV2) nilA) intV1) (varE 1) (binV .Mod true)) (nameT 2))
    (seqS (asgS (binE (binE (varE 0) (conE (.int 0)) ixV2) (varE 1) (binV .FloorDiv true)) (subT2 (varE 0) (conE (.int 0))))
    (seqS (retS (varE 2))
    nilS)))
    nilS)
    (seqS (asgS (binE (bltE (consA (binE (binE (binE (varE 0) (conE (.int 1)) ixV2) (conE (.int 48271)) (binV .Mult true)) (conE (.int 11)) (binV .Add true)) nilA) intV1) (conE (.int 2147483647)) (binV .Mod true)) (subT2 (varE 0) (conE (.int 1))))
    (seqS (retS (binE (binE (binE (bltE (consA (binE (binE (varE 0) (conE (.int 1)) ixV2) (binE (varE 0) (conE (.int 1)) ixV2) (binV .Mult true)) nilA) intV1) (conE (.int 2147483629)) (binV .Mod true)) (conE (.int 64)) (binV .FloorDiv true)) (varE 1) (binV .Mod true)))
    nilS)))
def e2 (T : Tab) : Loc → Hs → RS :=
    (seqS (asgS (lstE true nilA) (nameT 1))
    (seqS (asgS (binE (varE 1) (lstE true (consA (bltE (consA (varE 0) (consA (conE (.st 501)) nilA)) (isiE (isxT isxR) isa)) (consA (bltE (consA (varE 0) (consA (conE (.st 502)) nilA)) (isiE (isxT isxR) isa)) (consA (bltE (consA (varE 0) (consA (conE (.st 503)) nilA)) (isiE (isxT isxR) isa)) nilA)))) (binV .Add true)) (nameT 1))
    (seqS (asgS (binE (varE 1) (lstE true (consA (bltE (consA (varE 0) (consA (conE (.st 504)) nilA)) (isiE (isxT isxR) isa)) (consA (bltE (consA (varE 0) (consA (conE (.st 505)) nilA)) (isiE (isxT isxR) isa)) (consA (bltE (consA (varE 0) (consA (conE (.st 506)) nilA)) (isiE (isxT isxR) isa)) nilA)))) (binV .Add true)) (nameT 1))
    (seqS (asgS (binE (varE 1) (lstE true (consA (bltE (consA (varE 0) (consA (conE (.st 507)) nilA)) (isiE (isxT isxR) isa)) (consA (bltE (consA (varE 0) (consA (conE (.st 508)) nilA)) (isiE (isxT isxR) isa)) (consA (bltE (consA (varE 0) (consA (conE (.st 509)) nilA)) (isiE (isxT isxR) isa)) nilA)))) (binV .Add true)) (nameT 1))
    (seqS (asgS (binE (varE 1) (lstE true (consA (bltE (consA (varE 0) (consA (conE (.st 510)) nilA)) (isiE (isxT isxR) isa)) (consA (bltE (consA (varE 0) (consA (conE (.st 511)) nilA)) (isiE (isxT isxR) isa)) (consA (bltE (consA (varE 0) (consA (conE (.st 512)) nilA)) (isiE (isxT isxR) isa)) nilA)))) (binV .Add true)) (nameT 1))
    (seqS (asgS (binE (varE 1) (lstE true (consA (bltE (consA (varE 0) (consA (conE (.st 513)) nilA)) (isiE (isxT isxR) isa)) (consA (bltE (consA (varE 0) (consA (conE (.st 514)) nilA)) (isiE (isxT isxR) isa)) (consA (bltE (consA (varE 0) (consA (conE (.st 515)) nilA)) (isiE (isxT isxR) isa)) nilA)))) (binV .Add true)) (nameT 1))
    (seqS (asgS (binE (varE 1) (lstE true (consA (bltE (consA (varE 0) (consA (conE (.st 516)) nilA)) (isiE (isxT isxR) isa)) (consA (bltE (consA (varE 0) (consA (conE (.st 517)) nilA)) (isiE (isxT isxR) isa)) (consA (bltE (consA (varE 0) (consA (conE (.st 518)) nilA)) (isiE (isxT isxR) isa)) nilA)))) (binV .Add true)) (nameT 1))
    (seqS (asgS (binE (varE 1) (lstE true (consA (bltE (consA (varE 0) (consA (conE (.st 519)) nilA)) (isiE (isxT isxR) isa)) (consA (bltE (consA (varE 0) (consA (conE (.st 520)) nilA)) (isiE (isxT isxR) isa)) (consA (bltE (consA (varE 0) (consA (conE (.st 521)) nilA)) (isiE (isxT isxR) isa)) nilA)))) (binV .Add true)) (nameT 1))
    (seqS (asgS (binE (varE 1) (lstE true (consA (bltE (consA (varE 0) (consA (conE (.st 522)) nilA)) (isiE (isxT isxR) isa)) (consA (bltE (consA (varE 0) (consA (conE (.st 523)) nilA)) (isiE (isxT isxR) isa)) (consA (bltE (consA (varE 0) (consA (conE (.st 524)) nilA)) (isiE (isxT isxR) isa)) nilA)))) (binV .Add true)) (nameT 1))
    (seqS (asgS (binE (varE 1) (lstE true (consA (bltE (consA (varE 0) (consA (conE (.st 525)) nilA)) (isiE (isxT isxR) isa)) (consA (bltE (consA (varE 0) (consA (conE (.st 526)) nilA)) (isiE (isxT isxR) isa)) (consA (bltE (consA (varE 0) (consA (conE (.st 527)) nilA)) (isiE (isxT isxR) isa)) nilA)))) (binV .Add true)) (nameT 1))
    (seqS (asgS (binE (varE 1) (lstE true (consA (bltE (consA (varE 0) (consA (conE (.st 528)) nilA)) (isiE (isxT isxR) isa)) (consA (bltE (consA (varE 0) (consA (conE (.st 529)) nilA)) (isiE (isxT isxR) isa)) (consA (bltE (consA (varE 0) (consA (conE (.st 530)) nilA)) (isiE (isxT isxR) isa)) nilA)))) (binV .Add true)) (nameT 1))
    (seqS (asgS (binE (varE 1) (lstE true (consA (bltE (consA (varE 0) (consA (conE (.st 531)) nilA)) (isiE (isxT isxR) isa)) (consA (bltE (consA (varE 0) (consA (conE (.st 532)) nilA)) (isiE (isxT isxR) isa)) (consA (bltE (consA (varE 0) (consA (conE (.st 533)) nilA)) (isiE (isxT isxR) isa)) nilA)))) (binV .Add true)) (nameT 1))
    (seqS (asgS (binE (varE 1) (lstE true (consA (bltE (consA (varE 0) (consA (conE (.st 535)) nilA)) (isiE (isxT isxR) isa)) (consA (bltE (consA (varE 0) (consA (conE (.st 536)) nilA)) (isiE (isxT isxR) isa)) (consA (bltE (consA (varE 0) (consA (conE (.st 537)) nilA)) (isiE (isxT isxR) isa)) nilA)))) (binV .Add true)) (nameT 1))
    (seqS (asgS (binE (varE 1) (lstE true (consA (bltE (consA (varE 0) (consA (conE (.st 538)) nilA)) (isiE (isxT isxR) isa)) (consA (bltE (consA (varE 0) (consA (conE (.st 539)) nilA)) (isiE (isxT isxR) isa)) (consA (bltE (consA (varE 0) (consA (conE (.st 540)) nilA)) (isiE (isxT isxR) isa)) nilA)))) (binV .Add true)) (nameT 1))
    (seqS (asgS (binE (varE 1) (lstE true (consA (bltE (consA (varE 0) (consA (conE (.st 541)) nilA)) (isiE (isxT isxR) isa)) (consA (bltE (consA (varE 0) (consA (conE (.st 542)) nilA)) (isiE (isxT isxR) isa)) nilA))) (binV .Add true)) (nameT 1))
    (seqS (retS (varE 1))
    nilS))))))))))))))))
def e3 (T : Tab) : Loc → Hs → RS :=
    (seqS (asgS (lstE true nilA) (nameT 1))
    (seqS (asgS (binE (varE 1) (lstE true (consA (bltE (consA (varE 0) nilA) (exoV 501)) (consA (bltE (consA (varE 0) nilA) (exoV 502)) (consA (bltE (consA (varE 0) nilA) (exoV 503)) (consA (bltE (consA (varE 0) nilA) (exoV 504)) (consA (bltE (consA (varE 0) nilA) (exoV 505)) nilA)))))) (binV .Add true)) (nameT 1))
    (seqS (asgS (binE (varE 1) (lstE true (consA (bltE (consA (varE 0) nilA) (exoV 506)) (consA (bltE (consA (varE 0) nilA) (exoV 507)) (consA (bltE (consA (varE 0) nilA) (exoV 508)) (consA (bltE (consA (varE 0) nilA) (exoV 509)) (consA (bltE (consA (varE 0) nilA) (exoV 510)) nilA)))))) (binV .Add true)) (nameT 1))
    (seqS (asgS (binE (varE 1) (lstE true (consA (bltE (consA (varE 0) nilA) (exoV 511)) (consA (bltE (consA (varE 0) nilA) (exoV 512)) (consA (bltE (consA (varE 0) nilA) (exoV 513)) (consA (bltE (consA (varE 0) nilA) (exoV 514)) (consA (bltE (consA (varE 0) nilA) (exoV 515)) nilA)))))) (binV .Add true)) (nameT 1))
    (seqS (asgS (binE (varE 1) (lstE true (consA (bltE (consA (varE 0) nilA) (exoV 516)) (consA (bltE (consA (varE 0) nilA) (exoV 517)) (consA (bltE (consA (varE 0) nilA) (exoV 518)) (consA (bltE (consA (varE 0) nilA) (exoV 519)) (consA (bltE (consA (varE 0) nilA) (exoV 520)) nilA)))))) (binV .Add true)) (nameT 1))
    (seqS (asgS (binE (varE 1) (lstE true (consA (bltE (consA (varE 0) nilA) (exoV 521)) (consA (bltE (consA (varE 0) nilA) (exoV 522)) (consA (bltE (consA (varE 0) nilA) (exoV 523)) (consA (bltE (consA (varE 0) nilA) (exoV 524)) (consA (bltE (consA (varE 0) nilA) (exoV 525)) nilA)))))) (binV .Add true)) (nameT 1))
    (seqS (asgS (binE (varE 1) (lstE true (consA (bltE (consA (varE 0) nilA) (exoV 526)) (consA (bltE (consA (varE 0) nilA) (exoV 527)) (consA (bltE (consA (varE 0) nilA) (exoV 528)) (consA (bltE (consA (varE 0) nilA) (exoV 529)) (consA (bltE (consA (varE 0) nilA) (exoV 530)) nilA)))))) (binV .Add true)) (nameT 1))
    (seqS (asgS (binE (varE 1) (lstE true (consA (bltE (consA (varE 0) nilA) (exoV 531)) (consA (bltE (consA (varE 0) nilA) (exoV 532)) (consA (bltE (consA (varE 0) nilA) (exoV 533)) nilA)))) (binV .Add true)) (nameT 1))
    (seqS (retS (varE 1))
    nilS)))))))))
def e4 (T : Tab) : Loc → Hs → RS :=
    (seqS (asgS (callE 1 0 (consA (varE 0) nilA) nilA fun vs qs => useC true (T.run 3) ((fun vs _ => vs) vs qs)) (nameT 1))
    (seqS (asgS (binE (varE 1) (lstE true (consA (bltE (consA (varE 0) nilA) (exoV 535)) (consA (bltE (consA (varE 0) nilA) (exoV 536)) (consA (bltE (consA (varE 0) nilA) (exoV 537)) (consA (bltE (consA (varE 0) nilA) (exoV 538)) (consA (bltE (consA (varE 0) nilA) (exoV 539)) nilA)))))) (binV .Add true)) (nameT 1))
    (seqS (asgS (binE (varE 1) (lstE true (consA (bltE (consA (varE 0) nilA) (exoV 540)) (consA (bltE (consA (varE 0) nilA) (exoV 541)) (consA (bltE (consA (varE 0) nilA) (exoV 542)) nilA)))) (binV .Add true)) (nameT 1))
    (seqS (retS (varE 1))
    nilS))))
def exL : List (Fr → Bool) := [fun K => gloK K "law" (aG "law" K),
  fun K => isxB da ca isxR K,
  fun K => freK K "int",
  fun K => freK K "len",
  fun K => gloK K "TooMany" (aG "TooMany" K),
  fun K => freK K "isinstance",
  fun K => gloK K "TooLarge" (aG "TooLarge" K),
  fun K => gloK K "NoFunction" (aG "NoFunction" K),
  fun K => gloK K "NoEntry" (aG "NoEntry" K),
  fun K => gloK K "NoVariable" (aG "NoVariable" K),
  fun K => gloK K "NoPlace" (aG "NoPlace" K),
  fun K => gloK K "NoBlock" (aG "NoBlock" K),
  fun K => gloK K "NoOperation" (aG "NoOperation" K),
  fun K => gloK K "BadChosen" (aG "BadChosen" K),
  fun K => gloK K "BadChange" (aG "BadChange" K),
  fun K => gloK K "BadTurns" (aG "BadTurns" K),
  fun K => gloK K "BadBooks" (aG "BadBooks" K),
  fun K => gloK K "BadBook" (aG "BadBook" K),
  fun K => gloK K "BadPromise" (aG "BadPromise" K),
  fun K => gloK K "BadPromises" (aG "BadPromises" K),
  fun K => gloK K "BadGroup" (aG "BadGroup" K),
  fun K => gloK K "BadFunction" (aG "BadFunction" K),
  fun K => gloK K "BadFunctions" (aG "BadFunctions" K),
  fun K => gloK K "BadFlow" (aG "BadFlow" K),
  fun K => gloK K "BadFrequencies" (aG "BadFrequencies" K),
  fun K => gloK K "BadPuts" (aG "BadPuts" K),
  fun K => gloK K "NoEnd" (aG "NoEnd" K),
  fun K => gloK K "NotSimple" (aG "NotSimple" K),
  fun K => gloK K "BadKind" (aG "BadKind" K),
  fun K => gloK K "BadDraft" (aG "BadDraft" K),
  fun K => gloK K "BadText" (aG "BadText" K),
  fun K => gloK K "BadRun" (aG "BadRun" K),
  fun K => gloK K "BadRoad" (aG "BadRoad" K),
  fun K => gloK K "BadProgram" (aG "BadProgram" K),
  fun K => gloK K "BadRow" (aG "BadRow" K),
  fun K => gloK K "BadStarts" (aG "BadStarts" K),
  fun K => gloK K "BadBlocks" (aG "BadBlocks" K),
  fun K => gloK K "BadTable" (aG "BadTable" K),
  fun K => gloK K "BadOperands" (aG "BadOperands" K),
  fun K => gloK K "BadOperation" (aG "BadOperation" K),
  fun K => gloK K "BadWants" (aG "BadWants" K),
  fun K => gloK K "BadArity" (aG "BadArity" K),
  fun K => gloK K "Unlike" (aG "Unlike" K),
  fun K => gloK K "BadNumber" (aG "BadNumber" K),
  fun K => gloK K "BadMark" (aG "BadMark" K),
  fun K => gloK K "BadDress" (aG "BadDress" K),
  fun K => gloK K "_law_first_values" (aG "_law_first_values" K),
  fun K => gloK K "Absent" (aG "Absent" K),
  fun K => freK K "RuntimeError",
  fun K => freK K "OverflowError",
  fun K => freK K "KeyError",
  fun K => freK K "ValueError",
  fun K => gloK K "SignsError" (aG "SignsError" K),
  fun K => freK K "min",
  fun K => freK K "max",
  fun K => freK K "range",
  fun K => gloK K "_law_take" (aG "_law_take" K),
  fun K => gloK K "NothingToUndo" (aG "NothingToUndo" K),
  fun K => gloK K "_law_roots" (aG "_law_roots" K),
  fun K => gloK K "_law_kinds" (aG "_law_kinds" K),
  fun K => gloK K "_law_values" (aG "_law_values" K),
  fun K => gloK K "_law_pool" (aG "_law_pool" K),
  fun K => freK K "super",
  fun K => supB K (mx_Absent.adr K) (aG "Absent" K) fileL,
  fun K => supB K (mx_SignsError.adr K) (aG "SignsError" K) fileL,
  fun K => supB K (mx_TooLarge.adr K) (aG "TooLarge" K) fileL,
  fun K => supB K (mx_TooMany.adr K) (aG "TooMany" K) fileL,
  fun K => oexB K (aG "Absent" K) (aG "Absent" K) (mx_Absent.adr K) "KeyError" "LookupError.__new__" "KeyError.__init__" [.type "KeyError", .type "LookupError", .type "Exception", .type "BaseException", .type "object"],
  fun K => exB K (aG "Absent" K),
  fun K => oexB K (aG "BadArity" K) (aG "SignsError" K) (mx_SignsError.adr K) "ValueError" "ValueError.__new__" "ValueError.__init__" [.type "ValueError", .type "Exception", .type "BaseException", .type "object"],
  fun K => exB K (aG "BadArity" K),
  fun K => oexB K (aG "BadBlocks" K) (aG "SignsError" K) (mx_SignsError.adr K) "ValueError" "ValueError.__new__" "ValueError.__init__" [.type "ValueError", .type "Exception", .type "BaseException", .type "object"],
  fun K => exB K (aG "BadBlocks" K),
  fun K => oexB K (aG "BadBook" K) (aG "SignsError" K) (mx_SignsError.adr K) "ValueError" "ValueError.__new__" "ValueError.__init__" [.type "ValueError", .type "Exception", .type "BaseException", .type "object"],
  fun K => exB K (aG "BadBook" K),
  fun K => oexB K (aG "BadBooks" K) (aG "SignsError" K) (mx_SignsError.adr K) "ValueError" "ValueError.__new__" "ValueError.__init__" [.type "ValueError", .type "Exception", .type "BaseException", .type "object"],
  fun K => exB K (aG "BadBooks" K),
  fun K => oexB K (aG "BadChange" K) (aG "SignsError" K) (mx_SignsError.adr K) "ValueError" "ValueError.__new__" "ValueError.__init__" [.type "ValueError", .type "Exception", .type "BaseException", .type "object"],
  fun K => exB K (aG "BadChange" K),
  fun K => oexB K (aG "BadChosen" K) (aG "SignsError" K) (mx_SignsError.adr K) "ValueError" "ValueError.__new__" "ValueError.__init__" [.type "ValueError", .type "Exception", .type "BaseException", .type "object"],
  fun K => exB K (aG "BadChosen" K),
  fun K => oexB K (aG "BadDraft" K) (aG "SignsError" K) (mx_SignsError.adr K) "ValueError" "ValueError.__new__" "ValueError.__init__" [.type "ValueError", .type "Exception", .type "BaseException", .type "object"],
  fun K => exB K (aG "BadDraft" K),
  fun K => oexB K (aG "BadDress" K) (aG "SignsError" K) (mx_SignsError.adr K) "ValueError" "ValueError.__new__" "ValueError.__init__" [.type "ValueError", .type "Exception", .type "BaseException", .type "object"],
  fun K => exB K (aG "BadDress" K),
  fun K => oexB K (aG "BadFlow" K) (aG "SignsError" K) (mx_SignsError.adr K) "ValueError" "ValueError.__new__" "ValueError.__init__" [.type "ValueError", .type "Exception", .type "BaseException", .type "object"],
  fun K => exB K (aG "BadFlow" K),
  fun K => oexB K (aG "BadFrequencies" K) (aG "SignsError" K) (mx_SignsError.adr K) "ValueError" "ValueError.__new__" "ValueError.__init__" [.type "ValueError", .type "Exception", .type "BaseException", .type "object"],
  fun K => exB K (aG "BadFrequencies" K),
  fun K => oexB K (aG "BadFunction" K) (aG "SignsError" K) (mx_SignsError.adr K) "ValueError" "ValueError.__new__" "ValueError.__init__" [.type "ValueError", .type "Exception", .type "BaseException", .type "object"],
  fun K => exB K (aG "BadFunction" K),
  fun K => oexB K (aG "BadFunctions" K) (aG "SignsError" K) (mx_SignsError.adr K) "ValueError" "ValueError.__new__" "ValueError.__init__" [.type "ValueError", .type "Exception", .type "BaseException", .type "object"],
  fun K => exB K (aG "BadFunctions" K),
  fun K => oexB K (aG "BadGroup" K) (aG "SignsError" K) (mx_SignsError.adr K) "ValueError" "ValueError.__new__" "ValueError.__init__" [.type "ValueError", .type "Exception", .type "BaseException", .type "object"],
  fun K => exB K (aG "BadGroup" K),
  fun K => oexB K (aG "BadKind" K) (aG "SignsError" K) (mx_SignsError.adr K) "ValueError" "ValueError.__new__" "ValueError.__init__" [.type "ValueError", .type "Exception", .type "BaseException", .type "object"],
  fun K => exB K (aG "BadKind" K),
  fun K => oexB K (aG "BadMark" K) (aG "SignsError" K) (mx_SignsError.adr K) "ValueError" "ValueError.__new__" "ValueError.__init__" [.type "ValueError", .type "Exception", .type "BaseException", .type "object"],
  fun K => exB K (aG "BadMark" K),
  fun K => oexB K (aG "BadNumber" K) (aG "SignsError" K) (mx_SignsError.adr K) "ValueError" "ValueError.__new__" "ValueError.__init__" [.type "ValueError", .type "Exception", .type "BaseException", .type "object"],
  fun K => exB K (aG "BadNumber" K),
  fun K => oexB K (aG "BadOperands" K) (aG "SignsError" K) (mx_SignsError.adr K) "ValueError" "ValueError.__new__" "ValueError.__init__" [.type "ValueError", .type "Exception", .type "BaseException", .type "object"],
  fun K => exB K (aG "BadOperands" K),
  fun K => oexB K (aG "BadOperation" K) (aG "SignsError" K) (mx_SignsError.adr K) "ValueError" "ValueError.__new__" "ValueError.__init__" [.type "ValueError", .type "Exception", .type "BaseException", .type "object"],
  fun K => exB K (aG "BadOperation" K),
  fun K => oexB K (aG "BadProgram" K) (aG "SignsError" K) (mx_SignsError.adr K) "ValueError" "ValueError.__new__" "ValueError.__init__" [.type "ValueError", .type "Exception", .type "BaseException", .type "object"],
  fun K => exB K (aG "BadProgram" K),
  fun K => oexB K (aG "BadPromise" K) (aG "SignsError" K) (mx_SignsError.adr K) "ValueError" "ValueError.__new__" "ValueError.__init__" [.type "ValueError", .type "Exception", .type "BaseException", .type "object"],
  fun K => exB K (aG "BadPromise" K),
  fun K => oexB K (aG "BadPromises" K) (aG "SignsError" K) (mx_SignsError.adr K) "ValueError" "ValueError.__new__" "ValueError.__init__" [.type "ValueError", .type "Exception", .type "BaseException", .type "object"],
  fun K => exB K (aG "BadPromises" K),
  fun K => oexB K (aG "BadPuts" K) (aG "SignsError" K) (mx_SignsError.adr K) "ValueError" "ValueError.__new__" "ValueError.__init__" [.type "ValueError", .type "Exception", .type "BaseException", .type "object"],
  fun K => exB K (aG "BadPuts" K),
  fun K => oexB K (aG "BadRoad" K) (aG "SignsError" K) (mx_SignsError.adr K) "ValueError" "ValueError.__new__" "ValueError.__init__" [.type "ValueError", .type "Exception", .type "BaseException", .type "object"],
  fun K => exB K (aG "BadRoad" K),
  fun K => oexB K (aG "BadRow" K) (aG "SignsError" K) (mx_SignsError.adr K) "ValueError" "ValueError.__new__" "ValueError.__init__" [.type "ValueError", .type "Exception", .type "BaseException", .type "object"],
  fun K => exB K (aG "BadRow" K),
  fun K => oexB K (aG "BadRun" K) (aG "SignsError" K) (mx_SignsError.adr K) "ValueError" "ValueError.__new__" "ValueError.__init__" [.type "ValueError", .type "Exception", .type "BaseException", .type "object"],
  fun K => exB K (aG "BadRun" K),
  fun K => oexB K (aG "BadStarts" K) (aG "SignsError" K) (mx_SignsError.adr K) "ValueError" "ValueError.__new__" "ValueError.__init__" [.type "ValueError", .type "Exception", .type "BaseException", .type "object"],
  fun K => exB K (aG "BadStarts" K),
  fun K => oexB K (aG "BadTable" K) (aG "SignsError" K) (mx_SignsError.adr K) "ValueError" "ValueError.__new__" "ValueError.__init__" [.type "ValueError", .type "Exception", .type "BaseException", .type "object"],
  fun K => exB K (aG "BadTable" K),
  fun K => oexB K (aG "BadText" K) (aG "SignsError" K) (mx_SignsError.adr K) "ValueError" "ValueError.__new__" "ValueError.__init__" [.type "ValueError", .type "Exception", .type "BaseException", .type "object"],
  fun K => exB K (aG "BadText" K),
  fun K => oexB K (aG "BadTurns" K) (aG "SignsError" K) (mx_SignsError.adr K) "ValueError" "ValueError.__new__" "ValueError.__init__" [.type "ValueError", .type "Exception", .type "BaseException", .type "object"],
  fun K => exB K (aG "BadTurns" K),
  fun K => oexB K (aG "BadWants" K) (aG "SignsError" K) (mx_SignsError.adr K) "ValueError" "ValueError.__new__" "ValueError.__init__" [.type "ValueError", .type "Exception", .type "BaseException", .type "object"],
  fun K => exB K (aG "BadWants" K),
  fun K => oexB K (aG "NoBlock" K) (aG "Absent" K) (mx_Absent.adr K) "KeyError" "LookupError.__new__" "KeyError.__init__" [.type "KeyError", .type "LookupError", .type "Exception", .type "BaseException", .type "object"],
  fun K => exB K (aG "NoBlock" K),
  fun K => oexB K (aG "NoEnd" K) (aG "SignsError" K) (mx_SignsError.adr K) "ValueError" "ValueError.__new__" "ValueError.__init__" [.type "ValueError", .type "Exception", .type "BaseException", .type "object"],
  fun K => exB K (aG "NoEnd" K),
  fun K => oexB K (aG "NoEntry" K) (aG "Absent" K) (mx_Absent.adr K) "KeyError" "LookupError.__new__" "KeyError.__init__" [.type "KeyError", .type "LookupError", .type "Exception", .type "BaseException", .type "object"],
  fun K => exB K (aG "NoEntry" K),
  fun K => oexB K (aG "NoFunction" K) (aG "Absent" K) (mx_Absent.adr K) "KeyError" "LookupError.__new__" "KeyError.__init__" [.type "KeyError", .type "LookupError", .type "Exception", .type "BaseException", .type "object"],
  fun K => exB K (aG "NoFunction" K),
  fun K => oexB K (aG "NoOperation" K) (aG "Absent" K) (mx_Absent.adr K) "KeyError" "LookupError.__new__" "KeyError.__init__" [.type "KeyError", .type "LookupError", .type "Exception", .type "BaseException", .type "object"],
  fun K => exB K (aG "NoOperation" K),
  fun K => oexB K (aG "NoPlace" K) (aG "Absent" K) (mx_Absent.adr K) "KeyError" "LookupError.__new__" "KeyError.__init__" [.type "KeyError", .type "LookupError", .type "Exception", .type "BaseException", .type "object"],
  fun K => exB K (aG "NoPlace" K),
  fun K => oexB K (aG "NoVariable" K) (aG "Absent" K) (mx_Absent.adr K) "KeyError" "LookupError.__new__" "KeyError.__init__" [.type "KeyError", .type "LookupError", .type "Exception", .type "BaseException", .type "object"],
  fun K => exB K (aG "NoVariable" K),
  fun K => oexB K (aG "NotSimple" K) (aG "SignsError" K) (mx_SignsError.adr K) "ValueError" "ValueError.__new__" "ValueError.__init__" [.type "ValueError", .type "Exception", .type "BaseException", .type "object"],
  fun K => exB K (aG "NotSimple" K),
  fun K => oexB K (aG "SignsError" K) (aG "SignsError" K) (mx_SignsError.adr K) "ValueError" "ValueError.__new__" "ValueError.__init__" [.type "ValueError", .type "Exception", .type "BaseException", .type "object"],
  fun K => exB K (aG "SignsError" K),
  fun K => oexB K (aG "TooLarge" K) (aG "TooLarge" K) (mx_TooLarge.adr K) "OverflowError" "OverflowError.__new__" "OverflowError.__init__" [.type "OverflowError", .type "ArithmeticError", .type "Exception", .type "BaseException", .type "object"],
  fun K => exB K (aG "TooLarge" K),
  fun K => oexB K (aG "TooMany" K) (aG "TooMany" K) (mx_TooMany.adr K) "OverflowError" "OverflowError.__new__" "OverflowError.__init__" [.type "OverflowError", .type "ArithmeticError", .type "Exception", .type "BaseException", .type "object"],
  fun K => exB K (aG "TooMany" K),
  fun K => oexB K (aG "Unlike" K) (aG "SignsError" K) (mx_SignsError.adr K) "ValueError" "ValueError.__new__" "ValueError.__init__" [.type "ValueError", .type "Exception", .type "BaseException", .type "object"],
  fun K => exB K (aG "Unlike" K),
  fun K => PySem.W.excIn K (aG "NothingToUndo" K) [.type "RuntimeError", .type "Exception", .type "BaseException", .type "object"] "RuntimeError.__new__",
  fun K => PySem.W.keepIn K (.ref (aG "NothingToUndo" K))]
def names : List Str := (["__eq__", "__contains__", "__len__", "__str__", "__repr__", "__getitem__", "__bool__"] : List Str)
abbrev looseL : List Str := (["_law_pool", "_law_take", "_law_kinds", "_law_first_values", "_law_values", "_law_roots", "SignsError", "BadDress", "BadMark", "BadNumber", "Unlike", "BadArity", "BadWants", "BadOperation", "BadOperands", "BadTable", "BadBlocks", "BadStarts", "BadRow", "BadProgram"] : List Str) ++ (["BadRoad", "BadRun", "BadText", "BadDraft", "BadKind", "NotSimple", "NoEnd", "BadPuts", "BadFrequencies", "BadFlow", "BadFunctions", "BadFunction", "BadGroup", "BadPromises", "BadPromise", "BadBook", "BadBooks", "BadTurns", "BadChange", "BadChosen"] : List Str) ++ (["Absent", "NoOperation", "NoBlock", "NoPlace", "NoVariable", "NoEntry", "NoFunction", "TooLarge", "TooMany", "NothingToUndo", "__name__"] : List Str)
abbrev R : PySem.W.OpenRow := PySem.W.OpenLaw.row PySem.Challenge.rw_signskept_k05_exceptions_apart
abbrev hk : PySem.W.Hook := hookM 7 exL dsL txL
def ob (s : PySem.W.SharedT) : AlM := obsMG 7 exL dsL txL (HandSHeadRun.getT s)
theorem ob_eq (s : PySem.W.SharedT) : ob s = hk.obs s.abs := obsMG_eq (HandSHeadRun.getT_eq s)
abbrev RunP (w : World) : Prop := HandSHeadRun.RunEq R (PySem.W.view R.prog [52]) hk ob 20000 looseL w
theorem run0 (w : World) : RunP (w.withFollow "special-get-raises" false) := by
  intro os
  kernel_rfl
theorem run1 (w : World) : RunP (w.withFollow "special-get-raises" true) := by
  intro os
  kernel_rfl
theorem run (w : World) : HandSHeadRun.RunEq R (PySem.W.view R.prog [52]) hk ob 20000 looseL w := PySem.W.byRow2 "special-get-raises" (P := RunP) run0 run1 w
structure C (Z : Sta) : Prop extends Ctx exL dsL txL da ca names Z where
  sp : SupP Z.P fileL
--EVAL
end MP.LW
open PySem PySem.W PySem.Calls PyProof.Rows
end
set_option Elab.async false
set_option linter.all false
set_option maxRecDepth 100000
namespace MP
open PySem L2
def sOk (s : List Nat) : Bool := s.all fun c => decide (c < 1114112)
def SqK (Z : Sta) (H : Hp) (m : Mp) (a : Addr) (ys : List V) : Prop := ((a ∉ m.l ∧ a ∉ m.h) ∧ Rd H a (.lst ys)) ∨
  ∃ (o : Obj) (its : Array Value) (n : Nat), Z.K.lookup a = some o ∧ o.cls = .type "list" ∧ o.dict = none ∧ o.data = .seq its n ∧ its.size ≤ sizeLine ∧ Vals ys its.toList
theorem SqK.sq {Z : Sta} {H : Hp} {m : Mp} {a : Addr} {ys : List V} (h : SqK Z H m a ys) : SqL Z.K H a ys := by
  rcases h with ⟨_, h⟩ | h
  · exact .inl h
  · exact .inr h
def zipF (Z : Sta) : List Nat → List V → List (Str × V)
  | i :: is, y :: ys => (Z.FN i, y) :: zipF Z is ys
  | _, _ => []
def flatK : PV → NestedKey
  | .bl b => .num (if b then 1 else 0)
  | .int i => .num i
  | .str s => .text ⟨s.toArray⟩
  | _ => .none
def toKey : Nat → PV → NestedKey
  | 0, v => flatK v
  | n + 1, v => match v with
    | .tup xs => .tup (xs.map (toKey n))
    | v => flatK v
def dist : List PV → Bool
  | [] => true
  | k :: ks => ks.all (fun j => !keyEq kd k j) && dist ks
def keysB (ks : List PV) : Bool := ks.all (isKey kd) && dist ks && (ks.all isK1 || ks.all isTup)
def hashK (Z : Sta) (k : PV) : Int := (toKey kd k).hash Z.w
def EntR (e : Int × V × V) (d : DictEntry) : Prop := d.hash = e.1 ∧ RelV e.2.1 d.key ∧ RelV e.2.2 d.val
def dO (a : Addr) (ep : Nat) (es : List (Int × V × V)) : HO := .ext fun h => (a == sysModules) = false ∧ ∃ (o : Obj) (ds : Array DictEntry), h.get? a = some o ∧ o.ExactDict ∧ o.data = .dict ds ep ∧ Paired EntR es ds.toList
def Hdc (H : Hp) (a : Addr) (es : List (Int × V × V)) : Prop := ∃ ep, H a = some (dO a ep es)
def DAt (Z : Sta) (H : Hp) (m : Mp) (a : Addr) (es : List (Int × V × V)) : Prop := ((a ∉ m.l ∧ a ∉ m.h) ∧ Hdc H a es) ∨
  ((a == sysModules) = false ∧ ∃ (o : Obj) (ds : Array DictEntry) (ep : Nat), Z.K.lookup a = some o ∧ o.ExactDict ∧ o.data = .dict ds ep ∧ Paired EntR es ds.toList)
def Atm.sok : Atm → Bool
  | .str s => sOk s
  | _ => true
def Atm.pv : Atm → PV
  | .int i => .int i
  | .str s => .str s
  | _ => .non
def exD (C a : Addr) (d : Option Addr) : HO := .ext fun h => ∃ (oe : Obj) (vs : Array Value), h.get? a = some oe ∧ oe.cls = .ref C ∧ oe.dict = d ∧ oe.data = .fields vs
def exA (H : Hp) (m : Mp) (t : Atm) (d : Option Addr) : Prop := (t = .nil ∧ d = none) ∨ (t.sok = true ∧ ∃ dx, d = some dx ∧ (dx ∉ m.l ∧ dx ∉ m.h) ∧ H dx = some (.xd [("value", t.v)]))
mutual
def RV (Z : Sta) (H : Hp) (m : Mp) : PV → V → Prop
  | .non, x => x = .non
  | .bl b, x => x = .bl b
  | .int i, x => x = .int i
  | .str s, x => x = .str ⟨s.toArray⟩ ∧ sOk s = true
  | .tup xs, x => ∃ a ys, x = .ref a ∧ SqT Z.K H a ys ∧ RVs Z H m xs ys
  | .lst xs, x => ∃ a ys, x = .ref a ∧ (a ∉ m.l ∧ a ∉ m.h) ∧ H a = some (.lst ys) ∧ RVs Z H m xs ys
  | .dct ks vs, x => ∃ a es, x = .ref a ∧ DAt Z H m a es ∧ keysB ks = true ∧ es.map (·.1) = ks.map (hashK Z) ∧ RVs Z H m ks (es.map (·.2.1)) ∧ RVs Z H m vs (es.map (·.2.2))
  | .obj k ns xs, x => ∃ a dx ys, x = .ref a ∧ (a ∉ m.l ∧ a ∉ m.h) ∧ H a = some (.ins (Z.G k) dx (zipF Z ns ys)) ∧ ns.length = ys.length ∧ RVs Z H m xs ys
  | .loc n, x => ∃ a, getR m.l n = some a ∧ x = .ref a
  | .st k, x => x = .ref (Z.G k)
  | .ty n, x => x = .ty n
  | .scr ns, x => ∃ a, x = .ref a ∧ SqK Z H m a (ns.map V.int)
  | .lnt ks vs, x => ∃ a ep es, x = .ref a ∧ (a, dO a ep es) ∈ m.k ∧ keysB ks = true ∧ es.map (·.1) = ks.map (hashK Z) ∧ RVs Z H m ks (es.map (·.2.1)) ∧ RVs Z H m vs (es.map (·.2.2))
  | .exo k t, x => ∃ a d, x = .ref a ∧ (a ∉ m.l ∧ a ∉ m.h) ∧ H a = some (exD (Z.G k) a d) ∧ exA H m t d
def RVs (Z : Sta) (H : Hp) (m : Mp) : List PV → List V → Prop
  | [], ys => ys = []
  | p :: ps, ys => ∃ y r, ys = y :: r ∧ RV Z H m p y ∧ RVs Z H m ps r
end
def CRel (Z : Sta) (H : Hp) (m : Mp) : Cell → Addr → Prop
  | .lst xs, a => ∃ ys, H a = some (.lst ys) ∧ RVs Z H m xs ys
  | .dct ks vs, a => ∃ es, Hdc H a es ∧ keysB ks = true ∧ es.map (·.1) = ks.map (hashK Z) ∧ RVs Z H m ks (es.map (·.2.1)) ∧ RVs Z H m vs (es.map (·.2.2))
  | .ins k ns xs, a => ∃ dx ys, H a = some (.ins (Z.G k) dx (zipF Z ns ys)) ∧ ns.length = ys.length ∧ RVs Z H m xs ys
  | .tab i, a => a = (Z.tb i).1 ∧ ∃ ps : Array Value, H a = some (.tbl ps) ∧ TriplesOk ps.toList ∧ ∀ (pos : Pos) (cv : Value), codeAmong pos ps.toList = some cv → ∃ c, cv = .ref c ∧ H c = some (LamX.CodeO c (Z.tb i).2) ∧ c ∉ m.l ∧ c ∉ m.h
structure SRel (Z : Sta) (H : Hp) (m : Mp) (S : Hs) : Prop where
  cells : Paired (CRel Z H m) S m.l
  nd : m.l.Nodup
  hid : ∀ a ∈ m.h, ∃ o, H a = some o
  lnt : ∀ p ∈ m.k, p.1 ∉ m.l ∧ H p.1 = some p.2
structure Gr0 (Z : Sta) (H : Hp) (m : Mp) (H' : Hp) (m' : Mp) : Prop where
  suf : ∃ ms, m'.l = ms ++ m.l ∧ ∀ a ∈ ms, H a = none
  hid : ∀ a ∈ m'.h, a ∈ m.h ∨ H a = none
  keep0 : ∀ b o, b ∉ m.l → b ∉ m.h → H b = some o → H' b = some o
  there : ∀ b o, H b = some o → ∃ o', H' b = some o'
  tup : ∀ b xs, SqT Z.K H b xs → SqT Z.K H' b xs
  eqk : m'.k = m.k
structure Gr (Z : Sta) (H : Hp) (m : Mp) (H' : Hp) (m' : Mp) : Prop where
  g0 : Gr0 Z H m H' m'
  keep : ∀ b o, b ∉ m.l → H b = some o → H' b = some o
  eqh : m'.h = m.h
section
variable {Z : Sta} {H H1 H2 : Hp} {m m1 m2 : Mp}
theorem Gr0.refl : Gr0 Z H m H m := ⟨⟨[], rfl, fun _ h => nomatch h⟩, fun _ h => .inl h, fun _ _ _ _ h => h, fun _ o h => ⟨o, h⟩, fun _ _ h => h, rfl⟩
theorem Gr.refl : Gr Z H m H m := ⟨Gr0.refl, fun _ _ _ h => h, rfl⟩
theorem Gr0.memL (g : Gr0 Z H m H1 m1) {b : Addr} {o : HO} (hb : b ∉ m.l) (h : H b = some o) : b ∉ m1.l := by
  obtain ⟨ms, e, hn⟩ := g.suf
  rw [e]
  intro hm
  rcases List.mem_append.mp hm with q | q
  · rw [hn b q] at h; cases h
  · exact hb q
theorem Gr0.memK (g : Gr0 Z H m H1 m1) {b : Addr} {o : HO} (hb : b ∉ m.l ∧ b ∉ m.h) (h : H b = some o) : b ∉ m1.l ∧ b ∉ m1.h :=
  ⟨g.memL hb.1 h, fun hm => by
    rcases g.hid b hm with q | q
    · exact hb.2 q
    · rw [q] at h; cases h⟩
theorem Gr0.none_back (g : Gr0 Z H m H1 m1) {a : Addr} (h : H1 a = none) : H a = none := by
  cases e : H a with
  | none => rfl
  | some o =>
    obtain ⟨o', h'⟩ := g.there a o e
    rw [h] at h'
    cases h'
theorem Gr0.trans (g : Gr0 Z H m H1 m1) (g' : Gr0 Z H1 m1 H2 m2) : Gr0 Z H m H2 m2 := by
  obtain ⟨ms, e, hn⟩ := g.suf
  obtain ⟨ms', e', hn'⟩ := g'.suf
  refine ⟨⟨ms' ++ ms, by rw [e', e, List.append_assoc], fun a ha => ?_⟩, fun a ha => ?_, fun b o hb hb2 h => ?_, fun b o h => ?_, fun b xs h => g'.tup b xs (g.tup b xs h), g'.eqk.trans g.eqk⟩
  · rcases List.mem_append.mp ha with q | q
    · exact g.none_back (hn' a q)
    · exact hn a q
  · rcases g'.hid a ha with q | q
    · exact g.hid a q
    · exact .inr (g.none_back q)
  · obtain ⟨k1, k2⟩ := g.memK ⟨hb, hb2⟩ h
    exact g'.keep0 b o k1 k2 (g.keep0 b o hb hb2 h)
  · obtain ⟨o', h'⟩ := g.there b o h
    exact g'.there b o' h'
theorem Gr.trans (g : Gr Z H m H1 m1) (g' : Gr Z H1 m1 H2 m2) : Gr Z H m H2 m2 :=
  ⟨g.g0.trans g'.g0, fun b o hb h => g'.keep b o (g.g0.memL hb h) (g.keep b o hb h), g'.eqh.trans g.eqh⟩
theorem getR_app {A : Type} {l ms : List A} {n : Nat} {a : A} (h : getR l n = some a) : getR (ms ++ l) n = some a := by
  unfold getR at h ⊢
  rw [List.reverse_append]
  have hlt : n < l.reverse.length := (List.getElem?_eq_some_iff.mp h).1
  rw [List.getElem?_append_left hlt]
  exact h
structure GrV (Z : Sta) (H : Hp) (m : Mp) (H' : Hp) (m' : Mp) : Prop where
  suf : ∃ ms, m'.l = ms ++ m.l
  keep : ∀ a o, a ∉ m.l ∧ a ∉ m.h → H a = some o → (a ∉ m'.l ∧ a ∉ m'.h) ∧ H' a = some o
  tup : ∀ b xs, SqT Z.K H b xs → SqT Z.K H' b xs
  eqk : ∀ p ∈ m.k, p ∈ m'.k
theorem Gr0.v (g : Gr0 Z H m H1 m1) : GrV Z H m H1 m1 := ⟨let ⟨ms, e, _⟩ := g.suf; ⟨ms, e⟩, fun a o hn h => ⟨g.memK hn h, g.keep0 a o hn.1 hn.2 h⟩, g.tup, fun p hp => by rw [g.eqk]; exact hp⟩
mutual
theorem RV.growV (g : GrV Z H m H1 m1) : ∀ {v : PV} {x : V}, RV Z H m v x → RV Z H1 m1 v x
  | .non, _, h => by unfold RV at h ⊢; exact h
  | .bl _, _, h => by unfold RV at h ⊢; exact h
  | .int _, _, h => by unfold RV at h ⊢; exact h
  | .str _, _, h => by unfold RV at h ⊢; exact h
  | .tup xs, _, h => by
    unfold RV at h ⊢
    obtain ⟨a, ys, e, hq, hr⟩ := h
    exact ⟨a, ys, e, g.tup _ _ hq, RVs.growV g hr⟩
  | .lst xs, _, h => by
    unfold RV at h ⊢
    obtain ⟨a, ys, e, hn, hq, hr⟩ := h
    exact ⟨a, ys, e, (g.keep a _ hn hq).1, (g.keep a _ hn hq).2, RVs.growV g hr⟩
  | .dct ks vs, _, h => by
    unfold RV at h ⊢
    obtain ⟨a, es, e, hq, h1, h2, h3, h4⟩ := h
    refine ⟨a, es, e, ?_, h1, h2, RVs.growV g h3, RVs.growV g h4⟩
    rcases hq with ⟨hn, ep, hq⟩ | hq
    · exact .inl ⟨(g.keep a _ hn hq).1, ep, (g.keep a _ hn hq).2⟩
    · exact .inr hq
  | .obj k ns xs, _, h => by
    unfold RV at h ⊢
    obtain ⟨a, dx, ys, e, hn, hq, hl, hr⟩ := h
    exact ⟨a, dx, ys, e, (g.keep a _ hn hq).1, (g.keep a _ hn hq).2, hl, RVs.growV g hr⟩
  | .loc n, _, h => by
    unfold RV at h ⊢
    obtain ⟨a, e, hx⟩ := h
    obtain ⟨ms, em⟩ := g.suf
    exact ⟨a, by rw [em]; exact getR_app e, hx⟩
  | .st _, _, h => by unfold RV at h ⊢; exact h
  | .ty _, _, h => by unfold RV at h ⊢; exact h
  | .scr _, _, h => by
    unfold RV at h ⊢
    obtain ⟨a, e, h⟩ := h
    refine ⟨a, e, ?_⟩
    rcases h with ⟨h1, h2⟩ | h
    · rcases h2 with h2 | ⟨o, h2⟩
      · exact .inl ⟨(g.keep a _ h1 h2).1, .inl (g.keep a _ h1 h2).2⟩
      · exact .inl ⟨(g.keep a _ h1 h2).1, .inr ⟨o, (g.keep a _ h1 h2).2⟩⟩
    · exact .inr h
  | .lnt ks vs, _, h => by
    unfold RV at h ⊢
    obtain ⟨a, ep, es, e, hq, h1, h2, h3, h4⟩ := h
    exact ⟨a, ep, es, e, g.eqk _ hq, h1, h2, RVs.growV g h3, RVs.growV g h4⟩
  | .exo k t, _, h => by
    unfold RV at h ⊢
    obtain ⟨a, d, e, hn, hq, hd⟩ := h
    refine ⟨a, d, e, (g.keep a _ hn hq).1, (g.keep a _ hn hq).2, ?_⟩
    rcases hd with hd | ⟨hs, dx, e2, hn2, hq2⟩
    · exact .inl hd
    · exact .inr ⟨hs, dx, e2, g.keep dx _ hn2 hq2⟩
theorem RVs.growV (g : GrV Z H m H1 m1) : ∀ {vs : List PV} {xs : List V}, RVs Z H m vs xs → RVs Z H1 m1 vs xs
  | [], _, h => by unfold RVs at h ⊢; exact h
  | p :: ps, _, h => by
    unfold RVs at h ⊢
    obtain ⟨y, r, e, h1, h2⟩ := h
    exact ⟨y, r, e, RV.growV g h1, RVs.growV g h2⟩
end
theorem RV.grow0 (g : Gr0 Z H m H1 m1) {v : PV} {x : V} (h : RV Z H m v x) : RV Z H1 m1 v x := RV.growV g.v h
theorem RVs.grow0 (g : Gr0 Z H m H1 m1) {v : List PV} {x : List V} (h : RVs Z H m v x) : RVs Z H1 m1 v x := RVs.growV g.v h
theorem RV.grow (g : Gr Z H m H1 m1) {v : PV} {x : V} (h : RV Z H m v x) : RV Z H1 m1 v x := RV.grow0 g.g0 h
theorem RVs.grow (g : Gr Z H m H1 m1) {v : List PV} {x : List V} (h : RVs Z H m v x) : RVs Z H1 m1 v x := RVs.grow0 g.g0 h
theorem RVs.len : ∀ {vs : List PV} {xs : List V}, RVs Z H m vs xs → vs.length = xs.length
  | [], _, h => by unfold RVs at h; subst h; rfl
  | p :: ps, _, h => by
    unfold RVs at h
    obtain ⟨y, r, e, _, h2⟩ := h
    subst e
    simp [RVs.len h2]
theorem RVs.nil : RVs Z H m [] [] := by unfold RVs; rfl
theorem RVs.cons {p : PV} {y : V} {ps : List PV} {ys : List V} (h : RV Z H m p y) (t : RVs Z H m ps ys) : RVs Z H m (p :: ps) (y :: ys) := by
  unfold RVs; exact ⟨y, ys, rfl, h, t⟩
theorem RVs.append : ∀ {ps qs : List PV} {ys zs : List V}, RVs Z H m ps ys → RVs Z H m qs zs → RVs Z H m (ps ++ qs) (ys ++ zs)
  | [], _, _, _, h, t => by unfold RVs at h; subst h; exact t
  | p :: ps, _, _, _, h, t => by
    unfold RVs at h
    obtain ⟨y, r, e, h1, h2⟩ := h
    subst e
    exact RVs.cons h1 (RVs.append h2 t)
theorem RVs.get : ∀ {ps : List PV} {ys : List V} {i : Nat} {p : PV}, RVs Z H m ps ys → ps[i]? = some p → ∃ y, ys[i]? = some y ∧ RV Z H m p y
  | [], _, _, _, _, e => by simp at e
  | p :: ps, _, 0, q, h, e => by
    unfold RVs at h
    obtain ⟨y, r, ey, h1, h2⟩ := h
    subst ey
    simp at e
    subst e
    exact ⟨y, rfl, h1⟩
  | p :: ps, _, i + 1, q, h, e => by
    unfold RVs at h
    obtain ⟨y, r, ey, h1, h2⟩ := h
    subst ey
    obtain ⟨z, ez, hz⟩ := RVs.get (i := i) h2 (by simpa using e)
    exact ⟨z, by simpa using ez, hz⟩
theorem RVs.set {v : PV} {x : V} (hv : RV Z H m v x) : ∀ {ps : List PV} {ys : List V} (i : Nat), RVs Z H m ps ys → RVs Z H m (ps.set i v) (ys.set i x)
  | [], _, _, h => by unfold RVs at h; subst h; exact RVs.nil
  | p :: ps, _, 0, h => by
    unfold RVs at h
    obtain ⟨y, r, ey, h1, h2⟩ := h
    subst ey
    exact RVs.cons hv h2
  | p :: ps, _, i + 1, h => by
    unfold RVs at h
    obtain ⟨y, r, ey, h1, h2⟩ := h
    subst ey
    exact RVs.cons h1 (RVs.set hv i h2)
theorem CRel.growV (g : GrV Z H m H1 m1) {c : Cell} {a : Addr} (hk : ∀ o, H a = some o → H1 a = some o) (h : CRel Z H m c a) : CRel Z H1 m1 c a := by
  cases c with
  | lst xs =>
    obtain ⟨ys, e, r⟩ := h
    exact ⟨ys, hk _ e, RVs.growV g r⟩
  | dct ks vs =>
    obtain ⟨es, ⟨ep, e⟩, h1, h2, h3, h4⟩ := h
    exact ⟨es, ⟨ep, hk _ e⟩, h1, h2, RVs.growV g h3, RVs.growV g h4⟩
  | ins k ns xs =>
    obtain ⟨dx, ys, e, l, r⟩ := h
    exact ⟨dx, ys, hk _ e, l, RVs.growV g r⟩
  | tab i =>
    obtain ⟨ea, ps, e, t, f⟩ := h
    refine ⟨ea, ps, hk _ e, t, fun pos cv q => ?_⟩
    obtain ⟨c, e1, e2, e3, e4⟩ := f pos cv q
    exact ⟨c, e1, (g.keep c _ ⟨e3, e4⟩ e2).2, (g.keep c _ ⟨e3, e4⟩ e2).1⟩
theorem CRel.grow0 (g : Gr0 Z H m H1 m1) {c : Cell} {a : Addr} (hk : ∀ o, H a = some o → H1 a = some o) (h : CRel Z H m c a) : CRel Z H1 m1 c a := h.growV g.v hk
theorem CRel.grow (g : Gr Z H m H1 m1) {c : Cell} {a : Addr} (hk : ∀ o, H a = some o → H1 a = some o) (h : CRel Z H m c a) : CRel Z H1 m1 c a := h.grow0 g.g0 hk
end
end MP
set_option maxRecDepth 100000
namespace MP
open PySem L2
def RE.bindB (r : RE) (f : PV → Hs → RB) : RB := match r with
  | .ok v S => f v S | .ex k v S => .ex k v S | .bad => .bad
def RB.bindB (r : RB) (f : Bool → Hs → RB) : RB := match r with
  | .ok v S => f v S | .ex k v S => .ex k v S | .bad => .bad
section
variable (Z : Sta)
def ExcAt (H : Hp) (m : Mp) (v : PV) (d : Option Addr) : Prop := ∃ dx x, d = some dx ∧ H dx = some (.xd [("value", x)]) ∧ RV Z H m v x
def PostX (W : WX) (σ : St) (H : Hp) (m : Mp) (k : Nat) (v : PV) (S : Hs) : Prop :=
  ∀ H' m' d, Gr Z H m H' m' → SRel Z H' m' S → ExcAt Z H' m' v d → W (.ref (Z.G k)) d σ H'
def PostE (W : WX) (σ : St) (H : Hp) (m : Mp) (Q : VK) : RE → Prop
  | .ok v S => ∀ H' m' x, Gr Z H m H' m' → SRel Z H' m' S → RV Z H' m' v x → Q x H'
  | .ex k v S => PostX Z W σ H m k v S
  | .bad => False
def PostA (W : WX) (σ : St) (H : Hp) (m : Mp) (Q : List V → Hp → Prop) : RA → Prop
  | .ok vs S => ∀ H' m' xs, Gr Z H m H' m' → SRel Z H' m' S → RVs Z H' m' vs xs → Q xs H'
  | .ex k v S => PostX Z W σ H m k v S
  | .bad => False
def PostB (W : WX) (σ : St) (H : Hp) (m : Mp) (Q : Bool → Hp → Prop) : RB → Prop
  | .ok b S => ∀ H' m', Gr Z H m H' m' → SRel Z H' m' S → Q b H'
  | .ex k v S => PostX Z W σ H m k v S
  | .bad => False
def LRel (H : Hp) (m : Mp) (L : Loc) (σ : St) : Prop := σ.length = L.length ∧ ∀ (i : Nat) (v : PV), L[i]? = some (some v) → ∃ x, σ[i]? = some (some x) ∧ RV Z H m v x
def PostS (W : WX) (D : Ends) (H : Hp) (m : Mp) : RS → Prop
  | .nx L S => ∀ H' m' σ, Gr Z H m H' m' → SRel Z H' m' S → LRel Z H' m' L σ → D.nx σ H'
  | .rt v S => ∀ H' m' x, Gr Z H m H' m' → SRel Z H' m' S → RV Z H' m' v x → D.rt x H'
  | .bk L S => ∀ H' m' σ, Gr Z H m H' m' → SRel Z H' m' S → LRel Z H' m' L σ → D.bk σ H'
  | .ct L S => ∀ H' m' σ, Gr Z H m H' m' → SRel Z H' m' S → LRel Z H' m' L σ → D.ct σ H'
  | .ex k v L S => ∀ H' m' d σ, Gr Z H m H' m' → SRel Z H' m' S → LRel Z H' m' L σ → ExcAt Z H' m' v d → W (.ref (Z.G k)) d σ H'
  | .bad => False
def tE (W : WX) (f : Loc → Hs → RE) : TE := fun σ H Q => ∃ m L S, SRel Z H m S ∧ LRel Z H m L σ ∧ PostE Z W σ H m Q (f L S)
def tA (W : WX) (f : Loc → Hs → RA) : TA := fun σ H Q => ∃ m L S, SRel Z H m S ∧ LRel Z H m L σ ∧ PostA Z W σ H m Q (f L S)
def tB (W : WX) (f : Loc → Hs → RB) : TT := fun σ H Q => ∃ m L S, SRel Z H m S ∧ LRel Z H m L σ ∧ PostB Z W σ H m Q (f L S)
def tS (W : WX) (f : Loc → Hs → RS) : TS := fun D σ H => ∃ m L S, SRel Z H m S ∧ LRel Z H m L σ ∧ PostS Z W D H m (f L S)
end
section
variable {Z : Sta} {W : WX} {σ : St} {H H1 : Hp} {m m1 : Mp} {Q : VK} {X : Cx}
theorem PostX.grow {k : Nat} {v : PV} {S : Hs} (g : Gr Z H m H1 m1) (h : PostX Z W σ H m k v S) : PostX Z W σ H1 m1 k v S :=
  fun H' m' d g' => h H' m' d (g.trans g')
theorem PostE.grow {r : RE} (g : Gr Z H m H1 m1) (h : PostE Z W σ H m Q r) : PostE Z W σ H1 m1 Q r := by
  cases r with
  | ok v S => exact fun H' m' x g' => h H' m' x (g.trans g')
  | ex k v S => exact PostX.grow g h
  | bad => exact h
theorem PostA.grow {Q : List V → Hp → Prop} {r : RA} (g : Gr Z H m H1 m1) (h : PostA Z W σ H m Q r) : PostA Z W σ H1 m1 Q r := by
  cases r with
  | ok v S => exact fun H' m' x g' => h H' m' x (g.trans g')
  | ex k v S => exact PostX.grow g h
  | bad => exact h
theorem PostB.grow {Q : Bool → Hp → Prop} {r : RB} (g : Gr Z H m H1 m1) (h : PostB Z W σ H m Q r) : PostB Z W σ H1 m1 Q r := by
  cases r with
  | ok v S => exact fun H' m' g' => h H' m' (g.trans g')
  | ex k v S => exact PostX.grow g h
  | bad => exact h
theorem PostS.grow {D : Ends} {r : RS} (g : Gr Z H m H1 m1) (h : PostS Z W D H m r) : PostS Z W D H1 m1 r := by
  cases r with
  | nx L S => exact fun H' m' x g' => h H' m' x (g.trans g')
  | rt L S => exact fun H' m' x g' => h H' m' x (g.trans g')
  | bk L S => exact fun H' m' x g' => h H' m' x (g.trans g')
  | ct L S => exact fun H' m' x g' => h H' m' x (g.trans g')
  | ex k v L S => exact fun H' m' d σ g' => h H' m' d σ (g.trans g')
  | bad => exact h
theorem LRel.grow {L : Loc} (g : Gr Z H m H1 m1) (h : LRel Z H m L σ) : LRel Z H1 m1 L σ :=
  ⟨h.1, fun i v e => let ⟨x, ex, r⟩ := h.2 i v e; ⟨x, ex, r.grow g⟩⟩
theorem PostE.bind {r : RE} {f : PV → Hs → RE} {R : VK} (h : PostE Z W σ H m Q (r.bind f))
    (c : ∀ v S H' m' x, Gr Z H m H' m' → SRel Z H' m' S → RV Z H' m' v x → PostE Z W σ H' m' Q (f v S) → R x H') : PostE Z W σ H m R r := by
  cases r with
  | ok v S => exact fun H' m' x g s rv => c v S H' m' x g s rv (PostE.grow g h)
  | ex k v S => exact h
  | bad => exact h
theorem PostA.bind {r : RA} {f : List PV → Hs → RE} {R : List V → Hp → Prop} (h : PostE Z W σ H m Q (r.bind f))
    (c : ∀ v S H' m' x, Gr Z H m H' m' → SRel Z H' m' S → RVs Z H' m' v x → PostE Z W σ H' m' Q (f v S) → R x H') : PostA Z W σ H m R r := by
  cases r with
  | ok v S => exact fun H' m' x g s rv => c v S H' m' x g s rv (PostE.grow g h)
  | ex k v S => exact h
  | bad => exact h
theorem PostB.bind {r : RB} {f : Bool → Hs → RE} {R : Bool → Hp → Prop} (h : PostE Z W σ H m Q (r.bind f))
    (c : ∀ b S H' m', Gr Z H m H' m' → SRel Z H' m' S → PostE Z W σ H' m' Q (f b S) → R b H') : PostB Z W σ H m R r := by
  cases r with
  | ok v S => exact fun H' m' g s => c v S H' m' g s (PostE.grow g h)
  | ex k v S => exact h
  | bad => exact h
theorem PostE.bindA {Q : List V → Hp → Prop} {r : RE} {f : PV → Hs → RA} {R : VK} (h : PostA Z W σ H m Q (r.bindA f))
    (c : ∀ v S H' m' x, Gr Z H m H' m' → SRel Z H' m' S → RV Z H' m' v x → PostA Z W σ H' m' Q (f v S) → R x H') : PostE Z W σ H m R r := by
  cases r with
  | ok v S => exact fun H' m' x g s rv => c v S H' m' x g s rv (PostA.grow g h)
  | ex k v S => exact h
  | bad => exact h
theorem PostA.bindA {Q : List V → Hp → Prop} {r : RA} {f : List PV → Hs → RA} {R : List V → Hp → Prop} (h : PostA Z W σ H m Q (r.bindA f))
    (c : ∀ v S H' m' x, Gr Z H m H' m' → SRel Z H' m' S → RVs Z H' m' v x → PostA Z W σ H' m' Q (f v S) → R x H') : PostA Z W σ H m R r := by
  cases r with
  | ok v S => exact fun H' m' x g s rv => c v S H' m' x g s rv (PostA.grow g h)
  | ex k v S => exact h
  | bad => exact h
theorem PostE.bindB {Q : Bool → Hp → Prop} {r : RE} {f : PV → Hs → RB} {R : VK} (h : PostB Z W σ H m Q (r.bindB f))
    (c : ∀ v S H' m' x, Gr Z H m H' m' → SRel Z H' m' S → RV Z H' m' v x → PostB Z W σ H' m' Q (f v S) → R x H') : PostE Z W σ H m R r := by
  cases r with
  | ok v S => exact fun H' m' x g s rv => c v S H' m' x g s rv (PostB.grow g h)
  | ex k v S => exact h
  | bad => exact h
theorem PostB.bindB {Q : Bool → Hp → Prop} {r : RB} {f : Bool → Hs → RB} {R : Bool → Hp → Prop} (h : PostB Z W σ H m Q (r.bindB f))
    (c : ∀ b S H' m', Gr Z H m H' m' → SRel Z H' m' S → PostB Z W σ H' m' Q (f b S) → R b H') : PostB Z W σ H m R r := by
  cases r with
  | ok v S => exact fun H' m' g s => c v S H' m' g s (PostB.grow g h)
  | ex k v S => exact h
  | bad => exact h
theorem PostE.bindS {D : Ends} {L : Loc} (hl : LRel Z H m L σ) {r : RE} {f : PV → Hs → RS} {R : VK} (h : PostS Z W D H m (r.bindS L f))
    (c : ∀ v S H' m' x, Gr Z H m H' m' → SRel Z H' m' S → RV Z H' m' v x → PostS Z W D H' m' (f v S) → R x H') : PostE Z W σ H m R r := by
  cases r with
  | ok v S => exact fun H' m' x g s rv => c v S H' m' x g s rv (PostS.grow g h)
  | ex k v S => exact fun H' m' d g s e => h H' m' d σ g s (hl.grow g) e
  | bad => exact h
theorem PostB.bindS {D : Ends} {L : Loc} (hl : LRel Z H m L σ) {r : RB} {f : Bool → Hs → RS} {R : Bool → Hp → Prop} (h : PostS Z W D H m (r.bindS L f))
    (c : ∀ b S H' m', Gr Z H m H' m' → SRel Z H' m' S → PostS Z W D H' m' (f b S) → R b H') : PostB Z W σ H m R r := by
  cases r with
  | ok v S => exact fun H' m' g s => c v S H' m' g s (PostS.grow g h)
  | ex k v S => exact fun H' m' d g s e => h H' m' d σ g s (hl.grow g) e
  | bad => exact h
theorem PE.imp {e : Expr} {t t' : TE} (h : PE X e t) (i : ∀ σ H Q, t' σ H Q → t σ H Q) : PE X e t' := ⟨fun pins s σ H Q I q => h.run pins s σ H Q I (i σ H Q q)⟩
theorem PT.imp {e : Expr} {t t' : TT} (h : PT X e t) (i : ∀ σ H Q, t' σ H Q → t σ H Q) : PT X e t' := ⟨fun pins s σ H Q I q => h.run pins s σ H Q I (i σ H Q q)⟩
theorem PA.imp {e : List Expr} {t t' : TA} (h : PA X e t) (i : ∀ σ H Q, t' σ H Q → t σ H Q) : PA X e t' := ⟨fun pos pins s σ H Q I q => h.run pos pins s σ H Q I (i σ H Q q)⟩
theorem PS.imp {e : Stmt} {t t' : TS} (h : PS X e t) (i : ∀ D σ H, t' D σ H → t D σ H) : PS X e t' := ⟨fun pins s σ H D I q => h.run pins s σ H D I (i D σ H q)⟩
theorem PSs.imp {e : List Stmt} {t t' : TS} (h : PSs X e t) (i : ∀ D σ H, t' D σ H → t D σ H) : PSs X e t' := ⟨fun pins s σ H D I q => h.run pins s σ H D I (i D σ H q)⟩
theorem ok_var {i : Nat} {x : Str} {pos : Pos} (hN : X.N[i]? = some x) (hv : Vis X.env.scope x) (hd : (x == ("__debug__" : Str)) = false) (hcd : (x == ("__classdict__" : Str)) = false) : PE X (.Name x pos) (tE Z W (varE i)) := by
  refine PE.imp (pe_var hN hv hd hcd) ?_
  rintro σ H Q ⟨m, L, S, hs, hl, hp⟩
  unfold varE at hp
  split at hp
  · rename_i v e
    obtain ⟨x, ex, r⟩ := hl.2 i v e
    exact ⟨x, ex, hp H m x Gr.refl hs r⟩
  · exact hp.elim
theorem ok_con {e : Expr} {v : PV} {x : V} (h : PE X e (tC x)) (r : ∀ H m, RV Z H m v x) : PE X e (tE Z W (conE v)) := by
  refine PE.imp h ?_
  rintro σ H Q ⟨m, L, S, hs, hl, hp⟩
  exact hp H m x Gr.refl hs (r H m)
theorem ok_nil : PA X [] (tA Z W nilA) := PA.imp pa_nil fun σ H Q ⟨m, L, S, hs, hl, hp⟩ => hp H m [] Gr.refl hs RVs.nil
theorem ok_cons {e : Expr} {es : List Expr} {f : Loc → Hs → RE} {g : Loc → Hs → RA} (ha : PE X e (tE Z W f)) (hr : PA X es (tA Z W g)) (hs : starEach (e :: es) X.env = (false, eval e X.env) :: starEach es X.env) :
    PA X (e :: es) (tA Z W (consA f g)) := by
  refine PA.imp (pa_cons ha hr hs) ?_
  rintro σ H Q ⟨m, L, S, sr, hl, hp⟩
  refine ⟨m, L, S, sr, hl, PostE.bindA hp fun v S1 H1 m1 x g1 s1 r1 hp1 => ⟨m1, L, S1, s1, hl.grow g1, PostA.bindA hp1 fun vs S2 H2 m2 xs g2 s2 r2 hp2 => ?_⟩⟩
  exact hp2 H2 m2 (x :: xs) Gr.refl s2 (RVs.cons (r1.grow g2) r2)
theorem fits_ok {A : Type} {xs : List A} (h : fits xs = true) : xs.length ≤ sizeLine := by
  rw [sizeLine_eq]
  exact of_decide_eq_true h
theorem Gr.new {o : HO} {p : Addr} (h : H p = none) : Gr Z H m (upd H p o) m :=
  have k : ∀ b o', H b = some o' → upd H p o b = some o' := fun b o' e => by rw [upd_ne (ne_of_none e h)]; exact e
  ⟨⟨⟨[], rfl, fun _ h => nomatch h⟩, fun _ h => .inl h, fun b o' _ _ e => k b o' e, fun b o' e => ⟨o', k b o' e⟩, fun b xs q => by
    rcases q with q | q
    · refine .inl ?_
      rcases q with q | ⟨o', q⟩
      · exact .inl (k b _ q)
      · exact .inr ⟨o', k b _ q⟩
    · exact .inr q, rfl⟩, fun b o' _ e => k b o' e, rfl⟩
theorem CRel.tracked {c : Cell} {a : Addr} (h : CRel Z H m c a) : ∃ o, H a = some o := by
  cases c with
  | lst xs => obtain ⟨ys, e, _⟩ := h; exact ⟨_, e⟩
  | dct ks vs => obtain ⟨es, ⟨ep, e⟩, _⟩ := h; exact ⟨_, e⟩
  | ins k ns xs => obtain ⟨dx, ys, e, _⟩ := h; exact ⟨_, e⟩
  | tab i => obtain ⟨_, ps, e, _⟩ := h; exact ⟨_, e⟩
theorem paired_map {A B : Type} {F G : A → B → Prop} : ∀ {l : List A} {k : List B}, Paired F l k → (∀ a b, b ∈ k → F a b → G a b) → Paired G l k
  | _, _, .nil, _ => .nil
  | _, _, .cons r t, f => .cons (f _ _ List.mem_cons_self r) (paired_map t fun a b hb => f a b (List.mem_cons_of_mem _ hb))
theorem paired_mem {A B : Type} {F : A → B → Prop} : ∀ {l : List A} {k : List B} {b : B}, Paired F l k → b ∈ k → ∃ a, F a b
  | _, _, _, .nil, h => nomatch h
  | _, _, _, .cons r t, h => by
    rcases List.mem_cons.mp h with e | h
    · subst e; exact ⟨_, r⟩
    · exact paired_mem t h
theorem SRel.tracked {S : Hs} (s : SRel Z H m S) {a : Addr} (h : a ∈ m.l) : ∃ o, H a = some o := by
  obtain ⟨c, r⟩ := paired_mem s.cells h
  exact r.tracked
theorem SRel.new {S : Hs} {o : HO} {p : Addr} (h : H p = none) (s : SRel Z H m S) : SRel Z (upd H p o) m S :=
  ⟨paired_map s.cells fun c a _ r => r.grow (Gr.new h) fun o' e => by rw [upd_ne (ne_of_none e h)]; exact e, s.nd, fun a ha => (Gr.new (Z := Z) (m := m) h).g0.there a _ (s.hid a ha).choose_spec, fun q hq => ⟨(s.lnt q hq).1, by rw [upd_ne (ne_of_none (s.lnt q hq).2 h)]; exact (s.lnt q hq).2⟩⟩
theorem SRel.notin {S : Hs} (s : SRel Z H m S) {p : Addr} (h : H p = none) : p ∉ m.l ∧ p ∉ m.h := by
  refine ⟨fun hm => ?_, fun hm => ?_⟩
  · obtain ⟨o, e⟩ := s.tracked hm
    rw [h] at e; cases e
  · obtain ⟨o, e⟩ := s.hid p hm
    rw [h] at e; cases e
def Mp.push (m : Mp) (p : Addr) : Mp := ⟨p :: m.l, m.h, m.k⟩
theorem Gr.push {o : HO} {p : Addr} (h : H p = none) : Gr Z H m (upd H p o) (m.push p) := by
  have g := Gr.new (Z := Z) (m := m) (o := o) h
  exact ⟨⟨⟨[p], rfl, fun a ha => by rw [List.mem_singleton.mp ha]; exact h⟩, g.g0.hid, g.g0.keep0, g.g0.there, g.g0.tup, rfl⟩, g.keep, rfl⟩
theorem getR_top {A : Type} {l : List A} {a : A} : getR (a :: l) l.length = Option.some a := by
  unfold getR
  rw [List.reverse_cons, List.getElem?_append_right (by simp)]
  simp
theorem SRel.len {S : Hs} (s : SRel Z H m S) : S.length = m.l.length := Paired.length s.cells
theorem SRel.push {S : Hs} {o : HO} {p : Addr} {c : Cell} (h : H p = none) (s : SRel Z H m S) (r : CRel Z (upd H p o) (m.push p) c p) : SRel Z (upd H p o) (m.push p) (c :: S) :=
  ⟨.cons r (paired_map s.cells fun c a _ r => r.grow (Gr.push h) fun o' e => by rw [upd_ne (ne_of_none e h)]; exact e), List.nodup_cons.mpr ⟨(s.notin h).1, s.nd⟩, fun a ha => (Gr.new (Z := Z) (m := m) h).g0.there a _ (s.hid a ha).choose_spec, fun q hq => ⟨fun z => (List.mem_cons.mp z).elim (fun z => by rw [← z, (s.lnt q hq).2] at h; cases h) (s.lnt q hq).1, by rw [upd_ne (ne_of_none (s.lnt q hq).2 h)]; exact (s.lnt q hq).2⟩⟩
theorem ok_lst {es : List Expr} {pos : Pos} {fz : Bool} {f : Loc → Hs → RA} (h : PA X es (tA Z W f)) : PE X (.List es pos) (tE Z W (lstE fz f)) := by
  refine PE.imp (pe_lst h) ?_
  rintro σ H Q ⟨m, L, S, sr, hl, hp⟩
  refine ⟨m, L, S, sr, hl, PostA.bind hp fun vs S1 H1 m1 xs g1 s1 r1 hp1 => ?_⟩
  split at hp1
  · rename_i hf
    refine ⟨by rw [← r1.len]; exact fits_ok hf, fun p hn => ?_⟩
    cases fz with
    | true =>
      refine hp1 _ m1 (.ref p) (Gr.new hn) (s1.new hn) ?_
      unfold RV
      exact ⟨p, xs, rfl, s1.notin hn, upd_same, r1.grow (Gr.new hn)⟩
    | false =>
      refine hp1 _ (m1.push p) (.ref p) (Gr.push hn) (s1.push hn ⟨xs, upd_same, r1.grow (Gr.push hn)⟩) ?_
      unfold RV
      exact ⟨p, by rw [s1.len]; exact getR_top, rfl⟩
  · exact hp1.elim
end
end MP
set_option maxRecDepth 100000
namespace MP
open PySem L2
theorem paired_get {A B : Type} {F : A → B → Prop} : ∀ {l : List A} {k : List B} {n : Nat} {a : A}, Paired F l k → l[n]? = some a → ∃ b, k[n]? = some b ∧ F a b
  | _, _, _, _, .nil, e => by simp at e
  | _, _, 0, _, .cons r _, e => by simp at e; subst e; exact ⟨_, rfl, r⟩
  | _, _, n + 1, _, .cons _ t, e => by
    obtain ⟨b, h1, h2⟩ := paired_get (n := n) t (by simpa using e)
    exact ⟨b, by simpa using h1, h2⟩
theorem paired_append {A B : Type} {F : A → B → Prop} : ∀ {l l2 : List A} {k k2 : List B}, Paired F l k → Paired F l2 k2 → Paired F (l ++ l2) (k ++ k2)
  | _, _, _, _, .nil, s => s
  | _, _, _, _, .cons r t, s => .cons r (paired_append t s)
theorem paired_rev {A B : Type} {F : A → B → Prop} : ∀ {l : List A} {k : List B}, Paired F l k → Paired F l.reverse k.reverse
  | _, _, .nil => .nil
  | _, _, .cons r t => by
    rw [List.reverse_cons, List.reverse_cons]
    exact paired_append (paired_rev t) (.cons r .nil)
theorem paired_getR {A B : Type} {F : A → B → Prop} {l : List A} {k : List B} {n : Nat} {a : A} (p : Paired F l k) (h : getR l n = some a) : ∃ b, getR k n = some b ∧ F a b :=
  paired_get (paired_rev p) h
theorem getR_mem {A : Type} {l : List A} {n : Nat} {a : A} (h : getR l n = some a) : a ∈ l := List.mem_reverse.mp (List.mem_of_getElem? h)
section
variable {Z : Sta} {W : WX} {σ : L2.St} {H H1 : Hp} {m m1 : Mp} {Q : VK} {X : Cx} {S : Hs}
theorem SRel.at_ (s : SRel Z H m S) {n : Nat} {c : Cell} (h : getR S n = some c) : ∃ a, getR m.l n = some a ∧ CRel Z H m c a := paired_getR s.cells h
theorem asL_ok (s : SRel Z H m S) {v : PV} {x : V} {xs : List PV} (r : RV Z H m v x) (h : asL S v = some xs) : ∃ a ys, x = .ref a ∧ H a = some (.lst ys) ∧ RVs Z H m xs ys := by
  unfold asL at h
  split at h
  · cases h
    unfold RV at r
    obtain ⟨a, ys, e, _, h1, h2⟩ := r
    exact ⟨a, ys, e, h1, h2⟩
  · rename_i n
    split at h
    · rename_i zs e
      cases h
      unfold RV at r
      obtain ⟨a, ea, ex⟩ := r
      obtain ⟨b, eb, ys, h1, h2⟩ := s.at_ e
      rw [ea] at eb
      cases eb
      exact ⟨a, ys, ex, h1, h2⟩
    · cases h
  · cases h
theorem RVs.ints : ∀ {ns : List Int}, RVs Z H m (ns.map PV.int) (ns.map V.int)
  | [] => RVs.nil
  | n :: ns => RVs.cons (by unfold RV; rfl) RVs.ints
theorem asQ_ok (s : SRel Z H m S) {v : PV} {x : V} {xs : List PV} (r : RV Z H m v x) (h : asQ S v = some xs) : ∃ a ys, x = .ref a ∧ (SqL Z.K H a ys ∨ SqT Z.K H a ys) ∧ RVs Z H m xs ys := by
  unfold asQ at h
  split at h
  · cases h
    unfold RV at r
    obtain ⟨a, ys, e, h1, h2⟩ := r
    exact ⟨a, ys, e, .inr h1, h2⟩
  · cases h
    unfold RV at r
    obtain ⟨a, e, h1⟩ := r
    exact ⟨a, _, e, .inl h1.sq, RVs.ints⟩
  · obtain ⟨a, ys, e, h1, h2⟩ := asL_ok s r h
    exact ⟨a, ys, e, .inl (SqL.of h1), h2⟩
def OpOk (Z : Sta) (X : Cx) (W : WX) (f : Value → Value → Sem Value) (g : PV → PV → Hs → RE) : Prop :=
  ∀ (pins : List (Addr × Obj)) (s : Shared) (σ : L2.St) (H : Hp) (x y : V) (v u : Value) (m : Mp) (S : Hs) (p q : PV) (Q : VK), Inv X pins σ H s → RelV x v → RelV y u →
    SRel Z H m S → RV Z H m p x → RV Z H m q y → PostE Z W σ H m Q (g p q S) → wpAny (model X.prog X.w) X.A (f v u) (EP X pins σ Q) X.xe s
theorem OpOk.of {f : Value → Value → Sem Value} {r : R2} {g : PV → PV → Hs → RE} (ho : OpR X f r)
    (h : ∀ (σ : L2.St) (H : Hp) (m : Mp) (S : Hs) (p q : PV) (x y : V) (Q : VK), SRel Z H m S → RV Z H m p x → RV Z H m q y → PostE Z W σ H m Q (g p q S) → r x y H Q) : OpOk Z X W f g :=
  fun pins s σ H x y v u m S p q Q I rx ry sr rp rq hp => ho pins s σ H x y v u Q I rx ry (h σ H m S p q x y Q sr rp rq hp)
theorem bin_run {a b : Expr} {f g : Loc → Hs → RE} {o : PV → PV → Hs → RE} {F : Value → Value → Sem Value} (ha : PE X a (tE Z W f)) (hb : PE X b (tE Z W g)) (ho : OpOk Z X W F o)
    {pins : List (Addr × Obj)} {s : Shared} (I : Inv X pins σ H s) (h : tE Z W (binE f g o) σ H Q) :
    wpAny (model X.prog X.w) X.A (eval a X.env) (fun v s₁ => wpAny (model X.prog X.w) X.A (eval b X.env) (fun u s₂ => wpAny (model X.prog X.w) X.A (F v u) (EP X pins σ Q) X.xe s₂) X.xe s₁) X.xe s := by
  obtain ⟨m, L, S, sr, hl, hp⟩ := h
  have h1 : tE Z W f σ H fun x H1 => tE Z W g σ H1 fun y H2 => ∃ m S p q, SRel Z H2 m S ∧ RV Z H2 m p x ∧ RV Z H2 m q y ∧ PostE Z W σ H2 m Q (o p q S) :=
    ⟨m, L, S, sr, hl, PostE.bind hp fun v S1 H1 m1 x g1 s1 r1 hp1 => ⟨m1, L, S1, s1, hl.grow g1, PostE.bind hp1 fun w S2 H2 m2 y g2 s2 r2 hp2 => ⟨m2, S2, v, w, s2, r1.grow g2, r2, hp2⟩⟩⟩
  refine binT ha hb I h1 fun v u s2 x y H2 I2 rx ry ⟨m2, S2, p, q, s2', r1, r2, hp2⟩ => ?_
  exact ho pins s2 σ H2 x y v u m2 S2 p q Q I2 rx ry s2' r1 r2 hp2
theorem ok_bin {a b : Expr} {op : Operator} {pos : Pos} {f g : Loc → Hs → RE} {o : PV → PV → Hs → RE} (ha : PE X a (tE Z W f)) (hb : PE X b (tE Z W g)) (ho : OpOk Z X W (binaryOp op) o) :
    PE X (.BinOp a op b pos) (tE Z W (binE f g o)) := ⟨fun pins s σ H Q I h => PySem.wpAny_BinOp (bin_run ha hb ho I h)⟩
end
end MP
set_option maxRecDepth 100000
namespace MP
open PySem L2
section
open PySem.Spec PyProof.Rows
set_option maxHeartbeats 4000000
theorem tuple_mul1 (l : Addr) (items : Array Value) (n : Nat) (dd : Option Addr) (sl : Array (Option Value)) (u : Tok) :
    Meets (Builtin.«tuple.__mul__» ⟨[.ref l, .int 1 u], []⟩) (fun _ R s => s.heap.get? l = some { cls := .type "tuple", dict := dd, data := .seq items n, slots := sl } ∧ R (.ok (.ret (Value.ref l))) s) :=
  .of_wp fun prog w A R s h => by
    obtain ⟨hp, g, d, tk, os⟩ := s
    obtain ⟨hl, h⟩ := h
    have f1 := AutoSeq1.idx_int
    have c1 : (items.isEmpty || (1 : Int) == 1) = true := by simp
    wp_walk using wpAny_loadPart' hl
    repeat (first
      | (refine wpAny_ite_true (by simpa using c1) ?_; wp_walk using wpAny_loadPart' hl)
      | (refine wpAny_ite_false (by decide) ?_; wp_walk using wpAny_loadPart' hl))
    exact ⟨_, rfl, h⟩
theorem tuple_mul0 (l : Addr) (items : Array Value) (n : Nat) (dd : Option Addr) (sl : Array (Option Value)) (u : Tok) (c1 : items.isEmpty = false) :
    Meets (Builtin.«tuple.__mul__» ⟨[.ref l, .int 0 u], []⟩) (fun _ R s => s.heap.get? l = some { cls := .type "tuple", dict := dd, data := .seq items n, slots := sl } ∧
      R (.ok (.ret (Value.ref s.heap.objs.size))) { s with heap := s.heap.push { cls := Value.type "tuple", data := Data.seq #[] }, toks := s.toks }) :=
  .of_wp fun prog w A R s h => by
    obtain ⟨hp, g, d, tk, os⟩ := s
    obtain ⟨hl, h⟩ := h
    have f1 := AutoSeq1.idx_int
    have c2 : (items.isEmpty || (0 : Int) == 1) = false := by rw [c1]; rfl
    wp_walk using wpAny_loadPart' hl
    repeat (first
      | (refine wpAny_ite_false (decide_eq_false (by rw [c2]; exact Bool.false_ne_true)) ?_; wp_walk using wpAny_loadPart' hl)
      | (refine wpAny_ite_true (by simp) ?_; wp_walk using wpAny_loadPart' hl)
      | (refine wpAny_ite_false (by decide) ?_; wp_walk using wpAny_loadPart' hl))
    exact ⟨_, rfl, h⟩
def rRepT1 (K : PySem.W.Frag) : R2 := fun x y H Q => ∃ l xs, x = .ref l ∧ y = .int 1 ∧ SqT K H l xs ∧ Q (.ref l) H
def rRepT0 (K : PySem.W.Frag) : R2 := fun x y H Q => ∃ l xs, x = .ref l ∧ y = .int 0 ∧ SqT K H l xs ∧ xs ≠ [] ∧ ∀ p, H p = none → Q (.ref p) (L2.upd H p (.tup []))
theorem op_repT1 {X : Cx} : OpR X (binaryOp .Mult) (rRepT1 X.K) := by
  intro pins s σ H x y v u Q I rx ry h
  obtain ⟨l, xs, rfl, rfl, hT, q⟩ := h
  cases rx
  obtain ⟨t, rfl⟩ := ry
  obtain ⟨its, r, ⟨⟨cls, dd, data, sl⟩, ho, hc, n, hd⟩, hs⟩ := I.tuple hT
  simp only at hc hd
  subst hc hd
  refine wpAny_binaryOp_repeat_ref (T := "tuple") (U := "int") (by decide) ⟨_, ho, rfl⟩ (fun s' => typeIs_int s' 1 t) noFill_tuple_mul F.fills_int_mul F.slot_int_rmul repeat_tuple F.slot_int_index.lookup
    (call_meets F.slot_int_rmul (typeIs_int s 1 t) F.entry_int_rmul (F.args_int_rmul_2 _ _) (int_rmul_tuple 1 t l its.toArray n dd sl)
      ⟨ho, rfl, ⟨_, ho, rfl⟩, call_meets F.slot_tuple_mul ⟨_, ho, rfl⟩ F.entry_tuple_mul (F.args_tuple_mul_2 _ _) (tuple_mul1 l its.toArray n dd sl t) ⟨ho, ?_⟩⟩)
  exact ⟨.ref l, H, I, rfl, q⟩
theorem op_repT0 {X : Cx} : OpR X (binaryOp .Mult) (rRepT0 X.K) := by
  intro pins s σ H x y v u Q I rx ry h
  obtain ⟨l, xs, rfl, rfl, hT, hne, q⟩ := h
  cases rx
  obtain ⟨t, rfl⟩ := ry
  obtain ⟨its, r, ⟨⟨cls, dd, data, sl⟩, ho, hc, n, hd⟩, hs⟩ := I.tuple hT
  simp only at hc hd
  subst hc hd
  have hi : its.toArray.isEmpty = false := by
    cases its with
    | nil => exact absurd (List.eq_nil_of_length_eq_zero r.length) hne
    | cons a b => rfl
  refine wpAny_binaryOp_repeat_ref (T := "tuple") (U := "int") (by decide) ⟨_, ho, rfl⟩ (fun s' => typeIs_int s' 0 t) noFill_tuple_mul F.fills_int_mul F.slot_int_rmul repeat_tuple F.slot_int_index.lookup
    (call_meets F.slot_int_rmul (typeIs_int s 0 t) F.entry_int_rmul (F.args_int_rmul_2 _ _) (int_rmul_tuple 0 t l its.toArray n dd sl)
      ⟨ho, rfl, ⟨_, ho, rfl⟩, call_meets F.slot_tuple_mul ⟨_, ho, rfl⟩ F.entry_tuple_mul (F.args_tuple_mul_2 _ _) (tuple_mul0 l its.toArray n dd sl t hi) ⟨ho, ?_⟩⟩)
  refine ⟨.ref s.heap.objs.size, _, I.laid (t' := s.toks) (o := .tup []) (fun b ob q => Heap.get?_push_of_some _ q) (Nat.le_refl _) ?_, rfl, q _ (I.hok.fresh (Nat.le_refl _))⟩
  exact ⟨Nat.zero_le _, _, .nil, IsTup.new _ _⟩
end
theorem sOk_app {s t : List Nat} (h : sOk s = true) (h' : sOk t = true) : sOk (s ++ t) = true := by
  unfold sOk at *
  rw [List.all_append, h, h']
  rfl
theorem str_app (s t : List Nat) : (⟨s.toArray⟩ : Str) ++ (⟨t.toArray⟩ : Str) = ⟨(s ++ t).toArray⟩ := by
  show Str.append _ _ = _
  unfold Str.append
  simp
theorem str_len (s : List Nat) : (⟨s.toArray⟩ : Str).length = s.length := by
  unfold Str.length
  simp
section
variable {Z : Sta} {W : WX} {σ : L2.St} {H H1 : Hp} {m m1 : Mp} {Q : VK} {X : Cx} {S : Hs} {x y : V}
theorem rv_int {i : Int} (r : RV Z H m (.int i) x) : x = .int i := by unfold RV at r; exact r
theorem rv_str {s : List Nat} (r : RV Z H m (.str s) x) : x = .str ⟨s.toArray⟩ ∧ sOk s = true := by unfold RV at r; exact r
theorem rv_bl {b : Bool} (r : RV Z H m (.bl b) x) : x = .bl b := by unfold RV at r; exact r
theorem rv_tup {xs : List PV} (r : RV Z H m (.tup xs) x) : ∃ a ys, x = .ref a ∧ SqT Z.K H a ys ∧ RVs Z H m xs ys := by unfold RV at r; exact r
theorem to_int {i : Int} : RV Z H m (.int i) (.int i) := by unfold RV; rfl
theorem to_bl {b : Bool} : RV Z H m (.bl b) (.bl b) := by unfold RV; rfl
theorem to_non : RV Z H m .non .non := by unfold RV; rfl
theorem to_str {s : List Nat} (h : sOk s = true) : RV Z H m (.str s) (.str ⟨s.toArray⟩) := by unfold RV; exact ⟨rfl, h⟩
theorem to_tup {xs : List PV} {a : Addr} {ys : List V} (h : SqT Z.K H a ys) (r : RVs Z H m xs ys) : RV Z H m (.tup xs) (.ref a) := by unfold RV; exact ⟨a, ys, rfl, h, r⟩
theorem newL_post {fz : Bool} {xs : List PV} {ys : List V} (sr : SRel Z H m S) (r : RVs Z H m xs ys) (hp : PostE Z W σ H m Q (newL fz xs S)) :
    ys.length ≤ sizeLine ∧ ∀ p, H p = none → Q (.ref p) (upd H p (.lst ys)) := by
  unfold newL at hp
  split at hp
  · rename_i hf
    refine ⟨by rw [← r.len]; exact fits_ok hf, fun p hn => ?_⟩
    cases fz with
    | true =>
      refine hp _ m (.ref p) (Gr.new hn) (sr.new hn) ?_
      unfold RV
      exact ⟨p, ys, rfl, sr.notin hn, upd_same, r.grow (Gr.new hn)⟩
    | false =>
      refine hp _ (m.push p) (.ref p) (Gr.push hn) (sr.push hn ⟨ys, upd_same, r.grow (Gr.push hn)⟩) ?_
      unfold RV
      exact ⟨p, by rw [sr.len]; exact getR_top, rfl⟩
  · exact hp.elim
theorem newT_post {xs : List PV} {ys : List V} (sr : SRel Z H m S) (r : RVs Z H m xs ys) (hp : PostE Z W σ H m Q (newT xs S)) :
    ys.length ≤ sizeLine ∧ ∀ p, H p = none → Q (.ref p) (upd H p (.tup ys)) := by
  unfold newT at hp
  split at hp
  · rename_i hf
    refine ⟨by rw [← r.len]; exact fits_ok hf, fun p hn => ?_⟩
    exact hp _ m (.ref p) (Gr.new hn) (sr.new hn) (to_tup (SqT.of upd_same) (r.grow (Gr.new hn)))
  · exact hp.elim
theorem newT_same {xs : List PV} {a : Addr} {ys : List V} (sr : SRel Z H m S) (h : SqT Z.K H a ys) (r : RVs Z H m xs ys) (hp : PostE Z W σ H m Q (newT xs S)) : Q (.ref a) H := by
  unfold newT at hp
  split at hp
  · exact hp H m (.ref a) Gr.refl sr (to_tup h r)
  · exact hp.elim
theorem add_ok {fz : Bool} (hK : X.K = Z.K) : OpOk Z X W (binaryOp .Add) (addV fz) := by
  refine OpOk.of (op_add.or (op_add_str.or (op_cat.or op_catA))) fun σ H m S p q x y Q sr rp rq hp => ?_
  unfold addV at hp
  split at hp
  · cases rv_int rp; cases rv_int rq
    exact .inl ⟨_, _, rfl, rfl, hp H m _ Gr.refl sr to_int⟩
  · obtain ⟨rfl, o1⟩ := rv_str rp
    obtain ⟨rfl, o2⟩ := rv_str rq
    split at hp
    · rename_i hf
      refine .inr (.inl ⟨_, _, rfl, rfl, ?_, ?_⟩)
      · rw [str_len, str_len, ← List.length_append]; exact fits_ok hf
      · rw [str_app]
        exact hp H m _ Gr.refl sr (to_str (sOk_app o1 o2))
    · exact hp.elim
  · obtain ⟨a, xs', rfl, h1, r1⟩ := rv_tup rp
    obtain ⟨b, ys', rfl, h2, r2⟩ := rv_tup rq
    have z := newT_post sr (r1.append r2) hp
    refine .inr (.inr (.inr ⟨a, b, xs', ys', rfl, rfl, by rw [hK]; exact h1, by rw [hK]; exact h2, by rw [← List.length_append]; exact z.1, fun e => ?_, fun _ e => ?_, fun _ _ => z.2⟩))
    · subst e
      refine newT_same sr h2 ?_ hp
      have := r1.append r2
      rwa [List.nil_append] at this
    · subst e
      refine newT_same sr h1 ?_ hp
      have := r1.append r2
      rwa [List.append_nil] at this
  · split at hp
    · rename_i xs ys hx hy
      obtain ⟨a, xs', ex, h1, r1⟩ := asL_ok sr rp hx
      obtain ⟨b, ys', ey, h2, r2⟩ := asL_ok sr rq hy
      have z := newL_post sr (r1.append r2) hp
      exact .inr (.inr (.inl ⟨a, b, xs', ys', ex, ey, h1, h2, by rw [← List.length_append]; exact z.1, z.2⟩))
    · exact hp.elim
theorem intV_post {f : Int → Int → Option Int} {p q : PV} (sr : SRel Z H m S) (rp : RV Z H m p x) (rq : RV Z H m q y) (hp : PostE Z W σ H m Q (intV f p q S)) :
    ∃ i j k, x = .int i ∧ y = .int j ∧ f i j = some k ∧ Q (.int k) H := by
  unfold intV at hp
  split at hp
  · rename_i i j
    cases rv_int rp; cases rv_int rq
    cases e : f i j with
    | none => rw [e] at hp; exact hp.elim
    | some k =>
      rw [e] at hp
      exact ⟨i, j, k, rfl, rfl, e, hp H m _ Gr.refl sr to_int⟩
  · exact hp.elim
theorem int_ok {f : Int → Int → Option Int} {F : Value → Value → Sem Value} {C : Int → Int → Prop} {g : Int → Int → Int} (ho : OpR X F (rI C fun i j => .int (g i j))) (h : ∀ i j k, f i j = some k → C i j ∧ k = g i j) : OpOk Z X W F (intV f) := by
  refine OpOk.of ho fun σ H m S p q x y Q sr rp rq hp => ?_
  obtain ⟨i, j, k, rfl, rfl, e, hq⟩ := intV_post sr rp rq hp
  obtain ⟨h1, rfl⟩ := h i j k e
  exact ⟨i, j, rfl, rfl, h1, hq⟩
theorem int_ok0 {f : Int → Int → Option Int} {F : Value → Value → Sem Value} {g : Int → Int → Int} (ho : OpR X F (rI0 fun i j => .int (g i j))) (h : ∀ i j k, f i j = some k → k = g i j) : OpOk Z X W F (intV f) := by
  refine OpOk.of ho fun σ H m S p q x y Q sr rp rq hp => ?_
  obtain ⟨i, j, k, rfl, rfl, e, hq⟩ := intV_post sr rp rq hp
  cases h i j k e
  exact ⟨i, j, rfl, rfl, hq⟩
theorem RVs.flat : ∀ {k : Nat} {xs : List PV} {ys : List V}, RVs Z H m xs ys → RVs Z H m (repL xs k) (List.replicate k ys).flatten
  | 0, _, _, _ => RVs.nil
  | k + 1, xs, ys, h => by
    have := RVs.append h (RVs.flat (k := k) h)
    simpa [repL, List.replicate_succ] using this
theorem mul_ok {fz : Bool} (hK : X.K = Z.K) : OpOk Z X W (binaryOp .Mult) (mulV fz) := by
  refine OpOk.of (op_mulW.or (op_repT.or (op_rep.or (op_repT1.or op_repT0)))) fun σ H m S p q x y Q sr rp rq hp => ?_
  unfold mulV at hp
  split at hp
  · cases rv_int rp; cases rv_int rq
    split at hp
    · rename_i hm
      exact .inl ⟨_, _, rfl, rfl, (show _ < 1000000 from of_decide_eq_true hm), hp H m _ Gr.refl sr to_int⟩
    · exact hp.elim
  · rename_i xs k
    obtain ⟨a, ys, rfl, h1, r1⟩ := rv_tup rp
    cases rv_int rq
    split at hp
    · rename_i hc
      simp only [Bool.and_eq_true, decide_eq_true_eq, Bool.not_eq_true'] at hc
      obtain ⟨⟨⟨c1, c2⟩, c3⟩, c4⟩ := hc
      refine .inr (.inl ⟨a, k, ys, rfl, rfl, by rw [hK]; exact h1, ?_, c2, c3, by rw [← r1.len]; exact c4, fun p hn => ?_⟩)
      · rintro rfl
        have := r1.len
        cases xs with
        | nil => simp at c1
        | cons _ _ => simp at this
      · exact hp _ m (.ref p) (Gr.new hn) (sr.new hn) (to_tup (SqT.of upd_same) (RVs.flat (r1.grow (Gr.new hn))))
    · split at hp
      · rename_i e1
        have e1 := of_decide_eq_true e1
        subst e1
        exact .inr (.inr (.inr (.inl ⟨a, ys, rfl, rfl, by rw [hK]; exact h1, hp H m _ Gr.refl sr (to_tup h1 r1)⟩)))
      · split at hp
        · rename_i e0
          rw [Bool.and_eq_true, decide_eq_true_eq] at e0
          obtain ⟨e0, e2⟩ := e0
          subst e0
          refine .inr (.inr (.inr (.inr ⟨a, ys, rfl, rfl, by rw [hK]; exact h1, ?_, fun p hn => ?_⟩)))
          · rintro rfl
            have := r1.len
            cases xs with
            | nil => simp at e2
            | cons _ _ => simp at this
          · exact hp _ m (.ref p) (Gr.new hn) (sr.new hn) (to_tup (SqT.of upd_same) RVs.nil)
        · exact hp.elim
  · rename_i k _ _
    cases rv_int rq
    split at hp
    · rename_i xs hx
      obtain ⟨a, ys, rfl, h1, r1⟩ := asL_ok sr rp hx
      split at hp
      · rename_i hc
        simp only [Bool.and_eq_true, decide_eq_true_eq] at hc
        obtain ⟨⟨c1, c2⟩, c3⟩ := hc
        have z := newL_post sr (RVs.flat r1) hp
        exact .inr (.inr (.inl ⟨a, k, ys, rfl, rfl, h1, by omega, by omega, by rw [← r1.len, sizeLine_eq]; exact c3, z.2⟩))
      · exact hp.elim
    · exact hp.elim
  · exact hp.elim
theorem bin_ok (op : Operator) (fz : Bool) (hK : X.K = Z.K) : OpOk Z X W (binaryOp op) (binV op fz) := by
  cases op with
  | Add => exact add_ok hK
  | Sub => exact int_ok0 op_sub fun i j k e => by cases e; rfl
  | Mult => exact mul_ok hK
  | Mod =>
    refine OpOk.of (op_mod.or op_modN) fun σ H m S p q x y Q sr rp rq hp => ?_
    obtain ⟨i, j, k, rfl, rfl, e, hq⟩ := intV_post sr rp rq hp
    unfold modI at e
    split at e
    · rename_i c; cases e
      exact .inl ⟨i, j, rfl, rfl, of_decide_eq_true c, hq⟩
    · split at e
      · rename_i c; cases e
        exact .inr ⟨i, j, rfl, rfl, of_decide_eq_true c, hq⟩
      · cases e
  | FloorDiv =>
    refine OpOk.of (op_fdivW.or op_fdivN) fun σ H m S p q x y Q sr rp rq hp => ?_
    obtain ⟨i, j, k, rfl, rfl, e, hq⟩ := intV_post sr rp rq hp
    unfold fdivI at e
    split at e
    · rename_i c; cases e
      simp only [Bool.and_eq_true, decide_eq_true_eq] at c
      exact .inl ⟨i, j, rfl, rfl, c, hq⟩
    · split at e
      · rename_i c; cases e
        simp only [Bool.and_eq_true, decide_eq_true_eq] at c
        exact .inr ⟨i, j, rfl, rfl, c, hq⟩
      · cases e
  | Pow =>
    refine int_ok op_pow fun i j k e => by
      split at e
      · rename_i c; cases e
        unfold powOk at c
        simp only [Bool.and_eq_true, decide_eq_true_eq] at c
        exact ⟨⟨c.1.1, c.1.2, by have := c.2; omega⟩, rfl⟩
      · cases e
  | LShift =>
    refine int_ok op_shl fun i j k e => by
      split at e
      · rename_i c; cases e
        unfold powOk at c
        simp only [Bool.and_eq_true, decide_eq_true_eq] at c
        exact ⟨⟨c.1.1, c.1.2, by have := c.2; omega⟩, rfl⟩
      · cases e
  | RShift =>
    refine int_ok op_shr fun i j k e => by
      split at e
      · rename_i c; cases e; exact ⟨of_decide_eq_true c, rfl⟩
      · cases e
  | BitAnd => exact int_ok0 op_and fun i j k e => by cases e; rfl
  | BitOr => exact int_ok0 op_or fun i j k e => by cases e; rfl
  | BitXor => exact int_ok0 op_xor fun i j k e => by cases e; rfl
  | MatMult => exact fun pins s σ H x y v u m S p q Q I rx ry sr rp rq hp => hp.elim
  | Div => exact fun pins s σ H x y v u m S p q Q I rx ry sr rp rq hp => hp.elim
end
end MP
set_option maxRecDepth 100000
namespace MP
open PySem L2
def flatD : PV → PyData
  | .non => .none
  | .bl b => .bool b
  | .int i => .int i
  | .str s => .str ⟨s.toArray⟩
  | _ => .none
def toD (S : Hs) : Nat → PV → PyData
  | 0, v => flatD v
  | n + 1, v => if isFlat v then flatD v else match asQ S v with
    | some xs => if isTup v then .tuple (xs.map (toD S n)) else .list (xs.map (toD S n))
    | none => .none
theorem eqF_eq {a b : PV} (ha : isFlat a = true) (hb : isFlat b = true) : eqF a b = PyData.eqv (flatD a) (flatD b) := by
  cases a <;> first | (cases ha; done) | (cases b <;> first | (cases hb; done) | (simp [eqF, flatD, PyData.eqv]))
  rename_i s t
  by_cases h : s = t
  · subst h; simp
  · have : ¬ ((⟨s.toArray⟩ : Str) = ⟨t.toArray⟩) := fun e => h (by have := congrArg (fun z : Str => z.cps.toList) e; simpa using this)
    rw [beq_eq_false_iff_ne.mpr h, beq_eq_false_iff_ne.mpr this]
theorem eqAll_eq {f : PV → PV → Bool} {g : PV → PyData} : ∀ {xs ys : List PV}, (∀ x ∈ xs, ∀ y ∈ ys, f x y = PyData.eqv (g x) (g y)) → eqAll f xs ys = PyData.eqvAll (xs.map g) (ys.map g)
  | [], [], _ => by simp [eqAll, PyData.eqvAll]
  | [], _ :: _, _ => by simp [eqAll, PyData.eqvAll]
  | _ :: _, [], _ => by simp [eqAll, PyData.eqvAll]
  | x :: xs, y :: ys, h => by
    rw [List.map_cons, List.map_cons, PyData.eqvAll, eqAll, h x List.mem_cons_self y List.mem_cons_self, eqAll_eq fun a ha b hb => h a (List.mem_cons_of_mem _ ha) b (List.mem_cons_of_mem _ hb)]
theorem flat_data : ∀ {v : PV} {S : Hs} {n : Nat}, isFlat v = true → toD S n v = flatD v
  | _, _, 0, _ => rfl
  | _, _, n + 1, h => by unfold toD; rw [if_pos h]
theorem eqv_flat_seq {a : PV} {xs : List PyData} (ha : isFlat a = true) : PyData.eqv (flatD a) (.tuple xs) = false ∧ PyData.eqv (flatD a) (.list xs) = false ∧ PyData.eqv (.tuple xs) (flatD a) = false ∧ PyData.eqv (.list xs) (flatD a) = false := by
  cases a <;> first | (cases ha; done) | (simp [flatD, PyData.eqv])
theorem eqF_seq {a b : PV} (h : isFlat a = false ∨ isFlat b = false) : eqF a b = false := by
  rcases h with h | h
  · cases a <;> first | (cases h; done) | (cases b <;> rfl)
  · cases b <;> first | (cases h; done) | (cases a <;> rfl)
theorem asQ_of_isD {S : Hs} {n : Nat} {v : PV} (hf : isFlat v = false) (h : isD S (n + 1) v = true) : ∃ xs, asQ S v = some xs ∧ ∀ x ∈ xs, isD S n x = true := by
  unfold isD at h
  rw [if_neg (by rw [hf]; exact Bool.false_ne_true)] at h
  split at h
  · rename_i xs e
    exact ⟨xs, e, List.all_eq_true.mp h⟩
  · cases h
theorem toD_seq {S : Hs} {n : Nat} {v : PV} {xs : List PV} (hf : isFlat v = false) (h : asQ S v = some xs) : toD S (n + 1) v = if isTup v then .tuple (xs.map (toD S n)) else .list (xs.map (toD S n)) := by
  rw [toD, if_neg (by rw [hf]; exact Bool.false_ne_true), h]
theorem eqB_eq {S : Hs} : ∀ {n : Nat} {a b : PV}, isD S n a = true → isD S n b = true → eqB S n a b = PyData.eqv (toD S n a) (toD S n b)
  | 0, a, b, ha, hb => eqF_eq ha hb
  | n + 1, a, b, ha, hb => by
    cases fa : isFlat a with
    | true =>
      cases fb : isFlat b with
      | true =>
        rw [flat_data fa, flat_data fb, eqB, fa, fb]
        exact eqF_eq fa fb
      | false =>
        obtain ⟨ys, ey, hy⟩ := asQ_of_isD fb hb
        rw [flat_data fa, toD_seq fb ey, eqB, fa, fb]
        show eqF a b = _
        rw [eqF_seq (.inr fb)]
        split
        · exact (eqv_flat_seq fa).1.symm
        · exact (eqv_flat_seq fa).2.1.symm
    | false =>
      obtain ⟨xs, ex, hx⟩ := asQ_of_isD fa ha
      cases fb : isFlat b with
      | true =>
        rw [flat_data fb, toD_seq fa ex, eqB, fa, fb]
        show eqF a b = _
        rw [eqF_seq (.inl fa)]
        split
        · exact (eqv_flat_seq fb).2.2.1.symm
        · exact (eqv_flat_seq fb).2.2.2.symm
      | false =>
        obtain ⟨ys, ey, hy⟩ := asQ_of_isD fb hb
        rw [toD_seq fa ex, toD_seq fb ey, eqB, fa, fb, ex, ey]
        show (isTup a == isTup b && eqAll (eqB S n) xs ys) = _
        rw [eqAll_eq (g := toD S n) fun x hxm y hym => eqB_eq (hx x hxm) (hy y hym)]
        cases isTup a <;> cases isTup b <;> simp [PyData.eqv]
section
variable {Z : Sta} {W : WX} {σ : L2.St} {H H1 : Hp} {m m1 : Mp} {Q : VK} {X : Cx} {S : Hs} {x y : V}
theorem canLay_str {s : List Nat} (h : sOk s = true) : PyData.canLay0 (.str ⟨s.toArray⟩) = true := by
  unfold PyData.canLay0 PyData.strOk
  unfold sOk at h
  simpa using h
theorem flat_ok {v : PV} (r : RV Z H m v x) (h : isFlat v = true) : Dp Z.K H x (flatD v) ∧ (flatD v).canLay0 = true ∧ (flatD v).depth ≤ 0 := by
  cases v <;> first
    | (cases h; done)
    | skip
  · unfold RV at r; subst r; exact ⟨.non, by simp [flatD, PyData.canLay0], by simp [flatD, PyData.depth]⟩
  · unfold RV at r; subst r; exact ⟨.bl _, by simp [flatD, PyData.canLay0], by simp [flatD, PyData.depth]⟩
  · unfold RV at r; subst r; exact ⟨.int _, by simp [flatD, PyData.canLay0], by simp [flatD, PyData.depth]⟩
  · obtain ⟨rfl, o⟩ := rv_str r; exact ⟨.str _, canLay_str o, by simp [flatD, PyData.depth]⟩
theorem dp_all {g : PV → PyData} {n : Nat} : ∀ {xs : List PV} {ys : List V}, RVs Z H m xs ys → (∀ v ∈ xs, ∀ x, RV Z H m v x → Dp Z.K H x (g v) ∧ (g v).canLay0 = true ∧ (g v).depth ≤ n) →
    DpAll Z.K H ys (xs.map g) ∧ PyData.canLayAll0 (xs.map g) = true ∧ PyData.depthAll (xs.map g) ≤ n
  | [], _, r, _ => by unfold RVs at r; subst r; exact ⟨.nil, by simp [PyData.canLayAll0], by simp [PyData.depthAll]⟩
  | v :: xs, _, r, h => by
    unfold RVs at r
    obtain ⟨y, t, rfl, r1, r2⟩ := r
    obtain ⟨a1, a2, a3⟩ := h v List.mem_cons_self y r1
    obtain ⟨b1, b2, b3⟩ := dp_all (g := g) r2 fun w hw => h w (List.mem_cons_of_mem _ hw)
    rw [List.map_cons]
    exact ⟨.cons a1 b1, by simp [PyData.canLayAll0, a2, b2], by simp only [PyData.depthAll]; omega⟩
theorem data_ok (sr : SRel Z H m S) : ∀ {n : Nat} {v : PV} {x : V}, RV Z H m v x → isD S n v = true → Dp Z.K H x (toD S n v) ∧ (toD S n v).canLay0 = true ∧ (toD S n v).depth ≤ n
  | 0, v, x, r, h => flat_ok r h
  | n + 1, v, x, r, h => by
    cases f : isFlat v with
    | true =>
      rw [flat_data f]
      obtain ⟨a, b, c⟩ := flat_ok r f
      exact ⟨a, b, by omega⟩
    | false =>
      obtain ⟨xs, ex, hx⟩ := asQ_of_isD f h
      rw [toD_seq f ex]
      cases t : isTup v with
      | true =>
        rw [if_pos rfl]
        cases v <;> first | (cases t; done) | skip
        obtain ⟨a, ys, rfl, h1, r1⟩ := rv_tup r
        cases ex
        obtain ⟨a1, a2, a3⟩ := dp_all (g := toD S n) (n := n) r1 fun w hw y ry => data_ok sr ry (hx w hw)
        exact ⟨.tup h1 a1, by simp [PyData.canLay0, a2], by simp only [PyData.depth]; omega⟩
      | false =>
        rw [if_neg Bool.false_ne_true]
        have key : ∃ a ys, x = .ref a ∧ SqL Z.K H a ys ∧ RVs Z H m xs ys := by
          unfold asQ at ex
          split at ex
          · cases t
          · cases ex
            unfold RV at r
            obtain ⟨a, e, h1⟩ := r
            exact ⟨a, _, e, h1.sq, RVs.ints⟩
          · obtain ⟨a, ys, e, h1, h2⟩ := asL_ok sr r ex
            exact ⟨a, ys, e, SqL.of h1, h2⟩
        obtain ⟨a, ys, rfl, h1, r1⟩ := key
        obtain ⟨a1, a2, a3⟩ := dp_all (g := toD S n) (n := n) r1 fun w hw y ry => data_ok sr ry (hx w hw)
        exact ⟨.lst h1 a1, by simp [PyData.canLay0, a2], by simp only [PyData.depth]; omega⟩
theorem shaped_of {d : PyData} (h1 : d.canLay0 = true) (h2 : d.depth ≤ deep) : SeqAt.shaped d = true := by
  unfold SeqAt.shaped
  rw [h1, decide_eq_true (Nat.le_trans h2 (by decide))]
  rfl
theorem eq_ok (hK : X.K = Z.K) (hu : X.A.units + 64 < cLine) : OpOk Z X W (compareOp .Eq) eqV := by
  refine OpOk.of (op_eqD hu) fun σ H m S p q x y Q sr rp rq hp => ?_
  unfold eqV at hp
  split at hp
  · rename_i c
    rw [Bool.and_eq_true] at c
    obtain ⟨a1, a2, a3⟩ := data_ok sr rp c.1
    obtain ⟨b1, b2, b3⟩ := data_ok sr rq c.2
    refine ⟨_, _, by rw [hK]; exact a1, by rw [hK]; exact b1, shaped_of a2 a3, shaped_of b2 b3, ?_⟩
    rw [← eqB_eq c.1 c.2]
    exact hp H m _ Gr.refl sr to_bl
  · exact hp.elim
theorem ne_ok (hK : X.K = Z.K) (hu : X.A.units + 64 < cLine) : OpOk Z X W (compareOp .NotEq) neV := by
  refine OpOk.of (op_neD hu) fun σ H m S p q x y Q sr rp rq hp => ?_
  unfold neV at hp
  split at hp
  · rename_i c
    rw [Bool.and_eq_true] at c
    obtain ⟨a1, a2, a3⟩ := data_ok sr rp c.1
    obtain ⟨b1, b2, b3⟩ := data_ok sr rq c.2
    refine ⟨_, _, by rw [hK]; exact a1, by rw [hK]; exact b1, shaped_of a2 a3, shaped_of b2 b3, ?_⟩
    rw [← eqB_eq c.1 c.2]
    exact hp H m _ Gr.refl sr to_bl
  · exact hp.elim
end
end MP
set_option maxRecDepth 100000
namespace MP
open PySem L2
section
variable {Z : Sta} {W : WX} {σ : L2.St} {H H1 : Hp} {m m1 : Mp} {Q : VK} {X : Cx} {S : Hs} {x y : V}
theorem ord_ok {f : Int → Int → Bool} {F : Value → Value → Sem Value} (ho : OpR X F (rI0 fun i j => .bl (f i j))) : OpOk Z X W F (ordV f) := by
  refine OpOk.of ho fun σ H m S p q x y Q sr rp rq hp => ?_
  unfold ordV at hp
  split at hp
  · cases rv_int rp; cases rv_int rq
    exact ⟨_, _, rfl, rfl, hp H m _ Gr.refl sr to_bl⟩
  · exact hp.elim
theorem flat_V {v : PV} (r : RV Z H m v x) (h : isFlat v = true) : flatV x = true := by
  cases v <;> first | (cases h; done) | skip
  · unfold RV at r; subst r; rfl
  · unfold RV at r; subst r; rfl
  · unfold RV at r; subst r; rfl
  · obtain ⟨rfl, _⟩ := rv_str r; rfl
theorem eqF_V {a b : PV} (ra : RV Z H m a x) (rb : RV Z H m b y) (ha : isFlat a = true) (hb : isFlat b = true) : eqF a b = L2.eqV x y := by
  cases a <;> first | (cases ha; done) | skip
  all_goals cases b <;> first | (cases hb; done) | skip
  all_goals first
    | (obtain ⟨rfl, _⟩ := rv_str ra; obtain ⟨rfl, _⟩ := rv_str rb; skip)
    | (obtain ⟨rfl, _⟩ := rv_str ra; unfold RV at rb; subst rb; rfl)
    | (obtain ⟨rfl, _⟩ := rv_str rb; unfold RV at ra; subst ra; rfl)
    | (unfold RV at ra rb; subst ra; subst rb; rfl)
  rename_i s t _ _
  show (s == t) = ((⟨s.toArray⟩ : Str) == ⟨t.toArray⟩)
  by_cases h : s = t
  · subst h; simp
  · have : ¬ ((⟨s.toArray⟩ : Str) = ⟨t.toArray⟩) := fun e => h (by have := congrArg (fun z : Str => z.cps.toList) e; simpa using this)
    rw [beq_eq_false_iff_ne.mpr h, beq_eq_false_iff_ne.mpr this]
theorem all_flat : ∀ {xs : List PV} {ys : List V}, RVs Z H m xs ys → xs.all isFlat = true → ys.all flatV = true
  | [], _, r, _ => by unfold RVs at r; subst r; rfl
  | v :: xs, _, r, h => by
    unfold RVs at r
    obtain ⟨y, t, rfl, r1, r2⟩ := r
    rw [List.all_cons, Bool.and_eq_true] at h
    rw [List.all_cons, flat_V r1 h.1, all_flat r2 h.2]; rfl
theorem any_flat {a : PV} (ra : RV Z H m a x) (ha : isFlat a = true) : ∀ {xs : List PV} {ys : List V}, RVs Z H m xs ys → xs.all isFlat = true → (xs.any fun y => eqF y a) = L2.inV x ys
  | [], _, r, _ => by unfold RVs at r; subst r; rfl
  | v :: xs, _, r, h => by
    unfold RVs at r
    obtain ⟨y, t, rfl, r1, r2⟩ := r
    rw [List.all_cons, Bool.and_eq_true] at h
    unfold L2.inV
    rw [List.any_cons, List.any_cons, eqF_V r1 ra h.1 ha]
    exact congrArg _ (any_flat ra ha r2 h.2)
theorem inB_ok {a b : PV} {k : Bool} (hK : X.K = Z.K) (sr : SRel Z H m S) (ra : RV Z H m a x) (rb : RV Z H m b y) (h : inB S a b = some k) :
    (∃ (c : Nat) (z : Str), x = .str ⟨#[c]⟩ ∧ y = .str z ∧ k = decide (c ∈ z.cps.toList)) ∨
      ∃ p xs, y = .ref p ∧ (SqL X.K H p xs ∨ SqT X.K H p xs) ∧ flatV x = true ∧ xs.all flatV = true ∧ k = L2.inV x xs := by
  unfold inB at h
  split at h
  · obtain ⟨rfl, _⟩ := rv_str rb
    split at h
    · cases h
      obtain ⟨rfl, _⟩ := rv_str ra
      refine .inl ⟨_, _, rfl, rfl, ?_⟩
      simp
    · cases h
  · split at h
    · rename_i xs ex
      split at h
      · rename_i c
        rw [Bool.and_eq_true] at c
        cases h
        obtain ⟨p, ys, rfl, hq, hr⟩ := asQ_ok sr rb ex
        exact .inr ⟨p, ys, rfl, by rw [hK]; exact hq, flat_V ra c.1, all_flat hr c.2, any_flat ra c.1 hr c.2⟩
      · cases h
    · cases h
theorem okO_post {v : Option PV} (h : PostE Z W σ H m Q (okO v S)) : ∃ w, v = some w ∧ PostE Z W σ H m Q (.ok w S) := by
  cases v with
  | none => exact h.elim
  | some w => exact ⟨w, rfl, h⟩
theorem in_ok (hK : X.K = Z.K) : OpOk Z X W (compareOp .In) inV := by
  refine OpOk.of (op_in_sign.or op_in_seq) fun σ H m S p q x y Q sr rp rq hp => ?_
  obtain ⟨w, e, hp⟩ := okO_post hp
  cases hb : inB S p q with
  | none => rw [hb] at e; cases e
  | some k =>
    rw [hb] at e; cases e
    have q0 := hp H m _ Gr.refl sr to_bl
    rcases inB_ok (X := X) hK sr rp rq hb with ⟨c, z, h1, h2, h3⟩ | ⟨a, xs, h1, h2, h3, h4, h5⟩
    · exact .inl ⟨c, z, h1, h2, by rw [← h3]; exact q0⟩
    · exact .inr ⟨a, xs, h1, h2, h3, h4, by rw [← h5]; exact q0⟩
theorem nin_ok (hK : X.K = Z.K) : OpOk Z X W (compareOp .NotIn) ninV := by
  refine OpOk.of (op_notIn_sign.or op_notIn_seq) fun σ H m S p q x y Q sr rp rq hp => ?_
  obtain ⟨w, e, hp⟩ := okO_post hp
  cases hb : inB S p q with
  | none => rw [hb] at e; cases e
  | some k =>
    rw [hb] at e; cases e
    have q0 := hp H m _ Gr.refl sr to_bl
    rcases inB_ok (X := X) hK sr rp rq hb with ⟨c, z, h1, h2, h3⟩ | ⟨a, xs, h1, h2, h3, h4, h5⟩
    · exact .inl ⟨c, z, h1, h2, by rw [← h3]; exact q0⟩
    · exact .inr ⟨a, xs, h1, h2, h3, h4, by rw [← h5]; exact q0⟩
theorem non_iff {v : PV} (r : RV Z H m v x) : decide (x = V.non) = isNon v := by
  cases v <;> first
    | (unfold RV at r; subst r; rfl)
    | (unfold RV at r; obtain ⟨a, ys, rfl, _⟩ := r; rfl)
    | (unfold RV at r; obtain ⟨a, dx, ys, rfl, _⟩ := r; rfl)
    | (unfold RV at r; obtain ⟨a, _, rfl⟩ := r; rfl)
    | (unfold RV at r; obtain ⟨a, rfl, _⟩ := r; rfl)
    | (unfold RV at r; obtain ⟨rfl, _⟩ := r; rfl)
theorem isV_post {neg : Bool} {p q : PV} (sr : SRel Z H m S) (rp : RV Z H m p x) (rq : RV Z H m q y) (hp : PostE Z W σ H m Q (isV neg p q S)) : y = .non ∧ Q (.bl (if neg then !decide (x = .non) else decide (x = .non))) H := by
  unfold isV at hp
  split at hp
  · rename_i c
    cases q <;> first | (cases c; done) | skip
    unfold RV at rq
    rw [non_iff rp]
    exact ⟨rq, hp H m _ Gr.refl sr to_bl⟩
  · exact hp.elim
theorem cmp_ok (op : CmpOp) (hK : X.K = Z.K) (hu : X.A.units + 64 < cLine) : OpOk Z X W (compareOp op) (cmpV op) := by
  cases op with
  | Eq => exact eq_ok hK hu
  | NotEq => exact ne_ok hK hu
  | Lt => exact ord_ok op_lt
  | LtE => exact ord_ok op_le
  | Gt => exact ord_ok op_gt
  | GtE => exact ord_ok op_ge
  | In => exact in_ok hK
  | NotIn => exact nin_ok hK
  | Is => exact OpOk.of op_isN fun σ H m S p q x y Q sr rp rq hp => isV_post sr rp rq hp
  | IsNot => exact OpOk.of op_notN fun σ H m S p q x y Q sr rp rq hp => isV_post sr rp rq hp
theorem ok_cmp {a b : Expr} {op : CmpOp} {pos : Pos} {f g : Loc → Hs → RE} {o : PV → PV → Hs → RE} (ha : PE X a (tE Z W f)) (hb : PE X b (tE Z W g)) (ho : OpOk Z X W (compareOp op) o) (hm : behindInMarks op b = false) :
    PE X (.Compare a [op] [b] pos) (tE Z W (binE f g o)) := ⟨fun pins s σ H Q I h => PySem.wpAny_Compare1 (bin_run ha hb ho I h) hm⟩
def tru (S : Hs) (v : PV) : Option Bool := match v with
  | .non => some false
  | .bl b => some b
  | .int i => some (i != 0)
  | .str s => if fits s then some (!s.isEmpty) else none
  | v => (asQ S v).map fun xs => !xs.isEmpty
theorem rvs_empty : ∀ {xs : List PV} {ys : List V}, RVs Z H m xs ys → ys.isEmpty = xs.isEmpty
  | [], _, r => by unfold RVs at r; subst r; rfl
  | _ :: _, _, r => by unfold RVs at r; obtain ⟨y, t, rfl, _⟩ := r; rfl
theorem tru_post {v : PV} {k : Bool} (sr : SRel Z H m S) (r : RV Z H m v x) (h : tru S v = some k) : TruV Z.K x H k := by
  unfold tru at h
  split at h
  · cases h; unfold RV at r; subst r; rfl
  · cases h; unfold RV at r; subst r; rfl
  · cases h; unfold RV at r; subst r; rfl
  · split at h
    · rename_i s c
      cases h
      obtain ⟨rfl, _⟩ := rv_str r
      refine ⟨by rw [str_len]; exact fits_ok c, ?_⟩
      rw [str_len]
      cases s with
      | nil => rfl
      | cons a t =>
        have : ((((a :: t).length : Nat) : Int) != 0) = true := by simp; omega
        rw [this]; rfl
    · cases h
  · cases e : asQ S v with
    | none => rw [e] at h; cases h
    | some xs =>
      rw [e] at h; cases h
      obtain ⟨a, ys, rfl, hq, hr⟩ := asQ_ok sr r e
      show TruV Z.K (V.ref a) H (!xs.isEmpty)
      rw [← rvs_empty hr]
      rcases hq with hq | hq
      · exact .inl ⟨ys, hq, rfl⟩
      · exact .inr (.inl ⟨ys, hq, rfl⟩)
def okB (v : Option Bool) (S : Hs) : RB := match v with
  | some b => .ok b S
  | none => .bad
def truB (f : Loc → Hs → RE) : Loc → Hs → RB := fun L S => (f L S).bindB fun v S1 => okB (tru S1 v) S1
theorem okB_post {v : Option Bool} {Q : Bool → Hp → Prop} (h : PostB Z W σ H m Q (okB v S)) : ∃ w, v = some w ∧ PostB Z W σ H m Q (.ok w S) := by
  cases v with
  | none => exact h.elim
  | some w => exact ⟨w, rfl, h⟩
theorem ok_truth {a : Expr} {f : Loc → Hs → RE} (hK : X.K = Z.K) (ha : PE X a (tE Z W f)) (he : ∀ whole, isTrue a X.env whole = (do let v ← whole; standAt a.pos; holding [v] (truthy v))) : PT X a (tB Z W (truB f)) := by
  refine PT.imp (pt_truth ha he) ?_
  rintro σ H Q ⟨m, L, S, sr, hl, hp⟩
  refine ⟨m, L, S, sr, hl, PostE.bindB hp fun v S1 H1 m1 x g1 s1 r1 hp1 => ?_⟩
  obtain ⟨k, e, hp1⟩ := okB_post hp1
  exact ⟨k, by rw [hK]; exact tru_post s1 r1 e, hp1 H1 m1 Gr.refl s1⟩
def notB (f : Loc → Hs → RB) : Loc → Hs → RB := fun L S => (f L S).bindB fun b S1 => .ok (!b) S1
def andB (f g : Loc → Hs → RB) : Loc → Hs → RB := fun L S => (f L S).bindB fun b S1 => if b then g L S1 else .ok false S1
def orB (f g : Loc → Hs → RB) : Loc → Hs → RB := fun L S => (f L S).bindB fun b S1 => if b then .ok true S1 else g L S1
theorem ok_orB {a b : Expr} {rest : List Expr} {pos : Pos} {f g : Loc → Hs → RB} (ha : PT X a (tB Z W f)) (hb : PW X (.BoolOp .Or (b :: rest) pos) (tB Z W g)) : PW X (.BoolOp .Or (a :: b :: rest) pos) (tB Z W (orB f g)) := by
  refine ⟨fun wh pins s σ H Q I ⟨m, L, S, sr, hl, hp⟩ => (pw_or ha hb).run wh pins s σ H Q I ⟨m, L, S, sr, hl, PostB.bindB hp fun v S1 H1 m1 g1 s1 hp1 => ?_⟩⟩
  cases v with
  | true => rw [if_pos rfl]; exact hp1 H1 m1 Gr.refl s1
  | false => rw [if_neg Bool.false_ne_true]; exact ⟨m1, L, S1, s1, hl.grow g1, hp1⟩
theorem asB_post {Q : Bool → Hp → Prop} {r : RE} (h : PostB Z W σ H m Q (asB r)) : PostE Z W σ H m (fun x H' => ∃ b, x = .bl b ∧ Q b H') r := by
  cases r with
  | ok v S =>
    cases v <;> first | exact h.elim | skip
    intro H' m' x g s r
    exact ⟨_, rv_bl r, h H' m' g s⟩
  | ex k v S => exact h
  | bad => exact h
theorem ok_cmpB {a b : Expr} {op : CmpOp} {pos : Pos} {f g : Loc → Hs → RE} {o : PV → PV → Hs → RE} (ha : PE X a (tE Z W f)) (hb : PE X b (tE Z W g)) (ho : OpOk Z X W (compareOp op) o) (hm : behindInMarks op b = false) :
    PT X (.Compare a [op] [b] pos) (tB Z W (cmpB (binE f g o))) := by
  refine ⟨fun pins s σ H Q I ⟨m, L, S, sr, hl, hp⟩ => PySem.wpAny_isTrue_Compare1 (thn (bin_run ha hb ho I ⟨m, L, S, sr, hl, asB_post hp⟩) fun v s1 h1 => thn h1 fun u s2 h2 => thn h2 fun c s3 ⟨x, H1, I1, r1, b, e, q⟩ => ?_) hm⟩
  subst e
  cases r1
  exact wpAny_truthy_bool ⟨H1, I1, q⟩
def iteE (c : Loc → Hs → RB) (f g : Loc → Hs → RE) : Loc → Hs → RE := fun L S => (c L S).bind fun b S1 => if b then f L S1 else g L S1
theorem ok_ite {c a b : Expr} {pos : Pos} {t : Loc → Hs → RB} {f g : Loc → Hs → RE} (hc : PT X c (tB Z W t)) (ha : PE X a (tE Z W f)) (hb : PE X b (tE Z W g)) : PE X (.IfExp c a b pos) (tE Z W (iteE t f g)) := by
  refine PE.imp (pe_ifExp hc ha hb) ?_
  rintro σ H Q ⟨m, L, S, sr, hl, hp⟩
  refine ⟨m, L, S, sr, hl, PostB.bind hp fun v S1 H1 m1 g1 s1 hp1 => ?_⟩
  cases v with
  | true => rw [if_pos rfl]; exact ⟨m1, L, S1, s1, hl.grow g1, hp1⟩
  | false => rw [if_neg Bool.false_ne_true]; exact ⟨m1, L, S1, s1, hl.grow g1, hp1⟩
def okT (v : Option Bool) (f : Bool → RE) : RE := match v with
  | some b => f b
  | none => .bad
def andE (f g : Loc → Hs → RE) : Loc → Hs → RE := fun L S => (f L S).bind fun v S1 => okT (tru S1 v) fun b => if b then g L S1 else .ok v S1
def orE (f g : Loc → Hs → RE) : Loc → Hs → RE := fun L S => (f L S).bind fun v S1 => okT (tru S1 v) fun b => if b then .ok v S1 else g L S1
def notE (f : Loc → Hs → RE) : Loc → Hs → RE := fun L S => (f L S).bind fun v S1 => okT (tru S1 v) fun b => .ok (.bl (!b)) S1
def unaV (op : UnaryOp) (v : PV) (S : Hs) : RE := match op, v with
  | .USub, .int i => .ok (.int (-i)) S
  | .Invert, .int i => .ok (.int (Builtin.bitNot i)) S
  | _, _ => .bad
end
end MP
set_option maxRecDepth 100000
namespace MP
open PySem L2
section
variable (Z : Sta)
def Out (T : List Nat) (σ σ' : L2.St) : Prop := σ'.length = σ.length ∧ ∀ i, i ∉ T → σ'[i]? = σ[i]?
def PostG (T : List Nat) (σ : L2.St) (H : Hp) (m : Mp) (Q : L2.St → Hp → Prop) : RS → Prop
  | .nx L S => ∀ H' m' σ', Gr Z H m H' m' → SRel Z H' m' S → LRel Z H' m' L σ' → Out T σ σ' → Q σ' H'
  | _ => False
def tG (T : List Nat) (f : TgF) : TG := fun x σ H Q => ∃ m L S v, SRel Z H m S ∧ LRel Z H m L σ ∧ RV Z H m v x ∧ PostG Z T σ H m Q (f v L S)
end
section
variable {Z : Sta} {W : WX} {σ : L2.St} {H H1 : Hp} {m m1 : Mp} {X : Cx} {S : Hs} {x y : V}
variable {T T' : List Nat}
theorem Out.refl {σ : L2.St} : Out T σ σ := ⟨rfl, fun _ _ => rfl⟩
theorem Out.trans {σ σ1 σ2 : L2.St} (a : Out T σ σ1) (b : Out T' σ1 σ2) : Out (T ++ T') σ σ2 :=
  ⟨b.1.trans a.1, fun i hi => (b.2 i fun h => hi (List.mem_append_right _ h)).trans (a.2 i fun h => hi (List.mem_append_left _ h))⟩
theorem PostG.grow {Q : L2.St → Hp → Prop} {r : RS} (g : Gr Z H m H1 m1) (h : PostG Z T σ H m Q r) : PostG Z T σ H1 m1 Q r := by
  cases r with
  | nx L S => exact fun H' m' σ g' => h H' m' σ (g.trans g')
  | _ => exact h
theorem PG.imp {e : Expr} {t t' : TG} (h : PG X e t) (i : ∀ x σ H Q, t' x σ H Q → t x σ H Q) : PG X e t' := ⟨fun pins s σ H v u Q I r q => h.run pins s σ H v u Q I r (i v σ H Q q)⟩
theorem PGs.imp {e : List Expr} {t t' : TGs} (h : PGs X e t) (i : ∀ x σ H Q, t' x σ H Q → t x σ H Q) : PGs X e t' := ⟨fun pins s σ H v u Q I r q => h.run pins s σ H v u Q I r (i v σ H Q q)⟩
theorem LRel.set {L : Loc} {i : Nat} {v : PV} (hl : LRel Z H m L σ) (r : RV Z H m v x) : LRel Z H m (L.set i (some v)) (σ.set i (some x)) := by
  refine ⟨by rw [List.length_set, List.length_set]; exact hl.1, fun j w e => ?_⟩
  by_cases h : i = j
  · subst h
    by_cases hi : i < L.length
    · rw [List.getElem?_set_self hi] at e
      cases e
      exact ⟨x, by rw [List.getElem?_set_self (by rw [hl.1]; exact hi)], r⟩
    · rw [List.getElem?_eq_none (by simpa using hi)] at e
      cases e
  · rw [List.getElem?_set_ne h] at e
    obtain ⟨z, ez, rz⟩ := hl.2 j w e
    exact ⟨z, by rw [List.getElem?_set_ne h]; exact ez, rz⟩
theorem ok_nameT {i : Nat} {x : Str} {pos : Pos} (hN : X.N.Nodup) (hi : X.N[i]? = some x) (hx : L2.Loc X.env.scope x) (hf : X.fn x = true ∨ X.env.scope.names.lookup x = some .local) : PG X (.Name x pos) (tG Z [i] (nameT i)) := by
  refine PG.imp (pg_name hN hi hx hf) ?_
  rintro x σ H Q ⟨m, L, S, v, sr, hl, r, hp⟩
  exact hp H m _ Gr.refl sr (hl.set r) ⟨by rw [List.length_set], fun j hj => List.getElem?_set_ne (fun e => hj (by rw [e]; exact List.mem_singleton.mpr rfl))⟩
theorem PG.or {e : Expr} {t t' : TG} (h : PG X e t) (h' : PG X e t') : PG X e (fun x σ H Q => t x σ H Q ∨ t' x σ H Q) :=
  ⟨fun pins s σ H v u Q I r q => q.elim (h.run pins s σ H v u Q I r) (h'.run pins s σ H v u Q I r)⟩
inductive Desc where
  | seq (v : PV) | rng (lo : Int) (n : Nat) | txt (s : List Nat)
  | zip (a b : PV) | enm (v : PV) | dk (v : PV) | dv (v : PV) | di (v : PV)
inductive RI where
  | ok (d : Desc) (S : Hs) | ex (k : Nat) (v : PV) (S : Hs) | bad
def fetch (S : Hs) (i : Nat) : Desc → Option (Option PV)
  | .seq v => match asQ S v with
    | some xs => some xs[i]?
    | none => none
  | .rng lo n => if i < n then some (some (.int (lo + (i : Int)))) else some none
  | .txt s => match s[i]? with
    | some c => some (some (.str [c]))
    | none => some none
  | .zip a b => match asQ S a with
    | some xs => (match asQ S b with
      | some ys => (match xs[i]?, ys[i]? with
        | some x, some y => some (some (.tup [x, y]))
        | _, _ => some none)
      | none => none)
    | none => none
  | .enm v => match asQ S v with
    | some xs => (match xs[i]? with
      | some x => some (some (.tup [.int i, x]))
      | none => some none)
    | none => none
  | .dk v => match dctOf S v with
    | some (ks, _) => some ks[i]?
    | none => none
  | .dv v => match dctOf S v with
    | some (_, vs) => some vs[i]?
    | none => none
  | .di v => match dctOf S v with
    | some (ks, vs) => (match ks[i]?, vs[i]? with
      | some k, some x => some (some (.tup [k, x]))
      | _, _ => some none)
    | none => none
def DRel (Z : Sta) (d : Desc) (J : It) (H : Hp) (m : Mp) : Prop :=
  ∀ (H1 : Hp) (m1 : Mp) (S1 : Hs) (i : Nat), Gr0 Z H m H1 m1 → SRel Z H1 m1 S1 →
    (∀ v, fetch S1 i d = some (some v) → J.go i H1 ∧ ∀ x H2, J.yld i H1 x H2 → ∃ m2, Gr Z H1 m1 H2 m2 ∧ SRel Z H2 m2 S1 ∧ RV Z H2 m2 v x) ∧ (fetch S1 i d = some none → J.stop i H1)
def PostI (Z : Sta) (W : WX) (σ : L2.St) (H : Hp) (m : Mp) (R : It → Hp → Prop) : RI → Prop
  | .ok d S => ∀ H' m' J, Gr Z H m H' m' → SRel Z H' m' S → DRel Z d J H' m' → R J H'
  | .ex k v S => PostX Z W σ H m k v S
  | .bad => False
def tI (Z : Sta) (W : WX) (f : Loc → Hs → RI) : TI := fun σ H R => ∃ m L S, SRel Z H m S ∧ LRel Z H m L σ ∧ PostI Z W σ H m R (f L S)
theorem PI.imp {tg e : Expr} {t t' : TI} (h : PI X tg e t) (i : ∀ σ H Q, t' σ H Q → t σ H Q) : PI X tg e t' := ⟨fun pins s σ H Q I q => h.run pins s σ H Q I (i σ H Q q)⟩
theorem PI.or {tg e : Expr} {t t' : TI} (h : PI X tg e t) (h' : PI X tg e t') : PI X tg e (fun σ H Q => t σ H Q ∨ t' σ H Q) :=
  ⟨fun pins s σ H Q I q => q.elim (h.run pins s σ H Q I) (h'.run pins s σ H Q I)⟩
def iterOf (v : PV) (S : Hs) : RI := match v with
  | .str s => .ok (.txt s) S
  | v => match asQ S v with
    | some _ => .ok (.seq v) S
    | none => .bad
def valI (f : Loc → Hs → RE) : Loc → Hs → RI := fun L S => match f L S with
  | .ok v S1 => iterOf v S1
  | .ex k v S1 => .ex k v S1
  | .bad => .bad
theorem fetch_seq {S : Hs} {v : PV} {i : Nat} {r : Option PV} (h : fetch S i (.seq v) = some r) : ∃ xs, asQ S v = some xs ∧ xs[i]? = r := by
  have h' : (match asQ S v with
    | some xs => some xs[i]?
    | none => none) = some r := h
  cases e : asQ S v with
  | none => rw [e] at h'; cases h'
  | some xs => rw [e] at h'; cases h'; exact ⟨xs, rfl, rfl⟩
theorem drel_list {v : PV} {a : Addr} (r : RV Z H m v (.ref a)) (ht : isTup v = false) : DRel Z (.seq v) (Itl Z.K a) H m := by
  intro H1 m1 S1 i g sr
  have key : ∀ {xs}, asQ S1 v = some xs → ∃ ys, SqL Z.K H1 a ys ∧ RVs Z H1 m1 xs ys := fun {xs} e => by
    unfold asQ at e
    split at e
    · cases ht
    · cases e
      have r' := RV.grow0 g r
      unfold RV at r'
      obtain ⟨b, e, h1⟩ := r'
      cases e
      exact ⟨_, h1.sq, RVs.ints⟩
    · obtain ⟨b, ys, e1, h1, h2⟩ := asL_ok sr (RV.grow0 g r) e
      cases e1
      exact ⟨ys, SqL.of h1, h2⟩
  refine ⟨fun w hf => ?_, fun hf => ?_⟩
  · obtain ⟨xs, e, ei⟩ := fetch_seq hf
    obtain ⟨ys, hq, hr⟩ := key e
    obtain ⟨y, ey, ry⟩ := hr.get ei
    refine ⟨⟨ys, y, hq, ey⟩, fun x H2 hy => ?_⟩
    obtain ⟨rfl, hy⟩ := hy
    have := hy ys hq
    rw [ey] at this
    cases this
    exact ⟨m1, Gr.refl, sr, ry⟩
  · obtain ⟨xs, e, ei⟩ := fetch_seq hf
    obtain ⟨ys, hq, hr⟩ := key e
    exact ⟨ys, hq, by rw [← hr.len]; exact List.getElem?_eq_none_iff.mp ei⟩
theorem drel_tup {xs : List PV} {a : Addr} {ys : List V} (hq : SqT Z.K H a ys) (hr : RVs Z H m xs ys) : DRel Z (.seq (.tup xs)) (Itt Z.K a) H m := by
  intro H1 m1 S1 i g sr
  have hq1 := g.tup _ _ hq
  have hr1 := RVs.grow0 g hr
  refine ⟨fun w hf => ?_, fun hf => ?_⟩
  · obtain ⟨zs, e, ei⟩ := fetch_seq hf
    cases e
    obtain ⟨y, ey, ry⟩ := hr1.get ei
    refine ⟨⟨ys, y, hq1, ey⟩, fun x H2 hy => ?_⟩
    obtain ⟨rfl, hy⟩ := hy
    have := hy ys hq1
    rw [ey] at this
    cases this
    exact ⟨m1, Gr.refl, sr, ry⟩
  · obtain ⟨zs, e, ei⟩ := fetch_seq hf
    cases e
    exact ⟨ys, hq1, by rw [← hr1.len]; exact List.getElem?_eq_none_iff.mp ei⟩
theorem drel_rng {lo : Int} {n : Nat} : DRel Z (.rng lo n) (Itr lo n) H m := by
  intro H1 m1 S1 i g sr
  refine ⟨fun w hf => ?_, fun hf => ?_⟩
  · have h' : (if i < n then some (some (PV.int (lo + (i : Int)))) else some none) = some (some w) := hf
    split at h'
    · rename_i hi
      cases h'
      refine ⟨hi, fun x H2 hy => ?_⟩
      obtain ⟨rfl, rfl⟩ := hy
      exact ⟨m1, Gr.refl, sr, to_int⟩
    · cases h'
  · have h' : (if i < n then some (some (PV.int (lo + (i : Int)))) else some none) = some none := hf
    split at h'
    · cases h'
    · rename_i hi
      exact Nat.le_of_not_lt hi
theorem sOk_one {s : List Nat} {i c : Nat} (h : sOk s = true) (e : s[i]? = some c) : sOk [c] = true := by
  unfold sOk at *
  have := List.all_eq_true.mp h c (List.mem_of_getElem? e)
  simpa using this
theorem drel_txt {s : List Nat} (ho : sOk s = true) : DRel Z (.txt s) (Its ⟨s.toArray⟩) H m := by
  intro H1 m1 S1 i g sr
  refine ⟨fun w hf => ?_, fun hf => ?_⟩
  · have h' : (match s[i]? with
      | some c => some (some (PV.str [c]))
      | none => some none) = some (some w) := hf
    cases e : s[i]? with
    | none => rw [e] at h'; cases h'
    | some c =>
      rw [e] at h'; cases h'
      refine ⟨by have := (List.getElem?_eq_some_iff.mp e).1; show i < (⟨s.toArray⟩ : Str).cps.size; simpa using this, fun x H2 hy => ?_⟩
      obtain ⟨rfl, c', hc, rfl⟩ := hy
      have : c' = c := by
        have hc' : s[i]? = some c' := by simpa using hc
        rw [e] at hc'
        exact (Option.some.inj hc').symm
      subst this
      exact ⟨m1, Gr.refl, sr, to_str (sOk_one ho e)⟩
  · have h' : (match s[i]? with
      | some c => some (some (PV.str [c]))
      | none => some none) = some none := hf
    cases e : s[i]? with
    | some c => rw [e] at h'; cases h'
    | none =>
      show (⟨s.toArray⟩ : Str).cps.size ≤ i
      have := List.getElem?_eq_none_iff.mp e
      simpa using this
theorem ok_valI {tg e : Expr} {g : Loc → Hs → RE} (hK : X.K = Z.K) (he : PE X e (tE Z W g)) : PI X tg e (tI Z W (valI g)) := by
  refine PI.imp (PI.or (pi_list he) (PI.or (pi_tup he) (pi_str he))) ?_
  rintro σ H R ⟨m, L, S, sr, hl, hp⟩
  unfold valI at hp
  cases er : g L S with
  | bad => rw [er] at hp; exact hp.elim
  | ex k v S1 => rw [er] at hp; exact .inl ⟨m, L, S, sr, hl, by rw [er]; exact hp⟩
  | ok v S1 =>
    rw [er] at hp
    have hp' : PostI Z W σ H m R (iterOf v S1) := hp
    unfold iterOf at hp'
    split at hp'
    · rename_i s
      refine .inr (.inr ⟨m, L, S, sr, hl, ?_⟩)
      rw [er]
      intro H1 m1 x g1 s1 r1
      obtain ⟨rfl, ho⟩ := rv_str r1
      exact ⟨_, rfl, hp' H1 m1 _ g1 s1 (drel_txt ho)⟩
    · cases ea : asQ S1 v with
      | none => rw [ea] at hp'; exact hp'.elim
      | some xs =>
        rw [ea] at hp'
        cases ht : isTup v with
        | true =>
          refine .inr (.inl ⟨m, L, S, sr, hl, ?_⟩)
          rw [er]
          intro H1 m1 x g1 s1 r1
          cases v <;> first | (cases ht; done) | skip
          obtain ⟨a, ys, rfl, hq, hr⟩ := rv_tup r1
          exact ⟨a, rfl, ⟨ys, by rw [hK]; exact hq⟩, by rw [hK]; exact hp' H1 m1 _ g1 s1 (drel_tup hq hr)⟩
        | false =>
          refine .inl ⟨m, L, S, sr, hl, ?_⟩
          rw [er]
          intro H1 m1 x g1 s1 r1
          have key : ∃ a ys, x = .ref a ∧ SqL Z.K H1 a ys := by
            unfold asQ at ea
            split at ea
            · cases ht
            · cases ea
              unfold RV at r1
              obtain ⟨a, e, h1⟩ := r1
              exact ⟨a, _, e, h1.sq⟩
            · obtain ⟨a, ys, e, h1, h2⟩ := asL_ok s1 r1 ea
              exact ⟨a, ys, e, SqL.of h1⟩
          obtain ⟨a, ys, rfl, hq⟩ := key
          exact ⟨a, rfl, ⟨ys, by rw [hK]; exact hq⟩, by rw [hK]; exact hp' H1 m1 _ g1 s1 (drel_list r1 ht)⟩
end
end MP
set_option maxRecDepth 100000
namespace MP
open PySem L2
theorem getR_setR {A : Type} {S : List A} {n : Nat} {a b : A} (h : getR S n = some b) : getR (setR S n a) n = some a := by
  unfold getR setR at *
  rw [List.reverse_reverse, List.getElem?_set_self (List.getElem?_eq_some_iff.mp h).1]
theorem paired_all {A B : Type} {F G : A → B → Prop} : ∀ {l : List A} {k : List B}, Paired F l k → (∀ (i : Nat) x y, k[i]? = some y → F x y → G x y) → Paired G l k
  | _, _, .nil, _ => .nil
  | _, _, .cons r t, f => .cons (f 0 _ _ (by simp) r) (paired_all t fun i x y hy q => f (i + 1) x y (by simpa using hy) q)
theorem paired_set {A B : Type} {F G : A → B → Prop} {a : A} {b : B} (hg : G a b) : ∀ {l : List A} {k : List B} (n : Nat), Paired F l k → (∀ (i : Nat) x y, i ≠ n → k[i]? = some y → F x y → G x y) → k[n]? = some b → Paired G (l.set n a) k
  | _, _, _, .nil, _, e => by simp at e
  | _, _, 0, .cons r t, f, e => by
    simp at e
    subst e
    exact .cons hg (paired_all t fun i x y hy q => f (i + 1) x y (Nat.succ_ne_zero _) (by simpa using hy) q)
  | _, _, n + 1, .cons r t, f, e => by
    refine .cons (f 0 _ _ (Nat.succ_ne_zero _).symm (by simp) r) (paired_set hg n t (fun i x y hi hy q => f (i + 1) x y (by omega) (by simpa using hy) q) (by simpa using e))
section
variable {Z : Sta} {W : WX} {σ : L2.St} {H H1 : Hp} {m m1 : Mp} {X : Cx} {S : Hs} {x y : V} {a : Addr}
theorem no_tup {o : HO} (h : H a = some o) (h1 : ∀ xs, o ≠ .tup xs) (h2 : ∀ ob u, o ≠ .frz ob u) : ∀ xs, ¬ Rd H a (.tup xs) := by
  rintro xs (q | ⟨ob, q⟩)
  · rw [h] at q; exact h1 xs (Option.some.inj q)
  · rw [h] at q; exact h2 ob _ (Option.some.inj q)
theorem no_tup_lst {ys : List V} (h : H a = some (.lst ys)) : ∀ xs, ¬ Rd H a (.tup xs) := no_tup h (fun _ e => nomatch e) fun _ _ e => nomatch e
theorem upd_tups {o : HO} (h : ∀ xs, ¬ Rd H a (.tup xs)) : ∀ b xs, SqT Z.K H b xs → SqT Z.K (L2.upd H a o) b xs := fun b xs q => by
  rcases q with q | q
  · have z : b ≠ a := fun z => h xs (by rw [← z]; exact q)
    refine .inl ?_
    rcases q with q | ⟨o', q⟩
    · exact .inl (by rw [upd_ne z]; exact q)
    · exact .inr ⟨o', by rw [upd_ne z]; exact q⟩
  · exact .inr q
theorem upd_there {o : HO} : ∀ b o', H b = some o' → ∃ o'', L2.upd H a o b = some o'' := fun b o' e => by
  by_cases z : b = a
  · subst z; exact ⟨o, upd_same⟩
  · exact ⟨o', by rw [upd_ne z]; exact e⟩
theorem Gr.upd {o : HO} (ha : a ∈ m.l) (h : ∀ xs, ¬ Rd H a (.tup xs)) : Gr Z H m (L2.upd H a o) m :=
  have k : ∀ b o', b ∉ m.l → H b = some o' → L2.upd H a o b = some o' := fun b o' hb e => by rw [upd_ne (fun z => hb (by rw [z]; exact ha))]; exact e
  ⟨⟨⟨[], rfl, fun _ h => nomatch h⟩, fun _ h => .inl h, fun b o' hb _ e => k b o' hb e, upd_there, upd_tups h, rfl⟩, k, rfl⟩
theorem Gr0.updH {o : HO} (ha : a ∈ m.h) (h : ∀ xs, ¬ Rd H a (.tup xs)) : Gr0 Z H m (L2.upd H a o) m :=
  ⟨⟨[], rfl, fun _ h => nomatch h⟩, fun _ h => .inl h, fun b o' _ hb e => by rw [upd_ne (fun z => hb (by rw [z]; exact ha))]; exact e, upd_there, upd_tups h, rfl⟩
theorem getR_inj {l : List Addr} (nd : l.Nodup) {i j : Nat} (h1 : getR l i = some a) (h2 : getR l j = some a) : i = j := by
  unfold getR at h1 h2
  have nd' : l.reverse.Nodup := List.pairwise_reverse.mpr (nd.imp fun h => h.symm)
  obtain ⟨l1, e1⟩ := List.getElem?_eq_some_iff.mp h1
  obtain ⟨l2, e2⟩ := List.getElem?_eq_some_iff.mp h2
  exact (List.getElem_inj nd').mp (e1.trans e2.symm)
theorem SRel.set {n : Nat} {c : Cell} {o : HO} (s : SRel Z H m S) (hm : getR m.l n = some a) (ht : ∀ xs, ¬ Rd H a (.tup xs)) (r : CRel Z (upd H a o) m c a) : SRel Z (upd H a o) m (setR S n c) := by
  have g := Gr.upd (Z := Z) (o := o) (getR_mem hm) ht
  refine ⟨?_, s.nd, fun b hb => g.g0.there b _ (s.hid b hb).choose_spec, fun q hq => ⟨(s.lnt q hq).1, g.keep q.1 _ (s.lnt q hq).1 (s.lnt q hq).2⟩⟩
  have key := paired_set (F := CRel Z H m) (G := CRel Z (upd H a o) m) r n (paired_rev s.cells) (fun i c' b hi hb q => ?_) hm
  · have := paired_rev key
    rw [List.reverse_reverse] at this
    exact this
  · have hne : b ≠ a := fun z => hi (getR_inj s.nd (show getR m.l i = some a by unfold getR; rw [← z]; exact hb) hm)
    exact q.grow g fun o' e => by rw [upd_ne hne]; exact e
theorem SRel.updH {o : HO} (s : SRel Z H m S) (ha : a ∈ m.h) (hl : a ∉ m.l) (h : ∀ xs, ¬ Rd H a (.tup xs)) (hk : ∀ q ∈ m.k, q.1 ≠ a) : SRel Z (upd H a o) m S :=
  ⟨paired_map s.cells fun c b hb q => q.grow0 (Gr0.updH ha h) fun o' e => by rw [upd_ne (fun z => hl (by rw [← z]; exact hb))]; exact e, s.nd, fun b hb => (Gr0.updH (Z := Z) (o := o) ha h).there b _ (s.hid b hb).choose_spec, fun q hq => ⟨(s.lnt q hq).1, by rw [upd_ne (hk q hq)]; exact (s.lnt q hq).2⟩⟩
def wipeL (L : Loc) : List Nat → Loc
  | [] => L
  | v :: vs => (wipeL L vs).set v none
theorem LRel.wipe {L : Loc} (hl : LRel Z H m L σ) : ∀ vs : List Nat, LRel Z H m (wipeL L vs) (L2.wipe σ vs)
  | [] => hl
  | v :: vs => by
    have h := LRel.wipe hl vs
    refine ⟨by unfold wipeL L2.wipe; rw [List.length_set, List.length_set]; exact h.1, fun j w e => ?_⟩
    unfold wipeL at e
    by_cases hj : v = j
    · subst hj
      by_cases hi : v < (wipeL L vs).length
      · rw [List.getElem?_set_self hi] at e; cases e
      · rw [List.getElem?_eq_none (by simpa using hi)] at e; cases e
    · rw [List.getElem?_set_ne hj] at e
      obtain ⟨z, ez, rz⟩ := h.2 j w e
      exact ⟨z, by unfold L2.wipe; rw [List.getElem?_set_ne hj]; exact ez, rz⟩
theorem wipe_get {σ : L2.St} {i : Nat} : ∀ {vs : List Nat}, (L2.wipe σ vs)[i]? = if i ∈ vs then (if i < σ.length then some none else none) else σ[i]?
  | [] => by simp [L2.wipe]
  | v :: vs => by
    unfold L2.wipe
    by_cases h : v = i
    · subst h
      rw [if_pos List.mem_cons_self]
      by_cases hi : v < σ.length
      · rw [List.getElem?_set_self (by rw [wipe_length]; exact hi), if_pos hi]
      · rw [List.getElem?_eq_none (by rw [List.length_set, wipe_length]; omega), if_neg hi]
    · rw [List.getElem?_set_ne h, wipe_get]
      by_cases h2 : i ∈ vs
      · rw [if_pos h2, if_pos (List.mem_cons_of_mem _ h2)]
      · rw [if_neg h2, if_neg (by rw [List.mem_cons]; rintro (e | e); exact h e.symm; exact h2 e)]
theorem wipe_out {σ σ2 : L2.St} {T vs : List Nat} (o : Out T (L2.wipe σ vs) σ2) (hT : ∀ i ∈ T, i ∈ vs) : L2.wipe σ2 vs = L2.wipe σ vs := by
  apply List.ext_getElem?
  intro i
  have hlen : σ2.length = σ.length := by rw [o.1, wipe_length]
  rw [wipe_get, wipe_get]
  by_cases h : i ∈ vs
  · rw [if_pos h, if_pos h, hlen]
  · rw [if_neg h, if_neg h, o.2 i (fun hi => h (hT i hi)), wipe_get, if_neg h]
def lcLoop (d : Desc) (L0 : Loc) (tgt : TgF) (cond : Loc → Hs → RB) (elt : Loc → Hs → RE) : Nat → Nat → List PV → Hs → Option (List PV × Hs)
  | 0, _, _, _ => none
  | fuel + 1, i, acc, S => match fetch S i d with
    | none => none
    | some none => some (acc, S)
    | some (some v) => match tgt v L0 S with
      | .nx L2 S2 => match cond L2 S2 with
        | .ok true S3 => match elt L2 S3 with
          | .ok y S4 => if i < 16777216 then lcLoop d L0 tgt cond elt fuel (i + 1) (y :: acc) S4 else none
          | _ => none
        | .ok false S3 => lcLoop d L0 tgt cond elt fuel (i + 1) acc S3
        | _ => none
      | _ => none
def turns : Nat := 1000000000
def lcEnd (fz : Bool) : Option (List PV × Hs) → RE
  | some (acc, S) => if fz then .ok (.lst acc.reverse) S else .ok (.loc S.length) (.lst acc.reverse :: S)
  | none => .bad
def lcE (fz : Bool) (own : List Nat) (src : Loc → Hs → RI) (tgt : TgF) (cond : Loc → Hs → RB) (elt : Loc → Hs → RE) : Loc → Hs → RE := fun L S => match src L S with
  | .ok d S1 => lcEnd fz (lcLoop d (wipeL L own) tgt cond elt turns 0 [] S1)
  | .ex k v S1 => .ex k v S1
  | .bad => .bad
def W0 : WX := fun _ _ _ _ => False
theorem PostI.bind {R : It → Hp → Prop} {r : RI} {f : Desc → Hs → RE} {Q : VK} (h : PostE Z W σ H m Q (match r with
    | .ok d S => f d S
    | .ex k v S => .ex k v S
    | .bad => .bad)) (c : ∀ d S H' m' J, Gr Z H m H' m' → SRel Z H' m' S → DRel Z d J H' m' → PostE Z W σ H' m' Q (f d S) → R J H') : PostI Z W σ H m R r := by
  cases r with
  | ok d S => exact fun H' m' J g s dr => c d S H' m' J g s dr (PostE.grow g h)
  | ex k v S => exact h
  | bad => exact h
structure LcI (Z : Sta) (H1 : Hp) (m1 : Mp) (D : Addr) (H : Hp) (m : Mp) (S : Hs) (i : Nat) (acc : List PV) : Prop where
  g0 : Gr0 Z H1 m1 H m
  ks : ∀ b o, b ∉ m1.l → H1 b = some o → H b = some o
  eh : m.h = D :: m1.h
  dl : D ∉ m.l
  sr : SRel Z H m S
  here : ∃ ys, H D = some (.lst ys) ∧ RVs Z H m acc.reverse ys
  le : acc.length ≤ i
  nk : ∀ q ∈ m1.k, q.1 ≠ D
theorem LcI.grow {D : Addr} {H1 : Hp} {m1 : Mp} {i : Nat} {acc : List PV} {H' : Hp} {m' : Mp} {S' : Hs} (c : LcI Z H1 m1 D H m S i acc) (g : Gr Z H m H' m') (s' : SRel Z H' m' S') : LcI Z H1 m1 D H' m' S' i acc := by
  obtain ⟨ys, hD, hr⟩ := c.here
  refine ⟨c.g0.trans g.g0, fun b o hb e => g.keep b o (c.g0.memL hb e) (c.ks b o hb e), g.eqh.trans c.eh, g.g0.memL c.dl hD, s', ⟨ys, g.keep D _ c.dl hD, RVs.grow g hr⟩, c.le, c.nk⟩
theorem LcI.more {D : Addr} {H1 : Hp} {m1 : Mp} {i : Nat} {acc : List PV} {v : PV} (c : LcI Z H1 m1 D H m S i acc) (hD1 : H1 D = none) (r : RV Z H m v x) :
    ∃ ys, H D = some (.lst ys) ∧ ys.length = acc.length ∧ LcI Z H1 m1 D (upd H D (.lst (ys ++ [x]))) m S (i + 1) (v :: acc) := by
  obtain ⟨ys, hD, hr⟩ := c.here
  have hm : D ∈ m.h := by rw [c.eh]; exact List.mem_cons_self
  have g := Gr0.updH (Z := Z) (o := .lst (ys ++ [x])) hm (no_tup_lst hD)
  refine ⟨ys, hD, by rw [← hr.len, List.length_reverse], c.g0.trans g, fun b o hb e => ?_, c.eh, c.dl, c.sr.updH hm c.dl (no_tup_lst hD) (by rw [c.g0.eqk]; exact c.nk), ⟨_, upd_same, ?_⟩, by have := c.le; simp only [List.length_cons]; omega, c.nk⟩
  · rw [upd_ne (ne_of_none e hD1)]
    exact c.ks b o hb e
  · rw [List.reverse_cons]
    exact RVs.append (RVs.grow0 g hr) (RVs.cons (RV.grow0 g r) RVs.nil)
theorem LcI.skip {D : Addr} {H1 : Hp} {m1 : Mp} {i : Nat} {acc : List PV} (c : LcI Z H1 m1 D H m S i acc) : LcI Z H1 m1 D H m S (i + 1) acc :=
  ⟨c.g0, c.ks, c.eh, c.dl, c.sr, c.here, Nat.le_succ_of_le c.le, c.nk⟩
theorem LcI.done {D : Addr} {H1 : Hp} {m1 : Mp} {i : Nat} {acc : List PV} {fz : Bool} {Q : VK} (c : LcI Z H1 m1 D H m S i acc) (hD1 : H1 D = none) (hn : D ∉ m1.h) (hp : PostE Z W σ H1 m1 Q (lcEnd fz (some (acc, S)))) : Q (.ref D) H := by
  obtain ⟨ys, hD, hr⟩ := c.here
  -- D is no longer being made
  have gb : Gr0 Z H m H ⟨m.l, m1.h, m.k⟩ := ⟨⟨[], rfl, fun _ h => nomatch h⟩, fun a ha => .inl (by rw [c.eh]; exact List.mem_cons_of_mem _ ha), fun _ _ _ _ e => e, fun _ o e => ⟨o, e⟩, fun _ _ q => q, rfl⟩
  have sb : SRel Z H ⟨m.l, m1.h, m.k⟩ S := ⟨paired_map c.sr.cells fun c' b _ q => q.grow0 gb fun _ e => e, c.sr.nd, fun b hb => c.sr.hid b (by rw [c.eh]; exact List.mem_cons_of_mem _ hb), c.sr.lnt⟩
  have gr : Gr Z H1 m1 H ⟨m.l, m1.h, m.k⟩ := ⟨⟨c.g0.suf, fun _ h => .inl h, fun b o hb _ e => c.ks b o hb e, c.g0.there, c.g0.tup, c.g0.eqk⟩, c.ks, rfl⟩
  cases fz with
  | true =>
    refine hp H ⟨m.l, m1.h, m.k⟩ (.ref D) gr sb ?_
    unfold RV
    exact ⟨D, ys, rfl, ⟨c.dl, hn⟩, hD, RVs.grow0 gb hr⟩
  | false =>
    have gp : GrV Z H m H ⟨D :: m.l, m1.h, m.k⟩ := ⟨⟨[D], rfl⟩, fun a o hn e => ⟨⟨fun h => (List.mem_cons.mp h).elim (fun z => hn.2 (by rw [c.eh, z]; exact List.mem_cons_self)) hn.1, fun h => hn.2 (by rw [c.eh]; exact List.mem_cons_of_mem _ h)⟩, e⟩, fun _ _ q => q, fun _ h => h⟩
    have sp : SRel Z H ⟨D :: m.l, m1.h, m.k⟩ (.lst acc.reverse :: S) := ⟨.cons ⟨ys, hD, RVs.growV gp hr⟩ (paired_map c.sr.cells fun c' b _ q => q.growV gp fun _ e => e), List.nodup_cons.mpr ⟨c.dl, c.sr.nd⟩, sb.hid, fun q hq => ⟨fun z => (List.mem_cons.mp z).elim (c.nk q (by rw [← c.g0.eqk]; exact hq)) (c.sr.lnt q hq).1, (c.sr.lnt q hq).2⟩⟩
    have gf : Gr Z H1 m1 H ⟨D :: m.l, m1.h, m.k⟩ := by
      refine ⟨⟨?_, fun _ h => .inl h, fun b o hb _ e => c.ks b o hb e, c.g0.there, c.g0.tup, c.g0.eqk⟩, c.ks, rfl⟩
      obtain ⟨ms, em, hms⟩ := c.g0.suf
      refine ⟨D :: ms, by rw [em]; rfl, fun a ha => ?_⟩
      rcases List.mem_cons.mp ha with z | z
      · rw [z]; exact hD1
      · exact hms a z
    refine hp H ⟨D :: m.l, m1.h, m.k⟩ (.ref D) gf sp ?_
    unfold RV
    exact ⟨D, by rw [c.sr.len]; exact getR_top, rfl⟩
theorem lc_read {fz : Bool} {own T : List Nat} {tgt : TgF} {cond : Loc → Hs → RB} {elt : Loc → Hs → RE} {src : Loc → Hs → RI} {Q : VK} (hT : ∀ i ∈ T, i ∈ own)
    (h : tE Z W (lcE fz own src tgt cond elt) σ H Q) : tLc (tI Z W src) (tG Z T tgt) (tB Z W0 cond) (tE Z W0 elt) own σ H Q := by
  obtain ⟨m, L, S, sr, hl, hp⟩ := h
  refine ⟨m, L, S, sr, hl, PostI.bind hp fun d S1 H1 m1 J g1 s1 dr hp1 => ?_⟩
  intro D hD
  have hl1 : LRel Z H1 m1 (wipeL L own) (L2.wipe σ own) := (hl.grow g1).wipe own
  refine ⟨fun i k H' => ∃ m' S' acc, LcI Z H1 m1 D H' m' S' i acc ∧ PostE Z W σ H1 m1 Q (lcEnd fz (lcLoop d (wipeL L own) tgt cond elt k i acc S')), ⟨turns, ⟨m1.l, D :: m1.h, m1.k⟩, S1, [], ?_, hp1⟩, ?_⟩
  · -- the start
    have g := Gr.new (Z := Z) (m := m1) (o := .lst []) hD
    have gv : GrV Z H1 m1 (upd H1 D (.lst [])) ⟨m1.l, D :: m1.h, m1.k⟩ := ⟨⟨[], rfl⟩, fun a o hn e => ⟨⟨hn.1, fun h => (List.mem_cons.mp h).elim (fun z => by rw [z, hD] at e; cases e) hn.2⟩, g.keep a o hn.1 e⟩, g.g0.tup, fun _ h => h⟩
    refine ⟨⟨⟨[], rfl, fun _ h => nomatch h⟩, fun a h => (List.mem_cons.mp h).elim (fun z => .inr (by rw [z]; exact hD)) .inl, fun b o hb _ e => g.keep b o hb e, g.g0.there, g.g0.tup, rfl⟩, fun b o hb e => g.keep b o hb e, rfl, (s1.notin hD).1, ?_, ⟨[], upd_same, RVs.nil⟩, Nat.le_refl _, fun q hq z => by rw [← z, (s1.lnt q hq).2] at hD; cases hD⟩
    refine ⟨paired_map s1.cells fun c' b hb q => q.growV gv fun o e => by rw [upd_ne (ne_of_none e hD)]; exact e, s1.nd, fun b hb => ?_, fun q hq => ⟨(s1.lnt q hq).1, g.keep q.1 _ (s1.lnt q hq).1 (s1.lnt q hq).2⟩⟩
    rcases List.mem_cons.mp hb with z | z
    · rw [z]; exact ⟨_, upd_same⟩
    · obtain ⟨o, e⟩ := s1.hid b z
      exact ⟨o, by rw [upd_ne (ne_of_none e hD)]; exact e⟩
  · rintro i k H' ⟨m', S', acc, c, hk⟩
    cases k with
    | zero => exact hk.elim
    | succ k =>
      rw [lcLoop] at hk
      have dr' := dr H' m' S' i c.g0 c.sr
      cases ef : fetch S' i d with
      | none => rw [ef] at hk; exact hk.elim
      | some r =>
        cases r with
        | none =>
          rw [ef] at hk
          exact .inl ⟨dr'.2 ef, c.done hD (s1.notin hD).2 hk⟩
        | some v =>
          rw [ef] at hk
          obtain ⟨hgo, hy⟩ := dr'.1 v ef
          refine .inr ⟨hgo, fun H2 => ∃ m' S' acc, LcI Z H1 m1 D H2 m' S' (i + 1) acc ∧ PostE Z W σ H1 m1 Q (lcEnd fz (lcLoop d (wipeL L own) tgt cond elt k (i + 1) acc S')), fun H2 h2 => ⟨k, Nat.lt_succ_self _, h2⟩, fun x H2 hyx => ?_⟩
          obtain ⟨m2, g2, s2, r2⟩ := hy x H2 hyx
          have c2 := c.grow g2 s2
          have hl2 : LRel Z H2 m2 (wipeL L own) (L2.wipe σ own) := ⟨hl1.1, fun i v e => let ⟨x, ex, r⟩ := hl1.2 i v e; ⟨x, ex, r.grow0 c2.g0⟩⟩
          refine ⟨m2, wipeL L own, S', v, s2, hl2, r2, ?_⟩
          simp only at hk
          cases et : tgt v (wipeL L own) S' with
          | nx L3 S3 =>
            rw [et] at hk
            simp only at hk
            intro H3 m3 σ3 g3 s3 l3 o3
            refine ⟨wipe_out o3 hT, m3, L3, S3, s3, l3, ?_⟩
            have c3 := c2.grow g3 s3
            cases ec : cond L3 S3 with
            | ok b S4 =>
              rw [ec] at hk
              intro H4 m4 g4 s4
              have c4 := c3.grow g4 s4
              cases b with
              | true =>
                rw [if_pos rfl]
                simp only at hk
                refine ⟨m4, L3, S4, s4, l3.grow g4, ?_⟩
                cases ee : elt L3 S4 with
                | ok y S5 =>
                  rw [ee] at hk
                  simp only at hk
                  intro H5 m5 yv g5 s5 r5
                  have c5 := c4.grow g5 s5
                  split at hk
                  · rename_i hi
                    obtain ⟨ys, hD5, hlen, c6⟩ := c5.more hD r5
                    exact ⟨ys, hD5, by rw [hlen, sizeLine_eq]; exact Nat.lt_of_le_of_lt c5.le hi, m5, S5, y :: acc, c6, hk⟩
                  · exact hk.elim
                | ex k' v' S' => rw [ee] at hk; exact hk.elim
                | bad => rw [ee] at hk; exact hk.elim
              | false =>
                rw [if_neg Bool.false_ne_true]
                simp only at hk
                exact ⟨m4, S4, acc, c4.skip, hk⟩
            | ex k' v' S' => rw [ec] at hk; exact hk.elim
            | bad => rw [ec] at hk; exact hk.elim
          | rt _ _ => rw [et] at hk; exact hk.elim
          | bk _ _ => rw [et] at hk; exact hk.elim
          | ct _ _ => rw [et] at hk; exact hk.elim
          | ex _ _ _ _ => rw [et] at hk; exact hk.elim
          | bad => rw [et] at hk; exact hk.elim
end
end MP
set_option maxRecDepth 100000
namespace MP
open PySem L2
section
variable {Z : Sta} {W : WX} {σ : L2.St} {H H1 : Hp} {m m1 : Mp} {X : Cx} {S : Hs} {x y : V} {a : Addr} {T : List Nat}
theorem ok_nilS : PSs X [] (tS Z W nilS) := PSs.imp pss_nil fun D σ H ⟨m, L, S, sr, hl, hp⟩ => hp H m σ Gr.refl sr hl
theorem PostS.bind {D : Ends} {r : RS} {g : Loc → Hs → RS} (h : PostS Z W D H m (r.bind g)) : PostS Z W { D with nx := tS Z W g D } H m r := by
  cases r with
  | nx L S => exact fun H' m' σ' gr s l => ⟨m', L, S, s, l, PostS.grow gr h⟩
  | rt v S => exact h
  | bk L S => exact h
  | ct L S => exact h
  | ex k v L S => exact h
  | bad => exact h
theorem ok_seqS {st : Stmt} {rest : List Stmt} {f g : Loc → Hs → RS} (h1 : PS X st (tS Z W f)) (h2 : PSs X rest (tS Z W g)) : PSs X (st :: rest) (tS Z W (seqS f g)) :=
  PSs.imp (pss_cons h1 h2) fun D σ H ⟨m, L, S, sr, hl, hp⟩ => ⟨m, L, S, sr, hl, PostS.bind hp⟩
def expS (f : Loc → Hs → RE) : Loc → Hs → RS := fun L S => (f L S).bindS L fun _ S1 => .nx L S1
theorem ok_retS {e : Expr} {pos : Pos} {f : Loc → Hs → RE} (he : PE X e (tE Z W f)) : PS X (.Return (some e) pos) (tS Z W (retS f)) :=
  PS.imp (ps_ret he) fun D σ H ⟨m, L, S, sr, hl, hp⟩ => ⟨m, L, S, sr, hl, PostE.bindS hl hp fun v S1 H1 m1 x g1 s1 r1 hp1 => hp1 H1 m1 x Gr.refl s1 r1⟩
theorem ok_ifS {c : Expr} {p q : List Stmt} {pos : Pos} {t : Loc → Hs → RB} {f g : Loc → Hs → RS} (hc : PT X c (tB Z W t)) (h1 : PSs X p (tS Z W f)) (h2 : PSs X q (tS Z W g)) : PS X (.If c p q pos) (tS Z W (ifS t f g)) := by
  refine PS.imp (ps_if hc h1 h2) ?_
  rintro D σ H ⟨m, L, S, sr, hl, hp⟩
  refine ⟨m, L, S, sr, hl, PostB.bindS hl hp fun v S1 H1 m1 g1 s1 hp1 => ?_⟩
  cases v with
  | true => rw [if_pos rfl]; exact ⟨m1, L, S1, s1, hl.grow g1, hp1⟩
  | false => rw [if_neg Bool.false_ne_true]; exact ⟨m1, L, S1, s1, hl.grow g1, hp1⟩
theorem onlyN_post {D : Ends} {r : RS} (h : PostS Z W D H m (onlyN r)) : PostG Z T σ H m D.nx r := by
  cases r with
  | nx L S => exact fun H' m' σ' g s l _ => h H' m' σ' g s l
  | _ => exact h.elim
theorem asg_read {D : Ends} {f : Loc → Hs → RE} {g : TgF} (h : tS Z W (asgS f g) D σ H) : tAsg (tE Z W f) (tG Z T g) D σ H := by
  obtain ⟨m, L, S, sr, hl, hp⟩ := h
  exact ⟨m, L, S, sr, hl, PostE.bindS hl hp fun v S1 H1 m1 x g1 s1 r1 hp1 => ⟨m1, L, S1, v, s1, hl.grow g1, r1, onlyN_post hp1⟩⟩
theorem ok_asg {tg e : Expr} {pos : Pos} {f : Loc → Hs → RE} {g : TgF} (he : PE X e (tE Z W f)) (hg : PG X tg (tG Z T g)) (hs : swapsWithSole [tg] e pos.line X.env = pure false) (hw : swappedStores [tg] e X.env = pure none)
    (h1 : (assignEach [tg] X.env).map (·.2) = [assign tg X.env]) : PS X (.Assign [tg] e pos) (tS Z W (asgS f g)) :=
  PS.imp (ps_asg he hg hs hw h1) fun D σ H h => asg_read h
def augS (i : Nat) (f : Loc → Hs → RE) (o : PV → PV → Hs → RE) : Loc → Hs → RS := fun L S => match L[i]? with
  | some (some v) => (f L S).bindS L fun w S1 => (o v w S1).bindS L fun z S2 => .nx (L.set i (some z)) S2
  | _ => .bad
def forLoop (d : Desc) (tgt : TgF) (body : Loc → Hs → RS) : Nat → Nat → Loc → Hs → RS
  | 0, _, _, _ => .bad
  | fuel + 1, i, L, S => match fetch S i d with
    | none => .bad
    | some none => .nx L S
    | some (some v) => match tgt v L S with
      | .nx L1 S1 => match body L1 S1 with
        | .nx L2 S2 => forLoop d tgt body fuel (i + 1) L2 S2
        | .ct L2 S2 => forLoop d tgt body fuel (i + 1) L2 S2
        | .bk L2 S2 => .nx L2 S2
        | r => r
      | _ => .bad
def forS (src : Loc → Hs → RI) (tgt : TgF) (body : Loc → Hs → RS) : Loc → Hs → RS := fun L S => match src L S with
  | .ok d S1 => forLoop d tgt body turns 0 L S1
  | .ex k v S1 => .ex k v L S1
  | .bad => .bad
theorem ok_for {tg iter : Expr} {body : List Stmt} {pos : Pos} {src : Loc → Hs → RI} {tgt : TgF} {b : Loc → Hs → RS} (hp : PassesOwn (model X.prog X.w) X.A X.env X.xe) (hc : X.calm = true) (hi : PI X tg iter (tI Z W src)) (hg : PG X tg (tG Z T tgt)) (hb : PSs X body (tS Z W b))
    (hs : ∀ x, foldedSetIterable iter X.env x = pure x) : PS X (.For tg iter body [] pos) (tS Z W (forS src tgt b)) := by
  refine PS.imp (ps_for hp hc hi hg hb hs) ?_
  rintro D σ H ⟨m, L, S, sr, hl, hq⟩
  refine ⟨m, L, S, sr, hl, ?_⟩
  unfold forS at hq
  cases es : src L S with
  | bad => rw [es] at hq; exact hq.elim
  | ex k v S1 => rw [es] at hq; exact fun H' m' d g s ex => hq H' m' d σ g s (hl.grow g) ex
  | ok d S1 =>
    rw [es] at hq
    intro H1 m1 J g1 s1 dr
    refine ⟨fun i k σ' H' => ∃ m' L' S', Gr Z H1 m1 H' m' ∧ SRel Z H' m' S' ∧ LRel Z H' m' L' σ' ∧ PostS Z W D H' m' (forLoop d tgt b k i L' S'), ⟨turns, m1, L, S1, Gr.refl, s1, hl.grow g1, PostS.grow g1 hq⟩, ?_⟩
    rintro i k σ' H' ⟨m', L', S', g', s', l', hk⟩
    cases k with
    | zero => exact hk.elim
    | succ k =>
      rw [forLoop] at hk
      have dr' := dr H' m' S' i g'.g0 s'
      cases ef : fetch S' i d with
      | none => rw [ef] at hk; exact hk.elim
      | some r =>
        cases r with
        | none =>
          rw [ef] at hk
          exact .inl ⟨dr'.2 ef, hk H' m' σ' Gr.refl s' l'⟩
        | some v =>
          rw [ef] at hk
          obtain ⟨hgo, hy⟩ := dr'.1 v ef
          refine .inr ⟨hgo, fun σ2 H2 => ∃ m' L' S', Gr Z H1 m1 H2 m' ∧ SRel Z H2 m' S' ∧ LRel Z H2 m' L' σ2 ∧ PostS Z W D H2 m' (forLoop d tgt b k (i + 1) L' S'), fun σ2 H2 h2 => ⟨k, Nat.lt_succ_self _, h2⟩, fun x H2 hyx => ?_⟩
          obtain ⟨m2, g2, s2, r2⟩ := hy x H2 hyx
          refine ⟨m2, L', S', v, s2, l'.grow g2, r2, ?_⟩
          simp only at hk
          cases et : tgt v L' S' with
          | nx L3 S3 =>
            rw [et] at hk
            simp only at hk
            intro H3 m3 σ3 g3 s3 l3 o3
            refine ⟨m3, L3, S3, s3, l3, ?_⟩
            have hk3 := PostS.grow (g2.trans g3) hk
            have gg := (g'.trans g2).trans g3
            cases ec : b L3 S3 with
            | nx L4 S4 =>
              rw [ec] at hk3
              exact fun H4 m4 σ4 g4 s4 l4 => ⟨m4, L4, S4, gg.trans g4, s4, l4, PostS.grow g4 hk3⟩
            | ct L4 S4 =>
              rw [ec] at hk3
              exact fun H4 m4 σ4 g4 s4 l4 => ⟨m4, L4, S4, gg.trans g4, s4, l4, PostS.grow g4 hk3⟩
            | bk L4 S4 => rw [ec] at hk3; exact hk3
            | rt v S4 => rw [ec] at hk3; exact hk3
            | ex k v L S4 => rw [ec] at hk3; exact hk3
            | bad => rw [ec] at hk3; exact hk3
          | rt _ _ => rw [et] at hk; exact hk.elim
          | bk _ _ => rw [et] at hk; exact hk.elim
          | ct _ _ => rw [et] at hk; exact hk.elim
          | ex _ _ _ _ => rw [et] at hk; exact hk.elim
          | bad => rw [et] at hk; exact hk.elim
end
end MP
set_option maxRecDepth 100000
namespace MP
open PySem L2
section
variable {Z : Sta} {W : WX} {σ : L2.St} {H H1 : Hp} {m m1 m2 : Mp} {X : Cx} {S : Hs} {x y : V} {a : Addr}
theorem freezes_rv {f : PV → Option PV} : ∀ {xs : List PV} {ys : List V} {ws : List PV}, (∀ v x w, v ∈ xs → RV Z H m v x → f v = some w → RV Z H m2 w x) → RVs Z H m xs ys → mapO f xs = some ws → RVs Z H m2 ws ys
  | [], _, _, _, r, e => by cases e; unfold RVs at r; subst r; exact RVs.nil
  | v :: xs, _, _, h, r, e => by
    unfold RVs at r
    obtain ⟨y, t, rfl, r1, r2⟩ := r
    unfold mapO at e
    cases e1 : f v with
    | none => rw [e1] at e; cases e
    | some b =>
      rw [e1] at e
      cases e2 : mapO f xs with
      | none => rw [e2] at e; cases e
      | some bs =>
        rw [e2] at e
        cases e
        exact RVs.cons (h v y b List.mem_cons_self r1 e1) (freezes_rv (fun v x w hv => h v x w (List.mem_cons_of_mem _ hv)) r2 e2)
theorem map_some {A B : Type} {f : A → B} {o : Option A} {b : B} (h : o.map f = some b) : ∃ a, o = some a ∧ f a = b := by
  cases o with
  | none => cases h
  | some a => exact ⟨a, rfl, Option.some.inj h⟩
theorem keys_any {n : Nat} (ih : ∀ {k : PV} {x : V}, isKey n k = true → RV Z H m k x → RV Z H m2 k x) : ∀ {ks : List PV} {xs : List V}, ks.all (isKey n) = true → RVs Z H m ks xs → RVs Z H m2 ks xs
  | [], _, _, r => by unfold RVs at r; subst r; exact RVs.nil
  | k :: ks, _, h, r => by
    unfold RVs at r
    obtain ⟨y, t, rfl, r1, r2⟩ := r
    rw [List.all_cons, Bool.and_eq_true] at h
    exact RVs.cons (ih h.1 r1) (keys_any ih h.2 r2)
theorem flat_any {k : PV} {x : V} (h : isFlat k = true) (r : RV Z H m k x) : RV Z H m2 k x := by
  cases k <;> first
    | (cases h; done)
    | (unfold RV at r ⊢; exact r)
theorem key_any : ∀ {n : Nat} {k : PV} {x : V}, isKey n k = true → RV Z H m k x → RV Z H m2 k x
  | 0, k, x, h, r => flat_any h r
  | n + 1, k, x, h, r => by
    unfold isKey at h
    split at h
    · unfold RV at r ⊢
      obtain ⟨a, ys, e, hq, hr⟩ := r
      exact ⟨a, ys, e, hq, keys_any (fun h r => key_any h r) h hr⟩
    · exact flat_any h r
theorem keysB_all {ks : List PV} (h : keysB ks = true) : ks.all (isKey kd) = true := by
  unfold keysB at h
  rw [Bool.and_eq_true, Bool.and_eq_true] at h
  exact h.1.1
theorem keysB_any {ks : List PV} {xs : List V} (h : keysB ks = true) (r : RVs Z H m ks xs) : RVs Z H m2 ks xs := keys_any (n := kd) (fun h r => key_any h r) (keysB_all h) r
theorem freeze_rv (hS : ∀ i c, getR S i = some c → ∃ a, getR m.l i = some a ∧ CRel Z H m c a ∧ a ∉ m2.l ∧ a ∉ m2.h) (hf : ∀ a o, H a = some o → a ∉ m.l ∧ a ∉ m.h → a ∉ m2.l ∧ a ∉ m2.h) (hk : ∀ p ∈ m.k, p ∈ m2.k) :
    ∀ {n : Nat} {v w : PV} {x : V}, RV Z H m v x → freeze S n v = some w → RV Z H m2 w x
  | 0, _, _, _, _, e => by cases e
  | n + 1, v, w, x, r, e => by
    have go : ∀ {xs : List PV} {ys : List V} {ws : List PV}, RVs Z H m xs ys → mapO (freeze S n) xs = some ws → RVs Z H m2 ws ys :=
      fun r e => freezes_rv (fun v x w _ r e => freeze_rv hS hf hk r e) r e
    unfold freeze at e
    cases v with
    | non => cases e; unfold RV at r ⊢; exact r
    | bl b => cases e; unfold RV at r ⊢; exact r
    | int b => cases e; unfold RV at r ⊢; exact r
    | str b => cases e; unfold RV at r ⊢; exact r
    | st b => cases e; unfold RV at r ⊢; exact r
    | ty b => cases e; unfold RV at r ⊢; exact r
    | scr ns =>
      cases e
      unfold RV at r ⊢
      obtain ⟨a, ex, h⟩ := r
      refine ⟨a, ex, ?_⟩
      rcases h with ⟨h1, h2⟩ | h
      · rcases h2 with h2 | ⟨o, h2⟩
        · exact .inl ⟨hf a _ h2 h1, .inl h2⟩
        · exact .inl ⟨hf a _ h2 h1, .inr ⟨o, h2⟩⟩
      · exact .inr h
    | exo k t =>
      cases e
      unfold RV at r ⊢
      obtain ⟨a, d, ex, hn, hq, hd⟩ := r
      refine ⟨a, d, ex, hf a _ hq hn, hq, ?_⟩
      rcases hd with hd | ⟨hs, dx, e2, hn2, hq2⟩
      · exact .inl hd
      · exact .inr ⟨hs, dx, e2, hf dx _ hq2 hn2, hq2⟩
    | tup xs =>
      obtain ⟨ws, e1, rfl⟩ := map_some e
      unfold RV at r ⊢
      obtain ⟨a, ys, ex, hq, hr⟩ := r
      exact ⟨a, ys, ex, hq, go hr e1⟩
    | lst xs =>
      obtain ⟨ws, e1, rfl⟩ := map_some e
      unfold RV at r ⊢
      obtain ⟨a, ys, ex, hn, hq, hr⟩ := r
      exact ⟨a, ys, ex, hf a _ hq hn, hq, go hr e1⟩
    | dct ks vs =>
      obtain ⟨ws, e1, rfl⟩ := map_some e
      unfold RV at r ⊢
      obtain ⟨a, es, ex, hq, h1, h2, h3, h4⟩ := r
      refine ⟨a, es, ex, ?_, h1, h2, keysB_any h1 h3, go h4 e1⟩
      rcases hq with ⟨hn, ep, hq⟩ | hq
      · exact .inl ⟨hf a _ hq hn, ep, hq⟩
      · exact .inr hq
    | lnt ks vs =>
      obtain ⟨ws, e1, rfl⟩ := map_some e
      unfold RV at r ⊢
      obtain ⟨a, ep, es, ex, hq, h1, h2, h3, h4⟩ := r
      exact ⟨a, ep, es, ex, hk _ hq, h1, h2, keysB_any h1 h3, go h4 e1⟩
    | obj k ns xs =>
      obtain ⟨ws, e1, rfl⟩ := map_some e
      unfold RV at r ⊢
      obtain ⟨a, dx, ys, ex, hn, hq, hl, hr⟩ := r
      exact ⟨a, dx, ys, ex, hf a _ hq hn, hq, hl, go hr e1⟩
    | loc i =>
      unfold RV at r
      obtain ⟨a, ea, ex⟩ := r
      cases ec : getR S i with
      | none => simp only [ec] at e; cases e
      | some c =>
        obtain ⟨b, eb, rc, hn⟩ := hS i c ec
        rw [ea] at eb
        cases eb
        cases c with
        | lst xs =>
          simp only [ec] at e
          obtain ⟨ws, e1, rfl⟩ := map_some e
          obtain ⟨ys, hq, hr⟩ := rc
          unfold RV
          exact ⟨a, ys, ex, hn, hq, go hr e1⟩
        | dct ks vs =>
          simp only [ec] at e
          obtain ⟨ws, e1, rfl⟩ := map_some e
          obtain ⟨es, hq, h1, h2, h3, h4⟩ := rc
          unfold RV
          exact ⟨a, es, ex, .inl ⟨hn, hq⟩, h1, h2, keysB_any h1 h3, go h4 e1⟩
        | ins k ns xs =>
          simp only [ec] at e
          obtain ⟨ws, e1, rfl⟩ := map_some e
          obtain ⟨dx, ys, hq, hl, hr⟩ := rc
          unfold RV
          exact ⟨a, dx, ys, ex, hn, hq, hl, go hr e1⟩
        | tab j =>
          simp only [ec] at e
          cases e
def Mp.apart (m : Mp) : Mp := ⟨[], m.l ++ m.h, m.k⟩
theorem notin_app {l k : List Addr} : a ∉ l ++ k ↔ a ∉ l ∧ a ∉ k := by rw [List.mem_append, not_or]
theorem SRel.apart (s : SRel Z H m S) : SRel Z H m.apart [] :=
  ⟨.nil, List.nodup_nil, fun a h => (List.mem_append.mp h).elim (fun q => s.tracked q) (fun q => s.hid a q), fun q hq => ⟨List.not_mem_nil, (s.lnt q hq).2⟩⟩
theorem arg_apart {v w : PV} {n : Nat} (r : RV Z H m v x) (e : freeze [] n v = some w) : RV Z H m.apart w x :=
  freeze_rv (m := m) (m2 := m.apart) (fun i c h => by unfold getR at h; simp at h) (fun a o _ hn => ⟨List.not_mem_nil, notin_app.mpr hn⟩) (fun _ h => h) r e
theorem args_apart {vs ws : List PV} {xs : List V} {n : Nat} (r : RVs Z H m vs xs) (e : mapO (freeze [] n) vs = some ws) : RVs Z H m.apart ws xs :=
  freezes_rv (fun v x w _ r e => arg_apart r e) r e
theorem Gr.back (g : Gr Z H m.apart H1 m1) : Gr Z H m H1 m :=
  have k : ∀ b o, H b = some o → H1 b = some o := fun b o h => g.keep b o List.not_mem_nil h
  ⟨⟨⟨[], rfl, fun _ h => nomatch h⟩, fun _ h => .inl h, fun b o _ _ h => k b o h, g.g0.there, g.g0.tup, rfl⟩, fun b o _ h => k b o h, rfl⟩
theorem SRel.back (g : Gr Z H m.apart H1 m1) (s : SRel Z H m S) : SRel Z H1 m S :=
  ⟨paired_map s.cells fun c a _ q => q.grow g.back fun o h => g.keep a o List.not_mem_nil h, s.nd, fun a h => g.g0.there a _ (s.hid a h).choose_spec, fun q hq => ⟨(s.lnt q hq).1, g.keep q.1 _ List.not_mem_nil (s.lnt q hq).2⟩⟩
theorem res_back {S1 : Hs} {v w : PV} {n : Nat} (s : SRel Z H m S) (g : Gr Z H m.apart H1 m1) (s1 : SRel Z H1 m1 S1) (r : RV Z H1 m1 v x) (e : freeze S1 n v = some w) : RV Z H1 m w x := by
  refine freeze_rv (m := m1) (m2 := m) (fun i c h => ?_) (fun a o _ hn => ?_) (fun p hp => by rw [g.g0.eqk] at hp; exact hp) r e
  · obtain ⟨a, ea, rc⟩ := s1.at_ h
    refine ⟨a, ea, rc, ?_⟩
    obtain ⟨ms, em, hms⟩ := g.g0.suf
    have hm : a ∈ ms := by
      have := getR_mem ea
      rw [em] at this
      simpa [Mp.apart] using this
    exact s.notin (hms a hm)
  · have := hn.2
    rw [g.eqh] at this
    exact notin_app.mp this
def spF (Z : Sta) (np : Nat) (f : List PV → Hs → RE) : Sp := fun vs H Q E => vs.length = np ∧ ∃ m S ps, SRel Z H m S ∧ RVs Z H m ps vs ∧ PostE Z (fun c d _ H' => E c d H') [] H m Q (f ps S)
theorem PostE.noσ {W : WX} {E : XK} {Q : VK} {r : RE} (h : PostE Z W σ H m Q r) (he : ∀ c d H', W c d σ H' → E c d H') : PostE Z (fun c d _ H' => E c d H') [] H m Q r := by
  cases r with
  | ok v S => exact h
  | ex k v S => exact fun H' m' d g s e => he _ _ _ (h H' m' d g s e)
  | bad => exact h
theorem res_bare {v : PV} (g : Gr Z H m.apart H1 m1) (s1 : SRel Z H1 m1 []) (r : RV Z H1 m1 v x) : RV Z H1 m v x := by
  have e : m1.l = [] := by
    have := s1.len
    exact List.eq_nil_of_length_eq_zero this.symm
  refine RV.growV (H1 := H1) (m1 := m) ⟨⟨m.l, by rw [e, List.append_nil]⟩, fun a o hn h => ⟨?_, h⟩, fun _ _ h => h, fun p hp => by rw [g.g0.eqk] at hp; exact hp⟩ r
  rw [g.eqh] at hn
  exact notin_app.mp hn.2
theorem exc_back {S1 : Hs} {v w : PV} {n : Nat} {d : Option Addr} (s : SRel Z H m S) (g : Gr Z H m.apart H1 m1) (s1 : SRel Z H1 m1 S1) (r : ExcAt Z H1 m1 v d) (e : freeze S1 n v = some w) : ExcAt Z H1 m w d := by
  obtain ⟨dx, x, rfl, hd, hr⟩ := r
  exact ⟨dx, x, rfl, hd, res_back s g s1 hr e⟩
theorem end_post {r : RE} (s : SRel Z H m S) (h : PostE Z W σ H m Q (endC S r)) {E : XK} (he : ∀ c d H', W c d σ H' → E c d H') : PostE Z (fun c d _ H' => E c d H') [] H m.apart Q r := by
  unfold endC at h
  split at h
  · exact fun H1 m1 x g1 s1 r1 => h H1 m x g1.back (s.back g1) (res_bare g1 s1 r1)
  · rename_i v S1 _
    cases ew : freeze S1 dpF v with
    | none => rw [ew] at h; exact h.elim
    | some w =>
      rw [ew] at h
      exact fun H1 m1 x g1 s1 r1 => h H1 m x g1.back (s.back g1) (res_back s g1 s1 r1 ew)
  · refine fun H1 m1 d g1 s1 r1 => he _ _ _ (h H1 m d g1.back (s.back g1) ?_)
    obtain ⟨dx, x, rfl, hd, hr⟩ := r1
    exact ⟨dx, x, rfl, hd, res_bare g1 s1 hr⟩
  · rename_i k v S1 _
    cases ew : freeze S1 dpF v with
    | none => rw [ew] at h; exact h.elim
    | some w =>
      rw [ew] at h
      exact fun H1 m1 d g1 s1 r1 => he _ _ _ (h H1 m d g1.back (s.back g1) (exc_back s g1 s1 r1 ew))
  · exact h.elim
theorem iso_sp {np : Nat} {f : List PV → Hs → RE} {args : List PV} {xs : List V} {Q : VK} {E : XK} (s : SRel Z H m S) (r : RVs Z H m args xs) (hl : xs.length = np) (h : PostE Z W σ H m Q (isoC f args S)) (he : ∀ c d H', W c d σ H' → E c d H') : spF Z np f xs H Q E := by
  unfold isoC at h
  split at h
  · have e : m.apart = m := by
      have e : m.l = [] := List.eq_nil_of_length_eq_zero s.len.symm
      obtain ⟨l, h, k⟩ := m
      cases e
      rfl
    have h2 := end_post s h he
    exact ⟨hl, m.apart, [], args, s.apart, by rw [e]; exact r, h2⟩
  · rename_i S _
    cases ea : mapO (freeze [] dpF) args with
    | none =>
      rw [ea] at h
      exact ⟨hl, m, _, args, s, r, h.noσ he⟩
    | some as =>
      rw [ea] at h
      exact ⟨hl, m.apart, [], as, s.apart, args_apart r ea, end_post s h he⟩
theorem call_sp {np : Nat} {f : List PV → Hs → RE} {args : List PV} {xs : List V} {Q : VK} {E : XK} (s : SRel Z H m S) (r : RVs Z H m args xs) (hl : xs.length = np) (h : PostE Z W σ H m Q (f args S)) (he : ∀ c d H', W c d σ H' → E c d H') : spF Z np f xs H Q E :=
  ⟨hl, m, S, args, s, r, h.noσ he⟩
def runB (ns : Nat) (b : Loc → Hs → RS) : List PV → Hs → RE := fun args S => match b (args.map some ++ List.replicate (ns - args.length) none) S with
  | .nx _ S1 => .ok .non S1
  | .rt v S1 => .ok v S1
  | .ex k v _ S1 => .ex k v S1
  | _ => .bad
theorem lrel_start {N : List Str} : ∀ {ps : List PV} {vs : List V}, RVs Z H m ps vs → LRel Z H m (ps.map some ++ List.replicate (N.length - ps.length) none) (L2.start N vs) := fun {ps vs} r => by
  have e := r.len
  unfold L2.start
  refine ⟨by simp [e], fun i v h => ?_⟩
  by_cases hi : i < ps.length
  · rw [List.getElem?_append_left (by simpa using hi)] at h
    rw [List.getElem?_map] at h
    cases ep : ps[i]? with
    | none => rw [ep] at h; cases h
    | some p =>
      rw [ep] at h
      cases h
      obtain ⟨x, ex, rx⟩ := r.get ep
      refine ⟨x, ?_, rx⟩
      rw [List.getElem?_append_left (by rw [List.length_map, ← e]; exact hi), List.getElem?_map, ex]
      rfl
  · rw [List.getElem?_append_right (by simpa using hi)] at h
    rw [List.getElem?_replicate] at h
    split at h <;> cases h
theorem run_post {N : List Str} {b : Loc → Hs → RS} {ps : List PV} {vs : List V} {Q : VK} {E : XK} (s : SRel Z H m S) (r : RVs Z H m ps vs) (h : PostE Z (fun c d _ H' => E c d H') [] H m Q (runB N.length b ps S)) :
    tS Z (fun c d _ H' => E c d H') b { nx := fun _ H' => Q .non H', rt := Q } (L2.start N vs) H := by
  refine ⟨m, _, S, s, lrel_start r, ?_⟩
  unfold runB at h
  cases eb : b (ps.map some ++ List.replicate (N.length - ps.length) none) S with
  | nx L S1 => rw [eb] at h; exact fun H' m' σ' g s l => h H' m' .non g s to_non
  | rt v S1 => rw [eb] at h; exact h
  | bk L S1 => rw [eb] at h; exact h.elim
  | ct L S1 => rw [eb] at h; exact h.elim
  | ex k v L S1 => rw [eb] at h; exact fun H' m' d σ' g s l e => h H' m' d g s e
  | bad => rw [eb] at h; exact h.elim
end
end MP
set_option maxRecDepth 100000
namespace MP
open PySem L2
def BindOk (Z : Sta) (fd : FuncData) (ps : List Str) (n : Nat) (ks : List Str) (arr : List PV → List PV → List PV) : Prop :=
  ∀ (s : Shared) (us ws : List Value) (xs zs : List V), Z.K.In s.heap → us.length = n → ws.length = ks.length → Vals xs us → Vals zs ws →
    ∃ (ts : List Value) (ys : List V), BindsTo s fd ⟨us, ks.zip ws⟩ (ps.zip ts) ∧ Vals ys ts ∧ ys.length = ps.length ∧ ∀ (H : Hp) (m : Mp) (vs qs : List PV), RVs Z H m vs xs → RVs Z H m qs zs → RVs Z H m (arr vs qs) ys
structure Good (Z : Sta) (lv : Nat) (X : Cx) (W : WX) : Prop where
  prog : X.prog = Z.P
  w : X.w = Z.w
  K : X.K = Z.K
  mg : X.mg = Z.mg
  base : X.base = Z.base
  room3 : Room (lv + 3) X.A
  calm : X.calm = true
  nd : X.N.Nodup
  takes : Takes X W
theorem Good.room {Z : Sta} {lv : Nat} {X : Cx} {W : WX} (g : Good Z lv X W) : Room (lv + 1) X.A := g.room3.mono (by omega)
def noStar1 : Expr → Bool
  | .Starred _ _ => false
  | _ => true
def noStar (es : List Expr) : Bool := es.all noStar1
theorem star_cons {e : Expr} {es : List Expr} {env : Env} (h : noStar1 e = true) : starEach (e :: es) env = (false, eval e env) :: starEach es env := by
  cases e <;> first | rfl | cases h
theorem star_any {env : Env} {pos : Pos} : ∀ {es : List Expr}, noStar es = true → (backTo pos (starEach es env)).any (·.1) = false
  | [], _ => rfl
  | e :: es, h => by
    unfold noStar at h
    rw [List.all_cons, Bool.and_eq_true] at h
    rw [star_cons h.1]
    show (false || (backTo pos (starEach es env)).any (·.1)) = false
    rw [star_any (es := es) h.2]
    rfl
section
variable {Z : Sta} {W : WX} {σ : L2.St} {H H1 : Hp} {m m1 m2 : Mp} {X : Cx} {S : Hs} {x y : V} {a : Addr} {lv : Nat}
theorem kw_names {env : Env} {pos : Pos} : ∀ {kws : List Keyword} {ks : List Str}, kws.map (·.arg) = ks.map some → (backToKw pos (keywordEach kws env)).all (·.1.isSome) = true ∧ (backToKw pos (keywordEach kws env)).filterMap (·.1) = ks ∧ (backToKw pos (keywordEach kws env)).any (·.1.isNone) = false
  | [], ks, h => by
    cases ks with
    | nil => exact ⟨rfl, rfl, rfl⟩
    | cons _ _ => cases h
  | ⟨nm, e, p⟩ :: kws, ks, h => by
    cases ks with
    | nil => cases h
    | cons k ks =>
      rw [List.map_cons, List.map_cons] at h
      injection h with h1 h2
      have h1' : nm = some k := h1
      subst h1'
      obtain ⟨a1, a2, a3⟩ := kw_names (env := env) (pos := pos) h2
      have e0 : ∃ t, backToKw pos (keywordEach (⟨some k, e, p⟩ :: kws) env) = (some k, t) :: backToKw pos (keywordEach kws env) := ⟨_, rfl⟩
      obtain ⟨t, e0⟩ := e0
      rw [e0]
      exact ⟨by rw [List.all_cons, a1]; rfl, by rw [List.filterMap_cons, a2], by rw [List.any_cons, a3]; rfl⟩
inductive ArgsOk (Z : Sta) (X : Cx) (W : WX) : List Expr → (Loc → Hs → RA) → Prop where
  | nil : ArgsOk Z X W [] nilA
  | cons {e : Expr} {es : List Expr} {g : Loc → Hs → RA} : PA X (e :: es) (tA Z W g) → noStar (e :: es) = true → ArgsOk Z X W (e :: es) g
inductive KwsOk (Z : Sta) (X : Cx) (W : WX) : List Keyword → List Str → (Loc → Hs → RA) → Prop where
  | nil : KwsOk Z X W [] [] nilA
  | cons {e : Keyword} {es : List Keyword} {ks : List Str} {g : Loc → Hs → RA} : PK X (e :: es) (tA Z W g) → (e :: es).map (·.arg) = ks.map some → KwsOk Z X W (e :: es) ks g
def CallAt (Z : Sta) (X : Cx) (W : WX) (pins : List (Addr × Obj)) (σ : L2.St) (H : Hp) (m : Mp) (Q : VK) (f : List PV → List PV → Hs → RE) (n : Nat) (ks : List Str) (F : List Value → List Value → Sem Value) : Prop :=
  ∀ (us ws : List Value) (s2 : Shared) (xs zs : List V) (H2 : Hp) (m2 : Mp) (S2 : Hs) (vs qs : List PV), Gr Z H m H2 m2 → Inv X pins σ H2 s2 → Vals xs us → Vals zs ws → SRel Z H2 m2 S2 → RVs Z H2 m2 vs xs → RVs Z H2 m2 qs zs → vs.length = n → qs.length = ks.length →
    PostE Z W σ H2 m2 Q (f vs qs S2) → wpAny (model X.prog X.w) X.A (F us ws) (EP X pins σ Q) X.xe s2
theorem callWith_all {es : List Expr} {kws : List Keyword} {ks : List Str} {pos : Pos} {fv : Value} {first : List Value} {ga gk : Loc → Hs → RA} {n : Nat} {f : List PV → List PV → Hs → RE} {pins : List (Addr × Obj)} {s : Shared} {Q : VK} {L : Loc}
    (hk : PySem.W.keepIn X.K fv = true) (ha : ArgsOk Z X W es ga) (hkw : KwsOk Z X W kws ks gk) (I : Inv X pins σ H s) (sr : SRel Z H m S) (hl : LRel Z H m L σ)
    (hp : PostE Z W σ H m Q (callE n ks.length ga gk f L S)) (hc : CallAt Z X W pins σ H m Q f n ks fun us ws => call fv (first ++ us) (ks.zip ws)) :
    wpAny (model X.prog X.w) X.A (callWith pos fv first (backTo pos (starEach es X.env)) (backToKw pos (keywordEach kws X.env))) (EP X pins σ Q) X.xe s := by
  cases ha with
  | nil =>
    cases hkw with
    | nil =>
      refine PySem.W.callWith_K0 I.kIn hk ?_
      have hp1 : PostE Z W σ H m Q (if ([] : List PV).length = n ∧ ([] : List PV).length = ([] : List Str).length then f [] [] S else .bad) := hp
      split at hp1
      · rename_i c
        exact hc [] [] s [] [] H m S [] [] Gr.refl I .nil .nil sr RVs.nil RVs.nil c.1 c.2 hp1
      · exact hp1.elim
    | cons hq hks =>
      obtain ⟨k1, k2, k3⟩ := kw_names (env := X.env) (pos := pos) hks
      have hp0 : PostE Z W σ H m Q ((gk L S).bind fun qs S2 => if ([] : List PV).length = n ∧ qs.length = ks.length then f [] qs S2 else .bad) := hp
      refine PySem.W.callWith_KW0 (h₀ := X.base) I.ok.mod.kin hk k1 (thn (hq.run pos pins s σ H (fun zs H2 => ∃ m2 S2 qs, Gr Z H m H2 m2 ∧ SRel Z H2 m2 S2 ∧ RVs Z H2 m2 qs zs ∧ ([] : List PV).length = n ∧ qs.length = ks.length ∧ PostE Z W σ H2 m2 Q (f [] qs S2)) I
        ⟨m, L, S, sr, hl, PostA.bind hp0 fun qs S2 H2 m2 zs g2 s2 r2 hp2 => ?_⟩) fun ws s2 ⟨zs, H2, I2, rz, m2, S2, qs, g2, sr2, r2, c1, c2, hp2⟩ => ⟨I2.kIn, ?_⟩) k3
      · split at hp2
        · rename_i c
          exact ⟨m2, S2, qs, g2, s2, r2, c.1, c.2, hp2⟩
        · exact hp2.elim
      · rw [k2]
        exact hc [] ws s2 [] zs H2 m2 S2 [] qs g2 I2 .nil rz sr2 RVs.nil r2 c1 c2 hp2
  | cons hpa hst =>
    rename_i e0 es0
    have hst' : noStar1 e0 = true ∧ noStar es0 = true := by
      unfold noStar at hst
      rw [List.all_cons, Bool.and_eq_true] at hst
      exact hst
    cases hkw with
    | nil =>
      have hp0 : PostE Z W σ H m Q ((ga L S).bind fun vs S1 => if vs.length = n ∧ ([] : List PV).length = ([] : List Str).length then f vs [] S1 else .bad) := hp
      refine PySem.W.callWith_K (h₀ := X.base) I.ok.mod.kin hk (thn (hpa.run pos pins s σ H (fun xs H2 => ∃ m2 S2 vs, Gr Z H m H2 m2 ∧ SRel Z H2 m2 S2 ∧ RVs Z H2 m2 vs xs ∧ vs.length = n ∧ PostE Z W σ H2 m2 Q (f vs [] S2)) I
        ⟨m, L, S, sr, hl, PostA.bind hp0 fun vs S2 H2 m2 xs g2 s2 r2 hp2 => ?_⟩) fun us s2 ⟨xs, H2, I2, rx, m2, S2, vs, g2, sr2, r2, c1, hp2⟩ => ⟨I2.kIn, ?_⟩) (star_cons hst'.1) (star_any hst'.2)
      · split at hp2
        · rename_i c
          exact ⟨m2, S2, vs, g2, s2, r2, c.1, hp2⟩
        · exact hp2.elim
      · exact hc us [] s2 xs [] H2 m2 S2 vs [] g2 I2 rx .nil sr2 r2 RVs.nil c1 rfl hp2
    | cons hq hks =>
      obtain ⟨k1, k2, k3⟩ := kw_names (env := X.env) (pos := pos) hks
      have hpl : ∀ {e : Expr} {es : List Expr}, noStar (e :: es) = true → ∀ b, b = false → ((backTo pos (starEach (e :: es) X.env)).any (·.1) || b) = false := fun h b hb => by
        rw [star_any h, hb]; rfl
      refine PySem.W.callWith_KW (h₀ := X.base) I.ok.mod.kin hk k1 (thn (hpa.run pos pins s σ H (fun xs H1 => ∃ m1 S1 vs, Gr Z H m H1 m1 ∧ SRel Z H1 m1 S1 ∧ LRel Z H1 m1 L σ ∧ RVs Z H1 m1 vs xs ∧ PostE Z W σ H1 m1 Q ((gk L S1).bind fun qs S2 => if vs.length = n ∧ qs.length = ks.length then f vs qs S2 else .bad)) I
        ⟨m, L, S, sr, hl, PostA.bind hp fun vs S1 H1 m1 xs g1 s1 r1 hp1 => ⟨m1, S1, vs, g1, s1, hl.grow g1, r1, hp1⟩⟩) fun us s1 ⟨xs, H1, I1, rx, m1, S1, vs, g1, sr1, hl1, r1, hp1⟩ => ?_) (hpl hst _ k3) (star_cons hst'.1)
      refine thn (hq.run pos pins s1 σ H1 (fun zs H2 => ∃ m2 S2 qs, Gr Z H1 m1 H2 m2 ∧ SRel Z H2 m2 S2 ∧ RVs Z H2 m2 qs zs ∧ vs.length = n ∧ qs.length = ks.length ∧ PostE Z W σ H2 m2 Q (f vs qs S2)) I1
        ⟨m1, L, S1, sr1, hl1, PostA.bind hp1 fun qs S2 H2 m2 zs g2 s2 r2 hp2 => ?_⟩) fun ws s2 ⟨zs, H2, I2, rz, m2, S2, qs, g2, sr2, r2, c1, c2, hp2⟩ => ⟨I2.kIn, ?_⟩
      · split at hp2
        · rename_i c
          exact ⟨m2, S2, qs, g2, s2, r2, c.1, c.2, hp2⟩
        · exact hp2.elim
      · rw [k2]
        exact hc us ws s2 xs zs H2 m2 S2 vs qs (g1.trans g2) I2 rx rz sr2 (r1.grow g2) r2 c1 c2 hp2
end
structure Fn (Z : Sta) (lv : Nat) (g : Nat) (fd : FuncData) (ps : List Str) (f : List PV → Hs → RE) : Prop where
  ok : FnOk Z.P Z.w Z.K Z.mg Z.base (CX Z.P Z.w) lv (Z.G g) fd ps (spF Z ps.length f)
  kp : PySem.W.keepIn Z.K (.ref (Z.G g)) = true
  fn : PySem.W.isFn Z.K (.ref (Z.G g)) = true
section
variable {Z : Sta} {W : WX} {σ : L2.St} {H H1 : Hp} {m m1 m2 : Mp} {X : Cx} {S : Hs} {x y : V} {a : Addr} {lv g : Nat} {fd : FuncData} {ps ks : List Str} {f : List PV → Hs → RE} {pins : List (Addr × Obj)} {s : Shared} {Q : VK}
theorem own_code {A : Around} {us : List Value} {kw : List (Str × Value)} {ts : List Value} {ys : List V} {E : XK} {R : Result → Shared → Prop} (gd : Good Z lv X W) (F : Fn Z lv g fd ps f) (hr : Room lv A) (hA : A.frames = X.A.frames)
    (I : Inv X pins σ H s) (hb : BindsTo s fd ⟨us, kw⟩ (ps.zip ts)) (rt : Vals ys ts) (h : spF Z ps.length f ys H Q E) (hR : ∀ v H' u s', Inv X pins σ H' s' → RelV v u → Q v H' → R (.ok (.ret u)) s')
    (hE : ∀ e s', CX X.prog X.w X.stack H s E e s' → R (.error e) s') : codeAny (model X.prog X.w) A (.call (.ref (Z.G g)) ⟨us, kw⟩) R s := by
  have e0 : Env0 Z.P Z.w Z.K Z.mg Z.base A X.stack s H := by
    have e := I.env0
    rw [gd.prog, gd.w, gd.K, gd.mg, gd.base] at e
    exact ⟨by rw [hA]; exact e.frames, e.mod, e.bs, e.bsz, e.funs, e.frf, e.hok, e.bare⟩
  have q := F.ok.run A X.stack s H ⟨us, kw⟩ ts ys Q E hr e0 hb rt h
  rw [← gd.prog, ← gd.w] at q
  refine codeAny_mono q fun r s' hq => ?_
  cases r with
  | error e => exact hE e s' hq
  | ok fl =>
    cases fl with
    | ret u =>
      obtain ⟨v, H', I', rv, qv⟩ := I.after hq
      exact hR v H' u s' I' rv qv
    | next => exact False.elim hq
    | brk => exact False.elim hq
    | cont => exact False.elim hq
theorem own_run {A : Around} {us : List Value} {kw : List (Str × Value)} {ts : List Value} {ys : List V} {R : Value → Shared → Prop} (gd : Good Z lv X W) (F : Fn Z lv g fd ps f) (hr : Room lv A) (hA : A.frames = X.A.frames)
    (I : Inv X pins σ H s) (hb : BindsTo s fd ⟨us, kw⟩ (ps.zip ts)) (rt : Vals ys ts) (h : spF Z ps.length f ys H Q (WE W σ)) (hR : ∀ v H' u s', Inv X pins σ H' s' → RelV v u → Q v H' → R u s') :
    wpAny (model X.prog X.w) A (call (.ref (Z.G g)) us kw) R X.xe s :=
  wpAny_call (own_code gd F hr hA I hb rt h hR fun e s' c => passAt gd.takes σ pins H s e s' I c)
theorem use_sp {iso : Bool} {np : Nat} {args : List PV} {xs : List V} {E : XK} (s : SRel Z H m S) (r : RVs Z H m args xs) (hl : xs.length = np) (h : PostE Z W σ H m Q (useC iso f args S)) (he : ∀ c d H', W c d σ H' → E c d H') : spF Z np f xs H Q E := by
  cases iso with
  | true => exact iso_sp s r hl h he
  | false => exact call_sp s r hl h he
theorem ok_callG {es : List Expr} {kws : List Keyword} {nm : Str} {p pos : Pos} {ga gk : Loc → Hs → RA} {n : Nat} {iso : Bool} {arr : List PV → List PV → List PV} (gd : Good Z lv X W) (F : Fn Z lv g fd ps f) (hb : BindOk Z fd ps n ks arr) (hg : Gl X nm) (hm : Z.mg nm = some (.ref (Z.G g)))
    (ha : ArgsOk Z X W es ga) (hkw : KwsOk Z X W kws ks gk) (hdb : (nm == ("__debug__" : Str)) = false) :
    PE X (.Call (.Name nm p) es kws pos) (tE Z W (callE n ks.length ga gk fun vs qs => useC iso f (arr vs qs))) := by
  refine ⟨fun pins s σ H Q I ⟨m, L, S, sr, hl, hp⟩ => ?_⟩
  refine PySem.wpAny_Call_Name_kw (ld_glob I hg (by rw [gd.mg]; exact hm) ?_ hdb)
  refine callWith_all (by rw [gd.K]; exact F.kp) ha hkw I sr hl hp fun us ws s2 xs zs H2 m2 S2 vs qs g2 I2 rx rz sr2 r1 r2 c1 c2 hp2 => ?_
  obtain ⟨ts, ys, b1, b2, b3, b4⟩ := hb s2 us ws xs zs (by rw [← gd.K]; exact I2.kIn) (by rw [← rx.length, ← r1.len]; exact c1) (by rw [← rz.length, ← r2.len]; exact c2) rx rz
  exact own_run gd F (gd.room.mono (Nat.le_succ _)) rfl I2 b1 b2 (use_sp sr2 (b4 H2 m2 vs qs r1 r2) b3 hp2 fun _ _ _ h => h) fun v H' u s' I' rv q => ⟨v, H', I', rv, q⟩
end
end MP
set_option maxRecDepth 100000
namespace MP
open PySem L2
def FKOk (Z : Sta) (has : Nat → Bool) (k f : Nat) : FK → Prop
  | .fld => Cls Z.K (Z.G k) ∧ NoAttr Z.K (Z.G k) (Z.FN f)
  | .prop g => Cls Z.K (Z.G k) ∧ (∃ p, PropOf Z.K (Z.G k) (Z.FN f) p (Z.G g)) ∧ has g = true
  | .meth g => Cls Z.K (Z.G k) ∧ Meth Z.K (Z.G k) (Z.FN f) (Z.G g) ∧ has g = true
  | .bad => True
structure TabOk (Z : Sta) (lv : Nat) (T : Tab) (fdO : Nat → FuncData) (psO : Nat → List Str) : Prop where
  fn : ∀ g, T.has g = true → Fn Z lv g (fdO g) (psO g) (T.run g)
  mem : ∀ k f, FKOk Z T.has k f (T.mem k f)
  arr : ∀ g n ks a, T.arr g n ks = some a → BindOk Z (fdO g) (psO g) n ks a
def lookN (f : Nat) : List Nat → List PV → Option PV
  | n :: ns, x :: xs => if n = f then some x else lookN f ns xs
  | _, _ => none
section
variable {Z : Sta} {W : WX} {σ : L2.St} {H H1 : Hp} {m m1 m2 : Mp} {X : Cx} {S : Hs} {x y : V} {a : Addr} {lv g k f : Nat} {T : Tab} {fdO : Nat → FuncData} {psO : Nat → List Str} {pins : List (Addr × Obj)} {s : Shared} {Q : VK}
theorem clsOf_ok (sr : SRel Z H m S) {v : PV} {ns : List Nat} {xs : List PV} (r : RV Z H m v x) (h : clsOf S v = some (k, ns, xs)) :
    ∃ a dx ys, x = .ref a ∧ H a = some (.ins (Z.G k) dx (zipF Z ns ys)) ∧ ns.length = ys.length ∧ RVs Z H m xs ys := by
  unfold clsOf at h
  split at h
  · cases h
    unfold RV at r
    obtain ⟨a, dx, ys, e, _, q, l, rr⟩ := r
    exact ⟨a, dx, ys, e, q, l, rr⟩
  · rename_i i
    split at h
    · rename_i e
      cases h
      unfold RV at r
      obtain ⟨a, ea, ex⟩ := r
      obtain ⟨b, eb, dx, ys, q, l, rr⟩ := sr.at_ e
      rw [ea] at eb
      cases eb
      exact ⟨a, dx, ys, ex, q, l, rr⟩
    · cases h
  · cases h
def attrV (T : Tab) (f : Nat) (v : PV) (S : Hs) : RE := match clsOf S v with
  | some (k, ns, xs) => match T.mem k f with
    | .fld => okO (lookN f ns xs) S
    | .prop g => match T.arr g 1 [] with
      | some a => isoC (T.run g) (a [v] []) S
      | none => .bad
    | _ => .bad
  | none => .bad
def noX : RE → RE
  | .ok v S => .ok v S
  | _ => .bad
end
end MP
set_option maxRecDepth 100000
namespace MP
open PySem L2
section
variable {Z : Sta} {W : WX} {σ : L2.St} {H H1 H2 : Hp} {m m1 m2 : Mp} {X : Cx} {S S1 : Hs} {x y : V} {a : Addr} {lv g k f : Nat} {T : Tab} {fdO : Nat → FuncData} {psO : Nat → List Str} {pins : List (Addr × Obj)} {s : Shared} {Q : VK}
def attrX (T : Tab) (f : Nat) (e : Loc → Hs → RE) : Loc → Hs → RE := fun L S => (e L S).bind fun v S1 => noX (attrV T f v S1)
structure Beside (Z : Sta) (H : Hp) (m : Mp) (H2 : Hp) (m2 : Mp) : Prop where
  keep : ∀ b o, H b = some o → H2 b = some o ∧ b ∉ m2.l
  hid : m2.h = m.l ++ m.h
  new : ∀ b ∈ m2.l, H b = none
  tup : ∀ b xs, SqT Z.K H b xs → SqT Z.K H2 b xs
  subk : ∀ p ∈ m.k, p ∈ m2.k
theorem Beside.back (c : Beside Z H m H2 m2) (g : Gr Z H2 m2 H1 m1) : Gr Z H m H1 m :=
  have k : ∀ b o, H b = some o → H1 b = some o := fun b o h => g.keep b o (c.keep b o h).2 (c.keep b o h).1
  ⟨⟨⟨[], rfl, fun _ h => nomatch h⟩, fun _ h => .inl h, fun b o _ _ h => k b o h, fun b o h => ⟨o, k b o h⟩, fun b xs h => g.g0.tup b xs (c.tup b xs h), rfl⟩, fun b o _ h => k b o h, rfl⟩
theorem Beside.args {vs ws : List PV} {xs : List V} {n : Nat} (c : Beside Z H m H2 m2) (r : RVs Z H m vs xs) (e : mapO (freeze [] n) vs = some ws) : RVs Z H2 m2 ws xs := by
  refine RVs.growV (m := m.apart) (H := H) ⟨⟨m2.l, by unfold Mp.apart; simp⟩, fun a o hn h => ⟨⟨(c.keep a o h).2, by rw [c.hid]; exact hn.2⟩, (c.keep a o h).1⟩, c.tup, c.subk⟩ (args_apart r e)
end
end MP
set_option maxRecDepth 100000
namespace MP
open PySem PySem.W PySem.Calls PyProof.Rows
section
variable {prog : Program} {w : World} {M : Model} {A : Around} {E : Value → Shared → Prop} {s : Shared} {K : Frag} {x C f : Addr} {ox : Obj} {od : Option Obj} {nm T : String} {Q : Value → Shared → Prop} {b : Value}
def noInp (K : Frag) (C : Addr) (i : Str) : Bool := match clsIn K C with
  | some cd => cd.mro.all fun c => decide (findIn K c i = some none)
  | none => false
end
section
variable {prog : Program} {w : World} {M : Model} {A : Around} {E : Value → Shared → Prop} {s : Shared} {K : Frag} {x C f : Addr} {ox : Obj} {od : Option Obj} {nm : String} {Q : Value → Shared → Prop} {i : Int} {t : Tok}
structure IntNo (nm : String) : Prop where
  fills : fillsNumberSlot (.type "int") nm = pure true
  no : ∀ {prog : Program} {w : World} {A : Around} {E : Value → Shared → Prop} {s : Shared} {x : Addr} {ox : Obj} {R : Option Value → Shared → Prop} {i : Int} {t : Tok}, s.heap.get? x = some ox → ox.data = .plain → R none s →
    wpAny (model prog w) A (tryMethod (.int i t) (dunder nm) (.ref x)) R E s
end
end MP
set_option maxRecDepth 100000
namespace MP
open PySem L2
structure OpT where
  f : Nat
  r : Nat
  ks : List Nat
  rs : List Nat
  ri : List Nat
structure OwnOp (Z : Sta) (op : Operator) (k : Nat) : Prop where
  first : PySem.W.selfFirst Z.K (Z.G k) = true
  rc : ∃ rc, PySem.W.findIn Z.K (.ref (Z.G k)) (dunderR op.info.2) = some rc ∧ (rc = none ∨ ∃ g : Addr, rc = some (.ref g))
  str : (∃ fo, PySem.W.findIn Z.K (.type "str") (dunder op.info.2) = some fo) ∧ (∃ ro, PySem.W.findIn Z.K (.type "str") (dunderR op.info.2) = some ro) ∧ PySem.W.subIn Z.K (.type "str") (.ref (Z.G k)) = some false
  int : (∃ fo, PySem.W.findIn Z.K (.type "int") (dunder op.info.2) = some fo) ∧ (∃ ro, PySem.W.findIn Z.K (.type "int") (dunderR op.info.2) = some ro) ∧ PySem.W.subIn Z.K (.type "int") (.ref (Z.G k)) = some false
  inp : noInp Z.K (Z.G k) (PySem.dunderI op.info.2) = true
structure OwnRef (Z : Sta) (op : Operator) (k : Nat) : Prop where
  first : PySem.W.selfFirst Z.K (Z.G k) = true
  dn : ∃ rfv, PySem.W.findIn Z.K (.ref (Z.G k)) (dunder op.info.2) = some (some rfv) ∧ ownNameWrapper rfv (dunder op.info.2) = false
  s1 : PySem.W.findIn Z.K (.type "str") (dunder op.info.2) = some none
  s2 : PySem.W.findIn Z.K (.type "str") (dunderR op.info.2) = some none
structure OwnRefI (Z : Sta) (op : Operator) (k : Nat) : Prop where
  first : PySem.W.selfFirst Z.K (Z.G k) = true
  dn : ∃ rfv, PySem.W.findIn Z.K (.ref (Z.G k)) (dunder op.info.2) = some (some rfv) ∧ ownNameWrapper rfv (dunder op.info.2) = false
  sub : PySem.W.subIn Z.K (.ref (Z.G k)) (.type "int") = some false
structure OpTOk (Z : Sta) (op : Operator) (o : OpT) : Prop where
  nm : Z.FN o.f = dunder op.info.2
  nr : Z.FN o.r = dunderR op.info.2
  ks : ∀ k ∈ o.ks, OwnOp Z op k
  rs : ∀ k ∈ o.rs, OwnRef Z op k
  ri : ∀ k ∈ o.ri, OwnRefI Z op k ∧ IntNo op.info.2
def simp2 : PV → Bool
  | .str _ => true
  | .int _ => true
  | _ => false
def own2 (T : Tab) (o : OpT) (p q : PV) (S : Hs) : RE := match clsOf S p, clsOf S q with
  | none, none => .bad
  | some (k, _, _), some (k2, _, _) => if k = k2 ∧ k ∈ o.ks then ownC T k o.f [p, q] S else .bad
  | some (k, _, _), none => if k ∈ o.ks ∧ simp2 q = true then ownC T k o.f [p, q] S else .bad
  | none, some (k2, _, _) => match p with
    | .str _ => if k2 ∈ o.rs then ownC T k2 o.r [q, p] S else .bad
    | .int _ => if k2 ∈ o.ri then ownC T k2 o.r [q, p] S else .bad
    | _ => .bad
def binD (T : Tab) (o : OpT) (b : PV → PV → Hs → RE) (p q : PV) (S : Hs) : RE := if (clsOf S p).isNone && (clsOf S q).isNone then b p q S else own2 T o p q S
def inpD (T : Tab) (o : OpT) (b : PV → PV → Hs → RE) (p q : PV) (S : Hs) : RE := if (clsOf S p).isNone then b p q S else own2 T o p q S
section
variable {Z : Sta} {W : WX} {σ : L2.St} {H H1 : Hp} {m m1 m2 : Mp} {X : Cx} {S : Hs} {x y : V} {a : Addr} {lv g k f : Nat} {T : Tab} {fdO : Nat → FuncData} {psO : Nat → List Str} {pins : List (Addr × Obj)} {s : Shared} {Q : VK}
theorem ownC_ok {args : List PV} {xs : List V} {us : List Value} (TO : TabOk Z lv T fdO psO) (gd : Good Z lv X W) (I : Inv X pins σ H s) (sr : SRel Z H m S) (ra : RVs Z H m args xs) (rv : Vals xs us) (hp : PostE Z W σ H m Q (ownC T k f args S)) :
    ∃ g, Cls Z.K (Z.G k) ∧ PySem.W.findIn Z.K (.ref (Z.G k)) (Z.FN f) = some (some (.ref (Z.G g))) ∧ PySem.W.isFn Z.K (.ref (Z.G g)) = true ∧
      ∀ (A : Around) (R : Value → Shared → Prop), Room lv A → A.frames = X.A.frames → (∀ v H' u s', Inv X pins σ H' s' → RelV v u → Q v H' → R u s') → wpAny (model X.prog X.w) A (call (.ref (Z.G g)) us) R X.xe s := by
  unfold ownC at hp
  split at hp
  · rename_i g em
    have tk := TO.mem k f
    rw [em] at tk
    obtain ⟨hc, hm, hh⟩ := tk
    split at hp
    · rename_i aa ea
      have hb := TO.arr g args.length [] aa ea
      have F := TO.fn g hh
      refine ⟨g, hc, hm.at_, hm.fn, fun A R hr hA hR => ?_⟩
      obtain ⟨ts, ys, b1, b2, b3, b4⟩ := hb s us [] xs [] (by rw [← gd.K]; exact I.kIn) (by rw [← rv.length, ← ra.len]) rfl rv .nil
      exact own_run gd F hr hA I b1 b2 (iso_sp sr (b4 H m args [] ra RVs.nil) b3 hp fun _ _ _ h => h) hR
    · exact hp.elim
  · exact hp.elim
theorem ni_of {x : V} {u : Value} (r : RelV x u) {R : Value → Shared → Prop} {s' : Shared} (h : R u s') : PySem.W.CmpBack R u s' := by
  cases x with
  | ref a => cases r; exact h
  | non => cases r; exact h
  | bl b => cases r; exact h
  | int i => obtain ⟨t, rfl⟩ := r; exact h
  | str i => obtain ⟨t, rfl⟩ := r; exact h
  | byt i => obtain ⟨t, rfl⟩ := r; exact h
  | flt i => obtain ⟨t, rfl⟩ := r; exact h
  | ty i => cases r; exact h
structure UnT where
  f : Nat
  ks : List Nat
def unaO (T : Tab) (u : UnT) (op : UnaryOp) (f : Loc → Hs → RE) : Loc → Hs → RE := fun L S => (f L S).bind fun v S1 => match clsOf S1 v with
  | some (k, _, _) => if k ∈ u.ks then ownC T k u.f [v] S1 else .bad
  | none => unaV op v S1
end
end MP
set_option maxRecDepth 100000
namespace MP
open PySem PySem.W PySem.Calls PyProof.Rows
section
variable {prog : Program} {w : World} {A : Around} {E : Value → Shared → Prop} {s : Shared} {K : Frag} {x C f : Addr} {ox : Obj} {od : Option Obj} {b tb : Value}
def NotB (Q : Value → Shared → Prop) (v : Value) (s' : Shared) : Prop := ∃ c, v = .bool c ∧ Q (.bool (!c)) s'
open Builtin in
theorem one_ne {Q : Value → Shared → Prop} (hu : A.in1.units < cLine) (X : K.In s.heap) (I : InstAt s.heap x ox C od) (hm : mroIn K C (.type "object") = some true) (he : findIn K (.ref C) "__eq__" = some (some (.ref f))) (hf : isFn K (.ref f) = true)
    (h : wpAny (model prog w) A.in1 (call (.ref f) [.ref x, b]) (NotB Q) E s) : wpAny (model prog w) A (call (.builtin "object.__ne__") [.ref x, b]) Q E s := by
  refine wpAny_call (codeAny_call_builtin (by decide +kernel) PySem.F.cmpEntry_ne (check_slot (i := "object.__ne__") (owner := "object") (n := "__ne__") (by decide +kernel) (by decide +kernel) (I.type.andThen (looks_mroIn X hm)) (PySem.F.cmpArgs_ne _ _) ?_))
  unfold Builtin.«object.__ne__»
  refine wpAny_bind (m := slotArgs "__ne__" 1 _) (wpAny_pure ?_)
  repeat (first
    | with_reducible refine wpAny_cRoomFor hu ?_
    | (refine wpAny_bind (m := callSpecialIfBound? (.ref x) (Str.ofString "__eq__") [b])
        (ifBound_K X I he hf (wpAny_mono h (fun r s' hr => by
          obtain ⟨b, rfl, hq⟩ := hr
          repeat (first | exact hq | exact wpAny_pure hq | exact wpAny_truthy_bool hq | (refine wpAny_bind (m := truthy (.bool _)) (wpAny_truthy_bool ?_)) | wp_step)) fun _ _ e => e)))
    | wp_step)
theorem ne_K {Q : Value → Shared → Prop} (hu : A.in1.units < cLine) (hu0 : A.units < cLine) (X : K.In s.heap) (I : InstAt s.heap x ox C od) (hb : Looks (model prog w) s.heap (typeOf b) tb) (hn : notFirst K C tb = true) (hm : mroIn K C (.type "object") = some true)
    (hs : findIn K (.ref C) "__ne__" = some (some (.builtin "object.__ne__"))) (he : findIn K (.ref C) "__eq__" = some (some (.ref f))) (hf : isFn K (.ref f) = true)
    (h : wpAny (model prog w) A.in1 (call (.ref f) [.ref x, b]) (NotB Q) E s) : wpAny (model prog w) A (richCompare .NotEq (.ref x) b) Q E s := by
  have one : wpAny (model prog w) A (tryCompare (.ref x) (Str.ofString "__ne__") b) (fun r s' => ∃ v, r = some v ∧ Q v s') E s := by
    have fin := one_ne (Q := fun v s' => v ≠ .notImplemented ∧ Q v s') hu X I hm he hf (wpAny_mono h (fun v s' hv => by obtain ⟨c, rfl, q⟩ := hv; exact ⟨c, rfl, ⟨(fun z => nomatch z), q⟩⟩) fun _ _ e => e)
    unfold tryCompare
    simp only [callSpecialIfBound?, bindSpecialIfBound?]
    refine wpAny_bind (wpAny_holding (wpAny_bind (wpAny_bind (wpAny_bind (I.type.here ((looks_findIn X hs).here ?_))))))
    refine wpAny_bind (wpAny_askSetting (wpAny_ite ?_))
    have hbs : ∀ self, bindSpecial (.builtin "object.__ne__") self = pure (.builtin "object.__ne__", [self]) := fun self => by kernel_rfl
    have last : wpAny (model prog w) A (call (.builtin "object.__ne__") ([.ref x] ++ [b]) >>= fun v => pure (some v)) (fun r s' => wpAny (model prog w) A (match r with
      | some .notImplemented | none => pure none
      | some v => pure (some v)) (fun r s' => ∃ v, r = some v ∧ Q v s') E s') E s := wpAny_bind (wpAny_mono fin (fun v s' h' => wpAny_pure (by
        obtain ⟨h1, h2⟩ := h'
        cases v <;> first | exact absurd rfl h1 | exact wpAny_pure ⟨_, rfl, h2⟩)) fun _ _ h' => h')
    split
    · exact wpAny_bind ((Looks.of_pure (hbs _)).here (wpAny_pure (by exact last)))
    · exact wpAny_tryCatch (wpAny_bind ((Looks.of_pure (hbs _)).here (wpAny_pure (by exact last))))
  unfold richCompare
  simp only [oneThing_ref]
  refine wpAny_holding (wpAny_bind (wpAny_cRoomFor hu0 ?_))
  refine wpAny_bind (I.type.here (wpAny_bind (hb.here ?_)))
  split
  · rename_i q
    have e : subIn K tb (.ref C) = some false := by
      rcases Bool.or_eq_true_iff.mp hn with e | e
      · rw [beq_iff_eq.mp e] at q; simp at q
      · exact beq_iff_eq.mp e
    refine wpAny_bind ((looks_subIn X e).here ?_)
    simp only [Bool.false_eq_true, if_false]
    refine wpAny_bind (wpAny_mono one (fun r s' z => ?_) fun _ _ e => e)
    obtain ⟨v, rfl, hq⟩ := z
    exact wpAny_pure hq
  · refine wpAny_bind (wpAny_pure ?_)
    simp only [Bool.false_eq_true, if_false]
    refine wpAny_bind (wpAny_mono one (fun r s' z => ?_) fun _ _ e => e)
    obtain ⟨v, rfl, hq⟩ := z
    exact wpAny_pure hq
open Builtin
end
end MP
set_option maxRecDepth 100000
namespace MP
open PySem L2
def tyV (Z : Sta) (n : Nat) : Value := if n < 100 then .type (tyS n) else .ref (Z.G (n - 100))
structure OwnTy (Z : Sta) (k : Nat) : Prop where
  cl : Cls Z.K (Z.G k)
  ha : PySem.W.findIn Z.K (.ref (Z.G k)) "__class__" = some (some (.builtin "object.__class__"))
  hn : PySem.W.specialIn Z.K (.builtin "object.__class__") "__get__" = some (some (.builtin "getset_descriptor.__get__"))
  htk : PySem.W.takesIn Z.K (.builtin "object.__class__") = some true
  hm : PySem.W.mroIn Z.K (Z.G k) (.type "object") = some true
section
variable {Z : Sta} {W : WX} {σ : L2.St} {H H1 : Hp} {m m1 m2 : Mp} {X : Cx} {S : Hs} {x y : V} {a : Addr} {lv g k f : Nat} {T : Tab} {fdO : Nat → FuncData} {psO : Nat → List Str} {pins : List (Addr × Obj)} {s : Shared} {Q : VK}
theorem sqT_ty {K : PySem.W.Frag} {ys : List V} (h : SqT K H a ys) : TyX K H (.ref a) (.type "tuple") := by
  rcases h with h | ⟨o, its, n, h1, h2, _⟩
  · rcases h with h | ⟨o, h⟩
    · exact .base (.tup h)
    · exact .fTuple h
  · exact .kTuple h1 h2
theorem tyX_looks {M : Model} {u t : Value} (I : Inv X pins σ H s) (rx : RelV x u) (h : TyX X.K H x t) (hn : t ≠ .type "NoneType" ∨ True) : PySem.W.Looks M s.heap (typeOf u) t := by
  cases h with
  | base h =>
    cases h with
    | non => cases (show u = Value.none from rx); exact .of_pure rfl
    | bl b => cases (show u = Value.bool b from rx); exact .of_pure rfl
    | int i => obtain ⟨t, q⟩ := (show ∃ t, u = Value.int i t from rx); cases q; exact .of_pure rfl
    | str i => obtain ⟨t, q⟩ := (show ∃ t, u = Value.str i t from rx); cases q; exact .of_pure rfl
    | flt i => obtain ⟨t, q⟩ := (show ∃ t, u = Value.float i t from rx); cases q; exact .of_pure rfl
    | @lst a xs ea =>
      cases (show u = Value.ref a from rx)
      obtain ⟨_, _, n, _, h1⟩ := (show ObjOk X.prog X.w H s.heap a (.lst xs) from I.hok a _ ea)
      exact (PySem.W.Looks.ld h1).andThen .now
    | @frz a ob xs ea =>
      cases (show u = Value.ref a from rx)
      obtain ⟨_, _, _, n, _, h1⟩ := (show ObjOk X.prog X.w H s.heap a (.frz ob (.lst xs)) from I.hok a _ ea)
      exact (PySem.W.Looks.ld h1).andThen .now
    | @tup a xs ea =>
      cases (show u = Value.ref a from rx)
      obtain ⟨_, _, _, p⟩ := (show ObjOk X.prog X.w H s.heap a (.tup xs) from I.hok a _ ea)
      obtain ⟨o, h1, h2, _⟩ := p
      rw [← h2]
      exact (PySem.W.Looks.ld h1).andThen .now
    | @dK a kvs ea =>
      cases (show u = Value.ref a from rx)
      obtain ⟨_, _, vs, _, p⟩ := (show ObjOk X.prog X.w H s.heap a (.dK kvs) from I.hok a _ ea)
      obtain ⟨o, es, ep, h1, h2, _⟩ := p
      rw [← h2.1]
      exact (PySem.W.Looks.ld h1).andThen .now
    | @dT a kvs ea =>
      cases (show u = Value.ref a from rx)
      obtain ⟨_, _, xs, _, o, es, ep, h1, h2, _⟩ := (show ObjOk X.prog X.w H s.heap a (.dT kvs) from I.hok a _ ea)
      rw [← h2.1]
      exact (PySem.W.Looks.ld h1).andThen .now
    | @ins a C dx fs ea cl ha hn htk hm =>
      cases (show u = Value.ref a from rx)
      obtain ⟨mA, O, _⟩ := ins_get I.hok ea
      obtain ⟨od, J, _⟩ := O.look
      exact J.type
  | byt y => obtain ⟨t, q⟩ := (show ∃ t, u = Value.bytes y t from rx); cases q; exact .of_pure rfl
  | @set a S n ea =>
    cases (show u = Value.ref a from rx)
    obtain ⟨o, _, _, _, e, ex, _⟩ := I.hok a _ ea
    rw [← ex.1]
    exact (PySem.W.Looks.ld e).andThen .now
  | @kList a o e c =>
    cases (show u = Value.ref a from rx)
    rw [← c]
    exact (PySem.W.Looks.ld (I.kIn a o e)).andThen .now
  | @kTuple a o e c =>
    cases (show u = Value.ref a from rx)
    rw [← c]
    exact (PySem.W.Looks.ld (I.kIn a o e)).andThen .now
  | @kDict a o e c =>
    cases (show u = Value.ref a from rx)
    rw [← c]
    exact (PySem.W.Looks.ld (I.kIn a o e)).andThen .now
  | @fTuple a ob xs ea =>
    cases (show u = Value.ref a from rx)
    obtain ⟨_, _, _, _, o, h1, h2, _⟩ := (show ObjOk X.prog X.w H s.heap a (.frz ob (.tup xs)) from I.hok a _ ea)
    rw [← h2]
    exact (PySem.W.Looks.ld h1).andThen .now
  | @fDict a ob kvs ea =>
    cases (show u = Value.ref a from rx)
    obtain ⟨_, _, _, vs, _, o, es, ep, h1, h2, _⟩ := (show ObjOk X.prog X.w H s.heap a (.frz ob (.dK kvs)) from I.hok a _ ea)
    rw [← h2.1]
    exact (PySem.W.Looks.ld h1).andThen .now
inductive TyM (K : PySem.W.Frag) (H : Hp) : V → Value → Prop where
  | x {x : V} {t : Value} (h : TyX K H x t) : TyM K H x t
  | d {a : Addr} {es : List (Int × V × V)} (e : Hdc H a es) : TyM K H (.ref a) (.type "dict")
theorem dO_at {P : Program} {w : World} {h : Heap} {es : List (Int × V × V)} (hok : HOk P w H h) (e : Hdc H a es) :
    (a == sysModules) = false ∧ ∃ (o : Obj) (ds : Array DictEntry) (ep : Nat), h.get? a = some o ∧ o.ExactDict ∧ o.data = .dict ds ep ∧ Paired EntR es ds.toList := by
  obtain ⟨ep, e⟩ := e
  obtain ⟨h0, o, ds, h1, h2, h3, h4⟩ := (hok a _ e).1
  exact ⟨h0, o, ds, ep, h1, h2, h3, h4⟩
theorem kitM_of {x : V} {u t : Value} (I : Inv X pins σ H s) (rx : RelV x u) (ty : TyM X.K H x t) : ∃ P : Heap → Prop, PySem.W.KitX X.K u t P ∧ P s.heap ∧ u ≠ .builtin "__main__.__loader__#opaque" := by
  cases ty with
  | x h => exact kit_of I rx h
  | @d a es e =>
    cases (show u = Value.ref a from rx)
    obtain ⟨_, o, ds, ep, h1, h2, _⟩ := dO_at I.hok e
    exact ⟨_, PySem.W.kitx_dict, ⟨o, h1, h2.1⟩, fun z => nomatch z⟩
theorem tyM_looks {M : Model} {u t : Value} (I : Inv X pins σ H s) (rx : RelV x u) (h : TyM X.K H x t) : PySem.W.Looks M s.heap (typeOf u) t := by
  cases h with
  | x h => exact tyX_looks I rx h (.inr trivial)
  | @d a es e =>
    cases (show u = Value.ref a from rx)
    obtain ⟨_, o, ds, ep, h1, h2, _⟩ := dO_at I.hok e
    rw [← h2.1]
    exact (PySem.W.Looks.ld h1).andThen .now
theorem tyN_ok {n : Nat} {p : PV} (sr : SRel Z H m S) (r : RV Z H m p x) (e : tyN S p = some n) (hk : 100 ≤ n → OwnTy Z (n - 100)) : TyM Z.K H x (tyV Z n) := by
  cases p with
  | non => cases e; unfold RV at r; subst r; exact .x <| .base .non
  | bl b => cases e; unfold RV at r; subst r; exact .x <| .base (.bl b)
  | int b => cases e; unfold RV at r; subst r; exact .x <| .base (.int b)
  | str b => cases e; obtain ⟨rfl, _⟩ := rv_str r; exact .x <| .base (.str _)
  | lst b =>
    cases e
    unfold RV at r
    obtain ⟨a, ys, rfl, _, q, _⟩ := r
    exact .x <| .base (.lst q)
  | dct ks vs =>
    cases e
    unfold RV at r
    obtain ⟨a, es, rfl, hq, _⟩ := r
    rcases hq with ⟨_, hq⟩ | ⟨_, o, ds, ep, h1, h2, _⟩
    · exact .d hq
    · exact .x (.kDict h1 h2.1)
  | lnt ks vs =>
    cases e
    unfold RV at r
    obtain ⟨a, ep, es, rfl, hq, _⟩ := r
    exact .d ⟨ep, (sr.lnt _ hq).2⟩
  | exo k t => cases e
  | tup b =>
    cases e
    obtain ⟨a, ys, rfl, q, _⟩ := rv_tup r
    exact .x (sqT_ty q)
  | scr b =>
    cases e
    unfold RV at r
    obtain ⟨a, rfl, h⟩ := r
    rcases h with ⟨_, h⟩ | ⟨o, its, n, h1, h2, _⟩
    · rcases h with h | ⟨o, h⟩
      · exact .x <| .base (.lst h)
      · exact .x <| .base (.frz h)
    · exact .x (.kList h1 h2)
  | obj k ns xs =>
    cases e
    obtain ⟨a, dx, ys, rfl, q, _⟩ := clsOf_ok (k := k) (ns := ns) (xs := xs) sr r rfl
    have o := hk (Nat.le_add_right _ _)
    rw [Nat.add_sub_cancel_left] at o
    unfold tyV
    rw [if_neg (by omega), Nat.add_sub_cancel_left]
    exact .x <| .base (.ins q o.cl o.ha o.hn o.htk o.hm)
  | loc i =>
    unfold tyN at e
    simp only at e
    split at e
    · rename_i xs ec
      cases e
      obtain ⟨a, ys, rfl, q, _⟩ := asL_ok (xs := xs) sr r (by unfold asL; simp only [ec])
      exact .x <| .base (.lst q)
    · rename_i ks vs ec
      cases e
      unfold RV at r
      obtain ⟨a, ea, rfl⟩ := r
      obtain ⟨b, eb, es, rc, _⟩ := sr.at_ ec
      rw [ea] at eb
      cases eb
      exact .d rc
    · rename_i k ns xs ec
      cases e
      obtain ⟨a, dx, ys, rfl, q, _⟩ := clsOf_ok (k := k) (ns := ns) (xs := xs) sr r (by unfold clsOf; simp only [ec])
      have o := hk (Nat.le_add_right _ _)
      rw [Nat.add_sub_cancel_left] at o
      unfold tyV
      rw [if_neg (by omega), Nat.add_sub_cancel_left]
      exact .x <| .base (.ins q o.cl o.ha o.hn o.htk o.hm)
    · cases e
    · cases e
  | st k => cases e
  | ty k => cases e
end
end MP
set_option maxRecDepth 100000
namespace MP
open PySem L2
structure OwnEq (Z : Sta) (k : Nat) : Prop where
  ty : OwnTy Z k
  ne : PySem.W.findIn Z.K (.ref (Z.G k)) "__ne__" = some (some (.builtin "object.__ne__"))
  nf : ∀ n, n < 7 → PySem.W.subIn Z.K (.type (tyS n)) (.ref (Z.G k)) = some false
structure OwnLen (Z : Sta) (k : Nat) : Prop where
  nb : PySem.W.findIn Z.K (.ref (Z.G k)) "__bool__" = some none
structure CmpTOk (Z : Sta) (ct : CmpT) : Prop where
  e : Z.FN ct.e = "__eq__"
  c : Z.FN ct.c = "__contains__"
  l : Z.FN ct.l = "__len__"
  s : Z.FN ct.s = "__str__"
  r : Z.FN ct.r = "__repr__"
  ks : ∀ k ∈ ct.ks, OwnEq Z k
  ls : ∀ k ∈ ct.ls, OwnLen Z k
section
variable {Z : Sta} {W : WX} {σ : L2.St} {H H1 : Hp} {m m1 m2 : Mp} {X : Cx} {S : Hs} {x y : V} {a : Addr} {lv g k f : Nat} {T : Tab} {fdO : Nat → FuncData} {psO : Nat → List Str} {pins : List (Addr × Obj)} {s : Shared} {Q : VK} {c : CmpT}
theorem notR_post {r : RE} (h : PostE Z W σ H m Q (notR r)) : PostE Z W σ H m (fun x H' => ∃ b, x = .bl b ∧ Q (.bl (!b)) H') r := by
  cases r with
  | ok v S =>
    cases v <;> first | exact h.elim | skip
    intro H' m' x g s r
    exact ⟨_, rv_bl r, h H' m' _ g s to_bl⟩
  | ex k v S => exact h
  | bad => exact h
theorem blR_post {r : RE} (h : PostE Z W σ H m Q (blR r)) : PostE Z W σ H m (fun x H' => ∃ b, x = .bl b ∧ Q (.bl b) H') r := by
  cases r with
  | ok v S =>
    cases v <;> first | exact h.elim | skip
    intro H' m' x g s r
    exact ⟨_, rv_bl r, h H' m' _ g s to_bl⟩
  | ex k v S => exact h
  | bad => exact h
theorem right_ok {q : PV} {u : Value} {M : Model} (I : Inv X pins σ H s) (hK : X.K = Z.K) (O : OwnEq Z k) (sr : SRel Z H m S) (r : RV Z H m q y) (ry : RelV y u) (e : rightOk S k q = true) :
    ∃ tb, PySem.W.Looks M s.heap (typeOf u) tb ∧ PySem.W.notFirst Z.K (Z.G k) tb = true := by
  unfold rightOk at e
  split at e
  · rename_i n en
    rw [Bool.or_eq_true, decide_eq_true_eq, decide_eq_true_eq] at e
    have T1 : TyM Z.K H y (tyV Z n) := tyN_ok sr r en fun h => by
      have : n = 100 + k := by omega
      subst this
      rw [Nat.add_sub_cancel_left]
      exact O.ty
    refine ⟨tyV Z n, tyM_looks I ry (by rw [hK]; exact T1), ?_⟩
    · unfold PySem.W.notFirst tyV
      rcases e with e | e
      · rw [if_pos (by omega), O.nf n e]
        simp
      · subst e
        rw [if_neg (by omega), Nat.add_sub_cancel_left]
        simp
  · cases e
theorem eqD_ok (TO : TabOk Z lv T fdO psO) (gd : Good Z lv X W) (C : CmpTOk Z c) : OpOk Z X W (compareOp .Eq) (eqD T c) := by
  intro pins s σ H x y v u m S p q Q I rx ry sr rp rq hp
  unfold eqD at hp
  split at hp
  · rename_i k ns xs ec
    split at hp
    case isFalse => exact hp.elim
    rename_i hk
    have O := C.ks k hk.1
    obtain ⟨a, dx, ys, rfl, hA, hl, rr⟩ := clsOf_ok sr rp ec
    obtain rfl : v = Value.ref a := rx
    obtain ⟨mA, J, _⟩ := ins_get I.hok hA
    obtain ⟨od, J, _⟩ := J.look
    obtain ⟨g, hc, hm, hf, call⟩ := ownC_ok TO gd I sr (RVs.cons rp (RVs.cons rq RVs.nil)) (.cons rfl (.cons ry .nil)) hp
    obtain ⟨tb, h1, h2⟩ := right_ok (M := model X.prog X.w) I gd.K O sr rq ry hk.2
    obtain ⟨mm, hF⟩ := I.fr
    rw [C.e] at hm
    show wpAny _ _ (richCompare .Eq _ _) _ _ _
    have kin := I.ok.mod.kin
    rw [gd.K] at kin
    exact PySem.W.cmp_K (op := .Eq) gd.room3.units0 hF kin J h1 h2 hm hf (call X.A _ (gd.room.mono (Nat.le_succ _)) rfl fun v H' u s' I' rv q => ni_of rv ⟨v, H', I', rv, q⟩)
  · split at hp
    · exact eq_ok gd.K (by have := gd.room3.un; omega) pins s σ H x y v u m S p q Q I rx ry sr rp rq hp
    · exact hp.elim
theorem neD_ok (TO : TabOk Z lv T fdO psO) (gd : Good Z lv X W) (C : CmpTOk Z c) : OpOk Z X W (compareOp .NotEq) (neD T c) := by
  intro pins s σ H x y v u m S p q Q I rx ry sr rp rq hp
  unfold neD at hp
  split at hp
  · rename_i k ns xs ec
    split at hp
    case isFalse => exact hp.elim
    rename_i hk
    have O := C.ks k hk.1
    obtain ⟨a, dx, ys, rfl, hA, hl, rr⟩ := clsOf_ok sr rp ec
    obtain rfl : v = Value.ref a := rx
    obtain ⟨mA, J, _⟩ := ins_get I.hok hA
    obtain ⟨od, J, _⟩ := J.look
    obtain ⟨g, hc, hm, hf, call⟩ := ownC_ok TO gd I sr (RVs.cons rp (RVs.cons rq RVs.nil)) (.cons rfl (.cons ry .nil)) (notR_post hp)
    obtain ⟨tb, h1, h2⟩ := right_ok (M := model X.prog X.w) I gd.K O sr rq ry hk.2
    have kI := I.kIn
    rw [gd.K] at kI
    rw [C.e] at hm
    show wpAny _ _ (richCompare .NotEq _ _) _ _ _
    refine ne_K (by have := gd.room3.un; show X.A.units + 1 < cLine; omega) gd.room3.units0 kI J h1 h2 O.ty.hm O.ne hm hf (call X.A.in1 _ gd.room.in1 rfl fun v H' u s' I' rv q => ?_)
    obtain ⟨b, rfl, q⟩ := q
    cases rv
    exact ⟨b, rfl, ⟨.bl (!b), H', I', rfl, q⟩⟩
  · split at hp
    · exact ne_ok gd.K (by have := gd.room3.un; omega) pins s σ H x y v u m S p q Q I rx ry sr rp rq hp
    · exact hp.elim
theorem inD_ok (TO : TabOk Z lv T fdO psO) (gd : Good Z lv X W) (C : CmpTOk Z c) : OpOk Z X W (compareOp .In) (inD T c) := by
  intro pins s σ H x y v u m S p q Q I rx ry sr rp rq hp
  unfold inD at hp
  split at hp
  · rename_i k ns xs ec
    obtain ⟨a, dx, ys, rfl, hA, hl, rr⟩ := clsOf_ok sr rq ec
    obtain rfl : u = Value.ref a := ry
    obtain ⟨mA, J, _⟩ := ins_get I.hok hA
    obtain ⟨od, J, _⟩ := J.look
    obtain ⟨g, hc, hm, hf, call⟩ := ownC_ok TO gd I sr (RVs.cons rq (RVs.cons rp RVs.nil)) (.cons rfl (.cons rx .nil)) (blR_post hp)
    obtain ⟨mm, hF⟩ := I.fr
    rw [C.c] at hm
    have kin := I.ok.mod.kin
    rw [gd.K] at kin
    refine PySem.W.in_K hF kin J hm hf (call X.A _ (gd.room.mono (Nat.le_succ _)) rfl fun v H' u s' I' rv q => ?_)
    obtain ⟨b, rfl, q⟩ := q
    cases rv
    exact wpAny_truthy_bool ⟨.bl b, H', I', rfl, q⟩
  · exact cmp_ok .In gd.K (by have := gd.room3.un; omega) pins s σ H x y v u m S p q Q I rx ry sr rp rq hp
theorem ninD_ok (TO : TabOk Z lv T fdO psO) (gd : Good Z lv X W) (C : CmpTOk Z c) : OpOk Z X W (compareOp .NotIn) (ninD T c) := by
  intro pins s σ H x y v u m S p q Q I rx ry sr rp rq hp
  unfold ninD at hp
  split at hp
  · rename_i k ns xs ec
    obtain ⟨a, dx, ys, rfl, hA, hl, rr⟩ := clsOf_ok sr rq ec
    obtain rfl : u = Value.ref a := ry
    obtain ⟨mA, J, _⟩ := ins_get I.hok hA
    obtain ⟨od, J, _⟩ := J.look
    obtain ⟨g, hc, hm, hf, call⟩ := ownC_ok TO gd I sr (RVs.cons rq (RVs.cons rp RVs.nil)) (.cons rfl (.cons rx .nil)) (notR_post hp)
    obtain ⟨mm, hF⟩ := I.fr
    rw [C.c] at hm
    have kin := I.ok.mod.kin
    rw [gd.K] at kin
    refine PySem.W.notIn_K hF kin J hm hf (call X.A _ (gd.room.mono (Nat.le_succ _)) rfl fun v H' u s' I' rv q => ?_)
    obtain ⟨b, rfl, q⟩ := q
    cases rv
    exact wpAny_truthy_bool ⟨.bl (!b), H', I', rfl, q⟩
  · exact cmp_ok .NotIn gd.K (by have := gd.room3.un; omega) pins s σ H x y v u m S p q Q I rx ry sr rp rq hp
theorem cmpD_ok (op : CmpOp) (TO : TabOk Z lv T fdO psO) (gd : Good Z lv X W) (C : CmpTOk Z c) : OpOk Z X W (compareOp op) (cmpD T c op) := by
  have hu : X.A.units + 64 < cLine := by have := gd.room3.un; omega
  cases op with
  | Eq => exact eqD_ok TO gd C
  | NotEq => exact neD_ok TO gd C
  | In => exact inD_ok TO gd C
  | NotIn => exact ninD_ok TO gd C
  | Lt => exact cmp_ok .Lt gd.K hu
  | LtE => exact cmp_ok .LtE gd.K hu
  | Gt => exact cmp_ok .Gt gd.K hu
  | GtE => exact cmp_ok .GtE gd.K hu
  | Is => exact cmp_ok .Is gd.K hu
  | IsNot => exact cmp_ok .IsNot gd.K hu
def CallOk (Z : Sta) (X : Cx) (W : WX) (f : Value) (g : List PV → Hs → RE) : Prop :=
  ∀ (pins : List (Addr × Obj)) (s : Shared) (σ : L2.St) (H : Hp) (xs : List V) (us : List Value) (m : Mp) (S : Hs) (ps : List PV) (Q : VK), Inv X pins σ H s → Vals xs us → SRel Z H m S → RVs Z H m ps xs → PostE Z W σ H m Q (g ps S) →
    wpAny (model X.prog X.w) X.A (call f us) (EP X pins σ Q) X.xe s
theorem CallOk.of {f : Value} {r : List V → Hp → VK → Prop} {g : List PV → Hs → RE} (ho : CallR X f r)
    (h : ∀ (σ : L2.St) (H : Hp) (m : Mp) (S : Hs) (ps : List PV) (xs : List V) (Q : VK), SRel Z H m S → RVs Z H m ps xs → PostE Z W σ H m Q (g ps S) → r xs H Q) : CallOk Z X W f g :=
  fun pins s σ H xs us m S ps Q I rx sr rp hp => ho pins s σ H xs us Q I rx (h σ H m S ps xs Q sr rp hp)
theorem ok_blt {id : String} {e : Expr} {es : List Expr} {nm : Str} {p pos : Pos} {ga : Loc → Hs → RA} {g : List PV → Hs → RE} (gd : Good Z lv X W) (hc : CallOk Z X W (.builtin id) g) (hg : Gl X nm) (hm : Z.mg nm = none) (hv : bootBuiltins nm = some (.builtin id)) (ha : PA X (e :: es) (tA Z W ga))
    (hst : noStar (e :: es) = true) (hn : nm ≠ "__name__") (hdb : (nm == ("__debug__" : Str)) = false) : PE X (.Call (.Name nm p) (e :: es) [] pos) (tE Z W (bltE ga g)) := by
  refine ⟨fun pins s σ H Q I ⟨m, L, S, sr, hl, hp⟩ => ?_⟩
  have hst' : noStar1 e = true ∧ noStar es = true := by
    unfold noStar at hst
    rw [List.all_cons, Bool.and_eq_true] at hst
    exact hst
  refine PySem.wpAny_Call_Name_kw (ld_blt I hg (by rw [gd.mg]; exact hm) hv ?_ hn hdb)
  refine PyProof.Rows.callWith_builtin1 (thn (ha.run pos pins s σ H (fun xs H1 => ∃ m1 S1 ps, SRel Z H1 m1 S1 ∧ RVs Z H1 m1 ps xs ∧ PostE Z W σ H1 m1 Q (g ps S1)) I ⟨m, L, S, sr, hl, PostA.bind hp fun vs S1 H1 m1 xs g1 s1 r1 hp1 => ⟨m1, S1, vs, s1, r1, hp1⟩⟩) fun us s1 ⟨xs, H1, I1, rx, m1, S1, ps, sr1, rp, hp1⟩ => ?_) (star_cons hst'.1) (star_any hst'.2)
  exact hc pins s1 σ H1 xs us m1 S1 ps Q I1 rx sr1 rp hp1
theorem ok_bltT {T' : String} {e : Expr} {es : List Expr} {nm : Str} {p pos : Pos} {ga : Loc → Hs → RA} {g : List PV → Hs → RE} (gd : Good Z lv X W) (hc : CallOk Z X W (.type T') g) (hg : Gl X nm) (hm : Z.mg nm = none) (hv : bootBuiltins nm = some (.type T')) (ha : PA X (e :: es) (tA Z W ga))
    (hst : noStar (e :: es) = true) (hn : nm ≠ "__name__") (hdb : (nm == ("__debug__" : Str)) = false) : PE X (.Call (.Name nm p) (e :: es) [] pos) (tE Z W (bltE ga g)) := by
  refine ⟨fun pins s σ H Q I ⟨m, L, S, sr, hl, hp⟩ => ?_⟩
  have hst' : noStar1 e = true ∧ noStar es = true := by
    unfold noStar at hst
    rw [List.all_cons, Bool.and_eq_true] at hst
    exact hst
  refine PySem.wpAny_Call_Name_kw (ld_blt I hg (by rw [gd.mg]; exact hm) hv ?_ hn hdb)
  refine PyProof.Rows.callWith_type1 (thn (ha.run pos pins s σ H (fun xs H1 => ∃ m1 S1 ps, SRel Z H1 m1 S1 ∧ RVs Z H1 m1 ps xs ∧ PostE Z W σ H1 m1 Q (g ps S1)) I ⟨m, L, S, sr, hl, PostA.bind hp fun vs S1 H1 m1 xs g1 s1 r1 hp1 => ⟨m1, S1, vs, s1, r1, hp1⟩⟩) fun us s1 ⟨xs, H1, I1, rx, m1, S1, ps, sr1, rp, hp1⟩ => ?_) (star_cons hst'.1) (star_any hst'.2)
  exact hc pins s1 σ H1 xs us m1 S1 ps Q I1 rx sr1 rp hp1
end
end MP
set_option maxRecDepth 100000
namespace MP
open PySem L2
def len63 : PV → Option Int
  | .int n => if decide (0 ≤ n) && decide (n < 9223372036854775808) then some n else none
  | _ => none
def lenR : RE → RE
  | .ok v S => match len63 v with
    | some n => .ok (.int n) S
    | none => .bad
  | .ex k v S => .ex k v S
  | .bad => .bad
def lenV (S : Hs) : PV → RE
  | .str s => if fits s then .ok (.int s.length) S else .bad
  | v => match asQ S v with
    | some xs => .ok (.int xs.length) S
    | none => .bad
def lenD (T : Tab) (c : CmpT) (ps : List PV) (S : Hs) : RE := match ps with
  | [v] => match clsOf S v with
    | some (k, _, _) => lenR (ownC T k c.l [v] S)
    | none => lenV S v
  | _ => .bad
section
variable {Z : Sta} {W : WX} {σ : L2.St} {H H1 : Hp} {m m1 m2 : Mp} {X : Cx} {S : Hs} {x y : V} {a : Addr} {lv g k f : Nat} {T : Tab} {fdO : Nat → FuncData} {psO : Nat → List Str} {pins : List (Addr × Obj)} {s : Shared} {Q : VK} {c : CmpT}
theorem rvs1 {p : PV} {xs : List V} (r : RVs Z H m [p] xs) : ∃ x, xs = [x] ∧ RV Z H m p x := by
  unfold RVs at r
  obtain ⟨y, t, rfl, r1, r2⟩ := r
  unfold RVs at r2
  subst r2
  exact ⟨y, rfl, r1⟩
theorem rvs2 {p q : PV} {xs : List V} (r : RVs Z H m [p, q] xs) : ∃ x y, xs = [x, y] ∧ RV Z H m p x ∧ RV Z H m q y := by
  unfold RVs at r
  obtain ⟨y, t, rfl, r1, r2⟩ := r
  obtain ⟨z, rfl, r3⟩ := rvs1 r2
  exact ⟨y, z, rfl, r1, r3⟩
theorem len63_ok {v : PV} {n : Int} (h : len63 v = some n) : v = .int n ∧ 0 ≤ n ∧ n < 2 ^ 63 := by
  unfold len63 at h
  split at h
  · split at h
    · rename_i c
      cases h
      simp only [Bool.and_eq_true, decide_eq_true_eq] at c
      exact ⟨rfl, c.1, by have := c.2; omega⟩
    · cases h
  · cases h
theorem lenR_post {r : RE} (h : PostE Z W σ H m Q (lenR r)) : PostE Z W σ H m (fun x H' => ∃ n : Int, x = .int n ∧ (0 ≤ n ∧ n < 2 ^ 63) ∧ Q (.int n) H') r := by
  cases r with
  | ok v S =>
    unfold lenR at h
    cases e : len63 v with
    | none => simp only [e] at h; exact h.elim
    | some n =>
      simp only [e] at h
      obtain ⟨rfl, h1⟩ := len63_ok e
      exact fun H' m' x g s r => ⟨n, rv_int r, h1, h H' m' _ g s to_int⟩
  | ex k v S => exact h
  | bad => exact h
theorem lenV_post {v : PV} (hK : X.K = Z.K) (sr : SRel Z H m S) (r : RV Z H m v x) (h : PostE Z W σ H m Q (lenV S v)) : ∃ n, LenV X.K x H n ∧ Q (.int n) H := by
  unfold lenV at h
  split at h
  · split at h
    · rename_i hf
      obtain ⟨rfl, _⟩ := rv_str r
      refine ⟨_, ⟨?_, rfl⟩, ?_⟩
      · rw [str_len]; exact fits_ok hf
      · rw [str_len]; exact h H m _ Gr.refl sr to_int
    · exact h.elim
  · split at h
    · rename_i xs e
      obtain ⟨a, ys, rfl, hq, rr⟩ := asQ_ok sr r e
      refine ⟨ys.length, ?_, ?_⟩
      · rw [hK]
        rcases hq with q | q
        · exact .inl ⟨ys, q, rfl⟩
        · exact .inr ⟨ys, q, rfl⟩
      · have := h H m _ Gr.refl sr to_int
        rw [rr.len] at this
        exact this
    · exact h.elim
theorem len_ok (TO : TabOk Z lv T fdO psO) (gd : Good Z lv X W) (C : CmpTOk Z c) : CallOk Z X W (.builtin "len") (lenD T c) := by
  intro pins s σ H xs us m S ps Q I rx sr rp hp
  unfold lenD at hp
  split at hp
  · rename_i v
    obtain ⟨x, rfl, r1⟩ := rvs1 rp
    split at hp
    · rename_i k ns zs ec
      obtain ⟨a, dx, ys, rfl, hA, hl, rr⟩ := clsOf_ok sr r1 ec
      obtain ⟨u, rfl, ru⟩ := vals1 rx
      obtain rfl : u = Value.ref a := ru
      obtain ⟨mA, J, _⟩ := ins_get I.hok hA
      obtain ⟨od, J, _⟩ := J.look
      obtain ⟨g, hc, hm, hf, call⟩ := ownC_ok TO gd I sr rp (.cons rfl .nil) (lenR_post hp)
      obtain ⟨mm, hF⟩ := I.fr
      rw [C.l] at hm
      have kin := I.ok.mod.kin
      rw [gd.K] at kin
      refine PySem.W.len_K hF kin J hm hf (call X.A.in1 _ gd.room.in1 rfl fun v H' u s' I' rv q => ?_)
      obtain ⟨n, rfl, h1, q⟩ := q
      obtain ⟨t, rfl⟩ := rv
      exact ⟨h1, ⟨.int n, H', I'.tok _, ⟨_, rfl⟩, q⟩⟩
    · obtain ⟨n, h1, h2⟩ := lenV_post gd.K sr r1 hp
      exact call_len pins s σ H [x] us Q I rx ⟨x, n, rfl, h1, h2⟩
  · exact hp.elim
end
end MP
set_option maxRecDepth 100000
namespace MP
open PySem L2
def IsaOk (Z : Sta) (isa : IsaT) : Prop := ∀ t c b, isa t c = some b → (100 ≤ t → OwnTy Z (t - 100)) ∧ PySem.W.kitOne Z.K (tyV Z t) (tyV Z c) = some b
def asBs : List PV → Option (List Bool)
  | [] => some []
  | .bl b :: r => (asBs r).map (b :: ·)
  | _ => none
def allV (ps : List PV) (S : Hs) : RE := match ps with
  | [v] => match asL S v with
    | some xs => okO ((asBs xs).map fun bs => .bl (bs.all id)) S
    | none => .bad
  | _ => .bad
def anyV (ps : List PV) (S : Hs) : RE := match ps with
  | [v] => match asL S v with
    | some xs => okO ((asBs xs).map fun bs => .bl (bs.any id)) S
    | none => .bad
  | _ => .bad
section
variable {Z : Sta} {W : WX} {σ : L2.St} {H H1 : Hp} {m m1 m2 : Mp} {X : Cx} {S : Hs} {x y : V} {a : Addr} {lv g k f : Nat} {T : Tab} {fdO : Nat → FuncData} {psO : Nat → List Str} {pins : List (Addr × Obj)} {s : Shared} {Q : VK} {c : CmpT}
theorem clsV_ok {p : PV} {k : Nat} (r : RV Z H m p y) (ek : clsNo p = some k) : ClsV y (tyV Z k) := by
  unfold clsNo at ek
  split at ek
  · cases ek
    unfold RV at r
    subst r
    unfold tyV
    rw [if_neg (by omega), Nat.add_sub_cancel_left]
    exact .own _
  · split at ek
    · rename_i n c
      cases ek
      rw [Bool.and_eq_true, decide_eq_true_eq, decide_eq_true_eq] at c
      unfold RV at r
      subst r
      unfold tyV
      rw [if_pos (by omega), ← c.2]
      exact .ty _
    · cases ek
  · cases ek
theorem isi1_ok {isa : IsaT} (O : IsaOk Z isa) {p : PV} {t : Nat} {b : Bool} {u : Value} (r : RV Z H m p y) (ru : RelV y u) (e : isi1 isa t p = some b) : (100 ≤ t → OwnTy Z (t - 100)) ∧ PySem.W.kitOne Z.K (tyV Z t) u = some b := by
  unfold isi1 at e
  split at e
  · rename_i k ek
    obtain ⟨o1, o2⟩ := O t k b e
    rw [(clsV_ok r ek).eq ru]
    exact ⟨o1, o2⟩
  · cases e
theorem anyI_ok {isa : IsaT} (O : IsaOk Z isa) {t : Nat} : ∀ {cs : List PV} {ys : List V} {us : List Value} {b : Bool}, RVs Z H m cs ys → Vals ys us → anyI (isi1 isa t) cs = some b → PySem.W.kitAny Z.K (tyV Z t) us = some b
  | [], _, _, b, r, v, e => by
    unfold RVs at r
    subst r
    cases v
    cases e
    rfl
  | c :: cs, _, _, b, r, v, e => by
    unfold RVs at r
    obtain ⟨y, ys, rfl, r1, r2⟩ := r
    cases v with
    | cons v1 v2 =>
      unfold anyI at e
      cases e1 : isi1 isa t c with
      | none => rw [e1] at e; cases e
      | some b1 =>
        rw [e1] at e
        have h := (isi1_ok O r1 v1 e1).2
        unfold PySem.W.kitAny
        rw [h]
        cases b1 with
        | true => cases e; rfl
        | false => exact anyI_ok O r2 v2 e
theorem isi_ok {isa : IsaT} (gd : Good Z lv X W) (O : IsaOk Z isa) : CallOk Z X W (.builtin "isinstance") (isiV isa) := by
  intro pins s σ H xs us m S ps Q I rv sr rp hp
  unfold isiV at hp
  split at hp
  · rename_i v cl
    obtain ⟨x, y, rfl, r1, r2⟩ := rvs2 rp
    obtain ⟨u1, u2, rfl, v1, v2⟩ := vals2 rv
    split at hp
    · rename_i t et
      split at hp
      · rename_i c cs
        cases ei : anyI (isi1 isa t) (c :: cs) with
        | none => rw [ei] at hp; exact hp.elim
        | some b =>
          rw [ei] at hp
          have ht : 100 ≤ t → OwnTy Z (t - 100) := by
            have e := ei
            unfold anyI at e
            cases e1 : isi1 isa t c with
            | none => rw [e1] at e; cases e
            | some b1 =>
              unfold isi1 at e1
              split at e1
              · exact (O _ _ _ e1).1
              · cases e1
          obtain ⟨a, ys, rfl, hq, hr⟩ := rv_tup r2
          cases (show u2 = Value.ref a from v2)
          obtain ⟨its, vi, ⟨o, h1, h2, n, h3⟩, _⟩ := I.tuple (by rw [gd.K]; exact hq)
          obtain ⟨oc, od, dt, sl⟩ := o
          simp only at h2 h3
          subst h2 h3
          obtain ⟨P, Zx, p, hx⟩ := kitM_of I v1 (by rw [gd.K]; exact tyN_ok sr r1 et ht)
          refine PySem.W.kia_tup Zx I.kIn p h1 (by rw [gd.K]; exact anyI_ok O hr vi ei) hx fun tk => ?_
          exact ⟨.bl b, H, I.tok tk, rfl, hp H m _ Gr.refl sr to_bl⟩
      · cases ei : isi1 isa t cl with
        | none => rw [ei] at hp; exact hp.elim
        | some b =>
          rw [ei] at hp
          obtain ⟨o1, o2⟩ := isi1_ok O r2 v2 ei
          obtain ⟨P, Zx, p, hx⟩ := kitM_of I v1 (by rw [gd.K]; exact tyN_ok sr r1 et o1)
          exact PySem.W.kia_one Zx I.kIn p (by rw [gd.K]; exact o2) hx fun tk => ⟨.bl b, H, I.tok tk, rfl, hp H m _ Gr.refl sr to_bl⟩
    · exact hp.elim
  · exact hp.elim
end
end MP
set_option maxRecDepth 100000
namespace MP
open PySem L2
section
variable {Z : Sta} {W : WX} {σ : L2.St} {H H1 : Hp} {m m1 m2 : Mp} {X : Cx} {S : Hs} {x y : V} {a : Addr} {lv g k f : Nat} {T : Tab} {fdO : Nat → FuncData} {psO : Nat → List Str} {pins : List (Addr × Obj)} {s : Shared} {Q : VK} {c : CmpT}
inductive JsOk (Z : Sta) (X : Cx) (W : WX) : List Expr → List (Loc → Hs → RE) → Prop where
  | nil : JsOk Z X W [] []
  | cons {e : Expr} {es : List Expr} {f : Loc → Hs → RE} {fs : List (Loc → Hs → RE)} : PE X e (tE Z W f) → JsOk Z X W es fs → JsOk Z X W (e :: es) (f :: fs)
end
end MP
set_option maxRecDepth 100000
namespace MP
open PySem L2
structure SMt (K : PySem.W.Frag) (C : Addr) (m : Str) (g : Addr) : Prop where
  rd : PySem.W.readsIn K C (.type "type") = true
  ga : PySem.W.specialIn K (.ref C) "__getattribute__" = some (some (.builtin "type.__getattribute__"))
  at_ : ∃ p rest, PySem.W.findCls K (.ref C) (.type "type") m = some (.get (.builtin "staticmethod.__get__") (.ref p) .none (.ref C)) ∧ PySem.W.recIn K p "staticmethod" = some (.ref g :: rest)
def putN (f : Nat) (v : PV) : List Nat → List PV → List Nat × List PV
  | n :: ns, x :: xs => if n = f then (n :: ns, v :: xs) else let r := putN f v ns xs; (n :: r.1, x :: r.2)
  | _, _ => ([f], [v])
def isFld : FK → Bool
  | .fld => true
  | _ => false
def setfS (T : Tab) (f : Nat) (fo fe : Loc → Hs → RE) : Loc → Hs → RS := fun L S => (fe L S).bindS L fun v S1 => (fo L S1).bindS L fun o S2 => match o with
  | .loc i => match getR S2 i with
    | some (.ins k ns xs) => if isFld (T.mem k f) && decide (ns.length < 900) && decide (ns.length = xs.length) then .nx L (setR S2 i (.ins k (putN f v ns xs).1 (putN f v ns xs).2)) else .bad
    | _ => .bad
  | _ => .bad
end MP
set_option maxRecDepth 100000
namespace MP
open PySem L2
def visB (N : List Str) (sc : Scope) (i : Nat) : Bool := match N[i]? with
  | some x => (match sc.names.lookup x with
    | some .local => true
    | some .cell => true
    | some .free => true
    | _ => false) && !(x == ("__debug__" : Str)) && !(x == ("__classdict__" : Str))
  | none => false
def locB (N : List Str) (sc : Scope) (i : Nat) : Bool := match N[i]? with
  | some x => (match sc.names.lookup x with
    | some .local => true
    | some .cell => true
    | _ => false)
  | none => false
def gloB (sc : Scope) (x : Str) : Bool := (match sc.names.lookup x with
    | some .globalImplicit => true
    | _ => false) && !(x == ("__debug__" : Str)) && !(x == ("__name__" : Str))
def chkD (N : List Str) (sc : Scope) (vs ls : List Nat) (gs : List Str) : Bool := vs.all (visB N sc) && ls.all (locB N sc) && gs.all (gloB sc)
structure DefX (X : Cx) (N : List Str) (sc : Scope) (vs ls : List Nat) (gs : List Str) : Prop where
  eN : X.N = N
  esc : X.env.scope = sc
  chk : chkD N sc vs ls gs = true
  fnc : ∀ i nm, ls.contains i = true → N[i]? = some nm → X.fn nm = true ∨ X.env.scope.names.lookup nm = some .local
section
variable {Z : Sta} {W : WX} {σ : L2.St} {H H1 : Hp} {m m1 m2 : Mp} {X : Cx} {S : Hs} {x y : V} {a : Addr} {lv g k f : Nat} {T : Tab} {fdO : Nat → FuncData} {psO : Nat → List Str} {pins : List (Addr × Obj)} {s : Shared} {Q : VK} {c : CmpT} {N : List Str} {sc : Scope} {vs ls : List Nat} {gs : List Str}
theorem DefX.c3 (D : DefX X N sc vs ls gs) : vs.all (visB N sc) = true ∧ ls.all (locB N sc) = true ∧ gs.all (gloB sc) = true := by
  have h := D.chk
  unfold chkD at h
  rw [Bool.and_eq_true, Bool.and_eq_true] at h
  exact ⟨h.1.1, h.1.2, h.2⟩
theorem D_var (D : DefX X N sc vs ls gs) {nm : Str} {pos : Pos} (i : Nat) (hv : vs.contains i = true) (hN : N[i]? = some nm) : PE X (.Name nm pos) (tE Z W (varE i)) := by
  have h := List.all_eq_true.mp D.c3.1 i (by simpa using hv)
  unfold visB at h
  rw [hN] at h
  simp only [Bool.and_eq_true, Bool.not_eq_true'] at h
  refine ok_var (by rw [D.eN]; exact hN) ?_ h.1.2 h.2
  rw [D.esc]
  unfold Vis
  have h1 := h.1.1
  split at h1 <;> first | (rename_i e; exact .inl e) | (rename_i e; exact .inr (.inl e)) | (rename_i e; exact .inr (.inr e)) | cases h1
theorem D_loc (D : DefX X N sc vs ls gs) {nm : Str} (i : Nat) (hv : ls.contains i = true) (hN : N[i]? = some nm) : X.N[i]? = some nm ∧ L2.Loc X.env.scope nm := by
  have h := List.all_eq_true.mp D.c3.2.1 i (by simpa using hv)
  unfold locB at h
  rw [hN] at h
  refine ⟨by rw [D.eN]; exact hN, ?_⟩
  rw [D.esc]
  unfold L2.Loc
  simp only at h
  split at h
  · rename_i e; exact .inl e
  · rename_i e; exact .inr e
  · cases h
theorem D_tgt (gd : Good Z lv X W) (D : DefX X N sc vs ls gs) {nm : Str} {pos : Pos} (i : Nat) (hv : ls.contains i = true) (hN : N[i]? = some nm) : PG X (.Name nm pos) (tG Z [i] (nameT i)) := by
  obtain ⟨h1, h2⟩ := D_loc D i hv hN
  exact ok_nameT gd.nd h1 h2 (D.fnc i nm hv hN)
theorem D_glo (D : DefX X N sc vs ls gs) {nm : Str} (i : Nat) (hN : gs[i]? = some nm) : Gl X nm ∧ (nm == ("__debug__" : Str)) = false ∧ nm ≠ "__name__" := by
  have h := List.all_eq_true.mp D.c3.2.2 nm (List.mem_of_getElem? hN)
  unfold gloB at h
  simp only [Bool.and_eq_true, Bool.not_eq_true'] at h
  refine ⟨?_, h.1.2, fun e => ?_⟩
  · show X.env.scope.names.lookup nm = _
    rw [D.esc]
    have h1 := h.1.1
    split at h1
    · assumption
    · cases h1
  · have h2 := h.2
    rw [e] at h2
    exact absurd h2 (by decide)
theorem D_st (D : DefX X N sc vs ls gs) (gd : Good Z lv X W) {nm : Str} {pos : Pos} (i : Nat) (hN : gs[i]? = some nm) (hm : Z.mg nm = some (.ref (Z.G k))) : PE X (.Name nm pos) (tE Z W (conE (.st k))) := by
  obtain ⟨h1, h2, h3⟩ := D_glo D i hN
  exact ok_con (pe_glob (v := .ref (Z.G k)) h1 (by rw [gd.mg]; exact hm) rfl h2) fun H m => by unfold RV; rfl
theorem D_ty (D : DefX X N sc vs ls gs) (gd : Good Z lv X W) {nm : Str} {pos : Pos} {n : String} (i : Nat) (hN : gs[i]? = some nm) (hm : Z.mg nm = none) (hb : bootBuiltins nm = some (.type n)) : PE X (.Name nm pos) (tE Z W (conE (.ty n))) := by
  obtain ⟨h1, h2, h3⟩ := D_glo D i hN
  exact ok_con (pe_bltn (v := .ty n) h1 (by rw [gd.mg]; exact hm) hb rfl h3 h2) fun H m => by unfold RV; rfl
theorem c_int {i : Int} {j : Nat} {pos : Pos} : PE X (.Constant (.int i) j pos) (tE Z W (conE (.int i))) := ok_con pe_int fun H m => to_int
theorem c_bl {b : Bool} {j : Nat} {pos : Pos} : PE X (.Constant (.bool b) j pos) (tE Z W (conE (.bl b))) := ok_con pe_bl fun H m => to_bl
theorem c_non {j : Nat} {pos : Pos} : PE X (.Constant .none j pos) (tE Z W (conE .non)) := ok_con pe_non fun H m => to_non
theorem c_str {z : Str} {j : Nat} {pos : Pos} (l : List Nat) (h : z = ⟨l.toArray⟩) (ho : sOk l = true) : PE X (.Constant (.str z) j pos) (tE Z W (conE (.str l))) := by
  subst h
  exact ok_con pe_str fun H m => to_str ho
def trueB : Loc → Hs → RB := fun _ S => .ok true S
def ownB (N : List Str) (sc scope : Scope) (i : Nat) : Bool := match N[i]? with
  | some x => decide (scope.names.lookup x = some .cell) || decide ((relS scope sc).names.lookup x = some .local)
  | none => false
def blkAll (N : List Str) (sc scope : Scope) (own : List (Str × Nat)) (vs ls : List Nat) (gs : List Str) : Bool := blkC N sc scope own && (chkD N (relS scope sc) vs ls gs && ls.all (ownB N sc scope))
theorem Good.blk (gd : Good Z lv X W) {scope : Scope} {e : Env} {fp : List Addr} : Good Z lv (X.blk s H scope e fp) W0 :=
  ⟨gd.prog, gd.w, gd.K, gd.mg, gd.base, gd.room3, gd.calm, gd.nd, fun u s' ⟨_, _, _, _, _, _, _, _, _, _, _, _, _, _, _, _, z⟩ => z⟩
theorem blk_fnc {scope : Scope} {s : Shared} {C : Addr} {cl : List (Str × Addr)} {fp : List Addr} {ls' : List Nat} (h : ls'.all (ownB N sc scope) = true) (he : (X.blk s H scope (compEnvC scope cl C X.env) fp).env.scope = relS scope sc) (i : Nat) (nm : Str) (hi : ls'.contains i = true) (hN : N[i]? = some nm) :
    (X.blk s H scope (compEnvC scope cl C X.env) fp).fn nm = true ∨ (X.blk s H scope (compEnvC scope cl C X.env) fp).env.scope.names.lookup nm = some .local := by
  have q := List.all_eq_true.mp h i (by simpa using hi)
  unfold ownB at q
  rw [hN] at q
  simp only [Bool.or_eq_true, decide_eq_true_eq] at q
  rcases q with q | q
  · refine .inl ?_
    show (scope.names.lookup nm == some .cell) = true
    rw [q]
    rfl
  · exact .inr (by rw [he]; exact q)
theorem ok_lc {elt tg iter : Expr} {ifs : List Expr} {scope : Scope} {pos : Pos} {fz : Bool} {src : Loc → Hs → RI} {tgt : TgF} {cond : Loc → Hs → RB} {fe : Loc → Hs → RE} {T' : List Nat} {vs' ls' : List Nat} {gs' : List Str} (own : List (Str × Nat)) (gd : Good Z lv X W) (D : DefX X N sc vs ls gs)
    (hi : PI X tg iter (tI Z W src)) (hc : blkAll N sc scope own vs' ls' gs' = true) (hT : T'.all (fun i => (own.map (·.2)).contains i) = true)
    (hb : ∀ Xb, Good Z lv Xb W0 → DefX Xb N (relS scope sc) vs' ls' gs' → PG Xb tg (tG Z T' tgt) ∧ PTs Xb ifs (tB Z W0 cond) ∧ PE Xb elt (tE Z W0 fe)) (hs : ∀ x, foldedSetIterable iter X.env x = pure x) :
    PE X (.ListComp elt [⟨tg, iter, ifs, 0⟩] scope pos) (tE Z W (lcE fz (own.map (·.2)) src tgt cond fe)) := by
  unfold blkAll at hc
  rw [Bool.and_eq_true, Bool.and_eq_true] at hc
  have ok : BlkOk X.N X.env.scope scope own := by rw [D.eN, D.esc]; exact blkOk_by hc.1
  have DB : ∀ (s : Shared) (H : Hp) (C : Addr) (cl : List (Str × Addr)) (fp : List Addr), DefX (X.blk s H scope (compEnvC scope cl C X.env) fp) N (relS scope sc) vs' ls' gs' := fun s H C cl fp => ⟨D.eN, by rw [← D.esc]; rfl, hc.2.1, blk_fnc hc.2.2 (by rw [← D.esc]; rfl)⟩
  exact PE.imp (pe_lc gd.calm gd.nd hi ok (fun s H C cl fp => (hb _ gd.blk (DB s H C cl fp)).1) (fun s H C cl fp => (hb _ gd.blk (DB s H C cl fp)).2.1) (fun s H C cl fp => (hb _ gd.blk (DB s H C cl fp)).2.2) hs)
    fun σ H Q h => lc_read (fun i hi' => by simpa using List.all_eq_true.mp hT i hi') h
structure Hx (X : Cx) : Prop where
  po : PassesOwn (model X.prog X.w) X.A X.env X.xe
  st : X.stack = X.env :: X.outer
  fr : X.env.frame = some X.env.locals
structure Bx (lv : Nat) (X : Cx) (fd : FuncData) (qual : Str) : Prop where
  room : Room (lv + 5) X.A
  code : X.env.code = fd.code
  qual : X.env.qual = qual ++ ".<locals>."
theorem fn_body {nm qual : Str} {params : Arguments} {body : List Stmt} {scope : Scope} {dvs : List V} {kws : List (Str × V)} {fd : FuncData} {ps : List Str} {b : Loc → Hs → RS} (F : FunD Z.K nm qual params body scope dvs kws (Z.G g) fd) (SC : FnScope N ps scope) (hc : chkD N scope vs ls gs = true)
    (hb : ∀ X W, Good Z lv X W → DefX X N scope vs ls gs → Hx X → Bx lv X fd qual → PSs X body (tS Z W b)) : FnOk Z.P Z.w Z.K Z.mg Z.base (CX Z.P Z.w) (lv + 6) (Z.G g) fd ps (spF Z ps.length (runB N.length b)) := by
  obtain ⟨oc, od, dV, kV, doc, pm, an, cdv, ct, osl, rfl, lk, hcd, _, _⟩ := F.ex
  refine fn_of (k := lv + 5) lk hcd SC (fun vs H Q E h => h.1) fun A outer s H vs Q E hr h => ?_
  obtain ⟨hlen, m, S, ps', sr, rr, hp⟩ := h
  exact ⟨_, hb _ (fun c d _ H' => E c d H') ⟨rfl, rfl, rfl, rfl, rfl, hr.mono (Nat.add_le_add_left (by decide) lv), rfl, SC.nd, takes_of rfl rfl rfl rfl⟩ ⟨rfl, rfl, hc, fun _ _ _ _ => .inl rfl⟩ ⟨passes_of rfl, rfl, rfl⟩ ⟨hr, rfl, rfl⟩, run_post sr rr hp⟩
end
end MP
set_option maxRecDepth 100000
namespace MP
open PySem L2
def pvB (K : Fr) : Nat → PV → Value → Bool
  | 0, _, _ => false
  | n + 1, v, u => match v, u with
    | .non, .none => true
    | .bl b, .bool c => b == c
    | .int i, .int j _ => decide (i = j)
    | .str s, .str y _ => decide (y = ⟨s.toArray⟩) && sOk s
    | .tup xs, .ref a => match K.lookup a with
      | some ⟨.type c, _, .seq its _, _⟩ => decide (c = "tuple") && decide (its.size ≤ sizeLine) && pvsB (pvB K n) xs its.toList
      | _ => false
    | _, _ => false
where pvsB (f : PV → Value → Bool) : List PV → List Value → Bool
  | [], [] => true
  | x :: xs, u :: us => f x u && pvsB f xs us
  | _, _ => false
def conK (K : Fr) (x : Str) (v : PV) : Bool := match PySem.W.nsIn K mainGlobals x with
  | some (some u) => pvB K 8 v u
  | _ => false
section
variable {K : Fr} {C g p : Addr} {m f x : Str} {Z : Sta} {k : Nat}
theorem eqB'_ok {a b : Option (Option Value)} (h : eqB' a b = true) : a = b := of_decide_eq_true h
theorem kitB_ok {t c : Value} {b : Bool} (h : kitB K t c b = true) : PySem.W.kitOne K t c = some b := of_decide_eq_true h
theorem gloK_ok {h : Heap} {mg : Str → Option Value} (X : K.In h) (G : h.Ns mainGlobals mg) {a : Addr} (e : gloK K x a = true) : mg x = some (.ref a) := PySem.W.mg_of X G (eqB'_ok e)
theorem freK_ok {h : Heap} {mg : Str → Option Value} (X : K.In h) (G : h.Ns mainGlobals mg) (e : freK K x = true) : mg x = none := PySem.W.mg_none_of X G (eqB'_ok e)
theorem pvB_ok : ∀ {n : Nat} {v : PV} {u : Value}, pvB Z.K n v u = true → ∃ w, RelV w u ∧ ∀ H m, RV Z H m v w
  | 0, _, _, h => by cases h
  | n + 1, v, u, h => by
    unfold pvB at h
    split at h
    · exact ⟨.non, rfl, fun H m => to_non⟩
    · rename_i b c
      cases eq_of_beq h
      exact ⟨.bl b, rfl, fun H m => to_bl⟩
    · rename_i i j t
      cases of_decide_eq_true h
      exact ⟨.int i, ⟨t, rfl⟩, fun H m => to_int⟩
    · rename_i z y t
      obtain ⟨h1, h2⟩ := ba2 h
      have := of_decide_eq_true h1
      subst this
      exact ⟨.str _, ⟨t, rfl⟩, fun H m => to_str h2⟩
    · rename_i xs a
      split at h
      · rename_i c od its nn sl e
        obtain ⟨h, h3⟩ := ba2 h
        obtain ⟨h1, h2⟩ := ba2 h
        cases of_decide_eq_true h1
        have go : ∀ (xs : List PV) (us : List Value), pvB.pvsB (pvB Z.K n) xs us = true → ∃ ys, Vals ys us ∧ ∀ H m, RVs Z H m xs ys := by
          intro xs
          induction xs with
          | nil =>
            intro us h
            cases us with
            | nil => exact ⟨[], .nil, fun H m => RVs.nil⟩
            | cons _ _ => cases h
          | cons x xs ih =>
            intro us h
            cases us with
            | nil => cases h
            | cons u us =>
              obtain ⟨q1, q2⟩ := ba2 (show (pvB Z.K n x u && pvB.pvsB (pvB Z.K n) xs us) = true from h)
              obtain ⟨w, r1, r2⟩ := pvB_ok q1
              obtain ⟨ys, r3, r4⟩ := ih us q2
              exact ⟨w :: ys, .cons r1 r3, fun H m => RVs.cons (r2 H m) (r4 H m)⟩
        obtain ⟨ys, r1, r2⟩ := go xs its.toList h3
        exact ⟨.ref a, rfl, fun H m => to_tup (.inr ⟨_, its, nn, e, rfl, rfl, of_decide_eq_true h2, r1⟩) (r2 H m)⟩
      · cases h
    · cases h
theorem conK_ok {h : Heap} (X : Z.K.In h) (G : h.Ns mainGlobals Z.mg) {v : PV} (e : conK Z.K x v = true) : ∃ u w, Z.mg x = some u ∧ RelV w u ∧ ∀ H m, RV Z H m v w := by
  unfold conK at e
  split at e
  · rename_i u eu
    obtain ⟨w, r1, r2⟩ := pvB_ok e
    exact ⟨u, w, PySem.W.mg_of X G eu, r1, r2⟩
  · cases e
end
end MP
set_option maxRecDepth 100000
namespace MP
open PySem L2
structure DefI where
  ps : List Str
  nN : Nat
  body : Tab → Loc → Hs → RS
def runOf (tbl : List DefI) (T : Tab) (g : Nat) : List PV → Hs → RE := match tbl[g]? with
  | some d => runB d.nN (d.body T)
  | none => fun _ _ => .bad
def assocG {A : Type} (n : Nat) (ks : List Str) : List (Nat × List Str × A) → Option A
  | [] => none
  | (m, ls, a) :: r => if decide (m = n) && decide (ls = ks) then some a else assocG n ks r
def memOf (L : List (List (Nat × FK))) (k f : Nat) : FK := match L[k]? with
  | some l => (match l.lookup f with
    | some e => e
    | none => .bad)
  | none => .bad
abbrev Arr := List PV → List PV → List PV
def arrOf (L : List (List (Nat × List Str × Arr))) (g n : Nat) (ks : List Str) : Option Arr := match L[g]? with
  | some l => assocG n ks l
  | none => none
def tabOf (tbl : List DefI) (mems : List (List (Nat × FK))) (arrs : List (List (Nat × List Str × Arr))) : Nat → Tab
  | 0 => ⟨fun _ _ _ => .bad, fun g => decide (g < tbl.length), fun k f => if k < 500 then .bad else memOf mems (k - 500) f, arrOf arrs⟩
  | n + 1 => { tabOf tbl mems arrs n with run := runOf tbl (tabOf tbl mems arrs n) }
def AllN {A : Type} (P : Nat → A → Prop) : Nat → List A → Prop
  | _, [] => True
  | i, a :: r => P i a ∧ AllN P (i + 1) r
theorem AllN.at_ {A : Type} {P : Nat → A → Prop} : ∀ {l : List A} {i j : Nat} {a : A}, AllN P i l → l[j]? = some a → P (i + j) a
  | [], _, _, _, _, e => by simp at e
  | b :: r, i, 0, a, h, e => by
    simp at e
    subst e
    exact h.1
  | b :: r, i, j + 1, a, h, e => by
    have := AllN.at_ (i := i + 1) (j := j) h.2 (by simpa using e)
    rw [show i + (j + 1) = i + 1 + j by omega]
    exact this
def fdAt (K : Fr) (a : Addr) : FuncData := match K.lookup a with
  | some ⟨_, _, .func fd, _⟩ => fd
  | _ => PySem.W.fnOf Str.empty Str.empty { posonlyargs := [], args := [], vararg := none, kwonlyargs := [], kw_defaults := [], kwarg := none, defaults := [] } [] { kind := .function, names := [], isGenerator := false, isCoroutine := false } .none .none .none .none none .none .none
theorem MFun.fd {K : Fr} {d : MDef} {fd : FuncData} (F : MFun K d fd) : fd = fdAt K (d.adr K) := by
  obtain ⟨oc, od, dV, kV, doc, pm, an, cdv, ct, osl, e, lk, _⟩ := F.f.ex
  unfold fdAt
  rw [lk]
section
variable {Z : Sta} {tbl : List DefI} {mems : List (List (Nat × FK))} {arrs : List (List (Nat × List Str × Arr))}
def psOf (tbl : List DefI) (g : Nat) : List Str := match tbl[g]? with
  | some d => d.ps
  | none => []
def fdOf (Z : Sta) (g : Nat) : FuncData := fdAt Z.K (Z.G g)
def DefOk (Z : Sta) (tbl : List DefI) (mems : List (List (Nat × FK))) (arrs : List (List (Nat × List Str × Arr))) (g : Nat) (d : DefI) : Prop :=
  PySem.W.keepIn Z.K (.ref (Z.G g)) = true ∧ PySem.W.isFn Z.K (.ref (Z.G g)) = true ∧
    ∀ n, TabOk Z (6 * n) (tabOf tbl mems arrs n) (fdOf Z) (psOf tbl) → FnOk Z.P Z.w Z.K Z.mg Z.base (CX Z.P Z.w) (6 * n + 6) (Z.G g) (fdOf Z g) d.ps (spF Z d.ps.length (runB d.nN (d.body (tabOf tbl mems arrs n))))
def MemOk (Z : Sta) (tbl : List DefI) (i : Nat) (l : List (Nat × FK)) : Prop := ∀ p ∈ l, FKOk Z (fun g => decide (g < tbl.length)) (500 + i) p.1 p.2
def ArrOk (Z : Sta) (tbl : List DefI) (g : Nat) (l : List (Nat × List Str × Arr)) : Prop := ∀ p ∈ l, BindOk Z (fdOf Z g) (psOf tbl g) p.1 p.2.1 p.2.2
theorem lookup_mem' {l : List (Nat × FK)} {f : Nat} {e : FK} (h : l.lookup f = some e) : (f, e) ∈ l := by
  induction l with
  | nil => cases h
  | cons p r ih =>
    obtain ⟨q, w⟩ := p
    rw [List.lookup_cons] at h
    split at h
    · rename_i c
      cases h
      rw [eq_of_beq c]
      exact List.mem_cons_self
    · exact List.mem_cons_of_mem _ (ih h)
theorem assocG_mem {A : Type} {n : Nat} {ks : List Str} : ∀ {l : List (Nat × List Str × A)} {a : A}, assocG n ks l = some a → (n, ks, a) ∈ l
  | [], _, h => by cases h
  | (m, ls, b) :: r, a, h => by
    unfold assocG at h
    split at h
    · rename_i c
      rw [Bool.and_eq_true] at c
      cases of_decide_eq_true c.1
      cases of_decide_eq_true c.2
      cases h
      exact List.mem_cons_self
    · exact List.mem_cons_of_mem _ (assocG_mem h)
theorem tabOf_has : ∀ n g, (tabOf tbl mems arrs n).has g = decide (g < tbl.length)
  | 0, _ => rfl
  | n + 1, g => tabOf_has n g
theorem tabOf_mem : ∀ n k f, (tabOf tbl mems arrs n).mem k f = if k < 500 then .bad else memOf mems (k - 500) f
  | 0, _, _ => rfl
  | n + 1, k, f => tabOf_mem n k f
theorem tabOf_arr : ∀ n, (tabOf tbl mems arrs n).arr = arrOf arrs
  | 0 => rfl
  | n + 1 => tabOf_arr n
theorem tab_ok (hd : AllN (DefOk Z tbl mems arrs) 0 tbl) (hm : AllN (MemOk Z tbl) 0 mems) (ha : AllN (ArrOk Z tbl) 0 arrs) : ∀ n, TabOk Z (6 * n) (tabOf tbl mems arrs n) (fdOf Z) (psOf tbl) := by
  have hmem : ∀ k f, 500 ≤ k → FKOk Z (fun g => decide (g < tbl.length)) k f (memOf mems (k - 500) f) := fun k f hk => by
    unfold memOf
    cases e : mems[k - 500]? with
    | none => exact True.intro
    | some l =>
      simp only
      cases e2 : l.lookup f with
      | none => exact True.intro
      | some q =>
        have := hm.at_ e (f, q) (lookup_mem' e2)
        rw [show 500 + (0 + (k - 500)) = k by omega] at this
        exact this
  have harr : ∀ g n ks a, arrOf arrs g n ks = some a → BindOk Z (fdOf Z g) (psOf tbl g) n ks a := fun g n ks a e => by
    unfold arrOf at e
    cases e2 : arrs[g]? with
    | none => rw [e2] at e; cases e
    | some l =>
      rw [e2] at e
      have := ha.at_ e2 (n, ks, a) (assocG_mem e)
      rw [Nat.zero_add] at this
      exact this
  have rest : ∀ n, (∀ g, (tabOf tbl mems arrs n).has g = true → Fn Z (6 * n) g (fdOf Z g) (psOf tbl g) ((tabOf tbl mems arrs n).run g)) → TabOk Z (6 * n) (tabOf tbl mems arrs n) (fdOf Z) (psOf tbl) := fun n hf => by
    refine ⟨hf, fun k f => ?_, fun g m ks a e => ?_⟩
    · rw [tabOf_mem]
      have : (tabOf tbl mems arrs n).has = fun g => decide (g < tbl.length) := funext (tabOf_has n)
      rw [this]
      split
      · exact True.intro
      · exact hmem k f (by omega)
    · rw [tabOf_arr] at e
      exact harr g m ks a e
  intro n
  induction n with
  | zero =>
    refine rest 0 fun g hg => ?_
    rw [tabOf_has, decide_eq_true_eq] at hg
    have hd' := hd.at_ (List.getElem?_eq_getElem hg)
    rw [Nat.zero_add] at hd'
    refine ⟨⟨fun vs H Q E h => h.1, fun A outer s H args us vs Q E hr he hb hv hs => ?_⟩, hd'.1, hd'.2.1⟩
    obtain ⟨_, m, S, ps, _, _, h⟩ := hs
    exact h.elim
  | succ n ih =>
    refine rest (n + 1) fun g hg => ?_
    rw [tabOf_has, decide_eq_true_eq] at hg
    have e := List.getElem?_eq_getElem hg
    have hd' := hd.at_ e
    rw [Nat.zero_add] at hd'
    have ep : psOf tbl g = (tbl[g]).ps := by unfold psOf; rw [e]
    have er : (tabOf tbl mems arrs (n + 1)).run g = runB (tbl[g]).nN ((tbl[g]).body (tabOf tbl mems arrs n)) := by
      show runOf tbl (tabOf tbl mems arrs n) g = _
      unfold runOf
      rw [e]
    rw [ep, er]
    exact ⟨hd'.2.2 n ih, hd'.1, hd'.2.1⟩
end
section
variable {Z : Sta} {nm qual : Str} {params : Arguments} {body : List Stmt} {scope : Scope} {dvs : List V} {kws : List (Str × V)} {fd : FuncData} {ps : List Str} {f : Addr}
theorem bind_all (F : FunD Z.K nm qual params body scope [] [] f fd) (h : ∀ (kV doc pm : Value) (an : Option Addr) (cdv ct : Value) (us : List Value), us.length = ps.length → bindArgs (PySem.W.fnOf nm qual params body scope .none kV doc pm an cdv ct) ⟨us, []⟩ = pure (ps.zip us)) :
    BindOk Z fd ps ps.length [] (fun vs _ => vs) := by
  intro s us ws xs zs X h1 h2 r1 r2
  have hw : ws = [] := List.length_eq_zero_iff.mp h2
  subst hw
  exact ⟨us, xs, FunD.bindsA F h s us h1, r1, by rw [r1.length]; exact h1, fun H m vs qs a b => a⟩
end
end MP
set_option maxRecDepth 100000
namespace MP
open PySem L2
section
variable {Z : Sta} {W : WX} {σ : L2.St} {H H1 : Hp} {m m1 m2 : Mp} {X : Cx} {S : Hs} {x y : V} {a : Addr} {lv g k f : Nat} {T : Tab} {fdO : Nat → FuncData} {psO : Nat → List Str} {pins : List (Addr × Obj)} {s : Shared} {Q : VK} {c : CmpT} {N : List Str} {sc : Scope} {vs ls : List Nat} {gs : List Str}
theorem t_or1 {a : Expr} {pos : Pos} {f : Loc → Hs → RB} (h : PT X a (tB Z W f)) : PW X (.BoolOp .Or [a] pos) (tB Z W f) := pw_or1 h
end
end MP
set_option maxRecDepth 100000
namespace MP
open PySem L2
theorem FNof_inj {names : List Str} (h1 : names.Nodup) (h2 : names.all (fun x => decide (x.cps.size < 100)) = true) (i j : Nat) (e : FNof names i = FNof names j) : i = j := by
  unfold FNof at e
  cases ei : names[i]? with
  | some x =>
    cases ej : names[j]? with
    | some y =>
      rw [ei, ej] at e
      simp only at e
      subst e
      obtain ⟨l1, e1⟩ := List.getElem?_eq_some_iff.mp ei
      obtain ⟨l2, e2⟩ := List.getElem?_eq_some_iff.mp ej
      exact (List.getElem_inj h1).mp (e1.trans e2.symm)
    | none =>
      rw [ei, ej] at e
      simp only at e
      have := of_decide_eq_true (List.all_eq_true.mp h2 x (List.mem_of_getElem? ei))
      rw [e] at this
      simp at this
      omega
  | none =>
    cases ej : names[j]? with
    | some y =>
      rw [ei, ej] at e
      simp only at e
      have := of_decide_eq_true (List.all_eq_true.mp h2 y (List.mem_of_getElem? ej))
      rw [← e] at this
      simp at this
      omega
    | none =>
      rw [ei, ej] at e
      simp only at e
      have := congrArg (fun z : Str => z.cps.size) e
      simp at this
      exact this
section
variable {exL : List (Fr → Bool)} {dsL : List MDef} {txL : List DTab} {da ca : List (Fr → Addr)} {names : List Str} {Z : Sta} {tbl : List DefI} {mems : List (List (Nat × FK))} {arrs : List (List (Nat × List Str × Arr))}
theorem Ctx.at_ (c : Ctx exL dsL txL da ca names Z) (i : Nat) {f : Fr → Bool} (h : exL[i]? = some f) : f Z.K = true := c.ex f (List.mem_of_getElem? h)
theorem Ctx.def_ (c : Ctx exL dsL txL da ca names Z) (i : Nat) {d : MDef} (h : dsL[i]? = some d) (hc : d.clo = [] := by rfl) : ∃ fd, MFun Z.K d fd := (c.ds d (List.mem_of_getElem? h)).fd hc
theorem Ctx.nm (c : Ctx exL dsL txL da ca names Z) (i : Nat) {x : Str} (h : names[i]? = some x) : Z.FN i = x := by
  rw [c.FN]
  unfold FNof
  rw [h]
theorem Ctx.glo (c : Ctx exL dsL txL da ca names Z) (i : Nat) {x : Str} {a : Fr → Addr} (h : exL[i]? = some fun K => gloK K x (a K)) : Z.mg x = some (.ref (a Z.K)) := by
  obtain ⟨hh, X, G⟩ := c.K
  exact gloK_ok X G (c.at_ i h)
theorem Ctx.gloG (c : Ctx exL dsL txL da ca names Z) (i k : Nat) {x : Str} {a : Fr → Addr} (h : exL[i]? = some fun K => gloK K x (a K)) (hk : GofK da ca Z.K k = a Z.K) : Z.mg x = some (.ref (Z.G k)) := by
  rw [c.G, hk]
  exact c.glo i h
theorem Ctx.fre (c : Ctx exL dsL txL da ca names Z) (i : Nat) {x : Str} (h : exL[i]? = some fun K => freK K x) : Z.mg x = none := by
  obtain ⟨hh, X, G⟩ := c.K
  exact freK_ok X G (c.at_ i h)
theorem Ctx.con (c : Ctx exL dsL txL da ca names Z) (i : Nat) {x : Str} {v : PV} (h : exL[i]? = some fun K => conK K x v) : ∃ u w, Z.mg x = some u ∧ RelV w u ∧ ∀ H m, RV Z H m v w := by
  obtain ⟨hh, X, G⟩ := c.K
  exact conK_ok X G (c.at_ i h)
theorem defOk_of {d : MDef} {g : Nat} {I : DefI} {N : List Str} {vs ls : List Nat} {gs : List Str} (hF : ∃ fd, MFun Z.K d fd) (hG : Z.G g = d.adr Z.K) (SC : FnScope N I.ps d.scope) (hn : I.nN = N.length) (hc : chkD N d.scope vs ls gs = true)
    (hb : ∀ n X W, TabOk Z (6 * n) (tabOf tbl mems arrs n) (fdOf Z) (psOf tbl) → Good Z (6 * n) X W → DefX X N d.scope vs ls gs → Hx X → Bx (6 * n) X (fdOf Z g) d.qual → PSs X d.body (tS Z W (I.body (tabOf tbl mems arrs n)))) : DefOk Z tbl mems arrs g I := by
  obtain ⟨fd, F⟩ := hF
  have e : fd = fdOf Z g := by
    rw [F.fd]
    unfold fdOf
    rw [hG]
  subst e
  have F' := F.f
  rw [← hG] at F'
  refine ⟨F'.kp, by rw [hG]; exact F.fn, fun n TO => ?_⟩
  rw [hn]
  exact fn_body F' SC hc fun X W gd D hp bx => hb n X W TO gd D hp bx
theorem arr_of {d : MDef} {g n : Nat} {ks : List Str} {a : Arr} {ps : List Str} (hF : ∃ fd, MFun Z.K d fd) (hG : Z.G g = d.adr Z.K) (h : ∀ fd, FunD Z.K d.name d.qual d.params d.body d.scope (d.dfl Z.K) (d.kwd Z.K) (d.adr Z.K) fd → BindOk Z fd ps n ks a) : BindOk Z (fdOf Z g) ps n ks a := by
  obtain ⟨fd, F⟩ := hF
  have e : fd = fdOf Z g := by
    rw [F.fd]
    unfold fdOf
    rw [hG]
  subst e
  exact h _ F.f
theorem arrOk_nil {g : Nat} : ArrOk Z tbl g [] := fun p hp => nomatch hp
theorem arrOk_cons {g n : Nat} {ks : List Str} {a : Arr} {l : List (Nat × List Str × Arr)} (h : BindOk Z (fdOf Z g) (psOf tbl g) n ks a) (r : ArrOk Z tbl g l) : ArrOk Z tbl g ((n, ks, a) :: l) := fun p hp => by
  rcases List.mem_cons.mp hp with e | hp
  · subst e; exact h
  · exact r p hp
theorem has_ok {n g : Nat} (h : decide (g < tbl.length) = true) : (tabOf tbl mems arrs n).has g = true := by rw [tabOf_has]; exact h
theorem arr_ok {n g m : Nat} {ks : List Str} {a : Arr} (h : arrOf arrs g m ks = some a) : (tabOf tbl mems arrs n).arr g m ks = some a := by rw [tabOf_arr]; exact h
def CXa : CXT := fun outer H s E e s' => ∃ P w, CX P w outer H s E e s'
theorem fnAny {P : Program} {w : World} {K : Fr} {mg : Str → Option Value} {base : Heap} {k : Nat} {f : Addr} {fd : FuncData} {ps : List Str} {sp : Sp} (F : FnOk P w K mg base (CX P w) k f fd ps sp) : FnOk P w K mg base CXa k f fd ps sp := by
  refine ⟨F.len, fun A outer s H args us vs Q E hr he hb hv hs => codeAny_mono (F.run A outer s H args us vs Q E hr he hb hv hs) fun r s' h => ?_⟩
  cases r with
  | error e => exact ⟨P, w, h⟩
  | ok fl => cases fl <;> exact h
theorem cxa_no (H : Hp) (s : Shared) (e : Value) (s' : Shared) (h : CXa [] H s (fun _ _ _ => False) e s') : False := by
  obtain ⟨_, _, _, _, _, _, _, _, _, _, _, _, _, _, z⟩ := h
  exact z
def spLaw (K : Fr) : Sp := fun vs H Q _ => ∃ (a : Addr) (ns : List Int), vs = [.ref a] ∧ ns.length ≤ 63 ∧ SqL K H a (ns.map V.int) ∧ ∀ H', Q (.bl true) H'
theorem law_of {g n : Nat} {fd : FuncData} {ps : List Str} (hps : ps.length = 1) (TO : TabOk Z (6 * n) (tabOf tbl mems arrs n) (fdOf Z) (psOf tbl)) (hh : decide (g < tbl.length) = true) (ep : psOf tbl g = ps) (ef : fdOf Z g = fd)
    (hev : ∀ ns : List Int, ns.length ≤ 63 → ∃ S, (tabOf tbl mems arrs n).run g [.scr ns] [] = .ok (.bl true) S) : FnOk Z.P Z.w Z.K Z.mg Z.base CXa (6 * n) (Z.G g) fd ps (spLaw Z.K) := by
  have F := (TO.fn g (has_ok hh)).ok
  rw [ep, ef] at F
  refine fnAny (F.imp fun vs H Q E ⟨a, ns, e, hl, hS, hQ⟩ => ?_)
  subst e
  obtain ⟨S, es⟩ := hev ns hl
  refine ⟨by rw [hps]; rfl, ⟨[], [], []⟩, [], [.scr ns], ⟨.nil, List.nodup_nil, (fun _ h => nomatch h), (fun _ h => nomatch h)⟩, RVs.cons ?_ RVs.nil, ?_⟩
  · unfold RV
    refine ⟨a, rfl, ?_⟩
    rcases hS with h | ⟨o, its, k, h1, h2, h3, h4, h5, h6⟩
    · exact .inl ⟨⟨List.not_mem_nil, List.not_mem_nil⟩, h⟩
    · exact .inr ⟨o, its, k, h1, h2, h3, h4, h5, h6⟩
  · rw [es]
    intro H' m' x _ _ r
    rw [rv_bl r]
    exact hQ H'
end
end MP
set_option maxRecDepth 100000
namespace MP
open PySem L2
def chainE (fa fb fc : Loc → Hs → RE) (o o' : PV → PV → Hs → RE) : Loc → Hs → RE := fun L S => (fa L S).bind fun v S1 => (fb L S1).bind fun u S2 => (noX (o v u S2)).bind fun d S3 => match d with
  | .bl true => (fc L S3).bind fun w S4 => noX (o' u w S4)
  | .bl false => .ok (.bl false) S3
  | _ => .bad
section
variable {Z : Sta} {W : WX} {σ : L2.St} {H H1 : Hp} {m m1 m2 : Mp} {X : Cx} {S : Hs} {x y : V} {a : Addr} {lv g k f : Nat} {T : Tab} {fdO : Nat → FuncData} {psO : Nat → List Str} {pins : List (Addr × Obj)} {s : Shared} {Q : VK} {c : CmpT}
theorem RVs.atI {xs : List PV} {ys : List V} {i : Int} {p : PV} (r : RVs Z H m xs ys) (h : L2.atI xs i = some p) : ∃ y, L2.atI ys i = some y ∧ RV Z H m p y := by
  unfold L2.atI at h ⊢
  rw [← r.len]
  cases e : ixN xs.length i with
  | none => rw [e] at h; cases h
  | some j =>
    rw [e] at h
    exact r.get h
theorem RVs.drop : ∀ {xs : List PV} {ys : List V} (n : Nat), RVs Z H m xs ys → RVs Z H m (xs.drop n) (ys.drop n)
  | [], _, _, h => by unfold RVs at h; subst h; rw [List.drop_nil, List.drop_nil]; exact RVs.nil
  | p :: ps, _, 0, h => h
  | p :: ps, _, n + 1, h => by
    unfold RVs at h
    obtain ⟨y, r, rfl, h1, h2⟩ := h
    exact RVs.drop n h2
theorem ix_post {p q : PV} (hK : X.K = Z.K) (sr : SRel Z H m S) (rp : RV Z H m p x) (rq : RV Z H m q y) (hp : PostE Z W σ H m Q (ixV p q S)) : rIx X.K x y H Q := by
  unfold ixV at hp
  split at hp
  · rename_i i
    cases rv_int rq
    split at hp
    · rename_i st
      split at hp
      · rename_i hf
        obtain ⟨rfl, ho⟩ := rv_str rp
        cases e : L2.atI st i with
        | none => rw [e] at hp; exact hp.elim
        | some c =>
          rw [e] at hp
          refine .inr (.inr ⟨_, i, c, rfl, rfl, by rw [str_len]; exact fits_ok hf, by simpa using e, ?_⟩)
          refine hp H m _ Gr.refl sr ?_
          have hc : c ∈ st := by
            unfold L2.atI at e
            cases e2 : ixN st.length i with
            | none => rw [e2] at e; cases e
            | some j => rw [e2] at e; exact List.mem_of_getElem? e
          have : sOk [c] = true := by
            unfold sOk at ho ⊢
            rw [List.all_cons, List.all_eq_true.mp ho c hc]
            rfl
          exact to_str this
      · exact hp.elim
    · split at hp
      · rename_i xs ex
        obtain ⟨a, ys, rfl, hq, rr⟩ := asQ_ok sr rp ex
        cases e : L2.atI xs i with
        | none => rw [e] at hp; exact hp.elim
        | some w =>
          rw [e] at hp
          obtain ⟨z, ez, rz⟩ := rr.atI e
          rcases hq with hq | hq
          · exact .inl ⟨a, ys, i, z, rfl, rfl, by rw [hK]; exact hq, ez, hp H m _ Gr.refl sr rz⟩
          · exact .inr (.inl ⟨a, ys, i, z, rfl, rfl, by rw [hK]; exact hq, ez, hp H m _ Gr.refl sr rz⟩)
      · exact hp.elim
  · exact hp.elim
inductive PartOk (Z : Sta) (X : Cx) (W : WX) : Option Expr → Option (Loc → Hs → RE) → Prop where
  | none : PartOk Z X W none none
  | some {e : Expr} {f : Loc → Hs → RE} : PE X e (tE Z W f) → PartOk Z X W (some e) (some f)
def tPt (Z : Sta) (W : WX) : Option (Loc → Hs → RE) → TO
  | none => tNoPart
  | some f => tPart (tE Z W f)
theorem PartOk.po {e : Option Expr} {f : Option (Loc → Hs → RE)} (h : PartOk Z X W e f) : PO X e (tPt Z W f) := by
  cases h with
  | none => exact po_none
  | some h => exact po_some h
theorem noX_any {r : RE} (h : PostE Z W σ H m Q (noX r)) : PostE Z W0 [] H m Q (noX r) := by
  cases r with
  | ok v S => exact h
  | ex k v S => exact h.elim
  | bad => exact h.elim
theorem OpOk.r {f : Value → Value → Sem Value} {g : PV → PV → Hs → RE} (ho : OpOk Z X W f g) : OpR X f (fun x y H Q => ∃ m S p q, SRel Z H m S ∧ RV Z H m p x ∧ RV Z H m q y ∧ PostE Z W0 [] H m Q (noX (g p q S))) := by
  intro pins s σ H x y v u Q I rx ry ⟨m, S, p, q, sr, rp, rq, hp⟩
  refine ho pins s σ H x y v u m S p q Q I rx ry sr rp rq ?_
  cases e : g p q S with
  | ok v S1 => rw [e] at hp; exact hp
  | ex k v S1 => rw [e] at hp; exact hp.elim
  | bad => rw [e] at hp; exact hp.elim
theorem noX_bind {r : RE} {f : PV → Hs → RE} {R : VK} (h : PostE Z W σ H m Q ((noX r).bind f)) (c : ∀ v S H' m' x, Gr Z H m H' m' → SRel Z H' m' S → RV Z H' m' v x → PostE Z W σ H' m' Q (f v S) → R x H') : PostE Z W0 [] H m R (noX r) := by
  cases r with
  | ok v S => exact fun H' m' x g s rv => c v S H' m' x g s rv (PostE.grow g h)
  | ex k v S => exact h.elim
  | bad => exact h.elim
theorem chain_read {fa fb fc : Loc → Hs → RE} {o o' : PV → PV → Hs → RE} (h : tE Z W (chainE fa fb fc o o') σ H Q) :
    tChain (fun x y H Q => ∃ m S p q, SRel Z H m S ∧ RV Z H m p x ∧ RV Z H m q y ∧ PostE Z W0 [] H m Q (noX (o p q S))) (fun x y H Q => ∃ m S p q, SRel Z H m S ∧ RV Z H m p x ∧ RV Z H m q y ∧ PostE Z W0 [] H m Q (noX (o' p q S))) (tE Z W fa) (tE Z W fb) (tE Z W fc) σ H Q := by
  obtain ⟨m, L, S, sr, hl, hp⟩ := h
  refine ⟨m, L, S, sr, hl, PostE.bind hp fun v S1 H1 m1 x g1 s1 r1 hp1 => ⟨m1, L, S1, s1, hl.grow g1, PostE.bind hp1 fun u S2 H2 m2 y g2 s2 r2 hp2 => ⟨m2, S2, v, u, s2, r1.grow g2, r2, noX_bind hp2 fun d S3 H3 m3 z g3 s3 r3 hp3 => ?_⟩⟩⟩
  split at hp3
  · cases rv_bl r3
    refine ⟨true, rfl, ?_⟩
    rw [if_pos rfl]
    exact ⟨m3, L, S3, s3, ((hl.grow g1).grow g2).grow g3, PostE.bind hp3 fun w S4 H4 m4 z4 g4 s4 r4 hp4 => ⟨m4, S4, u, w, s4, (r2.grow g3).grow g4, r4, noX_any hp4⟩⟩
  · cases rv_bl r3
    refine ⟨false, rfl, ?_⟩
    rw [if_neg Bool.false_ne_true]
    exact hp3 H3 m3 _ Gr.refl s3 to_bl
  · exact hp3.elim
theorem ok_chain {a b cc : Expr} {op op' : CmpOp} {pos : Pos} {fa fb fc : Loc → Hs → RE} {o o' : PV → PV → Hs → RE} (ha : PE X a (tE Z W fa)) (hb : PE X b (tE Z W fb)) (hc : PE X cc (tE Z W fc)) (ho : OpOk Z X W (compareOp op) o) (ho' : OpOk Z X W (compareOp op') o')
    (hm : lastMarks [op, op'] [b, cc] = false) : PE X (.Compare a [op, op'] [b, cc] pos) (tE Z W (chainE fa fb fc o o')) :=
  PE.imp (pe_chain ho.r ho'.r ha hb hc hm) fun σ H Q h => chain_read h
def fit62 (i : Int) : Bool := decide (-(2 ^ 62) ≤ i) && decide (i < 2 ^ 62)
def rngI (ga : Loc → Hs → RA) : Loc → Hs → RI := fun L S => match ga L S with
  | .ok [.int j] S1 => if fit62 j then .ok (.rng 0 j.toNat) S1 else .bad
  | .ok [.int i, .int j] S1 => if fit62 i && fit62 j then .ok (.rng i (j - i).toNat) S1 else .bad
  | .ok _ _ => .bad
  | .ex k v S1 => .ex k v S1
  | .bad => .bad
theorem fit_ok {i : Int} (h : fit62 i = true) : -(2 ^ 62) ≤ i ∧ i < 2 ^ 62 := by
  unfold fit62 at h
  rw [Bool.and_eq_true, decide_eq_true_eq, decide_eq_true_eq] at h
  exact h
theorem rng_post {ga : Loc → Hs → RA} {R : It → Hp → Prop} {L : Loc} (hp : PostI Z W σ H m R (rngI ga L S)) : PostA Z W σ H m (fun xs H1 => (∃ j : Int, xs = [.int j] ∧ fit62 j = true ∧ R (Itr 0 j.toNat) H1) ∨ ∃ i j : Int, xs = [.int i, .int j] ∧ (fit62 i && fit62 j) = true ∧ R (Itr i (j - i).toNat) H1) (ga L S) := by
  unfold rngI at hp
  cases e : ga L S with
  | bad => rw [e] at hp; exact hp.elim
  | ex k v S1 => rw [e] at hp; exact hp
  | ok vs S1 =>
    rw [e] at hp
    intro H1 m1 xs g1 s1 r1
    split at hp
    · rename_i j S' e'
      cases e'
      obtain ⟨x, rfl, rx⟩ := rvs1 r1
      cases rv_int rx
      split at hp
      · rename_i hf
        exact .inl ⟨j, rfl, hf, hp H1 m1 _ g1 s1 drel_rng⟩
      · exact hp.elim
    · rename_i i j S' e'
      cases e'
      obtain ⟨x, y, rfl, rx, ry⟩ := rvs2 r1
      cases rv_int rx
      cases rv_int ry
      split at hp
      · rename_i hf
        exact .inr ⟨i, j, rfl, hf, hp H1 m1 _ g1 s1 drel_rng⟩
      · exact hp.elim
    · exact hp.elim
    · rename_i e'; cases e'
    · rename_i e'; cases e'
theorem ok_rng1 {tg e : Expr} {p pos : Pos} {nm : Str} {f : Loc → Hs → RE} (gd : Good Z lv X W) (hn : nm = "range") (hg : Gl X nm) (hm : Z.mg nm = none) (ha : PE X e (tE Z W f)) (hs : starEach [e] X.env = [(false, eval e X.env)]) : PI X tg (.Call (.Name nm p) [e] [] pos) (tI Z W (rngI (consA f nilA))) := by
  subst hn
  refine PI.imp (pi_range1 hg (by rw [gd.mg]; exact hm) (ok_cons ha ok_nil (by rw [hs]; rfl)) hs) ?_
  rintro σ H R ⟨m, L, S, sr, hl, hp⟩
  refine ⟨m, L, S, sr, hl, ?_⟩
  have h := rng_post hp
  have two : ∀ vs S', consA f nilA L S = .ok vs S' → ∃ v, vs = [v] := fun vs S' e => by
    unfold consA at e
    cases e1 : f L S with
    | ok v S1 => rw [e1] at e; cases e; exact ⟨v, rfl⟩
    | ex k v S1 => rw [e1] at e; cases e
    | bad => rw [e1] at e; cases e
  cases e : consA f nilA L S with
  | bad => rw [e] at h; exact h
  | ex k v S1 => rw [e] at h; exact h
  | ok vs S1 =>
    rw [e] at h
    obtain ⟨v, rfl⟩ := two vs S1 e
    intro H1 m1 xs g1 s1 r1
    obtain ⟨x0, rfl, _⟩ := rvs1 r1
    rcases h H1 m1 _ g1 s1 r1 with ⟨j, e2, hf, q⟩ | ⟨i, j, e2, _⟩
    · obtain ⟨q1, q2⟩ := fit_ok hf
      exact ⟨j, e2, q1, q2, q⟩
    · cases e2
end
end MP
set_option maxRecDepth 100000
namespace MP
open PySem L2
def subT (fo fi : Loc → Hs → RE) : TgF := fun v L S => match fo L S with
  | .ok o S1 => match fi L S1 with
    | .ok i S2 => match setV o i v S2 with
      | some S3 => .nx L S3
      | none => .bad
    | _ => .bad
  | _ => .bad
section
variable {Z : Sta} {W : WX} {σ : L2.St} {H H1 : Hp} {m m1 m2 : Mp} {X : Cx} {S : Hs} {x y : V} {a : Addr} {lv g k f : Nat} {T : Tab} {fdO : Nat → FuncData} {psO : Nat → List Str} {pins : List (Addr × Obj)} {s : Shared} {Q : VK} {c : CmpT}
theorem ok_subT {o i : Expr} {pos : Pos} {fo fi : Loc → Hs → RE} (ho : PE X o (tE Z W fo)) (hi : PE X i (tE Z W fi))
    (ha : ∀ v, assign (.Subscript o i pos) X.env v = (do
      let ov ← holding [v] (eval o X.env)
      let iv ← holding [v, ov] (eval i X.env)
      standAt pos
      holding [v, ov, iv] (setItem ov iv v)
      release [v, ov, iv] [])) : PG X (.Subscript o i pos) (tG Z [] (subT fo fi)) := by
  refine PG.imp (pg_sub ho hi set_list ha) ?_
  rintro x σ H Q ⟨m, L, S, v, sr, hl, rv, hp⟩
  unfold subT at hp
  refine ⟨m, L, S, sr, hl, ?_⟩
  cases eo : fo L S with
  | bad => rw [eo] at hp; exact hp.elim
  | ex k v S1 => rw [eo] at hp; exact hp.elim
  | ok ov S1 =>
    rw [eo] at hp
    simp only at hp
    intro H1 m1 xo g1 s1 r1
    refine ⟨m1, L, S1, s1, hl.grow g1, ?_⟩
    cases ei : fi L S1 with
    | bad => rw [ei] at hp; exact hp.elim
    | ex k v S2 => rw [ei] at hp; exact hp.elim
    | ok iv S2 =>
      rw [ei] at hp
      simp only at hp
      intro H2 m2 xi g2 s2 r2
      unfold setV at hp
      split at hp
      · rename_i S3 es
        split at es
        · rename_i n k
          split at es
          · rename_i xs ec
            obtain ⟨j, ej, rfl⟩ := map_some es
            have r1' := r1.grow g2
            unfold RV at r1'
            obtain ⟨a, ea, rfl⟩ := r1'
            cases rv_int r2
            obtain ⟨b, eb, ys, hA, rr⟩ := s2.at_ ec
            rw [ea] at eb
            cases eb
            have g3 := Gr.upd (Z := Z) (m := m2) (o := .lst (ys.set j x)) (getR_mem ea) (no_tup_lst hA)
            refine ⟨a, ys, k, j, rfl, rfl, hA, by rw [← rr.len]; exact ej, ?_⟩
            have rv2 := (rv.grow g1).grow g2
            exact hp _ m2 σ ((g1.trans g2).trans g3) (s2.set ea (no_tup_lst hA) ⟨_, upd_same, RVs.set (rv2.grow g3) j (rr.grow g3)⟩) (((hl.grow g1).grow g2).grow g3) Out.refl
          · cases es
        · cases es
      · exact hp.elim
def min2V (ps : List PV) (S : Hs) : RE := match ps with
  | [.int i, .int j] => .ok (.int (if j < i then j else i)) S
  | _ => .bad
def max2V (ps : List PV) (S : Hs) : RE := match ps with
  | [.int i, .int j] => .ok (.int (if j > i then j else i)) S
  | _ => .bad
theorem min2_ok (gd : Good Z lv X W) : CallOk Z X W (.builtin "min") min2V := by
  refine CallOk.of (call_min2 gd.calm) fun σ H m S ps xs Q sr rp hp => ?_
  unfold min2V at hp
  split at hp
  · obtain ⟨x, y, rfl, r1, r2⟩ := rvs2 rp
    cases rv_int r1; cases rv_int r2
    exact ⟨_, _, rfl, hp H m _ Gr.refl sr to_int⟩
  · exact hp.elim
theorem max2_ok (gd : Good Z lv X W) : CallOk Z X W (.builtin "max") max2V := by
  refine CallOk.of (call_max2 gd.calm) fun σ H m S ps xs Q sr rp hp => ?_
  unfold max2V at hp
  split at hp
  · obtain ⟨x, y, rfl, r1, r2⟩ := rvs2 rp
    cases rv_int r1; cases rv_int r2
    exact ⟨_, _, rfl, hp H m _ Gr.refl sr to_int⟩
  · exact hp.elim
theorem int1_ok : CallOk Z X W (.type "int") intV1 := by
  refine CallOk.of call_int1 fun σ H m S ps xs Q sr rp hp => ?_
  unfold intV1 at hp
  split at hp
  · obtain ⟨x, rfl, r1⟩ := rvs1 rp
    cases rv_int r1
    exact .inl ⟨_, rfl, hp H m _ Gr.refl sr to_int⟩
  · obtain ⟨x, rfl, r1⟩ := rvs1 rp
    cases rv_bl r1
    exact .inr ⟨_, rfl, hp H m _ Gr.refl sr to_int⟩
  · exact hp.elim
theorem cls_ok {cl : PV} {n : Nat} (ek : clsNo cl = some n) (r2 : RV Z H m cl y) : ClsV y (MP.tyV Z n) := by
  unfold clsNo at ek
  split at ek
  · cases ek
    unfold RV at r2
    subst r2
    unfold MP.tyV
    rw [if_neg (by omega), Nat.add_sub_cancel_left]
    exact .own _
  · split at ek
    · rename_i n c
      cases ek
      rw [Bool.and_eq_true, decide_eq_true_eq, decide_eq_true_eq] at c
      unfold RV at r2
      subst r2
      unfold MP.tyV
      rw [if_pos (by omega), ← c.2]
      exact .ty _
    · cases ek
  · cases ek
theorem clsNos_ok : ∀ {cs : List PV} {ys : List V} {ks : List Nat}, RVs Z H m cs ys → clsNos cs = some ks → Paired ClsV ys (ks.map (MP.tyV Z))
  | [], ys, ks, r, e => by
    cases e
    unfold RVs at r
    subst r
    exact .nil
  | c :: cs, ys, ks, r, e => by
    unfold RVs at r
    obtain ⟨y, t, rfl, r1, r2⟩ := r
    unfold clsNos at e
    cases ek : clsNo c with
    | none => rw [ek] at e; cases e
    | some k =>
      rw [ek] at e
      obtain ⟨ks', e1, rfl⟩ := map_some e
      exact .cons (cls_ok ek r1) (clsNos_ok r2 e1)
theorem isiL_ok {isa : IsaT} (O : IsaOk Z isa) {t : Nat} : ∀ {ks : List Nat} {b : Bool}, isiL isa t ks = some b → PySem.W.kitAny Z.K (MP.tyV Z t) (ks.map (MP.tyV Z)) = some b
  | [], b, e => e
  | k :: ks, b, e => by
    unfold isiL at e
    rw [List.map_cons]
    unfold PySem.W.kitAny
    cases ei : isa t k with
    | none => rw [ei] at e; cases e
    | some c =>
      rw [(O t k c ei).2]
      rw [ei] at e
      cases c with
      | true => exact e
      | false => exact isiL_ok O e
theorem isiL_own {isa : IsaT} (O : IsaOk Z isa) {t : Nat} : ∀ {ks : List Nat} {b : Bool}, ks ≠ [] → isiL isa t ks = some b → 100 ≤ t → OwnTy Z (t - 100)
  | [], b, h, e, _ => absurd rfl h
  | k :: ks, b, h, e, ht => by
    unfold isiL at e
    cases ei : isa t k with
    | none => rw [ei] at e; cases e
    | some c => exact (O t k c ei).1 ht
theorem isiW_ok {isa : IsaT} (gd : Good Z lv X W) (O : IsaOk Z isa) : CallOk Z X W (.builtin "isinstance") (isiW isa) := by
  intro pins s σ H xs us m S ps Q I rx sr rp hp
  unfold isiW at hp
  split at hp
  · rename_i v cs
    obtain ⟨x, y, rfl, r1, r2⟩ := rvs2 rp
    split at hp
    · rename_i t k ks et ek
      cases ei : isiL isa t (k :: ks) with
      | none => rw [ei] at hp; exact hp.elim
      | some b =>
        rw [ei] at hp
        obtain ⟨u1, u2, rfl, q1, q2⟩ := vals2 rx
        obtain ⟨a, ys, rfl, hq, rr⟩ := rv_tup r2
        obtain rfl : u2 = Value.ref a := q2
        · have ty := tyN_ok sr r1 et (isiL_own O (List.cons_ne_nil _ _) ei)
          rw [← gd.K] at ty hq
          obtain ⟨P, Z', p, hx⟩ := kitM_of I q1 ty
          obtain ⟨its, rv, ⟨o, ho, hc, n, hd⟩, _⟩ := I.tuple hq
          have e3 := ClsV.all (clsNos_ok rr ek) rv
          subst e3
          obtain ⟨oc, od, dt, sl⟩ := o
          simp only at hc hd
          subst hc hd
          have e := isiL_ok O ei
          rw [← gd.K] at e
          exact PySem.W.kia_tup Z' I.kIn p ho e hx fun tk => ⟨.bl b, H, I.tok tk, rfl, hp H m _ Gr.refl sr to_bl⟩
    · exact hp.elim
  · exact hp.elim
theorem isiA_ok {isa : IsaT} (gd : Good Z lv X W) (O : IsaOk Z isa) : CallOk Z X W (.builtin "isinstance") (isiA isa) := by
  intro pins s σ H xs us m S ps Q I rx sr rp hp
  unfold isiA at hp
  split at hp
  · exact isiW_ok gd O pins s σ H xs us m S _ Q I rx sr rp hp
  · exact isi_ok gd O pins s σ H xs us m S ps Q I rx sr rp hp
end
end MP
set_option maxRecDepth 100000
set_option maxRecDepth 100000
namespace MP
open PySem L2
section
variable {S : Hs} {L : Loc} {v : PV} {k : Nat} {n : Nat} {i j : Int} {b : Bool} {s : List Nat} {vs : List PV}
theorem v_re {f : PV → Hs → RE} : (RE.ok v S).bind f = f v S := rfl
theorem v_reA {f : PV → Hs → RA} : (RE.ok v S).bindA f = f v S := rfl
theorem v_reB {f : PV → Hs → RB} : (RE.ok v S).bindB f = f v S := rfl
theorem v_reS {f : PV → Hs → RS} : (RE.ok v S).bindS L f = f v S := rfl
theorem v_ra {f : List PV → Hs → RE} : (RA.ok vs S).bind f = f vs S := rfl
theorem v_raA {f : List PV → Hs → RA} : (RA.ok vs S).bindA f = f vs S := rfl
theorem v_rb {f : Bool → Hs → RE} : (RB.ok b S).bind f = f b S := rfl
theorem v_rbB {f : Bool → Hs → RB} : (RB.ok b S).bindB f = f b S := rfl
theorem v_rbS {f : Bool → Hs → RS} : (RB.ok b S).bindS L f = f b S := rfl
theorem v_rs {f : Loc → Hs → RS} : (RS.nx L S).bind f = f L S := rfl
theorem v_rt {f : Loc → Hs → RS} : (RS.rt v S).bind f = .rt v S := rfl
theorem v_seq {f g : Loc → Hs → RS} : seqS f g L S = (f L S).bind g := rfl
theorem v_nil : nilS L S = .nx L S := rfl
theorem v_ret {f : Loc → Hs → RE} : retS f L S = (f L S).bindS L fun v S1 => .rt v S1 := rfl
theorem v_exp {f : Loc → Hs → RE} : expS f L S = (f L S).bindS L fun _ S1 => .nx L S1 := rfl
theorem v_if {c : Loc → Hs → RB} {f g : Loc → Hs → RS} : ifS c f g L S = (c L S).bindS L fun b S1 => if b then f L S1 else g L S1 := rfl
theorem v_asg {f : Loc → Hs → RE} {g : TgF} : asgS f g L S = (f L S).bindS L fun v S1 => onlyN (g v L S1) := rfl
theorem v_only : onlyN (.nx L S) = .nx L S := rfl
theorem v_con : conE v L S = .ok v S := rfl
theorem v_var0 {x : PV} {r : Loc} : varE 0 (some x :: r) S = .ok x S := rfl
theorem v_varS {x : Option PV} {r : Loc} {m : Nat} : varE (m + 1) (x :: r) S = varE m r S := rfl
theorem v_nilA : nilA L S = .ok [] S := rfl
theorem v_consA {f : Loc → Hs → RE} {g : Loc → Hs → RA} : consA f g L S = (f L S).bindA fun v S1 => (g L S1).bindA fun vs S2 => .ok (v :: vs) S2 := rfl
theorem v_bin {f g : Loc → Hs → RE} {o : PV → PV → Hs → RE} : binE f g o L S = (f L S).bind fun v S1 => (g L S1).bind fun w S2 => o v w S2 := rfl
theorem v_call {m k : Nat} {ga gk : Loc → Hs → RA} {f : List PV → List PV → Hs → RE} : callE m k ga gk f L S = (ga L S).bind fun vs S1 => (gk L S1).bind fun qs S2 => if vs.length = m ∧ qs.length = k then f vs qs S2 else .bad := rfl
theorem v_blt {ga : Loc → Hs → RA} {f : List PV → Hs → RE} : bltE ga f L S = (ga L S).bind f := rfl
theorem v_and {f g : Loc → Hs → RE} : andE f g L S = (f L S).bind fun v S1 => okT (tru S1 v) fun b => if b then g L S1 else .ok v S1 := rfl
theorem v_or {f g : Loc → Hs → RE} : orE f g L S = (f L S).bind fun v S1 => okT (tru S1 v) fun b => if b then .ok v S1 else g L S1 := rfl
theorem v_not {f : Loc → Hs → RE} : notE f L S = (f L S).bind fun v S1 => okT (tru S1 v) fun b => .ok (.bl (!b)) S1 := rfl
theorem v_okT {f : Bool → RE} : okT (some b) f = f b := rfl
theorem v_okB : okB (some b) S = .ok b S := rfl
theorem v_okO : okO (some v) S = .ok v S := rfl
theorem v_truBl : tru S (.bl b) = some b := rfl
theorem v_truInt : tru S (.int i) = some (i != 0) := rfl
theorem v_truB {f : Loc → Hs → RE} : truB f L S = (f L S).bindB fun v S1 => okB (tru S1 v) S1 := rfl
theorem v_cmpB {f : Loc → Hs → RE} : cmpB f L S = asB (f L S) := rfl
theorem v_asB : asB (.ok (.bl b) S) = .ok b S := rfl
theorem v_andB {f g : Loc → Hs → RB} : andB f g L S = (f L S).bindB fun b S1 => if b then g L S1 else .ok false S1 := rfl
theorem v_orB {f g : Loc → Hs → RB} : orB f g L S = (f L S).bindB fun b S1 => if b then .ok true S1 else g L S1 := rfl
theorem v_notB {f : Loc → Hs → RB} : notB f L S = (f L S).bindB fun b S1 => .ok (!b) S1 := rfl
theorem v_ite {c : Loc → Hs → RB} {f g : Loc → Hs → RE} : iteE c f g L S = (c L S).bind fun b S1 => if b then f L S1 else g L S1 := rfl
theorem v_noX : noX (.ok v S) = .ok v S := rfl
theorem v_chain {fa fb fc : Loc → Hs → RE} {o o' : PV → PV → Hs → RE} : chainE fa fb fc o o' L S = (fa L S).bind fun v S1 => (fb L S1).bind fun u S2 => (noX (o v u S2)).bind fun d S3 => match d with
  | .bl true => (fc L S3).bind fun w S4 => noX (o' u w S4)
  | .bl false => .ok (.bl false) S3
  | _ => .bad := rfl
theorem v_useT {f : List PV → Hs → RE} : useC true f vs S = isoC f vs S := rfl
theorem v_useF {f : List PV → Hs → RE} : useC false f vs S = f vs S := rfl
theorem v_b_int {T : Tab} {o : OpT} {f : PV → PV → Hs → RE} : binD T o f (.int i) (.int j) S = f (.int i) (.int j) S := rfl
theorem v_i_int {T : Tab} {o : OpT} {f : PV → PV → Hs → RE} : inpD T o f (.int i) (.int j) S = f (.int i) (.int j) S := rfl
theorem v_b_str {T : Tab} {o : OpT} {f : PV → PV → Hs → RE} {t : List Nat} : binD T o f (.str s) (.str t) S = f (.str s) (.str t) S := rfl
theorem v_add {z : Bool} : binV .Add z (.int i) (.int j) S = .ok (.int (i + j)) S := rfl
theorem v_sub {z : Bool} : binV .Sub z (.int i) (.int j) S = .ok (.int (i - j)) S := rfl
theorem v_band {z : Bool} : binV .BitAnd z (.int i) (.int j) S = .ok (.int (Builtin.bitAnd i j)) S := rfl
theorem v_bor {z : Bool} : binV .BitOr z (.int i) (.int j) S = .ok (.int (Builtin.bitOr i j)) S := rfl
theorem v_bxor {z : Bool} : binV .BitXor z (.int i) (.int j) S = .ok (.int (Builtin.bitXor i j)) S := rfl
theorem v_mul {z : Bool} (h : mulOk i j = true) : binV .Mult z (.int i) (.int j) S = .ok (.int (i * j)) S := by
  show (if mulOk i j then _ else _) = _
  rw [if_pos h]
theorem v_mod {z : Bool} (h : 0 < j) : binV .Mod z (.int i) (.int j) S = .ok (.int (i % j)) S := by
  show okO ((modI i j).map .int) S = _
  unfold modI
  rw [if_pos (decide_eq_true h)]
  rfl
theorem v_fdiv {z : Bool} (h : 0 < j) (h2 : j.natAbs.log2 < 9000) : binV .FloorDiv z (.int i) (.int j) S = .ok (.int (i / j)) S := by
  show okO ((fdivI i j).map .int) S = _
  unfold fdivI
  rw [if_pos (by rw [decide_eq_true h, decide_eq_true h2]; rfl)]
  rfl
theorem v_shl {z : Bool} (h : powOk i j = true) : binV .LShift z (.int i) (.int j) S = .ok (.int (i * 2 ^ j.toNat)) S := by
  show okO (Option.map .int (if powOk i j then _ else _)) S = _
  rw [if_pos h]
  rfl
theorem v_shr {z : Bool} (h : 0 ≤ j) : binV .RShift z (.int i) (.int j) S = .ok (.int (i / 2 ^ j.toNat)) S := by
  show okO (Option.map .int (if decide (0 ≤ j) then _ else _)) S = _
  rw [if_pos (decide_eq_true h)]
  rfl
theorem v_le : ordV (fun i j => decide (i ≤ j)) (.int i) (.int j) S = .ok (.bl (decide (i ≤ j))) S := rfl
theorem v_lt : ordV (fun i j => decide (i < j)) (.int i) (.int j) S = .ok (.bl (decide (i < j))) S := rfl
theorem v_eqI {T : Tab} {c : CmpT} : eqD T c (.int i) (.int j) S = .ok (.bl (decide (i = j))) S := by
  show RE.ok (.bl (i == j)) S = _
  by_cases h : i = j <;> simp [h]
theorem v_neI {T : Tab} {c : CmpT} : neD T c (.int i) (.int j) S = .ok (.bl (!decide (i = j))) S := by
  show RE.ok (.bl (!(i == j))) S = _
  by_cases h : i = j <;> simp [h]
theorem v_eqB {T : Tab} {c : CmpT} {d : Bool} : eqD T c (.bl b) (.bl d) S = .ok (.bl (b == d)) S := rfl
theorem v_neB {T : Tab} {c : CmpT} {d : Bool} : neD T c (.bl b) (.bl d) S = .ok (.bl (!(b == d))) S := rfl
def setO (T : Tab) (f : Nat) (o v : PV) (L : Loc) (S2 : Hs) : RS := match o with
  | .loc i => match getR S2 i with
    | some (.ins k ns xs) => if isFld (T.mem k f) && decide (ns.length < 900) && decide (ns.length = xs.length) then .nx L (setR S2 i (.ins k (putN f v ns xs).1 (putN f v ns xs).2)) else .bad
    | _ => .bad
  | _ => .bad
theorem v_setf {T : Tab} {f : Nat} {fo fe : Loc → Hs → RE} : setfS T f fo fe L S = (fe L S).bindS L fun v S1 => (fo L S1).bindS L fun o S2 => setO T f o v L S2 := rfl
theorem v_lst {z : Bool} {f : Loc → Hs → RA} : lstE z f L S = (f L S).bind fun vs S1 => if fits vs then (if z then .ok (.lst vs) S1 else .ok (.loc S1.length) (.lst vs :: S1)) else .bad := rfl
def unaP (T : Tab) (u : UnT) (op : UnaryOp) (v : PV) (S1 : Hs) : RE := match clsOf S1 v with
  | some (k, _, _) => if k ∈ u.ks then ownC T k u.f [v] S1 else .bad
  | none => unaV op v S1
theorem v_una {T : Tab} {u : UnT} {op : UnaryOp} {f : Loc → Hs → RE} : unaO T u op f L S = (f L S).bind fun v S1 => unaP T u op v S1 := rfl
theorem v_attr {T : Tab} {f : Nat} {e : Loc → Hs → RE} : attrX T f e L S = (e L S).bind fun v S1 => noX (attrV T f v S1) := rfl
theorem v_aug {m : Nat} {f : Loc → Hs → RE} {o : PV → PV → Hs → RE} {x : PV} (h : L[m]? = some (some x)) : augS m f o L S = (f L S).bindS L fun w S1 => (o x w S1).bindS L fun z S2 => .nx (L.set m (some z)) S2 := by
  unfold augS
  rw [h]
theorem v_name {m : Nat} : nameT m v L S = .nx (L.set m (some v)) S := rfl
theorem z_cons {f : PV → Option PV} {x y : PV} {r t : List PV} (h : f x = some y) (ht : mapO f r = some t) : mapO f (x :: r) = some (y :: t) := by
  unfold mapO
  rw [h, ht]
theorem z_obj {ns : List Nat} {xs ys : List PV} (h : mapO (freeze S n) xs = some ys) : freeze S (n + 1) (.obj k ns xs) = some (.obj k ns ys) := by
  unfold freeze
  simp only [h, Option.map]
theorem z_lst {xs ys : List PV} (h : mapO (freeze S n) xs = some ys) : freeze S (n + 1) (.lst xs) = some (.lst ys) := by
  unfold freeze
  simp only [h, Option.map]
theorem z_tup {xs ys : List PV} (h : mapO (freeze S n) xs = some ys) : freeze S (n + 1) (.tup xs) = some (.tup ys) := by
  unfold freeze
  simp only [h, Option.map]
theorem z_dct {ks xs ys : List PV} (h : mapO (freeze S n) xs = some ys) : freeze S (n + 1) (.dct ks xs) = some (.dct ks ys) := by
  unfold freeze
  simp only [h, Option.map]
theorem z_lnt {ks xs ys : List PV} (h : mapO (freeze S n) xs = some ys) : freeze S (n + 1) (.lnt ks xs) = some (.lnt ks ys) := by
  unfold freeze
  simp only [h, Option.map]
def solid : Nat → PV → Bool
  | 0, _ => false
  | n + 1, v => match v with
    | .loc _ => false
    | .tup xs => xs.all (solid n)
    | .lst xs => xs.all (solid n)
    | .dct _ vs => vs.all (solid n)
    | .lnt _ vs => vs.all (solid n)
    | .obj _ _ xs => xs.all (solid n)
    | _ => true
theorem solid_all {n : Nat} (ih : ∀ v, solid n v = true → freeze S n v = some v) : ∀ {xs : List PV}, xs.all (solid n) = true → mapO (freeze S n) xs = some xs
  | [], _ => rfl
  | x :: xs, h => by
    rw [List.all_cons, Bool.and_eq_true] at h
    exact z_cons (ih x h.1) (solid_all ih h.2)
theorem solid_ok : ∀ {n : Nat} (v : PV), solid n v = true → freeze S n v = some v
  | 0, _, h => by cases h
  | n + 1, v, h => by
    unfold solid at h
    cases v with
    | loc _ => cases h
    | tup xs => exact z_tup (solid_all solid_ok h)
    | lst xs => exact z_lst (solid_all solid_ok h)
    | dct ks vs => exact z_dct (solid_all solid_ok h)
    | lnt ks vs => exact z_lnt (solid_all solid_ok h)
    | obj _ _ xs => exact z_obj (solid_all solid_ok h)
    | _ => rfl
theorem iso_ok {f : List PV → Hs → RE} {S1 : Hs} (ha : vs.all (solid dpF) = true) (h : f vs [] = .ok v S1) (hv : solid dpF v = true) : isoC f vs S = .ok v S := by
  have e : ∀ S0 : Hs, endC S0 (.ok v S1) = .ok v S0 := fun S0 => by
    unfold endC
    split
    · rename_i h1; cases h1; rfl
    · rename_i h1; cases h1; rw [solid_ok v hv]
    · rename_i h1; cases h1
    · rename_i h1; cases h1
    · rename_i h1; cases h1
  unfold isoC
  rw [solid_all solid_ok ha]
  simp only [h, e]
  split <;> rfl
end
end MP
set_option maxRecDepth 100000
namespace MP
open PySem L2
theorem fetch_rng {S : Hs} {lo : Int} {n i : Nat} : fetch S i (.rng lo n) = if i < n then some (some (.int (lo + (i : Int)))) else some none := rfl
theorem for_run {d : Desc} {tgt : TgF} {body : Loc → Hs → RS} {n : Nat} (P : Nat → Loc → Hs → Prop) (step : ∀ i L S, i < n → P i L S → ∃ v L1 S1 L2 S2, fetch S i d = some (some v) ∧ tgt v L S = .nx L1 S1 ∧ body L1 S1 = .nx L2 S2 ∧ P (i + 1) L2 S2)
    (stop : ∀ L S, P n L S → fetch S n d = some none) : ∀ (k fuel i : Nat) (L : Loc) (S : Hs), i + k = n → k < fuel → P i L S → ∃ L' S', forLoop d tgt body fuel i L S = .nx L' S' ∧ P n L' S'
  | _, 0, _, _, _, _, h, _ => absurd h (Nat.not_lt_zero _)
  | 0, fuel + 1, i, L, S, hi, _, p => by
    have e : i = n := by omega
    subst e
    rw [forLoop, stop L S p]
    exact ⟨L, S, rfl, p⟩
  | k + 1, fuel + 1, i, L, S, hi, hf, p => by
    obtain ⟨v, L1, S1, L2, S2, e1, e2, e3, p'⟩ := step i L S (by omega) p
    rw [forLoop, e1]
    simp only [e2, e3]
    exact for_run P step stop k fuel (i + 1) L2 S2 (by omega) (by omega) p'
theorem for_ok {src : Loc → Hs → RI} {d : Desc} {tgt : TgF} {body : Loc → Hs → RS} {n : Nat} {L : Loc} {S S1 : Hs} (P : Nat → Loc → Hs → Prop) (hs : src L S = .ok d S1) (step : ∀ i L S, i < n → P i L S → ∃ v L1 S1 L2 S2, fetch S i d = some (some v) ∧ tgt v L S = .nx L1 S1 ∧ body L1 S1 = .nx L2 S2 ∧ P (i + 1) L2 S2)
    (stop : ∀ L S, P n L S → fetch S n d = some none) (hn : n < 1000000000) (p : P 0 L S1) : ∃ L' S', forS src tgt body L S = .nx L' S' ∧ P n L' S' := by
  obtain ⟨L', S', e, q⟩ := for_run P step stop n turns 0 L S1 (by omega) (by unfold turns; exact hn) p
  refine ⟨L', S', ?_, q⟩
  unfold forS
  rw [hs]
  exact e
section
variable {S : Hs} {xs : List PV} {v : PV} {i j : Int}
theorem v_gt : ordV (fun i j => decide (j < i)) (.int i) (.int j) S = .ok (.bl (decide (j < i))) S := rfl
theorem v_ge : ordV (fun i j => decide (j ≤ i)) (.int i) (.int j) S = .ok (.bl (decide (j ≤ i))) S := rfl
theorem v_int1 : intV1 [.int i] S = .ok (.int i) S := rfl
theorem v_lenS {T : Tab} {c : CmpT} {ns : List Int} : lenD T c [.scr ns] S = .ok (.int ns.length) S := by
  show RE.ok (.int ((ns.map PV.int).length : Nat)) S = _
  rw [List.length_map]
theorem mulOk_of {i j : Int} {a b : Nat} (hi : i.natAbs < 2 ^ a) (hj : j.natAbs < 2 ^ b) (ha : 0 < a) (hb : 0 < b) (h : a + b < 1000000) : mulOk i j = true := by
  unfold mulOk
  rw [decide_eq_true_eq]
  have key : ∀ n k : Nat, n < 2 ^ k → 0 < k → n.log2 < k := fun n k hn hk => by
    by_cases e : n = 0
    · subst e; simpa using hk
    · exact (Nat.log2_lt e).mpr hn
  have := key _ _ hi ha
  have := key _ _ hj hb
  omega
theorem log2_of {n k : Nat} (hn : n < 2 ^ k) (hk : 0 < k) : n.log2 < k := by
  by_cases e : n = 0
  · subst e; simpa using hk
  · exact (Nat.log2_lt e).mpr hn
end
end MP
set_option maxRecDepth 100000
set_option maxRecDepth 100000
set_option maxRecDepth 100000
namespace MP
open PySem L2
def keyL : PV → Key
  | .int i => .inl i
  | .str s => .inr ⟨s.toArray⟩
  | _ => .inl 0
theorem str_eq (s t : List Nat) : (s == t) = decide ((⟨s.toArray⟩ : Str) = ⟨t.toArray⟩) := by
  by_cases h : s = t
  · subst h; simp
  · have : ¬ ((⟨s.toArray⟩ : Str) = ⟨t.toArray⟩) := fun e => h (by have := congrArg (fun z : Str => z.cps.toList) e; simpa using this)
    rw [decide_eq_false this]
    exact beq_eq_false_iff_ne.mpr h
theorem flat_eq {a b : PV} (ha : isFlat a = true) (hb : isFlat b = true) : eqF a b = NestedKey.beq (flatK a) (flatK b) := by
  cases a <;> first | (cases ha; done) | skip
  all_goals cases b <;> first | (cases hb; done) | skip
  all_goals first
    | rfl
    | (simp only [eqF, flatK, NestedKey.beq]; exact Bool.beq_eq_decide_eq _ _)
    | (simp only [eqF, flatK, NestedKey.beq]; exact str_eq _ _)
    | skip
  rename_i x y
  cases x <;> cases y <;> rfl
theorem keyEq_flat {a b : PV} {n : Nat} (ha : isFlat a = true) : keyEq n a b = eqF a b := by
  cases n with
  | zero => rfl
  | succ n => cases a <;> first | (cases ha; done) | rfl
theorem toKey_flat {a : PV} {n : Nat} (ha : isFlat a = true) : toKey n a = flatK a := by
  cases n with
  | zero => rfl
  | succ n => cases a <;> first | (cases ha; done) | rfl
theorem isKey_cases {n : Nat} {a : PV} (h : isKey n a = true) : isFlat a = true ∨ ∃ k xs, n = k + 1 ∧ a = .tup xs ∧ xs.all (isKey k) = true := by
  cases n with
  | zero => exact .inl h
  | succ n =>
    unfold isKey at h
    split at h
    · exact .inr ⟨n, _, rfl, rfl, h⟩
    · exact .inl h
theorem eqAll_keys {n : Nat} (ih : ∀ {a b : PV}, isKey n a = true → isKey n b = true → keyEq n a b = NestedKey.beq (toKey n a) (toKey n b)) :
    ∀ {xs ys : List PV}, xs.all (isKey n) = true → ys.all (isKey n) = true → eqAll (keyEq n) xs ys = NestedKey.beqAll (xs.map (toKey n)) (ys.map (toKey n))
  | [], [], _, _ => rfl
  | [], _ :: _, _, _ => rfl
  | _ :: _, [], _, _ => rfl
  | x :: xs, y :: ys, hx, hy => by
    rw [List.all_cons, Bool.and_eq_true] at hx hy
    rw [List.map_cons, List.map_cons, NestedKey.beqAll, eqAll, ih hx.1 hy.1, eqAll_keys ih hx.2 hy.2]
theorem flat_tup {a : PV} {xs : List PV} (ha : isFlat a = true) : eqF a (.tup xs) = false ∧ (∀ ks, NestedKey.beq (flatK a) (.tup ks) = false) ∧ ∀ ks, NestedKey.beq (.tup ks) (flatK a) = false := by
  cases a <;> first | (cases ha; done) | exact ⟨rfl, fun _ => rfl, fun _ => rfl⟩
theorem key_eq : ∀ {n : Nat} {a b : PV}, isKey n a = true → isKey n b = true → keyEq n a b = NestedKey.beq (toKey n a) (toKey n b)
  | n, a, b, ha, hb => by
    rcases isKey_cases ha with fa | ⟨k, xs, rfl, rfl, hx⟩
    · rcases isKey_cases hb with fb | ⟨k, ys, rfl, rfl, hy⟩
      · rw [keyEq_flat fa, toKey_flat fa, toKey_flat fb, flat_eq fa fb]
      · rw [keyEq_flat fa, toKey_flat fa, (flat_tup (xs := ys) fa).1]
        exact ((flat_tup (xs := ys) fa).2.1 _).symm
    · rcases isKey_cases hb with fb | ⟨k2, ys, e, rfl, hy⟩
      · rw [toKey_flat fb]
        have : keyEq (k + 1) (.tup xs) b = false := by cases b <;> first | (cases fb; done) | rfl
        rw [this]
        exact ((flat_tup (xs := xs) fb).2.2 _).symm
      · cases e
        show eqAll (keyEq k) xs ys = NestedKey.beqAll _ _
        exact eqAll_keys (fun ha hb => key_eq ha hb) hx hy
theorem key_eqD {n : Nat} {a b : PV} (ha : isKey n a = true) (hb : isKey n b = true) : keyEq n a b = decide (toKey n a = toKey n b) := by
  rw [key_eq ha hb, NestedKey.decide_eq]
theorem k1_flat {a : PV} (h : isK1 a = true) : isFlat a = true := by cases a <;> first | (cases h; done) | rfl
theorem k1_eq {a b : PV} (ha : isK1 a = true) (hb : isK1 b = true) : keyEq kd a b = decide (keyL a = keyL b) := by
  rw [keyEq_flat (k1_flat ha)]
  cases a <;> first | (cases ha; done) | skip
  all_goals cases b <;> first | (cases hb; done) | skip
  · exact (key_ll _ _).symm
  · exact (key_lr _ _).symm
  · exact (key_rl _ _).symm
  · exact (str_eq _ _).trans (key_rr _ _).symm
theorem depth_all {n : Nat} : ∀ {xs : List PV}, (∀ x ∈ xs, (toKey n x).depth ≤ n) → NestedKey.depthAll (xs.map (toKey n)) ≤ n
  | [], _ => by simp [NestedKey.depthAll]
  | x :: xs, h => by
    have h1 := h x List.mem_cons_self
    have h2 := depth_all (n := n) fun y hy => h y (List.mem_cons_of_mem _ hy)
    rw [List.map_cons]
    simp only [NestedKey.depthAll]
    omega
theorem key_depth : ∀ {n : Nat} {a : PV}, (toKey n a).depth ≤ n
  | 0, a => by cases a <;> simp [toKey, flatK, NestedKey.depth]
  | n + 1, a => by
    cases a with
    | tup xs =>
      have := depth_all (n := n) (xs := xs) fun x _ => key_depth
      show (NestedKey.tup _).depth ≤ n + 1
      simp only [NestedKey.depth]
      omega
    | _ => simp [toKey, flatK, NestedKey.depth]
section
variable {Z : Sta} {W : WX} {σ : L2.St} {H H1 : Hp} {m m1 m2 : Mp} {X : Cx} {S : Hs} {x y : V} {a : Addr} {lv g k f : Nat} {T : Tab} {pins : List (Addr × Obj)} {s : Shared} {Q : VK} {c : CmpT} {es : List (Int × V × V)} {ks vs : List PV}
theorem k1_V {p : PV} (h : isK1 p = true) (r : RV Z H m p x) : x = kV (keyL p) := by
  cases p <;> first | (cases h; done) | skip
  · exact rv_int r
  · exact (rv_str r).1
theorem k1_hash {p : PV} (h : isK1 p = true) : hashK Z p = keyH Z.w (keyL p) := by
  unfold hashK
  rw [toKey_flat (k1_flat h)]
  cases p <;> first | (cases h; done) | rfl
theorem kV_is' {k : Key} {u : Value} (r : RelV (kV k) u) : keyIs k u = true := by
  cases k with
  | inl i => obtain ⟨t, rfl⟩ := (show ∃ t, u = Value.int i t from r); exact keyIs_int i t
  | inr z => obtain ⟨t, rfl⟩ := (show ∃ t, u = Value.str z t from r); exact keyIs_str z t
theorem kV_of {k : Key} {u : Value} (h : keyIs k u = true) : RelV (kV k) u := by
  rcases keyIs_shape h with ⟨i, t, rfl, rfl⟩ | ⟨z, t, rfl, rfl⟩
  · exact ⟨t, rfl⟩
  · exact ⟨t, rfl⟩
theorem flat_is {p : PV} {u : Value} {h : Heap} (hf : isFlat p = true) (r : RV Z H m p x) (ru : RelV x u) : NestedIs h (flatK p) u := by
  cases p <;> first | (cases hf; done) | skip
  · unfold RV at r; subst r; cases ru; exact .none
  · unfold RV at r; subst r; cases ru; exact .bool rfl
  · cases rv_int r; obtain ⟨t, rfl⟩ := ru; exact .int _ t
  · obtain ⟨rfl, _⟩ := rv_str r; obtain ⟨t, rfl⟩ := ru; exact .text _ t
theorem keys_is (I : Inv X pins σ H s) (hK : X.K = Z.K) {n : Nat} (ih : ∀ {p : PV} {x : V} {u : Value}, isKey n p = true → RV Z H m p x → RelV x u → NestedIs s.heap (toKey n p) u) :
    ∀ {ps : List PV} {xs : List V} {us : List Value}, ps.all (isKey n) = true → RVs Z H m ps xs → Vals xs us → NestedAll s.heap (ps.map (toKey n)) us
  | [], _, _, _, r, v => by unfold RVs at r; subst r; cases v; exact .nil
  | p :: ps, _, _, h, r, v => by
    unfold RVs at r
    obtain ⟨y, t, rfl, r1, r2⟩ := r
    rw [List.all_cons, Bool.and_eq_true] at h
    cases v with
    | cons v1 v2 => exact .cons (ih h.1 r1 v1) (keys_is I hK ih h.2 r2 v2)
theorem key_is (I : Inv X pins σ H s) (hK : X.K = Z.K) : ∀ {n : Nat} {p : PV} {x : V} {u : Value}, isKey n p = true → RV Z H m p x → RelV x u → NestedIs s.heap (toKey n p) u
  | n, p, x, u, h, r, ru => by
    rcases isKey_cases h with fp | ⟨k, xs, rfl, rfl, hx⟩
    · rw [toKey_flat fp]
      exact flat_is fp r ru
    · obtain ⟨a, ys, rfl, hq, rr⟩ := rv_tup r
      cases (show u = Value.ref a from ru)
      obtain ⟨its, vi, ⟨o, h1, h2, n, h3⟩, _⟩ := I.tuple (by rw [hK]; exact hq)
      exact .tup h1 h2 h3 (by simpa using keys_is I hK (fun h r ru => key_is I hK h r ru) hx rr vi)
def DRd (Z : Sta) (H : Hp) (a : Addr) (es : List (Int × V × V)) : Prop := Hdc H a es ∨
  ((a == sysModules) = false ∧ ∃ (o : Obj) (ds : Array DictEntry) (ep : Nat), Z.K.lookup a = some o ∧ o.ExactDict ∧ o.data = .dict ds ep ∧ Paired EntR es ds.toList)
theorem DAt.rd (d : DAt Z H m a es) : DRd Z H a es := d.elim (fun h => .inl h.2) .inr
theorem DRd.raw (I : Inv X pins σ H s) (hK : X.K = Z.K) (d : DRd Z H a es) : (a == sysModules) = false ∧ ∃ (o : Obj) (ds : Array DictEntry) (ep : Nat), s.heap.get? a = some o ∧ o.ExactDict ∧ o.data = .dict ds ep ∧ Paired EntR es ds.toList := by
  rcases d with d | ⟨h, o, ds, ep, h1, h2⟩
  · exact dO_at I.hok d
  · exact ⟨h, o, ds, ep, I.kIn a o (by rw [hK]; exact h1), h2⟩
structure DcR (Z : Sta) (H : Hp) (m : Mp) (a : Addr) (es : List (Int × V × V)) (ks vs : List PV) : Prop where
  rd : DRd Z H a es
  kb : keysB ks = true
  hs : es.map (·.1) = ks.map (hashK Z)
  ks : RVs Z H m ks (es.map (·.2.1))
  vs : RVs Z H m vs (es.map (·.2.2))
theorem dctOf_ok (sr : SRel Z H m S) {v : PV} (r : RV Z H m v x) (h : dctOf S v = some (ks, vs)) : ∃ a es, x = .ref a ∧ DcR Z H m a es ks vs := by
  unfold dctOf at h
  split at h
  · cases h
    unfold RV at r
    obtain ⟨a, es, rfl, hq, h1, h2, h3, h4⟩ := r
    exact ⟨a, es, rfl, hq.rd, h1, h2, h3, h4⟩
  · cases h
    unfold RV at r
    obtain ⟨a, ep, es, rfl, hq, h1, h2, h3, h4⟩ := r
    exact ⟨a, es, rfl, .inl ⟨ep, (sr.lnt _ hq).2⟩, h1, h2, h3, h4⟩
  · split at h
    · rename_i n _ _ e
      cases h
      unfold RV at r
      obtain ⟨a, ea, rfl⟩ := r
      obtain ⟨b, eb, es, hq, h1, h2, h3, h4⟩ := sr.at_ e
      rw [ea] at eb
      cases eb
      exact ⟨a, es, rfl, .inl hq, h1, h2, h3, h4⟩
    · cases h
  · cases h
theorem raw_flat (hw : X.w = Z.w) : ∀ {es : List (Int × V × V)} {ds : List DictEntry} {ks : List PV}, Paired EntR es ds → es.map (·.1) = ks.map (hashK Z) → RVs Z H m ks (es.map (·.2.1)) → ks.all isK1 = true →
    ∃ ws : List Value, Vals (es.map (·.2.2)) ws ∧ Pairs (mixKind X.prog X.w) ds ((ks.map keyL).zip ws) ∧ (∀ e ∈ ds, ∃ k, (mixKind X.prog X.w).is k e.key = true ∧ e.hash = (mixKind X.prog X.w).hash k) ∧ ws.length = ks.length
  | [], _, ks, .nil, hh, r, _ => by
    cases ks with
    | nil => exact ⟨[], .nil, .nil, fun _ h => (nomatch h), rfl⟩
    | cons _ _ => cases hh
  | e :: es, d :: ds, ks, .cons ⟨e1, e2, e3⟩ pr, hh, r, hk => by
    cases ks with
    | nil => cases hh
    | cons k ks =>
      rw [List.map_cons, List.map_cons] at hh
      injection hh with h1 h2
      rw [List.map_cons] at r
      unfold RVs at r
      obtain ⟨y, t, ey, r1, r2⟩ := r
      injection ey with ey1 ey2
      subst ey1 ey2
      rw [List.all_cons, Bool.and_eq_true] at hk
      obtain ⟨ws, w1, w2, w3, w4⟩ := raw_flat hw pr h2 r2 hk.2
      have q : keyIs (keyL k) d.key = true := kV_is' (by rw [← k1_V hk.1 r1]; exact e2)
      refine ⟨d.val :: ws, .cons e3 w1, .cons q rfl w2, fun e he => ?_, by simp [w4]⟩
      rcases List.mem_cons.mp he with rfl | he
      · exact ⟨keyL k, q, by rw [e1, h1, k1_hash hk.1, ← hw]; rfl⟩
      · exact w3 e he
theorem raw_tup (I : Inv X pins σ H s) (hK : X.K = Z.K) (hw : X.w = Z.w) : ∀ {es : List (Int × V × V)} {ds : List DictEntry} {ks : List PV}, Paired EntR es ds → es.map (·.1) = ks.map (hashK Z) → RVs Z H m ks (es.map (·.2.1)) → ks.all isTup = true → ks.all (isKey kd) = true →
    ∃ (ws : List Value) (xs : List (NestedKey × Addr × Value)), Vals (es.map (·.2.2)) ws ∧ ds = xs.map (entryOfKey (nestedKind X.prog X.w)) ∧ (∀ x ∈ xs, (nestedKind X.prog X.w).is s.heap x.1 x.2.1) ∧ xs.map (·.1) = ks.map (toKey kd) ∧ xs.map (·.2.2) = ws ∧ es.map (·.2.1) = xs.map (fun x => V.ref x.2.1)
  | [], _, ks, .nil, hh, r, _, _ => by
    cases ks with
    | nil => exact ⟨[], [], .nil, rfl, fun _ h => (nomatch h), rfl, rfl, rfl⟩
    | cons _ _ => cases hh
  | e :: es, d :: ds, ks, .cons ⟨e1, e2, e3⟩ pr, hh, r, ht, hk => by
    cases ks with
    | nil => cases hh
    | cons k ks =>
      rw [List.map_cons, List.map_cons] at hh
      injection hh with h1 h2
      rw [List.map_cons] at r
      unfold RVs at r
      obtain ⟨y, t, ey, r1, r2⟩ := r
      injection ey with ey1 ey2
      subst ey1 ey2
      rw [List.all_cons, Bool.and_eq_true] at ht hk
      obtain ⟨ws, xs, w1, w2, w3, w4, w5, w6⟩ := raw_tup I hK hw pr h2 r2 ht.2 hk.2
      have q := key_is I hK hk.1 r1 e2
      cases k with
      | tup ls =>
        obtain ⟨b, zs, eb, hq, rr⟩ := rv_tup r1
        rw [eb] at e2
        have ek : d.key = Value.ref b := e2
        rw [ek] at q
        refine ⟨d.val :: ws, (toKey kd (.tup ls), b, d.val) :: xs, .cons e3 w1, ?_, fun x hx => ?_, by rw [List.map_cons, List.map_cons, w4], by rw [List.map_cons, w5], by rw [List.map_cons, List.map_cons, w6, eb]⟩
        · rw [List.map_cons, ← w2]
          obtain ⟨dh, dk, dv⟩ := d
          simp only at e1 ek
          subst ek
          rw [e1, h1]
          unfold hashK
          rw [← hw]
          rfl
        · rcases List.mem_cons.mp hx with rfl | hx
          · exact ⟨q, key_depth⟩
          · exact w3 x hx
      | _ => cases ht.1
theorem dist_nodup {κ : Type} {f : PV → κ} [DecidableEq κ] : ∀ {ks : List PV}, (∀ a ∈ ks, ∀ b ∈ ks, keyEq kd a b = decide (f a = f b)) → dist ks = true → (ks.map f).Nodup
  | [], _, _ => List.nodup_nil
  | k :: ks, h, hd => by
    unfold dist at hd
    rw [Bool.and_eq_true] at hd
    rw [List.map_cons, List.nodup_cons]
    refine ⟨fun hm => ?_, dist_nodup (fun a ha b hb => h a (List.mem_cons_of_mem _ ha) b (List.mem_cons_of_mem _ hb)) hd.2⟩
    obtain ⟨j, hj, e⟩ := List.mem_map.mp hm
    have := List.all_eq_true.mp hd.1 j hj
    rw [h k List.mem_cons_self j (List.mem_cons_of_mem _ hj), decide_eq_true e.symm] at this
    cases this
theorem keysB_parts (h : keysB ks = true) : ks.all (isKey kd) = true ∧ dist ks = true ∧ (ks.all isK1 = true ∨ ks.all isTup = true) := by
  unfold keysB at h
  rw [Bool.and_eq_true, Bool.and_eq_true, Bool.or_eq_true] at h
  exact ⟨h.1.1, h.1.2, h.2⟩
theorem DcR.flat (d : DcR Z H m a es ks vs) (I : Inv X pins σ H s) (hK : X.K = Z.K) (hw : X.w = Z.w) (hk : ks.all isK1 = true) :
    (a == sysModules) = false ∧ ∃ ws : List Value, Vals (es.map (·.2.2)) ws ∧ ws.length = ks.length ∧ s.heap.DictOf (mixKind X.prog X.w) a ((ks.map keyL).zip ws) := by
  obtain ⟨h0, o, ds, ep, h1, h2, h3, h4⟩ := d.rd.raw I hK
  obtain ⟨ws, w1, w2, w3, w4⟩ := raw_flat (X := X) hw h4 d.hs d.ks hk
  refine ⟨h0, ws, w1, w4, o, ds, ep, h1, h2, h3, fun e he => w3 e (by simpa using he), w2, ?_⟩
  rw [List.map_fst_zip (by rw [List.length_map, w4]; exact Nat.le_refl _)]
  have ha := List.all_eq_true.mp hk
  exact dist_nodup (fun a h b h' => k1_eq (ha a h) (ha b h')) (keysB_parts d.kb).2.1
theorem DcR.tup (d : DcR Z H m a es ks vs) (I : Inv X pins σ H s) (hK : X.K = Z.K) (hw : X.w = Z.w) (hk : ks.all isTup = true) :
    (a == sysModules) = false ∧ ∃ (ws : List Value) (xs : List (NestedKey × Addr × Value)), Vals (es.map (·.2.2)) ws ∧ s.heap.DictOfH (nestedKind X.prog X.w) a xs ∧ xs.map (·.1) = ks.map (toKey kd) ∧ xs.map (·.2.2) = ws ∧ es.map (·.2.1) = xs.map (fun x => V.ref x.2.1) := by
  obtain ⟨h0, o, ds, ep, h1, h2, h3, h4⟩ := d.rd.raw I hK
  obtain ⟨p1, p2, p3⟩ := keysB_parts d.kb
  obtain ⟨ws, xs, w1, w2, w3, w4, w5, w6⟩ := raw_tup I hK hw h4 d.hs d.ks hk p1
  refine ⟨h0, ws, xs, w1, ⟨o, ds, ep, h1, h2, h3, w2, w3, ?_⟩, w4, w5, w6⟩
  rw [w4]
  have ha := List.all_eq_true.mp p1
  exact dist_nodup (fun a h b h' => key_eqD (ha a h) (ha b h')) p2
def Fnd (Z : Sta) (H : Hp) (m : Mp) (r : Option PV) (o : Option Value) : Prop := match r with
  | none => o = none
  | some v => ∃ x w, o = some w ∧ RV Z H m v x ∧ RelV x w
theorem find_zip {κ : Type} [DecidableEq κ] {f : PV → κ} {j : PV} : ∀ {ks vs : List PV} {xs : List V} {ws : List Value}, (∀ a ∈ ks, keyEq kd a j = decide (f a = f j)) → RVs Z H m vs xs → Vals xs ws → ws.length = ks.length →
    Fnd Z H m (findK ks vs j) (valueAt ((ks.map f).zip ws) (f j))
  | [], _, _, _, _, _, _, _ => rfl
  | k :: ks, vs, xs, ws, h, r, v, hl => by
    cases ws with
    | nil => cases hl
    | cons w ws =>
      cases v with
      | @cons x _ xs _ v1 v2 =>
        cases vs with
        | nil => unfold RVs at r; cases r
        | cons p vs =>
          unfold RVs at r
          obtain ⟨y, t, e, r1, r2⟩ := r
          cases e
          unfold findK
          rw [h k List.mem_cons_self]
          by_cases e : f k = f j
          · rw [if_pos (decide_eq_true e)]
            exact ⟨_, _, by simp [valueAt, e], r1, v1⟩
          · rw [decide_eq_false e, if_neg Bool.false_ne_true]
            have := find_zip (f := f) (j := j) (fun a ha => h a (List.mem_cons_of_mem _ ha)) r2 v2 (by simpa using hl)
            have e2 : valueAt (((k :: ks).map f).zip (w :: ws)) (f j) = valueAt ((ks.map f).zip ws) (f j) := by simp [valueAt, e]
            rw [e2]
            exact this
theorem kind_cases {k : PV} (kb : keysB ks = true) (h : kindOk ks k = true) : (ks.all isK1 = true ∧ isK1 k = true) ∨ (ks.all isTup = true ∧ isTup k = true ∧ isKey kd k = true) := by
  obtain ⟨p1, p2, p3⟩ := keysB_parts kb
  cases ks with
  | nil =>
    unfold kindOk at h
    rw [Bool.or_eq_true, Bool.and_eq_true] at h
    rcases h with h | h
    · exact .inl ⟨rfl, h⟩
    · exact .inr ⟨rfl, h⟩
  | cons j ks =>
    unfold kindOk at h
    rw [Bool.or_eq_true, Bool.and_eq_true, Bool.and_eq_true, Bool.and_eq_true] at h
    rcases h with h | h
    · refine .inl ⟨?_, h.2⟩
      rcases p3 with p | p
      · exact p
      · rw [List.all_cons, Bool.and_eq_true] at p
        cases j <;> first | (cases h.1; done) | (cases p.1; done)
    · refine .inr ⟨?_, h.2⟩
      rcases p3 with p | p
      · rw [List.all_cons, Bool.and_eq_true] at p
        cases j <;> first | (cases h.1; done) | (cases p.1; done)
      · exact p
theorem valueAt_atKey {xs : List (NestedKey × Addr × Value)} {k : NestedKey} {ls : List NestedKey} {ws : List Value} (e1 : xs.map (·.1) = ls) (e2 : xs.map (·.2.2) = ws) : (atKey xs k).map (·.2) = valueAt (ls.zip ws) k := by
  rw [← valueAt_pairsH]
  subst e1 e2
  congr 1
  unfold pairsH
  induction xs with
  | nil => rfl
  | cons x xs ih => simp [ih]
theorem DcR.find (d : DcR Z H m a es ks vs) (I : Inv X pins σ H s) (hK : X.K = Z.K) (hw : X.w = Z.w) {j : PV} {y : V} {u : Value} (hj : kindOk ks j = true) (rj : RV Z H m j y) (ru : RelV y u) :
    (a == sysModules) = false ∧ ((ks.all isK1 = true ∧ isK1 j = true ∧ ∃ kvs, s.heap.DictOf (mixKind X.prog X.w) a kvs ∧ keyIs (keyL j) u = true ∧ kvs.length = ks.length ∧ Fnd Z H m (findK ks vs j) (valueAt kvs (keyL j))) ∨
      (ks.all isTup = true ∧ isTup j = true ∧ ∃ xs b, s.heap.DictOfH (nestedKind X.prog X.w) a xs ∧ u = .ref b ∧ (nestedKind X.prog X.w).is s.heap (toKey kd j) b ∧ xs.length = ks.length ∧ Fnd Z H m (findK ks vs j) ((atKey xs (toKey kd j)).map (·.2)))) := by
  rcases kind_cases d.kb hj with ⟨hk, h1⟩ | ⟨hk, h1, h2⟩
  · obtain ⟨h0, ws, w1, w2, w3⟩ := d.flat I hK hw hk
    have ha := List.all_eq_true.mp hk
    refine ⟨h0, .inl ⟨hk, h1, _, w3, kV_is' (by rw [← k1_V h1 rj]; exact ru), by rw [List.length_zip, List.length_map, w2, Nat.min_self], ?_⟩⟩
    exact find_zip (fun a h => k1_eq (ha a h) h1) d.vs w1 w2
  · obtain ⟨h0, ws, xs, w1, w2, w3, w4, w5⟩ := d.tup I hK hw hk
    have ha := List.all_eq_true.mp (keysB_parts d.kb).1
    cases j with
    | tup ls =>
      obtain ⟨b, zs, eb, hq, rr⟩ := rv_tup rj
      subst eb
      cases (show u = Value.ref b from ru)
      have hl : xs.length = ks.length := by have := congrArg List.length w3; simpa using this
      refine ⟨h0, .inr ⟨hk, h1, xs, b, w2, rfl, ⟨key_is I hK h2 rj ru, key_depth⟩, hl, ?_⟩⟩
      rw [valueAt_atKey w3 w4]
      exact find_zip (fun a h => key_eqD (ha a h) h2) d.vs w1 (by rw [← w4, List.length_map, hl])
    | _ => cases h1
end
end MP
set_option maxRecDepth 100000
namespace MP
open PySem L2
theorem ixK_none {j : PV} : ∀ {ks : List PV}, ixK ks j = none → ∀ k ∈ ks, keyEq kd k j = false
  | [], _ => fun _ h => nomatch h
  | k :: ks, h => by
    unfold ixK at h
    split at h
    · cases h
    · rename_i hk
      intro a ha
      rcases List.mem_cons.mp ha with rfl | ha
      · simpa using hk
      · refine ixK_none (ks := ks) ?_ a ha
        cases e : ixK ks j with
        | none => rfl
        | some i => rw [e] at h; cases h
theorem ixK_some {j : PV} : ∀ {ks : List PV} {i : Nat}, ixK ks j = some i → ∃ k, ks[i]? = some k ∧ keyEq kd k j = true
  | [], i, h => by cases h
  | k :: ks, i, h => by
    unfold ixK at h
    split at h
    · rename_i hk
      cases h
      exact ⟨k, rfl, hk⟩
    · cases e : ixK ks j with
      | none => rw [e] at h; cases h
      | some i' =>
        rw [e] at h
        cases h
        obtain ⟨k2, h1, h2⟩ := ixK_some e
        exact ⟨k2, by simpa using h1, h2⟩
theorem map_at {κ : Type} [DecidableEq κ] {β : Type} {k : κ} {w : β} : ∀ {ls : List κ} {ws : List β} {i : Nat}, ls.Nodup → ls[i]? = some k → (ls.zip ws).map (fun kv => if kv.1 = k then (kv.1, w) else kv) = ls.zip (ws.set i w)
  | [], _, _, _, h => by simp at h
  | l :: ls, [], _, _, _ => by simp
  | l :: ls, v :: ws, 0, hn, h => by
    simp only [List.getElem?_cons_zero, Option.some.injEq] at h
    subst h
    rw [List.nodup_cons] at hn
    rw [List.zip_cons_cons, List.map_cons, if_pos rfl, List.set_cons_zero, List.zip_cons_cons]
    congr 1
    rw [List.map_congr_left (g := id)]
    · simp
    · intro a ha
      rw [if_neg]
      · rfl
      · rintro rfl
        obtain ⟨a1, a2⟩ := a
        exact hn.1 (List.of_mem_zip ha).1
  | l :: ls, v :: ws, i + 1, hn, h => by
    rw [List.nodup_cons] at hn
    rw [List.getElem?_cons_succ] at h
    have hne : ¬ l = k := fun e => hn.1 (e ▸ List.mem_of_getElem? h)
    rw [List.zip_cons_cons, List.map_cons, if_neg hne, List.set_cons_succ, List.zip_cons_cons, map_at hn.2 h]
theorem any_zip {κ : Type} [DecidableEq κ] {β : Type} {k : κ} {ls : List κ} {ws : List β} (hl : ws.length = ls.length) : ((ls.zip ws).any fun kv => decide (kv.1 = k)) = decide (k ∈ ls) := by
  have e : (ls.zip ws).map (·.1) = ls := List.map_fst_zip (by rw [hl]; exact Nat.le_refl _)
  have : ((ls.zip ws).any fun kv => decide (kv.1 = k)) = (((ls.zip ws).map (·.1)).any fun a => decide (a = k)) := by rw [List.any_map]; rfl
  rw [this, e]
  rw [Bool.eq_iff_iff, List.any_eq_true, decide_eq_true_eq]
  constructor
  · rintro ⟨a, ha, h⟩; rw [← of_decide_eq_true h]; exact ha
  · intro h; exact ⟨k, h, decide_eq_true rfl⟩
theorem stored_zip {κ : Type} [DecidableEq κ] {f : PV → κ} {j : PV} {w : Value} {ks : List PV} {ws : List Value} (hn : (ks.map f).Nodup) (he : ∀ a ∈ ks, keyEq kd a j = decide (f a = f j)) (hl : ws.length = ks.length) :
    stored ((ks.map f).zip ws) (f j) w = ((putKs ks j).map f).zip (putVs ks j ws w) := by
  unfold stored putKs putVs
  rw [any_zip (by rw [hl, List.length_map])]
  cases e : ixK ks j with
  | none =>
    have : f j ∉ ks.map f := fun h => by
      obtain ⟨a, ha, h2⟩ := List.mem_map.mp h
      have := ixK_none e a ha
      rw [he a ha, decide_eq_true h2] at this
      cases this
    rw [decide_eq_false this, if_neg Bool.false_ne_true]
    simp only [List.map_append, List.map_cons, List.map_nil]
    rw [List.zip_append (by rw [hl, List.length_map])]
    rfl
  | some i =>
    obtain ⟨k, h1, h2⟩ := ixK_some e
    rw [he k (List.mem_of_getElem? h1)] at h2
    have h3 : (ks.map f)[i]? = some (f j) := by rw [List.getElem?_map, h1]; simp [of_decide_eq_true h2]
    rw [decide_eq_true (List.mem_of_getElem? h3), if_pos rfl]
    exact map_at hn h3
theorem put_keysB {ks : List PV} {j : PV} (kb : keysB ks = true) (hj : kindOk ks j = true) : keysB (putKs ks j) = true := by
  unfold putKs
  cases e : ixK ks j with
  | some i => exact kb
  | none =>
    obtain ⟨p1, p2, p3⟩ := keysB_parts kb
    have hd : ∀ {ls : List PV}, (∀ k ∈ ls, keyEq kd k j = false) → dist ls = true → dist (ls ++ [j]) = true := by
      intro ls
      induction ls with
      | nil => intro _ _; rfl
      | cons l ls ih =>
        intro h hd
        unfold dist at hd
        rw [Bool.and_eq_true] at hd
        show dist (l :: (ls ++ [j])) = true
        unfold dist
        rw [Bool.and_eq_true, List.all_append, Bool.and_eq_true]
        refine ⟨⟨hd.1, ?_⟩, ih (fun k hk => h k (List.mem_cons_of_mem _ hk)) hd.2⟩
        simp [h l List.mem_cons_self]
    unfold keysB
    rw [Bool.and_eq_true, Bool.and_eq_true, Bool.or_eq_true]
    rcases kind_cases kb hj with ⟨h1, h2⟩ | ⟨h1, h2, h3⟩
    · refine ⟨⟨?_, hd (ixK_none e) p2⟩, .inl ?_⟩
      · simp only
        rw [List.all_append, p1]
        simp only [List.all_cons, List.all_nil, Bool.and_true, Bool.true_and]
        cases j <;> first | (cases h2; done) | rfl
      · simp only
        rw [List.all_append, h1]
        simp [h2]
    · refine ⟨⟨?_, hd (ixK_none e) p2⟩, .inr ?_⟩
      · simp only
        rw [List.all_append, p1]
        simp [h3]
      · simp only
        rw [List.all_append, h1]
        simp [h2]
section
variable {Z : Sta} {W : WX} {σ : L2.St} {H H1 : Hp} {m m1 m2 : Mp} {X : Cx} {S : Hs} {x y : V} {a : Addr} {lv g k f : Nat} {T : Tab} {pins : List (Addr × Obj)} {s : Shared} {Q : VK} {c : CmpT} {es : List (Int × V × V)} {ks vs : List PV}
theorem RVs.putVs {v : PV} {j : PV} {xs : List V} (r : RVs Z H m vs xs) (rv : RV Z H m v x) : RVs Z H m (MP.putVs ks j vs v) (MP.putVs ks j xs x) := by
  unfold MP.putVs
  split
  · exact RVs.set rv _ r
  · exact r.append (RVs.cons rv RVs.nil)
theorem vals_put {j : PV} {xs : List V} {ws : List Value} {w : Value} (v : Vals xs ws) (rw' : RelV x w) : Vals (putVs ks j xs x) (putVs ks j ws w) := by
  unfold putVs
  split
  · exact v.set rw' _
  · exact v.append (.cons rw' .nil)
theorem putVs_len {A : Type} {j : PV} {xs : List A} {v : A} (h : xs.length = ks.length) : (putVs ks j xs v).length = (putKs ks j).length := by
  unfold putVs putKs
  cases ixK ks j with
  | some i => simp [h]
  | none => simp [h]
def zip3 (hs : List Int) (ys xs : List V) : List (Int × V × V) := hs.zip (ys.zip xs)
theorem zip3_1 {hs : List Int} {ys xs : List V} (h1 : ys.length = hs.length) (h2 : xs.length = hs.length) : (zip3 hs ys xs).map (·.1) = hs := by
  unfold zip3
  exact List.map_fst_zip (by rw [List.length_zip]; omega)
theorem zip3_2 {hs : List Int} {ys xs : List V} (h1 : ys.length = hs.length) (h2 : xs.length = hs.length) : (zip3 hs ys xs).map (·.2.1) = ys := by
  unfold zip3
  have e : (hs.zip (ys.zip xs)).map (fun e => e.2.1) = ((hs.zip (ys.zip xs)).map (·.2)).map (·.1) := by rw [List.map_map]; rfl
  rw [e, List.map_snd_zip (by rw [List.length_zip]; omega), List.map_fst_zip (by omega)]
theorem zip3_3 {hs : List Int} {ys xs : List V} (h1 : ys.length = hs.length) (h2 : xs.length = hs.length) : (zip3 hs ys xs).map (·.2.2) = xs := by
  unfold zip3
  have e : (hs.zip (ys.zip xs)).map (fun e => e.2.2) = ((hs.zip (ys.zip xs)).map (·.2)).map (·.2) := by rw [List.map_map]; rfl
  rw [e, List.map_snd_zip (by rw [List.length_zip]; omega), List.map_snd_zip (by omega)]
theorem dO_ok {P : Program} {w : World} {H : Hp} {h : Heap} {o : Obj} {ds : Array DictEntry} {ep : Nat} (h0 : (a == sysModules) = false) (h1 : h.get? a = some o) (h2 : o.ExactDict) (h3 : o.data = .dict ds ep) (h4 : Paired EntR es ds.toList) : ObjOk P w H h a (dO a ep es) :=
  ⟨⟨h0, o, ds, h1, h2, h3, h4⟩, ⟨o, h1⟩, fun h1 h2 ⟨q0, o, ds, q1, q2⟩ k => ⟨q0, o, ds, k _ q1, q2⟩⟩
theorem of_flat {P : Program} {w : World} : ∀ {ds : List DictEntry} {ls : List Key} {ws : List Value} {xs : List V}, Pairs (mixKind P w) ds (ls.zip ws) → (∀ e ∈ ds, ∃ k, (mixKind P w).is k e.key = true ∧ e.hash = (mixKind P w).hash k) → Vals xs ws → ws.length = ls.length →
    Paired EntR (zip3 (ls.map (keyH w)) (ls.map kV) xs) ds
  | ds, [], ws, xs, hp, _, hv, hl => by
    cases ws with
    | nil => cases hv; cases hp; exact .nil
    | cons _ _ => cases hl
  | ds, l :: ls, ws, xs, hp, hk, hv, hl => by
    cases ws with
    | nil => cases hl
    | cons w' ws =>
      cases hv with
      | cons v1 v2 =>
        cases hp with
        | @cons e kv es kvs p1 p2 p3 =>
          refine .cons ⟨?_, kV_of p1, by rw [p2]; exact v1⟩ (of_flat p3 (fun e he => hk e (List.mem_cons_of_mem _ he)) v2 (by simpa using hl))
          obtain ⟨k, k1, k2⟩ := hk e List.mem_cons_self
          rw [k2, (mixKind P w).inj _ _ _ k1 p1]
          rfl
theorem of_tup {P : Program} {w : World} : ∀ {ds : List DictEntry} {xs : List (NestedKey × Addr × Value)} {zs : List V}, ds = xs.map (entryOfKey (nestedKind P w)) → Vals zs (xs.map (·.2.2)) →
    Paired EntR (zip3 (xs.map fun q => q.1.hash w) (xs.map fun q => V.ref q.2.1) zs) ds
  | _, [], zs, rfl, hv => by cases hv; exact .nil
  | _, q :: xs, zs, rfl, hv => by
    cases hv with
    | cons v1 v2 => exact .cons ⟨rfl, rfl, v1⟩ (of_tup rfl v2)
def PutK (X : Cx) (pins : List (Addr × Obj)) (σ : L2.St) (H : Hp) (s : Shared) (a : Addr) (j : PV) (u w : Value) (H' : Nat → Hp) (nk : Nat) : Prop :=
  (isK1 j = true ∧ ∃ kvs, s.heap.DictOf (mixKind X.prog X.w) a kvs ∧ keyIs (keyL j) u = true ∧ kvs.length = nk ∧
    ∀ h' t, h'.DictOf (mixKind X.prog X.w) a (stored kvs (keyL j) w) → Heap.SameBut a s.heap h' → ∃ ep, L2.Inv X pins σ (H' ep) { s with heap := h', toks := t }) ∨
  (isTup j = true ∧ ∃ xs b, s.heap.DictOfH (nestedKind X.prog X.w) a xs ∧ u = .ref b ∧ (nestedKind X.prog X.w).is s.heap (toKey kd j) b ∧ xs.length = nk ∧
    ∀ h' t, h'.DictOfH (nestedKind X.prog X.w) a (storedH xs (toKey kd j) b w) → Heap.SameBut a s.heap h' → ∃ ep, L2.Inv X pins σ (H' ep) { s with heap := h', toks := t })
theorem key_V {p : PV} (hk : isKey kd p = true) (ht : isTup p = true) (r : RV Z H m p x) : ∃ b, x = .ref b := by
  cases p with
  | tup ls => obtain ⟨b, _, e, _⟩ := rv_tup r; exact ⟨b, e⟩
  | _ => cases ht
theorem storedH_ix {j : PV} {xs : List (NestedKey × Addr × Value)} {b : Addr} {w : Value} (e1 : xs.map (·.1) = ks.map (toKey kd)) (he : ∀ k ∈ ks, keyEq kd k j = decide (toKey kd k = toKey kd j)) (hn : (ks.map (toKey kd)).Nodup) :
    (storedH xs (toKey kd j) b w).map (·.1) = (putKs ks j).map (toKey kd) ∧ (storedH xs (toKey kd j) b w).map (·.2.2) = putVs ks j (xs.map (·.2.2)) w ∧ (storedH xs (toKey kd j) b w).map (·.2.1) = (match ixK ks j with | some _ => xs.map (·.2.1) | none => xs.map (·.2.1) ++ [b]) := by
  have hl : xs.length = ks.length := by have := congrArg List.length e1; simpa using this
  have hp : pairsH xs = (ks.map (toKey kd)).zip (xs.map (·.2.2)) := by
    rw [← e1]
    unfold pairsH
    clear hl e1 he hn
    induction xs with
    | nil => rfl
    | cons q xs ih => simp [ih]
  have hs := stored_zip (f := toKey kd) (j := j) (w := w) hn he (ws := xs.map (·.2.2)) (by simpa using hl)
  rw [← hp, ← pairsH_storedH xs (toKey kd j) b w] at hs
  have g1 : (pairsH (storedH xs (toKey kd j) b w)).map (·.1) = (storedH xs (toKey kd j) b w).map (·.1) := by unfold pairsH; rw [List.map_map]; rfl
  have g2 : (pairsH (storedH xs (toKey kd j) b w)).map (·.2) = (storedH xs (toKey kd j) b w).map (·.2.2) := by unfold pairsH; rw [List.map_map]; rfl
  have hl2 : (putVs ks j (xs.map (·.2.2)) w).length = (putKs ks j).length := putVs_len (by simpa using hl)
  refine ⟨?_, ?_, ?_⟩
  · rw [← g1, hs, List.map_fst_zip (by rw [List.length_map, hl2]; exact Nat.le_refl _)]
  · rw [← g2, hs, List.map_snd_zip (by rw [List.length_map, hl2]; exact Nat.le_refl _)]
  · have q : (atKey xs (toKey kd j)).isSome = (ixK ks j).isSome := by
      rw [← any_pairsH, hp, any_zip (by simp [hl])]
      cases e : ixK ks j with
      | none =>
        refine decide_eq_false fun h => ?_
        obtain ⟨k, hk, h2⟩ := List.mem_map.mp h
        have := ixK_none e k hk
        rw [he k hk, decide_eq_true h2] at this
        cases this
      | some i =>
        obtain ⟨k, h1, h2⟩ := ixK_some e
        have hm := List.mem_of_getElem? h1
        rw [he k hm] at h2
        refine decide_eq_true ?_
        rw [← of_decide_eq_true h2]
        exact List.mem_map_of_mem hm
    unfold storedH
    rw [q]
    cases e : ixK ks j with
    | none => simp
    | some i =>
      simp only [Option.isSome_some, if_true, List.map_map]
      refine List.map_congr_left fun z _ => ?_
      show (putAt (toKey kd j) w z).2.1 = z.2.1
      unfold putAt
      split <;> rfl
theorem DcR.put (d : DcR Z H m a es ks vs) (hH : Hdc H a es) (I : L2.Inv X pins σ H s) (hK : X.K = Z.K) (hw : X.w = Z.w) {j v : PV} {u w : Value} (hj : kindOk ks j = true) (rj : RV Z H m j y) (ru : RelV y u) (rv : RV Z H m v x) (rw' : RelV x w) :
    ∃ es', es'.map (·.1) = (putKs ks j).map (hashK Z) ∧ RVs Z H m (putKs ks j) (es'.map (·.2.1)) ∧ RVs Z H m (putVs ks j vs v) (es'.map (·.2.2)) ∧ keysB (putKs ks j) = true ∧ PutK X pins σ H s a j u w (fun ep => upd H a (dO a ep es')) ks.length := by
  have hmut : Mut (H a) := by
    obtain ⟨ep0, hH⟩ := hH
    rw [hH]; exact trivial
  have hlv : vs.length = ks.length := by rw [d.vs.len, d.ks.len, List.length_map, List.length_map]
  have nodup1 : ∀ {κ : Type} [DecidableEq κ] {f : PV → κ}, (∀ p ∈ ks, ∀ q ∈ ks, keyEq kd p q = decide (f p = f q)) → (ks.map f).Nodup := fun h => dist_nodup h (keysB_parts d.kb).2.1
  rcases kind_cases d.kb hj with ⟨hk, h1⟩ | ⟨hk, h1, h2⟩
  · obtain ⟨h0, ws, w1, w2, w3⟩ := d.flat I hK hw hk
    have ha := List.all_eq_true.mp hk
    have e0 := stored_zip (f := keyL) (j := j) (w := w) (ws := ws) (nodup1 fun p hp q hq => k1_eq (ha p hp) (ha q hq)) (fun p hp => k1_eq (ha p hp) h1) w2
    have pall : ∀ p ∈ putKs ks j, isK1 p = true := fun p hp => by
      unfold putKs at hp
      split at hp
      · exact ha p hp
      · rcases List.mem_append.mp hp with hp | hp
        · exact ha p hp
        · rw [List.mem_singleton.mp hp]; exact h1
    have rks : RVs Z H m (putKs ks j) (((putKs ks j).map keyL).map kV) := by
      have base : RVs Z H m ks ((ks.map keyL).map kV) := by
        have := d.ks
        have key : ∀ {ps : List PV} {zs : List V}, (∀ p ∈ ps, isK1 p = true) → RVs Z H m ps zs → zs = (ps.map keyL).map kV := by
          intro ps
          induction ps with
          | nil => intro zs _ r; unfold RVs at r; exact r
          | cons p ps ih =>
            intro zs hp r
            unfold RVs at r
            obtain ⟨z, t, rfl, r1, r2⟩ := r
            rw [k1_V (hp p List.mem_cons_self) r1, ih (fun q hq => hp q (List.mem_cons_of_mem _ hq)) r2]
            rfl
        rw [← key ha this]
        exact this
      unfold putKs
      split
      · exact base
      · rw [List.map_append, List.map_append]
        refine base.append (RVs.cons ?_ RVs.nil)
        rw [← k1_V h1 rj]
        exact rj
    have hl1 : (((putKs ks j).map keyL).map kV).length = (((putKs ks j).map keyL).map (keyH X.w)).length := by simp
    have hl2 : (putVs ks j (es.map (·.2.2)) x).length = (((putKs ks j).map keyL).map (keyH X.w)).length := by
      rw [putVs_len (by rw [← d.vs.len, hlv])]; simp
    refine ⟨zip3 (((putKs ks j).map keyL).map (keyH X.w)) (((putKs ks j).map keyL).map kV) (putVs ks j (es.map (·.2.2)) x), ?_, ?_, ?_, put_keysB d.kb hj, .inl ⟨h1, _, w3, kV_is' (by rw [← k1_V h1 rj]; exact ru), by rw [List.length_zip, List.length_map, w2, Nat.min_self], fun h' t dd hs => ?_⟩⟩
    · rw [zip3_1 hl1 hl2, List.map_map]
      refine List.map_congr_left fun p hp => ?_
      show keyH X.w (keyL p) = hashK Z p
      rw [k1_hash (pall p hp), hw]
    · rw [zip3_2 hl1 hl2]
      exact rks
    · rw [zip3_3 hl1 hl2]
      exact d.vs.putVs rv
    · rw [e0] at dd
      obtain ⟨o, ds, ep, g1, g2, g3, g4, g5, g6⟩ := dd
      refine ⟨ep, I.write (x := a) (e := a) hmut (.inl rfl) (fun b q hb z => (hs.2 b hb).trans z) ⟨o, g1⟩ (dO_ok h0 g1 g2 g3 ?_)⟩
      exact of_flat g5 (fun e he => g4 e (by simpa using he)) (vals_put w1 rw') (by rw [putVs_len w2]; simp)
  · obtain ⟨h0, ws, xs, w1, w2, w3, w4, w5⟩ := d.tup I hK hw hk
    have ha := List.all_eq_true.mp (keysB_parts d.kb).1
    have he : ∀ k ∈ ks, keyEq kd k j = decide (toKey kd k = toKey kd j) := fun k hk => key_eqD (ha k hk) h2
    have hn := nodup1 (f := toKey kd) fun p hp q hq => key_eqD (ha p hp) (ha q hq)
    obtain ⟨b, eb⟩ := key_V h2 h1 rj
    subst eb
    cases (show u = Value.ref b from ru)
    have hl : xs.length = ks.length := by have := congrArg List.length w3; simpa using this
    obtain ⟨s1, s2, s3⟩ := storedH_ix (ks := ks) (j := j) (b := b) (w := w) w3 he hn
    have hl0 : (storedH xs (toKey kd j) b w).length = (putKs ks j).length := by have := congrArg List.length s1; simpa using this
    have hl1 : ((storedH xs (toKey kd j) b w).map fun q => V.ref q.2.1).length = ((storedH xs (toKey kd j) b w).map fun q => q.1.hash X.w).length := by simp
    have hl2 : (putVs ks j (es.map (·.2.2)) x).length = ((storedH xs (toKey kd j) b w).map fun q => q.1.hash X.w).length := by
      rw [putVs_len (by rw [← d.vs.len, hlv]), List.length_map, hl0]
    refine ⟨zip3 ((storedH xs (toKey kd j) b w).map fun q => q.1.hash X.w) ((storedH xs (toKey kd j) b w).map fun q => V.ref q.2.1) (putVs ks j (es.map (·.2.2)) x), ?_, ?_, ?_, put_keysB d.kb hj, .inr ⟨h1, xs, b, w2, rfl, ⟨key_is I hK h2 rj ru, key_depth⟩, hl, fun h' t dd hs => ?_⟩⟩
    · rw [zip3_1 hl1 hl2]
      have e : ((storedH xs (toKey kd j) b w).map fun q => q.1.hash X.w) = ((storedH xs (toKey kd j) b w).map (·.1)).map fun q => q.hash X.w := by rw [List.map_map]; rfl
      rw [e, s1, List.map_map, hw]
      rfl
    · rw [zip3_2 hl1 hl2]
      have e : ((storedH xs (toKey kd j) b w).map fun q => V.ref q.2.1) = ((storedH xs (toKey kd j) b w).map (·.2.1)).map V.ref := by rw [List.map_map]; rfl
      rw [e, s3]
      have base : RVs Z H m ks ((xs.map (·.2.1)).map V.ref) := by
        have h := d.ks
        rw [w5] at h
        rw [List.map_map]
        exact h
      unfold putKs
      split
      · exact base
      · rw [List.map_append]
        exact base.append (RVs.cons rj RVs.nil)
    · rw [zip3_3 hl1 hl2]
      exact d.vs.putVs rv
    · obtain ⟨o, ds, ep, g1, g2, g3, g4, g5, g6⟩ := dd
      refine ⟨ep, I.write (x := a) (e := a) hmut (.inl rfl) (fun b q hb z => (hs.2 b hb).trans z) ⟨o, g1⟩ (dO_ok h0 g1 g2 g3 ?_)⟩
      refine of_tup g4 ?_
      rw [s2, w4]
      exact vals_put w1 rw'
end
end MP
set_option maxRecDepth 100000
namespace MP
open PySem L2 PyProof.Rows
section
variable {Z : Sta} {W : WX} {σ : L2.St} {H H1 : Hp} {m m1 m2 : Mp} {X : Cx} {S : Hs} {x y : V} {a : Addr} {lv g k f : Nat} {T : Tab} {fdO : Nat → FuncData} {psO : Nat → List Str} {pins : List (Addr × Obj)} {s : Shared} {Q : VK} {c : CmpT} {es : List (Int × V × V)} {ks vs : List PV}
theorem Good.hu (gd : Good Z lv X W) : X.A.units + 128 < cLine := by have := gd.room3.un; omega
theorem Good.room8 (gd : Good Z lv X W) : (nestedKind X.prog X.w).room X.A.in1 := by
  have := gd.hu
  show X.A.units + 1 + 8 < cLine
  omega
theorem any_eqv {d : PyData} {g : PV → PyData} {e : PV → Bool} : ∀ {xs : List PV}, (∀ x ∈ xs, e x = PyData.eqv (g x) d) → (xs.any e) = (xs.map g).any fun z => PyData.eqv z d
  | [], _ => rfl
  | x :: xs, h => by
    rw [List.map_cons, List.any_cons, List.any_cons, h x List.mem_cons_self, any_eqv fun y hy => h y (List.mem_cons_of_mem _ hy)]
theorem asL_asQ {b : PV} {xs : List PV} (h : asL S b = some xs) : asQ S b = some xs ∧ isFlat b = false ∧ isTup b = false := by
  cases b <;> first | (cases h; done) | exact ⟨h, rfl, rfl⟩
theorem in_run {p q : PV} {v u : Value} (gd : Good Z lv X W) (I : L2.Inv X pins σ H s) (rx : RelV x v) (ry : RelV y u) (sr : SRel Z H m S) (rp : RV Z H m p x) (rq : RV Z H m q y) {b : Bool} (he : inV2 p q S = .ok (.bl b) S)
    {Q1 Q2 : VK} (h1 : Q1 (.bl b) H) (h2 : Q2 (.bl !b) H) : wpAny (model X.prog X.w) X.A (compareOp .In v u) (EP X pins σ Q1) X.xe s ∧ wpAny (model X.prog X.w) X.A (compareOp .NotIn v u) (EP X pins σ Q2) X.xe s := by
  unfold inV2 at he
  split at he
  · rename_i ks vs ed
    split at he
    · rename_i hk
      injection he with he _
      injection he with he
      subst he
      obtain ⟨a, es, rfl, d⟩ := dctOf_ok sr rq ed
      cases (show u = Value.ref a from ry)
      obtain ⟨h0, hh⟩ := d.find I gd.K gd.w hk rp rx
      rcases hh with ⟨_, _, kvs, g1, g2, g3, g4⟩ | ⟨_, _, xs, b, g1, rfl, g2, g3, g4⟩
      · have e : (valueAt kvs (keyL p)).isSome = (findK ks vs p).isSome := by
          unfold Fnd at g4
          split at g4
          · rename_i ef; rw [ef, g4]; rfl
          · rename_i v' ef; obtain ⟨x', w', q1, _⟩ := g4; rw [ef, q1]; rfl
        exact ⟨wpAny_in_of (knd := mixKind X.prog X.w) g2 h0 g1.mapOf ⟨.bl _, H, I.tok _, rfl, by rw [e]; exact h1⟩, wpAny_notIn_of (knd := mixKind X.prog X.w) g2 h0 g1.mapOf ⟨.bl _, H, I.tok _, rfl, by rw [e]; exact h2⟩⟩
      · have e : (atKey xs (toKey kd p)).isSome = (findK ks vs p).isSome := by
          unfold Fnd at g4
          rw [← Option.isSome_map (f := (·.2))]
          split at g4
          · rename_i ef; rw [ef, g4]; rfl
          · rename_i v' ef; obtain ⟨x', w', q1, _⟩ := g4; rw [ef, q1]; rfl
        exact ⟨wpAny_in_heap gd.room8 g2 h0 g1 ⟨.bl _, H, I.tok _, rfl, by rw [e]; exact h1⟩, wpAny_notIn_heap gd.room8 g2 h0 g1 ⟨.bl _, H, I.tok _, rfl, by rw [e]; exact h2⟩⟩
    · cases he
  · split at he
    · rename_i k ek
      injection he with he _
      injection he with he
      subst he
      rcases inB_ok (X := X) gd.K sr rp rq ek with ⟨c, z, h3, h4, h5⟩ | ⟨a, xs, h3, h4, h5, h6, h7⟩
      · exact ⟨op_in_sign pins s σ H x y v u Q1 I rx ry ⟨c, z, h3, h4, by rw [← h5]; exact h1⟩, op_notIn_sign pins s σ H x y v u Q2 I rx ry ⟨c, z, h3, h4, by rw [← h5]; exact h2⟩⟩
      · exact ⟨op_in_seq pins s σ H x y v u Q1 I rx ry ⟨a, xs, h3, h4, h5, h6, by rw [← h7]; exact h1⟩, op_notIn_seq pins s σ H x y v u Q2 I rx ry ⟨a, xs, h3, h4, h5, h6, by rw [← h7]; exact h2⟩⟩
    · split at he
      · rename_i xs el
        split at he
        · rename_i hd
          injection he with he _
          injection he with he
          subst he
          rw [Bool.and_eq_true] at hd
          obtain ⟨a1, a2, a3⟩ := data_ok sr rp hd.1
          obtain ⟨b1, b2, b3⟩ := data_ok sr rq hd.2
          obtain ⟨eq, ef, et⟩ := asL_asQ el
          have hb : toD S deep q = .list (xs.map (toD S deep.pred)) := by
            rw [show toD S deep q = toD S (deep.pred + 1) q from rfl, toD_seq ef eq, if_neg (by rw [et]; exact Bool.false_ne_true)]
          obtain ⟨ys, ey, hx⟩ := asQ_of_isD (n := deep.pred) ef hd.2
          rw [eq] at ey
          cases ey
          have hany : (xs.any fun y => eqB S deep.pred y p) = (xs.map (toD S deep.pred)).any fun z => PyData.eqv z (toD S deep.pred p) := any_eqv fun y hy => eqB_eq (hx y hy) hd.1
          rw [hb] at b1 b2 b3
          rw [hany] at h1 h2
          rw [← gd.K] at a1 b1
          exact ⟨op_inD (by have := gd.hu; omega) pins s σ H x y v u Q1 I rx ry ⟨_, _, a1, b1, shaped_of a2 (Nat.le_trans a3 (Nat.pred_le _)), shaped_of b2 b3, h1⟩, op_notInD (by have := gd.hu; omega) pins s σ H x y v u Q2 I rx ry ⟨_, _, a1, b1, shaped_of a2 (Nat.le_trans a3 (Nat.pred_le _)), shaped_of b2 b3, h2⟩⟩
        · cases he
      · cases he
end
end MP
set_option maxRecDepth 100000
namespace MP
open PySem L2 PyProof.Rows
section
variable {Z : Sta} {W : WX} {σ : L2.St} {H H1 : Hp} {m m1 m2 : Mp} {X : Cx} {S : Hs} {x y : V} {a : Addr} {lv g k f : Nat} {T : Tab} {fdO : Nat → FuncData} {psO : Nat → List Str} {pins : List (Addr × Obj)} {s : Shared} {Q : VK} {c : CmpT} {es : List (Int × V × V)} {ks vs : List PV}
theorem inV2_st {p q : PV} {r : RE} (h : inV2 p q S = r) : r = .bad ∨ ∃ b, r = .ok (.bl b) S := by
  subst h
  unfold inV2
  split
  · split
    · exact .inr ⟨_, rfl⟩
    · exact .inl rfl
  · split
    · exact .inr ⟨_, rfl⟩
    · split
      · split
        · exact .inr ⟨_, rfl⟩
        · exact .inl rfl
      · exact .inl rfl
theorem inD2_ok (TO : TabOk Z lv T fdO psO) (gd : Good Z lv X W) (C : CmpTOk Z c) : OpOk Z X W (compareOp .In) (inD2 T c) := by
  intro pins s σ H x y v u m S p q Q I rx ry sr rp rq hp
  unfold inD2 at hp
  split at hp
  · exact inD_ok TO gd C pins s σ H x y v u m S p q Q I rx ry sr rp rq hp
  · rcases inV2_st (S := S) (p := p) (q := q) rfl with e | ⟨b, e⟩
    · rw [e] at hp; exact hp.elim
    · rw [e] at hp
      exact (in_run (Q2 := fun _ _ => True) gd I rx ry sr rp rq e (hp H m _ Gr.refl sr to_bl) trivial).1
theorem ninD2_ok (TO : TabOk Z lv T fdO psO) (gd : Good Z lv X W) (C : CmpTOk Z c) : OpOk Z X W (compareOp .NotIn) (ninD2 T c) := by
  intro pins s σ H x y v u m S p q Q I rx ry sr rp rq hp
  unfold ninD2 at hp
  split at hp
  · exact ninD_ok TO gd C pins s σ H x y v u m S p q Q I rx ry sr rp rq hp
  · unfold ninV2 at hp
    rcases inV2_st (S := S) (p := p) (q := q) rfl with e | ⟨b, e⟩
    · rw [e] at hp; exact hp.elim
    · rw [e] at hp
      exact (in_run (Q1 := fun _ _ => True) gd I rx ry sr rp rq e trivial (hp H m _ Gr.refl sr to_bl)).2
theorem cmpD2_ok (op : CmpOp) (TO : TabOk Z lv T fdO psO) (gd : Good Z lv X W) (C : CmpTOk Z c) : OpOk Z X W (compareOp op) (cmpD2 T c op) := by
  cases op with
  | In => exact inD2_ok TO gd C
  | NotIn => exact ninD2_ok TO gd C
  | Eq => exact cmpD_ok .Eq TO gd C
  | NotEq => exact cmpD_ok .NotEq TO gd C
  | Lt => exact cmpD_ok .Lt TO gd C
  | LtE => exact cmpD_ok .LtE TO gd C
  | Gt => exact cmpD_ok .Gt TO gd C
  | GtE => exact cmpD_ok .GtE TO gd C
  | Is => exact cmpD_ok .Is TO gd C
  | IsNot => exact cmpD_ok .IsNot TO gd C
def rIxDct (Z : Sta) : R2 := fun x y H Q => ∃ m S p q ks vs v, SRel Z H m S ∧ RV Z H m p x ∧ RV Z H m q y ∧ dctOf S p = some (ks, vs) ∧ kindOk ks q = true ∧ findK ks vs q = some v ∧ ∀ z, RV Z H m v z → Q z H
theorem ix_dct (gd : Good Z lv X W) : IxR X (rIxDct Z) := by
  intro value slice pins s σ H x y v u Q I rx ry h hs
  obtain ⟨m, S, p, q, ks, vs, r, sr, rp, rq, ed, hk, ef, hq⟩ := h
  obtain ⟨a, es, rfl, d⟩ := dctOf_ok sr rp ed
  cases (show v = Value.ref a from rx)
  obtain ⟨h0, hh⟩ := d.find I gd.K gd.w hk rq ry
  rcases hh with ⟨_, _, kvs, g1, g2, g3, g4⟩ | ⟨_, _, xs, b, g1, rfl, g2, g3, g4⟩
  · rw [ef] at g4
    obtain ⟨z, w', e, rz, rw'⟩ := g4
    exact tail_any g1.typeIs PySem.F.slot_dict_getitem.lookup (wpAny_getItem_of (knd := mixKind X.prog X.w) g2 g1.mapOf e ⟨z, H, I.tok _, rw', hq z rz⟩) hs
  · rw [ef] at g4
    obtain ⟨z, w', e, rz, rw'⟩ := g4
    obtain ⟨pp, e1, e2⟩ := map_some e
    exact tail_any g1.typeIs PySem.F.slot_dict_getitem.lookup (wpAny_getItem_heap gd.room8 g2 g1 e1 (by rw [e2]; exact ⟨z, H, I.tok _, rw', hq z rz⟩)) hs
theorem ok_ix2 {a b : Expr} {pos : Pos} {f g : Loc → Hs → RE} (gd : Good Z lv X W) (ha : PE X a (tE Z W f)) (hb : PE X b (tE Z W g)) (hs : ∀ o i, subscripted b false o i = operate [o, i] (getItem o i)) : PE X (.Subscript a b pos) (tE Z W (binE f g ixV2)) := by
  refine PE.imp (pe_ix (ix_seq.or (ix_dct gd)) ha hb hs) ?_
  rintro σ H Q ⟨m, L, S, sr, hl, hp⟩
  refine ⟨m, L, S, sr, hl, PostE.bind hp fun v S1 H1 m1 x g1 s1 r1 hp1 => ⟨m1, L, S1, s1, hl.grow g1, PostE.bind hp1 fun w S2 H2 m2 y g2 s2 r2 hp2 => ?_⟩⟩
  unfold ixV2 at hp2
  split at hp2
  · rename_i ks vs ed
    split at hp2
    · rename_i hk
      obtain ⟨z, ez, hp2⟩ := okO_post hp2
      exact .inr ⟨m2, S2, v, w, ks, vs, z, s2, r1.grow g2, r2, ed, hk, ez, fun q rq => hp2 H2 m2 q Gr.refl s2 rq⟩
    · exact hp2.elim
  · exact .inl (ix_post gd.K s2 (r1.grow g2) r2 hp2)
theorem no_tup_dO (h : Hdc H a es) : ∀ xs, ¬ Rd H a (.tup xs) := by
  obtain ⟨ep, h⟩ := h
  exact no_tup h (fun _ e => by have e' : HO.ext _ = HO.tup _ := e; cases e') fun _ _ e => by have e' : HO.ext _ = HO.frz _ _ := e; cases e'
def rSetDct (Z : Sta) : V → V → V → Hp → (Hp → Prop) → Prop := fun o i v H Q => ∃ m S n q r ks vs, SRel Z H m S ∧ RV Z H m (.loc n) o ∧ RV Z H m q i ∧ RV Z H m r v ∧ getR S n = some (.dct ks vs) ∧ kindOk ks q = true ∧ ks.length < 16777216 ∧
  ∀ H' m', Gr Z H m H' m' → SRel Z H' m' (setR S n (.dct (putKs ks q) (putVs ks q vs r))) → Q H'
theorem cell_put {n : Nat} {i r : PV} (sr : SRel Z H m S) (ea : getR m.l n = some a) (ec : getR S n = some (.dct ks vs)) {es es' : List (Int × V × V)} (hH : Hdc H a es)
    (h1 : es'.map (·.1) = (putKs ks i).map (hashK Z)) (h2 : RVs Z H m (putKs ks i) (es'.map (·.2.1))) (h3 : RVs Z H m (putVs ks i vs r) (es'.map (·.2.2))) (h4 : keysB (putKs ks i) = true) :
    ∀ ep, Gr Z H m (upd H a (dO a ep es')) m ∧ SRel Z (upd H a (dO a ep es')) m (setR S n (.dct (putKs ks i) (putVs ks i vs r))) := by
  intro ep
  have g := Gr.upd (Z := Z) (m := m) (o := dO a ep es') (getR_mem ea) (no_tup_dO hH)
  exact ⟨g, sr.set ea (no_tup_dO hH) ⟨es', ⟨ep, upd_same⟩, h4, h1, h2.grow g, h3.grow g⟩⟩
theorem loc_dct {n : Nat} (sr : SRel Z H m S) (r : RV Z H m (.loc n) x) (ec : getR S n = some (.dct ks vs)) : ∃ a es, x = .ref a ∧ getR m.l n = some a ∧ Hdc H a es ∧ DcR Z H m a es ks vs := by
  unfold RV at r
  obtain ⟨a, ea, rfl⟩ := r
  obtain ⟨b, eb, es, hq, h1, h2, h3, h4⟩ := sr.at_ ec
  rw [ea] at eb
  cases eb
  exact ⟨a, es, rfl, ea, hq, .inl hq, h1, h2, h3, h4⟩
theorem set_dct (gd : Good Z lv X W) : PSet X (rSetDct Z) := by
  intro pins s σ H o i v ov iv u Q I ro ri rv h
  obtain ⟨m, S, n, q, r, ks, vs, sr, rl, rq, rr, ec, hk, hl, hq⟩ := h
  obtain ⟨a, es, rfl, ea, hH, d⟩ := loc_dct sr rl ec
  cases (show ov = Value.ref a from ro)
  obtain ⟨es', h1, h2, h3, h4, hp⟩ := d.put hH I gd.K gd.w hk rq ri rr rv
  have gs := cell_put sr ea ec hH h1 h2 h3 h4
  rcases hp with ⟨_, kvs, p1, p2, p3, p4⟩ | ⟨_, xs, b, p1, rfl, p2, p3, p4⟩
  · refine wpAny_setItem_pairs (knd := mixKind X.prog X.w) (hsz := by rw [p3, sizeLine_eq]; omega) p2 p1 fun h' dd hs => ?_
    obtain ⟨ep, I'⟩ := p4 h' _ dd hs
    exact ⟨_, I', hq _ m (gs ep).1 (gs ep).2⟩
  · refine wpAny_setItem_heap (hsz := by rw [p3, sizeLine_eq]; omega) gd.room8 p2 p1 fun h' dd hs => ?_
    obtain ⟨ep, I'⟩ := p4 h' _ dd hs
    exact ⟨_, I', hq _ m (gs ep).1 (gs ep).2⟩
end
end MP
set_option maxRecDepth 100000
namespace MP
open PySem L2 PyProof.Rows
section
variable {Z : Sta} {W : WX} {σ : L2.St} {H H1 H2 : Hp} {m m1 m2 : Mp} {X : Cx} {S : Hs} {x y : V} {a D : Addr} {lv g k f : Nat} {T : Tab} {pins : List (Addr × Obj)} {s : Shared} {Q : VK} {c : CmpT} {es : List (Int × V × V)} {ks vs : List PV}
structure MkI (Z : Sta) (H1 : Hp) (m1 : Mp) (D : Addr) (H : Hp) (m : Mp) (S : Hs) : Prop where
  g0 : Gr0 Z H1 m1 H m
  ks : ∀ b o, b ∉ m1.l → H1 b = some o → H b = some o
  eh : m.h = D :: m1.h
  dl : D ∉ m.l
  sr : SRel Z H m S
  nk : ∀ q ∈ m1.k, q.1 ≠ D
theorem MkI.start {o : HO} (hD : H1 D = none) (s1 : SRel Z H1 m1 S) : MkI Z H1 m1 D (upd H1 D o) ⟨m1.l, D :: m1.h, m1.k⟩ S := by
  have g := Gr.new (Z := Z) (m := m1) (o := o) hD
  have gv : GrV Z H1 m1 (upd H1 D o) ⟨m1.l, D :: m1.h, m1.k⟩ := by
    refine ⟨⟨[], rfl⟩, fun a u hn e => ⟨⟨hn.1, fun h => ?_⟩, g.keep a u hn.1 e⟩, g.g0.tup, fun _ h => h⟩
    rcases List.mem_cons.mp h with z | z
    · rw [z, hD] at e; cases e
    · exact hn.2 z
  refine ⟨⟨⟨[], rfl, fun _ h => nomatch h⟩, fun b h => ?_, fun b u hb _ e => g.keep b u hb e, g.g0.there, g.g0.tup, rfl⟩, fun b u hb e => g.keep b u hb e, rfl, (s1.notin hD).1, ?_, fun q hq z => by rw [← z, (s1.lnt q hq).2] at hD; cases hD⟩
  · rcases List.mem_cons.mp h with z | z
    · exact .inr (by rw [z]; exact hD)
    · exact .inl z
  · refine ⟨paired_map s1.cells fun c' b _ q => q.growV gv fun u e => by rw [upd_ne (ne_of_none e hD)]; exact e, s1.nd, fun b hb => ?_, fun q hq => ⟨(s1.lnt q hq).1, g.keep q.1 _ (s1.lnt q hq).1 (s1.lnt q hq).2⟩⟩
    rcases List.mem_cons.mp hb with z | z
    · rw [z]; exact ⟨_, upd_same⟩
    · obtain ⟨u, e⟩ := s1.hid b z
      exact ⟨u, by rw [upd_ne (ne_of_none e hD)]; exact e⟩
theorem MkI.grow {S' : Hs} {o : HO} (c : MkI Z H1 m1 D H m S) (hD : H D = some o) (g : Gr Z H m H2 m2) (s' : SRel Z H2 m2 S') : MkI Z H1 m1 D H2 m2 S' ∧ H2 D = some o :=
  ⟨⟨c.g0.trans g.g0, fun b u hb e => g.keep b u (c.g0.memL hb e) (c.ks b u hb e), g.eqh.trans c.eh, g.g0.memL c.dl hD, s', c.nk⟩, g.keep D o c.dl hD⟩
theorem MkI.set {o u : HO} (c : MkI Z H1 m1 D H m S) (hD1 : H1 D = none) (hD : H D = some o) (h1 : ∀ xs, ¬ Rd H D (.tup xs)) : MkI Z H1 m1 D (upd H D u) m S ∧ Gr0 Z H m (upd H D u) m := by
  have hm : D ∈ m.h := by rw [c.eh]; exact List.mem_cons_self
  have g := Gr0.updH (Z := Z) (o := u) hm h1
  exact ⟨⟨c.g0.trans g, fun b w hb e => by rw [upd_ne (ne_of_none e hD1)]; exact c.ks b w hb e, c.eh, c.dl, c.sr.updH hm c.dl h1 (by rw [c.g0.eqk]; exact c.nk), c.nk⟩, g⟩
theorem MkI.done (c : MkI Z H1 m1 D H m S) : Gr Z H1 m1 H ⟨m.l, m1.h, m.k⟩ ∧ SRel Z H ⟨m.l, m1.h, m.k⟩ S ∧ Gr0 Z H m H ⟨m.l, m1.h, m.k⟩ := by
  have gb : Gr0 Z H m H ⟨m.l, m1.h, m.k⟩ := ⟨⟨[], rfl, fun _ h => nomatch h⟩, fun a ha => .inl (by rw [c.eh]; exact List.mem_cons_of_mem _ ha), fun _ _ _ _ e => e, fun _ o e => ⟨o, e⟩, fun _ _ q => q, rfl⟩
  exact ⟨⟨⟨c.g0.suf, fun _ h => .inl h, fun b o hb _ e => c.ks b o hb e, c.g0.there, c.g0.tup, c.g0.eqk⟩, c.ks, rfl⟩, ⟨paired_map c.sr.cells fun c' b _ q => q.grow0 gb fun _ e => e, c.sr.nd, fun b hb => c.sr.hid b (by rw [c.eh]; exact List.mem_cons_of_mem _ hb), c.sr.lnt⟩, gb⟩
theorem MkI.cell {cl : Cell} (c : MkI Z H1 m1 D H m S) (hD1 : H1 D = none) (r : CRel Z H m cl D) : Gr Z H1 m1 H ⟨D :: m.l, m1.h, m.k⟩ ∧ SRel Z H ⟨D :: m.l, m1.h, m.k⟩ (cl :: S) := by
  have gp : GrV Z H m H ⟨D :: m.l, m1.h, m.k⟩ := by
    refine ⟨⟨[D], rfl⟩, fun a o hn e => ⟨⟨fun h => ?_, fun h => hn.2 (by rw [c.eh]; exact List.mem_cons_of_mem _ h)⟩, e⟩, fun _ _ q => q, fun _ h => h⟩
    rcases List.mem_cons.mp h with z | z
    · exact hn.2 (by rw [c.eh, z]; exact List.mem_cons_self)
    · exact hn.1 z
  obtain ⟨_, sb, _⟩ := c.done
  refine ⟨⟨⟨?_, fun _ h => .inl h, fun b o hb _ e => c.ks b o hb e, c.g0.there, c.g0.tup, c.g0.eqk⟩, c.ks, rfl⟩, ⟨.cons (r.growV gp fun _ e => e) (paired_map c.sr.cells fun c' b _ q => q.growV gp fun _ e => e), List.nodup_cons.mpr ⟨c.dl, c.sr.nd⟩, sb.hid, fun q hq => ⟨fun z => (List.mem_cons.mp z).elim (c.nk q (by rw [← c.g0.eqk]; exact hq)) (c.sr.lnt q hq).1, (c.sr.lnt q hq).2⟩⟩⟩
  obtain ⟨ms, em, hms⟩ := c.g0.suf
  refine ⟨D :: ms, by rw [em]; rfl, fun a ha => ?_⟩
  rcases List.mem_cons.mp ha with z | z
  · rw [z]; exact hD1
  · exact hms a z
def newD (fz : Bool) (ks vs : List PV) (S : Hs) : RE := if fz then .ok (.dct ks vs) S else .ok (.loc S.length) (.dct ks vs :: S)
theorem MkI.dict {fz : Bool} (c : MkI Z H1 m1 D H m S) (hD1 : H1 D = none) (hn : D ∉ m1.h) (hD : Hdc H D es) (h1 : keysB ks = true) (h2 : es.map (·.1) = ks.map (hashK Z)) (h3 : RVs Z H m ks (es.map (·.2.1))) (h4 : RVs Z H m vs (es.map (·.2.2)))
    (hp : PostE Z W σ H1 m1 Q (newD fz ks vs S)) : Q (.ref D) H := by
  cases fz with
  | true =>
    obtain ⟨g, s', gb⟩ := c.done
    refine hp H _ (.ref D) g s' ?_
    unfold RV
    exact ⟨D, es, rfl, .inl ⟨⟨c.dl, hn⟩, hD⟩, h1, h2, h3.grow0 gb, h4.grow0 gb⟩
  | false =>
    obtain ⟨g, s'⟩ := c.cell (cl := .dct ks vs) hD1 ⟨es, hD, h1, h2, h3, h4⟩
    refine hp H _ (.ref D) g s' ?_
    unfold RV
    exact ⟨D, by rw [c.sr.len]; exact getR_top, rfl⟩
structure MkD (Z : Sta) (H1 : Hp) (m1 : Mp) (D : Addr) (H : Hp) (m : Mp) (S : Hs) (ks vs : List PV) : Prop where
  mi : MkI Z H1 m1 D H m S
  at_ : ∃ es, Hdc H D es ∧ DcR Z H m D es ks vs
theorem MkD.start (hD : H1 D = none) (s1 : SRel Z H1 m1 S) : MkD Z H1 m1 D (upd H1 D (dO D 0 [])) ⟨m1.l, D :: m1.h, m1.k⟩ S [] [] :=
  ⟨MkI.start hD s1, [], ⟨0, upd_same⟩, .inl ⟨0, upd_same⟩, rfl, rfl, RVs.nil, RVs.nil⟩
theorem MkD.grow {S' : Hs} (c : MkD Z H1 m1 D H m S ks vs) (g : Gr Z H m H2 m2) (s' : SRel Z H2 m2 S') : MkD Z H1 m1 D H2 m2 S' ks vs := by
  obtain ⟨es, ⟨ep, e⟩, d⟩ := c.at_
  obtain ⟨c', e'⟩ := c.mi.grow e g s'
  exact ⟨c', es, ⟨ep, e'⟩, .inl ⟨ep, e'⟩, d.kb, d.hs, d.ks.grow g, d.vs.grow g⟩
theorem MkD.put (gd : Good Z lv X W) (c : MkD Z H1 m1 D H m S ks vs) (hD1 : H1 D = none) (I : L2.Inv X pins σ H s) {j v : PV} {u w : Value} (hj : kindOk ks j = true) (hl : ks.length < 16777216) (rj : RV Z H m j y) (ru : RelV y u) (rv : RV Z H m v x) (rw' : RelV x w)
    {R : Unit → Shared → Prop} {E : Value → Shared → Prop} (hR : ∀ H' s', L2.Inv X pins σ H' s' → Gr0 Z H m H' m → MkD Z H1 m1 D H' m S (putKs ks j) (putVs ks j vs v) → R () s') : wpAny (model X.prog X.w) X.A (dictSet D u w) R E s := by
  obtain ⟨es, e, d⟩ := c.at_
  obtain ⟨es', h1, h2, h3, h4, hp⟩ := d.put e I gd.K gd.w hj rj ru rv rw'
  have fin : ∀ ep, Gr0 Z H m (upd H D (dO D ep es')) m ∧ MkD Z H1 m1 D (upd H D (dO D ep es')) m S (putKs ks j) (putVs ks j vs v) := fun ep => by
    have nt := no_tup_dO e
    obtain ⟨ep0, e⟩ := e
    obtain ⟨c', g0⟩ := c.mi.set (u := dO D ep es') hD1 e nt
    exact ⟨g0, c', es', ⟨ep, upd_same⟩, .inl ⟨ep, upd_same⟩, h4, h1, h2.grow0 g0, h3.grow0 g0⟩
  have room : (nestedKind X.prog X.w).room X.A := by
    have := gd.hu
    show X.A.units + 8 < cLine
    omega
  rcases hp with ⟨_, kvs, p1, p2, p3, p4⟩ | ⟨_, xs, b, p1, rfl, p2, p3, p4⟩
  · refine wpAny_dictSet_pairs (knd := mixKind X.prog X.w) (hsz := by rw [p3, sizeLine_eq]; omega) p2 p1 fun h' dd hs => ?_
    obtain ⟨ep, I'⟩ := p4 h' _ dd hs
    exact hR _ _ I' (fin ep).1 (fin ep).2
  · refine wpAny_dictSet_heap (hsz := by rw [p3, sizeLine_eq]; omega) room p2 p1 fun h' dd hs => ?_
    obtain ⟨ep, I'⟩ := p4 h' _ dd hs
    exact hR _ _ I' (fin ep).1 (fin ep).2
inductive DspOk (Z : Sta) (X : Cx) (W : WX) : List (Option Expr) → List Expr → (Loc → Hs → RA) → Prop where
  | nil : DspOk Z X W [] [] nilA
  | cons {e v : Expr} {es : List (Option Expr)} {vs : List Expr} {f g : Loc → Hs → RE} {ga : Loc → Hs → RA} : PE X e (tE Z W f) → PE X v (tE Z W g) → DspOk Z X W es vs ga → DspOk Z X W (some e :: es) (v :: vs) (consA f (consA g ga))
end
end MP
set_option maxRecDepth 100000
namespace MP
open PySem L2 PyProof.Rows RZ
section
variable {Z : Sta} {W : WX} {σ : L2.St} {H H1 H2 : Hp} {m m1 m2 : Mp} {X : Cx} {S : Hs} {x y : V} {a b D : Addr} {lv g k f : Nat} {T : Tab} {pins : List (Addr × Obj)} {s : Shared} {Q : VK} {c : CmpT} {p q : PV}
def SX (t : Bool) (K : PySem.W.Frag) (H : Hp) (a : Addr) (xs : List V) : Prop := match t with
  | true => SqT K H a xs
  | false => SqL K H a xs
def It1 (t : Bool) (h : Heap) (it l : Addr) (i : Nat) : Prop := match t with
  | true => h.IsTupleIter it l i
  | false => h.IsListIter it l i
def itO (t : Bool) (l : Addr) : Obj := match t with
  | true => { cls := .type "tuple_iterator", data := .fields #[.ref l, .int 0 0] }
  | false => { cls := .type "list_iterator", data := .fields #[.ref l, .int 0 0] }
theorem It1.new {t : Bool} {h : Heap} {it l : Addr} (e : h.get? it = some (itO t l)) : It1 t h it l 0 := by
  cases t <;> exact ⟨_, e, rfl, rfl⟩
theorem It1.at {t : Bool} {h h' : Heap} {it l : Addr} {i : Nat} (x : It1 t h it l i) (k : ∀ o, h.get? it = some o → h'.get? it = some o) : It1 t h' it l i := by
  cases t <;> exact Exists.elim x fun o z => ⟨o, k o z.1, z.2⟩
theorem It1.obj {t : Bool} {h : Heap} {it l : Addr} {i : Nat} (x : It1 t h it l i) : ∃ o, h.get? it = some o ∧ ∀ v, o.data ≠ .cell v := by
  cases t <;> exact Exists.elim x fun o z => ⟨o, z.1, fun v q => by rw [z.2.2] at q; cases q⟩
theorem SX.inj {t : Bool} {xs ys : List V} (I : L2.Inv X pins σ H s) (p : SX t X.K H a xs) (q : SX t X.K H a ys) : xs = ys := by
  cases t
  · exact I.list_inj p q
  · exact I.tuple_inj p q
theorem PostI.bindA {R : It → Hp → Prop} {r : RA} {f : List PV → Hs → RI} (h : PostI Z W σ H m R (match r with
    | .ok xs S => f xs S
    | .ex k v S => .ex k v S
    | .bad => .bad)) {R' : List V → Hp → Prop} (c : ∀ xs S H' m' ys, Gr Z H m H' m' → SRel Z H' m' S → RVs Z H' m' xs ys → PostI Z W σ H' m' R (f xs S) → R' ys H') : PostA Z W σ H m R' r := by
  cases r with
  | bad => exact h.elim
  | ex k v S => exact h
  | ok xs S =>
    intro H' m' ys g sr r
    refine c xs S H' m' ys g sr r ?_
    revert h
    simp only
    cases f xs S with
    | ok d S2 => exact fun h H2 m2 J g2 s2 d2 => h H2 m2 J (g.trans g2) s2 d2
    | ex k v S2 => exact fun h => PostX.grow g h
    | bad => exact fun h => h
end
end MP
set_option maxRecDepth 100000
namespace MP
open PySem L2 PyProof.Rows
section
variable {Z : Sta} {W : WX} {σ : L2.St} {H H1 H2 : Hp} {m m1 m2 : Mp} {X : Cx} {S : Hs} {x y : V} {a b : Addr} {lv g k f : Nat} {T : Tab} {pins : List (Addr × Obj)} {s : Shared} {Q : VK} {c : CmpT} {p q : PV}
def caseS (v c : PV) (b g : Loc → Hs → RS) : Loc → Hs → RS := fun L S => match eqV v c S with
  | .ok (.bl true) _ => b L S
  | .ok (.bl false) _ => g L S
  | _ => .bad
inductive CasesOk (Z : Sta) (X : Cx) (W : WX) : List MatchCase → (PV → Loc → Hs → RS) → Prop where
  | nil : CasesOk Z X W [] (fun _ => nilS)
  | dflt {p : Pos} {body : List Stmt} {b : Loc → Hs → RS} {rest : List MatchCase} : PSs X body (tS Z W b) → CasesOk Z X W (⟨.MatchAs none none p, none, body⟩ :: rest) (fun _ => b)
  | cons {e : Expr} {p : Pos} {body : List Stmt} {c : PV} {b : Loc → Hs → RS} {g : PV → Loc → Hs → RS} {rest : List MatchCase} : PE X e (tE Z W (conE c)) → PSs X body (tS Z W b) → CasesOk Z X W rest g →
      CasesOk Z X W (⟨.MatchValue e p, none, body⟩ :: rest) (fun v => caseS v c b (g v))
end
end MP
set_option maxRecDepth 100000
namespace MP
open PySem L2 PyProof.Rows
section
variable {Z : Sta} {W : WX} {σ : L2.St} {H H1 H2 : Hp} {m m1 m2 : Mp} {X : Cx} {S : Hs} {x y : V} {a D : Addr} {lv : Nat} {pins : List (Addr × Obj)} {s : Shared} {Q : VK}
theorem LRel.grow0 {L : Loc} (g : Gr0 Z H m H1 m1) (h : LRel Z H m L σ) : LRel Z H1 m1 L σ := ⟨h.1, fun i v e => let ⟨x, ex, r⟩ := h.2 i v e; ⟨x, ex, r.grow0 g⟩⟩
variable {N : List Str} {sc : Scope} {vs ls : List Nat} {gs : List Str}
end
end MP
set_option maxRecDepth 100000
namespace MP
open PySem L2 PyProof.Rows
def strK (ks : List (List Nat)) : List PV := ks.map PV.str
def valsK (K : Fr) (a : Addr) (vs : List PV) : Bool := match K.lookup a with
  | some ⟨_, _, .dict es _, _⟩ => pvB.pvsB (pvB K 8) vs (es.toList.map (·.val))
  | _ => false
section
variable {Z : Sta} {a : Addr}
theorem ent_of {w : World} : ∀ {ks : List (List Nat)} {vs : List PV} {ds : List DictEntry}, (∀ s ∈ ks, sOk s = true) → ds.map He.keyOf = He.keysIn w.params (ks.map fun s => ⟨s.toArray⟩) → pvB.pvsB (pvB Z.K 8) vs (ds.map (·.val)) = true → w = Z.w →
    ∃ es : List (Int × V × V), Paired EntR es ds ∧ es.map (·.1) = (strK ks).map (hashK Z) ∧ ∀ H m, RVs Z H m (strK ks) (es.map (·.2.1)) ∧ RVs Z H m vs (es.map (·.2.2))
  | [], [], [], _, _, _, _ => ⟨[], .nil, rfl, fun _ _ => ⟨RVs.nil, RVs.nil⟩⟩
  | [], _ :: _, [], _, _, h, _ => by cases h
  | _ :: _, _, [], _, h, _, _ => by cases h
  | [], _, _ :: _, _, h, _, _ => by cases h
  | _ :: _, [], _ :: _, _, _, h, _ => by cases h
  | k :: ks, v :: vs, d :: ds, ho, h, hv, hw => by
    have h1 : He.keyOf d :: ds.map He.keyOf = some (⟨k.toArray⟩, PyData.keyHash w.params ⟨k.toArray⟩) :: He.keysIn w.params (ks.map fun s => ⟨s.toArray⟩) := h
    injection h1 with h2 h3
    obtain ⟨q1, q2⟩ := ba2 (show (pvB Z.K 8 v d.val && pvB.pvsB (pvB Z.K 8) vs (ds.map (·.val))) = true from hv)
    obtain ⟨es, e1, e2, e3⟩ := ent_of (fun s hs => ho s (List.mem_cons_of_mem _ hs)) h3 q2 hw
    obtain ⟨u, r1, r2⟩ := pvB_ok q1
    unfold He.keyOf at h2
    split at h2
    · rename_i x t ek
      obtain ⟨h5, h6⟩ := Prod.mk.inj (Option.some.inj h2)
      have hk := k1_hash (Z := Z) (p := .str k) rfl
      refine ⟨(hashK Z (.str k), .str ⟨k.toArray⟩, u) :: es, .cons ⟨?_, ⟨t, by rw [ek, h5]⟩, r1⟩ e1, ?_, fun H m => ⟨RVs.cons (to_str (ho k List.mem_cons_self)) (e3 H m).1, RVs.cons (r2 H m) (e3 H m).2⟩⟩
      · rw [h6, hk, hw]
        rfl
      · rw [List.map_cons, e2]
        rfl
    · cases h2
theorem dct_known {ks : List (List Nat)} {vs : List PV} (hd : He.dicW Z.K a = some (He.keysIn Z.w.params (ks.map fun s => ⟨s.toArray⟩))) (hv : valsK Z.K a vs = true) (ho : ks.all sOk = true) (hk : keysB (strK ks) = true) (H : Hp) (m : Mp) : RV Z H m (.dct (strK ks) vs) (.ref a) := by
  unfold He.dicW at hd
  split at hd
  · rename_i c es n sl e
    split at hd
    · rename_i hc
      obtain ⟨c1, c2⟩ := ba2 hc
      obtain ⟨c2, c3⟩ := ba2 c2
      cases of_decide_eq_true c1
      unfold valsK at hv
      rw [e] at hv
      obtain ⟨es', e1, e2, e3⟩ := ent_of (fun s hs => List.all_eq_true.mp ho s hs) (Option.some.inj hd) hv rfl
      have e4 : sl = #[] := Array.isEmpty_iff.mp c2
      subst e4
      unfold RV
      exact ⟨a, es', rfl, .inr ⟨by rw [Bool.not_eq_true'] at c3; exact c3, _, es, n, e, ⟨rfl, rfl, rfl⟩, rfl, e1⟩, hk, e2, (e3 H m).1, (e3 H m).2⟩
    · cases hd
  · cases hd
end
section
variable {exL : List (Fr → Bool)} {dsL : List MDef} {txL : List DTab} {da ca : List (Fr → Addr)} {names : List Str} {Z : Sta}
theorem Ctx.dct (c : Ctx exL dsL txL da ca names Z) (i j t : Nat) {x : Str} {p : Fr → Addr} {ks : List (List Nat)} {vs : List PV} (h : exL[i]? = some fun K => gloK K x (p K)) (hv : exL[j]? = some fun K => valsK K (p K) vs) (ht : txL[t]? = some (p, ks.map fun s => ⟨s.toArray⟩))
    (ho : ks.all sOk = true) (hk : keysB (strK ks) = true) : ∃ u w, Z.mg x = some u ∧ RelV w u ∧ ∀ H m, RV Z H m (.dct (strK ks) vs) w :=
  ⟨_, .ref (p Z.K), c.glo i h, rfl, fun H m => dct_known (c.tx _ (List.mem_of_getElem? ht)) (c.at_ j hv) ho hk H m⟩
end
end MP
set_option maxRecDepth 100000
namespace MP
open PySem L2 PyProof.Rows
section
variable {Z : Sta} {W : WX} {σ : L2.St} {H H1 : Hp} {m m1 m2 : Mp} {X : Cx} {S : Hs} {x y : V} {a : Addr} {lv : Nat} {pins : List (Addr × Obj)} {s : Shared} {Q : VK}
theorem ok_subT2 {o i : Expr} {pos : Pos} {fo fi : Loc → Hs → RE} (gd : Good Z lv X W) (ho : PE X o (tE Z W fo)) (hi : PE X i (tE Z W fi))
    (ha : ∀ v, assign (.Subscript o i pos) X.env v = (do
      let ov ← holding [v] (eval o X.env)
      let iv ← holding [v, ov] (eval i X.env)
      standAt pos
      holding [v, ov, iv] (setItem ov iv v)
      release [v, ov, iv] [])) : PG X (.Subscript o i pos) (tG Z [] (subT2 fo fi)) := by
  refine PG.imp (PG.or (ok_subT (W := W) ho hi ha) (pg_sub ho hi (set_dct gd) ha)) ?_
  rintro x σ H Q ⟨m, L, S, v, sr, hl, rv, hp⟩
  have keep : subT2 fo fi v L S = subT fo fi v L S → (tG Z [] (subT fo fi)) x σ H Q := fun e => ⟨m, L, S, v, sr, hl, rv, by rw [← e]; exact hp⟩
  unfold subT2 at hp
  cases eo : fo L S with
  | bad => rw [eo] at hp; exact hp.elim
  | ex k v S1 => rw [eo] at hp; exact hp.elim
  | ok ov S1 =>
    rw [eo] at hp
    simp only at hp
    cases ei : fi L S1 with
    | bad => rw [ei] at hp; exact hp.elim
    | ex k v S2 => rw [ei] at hp; exact hp.elim
    | ok iv S2 =>
      rw [ei] at hp
      simp only at hp
      have lst : setV2 ov iv v S2 = setV ov iv v S2 → (tG Z [] (subT fo fi)) x σ H Q := fun e => by
        refine keep ?_
        unfold subT2 subT
        simp only [eo, ei, e] <;> rfl
      cases ov with
      | loc n =>
        cases ec : getR S2 n with
        | none => exact .inl (lst (by unfold setV2; simp only [ec]))
        | some c =>
          cases c with
          | lst xs => exact .inl (lst (by unfold setV2; simp only [ec]))
          | ins k ns xs => exact .inl (lst (by unfold setV2; simp only [ec]))
          | tab j => exact .inl (lst (by unfold setV2; simp only [ec]))
          | dct ks vs =>
            have e2 : setV2 (.loc n) iv v S2 = if kindOk ks iv && decide (ks.length < 16777216) then some (setR S2 n (.dct (putKs ks iv) (putVs ks iv vs v))) else none := by unfold setV2; simp only [ec]
            rw [e2] at hp
            split at hp
            · rename_i S3 e3
              split at e3
              · rename_i hc
                cases e3
                obtain ⟨c1, c2⟩ := ba2 hc
                refine .inr ⟨m, L, S, sr, hl, ?_⟩
                rw [eo]
                intro H1 m1 xo g1 s1 r1
                refine ⟨m1, L, S1, s1, hl.grow g1, ?_⟩
                rw [ei]
                intro H2 m2 xi g2 s2 r2
                refine ⟨m2, S2, n, iv, v, ks, vs, s2, r1.grow g2, r2, (rv.grow g1).grow g2, ec, c1, of_decide_eq_true c2, fun H' m' g3 s3 => ?_⟩
                exact hp H' m' σ ((g1.trans g2).trans g3) s3 (((hl.grow g1).grow g2).grow g3) Out.refl
              · cases e3
            · exact hp.elim
      | _ => unfold setV2 at hp; exact hp.elim
end
end MP
set_option maxRecDepth 100000
namespace MP
open PySem L2
section
variable {S : Hs} {xs : List PV} {v : PV} {i j : Int} {r : Nat} {c d : Cell}
theorem ix_at (h : getR S r = some (.lst xs)) : ixV2 (.loc r) (.int i) S = okO (atI xs i) S := by
  have e : dctOf S (.loc r) = none := by show (match getR S r with | some (.dct ks vs) => some (ks, vs) | _ => none) = none; rw [h]
  show (match dctOf S (.loc r) with | some (ks, vs) => _ | none => ixV (.loc r) (.int i) S) = _
  rw [e]
  show (match asQ S (.loc r) with | some ys => okO (atI ys i) S | none => RE.bad) = _
  have : asQ S (.loc r) = some xs := by show (match getR S r with | some (.lst xs) => some xs | _ => none) = _; rw [h]
  rw [this]
theorem sub_at {fo fi : Loc → Hs → RE} {L : Loc} {n : Nat} (h1 : fo L S = .ok (.loc r) S) (h2 : fi L S = .ok (.int i) S) (h3 : getR S r = some (.lst xs)) (h4 : ixN xs.length i = some n) : subT2 fo fi v L S = .nx L (setR S r (.lst (xs.set n v))) := by
  unfold subT2
  rw [h1]
  simp only
  rw [h2]
  simp only
  have e : setV2 (.loc r) (.int i) v S = setV (.loc r) (.int i) v S := by unfold setV2; simp only [h3]
  rw [e]
  unfold setV
  simp only [h3, h4, Option.map]
theorem ix_scr {ns : List Int} {k : Nat} (h : k < ns.length) : ixV2 (.scr ns) (.int k) S = .ok (.int ns[k]) S := by
  show okO (atI (ns.map PV.int) k) S = _
  have : atI (ns.map PV.int) (k : Int) = some (.int ns[k]) := by
    unfold atI
    have e : ixN (ns.map PV.int).length (k : Int) = some k := by
      unfold ixN
      simp [h]
    rw [e]
    simp [h]
  rw [this]
  rfl
theorem ix_lst2 : ixV2 (.lst xs) (.int i) S = okO (atI xs i) S := rfl
def PoolOk (p q : Int) : Prop := 0 ≤ q ∧ q ≤ 2147483647
def cel (p q : Int) : Cell := .lst [.int p, .int q]
end
end MP
set_option maxRecDepth 100000
namespace MP
open PySem L2 PyProof.Rows
structure InitF (B initId : String) : Prop where
  plain : plainId initId = true
  entry : entryFor table initId = some Builtin.«BaseException.__init__»
  kind : builtinKind initId = some .slot
  row : Manifest.signature? initId = some ⟨.positional, "*", B, .self, [⟨"args", .varPos, false⟩]⟩
  noStar : (B != "*") = true
theorem InitF.of {B newId initId : String} (F : ExcCallFacts B newId initId) : InitF B initId := ⟨F.init.plain, F.initEntry, F.initKind, F.initRow, F.noStar⟩
theorem InitF.ofC {B newId initId : String} (F : PyProof.Rows.ExcClass B newId initId) : InitF B initId := ⟨F.init.plain, F.initEntry, F.initKind, F.initSig, F.notStar⟩
section
variable {M : Model} {A : Around} {E : Value → Shared → Prop} {h : Heap} {g : Array GenState} {d : Drawn} {t : Nat} {os : OsState}
theorem bound_init {cls newId initId : String} (F : InitF cls initId) {nm q : Str} {C N e : Addr} {oe : Obj} {bs bm : List Value} {hdct : Bool} {sn : List Str} {sub : List Value} {ab : Bool} {col : Option Bool} {dd : Option Addr} {k0 k1 k2 k3 k5 : Option Value} {rest : List Value} {Q : Unit → Shared → Prop}
    (hC : h.get? C = some (excClassObj nm q C N bs bm hdct sn sub ab col dd k0 k1 k2 k3 k5 newId)) (he : h.get? e = some oe) (hcls : oe.cls = .ref C) (hq : Q () ⟨h, g, d, t, os⟩) : wpAny M A (checkBoundCall initId ⟨.ref e :: rest, []⟩) Q E ⟨h, g, d, t, os⟩ := by
  have hshort := F.noStar
  simp only [checkBoundCall, F.kind, F.row]
  repeat (first | (with_reducible refine wpAny_loadPart_at he ?_; rw [hcls]) | with_reducible refine wpAny_loadPart_at hC ?_ | wp_step)
  refine wpAny_onRaise ?_
  rw [show ∀ (a b : String) (n : Nat), Bind.check ⟨.positional, "*", cls, .self, [⟨"args", .varPos, false⟩]⟩ a b n (List.map (fun x => x.fst) ({ pos := Value.ref e :: rest } : Args).kw) = pure () from
    fun a b n => check_star_args _ _ _ _ _ _]
  exact wpAny_pure hq
end
section
open PySem.HandSPX
variable {M : Model} {A : Around} {E : Value → Shared → Prop} {h : Heap} {g : Array GenState} {d : Drawn} {t : Nat} {os : OsState}
variable {nm q : Str} {C N : Addr} {bs bm bmB : List Value} {hdct : Bool} {sn : List Str} {sub : List Value} {ab : Bool} {col : Option Bool} {dd : Option Addr} {k0 k1 k2 k3 k5 : Option Value} {B newId initId : String}
theorem check_new_b (F : ExcBaseFacts B newId initId bmB) (hB : bm.contains (.type B) = true) {rest : List Value} {Q : Unit → Shared → Prop}
    (hC : h.get? C = some (excClassObj nm q C N bs bm hdct sn sub ab col dd k0 k1 k2 k3 k5 newId)) (hq : Q () ⟨h, g, d, t, os⟩) : wpAny M A (checkBuiltinCall newId ⟨.ref C :: rest, []⟩) Q E ⟨h, g, d, t, os⟩ := by
  have hcont : (Value.ref C :: bm).contains (.type B) = true := by rw [List.contains_cons, hB, Bool.or_true]
  have hstar := F.noStar
  simp only [checkBuiltinCall, F.newKind, F.newSplit, F.newRow]
  repeat (first | refine wpAny_loadPart_at hC ?_ | (refine wpAny_isSubtype_exc hC ?_; rw [hcont]) | refine wpAny_staticBase_exc hC ?_ | refine wpAny_madeBy_exc hC ?_ | simp only [bne_self_eq_false, Bool.false_eq_true, if_false] | wp_step)
  exact hq
end
section
open PySem.HandSPX
variable {prog : Program} {w : World} {A : Around} {E : Value → Shared → Prop} {R : Result → Shared → Prop} {h : Heap} {g : Array GenState} {d : Drawn} {t : Nat} {os : OsState}
variable {nm q : Str} {C N : Addr} {bs bm bmB : List Value} {hdct : Bool} {sn : List Str} {sub : List Value} {ab : Bool} {col : Option Bool} {dd : Option Addr} {k0 k1 k2 k3 k5 : Option Value} {B newId initId : String}
theorem new_b (F : ExcBaseFacts B newId initId bmB) (hB : bm.contains (.type B) = true) (hA : bm.contains (.type "AttributeError") = false) (hN : bm.contains (.type "NameError") = false) {rest : List Value}
    (hC : h.get? C = some (excClassObj nm q C N bs bm hdct sn sub ab col dd k0 k1 k2 k3 k5 newId))
    (hq : R (.ok (.ret (.ref (h.objs.size + 1)))) ⟨(h.push { cls := .type "tuple", data := .seq rest.toArray }).push
      { cls := .ref C, data := .fields #[.ref h.objs.size, .none, .none, .none, .bool false, .none] }, g, d, t, os⟩) (hrest : rest.length ≤ sizeLine) :
    codeAny (model prog w) A (.builtin newId ⟨.ref C :: rest, []⟩) R ⟨h, g, d, t, os⟩ := by
  have hends := F.ends
  have hcB : (Value.ref C :: bm).contains (.type B) = true := by rw [List.contains_cons, hB, Bool.or_true]
  have hcA : (Value.ref C :: bm).contains (.type "AttributeError") = false := by rw [List.contains_cons, hA]; rfl
  have hcN : (Value.ref C :: bm).contains (.type "NameError") = false := by rw [List.contains_cons, hN]; rfl
  refine codeAny_builtinAt F.entry ?_
  unfold Builtin.«BaseException.__new__»
  refine _root_.PySem.wpAt_bind ?_
  show _root_.PySem.wpAt _ _ _ (stack >>= _) _ _ _
  refine _root_.PySem.wpAt_bind (_root_.PySem.wpAt_stack fun p below => _root_.PySem.wpAt_of_wpAny ?_)
  wp_walk
  refine _root_.PySem.wpAt_of_wpAny ?_
  rw [F.owner]
  repeat (first | with_reducible refine wpAny_madeHere_exc F.canon hC ?_ | with_reducible refine wpAny_loadPart_at hC ?_ | (with_reducible refine wpAny_isSubtype_exc hC ?_; first | rw [hcB] | rw [hcA] | rw [hcN]) | wp_step)
  show R _ _
  rw [Heap.size_push]
  exact hq
theorem type_call_b (F : ExcBaseFacts B newId initId bmB) (hB : bm.contains (.type B) = true) (hA : bm.contains (.type "AttributeError") = false) (hN : bm.contains (.type "NameError") = false) {rest : List Value} {fI : Addr} {Q : Fin → Shared → Prop}
    (hC : h.get? C = some (excClassObj nm q C N bs bm hdct sn sub ab col dd k0 k1 k2 k3 k5 newId))
    (hi : PySem.W.Looks (model prog w) h (typeLookup (.ref C) "__init__") (some (.ref fI))) (hb : ∀ self, PySem.W.Looks (model prog w) h (bindSpecial (.ref fI) self) (.ref fI, [self])) (hrest : rest.length ≤ sizeLine)
    (hq : codeAny (model prog w) A (.call (.ref fI) ⟨.ref (h.objs.size + 1) :: rest, []⟩)
      (fun r s' => match r with | .ok (.ret v) => v = .none ∧ Q (.done (.ret (.ref (h.objs.size + 1)))) s' | .ok _ => False | .error e => E e s')
      ⟨(h.push (PySem.W.kdv_tup rest)).push (excO C h.objs.size), g, d, t, os⟩) :
    wpAny (model prog w) A (Builtin.«type.__call__» ⟨.ref C :: rest, []⟩) Q E ⟨h, g, d, t, os⟩ := by
  repeat (first | with_reducible refine wpAny_loadPart_at hC ?_ | with_reducible refine wpAny_madeBy_exc hC ?_ | wp_step)
  refine codeAny_call_builtin_code (Code.quiet_builtin _ F.quiet) (check_new_b F hB hC ?_)
  refine new_b F hB hA hN hC ?_ hrest
  show wpAny _ _ _ _ _ _
  have k : ∀ b o, h.get? b = some o → ((h.push (PySem.W.kdv_tup rest)).push (excO C h.objs.size)).get? b = some o := fun b o e => Heap.get?_push_of_some _ (Heap.get?_push_of_some _ e)
  have hC₁ := k _ _ hC
  have hget : ((h.push (PySem.W.kdv_tup rest)).push (excO C h.objs.size)).get? (h.objs.size + 1) = some (excO C h.objs.size) := by heap_get
  have hcC : (Value.ref C :: bm).contains (.ref C) = true := by simp
  have i1 := hi.keeps k
  have b1 := (hb (.ref (h.objs.size + 1))).keeps k
  unfold isInstance
  repeat (first | with_reducible refine wpAny_loadPart_at hget ?_ | (with_reducible refine wpAny_isSubtype_exc hC₁ ?_; rw [hcC]) | wp_step)
  show wpAny _ _ (typeLookup (.ref C) _) _ _ _
  refine i1.at ?_
  refine wpAny_holding (wpAny_bind (b1.at ?_))
  refine wpAny_bind (wpAny_call (codeAny_mono hq fun r s' z => ?_))
  rcases r with e | (v | _ | _ | _) <;> first | exact z | exact z.elim | skip
  obtain ⟨rfl, z⟩ := z
  first
    | exact wpAny_pure (wpAny_pure z)
    | (wp_walk; exact z)
theorem call_b (F : ExcBaseFacts B newId initId bmB) (hB : bm.contains (.type B) = true) (hA : bm.contains (.type "AttributeError") = false) (hN : bm.contains (.type "NameError") = false) {rest : List Value} {fI : Addr}
    (hC : h.get? C = some (excClassObj nm q C N bs bm hdct sn sub ab col dd k0 k1 k2 k3 k5 newId))
    (hi : PySem.W.Looks (model prog w) h (typeLookup (.ref C) "__init__") (some (.ref fI))) (hb : ∀ self, PySem.W.Looks (model prog w) h (bindSpecial (.ref fI) self) (.ref fI, [self])) (hrest : rest.length ≤ sizeLine)
    (hq : codeAny (model prog w) (A.under (.builtin "type.__call__" ⟨.ref C :: rest, []⟩)) (.call (.ref fI) ⟨.ref (h.objs.size + 1) :: rest, []⟩) (PySem.W.InitBack (h.objs.size + 1) R)
      ⟨(h.push (PySem.W.kdv_tup rest)).push (excO C h.objs.size), g, d, t, os⟩) :
    codeAny (model prog w) A (.call (.ref C) ⟨rest, []⟩) R ⟨h, g, d, t, os⟩ := by
  have f1 := tc_lookup
  have f2 := tc_bind (.ref C)
  have hTy : (⟨h, g, d, t, os⟩ : Shared).TypeIs (.ref C) "type" := ⟨_, hC, rfl⟩
  refine codeAny_of_tree ?_
  show wpAny _ _ (callAny (.ref C) _) _ _ _
  repeat (any_goals (first | assumption | with_reducible refine wpAny_loadPart_at hC ?_ | wp_step))
  refine ⟨rfl, ?_⟩
  refine codeAny_call_builtin_at (Code.quiet_builtin _ (by decide +kernel)) entry_typeCall (wpAny_check_type_call_sub hC (type_call_b F hB hA hN hC hi hb hrest ?_))
  refine codeAny_mono hq fun r s' z => ?_
  rcases r with e | (v | _ | _ | _) <;> exact z
end
abbrev supBody (p0 p1 p2 p3 p4 p5 p6 p7 p8 p9 : Pos) : List Stmt :=
  [.Expr (.Call (.Attribute (.Call (.Name "super" p0) [] [] p1) "__init__" p2) [.Name "value" p3] [] p4) p5, .Assign [.Attribute (.Name "self" p6) "value" p7] (.Name "value" p8) p9]
def supScope (sc : Scope) : Bool := decide (sc.names.lookup ("self" : Str) = some NameKind.local) && decide (sc.names.lookup ("value" : Str) = some NameKind.local) && decide (sc.names.lookup ("super" : Str) = some NameKind.globalImplicit) && decide (sc.names.lookup ("__class__" : Str) = some NameKind.free) &&
  decide (sc.kind = .function) && !sc.isCoroutine && !sc.isGenerator && sc.names.all fun x => decide (x.2 ≠ .cell)
structure SupF (P : Program) (K : Fr) (fI D : Addr) (nm qual : Str) (params : Arguments) (body : List Stmt) (scope : Scope) : Prop where
  fn : ∃ (oc : Value) (od : Option Addr) (kV doc pm : Value) (an : Option Addr) (ct : Value) (osl : Array (Option Value)) (cc cda : Addr) (cl ccl : Value) (cld cdd : Option Addr) (csl ccs : Array (Option Value)) (vs : Array Value) (file : Str) (tf : Tok) (cdD : ClassData),
    K.lookup fI = some ⟨oc, od, .func (PySem.W.ksFn nm qual params body scope .none kV doc pm an (.ref cda) ct cc), osl⟩ ∧ PySem.W.codeIn K (.ref cda) qual = true ∧ K.lookup cc = some ⟨cl, cld, .cell (some (.ref D)), csl⟩ ∧
      K.lookup cda = some ⟨ccl, cdd, .fields vs, ccs⟩ ∧ vs[2]? = some (.str file tf) ∧ ((P.main.file : Str) == file) = true ∧ PySem.W.clsIn K D = some cdD
  sc : supScope scope = true
  bind : ∀ (kV doc pm : Value) (an : Option Addr) (cdv ct : Value) (cc : Addr) (a b : Value), bindArgs (PySem.W.ksFn nm qual params body scope .none kV doc pm an cdv ct cc) ⟨[a, b], []⟩ = pure [(("self" : Str), a), (("value" : Str), b)]
  hd : (params.posonlyargs ++ params.args).head?.map (·.arg) = some ("self" : Str)
  top : (P.main.scope.names.lookup ("super" : Str)).isSome = false
  sup : PySem.W.nsIn K mainGlobals "super" = some none
  opq : PySem.W.nsIn K cStatics "thirdparty.any" = some none
structure OexK (K : Fr) (C D fI : Addr) (B newId initId : String) (bmB : List Value) : Prop where
  cls : ∃ nm q N bs bm sn sub ab col dd k0 k1 k2 k3 k5, K.lookup C = some (excClassObj nm q C N bs bm true sn sub ab col dd k0 k1 k2 k3 k5 newId) ∧ PySem.W.excTail bmB bm = true
  sa : PySem.W.findIn K (.ref C) "__setattr__" = some (some (.builtin "object.__setattr__"))
  exC : PySem.W.subIn K (.ref C) (.type "BaseException") = some true
  tyC : PySem.W.typeIn K (.ref C) = some (.type "type")
  kC : PySem.W.keepIn K (.ref C) = true
  iC : PySem.W.findIn K (.ref C) "__init__" = some (some (.ref fI))
  tI : PySem.W.typeIn K (.ref fI) = some (.type "function")
  noV : PySem.W.findIn K (.ref C) "value" = some none
  sup : PySem.W.ks_superIn K C D "__init__" = some (some (.builtin initId))
  subD : PySem.W.mroIn K C (.ref D) = some true
  subB : PySem.W.subIn K (.ref C) (.type B) = some true
section
variable {P : Program} {w : World} {A : Around} {E : Value → Shared → Prop} {K : Fr} {C D fI x t0 : Addr} {B newId initId : String} {bmB : List Value} {nm qual : Str} {params : Arguments} {scope : Scope} {mg : Str → Option Value} {base hp : Heap} {g : Array GenState} {d : Drawn} {t : Nat} {os : OsState} {R : Result → Shared → Prop} {v : Value} {p0 p1 p2 p3 p4 p5 p6 p7 p8 p9 : Pos}
theorem wrap_call {u : Addr} {rest : List Value} {Q : Value → Shared → Prop} (FB : InitF B initId) (T : OexK K C D fI B newId initId bmB) (X : K.In hp) (hx : hp.get? x = some (HandSPX.excO C t0)) (hu : hp.get? u = some (PySem.W.kxs_mw initId x)) (hz : rest.length ≤ sizeLine)
    (h : ∀ h' t', (∀ b o, b ≠ x → hp.get? b = some o → h'.get? b = some o) → h'.get? x = some (HandSPX.excO C t') → Q .none ⟨h', g, d, t, os⟩) : wpAny (model P w) A (call (.ref u) rest) Q E ⟨hp, g, d, t, os⟩ := by
  obtain ⟨_, _, _, _, bm, _, _, _, _, _, _, _, _, _, _, hC, _⟩ := T.cls
  refine wpAny_call (codeAny_of_tree ?_)
  show wpAny _ A.in1 (callAny (.ref u) ⟨rest, []⟩) _ _ _
  simp only [callAny]
  refine wpAny_bind (wpAny_load hu ?_)
  have e1 : (Value.type "method-wrapper" == Value.type "method" || Value.type "method-wrapper" == Value.type "builtin_function_or_method" || Value.type "method-wrapper" == Value.type "method-wrapper") = true := by decide
  simp only [PySem.W.kxs_mw, e1, if_true]
  refine PySem.W.KFB.if_so (by decide) (wpAny_bind (bound_init FB (X _ _ hC) hx rfl ?_))
  refine wpAny_bind (wpAny_pure (wpAny_pure ⟨_root_.PySem.plainId_quiet FB.plain _, codeAny_builtin FB.entry ?_⟩))
  exact PySem.W.exc_init_tree (cls := .ref C) (t0 := t0) (dv := none) (c2 := .none) (c3 := .none) (b4 := .bool false) hx hz fun h' k e _ => h h' _ k e
theorem osa_gen {name : Str} {tk : Tok} {cd : ClassData} {bm : List Value} (hpass : ∀ self : Value, refuseLoop self "__setattr__" bmB = pure ()) (hobj : bmB.contains (.type "object") = true) (X : K.In hp) (hx : hp.get? x = some (HandSPX.excO C t0)) (hcd : PySem.W.clsIn K C = some cd)
    (hm : cd.mro = .ref C :: bm) (hbm : PySem.W.excTail bmB bm = true) (hh : cd.hasDict = true) (ha : PySem.W.findIn K (.ref C) name = some none)
    (hq : ∀ h' tk' dx, (∀ b o, b ≠ x → hp.get? b = some o → h'.get? b = some o) → hp.objs.size ≤ dx → dx ≠ x → h'.get? x = some { cls := .ref C, dict := some dx, data := .fields #[.ref t0, .none, .none, .none, .bool false, .none] } →
      h'.Ns1 dx (fun y => if y = name then some v else none) → R (.ok (.ret .none)) ⟨h', g, d, tk', os⟩) : codeAny (model P w) A (.call (.builtin "object.__setattr__") ⟨[.ref x, .str name tk, v], []⟩) R ⟨hp, g, d, t, os⟩ := by
  have tl : PySem.W.excTail bmB cd.mro = true := by rw [hm]; exact hbm
  have I : PySem.W.InstAt hp x (HandSPX.excO C t0) C none := ⟨hx, rfl, rfl, trivial⟩
  have ob : cd.mro.contains (.type "object") = true := (PySem.W.excTail_contains "object" _ tl).trans hobj
  have ne : cd.mro.isEmpty = false := by rw [hm]; rfl
  have ls := PySem.W.looks_clsIn (M := model P w) X hcd
  have isO : PySem.W.Looks (model P w) hp (isInstance (.ref x) (.type "object")) true :=
    I.type.andThen (PySem.W.looks_mroIn X (by unfold PySem.W.mroIn; rw [hcd, Option.bind_some, if_neg (by rw [ne]; exact Bool.false_ne_true), ob]))
  have hne : x ≠ hp.objs.size := Nat.ne_of_lt (Heap.lt_size hx)
  have SF := F.store_object
  refine codeAny_call_builtin SF.slot.plain SF.entry (@PySem.W.check_slot (model P w) _ _ ⟨hp, g, d, t, os⟩ "object.__setattr__" "object" "__setattr__" (.ref x) [.str name tk, v] [] _ SF.kind SF.split isO (SF.args (.ref x) (.str name tk) v) ?_)
  rw [PySem.W.osa_eq, _root_.PySem.refuse_eq]
  refine wpAny_bind (wpAny_bind (I.type.at (wpAny_bind ((ls.andThen .now : PySem.W.Looks (model P w) hp (mroOf (.ref C)) cd.mro).at ?_))))
  rw [PySem.W.excTail_pass (.ref x) (hpass _) _ tl]
  refine wpAny_pure (wpAny_bind (I.type.at (wpAny_bind ((PySem.W.looks_findIn X ha).at (wpAny_bind ((.now : PySem.W.Looks (model P w) hp (Builtin.ObjectAttr.storeTaker? none) none).at ?_))))))
  show wpAny _ _ (Builtin.ObjectAttr.storeInOwnDict (.ref x) (.ref C) (.str name tk) name v false) _ _ _
  obtain ⟨_, _, mro, _, _, hd, _, _, _, _, _⟩ := cd
  cases (show hd = true from hh)
  unfold Builtin.ObjectAttr.storeInOwnDict Builtin.ObjectAttr.ownDictForStores
  repeat (first | with_reducible refine HandSPX.store_in_new ?_ ?_ | with_reducible refine wpAny_loadPart_at hx ?_ | with_reducible refine ls.at ?_ | wp_step)
  · exact ⟨_, #[], _, (Heap.get?_update_ne _ _ _ _ hne.symm).trans (Heap.get?_push_at rfl rfl), rfl, fun e he => absurd he (by simp), fun _ => rfl⟩
  · intro h' tk' hn' hs
    refine hq h' tk' hp.objs.size (fun b o hb ho => (hs.2 b (Nat.ne_of_lt (Heap.lt_size ho))).trans ((Heap.get?_update_ne _ _ _ _ hb).trans (Heap.get?_push_of_some _ ho))) (Nat.le_refl _) hne.symm ?_ hn'
    exact (hs.2 x hne).trans (Heap.get?_update_self _ (Heap.get?_push_of_some { cls := .type "dict", data := .dict #[] } hx) rfl)
theorem sup_init (FB : InitF B initId) (KF : PySem.W.KxsFacts B initId) (hpass : ∀ self : Value, refuseLoop self "__setattr__" bmB = pure ()) (hobj : bmB.contains (.type "object") = true) (T : OexK K C D fI B newId initId bmB) (S : SupF P K fI D nm qual params (supBody p0 p1 p2 p3 p4 p5 p6 p7 p8 p9) scope)
    (hev : ∀ env : Env, ∃ pl, eval (.Call (.Attribute (.Call (.Name "super" p0) [] [] p1) "__init__" p2) [.Name "value" p3] [] p4) env = (do
      let ov ← attributeBase (.Call (.Name "super" p0) [] [] p1) "__init__" env (eval (.Call (.Name "super" p0) [] [] p1) env)
      standAt p2.atName
      let (f, first) ← holding [ov] (getMethod ov "__init__" pl)
      callWith p4 f first (backTo p4 (starEach [.Name "value" p3] env)) []))
    (M : Mod K mg base) (hm : mg ("super" : Str) = none) (kb : ∀ b o, base.get? b = some o → hp.get? b = some o) (nx : base.get? x = none) (hdep : A.depth < recursionLimit) (hx : hp.get? x = some (HandSPX.excO C t0))
    (h : ∀ h' tk dx t1, (∀ b o, b ≠ x → hp.get? b = some o → h'.get? b = some o) → hp.objs.size ≤ dx → dx ≠ x → h'.get? x = some { cls := .ref C, dict := some dx, data := .fields #[.ref t1, .none, .none, .none, .bool false, .none] } →
      h'.Ns1 dx (fun y => if y = "value" then some v else none) → R (.ok (.ret .none)) ⟨h', g, d, tk, os⟩) :
    codeAny (model P w) A (.call (.ref fI) ⟨[.ref x, v], []⟩) R ⟨hp, g, d, t, os⟩ := by
  obtain ⟨oc, od, kV, doc, pm, an, ct, osl, cc, cda, cl, ccl, cld, cdd, csl, ccs, vs, file, tf, cdD, lf, hcd, lcc, lcda, hvs, hfile, hD⟩ := S.fn
  have X0 : K.In hp := M.kin.keeps kb
  have hsc := S.sc
  unfold supScope at hsc
  simp only [Bool.and_eq_true, decide_eq_true_eq, Bool.not_eq_true'] at hsc
  obtain ⟨⟨⟨⟨⟨⟨⟨s1, s2⟩, s3⟩, s4⟩, s5⟩, s6⟩, s7⟩, s8⟩ := hsc
  have hcell : ∀ y ∈ scope.names, y.2 ≠ .cell := fun y hy => of_decide_eq_true (List.all_eq_true.mp s8 y hy)
  obtain ⟨mb, hb1, hb2⟩ := M.blt
  refine ks_codeAny_call_defAt (fd := PySem.W.ksFn nm qual params (supBody p0 p1 p2 p3 p4 p5 p6 p7 p8 p9) scope .none kV doc pm an (.ref cda) ct cc) (binds := [(("self" : Str), .ref x), (("value" : Str), v)]) hdep (X0 _ _ lf) rfl (M.nolimit.keeps kb) (PySem.W.codeRec_of X0 hcd) rfl
    (BindsTo.of_eq (S.bind kV doc pm an (.ref cda) ct cc (.ref x) v)) hcell (fun y hy => ?_) (fun h₀ hns hk => ?_) s6 s7 s5
  · rcases List.mem_cons.mp hy with rfl | hy
    · exact s1
    · rcases List.mem_cons.mp hy with rfl | hy
      · exact s2
      · cases hy
  have X1 : K.In h₀ := X0.keeps hk
  have hk0 : ∀ b o, base.get? b = some o → h₀.get? b = some o := fun b o e => hk b o (kb b o e)
  obtain ⟨ar, ea, har⟩ : ∃ ar, (params.posonlyargs ++ params.args).head? = some ar ∧ ar.arg = ("self" : Str) := by
    have := S.hd
    cases e : (params.posonlyargs ++ params.args).head? with
    | none => rw [e] at this; cases this
    | some ar => rw [e] at this; exact ⟨ar, rfl, Option.some.inj this⟩
  have hx1 := hk _ _ hx
  obtain ⟨oD, hD1, hD2⟩ : ∃ oD, h₀.get? D = some oD ∧ oD.data = .cls cdD := by
    unfold PySem.W.clsIn at hD
    split at hD
    · rename_i c d cd' sl ho
      cases hD
      exact ⟨_, X1 _ _ ho, rfl⟩
    · cases hD
  obtain ⟨pl, hev⟩ := hev (PySem.W.ksEnv qual scope hp.objs.size fI (.ref cda) cc)
  refine ks_wpAt_execs_cons (ks_wpAt_Expr_any (ks_wpAt_MethodCall (env := PySem.W.ksEnv qual scope hp.objs.size fI (.ref cda) cc) ?_ hev) (by show interactive (PySem.W.ksEnv qual scope hp.objs.size fI (.ref cda) cc) = false; unfold interactive; simp [s5]))
  refine ks_wpAt_super_base (env := PySem.W.ksEnv qual scope hp.objs.size fI (.ref cda) cc) s3 s4 rfl rfl (X1 _ _ lf) rfl ea rfl (X1 _ _ lcda) rfl hvs hfile S.top ?_
  refine PySem.W.ks_loadName_global s5 s3 (PySem.Calls.loadGlobal_builtin (env := PySem.W.ksEnv qual scope hp.objs.size fI (.ref cda) cc) (M.glob.keeps hk0) hm (hb1.keeps hk0) ((hb2 _ (by decide)).trans (show bootBuiltins "super" = some (.type "super") by decide +kernel)) ⟨rfl, ?_⟩)
  refine wpAny_loadName_free s5 s4 rfl ⟨_, X1 _ _ lcc, rfl⟩ ?_
  rw [har]
  refine wpAny_loadName_local s5 s1 hns rfl ?_
  refine ks_wpAny_isType_cls hD1 hD2 ⟨rfl, ?_⟩
  refine ks_wpAny_call_super hD1 hD2 hx1 rfl (fun c e => by cases e) (PySem.W.looks_mroIn X1 T.subD) (fun h2 e2 k2 => ?_)
  have X2 := X1.keeps k2
  have hx2 := k2 _ _ hx1
  have I2 : PySem.W.InstAt h2 x (HandSPX.excO C t0) C none := ⟨hx2, rfl, rfl, trivial⟩
  have hI : PySem.W.Looks (model P w) h2 (isInstance (.ref x) (.type B)) true := I2.type.andThen (PySem.W.looks_subIn X2 T.subB)
  cases hc : PySem.W.clsIn K C with
  | none => have q := T.sup; unfold PySem.W.ks_superIn at q; rw [hc] at q; cases q
  | some cdC =>
    have hsup := T.sup
    unfold PySem.W.ks_superIn at hsup
    rw [hc] at hsup
    refine PySem.W.kxs_getMethod KF e2 (PySem.W.looks_opaque X2 S.opq) (l₀ := cdC.mro) (fun A Q E s k q => wpAny_bind ((PySem.W.looks_clsIn X2 hc) A _ E s k (wpAny_pure q))) rfl X2 hsup hI (PySem.W.ks_ne X2 I2 hc) rfl ?_
    have k3 : ∀ b o, h2.get? b = some o → (h2.push (PySem.W.kxs_mw initId x)).get? b = some o := fun b o e => Heap.get?_push_of_some _ e
    have hw : (h2.push (PySem.W.kxs_mw initId x)).get? h2.objs.size = some (PySem.W.kxs_mw initId x) := Heap.get?_push_at rfl rfl
    have ns3 : (h2.push (PySem.W.kxs_mw initId x)).Ns hp.objs.size (fun y => [(("self" : Str), Value.ref x), (("value" : Str), v)].reverse.lookup y) := hns.keeps fun b o e => k3 b o (k2 b o e)
    have nmv : ∀ {q : Pos} {Q : Value → Shared → Prop} {E : Value → Shared → Prop} {h' : Heap} {tk : Nat}, h'.Ns hp.objs.size (fun y => [(("self" : Str), Value.ref x), (("value" : Str), v)].reverse.lookup y) → Q v ⟨h', g, d, tk, os⟩ →
        wpAny (model P w) (A.deeper (PySem.W.ksEnv qual scope hp.objs.size fI (.ref cda) cc)) (eval (.Name "value" q) (PySem.W.ksEnv qual scope hp.objs.size fI (.ref cda) cc)) Q E ⟨h', g, d, tk, os⟩ :=
      fun {_ Q E h' tk} hn q => wpAny_Name (wpAny_loadName_local (env := PySem.W.ksEnv qual scope hp.objs.size fI (.ref cda) cc) s5 s2 hn rfl q) (by decide)
    have nms : ∀ {q : Pos} {Q : Value → Shared → Prop} {E : Value → Shared → Prop} {h' : Heap} {tk : Nat}, h'.Ns hp.objs.size (fun y => [(("self" : Str), Value.ref x), (("value" : Str), v)].reverse.lookup y) → Q (.ref x) ⟨h', g, d, tk, os⟩ →
        wpAny (model P w) (A.deeper (PySem.W.ksEnv qual scope hp.objs.size fI (.ref cda) cc)) (eval (.Name "self" q) (PySem.W.ksEnv qual scope hp.objs.size fI (.ref cda) cc)) Q E ⟨h', g, d, tk, os⟩ :=
      fun {_ Q E h' tk} hn q => wpAny_Name (wpAny_loadName_local (env := PySem.W.ksEnv qual scope hp.objs.size fI (.ref cda) cc) s5 s1 hn rfl q) (by decide)
    refine PySem.W.kxs_callWith (i := initId) (x := x) rfl (PySem.Calls.evalArgs_plain (PyProof.Rows.spliced_more (pos := p4) (e := .Name "value" p3) (rest := []) (nmv ns3 ?_)))
    refine PyProof.Rows.spliced_none ⟨hw, ?_⟩
    refine wrap_call FB T (X2.keeps k3) (k3 _ _ hx2) hw (by rw [sizeLine_eq]; exact (show (1 : Nat) ≤ 16777216 by decide)) fun h4 t4 k4 e4 => ?_
    have k5 : ∀ b o, b ≠ x → hp.get? b = some o → h4.get? b = some o := fun b o n e => k4 b o n (k3 b o (k2 b o (hk b o e)))
    have X4 : K.In h4 := M.kin.keeps fun b o e => k5 b o (fun z => by rw [z, nx] at e; cases e) (kb b o e)
    have nL : hp.objs.size ≠ x := fun z => Nat.lt_irrefl x (by have := Heap.lt_size hx; rw [z] at this; exact this)
    have ns4 : h4.Ns hp.objs.size (fun y => [(("self" : Str), Value.ref x), (("value" : Str), v)].reverse.lookup y) := by
      obtain ⟨o, es, ep, e, r⟩ := ns3
      exact ⟨o, es, ep, k4 _ _ nL e, r⟩
    refine ks_wpAt_execs_cons (ks_wpAt_Assign_Attr (wpAt_of_wpAny (nmv ns4 (nms ns4 ?_))))
    obtain ⟨_, _, _, _, bm, _, _, _, _, _, _, _, _, _, _, hC, hbm⟩ := T.cls
    have hcl : PySem.W.clsIn K C = some cdC := hc
    have hcd2 : cdC.mro = .ref C :: bm ∧ cdC.hasDict = true := by
      unfold PySem.W.clsIn at hc
      rw [hC] at hc
      have := Option.some.inj hc
      subst this
      exact ⟨rfl, rfl⟩
    refine PySem.W.set_plain X4 (ox := HandSPX.excO C t4) (od := none) ⟨e4, rfl, rfl, trivial⟩ T.sa ?_
    refine osa_gen hpass hobj X4 e4 hc hcd2.1 hbm hcd2.2 T.noV (fun h6 tk6 dx k6 dn dne e6 n6 => ?_)
    refine wpAt_of_wpAny (wpAny_execs_nil ?_)
    exact h h6 tk6 dx t4 (fun b o n e => k6 b o n (k5 b o n e)) (Nat.le_trans (Nat.le_of_lt (let ⟨_, _, _, e, _⟩ := ns4; Heap.lt_size e)) dn) dne e6 n6
structure Fam (B newId initId : String) (bmB : List Value) : Prop where
  FC : InitF B initId
  KF : PySem.W.KxsFacts B initId
  pass : ∀ self : Value, refuseLoop self "__setattr__" bmB = pure ()
  obj : bmB.contains (.type "object") = true
  own : ∀ {prog : Program} {w : World} {A : Around} {R : Result → Shared → Prop} {h : Heap} {g : Array GenState} {d : Drawn} {t : Nat} {os : OsState} {nm q : Str} {C N fI : Addr} {bs bm : List Value} {sn : List Str} {sub : List Value} {ab : Bool} {col : Option Bool} {dd : Option Addr} {k0 k1 k2 k3 k5 : Option Value} {rest : List Value},
    PySem.W.excTail bmB bm = true → h.get? C = some (excClassObj nm q C N bs bm true sn sub ab col dd k0 k1 k2 k3 k5 newId) → PySem.W.Looks (model prog w) h (typeLookup (.ref C) "__init__") (some (.ref fI)) →
      (∀ self, PySem.W.Looks (model prog w) h (bindSpecial (.ref fI) self) (.ref fI, [self])) → rest.length ≤ sizeLine →
      codeAny (model prog w) (A.under (.builtin "type.__call__" ⟨.ref C :: rest, []⟩)) (.call (.ref fI) ⟨.ref (h.objs.size + 1) :: rest, []⟩) (PySem.W.InitBack (h.objs.size + 1) R) ⟨(h.push (PySem.W.kdv_tup rest)).push (HandSPX.excO C h.objs.size), g, d, t, os⟩ →
      codeAny (model prog w) A (.call (.ref C) ⟨rest, []⟩) R ⟨h, g, d, t, os⟩
theorem fam_VE : Fam "ValueError" "ValueError.__new__" "ValueError.__init__" [.type "ValueError", .type "Exception", .type "BaseException", .type "object"] :=
  ⟨.of F.excBase_ValueError.toExcCallFacts, PySem.W.kxs_ValueError, F.store_ValueError.passes, by decide +kernel, fun hb hC hi hbn hr hq => HandSPX.call_own F.excBase_ValueError (fun Y => PySem.W.excTail_contains Y _ hb) hC hi hbn hr hq⟩
theorem fam_OE : Fam "OverflowError" "OverflowError.__new__" "OverflowError.__init__" [.type "OverflowError", .type "ArithmeticError", .type "Exception", .type "BaseException", .type "object"] :=
  ⟨.of F.excBase_OverflowError.toExcCallFacts, PySem.W.kxs_OverflowError, fun self => by kernel_rfl, by decide +kernel, fun hb hC hi hbn hr hq => HandSPX.call_own F.excBase_OverflowError (fun Y => PySem.W.excTail_contains Y _ hb) hC hi hbn hr hq⟩
theorem kxs_KeyError : PySem.W.KxsFacts "KeyError" "KeyError.__init__" := ⟨by show builtinType _ = _; rw [builtinType_eq_fast]; kernel_rfl, by first | kernel_rfl | rfl⟩
theorem fam_KE : Fam "KeyError" "LookupError.__new__" "KeyError.__init__" [.type "KeyError", .type "LookupError", .type "Exception", .type "BaseException", .type "object"] :=
  ⟨.ofC PyProof.Rows.excClass_KeyError, kxs_KeyError, fun self => by kernel_rfl, by decide +kernel, fun hb hC hi hbn hr hq => call_b F.excBase_LookupError ((PySem.W.excTail_contains "LookupError" _ hb).trans (by decide +kernel)) ((PySem.W.excTail_contains "AttributeError" _ hb).trans (by decide +kernel)) ((PySem.W.excTail_contains "NameError" _ hb).trans (by decide +kernel)) hC hi hbn hr hq⟩
theorem make_oex {Z : Sta} {lv : Nat} {X : Cx} {W : WX} {pins : List (Addr × Obj)} {σ : L2.St} {H : Hp} {s : Shared} {Q : XK} {y : V} {u : Value} (gd : Good Z lv X W) (FM : Fam B newId initId bmB) (T : OexK Z.K C D fI B newId initId bmB) (S : SupF Z.P Z.K fI D nm qual params (supBody p0 p1 p2 p3 p4 p5 p6 p7 p8 p9) scope)
    (hev : ∀ env : Env, ∃ pl, eval (.Call (.Attribute (.Call (.Name "super" p0) [] [] p1) "__init__" p2) [.Name "value" p3] [] p4) env = (do
      let ov ← attributeBase (.Call (.Name "super" p0) [] [] p1) "__init__" env (eval (.Call (.Name "super" p0) [] [] p1) env)
      standAt p2.atName
      let (f, first) ← holding [ov] (getMethod ov "__init__" pl)
      callWith p4 f first (backTo p4 (starEach [.Name "value" p3] env)) []))
    (hm : Z.mg ("super" : Str) = none) (I : L2.Inv X pins σ H s) (ry : RelV y u) (q : ∀ d, H d = none → Q (.ref C) (some d) (L2.upd H d (.xd [("value", y)]))) : wpAny (model X.prog X.w) X.A (call (.ref C) [u]) (MkP X pins σ Q) X.xe s := by
  obtain ⟨nmC, qC, N, bs, bm, sn, sub, ab, col, dd, k0, k1, k2, k3, k5, hC, hbm⟩ := T.cls
  have kI : Z.K.In s.heap := by rw [← gd.K]; exact I.kIn
  have e0 := I.env0
  have bs0 : ∀ b o, X.base.get? b = some o → s.heap.get? b = some o := fun b o e => (e0.bs b o e).1
  have bsz := e0.bsz
  have md : Mod Z.K Z.mg X.base := by rw [← gd.K, ← gd.mg]; exact e0.mod
  have J := I
  obtain ⟨hp, g, dr, tk, os⟩ := s
  have kk : ∀ b o, hp.get? b = some o → ((hp.push (PySem.W.kdv_tup [u])).push (HandSPX.excO C hp.objs.size)).get? b = some o := fun b o e => Heap.get?_push_of_some _ (Heap.get?_push_of_some _ e)
  have hget : ((hp.push (PySem.W.kdv_tup [u])).push (HandSPX.excO C hp.objs.size)).get? (hp.objs.size + 1) = some (HandSPX.excO C hp.objs.size) := by heap_get
  refine wpAny_call (FM.own hbm (kI _ _ hC) (PySem.W.looks_findIn kI T.iC) (fun self => PySem.W.bind_fn kI self T.tI) (by rw [sizeLine_eq]; exact (show (1 : Nat) ≤ 16777216 by decide)) ?_)
  rw [gd.prog]
  refine sup_init FM.FC FM.KF FM.pass FM.obj T S hev md hm (fun b o e => kk b o (bs0 b o e)) ?_ ((gd.room.make C [u] []).depth) hget fun h' tk' dx t1 k dn dne hx hn => ⟨rfl, ?_⟩
  · cases e : X.base.get? (hp.objs.size + 1) with
    | none => rfl
    | some o =>
      have h1 : X.base.objs.size ≤ hp.objs.size := bsz
      have h2 : hp.objs.size + 1 < X.base.objs.size := Heap.lt_size e
      omega
  · obtain ⟨G, g1, g2⟩ := L2.restrict h' fun b => decide (b ≠ hp.objs.size + 1)
    have gk : ∀ b, b ≠ hp.objs.size + 1 → G.get? b = h'.get? b := fun b hb => g1 b (decide_eq_true hb)
    have ge : G.get? (hp.objs.size + 1) = none := g2 _ (by simp)
    have ltx : ∀ {b : Addr} {o : Obj}, hp.get? b = some o → b ≠ hp.objs.size + 1 := fun {b o} e z => by
      have h1 : hp.objs.size + 1 < hp.objs.size := by rw [← z]; exact Heap.lt_size e
      exact Nat.not_lt_of_le (Nat.le_succ _) h1
    have kG : ∀ b o, hp.get? b = some o → G.get? b = some o := fun b o e => (gk b (ltx e)).trans (k b o (ltx e) (kk b o e))
    have dle : hp.objs.size ≤ dx := by
      have h1 : ((hp.push (PySem.W.kdv_tup [u])).push (HandSPX.excO C hp.objs.size)).objs.size ≤ dx := dn
      rw [Heap.size_push, Heap.size_push] at h1
      omega
    have hnd : H dx = none := I.hok.fresh dle
    have ok : ObjOk X.prog X.w (L2.upd H dx (.xd [("value", y)])) G dx (.xd [("value", y)]) :=
      ⟨_, hn.at fun o e => (gk dx dne).trans e, relO_put (fs := []) ry fun f => True.intro⟩
    have IG := J.laid (t' := tk') kG dle ok
    refine ⟨hp.objs.size + 1, _, _, _, _, .ref C, some dx, rfl, IG, fun b o e => ?_, ge, hx, ⟨rfl, rfl⟩, rfl, rfl, ?_, rfl, I.bare, L2.raises_own (by rw [gd.K]; exact T.exC) (by rw [gd.K]; exact T.tyC), q dx hnd⟩
    · by_cases hb : b = hp.objs.size + 1
      · rw [hb, ge] at e; cases e
      · exact (gk b hb).symm.trans e
    · rw [upd_ne (Ne.symm dne)]
      exact I.hok.fresh (Nat.le_succ _)
end
end MP
set_option maxRecDepth 100000
namespace MP
open PySem L2 PyProof.Rows
section
variable {Z : Sta} {W : WX} {σ : L2.St} {H H1 : Hp} {m m1 m2 : Mp} {X : Cx} {S : Hs} {x y : V} {a : Addr} {lv k : Nat} {pins : List (Addr × Obj)} {s : Shared} {Q : VK}
def MakesX (Z : Sta) (k : Nat) : Prop := PySem.W.keepIn Z.K (.ref (Z.G k)) = true ∧ ∀ {lv : Nat} {X : Cx} {W : WX} {pins : List (Addr × Obj)} {σ : L2.St} {H : Hp} {s : Shared} {Q : XK} {y : V} {u : Value}, Good Z lv X W → L2.Inv X pins σ H s → RelV y u →
  (∀ d, H d = none → Q (.ref (Z.G k)) (some d) (L2.upd H d (.xd [("value", y)]))) → wpAny (model X.prog X.w) X.A (call (.ref (Z.G k)) [u]) (MkP X pins σ Q) X.xe s
end
end MP
set_option maxRecDepth 100000
namespace MP
open PySem L2 PyProof.Rows
abbrev HdT : Type := Value × Option Nat × (Addr → Value → Option Addr → TS)
inductive HdsA (X : Cx) : List ExceptHandler → List HdT → Prop
  | nil : HdsA X [] []
  | one {x : Str} {c : Value} {ts : Addr → Value → Option Addr → TS} {b₀ : Stmt} {suite : List Stmt} {np pos' : Pos} {hds : List ExceptHandler} {l : List HdT} (hc : Names X x c)
      (hsu : ∀ (a : Addr) (oe : Obj) (cls : Value) (d : Option Addr) (pn : List (Addr × Obj)), Zc cls d oe → (∃ vs, oe.data = .fields vs) → PSs (X.suite a ((a, oe) :: pn)) (b₀ :: suite) (ts a cls d)) (r : HdsA X hds l) :
      HdsA X (.ExceptHandler (some (.Name x np)) none (b₀ :: suite) pos' :: hds) ((c, none, ts) :: l)
  | nam {x n : Str} {i : Nat} {c : Value} {ts : Addr → Value → Option Addr → TS} {b₀ : Stmt} {suite : List Stmt} {np pos' : Pos} {hds : List ExceptHandler} {l : List HdT} (hi : X.N[i]? = some n) (hln : X.env.kindOf n = some .local) (hc : Names X x c)
      (hsu : ∀ (a : Addr) (oe : Obj) (cls : Value) (d : Option Addr) (pn : List (Addr × Obj)), Zc cls d oe → (∃ vs, oe.data = .fields vs) → PSs (X.suite a ((a, oe) :: pn)) (b₀ :: suite) (ts a cls d)) (r : HdsA X hds l) :
      HdsA X (.ExceptHandler (some (.Name x np)) (some n) (b₀ :: suite) pos' :: hds) ((c, some i, ts) :: l)
abbrev HdF : Type := Nat → PV → Loc → Hs → RS
structure Hd where
  tk : Nat → Option Bool
  i : Option Nat
  h : HdF
abbrev WNo : WX := fun _ _ _ _ => False
def tHd (Z : Sta) (o : Option Nat) (h : HdF) (a : Addr) (cls : Value) (d : Option Addr) : TS := fun D σ H => ∃ k v m L S, cls = .ref (Z.G k) ∧ (∀ i, o = some i → σ[i]? = some (some (.ref a))) ∧ SRel Z H m S ∧ LRel Z H m L σ ∧ ExcAt Z H m v d ∧ PostS Z WNo D H m (h k v L S)
inductive HdsM (Z : Sta) (X : Cx) : List ExceptHandler → List Hd → Prop
  | nil : HdsM Z X [] []
  | one {x : Str} {c : Value} {tk : Nat → Option Bool} {h : HdF} {b₀ : Stmt} {suite : List Stmt} {np pos' : Pos} {hds : List ExceptHandler} {l : List Hd} (hc : Names X x c) (ht : ∀ k b, tk k = some b → PySem.W.exmOne Z.K (.ref (Z.G k)) c = some b)
      (hsu : ∀ (a : Addr) (oe : Obj) (cls : Value) (d : Option Addr) (pn : List (Addr × Obj)), Zc cls d oe → (∃ vs, oe.data = .fields vs) → PSs (X.suite a ((a, oe) :: pn)) (b₀ :: suite) (tHd Z none h a cls d)) (r : HdsM Z X hds l) :
      HdsM Z X (.ExceptHandler (some (.Name x np)) none (b₀ :: suite) pos' :: hds) (⟨tk, none, h⟩ :: l)
  | nam {x n : Str} {i : Nat} {c : Value} {tk : Nat → Option Bool} {h : HdF} {b₀ : Stmt} {suite : List Stmt} {np pos' : Pos} {hds : List ExceptHandler} {l : List Hd} (hi : X.N[i]? = some n) (hln : X.env.scope.names.lookup n = some .local) (hc : Names X x c) (ht : ∀ k b, tk k = some b → PySem.W.exmOne Z.K (.ref (Z.G k)) c = some b)
      (hsu : ∀ (a : Addr) (oe : Obj) (cls : Value) (d : Option Addr) (pn : List (Addr × Obj)), Zc cls d oe → (∃ vs, oe.data = .fields vs) → PSs (X.suite a ((a, oe) :: pn)) (b₀ :: suite) (tHd Z (some i) h a cls d)) (r : HdsM Z X hds l) :
      HdsM Z X (.ExceptHandler (some (.Name x np)) (some n) (b₀ :: suite) pos' :: hds) (⟨tk, some i, h⟩ :: l)
end MP
set_option maxRecDepth 100000
namespace MP
open PySem L2 PyProof.Rows
structure ExK (K : Fr) (C : Addr) : Prop where
  hd : PySem.W.hasDictIn K C = true
  ga : PySem.W.findIn K (.ref C) "__getattribute__" = some (some (.builtin "BaseException.__getattribute__"))
  gg : PySem.W.findIn K (.ref C) "__getattr__" = some none
  ec : PySem.W.subIn K (.ref C) (.type "BaseException") = some true
  nv : PySem.W.findIn K (.ref C) "value" = some none
  ca : PySem.W.findIn K (.ref C) "__class__" = some (some (.builtin "object.__class__"))
  cn : PySem.W.specialIn K (.builtin "object.__class__") "__get__" = some (some (.builtin "getset_descriptor.__get__"))
  tk : PySem.W.takesIn K (.builtin "object.__class__") = some true
  mr : PySem.W.mroIn K C (.type "object") = some true
  ty : PySem.W.typeIn K (.ref C) = some (.type "type")
theorem exB_ok {K : Fr} {C : Addr} (h : exB K C = true) : ExK K C := by
  unfold exB at h
  simp only [Bool.and_eq_true, decide_eq_true_eq] at h
  obtain ⟨⟨⟨⟨⟨⟨⟨⟨⟨h1, h2⟩, h3⟩, h4⟩, h5⟩, h6⟩, h7⟩, h8⟩, h9⟩, h10⟩ := h
  exact ⟨h1, eqB'_ok h2, eqB'_ok h3, h4, eqB'_ok h5, eqB'_ok h6, eqB'_ok h7, h8, h9, h10⟩
inductive HI where
  | con (v : PV) | val | isin (b : Nat → Option Bool)
def itV (ok : Nat → Bool) (k : Nat) (v : PV) : HI → Option PV
  | .con w => some w
  | .val => if ok k then some v else none
  | .isin b => if ok k then (b k).map .bl else none
structure InH (Z : Sta) (i : Nat) (a : Addr) (cls : Value) (d : Option Addr) (σ : L2.St) (H : Hp) (m : Mp) (k : Nat) (v : PV) : Prop where
  ec : cls = .ref (Z.G k)
  hi : σ[i]? = some (some (.ref a))
  ex : ExcAt Z H m v d
def tIt (Z : Sta) (ok : Nat → Bool) (i : Nat) (a : Addr) (cls : Value) (d : Option Addr) (it : HI) : TE := fun σ H Q => ∃ m k v w, InH Z i a cls d σ H m k v ∧ itV ok k v it = some w ∧ ∀ x, RV Z H m w x → Q x H
section
variable {Z : Sta} {W : WX} {σ : L2.St} {H H1 : Hp} {m m1 m2 : Mp} {X : Cx} {S : Hs} {x y : V} {a : Addr} {lv k i : Nat} {pins : List (Addr × Obj)} {s : Shared} {Q : VK} {oe : Obj} {cls : Value} {d : Option Addr} {pn : List (Addr × Obj)} {ok : Nat → Bool}
inductive ItsOk (Z : Sta) (X : Cx) (ok : Nat → Bool) (i : Nat) (a : Addr) (oe : Obj) (cls : Value) (d : Option Addr) (pn : List (Addr × Obj)) : List Expr → List HI → Prop
  | nil : ItsOk Z X ok i a oe cls d pn [] []
  | cons {e : Expr} {es : List Expr} {it : HI} {its : List HI} (h : PE (X.suite a ((a, oe) :: pn)) e (tIt Z ok i a cls d it)) (hs : starEach (e :: es) X.env = (false, eval e X.env) :: starEach es X.env) (r : ItsOk Z X ok i a oe cls d pn es its) : ItsOk Z X ok i a oe cls d pn (e :: es) (it :: its)
end
end MP
set_option maxRecDepth 100000
namespace MP
open PySem L2 PyProof.Rows
theorem codeFileB_ok {K : Fr} {fileL : Str} {v : Value} (h : codeFileB K fileL v = true) : ∃ cda ccl cdd vs ccs tf, v = .ref cda ∧ K.lookup cda = some ⟨ccl, cdd, .fields vs, ccs⟩ ∧ (vs[2]? : Option Value) = some (.str fileL tf) := by
  unfold codeFileB at h
  split at h
  · rename_i cda
    split at h
    · rename_i ccl cdd vs ccs e
      split at h
      · rename_i file tf ev
        obtain rfl := beq_iff_eq.mp h
        exact ⟨cda, ccl, cdd, vs, ccs, tf, rfl, e, ev⟩
      · cases h
    · cases h
  · cases h
theorem cellOfB_ok {K : Fr} {D : Addr} {l : List (Str × Addr)} (h : cellOfB K D l = true) : ∃ nm cc cl cld csl, l = [(nm, cc)] ∧ K.lookup cc = some ⟨cl, cld, .cell (some (.ref D)), csl⟩ := by
  unfold cellOfB at h
  split at h
  · rename_i nm cc
    split at h
    · rename_i cl cld d csl e
      obtain rfl := beq_iff_eq.mp h
      exact ⟨nm, cc, cl, cld, csl, rfl, e⟩
    · cases h
  · cases h
theorem supB_ok {P : Program} {K : Fr} {D : Addr} {fileL : Str} {d : MDef} {p0 p1 p2 p3 p4 p5 p6 p7 p8 p9 : Pos} (hP : SupP P fileL) (h : supB K (d.adr K) D fileL = true) (M : MOk K d) (hc : d.clo = [("__class__" : Str)]) (hb : d.body = supBody p0 p1 p2 p3 p4 p5 p6 p7 p8 p9) (hs : supScope d.scope = true)
    (bind : ∀ (kV doc pm : Value) (an : Option Addr) (cdv ct : Value) (cc : Addr) (a b : Value), bindArgs (PySem.W.ksFn d.name d.qual d.params (supBody p0 p1 p2 p3 p4 p5 p6 p7 p8 p9) d.scope .none kV doc pm an cdv ct cc) ⟨[a, b], []⟩ = pure [(("self" : Str), a), (("value" : Str), b)])
    (hd : (d.params.posonlyargs ++ d.params.args).head?.map (·.arg) = some ("self" : Str)) : SupF P K (d.adr K) D d.name d.qual d.params (supBody p0 p1 p2 p3 p4 p5 p6 p7 p8 p9) d.scope := by
  obtain ⟨_, e, ok⟩ := M
  unfold supB at h
  obtain ⟨h, h4⟩ := ba2 h
  obtain ⟨h, h3⟩ := ba2 h
  obtain ⟨h1, h2⟩ := ba2 h
  obtain ⟨cdD, hD⟩ := Option.isSome_iff_exists.mp h3
  obtain ⟨_, c2⟩ := ba2 ok
  unfold fnM at e
  cases q : K.lookup (d.adr K) with
  | none => rw [q] at c2; cases c2
  | some o =>
    obtain ⟨oc, od, dt, osl⟩ := o
    rw [q] at c2 e h4
    cases dt with
    | func fd =>
      obtain ⟨n1, n2, n3, n4, n5, n6, n7, n8, n9, n10, n11, n12, n13, n14, n15⟩ := fd
      have e2 : (some (n1, n2, n3, n4, n5, n6, n7.map fun p => (p.1, (0 : Addr)), n15) : He.FnW) = some (d.name, d.qual, d.params, FuncBody.stmts d.body, d.scope, mainGlobals, [(("__class__" : Str), (0 : Addr))], builtinsNs) := by
        have e3 : (some (n1, n2, n3, n4, n5, n6, n7.map fun p => (p.1, (0 : Addr)), n15) : He.FnW) = d.val := e
        rw [e3]
        unfold MDef.val
        rw [hc]
        rfl
      simp only [Option.some.injEq, Prod.mk.injEq] at e2
      obtain ⟨k1, k2, k3, k4, k5, k6, k7, k8⟩ := e2
      subst k1 k2 k3 k4 k5 k6 k8
      obtain ⟨h5, h6⟩ := ba2 (show (decide (n8 = .none) && codeFileB K fileL n13 && cellOfB K D n7) = true from h4)
      obtain ⟨h7, h8⟩ := ba2 h5
      obtain rfl : n8 = .none := of_decide_eq_true h7
      obtain ⟨g1, _⟩ := ba2 (show (PySem.W.codeIn K n13 d.qual && (He.dflB K .none (d.dfl K) && He.kwdB K n9 (d.kwd K))) = true from c2)
      obtain ⟨cda, ccl, cdd, vs, ccs, tf, rfl, hcda, hv⟩ := codeFileB_ok h8
      obtain ⟨nm, cc, cl, cld, csl, rfl, hcc⟩ := cellOfB_ok h6
      have : nm = ("__class__" : Str) := by
        simp only [List.map_cons, List.map_nil, List.cons.injEq, Prod.mk.injEq, and_true] at k7
        exact k7
      subst this
      refine ⟨⟨oc, od, n9, n10, n11, n12, n14, osl, cc, cda, cl, ccl, cld, cdd, csl, ccs, vs, fileL, tf, cdD, ?_, g1, hcc, hcda, hv, hP.file, hD⟩, hs, bind, hd, hP.top, eqB'_ok h1, eqB'_ok h2⟩
      rw [q, hb]
    | _ => cases c2
theorem oexB_ok {K : Fr} {C D fI : Addr} {B newId initId : String} {bmB : List Value} (h : oexB K C D fI B newId initId bmB = true) : OexK K C D fI B newId initId bmB := by
  unfold oexB at h
  simp only [Bool.and_eq_true, decide_eq_true_eq] at h
  obtain ⟨⟨⟨⟨⟨⟨⟨⟨⟨⟨h1, h2⟩, h3⟩, h4⟩, h5⟩, h6⟩, h7⟩, h8⟩, h9⟩, h10⟩, h11⟩ := h
  refine ⟨?_, eqB'_ok h2, h3, h4, h5, eqB'_ok h6, h7, eqB'_ok h8, eqB'_ok h9, h10, h11⟩
  split at h1
  · rename_i c dd cd sl hq
    obtain ⟨nm, bs, mro, ns, q, hd, sn, sub, ab, col, hdel⟩ := cd
    obtain ⟨sl⟩ := sl
    simp only [Bool.and_eq_true, decide_eq_true_eq, Bool.not_eq_true'] at h1
    obtain ⟨⟨⟨⟨k1, k2⟩, k3⟩, k4⟩, k5⟩ := h1
    subst k1
    cases mro with
    | nil => cases k2
    | cons m bm =>
      have k2' : (decide (m = .ref C) && PySem.W.excTail bmB bm) = true := k2
      obtain ⟨k6, k7⟩ := ba2 k2'
      have k6 := of_decide_eq_true k6
      have k3' : hd = true := k3
      have k4' : hdel = false := k4
      match sl, k5, hq with
      | [s0, s1, s2, s3, s4, s5], k5, hq =>
        have k5' : s4 = some (.builtin newId) := of_decide_eq_true k5
        subst k6 k3' k4' k5'
        exact ⟨nm, q, ns, bs, bm, sn, sub, ab, col, dd, s0, s1, s2, s3, s5, hq, k7⟩
  · cases h1
theorem makesX_of {Z : Sta} {k : Nat} {D : Addr} {B newId initId : String} {bmB : List Value} {fileL : Str} {d : MDef} {p0 p1 p2 p3 p4 p5 p6 p7 p8 p9 : Pos} (FM : Fam B newId initId bmB) (hP : SupP Z.P fileL) (ho : oexB Z.K (Z.G k) D (d.adr Z.K) B newId initId bmB = true) (h : supB Z.K (d.adr Z.K) D fileL = true) (M : MOk Z.K d) (hm : Z.mg ("super" : Str) = none)
    (hc : d.clo = [("__class__" : Str)]) (hb : d.body = supBody p0 p1 p2 p3 p4 p5 p6 p7 p8 p9) (hs : supScope d.scope = true)
    (bind : ∀ (kV doc pm : Value) (an : Option Addr) (cdv ct : Value) (cc : Addr) (a b : Value), bindArgs (PySem.W.ksFn d.name d.qual d.params (supBody p0 p1 p2 p3 p4 p5 p6 p7 p8 p9) d.scope .none kV doc pm an cdv ct cc) ⟨[a, b], []⟩ = pure [(("self" : Str), a), (("value" : Str), b)])
    (hd : (d.params.posonlyargs ++ d.params.args).head?.map (·.arg) = some ("self" : Str))
    (hev : ∀ env : Env, ∃ pl, eval (.Call (.Attribute (.Call (.Name "super" p0) [] [] p1) "__init__" p2) [.Name "value" p3] [] p4) env = (do
      let ov ← attributeBase (.Call (.Name "super" p0) [] [] p1) "__init__" env (eval (.Call (.Name "super" p0) [] [] p1) env)
      standAt p2.atName
      let (f, first) ← holding [ov] (getMethod ov "__init__" pl)
      callWith p4 f first (backTo p4 (starEach [.Name "value" p3] env)) [])) : MakesX Z k := by
  have T := oexB_ok ho
  have S := supB_ok hP h M hc hb hs bind hd
  exact ⟨T.kC, fun {lv X W pins σ H s Q y u} gd I ry q => make_oex gd FM T S hev hm I ry q⟩
end MP
set_option maxRecDepth 100000
set_option maxRecDepth 100000
namespace MP
open PySem L2 PyProof.Rows
section
variable {Z : Sta} {W : WX} {σ : L2.St} {H H1 : Hp} {m m1 m2 : Mp} {X : Cx} {S : Hs} {x y : V} {a : Addr} {lv k i : Nat}
def MeOk (Z : Sta) (X : Cx) (W : WX) (id : String) (g : PV → List PV → Hs → RE) : Prop :=
  ∀ (pins : List (Addr × Obj)) (s : Shared) (σ : L2.St) (H : Hp) (x : V) (xs : List V) (v : Value) (us : List Value) (m : Mp) (S : Hs) (p : PV) (ps : List PV) (Q : VK), L2.Inv X pins σ H s → RelV x v → Vals xs us →
    SRel Z H m S → RV Z H m p x → RVs Z H m ps xs → PostE Z W σ H m Q (g p ps S) → wpAny (model X.prog X.w) X.A (call (.builtin id) (v :: us)) (EP X pins σ Q) X.xe s
theorem MeOk.of {id : String} {r : V → List V → Hp → VK → Prop} {g : PV → List PV → Hs → RE} (ho : MtM X id r) (h : ∀ (σ : L2.St) (H : Hp) (m : Mp) (S : Hs) (p : PV) (ps : List PV) (x : V) (xs : List V) (Q : VK), SRel Z H m S → RV Z H m p x → RVs Z H m ps xs → PostE Z W σ H m Q (g p ps S) → r x xs H Q) : MeOk Z X W id g :=
  fun pins s σ H x xs v us m S p ps Q I rx rxs sr rp rps hp => ho pins s σ H x xs v us Q I rx rxs (h σ H m S p ps x xs Q sr rp rps hp)
end
end MP
set_option maxRecDepth 100000
namespace MP
open PySem L2
section
variable {S : Hs} {T : Tab} {c : CmpT} {i : Int} {is : List Int} {xs ys : List PV}
theorem v_rng1 {L : Loc} {f : Loc → Hs → RE} {j : Int} {S1 : Hs} (h : f L S = .ok (.int j) S1) (hj : fit62 j = true) : rngI (consA f nilA) L S = .ok (.rng 0 j.toNat) S1 := by
  unfold rngI consA
  rw [h]
  show (if fit62 j then _ else _) = _
  rw [if_pos hj]
end
end MP
set_option maxRecDepth 100000
set_option maxRecDepth 100000
namespace MP
open PySem L2
theorem v_min2 {i j : Int} {S : Hs} : min2V [.int i, .int j] S = .ok (.int (if j < i then j else i)) S := rfl
theorem v_max2 {i j : Int} {S : Hs} : max2V [.int i, .int j] S = .ok (.int (if j > i then j else i)) S := rfl
end MP
set_option maxRecDepth 100000
set_option maxRecDepth 100000
namespace MP
open PySem L2 PyProof.Rows
section
variable {Z : Sta} {W : WX} {σ : L2.St} {H H1 H2 : Hp} {m m1 m2 : Mp} {X : Cx} {S : Hs} {x y : V} {a b D : Addr} {lv g k f : Nat} {T : Tab} {pins : List (Addr × Obj)} {s : Shared} {Q : VK} {c : CmpT} {p q : PV}
def dct0 (S : Hs) (v : PV) : Bool := match dctOf S v with
  | some ([], []) => true
  | _ => false
def eqI (S : Hs) (a b : PV) : Option Bool := if isD S deep a && isD S deep b then some (eqB S deep a b) else if dct0 S a && dct0 S b then some true else none
def eqIs (S : Hs) : List PV → List PV → Option (List Bool)
  | [], [] => some []
  | a :: as, b :: bs => match eqI S a b with
    | some x => (match eqIs S as bs with
      | some xs => some (x :: xs)
      | none => none)
    | none => none
  | _, _ => none
def neX (p q : PV) (S : Hs) : RE := match asL S p with
  | some xs => (match asL S q with
    | some ys => (match eqIs S xs ys with
      | some bs => .ok (.bl (!(bs.all id))) S
      | none => .bad)
    | none => .bad)
  | none => .bad
theorem dct0_ok (gd : Good Z lv X W) (I : L2.Inv X pins σ H s) (sr : SRel Z H m S) {v : PV} (r : RV Z H m v x) (h : dct0 S v = true) : ∃ a, x = .ref a ∧ (a == sysModules) = false ∧ ∀ (P : Program) (w : World), s.heap.DictOf (mixKind P w) a [] := by
  unfold dct0 at h
  split at h
  · rename_i e
    obtain ⟨a, es, rfl, d⟩ := dctOf_ok sr r e
    obtain ⟨h0, ws, w1, w2, o, ds, ep, w3, w4, w5, w6, w7, w8⟩ := d.flat I gd.K gd.w rfl
    refine ⟨a, rfl, h0, fun P w => ⟨o, ds, ep, w3, w4, w5, ?_, ?_, List.nodup_nil⟩⟩
    · have e0 : ds.toList = [] := by
        have : ds.toList.length = 0 := by
          have := w7.length
          simpa using this
        exact List.eq_nil_of_length_eq_zero this
      intro e he
      have : e ∈ ds.toList := by simpa using he
      rw [e0] at this
      cases this
    · have e0 : ds.toList = [] := by
        have : ds.toList.length = 0 := by
          have := w7.length
          simpa using this
        exact List.eq_nil_of_length_eq_zero this
      rw [e0]
      exact .nil
  · cases h
theorem eqAt_dct0 {A : Around} (hu : A.units < cLine) (h0 : (a == sysModules) = false) (h1 : (b == sysModules) = false) (ha : ∀ (P : Program) (w : World), s.heap.DictOf (mixKind P w) a []) (hb : ∀ (P : Program) (w : World), s.heap.DictOf (mixKind P w) b []) : SeqAt.EqAt A s (.ref a) (.ref b) true := by
  by_cases e : a = b
  · subst e
    exact SeqAt.EqAt.same _
  · exact SeqAt.EqAt.of_refs e fun prog w E Q hq => PySem.W.rcP_dicts (knd := mixKind prog w) (r := true) h0 h1 (ha prog w) (hb prog w) hu (fun _ => .nil) E Q hq
theorem eqI_ok (gd : Good Z lv X W) (I : L2.Inv X pins σ H s) (sr : SRel Z H m S) {A : Around} (hu : A.units + 64 < cLine) {u w : Value} (rp : RV Z H m p x) (rq : RV Z H m q y) (ru : RelV x u) (rw' : RelV y w) {t : Bool} (h : eqI S p q = some t) : SeqAt.EqAt A s u w t := by
  unfold eqI at h
  split at h
  · rename_i hd
    rw [Bool.and_eq_true] at hd
    cases h
    obtain ⟨d1, c1, n1⟩ := data_ok sr rp hd.1
    obtain ⟨d2, c2, n2⟩ := data_ok sr rq hd.2
    rw [← gd.K] at d1 d2
    obtain ⟨as, r1⟩ := Dp.reads I _ x u d1 ru
    obtain ⟨bs, r2⟩ := Dp.reads I _ y w d2 rw'
    rw [eqB_eq hd.1 hd.2]
    exact SeqAt.eqAt_reads _ _ A s u w as bs r1 r2 c1 c2 (by
      have := Nat.min_le_left (toD S deep p).depth (toD S deep q).depth
      have : deep ≤ 64 := by decide
      omega)
  · split at h
    · rename_i hd
      rw [Bool.and_eq_true] at hd
      cases h
      obtain ⟨a, rfl, h0, ha⟩ := dct0_ok gd I sr rp hd.1
      obtain ⟨b, rfl, h1, hb⟩ := dct0_ok gd I sr rq hd.2
      cases (show u = Value.ref a from ru)
      cases (show w = Value.ref b from rw')
      exact eqAt_dct0 (by omega) h0 h1 ha hb
    · cases h
theorem eqIs_ok (gd : Good Z lv X W) (I : L2.Inv X pins σ H s) (sr : SRel Z H m S) {A : Around} (hu : A.units + 64 < cLine) : ∀ {ps qs : List PV} {xs ys : List V} {us ws : List Value} {bs : List Bool}, RVs Z H m ps xs → RVs Z H m qs ys → Vals xs us → Vals ys ws → eqIs S ps qs = some bs →
    us.length = ws.length ∧ bs.length = us.length ∧ ∀ j (h1 : j < us.length) (h2 : j < ws.length), SeqAt.EqAt A s us[j] ws[j] (bs.getD j true)
  | [], [], _, _, us, ws, bs, r1, r2, v1, v2, h => by
    unfold RVs at r1 r2
    subst r1 r2
    cases v1
    cases v2
    cases h
    exact ⟨rfl, rfl, fun j h1 _ => absurd h1 (Nat.not_lt_zero j)⟩
  | p :: ps, q :: qs, _, _, us, ws, bs, r1, r2, v1, v2, h => by
    unfold RVs at r1 r2
    obtain ⟨x, xs, rfl, p1, p2⟩ := r1
    obtain ⟨y, ys, rfl, q1, q2⟩ := r2
    cases v1 with
    | cons a1 b1 =>
      cases v2 with
      | cons a2 b2 =>
        unfold eqIs at h
        split at h
        · rename_i t e1
          split at h
          · rename_i ts e2
            cases h
            obtain ⟨l1, l2, ih⟩ := eqIs_ok gd I sr hu p2 q2 b1 b2 e2
            refine ⟨by simp [l1], by simp [l2], fun j h1 h2 => ?_⟩
            cases j with
            | zero => exact eqI_ok gd I sr hu p1 q1 a1 a2 e1
            | succ j => exact ih j (Nat.lt_of_succ_lt_succ h1) (Nat.lt_of_succ_lt_succ h2)
          · cases h
        · cases h
  | [], q :: qs, _, _, _, _, _, _, _, _, _, h => by cases h
  | p :: ps, [], _, _, _, _, _, _, _, _, _, h => by cases h
theorem neX_ok (gd : Good Z lv X W) : OpOk Z X W (compareOp .NotEq) neX := by
  intro pins s σ H x y v u m S p q Q I rx ry sr rp rq hp
  unfold neX at hp
  split at hp
  · rename_i xs ex
    split at hp
    · rename_i ys ey
      split at hp
      · rename_i bs eb
        obtain ⟨a, vs, rfl, ha, ra⟩ := asL_ok sr rp ex
        obtain ⟨b, ws, rfl, hb, rb⟩ := asL_ok sr rq ey
        cases (show v = Value.ref a from rx)
        cases (show u = Value.ref b from ry)
        obtain ⟨us1, r1, p1, _⟩ := I.list (SqL.of ha)
        obtain ⟨us2, r2, p2, _⟩ := I.list (SqL.of hb)
        have hu := gd.hu
        obtain ⟨l1, l2, he⟩ := eqIs_ok gd I sr (A := X.A.in1) (by show X.A.units + 1 + 64 < cLine; omega) ra rb r1 r2 eb
        have hsz : us1.toArray.size = us2.toArray.size := by rw [List.size_toArray, List.size_toArray]; exact l1
        refine SeqAt.RcNeAt.lists (e := fun j => bs.getD j true) p1.isList p2.isList hsz (by omega) (fun j h1 h2 => ?_) X.prog X.w _ _ ?_
        · have := he j (by simpa using h1) (by simpa using h2)
          simpa using this
        · have e : ((List.range us1.toArray.size).all fun j => bs.getD j true) = bs.all id := by
            rw [List.size_toArray, ← l2]
            clear he l2 eb hp
            rw [Bool.eq_iff_iff, List.all_eq_true, List.all_eq_true]
            constructor
            · intro h z hz
              obtain ⟨j, hj, rfl⟩ := List.mem_iff_getElem.mp hz
              have := h j (List.mem_range.mpr hj)
              simpa [List.getD_eq_getElem?_getD, List.getElem?_eq_getElem hj] using this
            · intro h j hj
              have hj := List.mem_range.mp hj
              have := h bs[j] (List.getElem_mem hj)
              simpa [List.getD_eq_getElem?_getD, List.getElem?_eq_getElem hj] using this
          rw [e]
          exact ⟨.bl _, H, I, rfl, hp H m _ Gr.refl sr to_bl⟩
      · exact hp.elim
    · exact hp.elim
  · exact hp.elim
def neT (T : Tab) (c : CmpT) (p q : PV) (S : Hs) : RE := match cmpD2 T c .NotEq p q S with
  | .bad => neX p q S
  | r => r
theorem neT_ok (TO : TabOk Z lv T fdO psO) (gd : Good Z lv X W) (C : CmpTOk Z c) : OpOk Z X W (compareOp .NotEq) (neT T c) := by
  intro pins s σ H x y v u m S p q Q I rx ry sr rp rq hp
  unfold neT at hp
  split at hp
  · exact neX_ok gd pins s σ H x y v u m S p q Q I rx ry sr rp rq hp
  · exact cmpD2_ok .NotEq TO gd C pins s σ H x y v u m S p q Q I rx ry sr rp rq hp
end
end MP
set_option maxRecDepth 100000
set_option maxRecDepth 100000
set_option maxRecDepth 100000
set_option maxRecDepth 100000
namespace MP
open PySem L2 PyProof.Rows
structure LmX (Z : Sta) (lv : Nat) (X : Cx) (i : Nat) : Prop where
  room : Room (lv + 5) X.A
  tab : ∃ c, X.env.code = .ref c ∧ LamX.TabB X.base X.mg c (Z.tb i).1
  q : X.env.qual ++ "<lambda>" = (Z.tb i).2
end MP
set_option maxRecDepth 100000
namespace MP
open PySem L2 PyProof.Rows
def tabAt (K : Fr) (a : Addr) : Addr × Addr := match K.lookup a with
  | some ⟨_, _, .func fd, _⟩ => (match fd.code with
    | .ref c => (match K.lookup c with
      | some ⟨_, _, .fields vs, _⟩ => (match (vs[11]? : Option Value) with
        | some (.ref P) => (c, P)
        | _ => (c, 0))
      | _ => (c, 0))
    | _ => (0, 0))
  | _ => (0, 0)
def cdIs (K : Fr) (a c : Addr) : Bool := match K.lookup a with
  | some ⟨_, _, .func fd, _⟩ => (match fd.code with
    | .ref c' => Nat.beq c' c
    | _ => false)
  | _ => false
structure SaysL (ex : List (Fr → Bool)) (ds : List MDef) (tx : List DTab) (lm : List (Fr → Addr)) (w : World) (h : Heap) (K : Fr) : Prop where
  m : SaysM ex ds tx w K
  tabs : ∀ f ∈ lm, cdIs K (f K) (tabAt K (f K)).1 = true ∧ PySem.W.codeHdIn K (tabAt K (f K)).1 (tabAt K (f K)).2 = true ∧ h.get? (tabAt K (f K)).2 = some { cls := .none, data := .fields #[] } ∧ K.lookup (tabAt K (f K)).2 = none
  nd : (lm.map fun f => (tabAt K (f K)).2).Nodup
structure LmD (Z : Sta) (g i : Nat) (qual : Str) : Prop where
  tab : ∃ c, (fdOf Z g).code = .ref c ∧ LamX.TabB Z.base Z.mg c (Z.tb i).1
  q : qual ++ ".<locals>." ++ "<lambda>" = (Z.tb i).2
theorem LmD.x {Z : Sta} {lv g i : Nat} {qual : Str} {X : Cx} {W : WX} (l : LmD Z g i qual) (gd : Good Z lv X W) (bx : Bx lv X (fdOf Z g) qual) : LmX Z lv X i := by
  refine ⟨bx.room, ?_, by rw [bx.qual]; exact l.q⟩
  obtain ⟨c, e, t⟩ := l.tab
  exact ⟨c, by rw [bx.code]; exact e, by rw [gd.base, gd.mg]; exact t⟩
end MP
set_option maxRecDepth 100000
namespace MP
section
open PySem PySem.SeqAt GQ MeetsSeq MeetsSeq2 MeetsSeq3 SeqRoads2
open AutoSeq1 (wpAny_loadPart')
variable {prog : Program} {w : World} {A : Around} {R : Result → Shared → Prop} {l b : Addr} {N : Nat} {I : Nat → Shared → Prop}
theorem ne_turns (hl : ListI prog w A (fun e s' => R (.error e) s') l b N I) (fin : ∀ s, I N s → R (.ok (.ret (.bool false))) s) : ∀ (k i : Nat), i + k = N → ∀ s, I i s →
    wpAny (model prog w) A.in1 (Builtin.«list.__eq__.loop» ⟨[.ref l, .ref b, rawInt i, rawInt 3], []⟩) (FinOf prog w A R) (fun e s' => R (.error e) s') s
  | 0, i, hk, s, h => by
    obtain ⟨xs, ys, n1, n2, gl, gb, z1, z2, _⟩ := hl _ _ h
    have ei : i = N := by omega
    have done : R (.ok (.ret (.bool false))) s := fin s (ei ▸ h)
    have o1 : xs[((i : Nat) : Int).toNat]? = none := by simp; omega
    have o2 : ys[((i : Nat) : Int).toNat]? = none := by simp; omega
    obtain ⟨s1, s2, s3, s4, s5⟩ := s
    wp_walk using wpAny_loadPart' gl, wpAny_loadPart' gb
    rw [o1, o2]
    wp_walk using wpAny_loadPart' gl, wpAny_loadPart' gb
    show R (.ok (.ret (.bool (xs.size != ys.size)))) _
    rw [z1, z2]
    simpa using done
  | k + 1, i, hk, s, h => by
    obtain ⟨xs, ys, n1, n2, gl, gb, z1, z2, turn⟩ := hl _ _ h
    have l1 : i < xs.size := by omega
    have l2 : i < ys.size := by omega
    have now := turn l1 l2
    have o1 : xs[((i : Nat) : Int).toNat]? = some xs[i] := by simp [l1]
    have o2 : ys[((i : Nat) : Int).toNat]? = some ys[i] := by simp [l2]
    have nx : ((i : Int) + 1) = ((i + 1 : Nat) : Int) := by omega
    obtain ⟨s1, s2, s3, s4, s5⟩ := s
    wp_walk using wpAny_loadPart' gl, wpAny_loadPart' gb
    rw [o1, o2]
    refine wpAny_bind (wpAny_mono now (fun r t ⟨er, hi⟩ => ?_) fun _ _ z => z)
    subst er
    have next := ne_turns hl fin k (i + 1) (by omega) t hi
    obtain ⟨t1, t2, t3, t4, t5⟩ := t
    wp_walk
    rw [nx]
    refine ⟨plainId_quiet plain_eq_loop _, codeAny_builtin entry_eq_loop ?_⟩
    rw [Around.under_plainId plain_eq_loop _]
    exact next
theorem ne_list (hl : ListI prog w A (fun e s' => R (.error e) s') l b N I) (fin : ∀ s, I N s → R (.ok (.ret (.bool false))) s) {s : Shared} (h : I 0 s) : wpAny (model prog w) A.in1 (Builtin.«list.__ne__» ⟨[.ref l, .ref b], []⟩) (FinOf prog w A R) (fun e s' => R (.error e) s') s := by
  obtain ⟨xs, ys, n1, n2, gl, gb, z1, z2, _⟩ := hl _ _ h
  have go := ne_turns (A := A) (R := R) hl fin N 0 (by omega) s h
  have same : ¬ (xs.size != ys.size) = true := by simp [z1, z2]
  have lists := AutoSeq1.sub_list_list
  obtain ⟨s1, s2, s3, s4, s5⟩ := s
  wp_walk using wpAny_loadPart' gl, wpAny_loadPart' gb
  refine ⟨plainId_quiet plain_eq_loop _, codeAny_builtin entry_eq_loop ?_⟩
  rw [Around.under_plainId plain_eq_loop _]
  exact go
theorem ne_same {E : Value → Shared → Prop} {Q : Value → Shared → Prop} {s : Shared} (hu : A.units < cLine) (hl : ListI prog w A E l b N I) (fin : ∀ s, I N s → Q (.bool false) s) (h : I 0 s) : wpAny (model prog w) A (richCompare .NotEq (.ref l) (.ref b)) Q E s := by
  obtain ⟨xs, ys, n1, n2, gl, gb, _, _, _⟩ := hl _ _ h
  refine wpAny_richCompare_same_room (op := .NotEq) ⟨_, gl, rfl⟩ ⟨_, gb, rfl⟩ F.slot_list_ne (call_here F.slot_list_ne ⟨_, gl, rfl⟩ F.entry_list_ne (F.args_list_ne_2 _ _) ?_) hu
  exact ne_list (R := wants (fun v s' => v ≠ .notImplemented ∧ Q v s') E) hl (fun s' q => ⟨(fun z => nomatch z), fin s' q⟩) h
end
open PySem L2 PyProof.Rows
def eqOwn (T : Tab) (c : CmpT) (S : Hs) (p q : PV) : Bool := match clsOf S p, clsOf S q with
  | some (k, _, _), some (k2, _, _) => decide (k = k2) && (c.ks.contains k && (match T.mem k c.e with
    | .meth g => (match T.arr g 2 [] with
      | some a => (match mapO (freeze [] dpF) [p, q] with
        | some vs => (match T.run g (a vs []) [] with
          | .ok (.bl true) _ => true
          | _ => false)
        | none => false)
      | none => false)
    | _ => false))
  | _, _ => false
def all2 (f : PV → PV → Bool) : List PV → List PV → Bool
  | [], [] => true
  | x :: xs, y :: ys => f x y && all2 f xs ys
  | _, _ => false
def eqI1 (S : Hs) (p q : PV) : Bool := match eqI S p q with
  | some true => true
  | _ => false
section
variable {Z : Sta} {W : WX} {σ : L2.St} {H H1 : Hp} {m m1 : Mp} {X : Cx} {S : Hs} {lv : Nat} {pins : List (Addr × Obj)} {s : Shared} {Q : VK} {T : Tab} {fdO : Nat → FuncData} {psO : Nat → List Str} {c : CmpT}
theorem gr_ext (h : Ext H H1) : Gr Z H m H1 m :=
  ⟨⟨⟨[], rfl, fun _ z => nomatch z⟩, fun _ z => .inl z, fun b o _ _ e => h b o e, fun b o e => ⟨o, h b o e⟩, fun b xs q => q.ext h, rfl⟩, fun b o _ e => h b o e, rfl⟩
theorem srel_ext (sr : SRel Z H m S) (h : Ext H H1) : SRel Z H1 m S :=
  ⟨paired_map sr.cells fun c a _ r => r.grow (gr_ext h) fun o e => h a o e, sr.nd, fun a ha => let ⟨o, e⟩ := sr.hid a ha; ⟨o, h a o e⟩, fun q hq => ⟨(sr.lnt q hq).1, h _ _ (sr.lnt q hq).2⟩⟩
def DB (Z : Sta) (f : Hs → PV → PV → Bool) : Eqv := fun x y H => ∃ m S p q, SRel Z H m S ∧ RV Z H m p x ∧ RV Z H m q y ∧ f S p q = true
theorem mon_DB {f : Hs → PV → PV → Bool} : Mon (DB Z f) := fun x y H H1 e ⟨m, S, p, q, sr, rp, rq, h⟩ => ⟨m, S, p, q, srel_ext sr e, rp.grow (gr_ext e), rq.grow (gr_ext e), h⟩
theorem eqG_data (gd : Good Z lv X W) : EqG X 0 (DB Z eqI1) := by
  intro A pins s σ H x y u v sb I rx ry ⟨m, S, p, q, sr, rp, rq, h⟩
  unfold eqI1 at h
  split at h
  · rename_i e
    exact eqI_ok gd I sr sb.room.units rp rq rx ry e X.prog X.w X.xe _ ⟨rfl, H, I, Ext.rfl'⟩
  · cases h
theorem eqG_own (TO : TabOk Z lv T fdO psO) (gd : Good Z lv X W) (C : CmpTOk Z c) : EqG X lv (DB Z (eqOwn T c)) := by
  intro A pins s σ H x y u v sb I rx ry ⟨m, S, p, q, sr, rp, rq, h⟩
  unfold eqOwn at h
  split at h
  · rename_i k ns xs k2 ns2 xs2 e1 e2
    rw [Bool.and_eq_true, Bool.and_eq_true, decide_eq_true_eq] at h
    obtain ⟨rfl, hk, h⟩ := h
    have hk : k ∈ c.ks := by simpa using hk
    split at h
    · rename_i g em
      split at h
      · rename_i a ea
        split at h
        · rename_i vs ev
          split at h
          · rename_i S1 er
            obtain ⟨p1, d1, y1, rfl, h1, _, _⟩ := clsOf_ok sr rp e1
            obtain ⟨p2, d2, y2, rfl, h2, _, _⟩ := clsOf_ok sr rq e2
            have mk := TO.mem k c.e
            rw [em] at mk
            obtain ⟨cl, me, hh⟩ := mk
            have F := TO.fn g hh
            have B := TO.arr g 2 [] a ea
            rw [C.e] at me
            rw [← gd.K] at cl me
            have hf : PySem.W.isFn X.K (.ref (Z.G g)) = true := by rw [gd.K]; exact F.fn
            have Fok := F.ok
            rw [← gd.prog, ← gd.w, ← gd.K, ← gd.mg, ← gd.base] at Fok
            obtain ⟨mA, J, _⟩ := ins_get I.hok h1
            obtain ⟨mB, J', _⟩ := ins_get I.hok h2
            obtain ⟨od, J, _⟩ := J.look
            obtain ⟨od', J', _⟩ := J'.look
            obtain ⟨mf, hF⟩ := I.fr
            cases (show u = Value.ref p1 from rx)
            cases (show v = Value.ref p2 from ry)
            by_cases hab : p1 = p2
            · subst hab
              exact SeqAt.EqAt.same (A := A) (s := s) (.ref p1) X.prog X.w X.xe _ ⟨rfl, H, I, Ext.rfl'⟩
            · refine GQ.eqBool_refG hab ?_
              refine PySem.W.cmp_K (op := .Eq) (tb := .ref (Z.G k)) sb.room.units0 hF I.ok.mod.kin J J'.type (by simp [PySem.W.notFirst]) me.1 hf ?_
              have e0 : Env0 X.prog X.w X.K X.mg X.base A X.stack s H := by
                have e := I.env0
                exact ⟨by rw [sb.fr]; exact e.frames, e.mod, e.bs, e.bsz, e.funs, e.frf, e.hok, e.bare⟩
              have kin : Z.K.In s.heap := by rw [← gd.K]; exact I.kIn
              have v2 : Vals [V.ref p1, V.ref p2] [Value.ref p1, Value.ref p2] := .cons rfl (.cons rfl .nil)
              obtain ⟨ts, ys, hb, hv, hlen, hr⟩ := B s [.ref p1, .ref p2] [] [.ref p1, .ref p2] [] kin rfl rfl v2 .nil
              have ra := args_apart (RVs.cons rp (RVs.cons rq RVs.nil)) ev
              have sp : spF Z (psO g).length (T.run g) ys H (fun v H' => v = .bl true ∧ Ext H H') (fun _ _ _ => False) := by
                refine ⟨hlen, m.apart, [], a vs [], sr.apart, hr H m.apart vs [] ra RVs.nil, ?_⟩
                rw [er]
                intro H' m' x' g1 _ r1
                exact ⟨rv_bl r1, fun b o e => g1.keep b o List.not_mem_nil e⟩
              refine wpAny_call (codeAny_mono (Fok.run A X.stack s H ⟨[.ref p1, .ref p2], []⟩ ts ys _ _ sb.room e0 hb hv sp) fun r s' hq => ?_)
              cases r with
              | error e => exact passes_call (E := fun _ _ _ => False) gd.takes (fun _ _ _ _ z => z.elim) pins σ H s e s' I hq
              | ok fl =>
                cases fl with
                | ret w =>
                  obtain ⟨z, H', I', rz, ez, ex⟩ := I.after hq
                  subst ez
                  cases rz
                  exact ⟨true, rfl, rfl, H', I', ex⟩
                | next => exact False.elim hq
                | brk => exact False.elim hq
                | cont => exact False.elim hq
          · cases h
        · cases h
      · cases h
    · cases h
  · cases h
theorem prs_all2 {f : Hs → PV → PV → Bool} (sr : SRel Z H m S) : ∀ {ps qs : List PV} {xs ys : List V}, RVs Z H m ps xs → RVs Z H m qs ys → all2 (f S) ps qs = true → Prs (DB Z f) xs ys H
  | [], [], _, _, r1, r2, _ => by
    unfold RVs at r1 r2
    subst r1 r2
    exact Prs.nil
  | p :: ps, q :: qs, _, _, r1, r2, h => by
    unfold RVs at r1 r2
    obtain ⟨x, xs, rfl, a1, b1⟩ := r1
    obtain ⟨y, ys, rfl, a2, b2⟩ := r2
    unfold all2 at h
    rw [Bool.and_eq_true] at h
    exact Prs.cons ⟨m, S, p, q, sr, a1, a2, h.1⟩ (prs_all2 sr b1 b2 h.2)
  | [], _ :: _, _, _, _, _, h => by cases h
  | _ :: _, [], _, _, _, _, h => by cases h
end
end MP
set_option maxRecDepth 100000
set_option maxRecDepth 100000
set_option maxRecDepth 100000
set_option maxRecDepth 100000
namespace MP
open PySem PySem.Spec PyProof.Rows L2
section
variable {Z : Sta} {W : WX} {σ : L2.St} {H H1 H2 : Hp} {m m1 m2 : Mp} {X : Cx} {S : Hs} {x y : V} {a D : Addr} {lv : Nat} {pins : List (Addr × Obj)} {s : Shared} {Q : VK} {ks vs : List PV}
theorem no_tup_dK {kvs : List (Key × V)} (h : H a = some (.dK kvs)) : ∀ xs, ¬ Rd H a (.tup xs) := no_tup h (fun _ e => nomatch e) fun _ _ e => nomatch e
theorem putK_zipG {κ : Type} [DecidableEq κ] {f : PV → κ} {ks : List PV} {xs : List V} {j : PV} {x : V} (hn : (ks.map f).Nodup) (he : ∀ a ∈ ks, keyEq kd a j = decide (f a = f j)) (hl : xs.length = ks.length) :
    putK ((ks.map f).zip xs) (f j) x = ((putKs ks j).map f).zip (putVs ks j xs x) := by
  unfold putK putKs putVs
  rw [any_zip (by rw [hl, List.length_map])]
  cases e : ixK ks j with
  | none =>
    have no : f j ∉ ks.map f := fun h => by
      obtain ⟨b, hb, h2⟩ := List.mem_map.mp h
      have h3 := ixK_none e b hb
      rw [he b hb, decide_eq_true h2] at h3
      cases h3
    rw [decide_eq_false no, if_neg Bool.false_ne_true]
    simp only [List.map_append, List.map_cons, List.map_nil]
    rw [List.zip_append (by rw [hl, List.length_map])]
    rfl
  | some i =>
    obtain ⟨k, h1, h2⟩ := ixK_some e
    rw [he k (List.mem_of_getElem? h1)] at h2
    have h3 : (ks.map f)[i]? = some (f j) := by rw [List.getElem?_map, h1]; simp [of_decide_eq_true h2]
    rw [decide_eq_true (List.mem_of_getElem? h3), if_pos rfl]
    exact map_at hn h3
theorem putK_zip {ks : List PV} {xs : List V} {j : PV} {x : V} (hn : (ks.map keyL).Nodup) (he : ∀ a ∈ ks, keyEq kd a j = decide (keyL a = keyL j)) (hl : xs.length = ks.length) :
    putK ((ks.map keyL).zip xs) (keyL j) x = ((putKs ks j).map keyL).zip (putVs ks j xs x) := putK_zipG hn he hl
theorem k1_kind {ks : List PV} {j : PV} (h : ks.all isK1 = true) (hj : isK1 j = true) : kindOk ks j = true := by
  unfold kindOk
  cases ks with
  | nil => simp only [hj, Bool.true_or]
  | cons k ks =>
    rw [List.all_cons, Bool.and_eq_true] at h
    simp only [h.1, hj, Bool.true_and, Bool.true_or]
theorem k1_put {ks : List PV} {j : PV} (h : ks.all isK1 = true) (hj : isK1 j = true) : (putKs ks j).all isK1 = true := by
  unfold putKs
  split
  · exact h
  · rw [List.all_append, h, List.all_cons, hj]
    rfl
theorem rvs_putKs {ks : List PV} {j : PV} (h : RVs Z H m ks (ks.map fun k => kV (keyL k))) (hj : RV Z H m j (kV (keyL j))) : RVs Z H m (putKs ks j) ((putKs ks j).map fun k => kV (keyL k)) := by
  unfold putKs
  split
  · exact h
  · rw [List.map_append]
    exact RVs.append h (RVs.cons hj RVs.nil)
structure DcI (Z : Sta) (H1 : Hp) (m1 : Mp) (D : Addr) (H : Hp) (m : Mp) (S : Hs) (ks vs : List PV) : Prop where
  mi : MkI Z H1 m1 D H m S
  at_ : ∃ xs, H D = some (.dK ((ks.map keyL).zip xs)) ∧ RVs Z H m vs xs ∧ xs.length = ks.length
  k1 : ks.all isK1 = true
  kb : keysB ks = true
  kr : RVs Z H m ks (ks.map fun k => kV (keyL k))
theorem DcI.start (hD : H1 D = none) (s1 : SRel Z H1 m1 S) : DcI Z H1 m1 D (upd H1 D (.dK [])) ⟨m1.l, D :: m1.h, m1.k⟩ S [] [] :=
  ⟨MkI.start hD s1, ⟨[], upd_same, RVs.nil, rfl⟩, rfl, rfl, RVs.nil⟩
theorem DcI.grow {S' : Hs} (c : DcI Z H1 m1 D H m S ks vs) (g : Gr Z H m H2 m2) (s' : SRel Z H2 m2 S') : DcI Z H1 m1 D H2 m2 S' ks vs := by
  obtain ⟨xs, e, r, l⟩ := c.at_
  obtain ⟨c', e'⟩ := c.mi.grow e g s'
  exact ⟨c', ⟨xs, e', r.grow g, l⟩, c.k1, c.kb, c.kr.grow g⟩
theorem DcI.put {j v : PV} (c : DcI Z H1 m1 D H m S ks vs) (hD1 : H1 D = none) (hj : isK1 j = true) (rj : RV Z H m j y) (rv : RV Z H m v x) :
    ∃ kvs, y = kV (keyL j) ∧ H D = some (.dK kvs) ∧ kvs.length = ks.length ∧ DcI Z H1 m1 D (upd H D (.dK (putK kvs (keyL j) x))) m S (putKs ks j) (putVs ks j vs v) := by
  obtain ⟨xs, e, r, l⟩ := c.at_
  have ey := k1_V hj rj
  have ha := List.all_eq_true.mp c.k1
  have hn : (ks.map keyL).Nodup := dist_nodup (fun a h b h' => k1_eq (ha a h) (ha b h')) (keysB_parts c.kb).2.1
  have pz := putK_zip (x := x) hn (fun b hb => k1_eq (ha b hb) hj) l
  obtain ⟨c', g0⟩ := c.mi.set (u := .dK (putK ((ks.map keyL).zip xs) (keyL j) x)) hD1 e (no_tup_dK e)
  refine ⟨_, ey, e, by rw [List.length_zip, List.length_map, l, Nat.min_self], c', ⟨putVs ks j xs x, by rw [pz]; exact upd_same, ?_, putVs_len l⟩, k1_put c.k1 hj, put_keysB c.kb (k1_kind c.k1 hj), ?_⟩
  · exact RVs.grow0 g0 (r.putVs rv)
  · exact RVs.grow0 g0 (rvs_putKs c.kr (ey ▸ rj))
theorem DcI.turn (gd : Good Z lv X W) (c : DcI Z H1 m1 D H m S ks vs) (hD1 : H1 D = none) (I : L2.Inv X pins σ H s) : ∃ ep es, L2.Inv X pins σ (upd H D (dO D ep es)) s ∧ MkI Z H1 m1 D (upd H D (dO D ep es)) m S ∧
    es.map (·.1) = ks.map (hashK Z) ∧ RVs Z (upd H D (dO D ep es)) m ks (es.map (·.2.1)) ∧ RVs Z (upd H D (dO D ep es)) m vs (es.map (·.2.2)) := by
  obtain ⟨xs, e, r, l⟩ := c.at_
  obtain ⟨z, h0, kvs, rel, o, ds, ep, o1, o2, o3, o4, o5, o6⟩ := dk_of I.hok e
  have hl : (ks.map keyL).length = xs.length := by rw [List.length_map, l]
  obtain ⟨ws, ek, rw'⟩ : ∃ ws : List Value, kvs = (ks.map keyL).zip ws ∧ Vals xs ws ∧ ws.length = (ks.map keyL).length := by
    clear o5 o6 z e r c l
    revert rel hl
    generalize ks.map keyL = ls
    induction ls generalizing xs kvs with
    | nil =>
      intro rel hl
      cases xs with
      | nil => cases rel; exact ⟨[], rfl, .nil, rfl⟩
      | cons _ _ => cases hl
    | cons k ls ih =>
      intro rel hl
      cases xs with
      | nil => cases hl
      | cons v xs =>
        cases rel with
        | @cons p q ps qs h t =>
          obtain ⟨ws, e1, e2, e3⟩ := ih _ _ t (by simpa using hl)
          obtain ⟨h1, h2⟩ := h
          refine ⟨q.2 :: ws, ?_, .cons h2 e2, by simp [e3]⟩
          rw [e1, List.zip_cons_cons]
          congr 1
          exact Prod.ext h1.symm rfl
  obtain ⟨rv', rl⟩ := rw'
  rw [ek] at o5
  have pr := of_flat (w := X.w) o5 (fun en he => by
    have := o4 en (by simpa using he)
    exact this) rv' rl
  have hz := gd.w
  have lx : xs.length = ks.length := l
  refine ⟨ep, zip3 ((ks.map keyL).map (keyH X.w)) ((ks.map keyL).map kV) xs, ?_, ?_⟩
  · have ok := dO_ok (P := X.prog) (w := X.w) (H := upd H D (dO D ep (zip3 ((ks.map keyL).map (keyH X.w)) ((ks.map keyL).map kV) xs))) h0 o1 o2 o3 pr
    exact d_write (t' := s.toks) I (by rw [e]; exact trivial) ⟨rfl, fun _ _ => rfl⟩ ⟨o, o1⟩ ok
  · obtain ⟨c', g0⟩ := c.mi.set (u := dO D ep (zip3 ((ks.map keyL).map (keyH X.w)) ((ks.map keyL).map kV) xs)) hD1 e (no_tup_dK e)
    refine ⟨c', ?_, ?_, ?_⟩
    · rw [zip3_1 (by simp) (by simp [lx]), List.map_map]
      refine List.map_congr_left fun k hk => ?_
      show keyH X.w (keyL k) = _
      rw [k1_hash (List.all_eq_true.mp c.k1 k hk), hz]
    · rw [zip3_2 (by simp) (by simp [lx])]
      have q := RVs.grow0 g0 c.kr
      rw [show (ks.map fun k => kV (keyL k)) = (ks.map keyL).map kV by rw [List.map_map]; rfl] at q
      exact q
    · rw [zip3_3 (by simp) (by simp [lx])]
      exact RVs.grow0 g0 r
variable {N : List Str} {sc : Scope} {vd ls : List Nat} {gs : List Str}
end
end MP
set_option maxRecDepth 100000
namespace MP
open PySem PySem.Spec PyProof.Rows L2
theorem paired_at {A B : Type} {F : A → B → Prop} : ∀ {l : List A} {k : List B} {i : Nat} {a : A}, Paired F l k → l[i]? = some a → ∃ b, k[i]? = some b ∧ F a b
  | _, _, i, _, .nil, h => by simp at h
  | _, _, 0, _, .cons r t, h => by
    simp only [List.getElem?_cons_zero, Option.some.injEq] at h
    subst h
    exact ⟨_, rfl, r⟩
  | _, _, i + 1, _, .cons r t, h => by
    rw [List.getElem?_cons_succ] at h
    obtain ⟨b, h1, h2⟩ := paired_at t h
    exact ⟨b, by rw [List.getElem?_cons_succ]; exact h1, h2⟩
def DKe (K : PySem.W.Frag) (H : Hp) (d : Addr) (ep : Nat) (es : List (Int × V × V)) : Prop := H d = some (dO d ep es) ∨
  ((d == sysModules) = false ∧ ∃ (o : Obj) (ds : Array DictEntry), K.lookup d = some o ∧ o.ExactDict ∧ o.data = .dict ds ep ∧ Paired EntR es ds.toList)
section
variable {P : Program} {w : World} {K : PySem.W.Frag} {tg : Expr} {d : Addr} {ep : Nat} {es : List (Int × V × V)}
theorem DKe.raw {X : Cx} {pins : List (Addr × Obj)} {σ : L2.St} {H : Hp} {s : Shared} (h : DKe X.K H d ep es) (I : L2.Inv X pins σ H s) : (d == sysModules) = false ∧ ∃ ds : Array DictEntry, s.heap.DictRaw d ds ep ∧ Paired EntR es ds.toList := by
  rcases h with e | ⟨h0, o, ds, h1, h2, h3, h4⟩
  · obtain ⟨h0, o, ds, h1, h2, h3, h4⟩ := (I.hok d _ e).1
    exact ⟨h0, ds, ⟨o, h1, h2, h3⟩, h4⟩
  · exact ⟨h0, ds, ⟨o, I.kIn d o h1, h2, h3⟩, h4⟩
end
end MP
set_option maxRecDepth 100000
set_option maxRecDepth 100000
set_option maxRecDepth 100000
set_option maxRecDepth 100000
set_option maxRecDepth 100000
set_option maxRecDepth 100000
set_option maxRecDepth 100000
set_option maxRecDepth 100000
namespace MP
open PySem PySem.Spec PyProof.Rows L2
def keyS (e : Int × Value) : PySem.Str := match e.2 with | .str x _ => x | _ => ⟨#[]⟩
def GoodS (w : World) (e : Int × Value) : Prop := ∃ x t, e.2 = Value.str x t ∧ e.1 = hashStr w x
def SetS (w : World) (h : Heap) (a : Addr) (ws : List PySem.Str) : Prop :=
  ∃ o es ep t, h.get? a = some o ∧ o.ExactSet ∧ o.data = .set es ep t ∧ (∀ e ∈ es.toList, GoodS w e) ∧ (es.toList.map keyS).Perm ws ∧ ws.Nodup ∧
    es.size < scanBound ∧ t.fits es.size = true ∧ Ris t.place.toList ∧ (w.params.followText "set-order" = true ∨ t.led = true)
def putW (ws : List PySem.Str) (x : PySem.Str) : List PySem.Str := if x ∈ ws then ws else ws ++ [x]
section
variable {P : Program} {w : World} {h h' : Heap} {a : Addr} {ws : List PySem.Str}
theorem SetS.at (R : SetS w h a ws) (k : ∀ o, h.get? a = some o → h'.get? a = some o) : SetS w h' a ws := by
  obtain ⟨o, es, ep, t, ho, r⟩ := R
  exact ⟨o, es, ep, t, k o ho, r⟩
theorem SetS.len (R : SetS w h a ws) : ∃ o es ep t, h.get? a = some o ∧ o.data = .set es ep t ∧ es.size = ws.length := by
  obtain ⟨o, es, ep, t, ho, _, hd, _, pm, _⟩ := R
  exact ⟨o, es, ep, t, ho, hd, by rw [← pm.length_eq, List.length_map, Array.length_toList]⟩
end
end MP
set_option maxRecDepth 100000
namespace MP
open PySem PySem.Spec PyProof.Rows L2
def SetSO (w : World) (a : Addr) (ws : List PySem.Str) : HO := .ext fun h => SetS w h a ws
end MP
set_option maxRecDepth 100000
set_option maxRecDepth 100000
namespace MP
open PySem PySem.Spec PyProof.Rows L2
structure Cl where
  wi : TI
  g : TG
  tt : TT
  vs : List Nat
def vsOf : List Cl → List Nat
  | [] => []
  | c :: _ => c.vs
inductive ClsOk (X : Cx) (gens : List Comprehension) : Nat → List Nat → List Cl → Prop
  | nil {j : Nat} {vs : List Nat} : gens[j]? = none → ClsOk X gens j vs []
  | cons {j : Nat} {vs : List Nat} {c : Cl} {r : List Cl} {t i : Expr} {ifs : List Expr} : gens[j]? = some ⟨t, i, ifs, 0⟩ → PI X t i c.wi → PG X t c.g → PTs X ifs c.tt → (∀ env x, foldedSetIterable i env x = pure x) → (∀ k ∈ c.vs, k ∈ vs) → ClsOk X gens (j + 1) c.vs r → ClsOk X gens j vs (c :: r)
end MP
set_option maxRecDepth 100000
namespace MP
open PySem PySem.Spec PyProof.Rows L2
section
variable {X : Cx}
theorem ClsOk.sub {gens : List Comprehension} {j : Nat} {vs : List Nat} {cs : List Cl} (h : ClsOk X gens j vs cs) : ∀ k ∈ vsOf cs, k ∈ vs := by
  cases h with
  | nil _ => exact fun k z => nomatch z
  | cons _ _ _ _ _ z _ => exact z
end
end MP
set_option maxRecDepth 100000
namespace MP
open PySem PySem.Spec PyProof.Rows L2
structure CE where
  src : Loc → Hs → RI
  tgt : TgF
  cond : Loc → Hs → RB
  own : List Nat
def putL (ws : List (List Nat)) (x : List Nat) : List (List Nat) := if x ∈ ws then ws else ws ++ [x]
section
variable {Z : Sta} {H H1 H2 : Hp} {m m1 m2 : Mp} {S : Hs} {D : Addr} {ws : List (List Nat)}
theorem no_tup_set {us : List PySem.Str} {w : World} (h : H D = some (SetSO w D us)) : ∀ xs, ¬ Rd H D (.tup xs) := no_tup h (fun _ e => nomatch e) fun _ _ e => nomatch e
structure ScI (Z : Sta) (H1 : Hp) (m1 : Mp) (D : Addr) (H : Hp) (m : Mp) (S : Hs) (ws : List (List Nat)) : Prop where
  mi : MkI Z H1 m1 D H m S
  at_ : H D = some (SetSO Z.w D (ws.map SX.S))
theorem ScI.start (hD : H1 D = none) (s1 : SRel Z H1 m1 S) : ScI Z H1 m1 D (upd H1 D (SetSO Z.w D [])) ⟨m1.l, D :: m1.h, m1.k⟩ S [] := ⟨MkI.start hD s1, upd_same⟩
theorem ScI.grow {S' : Hs} (c : ScI Z H1 m1 D H m S ws) (g : Gr Z H m H2 m2) (s' : SRel Z H2 m2 S') : ScI Z H1 m1 D H2 m2 S' ws := by
  obtain ⟨c', e'⟩ := c.mi.grow c.at_ g s'
  exact ⟨c', e'⟩
theorem putL_map (x : List Nat) : (putL ws x).map SX.S = putW (ws.map SX.S) (SX.S x) := by
  have inj : ∀ a b : List Nat, SX.S a = SX.S b → a = b := fun a b e => by
    have := congrArg (fun s : PySem.Str => s.cps.toList) e
    exact this
  have q : SX.S x ∈ ws.map SX.S ↔ x ∈ ws := by
    rw [List.mem_map]
    exact ⟨fun ⟨y, hy, e⟩ => inj y x e ▸ hy, fun h => ⟨x, h, rfl⟩⟩
  unfold putL putW
  by_cases h : x ∈ ws
  · rw [if_pos h, if_pos (q.mpr h)]
  · rw [if_neg h, if_neg fun z => h (q.mp z), List.map_append]
    rfl
theorem ScI.put {x : List Nat} (c : ScI Z H1 m1 D H m S ws) (hD1 : H1 D = none) : ScI Z H1 m1 D (upd H D (SetSO Z.w D (putW (ws.map SX.S) (SX.S x)))) m S (putL ws x) ∧ Gr0 Z H m (upd H D (SetSO Z.w D (putW (ws.map SX.S) (SX.S x)))) m := by
  obtain ⟨c', g0⟩ := c.mi.set (u := SetSO Z.w D (putW (ws.map SX.S) (SX.S x))) hD1 c.at_ (no_tup_set c.at_)
  exact ⟨⟨c', by rw [putL_map]; exact upd_same⟩, g0⟩
end
end MP
set_option maxRecDepth 100000
set_option maxRecDepth 100000
set_option maxRecDepth 100000
set_option maxRecDepth 100000
set_option maxRecDepth 100000
set_option maxRecDepth 100000
set_option maxRecDepth 100000
set_option maxRecDepth 100000
namespace MP
open PySem PySem.Spec PyProof.Rows L2
section
variable {Z : Sta} {W : WX} {σ : L2.St} {H H1 H2 : Hp} {m m1 m2 : Mp} {X : Cx} {S : Hs} {x y : V} {a D : Addr} {lv : Nat} {pins : List (Addr × Obj)} {s : Shared} {Q : VK} {ks vs : List PV}
theorem DKe.at_ {K : PySem.W.Frag} {ep : Nat} {es : List (Int × V × V)} (h : DKe K H a ep es) (k : ∀ b o, H b = some o → H1 b = some o) : DKe K H1 a ep es := h.elim (fun e => .inl (k _ _ e)) .inr
variable {N : List Str} {sc : Scope} {vd ls : List Nat} {gs : List Str}
end
end MP
set_option maxRecDepth 100000
set_option maxRecDepth 100000
namespace MP
open PySem PySem.Spec PyProof.Rows L2
def lenX (T : Tab) (c : CmpT) (ps : List PV) (S : Hs) : RE := match ps with
  | [v] => (match dctOf S v with
    | some (ks, _) => if decide (ks.length < 16777216) then .ok (.int ks.length) S else .bad
    | none => lenD T c [v] S)
  | _ => .bad
section
variable {Z : Sta} {W : WX} {σ : L2.St} {H H1 : Hp} {m m1 : Mp} {X : Cx} {S : Hs} {x : V} {lv : Nat} {T : Tab} {fdO : Nat → FuncData} {psO : Nat → List Str} {c : CmpT} {ks vs xs : List PV} {Q : VK}
theorem lenX_ok (TO : TabOk Z lv T fdO psO) (gd : Good Z lv X W) (C : CmpTOk Z c) : CallOk Z X W (.builtin "len") (lenX T c) := by
  intro pins s σ H xs us m S ps Q I rx sr rp hp
  unfold lenX at hp
  split at hp
  · rename_i v
    split at hp
    · rename_i ks vs e
      split at hp
      · rename_i hl
        have hl := of_decide_eq_true hl
        obtain ⟨x, rfl, r1⟩ := rvs1 rp
        obtain ⟨a, es, rfl, d⟩ := dctOf_ok sr r1 e
        obtain ⟨u, rfl, rx'⟩ := vals1 rx
        obtain rfl : u = Value.ref a := rx'
        obtain ⟨lo, o, ds, ep, ho, hx, hd, hpr⟩ := d.rd.raw I gd.K
        have hlen : ks.length = ds.size := by
          have h2 : es.length = ds.size := by rw [hpr.length, Array.length_toList]
          rw [d.ks.len, List.length_map, h2]
        have hm : s.heap.DictRaw a ds ep := ⟨o, ho, hx, hd⟩
        refine PyProof.Rows.call_len_slot (n := (ks.length : Nat)) hm.typeIs F.slot_dict_len (fun Q' hq => call_len_raw lo hm (by rw [← hlen]; exact hq)) (by omega) (by omega) ⟨.int (ks.length : Nat), H, I.tok _, ⟨_, rfl⟩, hp H m _ Gr.refl sr to_int⟩
      · exact hp.elim
    · exact len_ok TO gd C pins s σ H xs us m S _ Q I rx sr rp hp
  · exact hp.elim
end
end MP
set_option maxRecDepth 100000
namespace MP
open PySem PySem.W PyProof.Rows
open L2
def funB (K : PySem.W.Frag) (f : Addr) : Bool := match K.lookup f with
  | some o => (match o.data with
    | .func _ => true
    | _ => false)
  | none => false
structure GtT where
  g : Nat
  b : Nat
  gs : List (Nat × Nat)
  bs : List Nat
structure OwnGt (Z : Sta) (k g : Nat) : Prop where
  nq : PySem.W.noSeq Z.K (Z.G k) = true
  fi : PySem.W.findIn Z.K (.ref (Z.G k)) "__getitem__" = some (some (.ref (Z.G g)))
  fu : funB Z.K (Z.G g) = true
structure GtOk (Z : Sta) (t : GtT) : Prop where
  g : Z.FN t.g = "__getitem__"
  b : Z.FN t.b = "__bool__"
  gs : ∀ p ∈ t.gs, OwnGt Z p.1 p.2
end MP
set_option maxRecDepth 100000
set_option maxRecDepth 100000
set_option maxRecDepth 100000
set_option maxRecDepth 100000
set_option maxRecDepth 100000
namespace MP
open PySem PySem.Spec PyProof.Rows L2
def FlK (w : World) (es : List (Int × V × V)) : Prop := ∃ kl : List Key, es.map (·.1) = kl.map (keyH w) ∧ es.map (·.2.1) = kl.map kV ∧ kl.Nodup
theorem kV_inj {a b : Key} (h : kV a = kV b) : a = b := by
  cases a <;> cases b <;> first | (injection h with h; rw [h]) | cases h
section
variable {prog : Program} {w : World}
theorem fk_keys : ∀ {es : List (Int × V × V)} {ds : List DictEntry} {kl : List Key}, Paired EntR es ds → es.map (·.1) = kl.map (keyH w) → es.map (·.2.1) = kl.map kV →
    ∀ e ∈ ds, ∃ k, (mixKind prog w).is k e.key = true ∧ e.hash = (mixKind prog w).hash k
  | [], _, _, .nil, _, _, _, h => nomatch h
  | e :: es, d :: ds, kl, .cons ⟨e1, e2, e3⟩ pr, hh, hk, e', he => by
    cases kl with
    | nil => cases hh
    | cons k kl =>
      rw [List.map_cons, List.map_cons] at hh hk
      injection hh with h1 h2
      injection hk with k1 k2
      rcases List.mem_cons.mp he with rfl | he
      · exact ⟨k, kV_is' (by rw [← k1]; exact e2), by rw [e1, h1]; rfl⟩
      · exact fk_keys pr h2 k2 e' he
theorem fk_find (prog : Program) (w : World) {k : Key} : ∀ {es : List (Int × V × V)} {ds : List DictEntry} {kl : List Key}, Paired EntR es ds → es.map (·.2.1) = kl.map kV → kl.Nodup → ∀ {e : Int × V × V}, e ∈ es → e.2.1 = kV k →
    ∃ (j : Nat) (d : DictEntry), ds.findIdx? (fun d => keyIs k d.key) = some j ∧ ds[j]? = some d ∧ RelV e.2.2 d.val
  | [], _, _, .nil, _, _, _, h, _ => nomatch h
  | e0 :: es, d :: ds, kl, .cons ⟨e1, e2, e3⟩ pr, hk, nd, e, he, ek => by
    cases kl with
    | nil => cases hk
    | cons k0 kl =>
      rw [List.map_cons, List.map_cons] at hk
      injection hk with k1 k2
      rw [List.nodup_cons] at nd
      have q0 : keyIs k0 d.key = true := kV_is' (by rw [← k1]; exact e2)
      rw [List.findIdx?_cons]
      rcases List.mem_cons.mp he with rfl | he
      · have : k = k0 := kV_inj (ek.symm.trans k1)
        subst this
        rw [if_pos q0]
        exact ⟨0, d, rfl, rfl, e3⟩
      · have hm : k ∈ kl := by
          have h1 : e.2.1 ∈ es.map (·.2.1) := List.mem_map.mpr ⟨e, he, rfl⟩
          rw [k2, ek] at h1
          obtain ⟨k', hk', e'⟩ := List.mem_map.mp h1
          rw [← kV_inj e']
          exact hk'
        have nk : keyIs k d.key = false := by
          cases hq : keyIs k d.key with
          | false => rfl
          | true =>
            have : k = k0 := (mixKind prog w).inj _ _ _ hq q0
            exact absurd (this ▸ hm) nd.1
        rw [if_neg (by rw [nk]; exact Bool.false_ne_true)]
        obtain ⟨j, d', h1, h2, h3⟩ := fk_find prog w pr k2 nd.2 he ek
        exact ⟨j + 1, d', by rw [h1]; rfl, by simpa using h2, h3⟩
end
structure SubW (X : Cx) (lv k : Nat) (A : Around) : Prop where
  hd : A.handled = none
  dp : A.depth + 3 * lv + 5 < recursionLimit
  un : A.units + k + 16 * lv + 200 < cLine
  fr : A.frames = X.A.frames
theorem SubW.in1 {X : Cx} {lv k : Nat} {A : Around} (s : SubW X lv (k + 1) A) : SubW X lv k A.in1 := ⟨s.hd, s.dp, by have := s.un; show A.units + 1 + k + 16 * lv + 200 < cLine; omega, s.fr⟩
theorem SubW.sub {X : Cx} {lv k : Nat} {A : Around} (s : SubW X lv k A) : Sub X lv A := ⟨⟨s.hd, s.dp, by have := s.un; omega⟩, s.fr⟩
theorem SubW.less {X : Cx} {lv k : Nat} {A : Around} (s : SubW X lv (k + 1) A) : SubW X lv k A := ⟨s.hd, s.dp, by have := s.un; omega, s.fr⟩
theorem SubW.units0 {X : Cx} {lv k : Nat} {A : Around} (s : SubW X lv k A) : A.units < cLine := by have := s.un; omega
def EqW (X : Cx) (lv k : Nat) (D : Eqv) : Prop :=
  ∀ (A : Around) (pins : List (Addr × Obj)) (s : Shared) (σ : L2.St) (H : Hp) (x y : V) (u v : Value), SubW X lv k A → L2.Inv X pins σ H s → RelV x u → RelV y v → D x y H →
    wpAny (model X.prog X.w) A (eqBool u v) (fun r s' => r = true ∧ ∃ H', L2.Inv X pins σ H' s' ∧ Ext H H') X.xe s
def RcW (X : Cx) (lv k : Nat) (D : Eqv) : Prop :=
  ∀ (A : Around) (pins : List (Addr × Obj)) (s : Shared) (σ : L2.St) (H : Hp) (x y : V) (u v : Value), SubW X lv k A → L2.Inv X pins σ H s → RelV x u → RelV y v → D x y H →
    wpAny (model X.prog X.w) A (richCompare .Eq u v) (fun r s' => r = .bool true ∧ ∃ H', L2.Inv X pins σ H' s' ∧ Ext H H') X.xe s
section
variable {X : Cx} {lv k : Nat} {D D' : Eqv}
theorem EqW.of (h : EqG X lv D) : EqW X lv k D := fun A pins s σ H x y u v sb => h A pins s σ H x y u v sb.sub
theorem EqW.succ (h : EqW X lv k D) : EqW X lv (k + 1) D := fun A pins s σ H x y u v sb => h A pins s σ H x y u v sb.less
theorem EqW.or (h : EqW X lv k D) (h' : EqW X lv k D') : EqW X lv k (fun x y H => D x y H ∨ D' x y H) := fun A pins s σ H x y u v sb I rx ry d =>
  d.elim (fun d => h A pins s σ H x y u v sb I rx ry d) fun d => h' A pins s σ H x y u v sb I rx ry d
theorem EqW.imp (h : EqW X lv k D) (hd : ∀ x y H, D' x y H → D x y H) : EqW X lv k D' := fun A pins s σ H x y u v sb I rx ry d => h A pins s σ H x y u v sb I rx ry (hd x y H d)
theorem turnW (hD : Mon D) (h : EqW X lv k D) {A : Around} (sb : SubW X lv (k + 1) A) {pins : List (Addr × Obj)} {σ : L2.St} {H : Hp} {xs ys : List V} {its its2 : List Value} (p : Prs D xs ys H) (r : Vals xs its) (r2 : Vals ys its2)
    (i : Nat) (h1 : i < its.toArray.size) (h2 : i < its2.toArray.size) (s' : Shared) (l : LoopI X pins σ H s') :
    wpAny (model X.prog X.w) A.in1 (eqBool its.toArray[i] its2.toArray[i]) (fun r s2 => r = true ∧ LoopI X pins σ H s2) X.xe s' := by
  obtain ⟨H1, I1, e1⟩ := l
  have z1 : i < its.length := by simpa using h1
  have z2 : i < its2.length := by simpa using h2
  have k1 : i < xs.length := by rw [r.length]; exact z1
  have k2 : i < ys.length := by rw [r2.length]; exact z2
  obtain ⟨u, hu, ru⟩ := r.get (List.getElem?_eq_getElem k1)
  obtain ⟨v, hv, rv⟩ := r2.get (List.getElem?_eq_getElem k2)
  have g1 : its.toArray[i] = u := by
    rw [List.getElem?_eq_getElem z1] at hu
    simpa using hu
  have g2 : its2.toArray[i] = v := by
    rw [List.getElem?_eq_getElem z2] at hv
    simpa using hv
  rw [g1, g2]
  refine wpAny_mono (h A.in1 pins s' σ H1 _ _ u v sb.in1 I1 ru rv (hD _ _ _ _ e1 (p.2 i _ _ (List.getElem?_eq_getElem k1) (List.getElem?_eq_getElem k2)))) (fun r s2 ⟨hr, H2, I2, e2⟩ => ?_) fun _ _ x => x
  exact ⟨hr, H2, I2, e1.trans e2⟩
theorem rcW_list (hD : Mon D) (h : EqW X lv k D) : RcW X lv (k + 1) (DList D) := by
  intro A pins s σ H x y u v sb I rx ry d
  obtain ⟨a, b, xs, ys, rfl, rfl, ha, hb, p⟩ := d
  cases rx
  cases ry
  refine GQ.rc_listG (N := xs.length) sb.units0 (fun _ s' => LoopI X pins σ H s') (fun i s' q => ?_) (fun s' q => ⟨rfl, q⟩) ⟨H, I, Ext.rfl'⟩
  obtain ⟨H1, I1, e1⟩ := id q
  obtain ⟨z, its, k, r, e⟩ := I1.hok a _ (e1 _ _ ha)
  obtain ⟨z2, its2, k2, r2, e2⟩ := I1.hok b _ (e1 _ _ hb)
  exact ⟨its.toArray, its2.toArray, k, k2, e, e2, by rw [List.size_toArray, ← r.length], by rw [List.size_toArray, ← r2.length, ← p.1], fun h1 h2 => turnW hD h sb p r r2 i h1 h2 s' q⟩
theorem rcW_tup (hD : Mon D) (h : EqW X lv k D) : RcW X lv (k + 1) (DTup X.K D) := by
  intro A pins s σ H x y u v sb I rx ry d
  obtain ⟨a, b, xs, ys, rfl, rfl, ha, hb, p⟩ := d
  cases rx
  cases ry
  obtain ⟨its, r, e, z⟩ := I.tuple ha
  obtain ⟨its2, r2, e2, z2⟩ := I.tuple hb
  have hsz : its.toArray.size = its2.toArray.size := by rw [List.size_toArray, List.size_toArray, ← r.length, ← r2.length]; exact p.1
  exact GQ.rc_tupG hsz sb.units0 (fun _ s' => LoopI X pins σ H s') e e2 (fun i h1 h2 s' q => turnW hD h sb p r r2 i h1 h2 s' q) (fun s' q => ⟨rfl, q⟩) ⟨H, I, Ext.rfl'⟩
theorem RcW.eqW (h : RcW X lv k D) (hr : ∀ x y H, D x y H → ∃ a b, x = .ref a ∧ y = .ref b) : EqW X lv k D := by
  intro A pins s σ H x y u v sb I rx ry d
  obtain ⟨a, b, rfl, rfl⟩ := hr _ _ _ d
  cases rx
  cases ry
  by_cases hab : a = b
  · subst hab
    exact SeqAt.EqAt.same (A := A) (s := s) (.ref a) X.prog X.w X.xe _ ⟨rfl, H, I, Ext.rfl'⟩
  · exact GQ.eqBool_refG hab (wpAny_mono (h A pins s σ H (.ref a) (.ref b) _ _ sb I rfl rfl d) (fun r s' ⟨hr', q⟩ => ⟨true, hr', rfl, q⟩) fun _ _ x => x)
theorem eqW_list (hD : Mon D) (h : EqW X lv k D) : EqW X lv (k + 1) (DList D) := (rcW_list hD h).eqW fun _ _ _ d => let ⟨a, b, _, _, hx, hy, _⟩ := d; ⟨a, b, hx, hy⟩
theorem eqW_tup (hD : Mon D) (h : EqW X lv k D) : EqW X lv (k + 1) (DTup X.K D) := (rcW_tup hD h).eqW fun _ _ _ d => let ⟨a, b, _, _, hx, hy, _⟩ := d; ⟨a, b, hx, hy⟩
end
def DDct (K : PySem.W.Frag) (w : World) (D : Eqv) : Eqv := fun x y H => ∃ a b epa esa epb esb, x = .ref a ∧ y = .ref b ∧ DKe K H a epa esa ∧ DKe K H b epb esb ∧ FlK w esa ∧ FlK w esb ∧ esa.length = esb.length ∧
  ∀ e ∈ esa, ∃ e' ∈ esb, e'.2.1 = e.2.1 ∧ D e.2.2 e'.2.2 H
section
variable {X : Cx} {lv n : Nat} {D : Eqv} {H H1 : Hp} {pins : List (Addr × Obj)} {σ : L2.St} {s : Shared} {A : Around}
theorem DKe.ext {K : PySem.W.Frag} {a : Addr} {ep : Nat} {es : List (Int × V × V)} (h : DKe K H a ep es) (e : Ext H H1) : DKe K H1 a ep es := h.elim (fun h => .inl (e _ _ h)) .inr
theorem samePairsG {nm : String} {a b : Addr} {epa epb : Nat} {esa esb : List (Int × V × V)} {Q : Bool → Shared → Prop} (hD : Mon D) (h : EqW X lv n D) (sb : SubW X lv n A) (I : L2.Inv X pins σ H s)
    (da : DKe X.K H a epa esa) (db : DKe X.K H b epb esb) (fa : FlK X.w esa) (fb : FlK X.w esb) (hl : esa.length = esb.length) (hm : ∀ e ∈ esa, ∃ e' ∈ esb, e'.2.1 = e.2.1 ∧ D e.2.2 e'.2.2 H)
    (fin : ∀ s', LoopI X pins σ H s' → Q true s') : wpAny (model X.prog X.w) A (Builtin.Dict.samePairs nm a b) Q X.xe s := by
  obtain ⟨ha, es, ⟨oa, hoa, _, hda⟩, pra⟩ := da.raw I
  obtain ⟨hb, es', ⟨ob, hob, _, hdb⟩, prb⟩ := db.raw I
  have hla : esa.length = es.size := by rw [pra.length, Array.length_toList]
  have hlb : esb.length = es'.size := by rw [prb.length, Array.length_toList]
  obtain ⟨kla, fa1, fa2, fa3⟩ := fa
  obtain ⟨klb, fb1, fb2, fb3⟩ := fb
  unfold Builtin.Dict.samePairs Builtin.Dict.showsAll
  rw [if_neg (show ¬ (a == sysModules) = true by rw [ha]; exact Bool.false_ne_true), if_neg (show ¬ (b == sysModules) = true by rw [hb]; exact Bool.false_ne_true)]
  refine wpAny_bind (wpAny_pure (wpAny_bind (wpAny_pure ?_)))
  refine wpAny_bind (wpAny_dictEntries hoa hda ?_)
  dsimp only
  refine wpAny_bind (wpAny_dictEntries hob hdb ?_)
  have hsz : es.size = es'.size := by omega
  rw [if_neg (by rw [hsz]; simp)]
  refine wpAny_bind (wpAny_dictEpoch hoa hda ?_)
  refine wpAny_bind ?_
  rw [Std.Legacy.Range.forIn_eq_forIn_range']
  simp only [Std.Legacy.Range.size, Nat.sub_zero, Nat.add_sub_cancel, Nat.div_one]
  have L0 : LoopI X pins σ H s := ⟨H, I, Ext.rfl'⟩
  rw [← hla]
  clear hoa hda hob hdb pra prb hla hlb hsz
  refine wpAny_forIn_list _
    (fun rest q s' => q = (none, ()) ∧ LoopI X pins σ H s' ∧ ∃ i, rest = List.range' i (esa.length - i) ∧ i ≤ esa.length)
    _ ?_ ?_ _ _ ⟨rfl, L0, 0, by simp, Nat.zero_le _⟩
  · rintro x rest q s' ⟨rfl, ⟨H1, I1, x1⟩, i, hr, hi⟩
    have hlt : i < esa.length := by
      rcases Nat.lt_or_ge i esa.length with h | h
      · exact h
      · rw [Nat.sub_eq_zero_of_le h] at hr; simp at hr
    obtain ⟨rfl, hrest⟩ : x = i ∧ rest = List.range' (i + 1) (esa.length - (i + 1)) := by
      have e : esa.length - i = (esa.length - (i + 1)) + 1 := by omega
      rw [e, List.range'_succ] at hr
      injection hr with h1 h2
      exact ⟨h1, h2⟩
    obtain ⟨_, es1, ⟨oa1, hoa, _, hda⟩, pra⟩ := (da.ext x1).raw I1
    obtain ⟨_, es2, ⟨ob1, hob, _, hdb⟩, prb⟩ := (db.ext x1).raw I1
    refine wpAny_bind (wpAny_dictEntries hoa hda ?_)
    obtain ⟨d, hd, d1, d2, d3⟩ := paired_at pra (List.getElem?_eq_getElem hlt)
    rw [Array.getElem?_toList] at hd
    rw [hd]
    have hk : x < kla.length := by
      have := congrArg List.length fa1
      rw [List.length_map, List.length_map] at this
      omega
    have ek : esa[x].2.1 = kV kla[x] := by
      have := congrArg (·[x]?) fa2
      simp only [List.getElem?_map, List.getElem?_eq_getElem hlt, List.getElem?_eq_getElem hk, Option.map_some, Option.some.injEq] at this
      exact this
    have eh : esa[x].1 = keyH X.w kla[x] := by
      have := congrArg (·[x]?) fa1
      simp only [List.getElem?_map, List.getElem?_eq_getElem hlt, List.getElem?_eq_getElem hk, Option.map_some, Option.some.injEq] at this
      exact this
    have hkey : (mixKind X.prog X.w).is kla[x] d.key = true := kV_is' (by rw [← ek]; exact d2)
    have hh : d.hash = (mixKind X.prog X.w).hash kla[x] := d1.trans eh
    obtain ⟨e', he', k', D'⟩ := hm esa[x] (List.getElem_mem hlt)
    obtain ⟨j, d', j1, j2, j3⟩ := fk_find X.prog X.w prb fb2 fb3 he' (k'.trans ek)
    have hkb : PySem.KeysOf (mixKind X.prog X.w) es2 := fun e he => fk_keys prb fb1 fb2 e (by simpa using he)
    have fj : (es2.findIdx? fun e => (mixKind X.prog X.w).is kla[x] e.key) = some j := by
      obtain ⟨l⟩ := es2
      rw [List.findIdx?_toArray]
      exact j1
    show wpAny _ _ (holding [d.key, d.val] _ >>= _) _ _ _
    rw [hh]
    refine wpAny_bind (wpAny_holding (wpAny_bind (wpAny_dictFind_of hkey hob hdb hkb ?_)))
    rw [fj]
    refine wpAny_bind (wpAny_dictEntries hob hdb ?_)
    rw [Array.getElem?_toList] at j2
    rw [j2]
    refine wpAny_holding (wpAny_mono (h A pins s' σ H1 _ _ _ _ sb I1 d3 j3 (hD _ _ _ _ x1 D')) (fun r s2 q => ?_) fun _ _ z => z)
    obtain ⟨hr', H2, I2, x2⟩ := q
    subst hr'
    show wpAny _ _ (if (!true) = true then _ else _) _ _ _
    rw [if_neg (by decide)]
    obtain ⟨_, es3, ⟨oa3, hoa3, _, hda3⟩, _⟩ := (da.ext (x1.trans x2)).raw I2
    refine wpAny_bind (wpAny_dictEpoch hoa3 hda3 ?_)
    rw [if_neg (by simp)]
    exact wpAny_pure ⟨rfl, ⟨H2, I2, x1.trans x2⟩, x + 1, hrest, hlt⟩
  · rintro q s' ⟨rfl, l, i, hr, hi⟩
    exact wpAny_pure (fin s' l)
theorem rcW_dct (hD : Mon D) (h : EqW X lv n D) : RcW X lv (n + 1) (DDct X.K X.w D) := by
  intro A pins s σ H x y u v sb I rx ry d
  obtain ⟨a, b, epa, esa, epb, esb, rfl, rfl, da, db, fa, fb, hl, hm⟩ := d
  cases rx
  cases ry
  obtain ⟨_, _, ra, _⟩ := da.raw I
  obtain ⟨_, _, rb, _⟩ := db.raw I
  refine wpAny_richCompare_same_room (op := .Eq) ra.typeIs rb.typeIs PySem.F.slot_dict_eq (wpAny_call_entry PySem.F.slot_dict_eq ra.typeIs PySem.F.entry_dict_eq ?_ (PySem.F.args_dict_eq_2 _ _)) sb.units0
  show wpAny _ _ (Builtin.Dict.dictSlotArgs "__eq__" ⟨[.ref a, .ref b], []⟩ >>= _) _ _ s
  refine wpAny_bind ?_
  unfold Builtin.Dict.dictSlotArgs
  refine wpAny_bind (wpAny_notOrdered_dict ra.typeIs ?_)
  show wpAny _ _ (pure (Value.ref a, Value.ref b)) _ _ s
  refine wpAny_pure ?_
  refine wpAny_bind (wpAny_isInstance (T := "dict") rb.typeIs PySem.F.sub_dict_dict ?_)
  simp only [Bool.not_true, Bool.false_eq_true, if_false]
  refine wpAny_bind (wpAny_pure (wpAny_bind (wpAny_pure ?_)))
  refine wpAny_bind (samePairsG hD h sb.in1 I da db fa fb hl hm fun s' l => ?_)
  refine wpAny_pure ⟨_, rfl, ?_, ?_⟩
  · exact fun x => nomatch x
  · exact ⟨rfl, l⟩
theorem eqW_dct (hD : Mon D) (h : EqW X lv n D) : EqW X lv (n + 1) (DDct X.K X.w D) := (rcW_dct hD h).eqW fun _ _ _ d => let ⟨a, b, _, _, _, _, hx, hy, _⟩ := d; ⟨a, b, hx, hy⟩
end
def allD (f : PV → PV → Bool) (k2 v2 : List PV) : List PV → List PV → Bool
  | k :: ks, v :: vs => (match findK k2 v2 k with
    | some v' => f v v'
    | none => false) && allD f k2 v2 ks vs
  | [], [] => true
  | _, _ => false
def seqD (f : PV → PV → Bool) (S : Hs) (p q : PV) : Bool := match dctOf S p, dctOf S q with
  | some (k1, v1), some (k2, v2) => k1.all isK1 && k2.all isK1 && decide (k1.length = k2.length) && allD f k2 v2 k1 v1
  | _, _ => false
section
variable {Z : Sta} {W : WX} {σ : L2.St} {H H1 : Hp} {m m1 : Mp} {X : Cx} {S : Hs} {lv : Nat} {pins : List (Addr × Obj)} {s : Shared} {Q : VK} {T : Tab} {fdO : Nat → FuncData} {psO : Nat → List Str} {c : CmpT}
theorem DRd.ke {a : Addr} {es : List (Int × V × V)} (d : DRd Z H a es) : ∃ ep, DKe Z.K H a ep es := by
  rcases d with ⟨ep, e⟩ | ⟨h, o, ds, ep, h1, h2, h3, h4⟩
  · exact ⟨ep, .inl e⟩
  · exact ⟨ep, .inr ⟨h, o, ds, h1, h2, h3, h4⟩⟩
theorem map_k1 : ∀ {ps : List PV} {zs : List V}, ps.all isK1 = true → RVs Z H m ps zs → zs = (ps.map keyL).map kV
  | [], _, _, r => by unfold RVs at r; subst r; rfl
  | p :: ps, _, h, r => by
    unfold RVs at r
    obtain ⟨y, t, rfl, r1, r2⟩ := r
    rw [List.all_cons, Bool.and_eq_true] at h
    rw [List.map_cons, List.map_cons, k1_V h.1 r1, map_k1 h.2 r2]
theorem hash_k1 : ∀ {ps : List PV}, ps.all isK1 = true → ps.map (hashK Z) = (ps.map keyL).map (keyH Z.w)
  | [], _ => rfl
  | p :: ps, h => by
    rw [List.all_cons, Bool.and_eq_true] at h
    rw [List.map_cons, List.map_cons, List.map_cons, k1_hash h.1, hash_k1 h.2]
theorem DcR.fk {a : Addr} {es : List (Int × V × V)} {ks vs : List PV} (d : DcR Z H m a es ks vs) (hk : ks.all isK1 = true) : FlK Z.w es := by
  refine ⟨ks.map keyL, d.hs.trans (hash_k1 hk), map_k1 hk d.ks, ?_⟩
  have ha := List.all_eq_true.mp hk
  exact dist_nodup (fun a h b h' => k1_eq (ha a h) (ha b h')) (keysB_parts d.kb).2.1
theorem findK_at {k : PV} (hk : isK1 k = true) : ∀ {ks vs : List PV} {es : List (Int × V × V)} {v : PV}, ks.all isK1 = true → RVs Z H m ks (es.map (·.2.1)) → RVs Z H m vs (es.map (·.2.2)) → findK ks vs k = some v →
    ∃ e ∈ es, e.2.1 = kV (keyL k) ∧ RV Z H m v e.2.2
  | [], _, _, _, _, _, _, h => by simp [findK] at h
  | j :: ks, [], es, _, _, _, r, h => by unfold findK at h; cases h
  | j :: ks, p :: vs, [], _, _, r, _, h => by unfold RVs at r; obtain ⟨_, _, e, _⟩ := r; cases e
  | j :: ks, p :: vs, e :: es, v, hj, r, q, h => by
    rw [List.map_cons] at r q
    unfold RVs at r q
    obtain ⟨y, t, ey, r1, r2⟩ := r
    injection ey with y1 y2
    subst y1 y2
    obtain ⟨z, u, ez, q1, q2⟩ := q
    injection ez with z1 z2
    subst z1 z2
    rw [List.all_cons, Bool.and_eq_true] at hj
    unfold findK at h
    split at h
    · rename_i he
      rw [k1_eq hj.1 hk, decide_eq_true_eq] at he
      cases h
      exact ⟨e, List.mem_cons_self, by rw [k1_V hj.1 r1, he], q1⟩
    · obtain ⟨e', m1, m2, m3⟩ := findK_at hk hj.2 r2 q2 h
      exact ⟨e', List.mem_cons_of_mem _ m1, m2, m3⟩
theorem prs_allD {f : Hs → PV → PV → Bool} (sr : SRel Z H m S) {k2 v2 : List PV} {es2 : List (Int × V × V)} (h2 : k2.all isK1 = true) (r2 : RVs Z H m k2 (es2.map (·.2.1))) (q2 : RVs Z H m v2 (es2.map (·.2.2))) :
    ∀ {k1 v1 : List PV} {es : List (Int × V × V)}, k1.all isK1 = true → RVs Z H m k1 (es.map (·.2.1)) → RVs Z H m v1 (es.map (·.2.2)) → allD (f S) k2 v2 k1 v1 = true → ∀ e ∈ es, ∃ e' ∈ es2, e'.2.1 = e.2.1 ∧ DB Z f e.2.2 e'.2.2 H
  | _, _, [], _, _, _, _, e, he => nomatch he
  | [], _, e :: es, _, r, _, _, _, _ => by unfold RVs at r; cases r
  | k :: ks, [], e :: es, _, _, q, _, _, _ => by unfold RVs at q; cases q
  | k :: ks, v :: vs, e :: es, hk, r, q, h, e0, he => by
    rw [List.map_cons] at r q
    unfold RVs at r q
    obtain ⟨y, t, ey, r1, r3⟩ := r
    injection ey with y1 y2
    subst y1 y2
    obtain ⟨z, u, ez, q1, q3⟩ := q
    injection ez with z1 z2
    subst z1 z2
    rw [List.all_cons, Bool.and_eq_true] at hk
    unfold allD at h
    rw [Bool.and_eq_true] at h
    rcases List.mem_cons.mp he with rfl | he
    · have h1 := h.1
      split at h1
      · rename_i v' ef
        obtain ⟨e', m1, m2, m3⟩ := findK_at hk.1 h2 r2 q2 ef
        exact ⟨e', m1, by rw [m2, k1_V hk.1 r1], m, S, v, v', sr, q1, m3, h1⟩
      · cases h1
    · exact prs_allD sr h2 r2 q2 hk.2 r3 q3 h.2 e0 he
theorem dct_DB {f : Hs → PV → PV → Bool} {p q : PV} {x y : V} (sr : SRel Z H m S) (rp : RV Z H m p x) (rq : RV Z H m q y) (h : seqD (f S) S p q = true) : DDct Z.K Z.w (DB Z f) x y H := by
  unfold seqD at h
  split at h
  · rename_i k1 v1 k2 v2 e1 e2
    rw [Bool.and_eq_true, Bool.and_eq_true, Bool.and_eq_true, decide_eq_true_eq] at h
    obtain ⟨⟨⟨h1, h2⟩, hl⟩, ha⟩ := h
    obtain ⟨a, es, rfl, d1⟩ := dctOf_ok sr rp e1
    obtain ⟨b, es2, rfl, d2⟩ := dctOf_ok sr rq e2
    obtain ⟨ep, q1⟩ := d1.rd.ke
    obtain ⟨ep2, q2⟩ := d2.rd.ke
    refine ⟨a, b, ep, es, ep2, es2, rfl, rfl, q1, q2, d1.fk h1, d2.fk h2, ?_, prs_allD sr h2 d2.ks d2.vs h1 d1.ks d1.vs ha⟩
    have l1 := d1.ks.len
    have l2 := d2.ks.len
    rw [List.length_map] at l1 l2
    omega
  · cases h
theorem subW_here (gd : Good Z lv X W) : SubW X lv 40 X.A := ⟨gd.room3.hd, by have := gd.room3.dp; omega, by have := gd.room3.un; omega, rfl⟩
abbrev eqN : Nat := 6
theorem subW_less (gd : Good Z lv X W) : SubW X lv (eqN + 1) X.A := ⟨(subW_here gd).hd, (subW_here gd).dp, by have := (subW_here gd).un; show X.A.units + 7 + 16 * lv + 200 < cLine; omega, rfl⟩
end
end MP
set_option maxRecDepth 100000
namespace MP
open PySem PySem.Spec PyProof.Rows L2
open PySem.W (alike alikeAll keyToks keyToksAll dataLe AllAlike Sortable EachIs TotalLe sameRank sortLe_total sort_unique)
section
variable {le : PV → PV → Bool} (h : TotalLe le)
include h
end
end MP
set_option maxRecDepth 100000
set_option maxRecDepth 100000
set_option maxRecDepth 100000
set_option maxRecDepth 100000
namespace MP
open PySem PySem.Spec PyProof.Rows L2
abbrev NKy (P : Program) (w : World) (h : Heap) (k : NestedKey) (b : Addr) : Prop := (nestedKind P w).is h k b
def rowN (w : World) (L : List (Addr × NestedKey)) : List (Int × Value) := L.map fun q => (q.2.hash w, Value.ref q.1)
structure SetN (P : Program) (w : World) (h : Heap) (a : Addr) (L : List (Addr × NestedKey)) (es : Array (Int × Value)) (t : SetTable) : Prop where
  at_ : ∃ o ep, h.get? a = some o ∧ o.ExactSet ∧ o.data = .set es ep t
  row : es.toList = rowN w L
  tab : L2.TabOk t (L.map fun q => q.2.hash w)
  nd : (L.map (·.2)).Nodup
  key : ∀ q ∈ L, NKy P w h q.2 q.1
  led : w.params.followText "set-order" = true ∨ t.led = true
  m7 : t.mask = 7
  few : L.length ≤ 4
section
variable {P : Program} {w : World} {A : Around} {E : Value → Shared → Prop} {s : Shared}
mutual
theorem ofA_key : ∀ (k : NestedKey) (v : Value) (n : Nat) (s : Shared), NestedIs s.heap k v → k.depth ≤ n → ∀ {A : Around} {E : Value → Shared → Prop} {Q : Bool → Shared → Prop}, Q false s → wpAny (model P w) A (ofAClassStatement n v) Q E s
  | .none, _, n, s, x, _, _, _, _, q => by cases x; cases n <;> exact wpAny_pure q
  | .num i, _, n, s, x, _, _, _, _, q => by cases x <;> cases n <;> exact wpAny_pure q
  | .text y, _, n, s, x, _, _, _, _, q => by cases x; cases n <;> exact wpAny_pure q
  | .tup ks, _, n, s, x, hn, A, E, Q, q => by
    cases x with
    | @tup a o vs m _ ho hc hd hk =>
      simp only [NestedKey.depth] at hn
      cases n with
      | zero => omega
      | succ n =>
        have items := ofA_keys ks _ n s hk (by omega)
        have hT : s.TypeIs (.ref a) "tuple" := ⟨o, ho, hc⟩
        unfold ofAClassStatement
        refine wpAny_bind (wpAny_typeOf hT ?_)
        dsimp only
        have isT : (("tuple" : String) == "tuple") = true := by decide
        simp only [isT, if_true, Bool.not_true, Bool.false_eq_true, if_false]
        try refine wpAny_bind (wpAny_pure ?_)
        try simp only [Bool.not_true, Bool.false_eq_true, if_false]
        refine wpAny_bind (wpAny_seqItems ho hd ?_)
        dsimp only
        refine wpAny_bind ?_
        rw [← Array.forIn_toList]
        refine wpAny_forIn_list _ (fun rest r s' => r.1 = none ∧ s' = s ∧ ∀ v ∈ rest, v ∈ vs.toList) _ ?_ ?_ _ _ ⟨rfl, rfl, fun _ z => z⟩
        · rintro v rest r s' ⟨r0, rfl, sub⟩
          refine wpAny_bind (items v (sub v List.mem_cons_self) ?_)
          simp only [Bool.false_eq_true, if_false]
          exact wpAny_pure ⟨rfl, rfl, fun u hu => sub u (List.mem_cons_of_mem _ hu)⟩
        · rintro ⟨r1, r2⟩ s' ⟨r0, rfl, _⟩
          simp only at r0
          subst r0
          exact wpAny_pure q
theorem ofA_keys : ∀ (ks : List NestedKey) (vs : List Value) (n : Nat) (s : Shared), NestedAll s.heap ks vs → NestedKey.depthAll ks ≤ n → ∀ v ∈ vs, ∀ {A : Around} {E : Value → Shared → Prop} {Q : Bool → Shared → Prop}, Q false s → wpAny (model P w) A (ofAClassStatement n v) Q E s
  | [], _, n, s, x, _, v, hv, _, _, _, q => by cases x; cases hv
  | k :: ks, _, n, s, x, hn, v, hv, _, _, _, q => by
    cases x with
    | cons x1 x2 =>
      simp only [NestedKey.depthAll] at hn
      rcases List.mem_cons.mp hv with e | hv
      · rw [e]; exact ofA_key k _ n s x1 (by omega) q
      · exact ofA_keys ks _ n s x2 (by omega) v hv q
end
mutual
theorem hby_key : ∀ (k : NestedKey) (v : Value) (n : Nat) (s : Shared), NestedIs s.heap k v → ∀ {A : Around} {E : Value → Shared → Prop} {Q : Bool → Shared → Prop}, (∀ b, Q b s) → wpAny (model P w) A (hashByValue n v) Q E s
  | .none, _, n, s, x, _, _, _, q => by cases x; cases n <;> exact wpAny_pure (q _)
  | .num i, _, n, s, x, _, _, _, q => by cases x <;> cases n <;> exact wpAny_pure (q _)
  | .text y, _, n, s, x, _, _, _, q => by cases x; cases n <;> exact wpAny_pure (q _)
  | .tup ks, _, n, s, x, A, E, Q, q => by
    cases x with
    | @tup a o vs m _ ho hc hd hk =>
      cases n with
      | zero => exact wpAny_pure (q _)
      | succ n =>
        have items := hby_keys ks _ n s hk
        have hT : s.TypeIs (.ref a) "tuple" := ⟨o, ho, hc⟩
        unfold hashByValue
        refine wpAny_bind (wpAny_specialOf hT F.slot_tuple_hash.lookup ?_)
        show wpAny _ _ (seqItems? (.ref a) >>= _) _ _ s
        refine wpAny_bind (wpAny_seqItems ho hd ?_)
        refine wpAny_bind ?_
        show wpAny _ _ (forIn vs _ _) _ _ s
        rw [← Array.forIn_toList]
        refine wpAny_forIn_list _ (fun rest r s' => s' = s ∧ r.1 = none ∧ ∀ v ∈ rest, v ∈ vs.toList) _ ?_ ?_ _ _ ⟨rfl, rfl, fun _ z => z⟩
        · rintro v rest r s' ⟨rfl, r0, sub⟩
          refine wpAny_bind (items v (sub v List.mem_cons_self) fun b => ?_)
          cases b with
          | true =>
            simp only [Bool.not_true, Bool.false_eq_true, if_false]
            exact wpAny_pure ⟨rfl, rfl, fun u hu => sub u (List.mem_cons_of_mem _ hu)⟩
          | false =>
            simp only [Bool.not_false, if_true]
            exact wpAny_pure (wpAny_pure (q _))
        · rintro ⟨r1, r2⟩ s' ⟨rfl, r0, _⟩
          simp only at r0
          subst r0
          exact wpAny_pure (q _)
theorem hby_keys : ∀ (ks : List NestedKey) (vs : List Value) (n : Nat) (s : Shared), NestedAll s.heap ks vs → ∀ v ∈ vs, ∀ {A : Around} {E : Value → Shared → Prop} {Q : Bool → Shared → Prop}, (∀ b, Q b s) → wpAny (model P w) A (hashByValue n v) Q E s
  | [], _, n, s, x, v, hv, _, _, _, q => by cases x; cases hv
  | k :: ks, _, n, s, x, v, hv, _, _, _, q => by
    cases x with
    | cons x1 x2 =>
      rcases List.mem_cons.mp hv with e | hv
      · rw [e]; exact hby_key k _ n s x1 q
      · exact hby_keys ks _ n s x2 v hv q
end
variable {a : Addr} {L : List (Addr × NestedKey)} {es : Array (Int × Value)} {t : SetTable}
theorem SetN.size (R : SetN P w s.heap a L es t) : es.size = L.length := by
  have h := congrArg List.length R.row
  unfold rowN at h
  simpa using h
theorem SetN.fits (R : SetN P w s.heap a L es t) : t.fits es.size = true := by
  have h1 := R.tab.sz
  rw [List.length_map] at h1
  have h2 := R.size
  have h3 := R.few
  have h4 := R.m7
  unfold SetTable.fits SetTable.fill
  rw [R.tab.dm, Bool.and_eq_true, beq_iff_eq, decide_eq_true_eq]
  show t.place.size = es.size ∧ t.place.size + 0 ≤ t.mask
  omega
theorem SetN.whole (R : SetN P w s.heap a L es t) : ¬ t.gaveWay = true := by
  unfold SetTable.gaveWay
  rw [R.m7]
  decide
end
end MP
set_option maxRecDepth 100000
namespace MP
open PySem PySem.Spec PyProof.Rows L2
structure SetI (P : Program) (w : World) (h0 : Heap) (S : Addr) (items : Array Value) (rm : Around → Prop) (SI : Nat → Heap → Prop) : Prop where
  stay : ∀ i h h', SI i h → (∀ o, h.get? S = some o → h'.get? S = some o) → (∀ b o, h0.get? b = some o → h'.get? b = some o) → SI i h'
  step : ∀ (A : Around) (E : Value → Shared → Prop) (i : Nat) (v : Value) (s : Shared) (Q : Bool → Shared → Prop), rm A → items[i]? = some v → SI i s.heap → (∀ b o, h0.get? b = some o → s.heap.get? b = some o) →
    (∀ h' tk b, Heap.SameBut S s.heap h' → s.toks ≤ tk → SI (i + 1) h' → Q b { s with heap := h', toks := tk }) → wpAny (model P w) A (setAdd S v) Q E s
end MP
set_option maxRecDepth 100000
set_option maxRecDepth 100000
set_option maxRecDepth 100000
namespace MP
section
open PySem PySem.SeqAt GQ MeetsSeq MeetsSeq2 MeetsSeq3 SeqRoads2
open AutoSeq1 (wpAny_loadPart')
variable {prog : Program} {w : World} {A : Around} {R : Result → Shared → Prop} {l b : Addr} {d : Nat} {I : Nat → Shared → Prop} {J : Shared → Prop}
structure DiffAt (prog : Program) (w : World) (A : Around) (E : Value → Shared → Prop) (xs ys : Array Value) (d : Nat) (I : Nat → Shared → Prop) (J : Shared → Prop) : Prop where
  l1 : d < xs.size
  l2 : d < ys.size
  same : ∀ i (h1 : i < xs.size) (h2 : i < ys.size) s, i < d → I i s → wpAny (model prog w) A.in1 (eqBool xs[i] ys[i]) (fun r s' => r = true ∧ I (i + 1) s') E s
  last : ∀ (h1 : d < xs.size) (h2 : d < ys.size) s, I d s → wpAny (model prog w) A.in1 (eqBool xs[d] ys[d]) (fun r s' => r = false ∧ J s') E s
theorem tup_eq_diff {xs ys : Array Value} {n n2 : Nat} {o1 o2 : Option Addr} {q1 q2 : Array (Option Value)} (D : DiffAt prog w A (fun e s' => R (.error e) s') xs ys d I J) (fin : ∀ s, J s → R (.ok (.ret (.bool false))) s) {s : Shared}
    (gl : s.heap.get? l = some { cls := .type "tuple", dict := o1, data := .seq xs n, slots := q1 }) (gb : s.heap.get? b = some { cls := .type "tuple", dict := o2, data := .seq ys n2, slots := q2 }) (h : I 0 s) :
    wpAny (model prog w) A.in1 (Builtin.«tuple.__eq__» ⟨[.ref l, .ref b], []⟩) (FinOf prog w A R) (fun e s' => R (.error e) s') s := by
  have tups := AutoSeq1.sub_tuple_tuple
  have D1 := D.l1
  have D2 := D.l2
  have zl : (xs.toList.zip ys.toList).length = min xs.size ys.size := by simp
  have h0 := h
  obtain ⟨s1, s2, s3, s4, s5⟩ := s
  wp_walk using wpAny_loadPart' gl, wpAny_loadPart' gb, wpAny_forIn_list _ (fun rest b s' => b.1 = none ∧ ∃ i, rest = (xs.toList.zip ys.toList).drop i ∧ i ≤ d ∧ I i s') _
  case turn =>
    rintro ⟨y, x⟩ rest b s' ⟨_, i, er, hi, hI⟩
    have lt : i < (xs.toList.zip ys.toList).length := by rw [zl]; omega
    have k1 : i < xs.size := by omega
    have k2 : i < ys.size := by omega
    rw [List.drop_eq_getElem_cons lt] at er
    injection er with e1 e2
    have ey : y = xs[i] := by simpa using congrArg Prod.fst e1
    have ex : x = ys[i] := by simpa using congrArg Prod.snd e1
    subst ey ex
    rcases Nat.lt_or_ge i d with z | z
    · refine wpAny_bind (wpAny_mono (D.same i k1 k2 s' z hI) (fun r t ⟨er, hi'⟩ => ?_) fun _ _ x => x)
      subst er
      wp_walk
      exact ⟨rfl, i + 1, e2, z, hi'⟩
    · obtain rfl : i = d := by omega
      refine wpAny_bind (wpAny_mono (D.last k1 k2 s' hI) (fun r t ⟨er, hj⟩ => ?_) fun _ _ x => x)
      subst er
      have now := fin t hj
      wp_walk
      exact now
  case fin =>
    rintro ⟨b1, b2⟩ s' ⟨_, i, er, hi, hI⟩
    have lt : i < (xs.toList.zip ys.toList).length := by rw [zl]; omega
    rw [List.drop_eq_getElem_cons lt] at er
    cases er
  case h =>
    exact ⟨rfl, 0, rfl, Nat.zero_le _, h0⟩
theorem tup_ne_diff {xs ys : Array Value} {n n2 : Nat} {o1 o2 : Option Addr} {q1 q2 : Array (Option Value)} (D : DiffAt prog w A (fun e s' => R (.error e) s') xs ys d I J) (fin : ∀ s, J s → R (.ok (.ret (.bool true))) s) {s : Shared}
    (gl : s.heap.get? l = some { cls := .type "tuple", dict := o1, data := .seq xs n, slots := q1 }) (gb : s.heap.get? b = some { cls := .type "tuple", dict := o2, data := .seq ys n2, slots := q2 }) (h : I 0 s) :
    wpAny (model prog w) A.in1 (Builtin.«tuple.__ne__» ⟨[.ref l, .ref b], []⟩) (FinOf prog w A R) (fun e s' => R (.error e) s') s := by
  have tups := AutoSeq1.sub_tuple_tuple
  have D1 := D.l1
  have D2 := D.l2
  have zl : (xs.toList.zip ys.toList).length = min xs.size ys.size := by simp
  have h0 := h
  obtain ⟨s1, s2, s3, s4, s5⟩ := s
  wp_walk using wpAny_loadPart' gl, wpAny_loadPart' gb, wpAny_forIn_list _ (fun rest b s' => b.1 = none ∧ ∃ i, rest = (xs.toList.zip ys.toList).drop i ∧ i ≤ d ∧ I i s') _
  case turn =>
    rintro ⟨y, x⟩ rest b s' ⟨_, i, er, hi, hI⟩
    have lt : i < (xs.toList.zip ys.toList).length := by rw [zl]; omega
    have k1 : i < xs.size := by omega
    have k2 : i < ys.size := by omega
    rw [List.drop_eq_getElem_cons lt] at er
    injection er with e1 e2
    have ey : y = xs[i] := by simpa using congrArg Prod.fst e1
    have ex : x = ys[i] := by simpa using congrArg Prod.snd e1
    subst ey ex
    rcases Nat.lt_or_ge i d with z | z
    · refine wpAny_bind (wpAny_mono (D.same i k1 k2 s' z hI) (fun r t ⟨er, hi'⟩ => ?_) fun _ _ x => x)
      subst er
      wp_walk
      exact ⟨rfl, i + 1, e2, z, hi'⟩
    · obtain rfl : i = d := by omega
      refine wpAny_bind (wpAny_mono (D.last k1 k2 s' hI) (fun r t ⟨er, hj⟩ => ?_) fun _ _ x => x)
      subst er
      have now := fin t hj
      wp_walk
      exact now
  case fin =>
    rintro ⟨b1, b2⟩ s' ⟨_, i, er, hi, hI⟩
    have lt : i < (xs.toList.zip ys.toList).length := by rw [zl]; omega
    rw [List.drop_eq_getElem_cons lt] at er
    cases er
  case h =>
    exact ⟨rfl, 0, rfl, Nat.zero_le _, h0⟩
theorem tup_ne_same {xs ys : Array Value} {n n2 : Nat} {o1 o2 : Option Addr} {q1 q2 : Array (Option Value)} (hz : xs.size = ys.size) (turn : ∀ i (h1 : i < xs.size) (h2 : i < ys.size) s, I i s → wpAny (model prog w) A.in1 (eqBool xs[i] ys[i]) (fun r s' => r = true ∧ I (i + 1) s') (fun e s' => R (.error e) s') s)
    (fin : ∀ s, I xs.size s → R (.ok (.ret (.bool false))) s) {s : Shared} (gl : s.heap.get? l = some { cls := .type "tuple", dict := o1, data := .seq xs n, slots := q1 }) (gb : s.heap.get? b = some { cls := .type "tuple", dict := o2, data := .seq ys n2, slots := q2 }) (h : I 0 s) :
    wpAny (model prog w) A.in1 (Builtin.«tuple.__ne__» ⟨[.ref l, .ref b], []⟩) (FinOf prog w A R) (fun e s' => R (.error e) s') s := by
  have tups := AutoSeq1.sub_tuple_tuple
  have zl : (xs.toList.zip ys.toList).length = xs.size := by simp [hz]
  have h0 := h
  obtain ⟨s1, s2, s3, s4, s5⟩ := s
  wp_walk using wpAny_loadPart' gl, wpAny_loadPart' gb, wpAny_forIn_list _ (fun rest b s' => b.1 = none ∧ ∃ i, rest = (xs.toList.zip ys.toList).drop i ∧ i ≤ xs.size ∧ I i s') _
  case turn =>
    rintro ⟨y, x⟩ rest b s' ⟨_, i, er, hi, hI⟩
    have lt : i < (xs.toList.zip ys.toList).length := by
      rcases Nat.lt_or_ge i (xs.toList.zip ys.toList).length with z | z
      · exact z
      · rw [List.drop_of_length_le z] at er; cases er
    have k1 : i < xs.size := by omega
    have k2 : i < ys.size := by omega
    rw [List.drop_eq_getElem_cons lt] at er
    injection er with e1 e2
    have ey : y = xs[i] := by simpa using congrArg Prod.fst e1
    have ex : x = ys[i] := by simpa using congrArg Prod.snd e1
    subst ey ex
    refine wpAny_bind (wpAny_mono (turn i k1 k2 s' hI) (fun r t ⟨er, hi'⟩ => ?_) fun _ _ x => x)
    subst er
    wp_walk
    exact ⟨rfl, i + 1, e2, k1, hi'⟩
  case fin =>
    rintro ⟨b1, b2⟩ s' ⟨eb, i, er, hi, hI⟩
    simp only at eb
    subst eb
    have ge : xs.size ≤ i := by
      rcases Nat.lt_or_ge i (xs.toList.zip ys.toList).length with z | z
      · rw [List.drop_eq_getElem_cons z] at er; cases er
      · omega
    obtain rfl : i = xs.size := by omega
    have now := fin s' hI
    wp_walk
    simpa [Builtin.Tuple.tupleCompareSizes, hz] using now
  case h =>
    exact ⟨rfl, 0, rfl, Nat.zero_le _, h0⟩
end
end MP
set_option maxRecDepth 100000
namespace MP
section
open PySem PySem.SeqAt GQ MeetsSeq MeetsSeq2 MeetsSeq3 SeqRoads2
open AutoSeq1 (wpAny_loadPart')
variable {prog : Program} {w : World} {A : Around} {R : Result → Shared → Prop} {l b : Addr} {N d : Nat} {I : Nat → Shared → Prop} {J : Shared → Prop}
def LDiff (prog : Program) (w : World) (A : Around) (E : Value → Shared → Prop) (l b : Addr) (N d : Nat) (I : Nat → Shared → Prop) (J : Shared → Prop) : Prop := d < N ∧ ∀ i s, I i s → ∃ (xs ys : Array Value) (n1 n2 : Nat),
  s.heap.get? l = some { cls := .type "list", data := .seq xs n1 } ∧ s.heap.get? b = some { cls := .type "list", data := .seq ys n2 } ∧ xs.size = N ∧ ys.size = N ∧
  (i < d → ∀ (h1 : i < xs.size) (h2 : i < ys.size), wpAny (model prog w) A.in1 (eqBool xs[i] ys[i]) (fun r s' => r = true ∧ I (i + 1) s') E s) ∧
  (i = d → ∀ (h1 : i < xs.size) (h2 : i < ys.size), wpAny (model prog w) A.in1 (eqBool xs[i] ys[i]) (fun r s' => r = false ∧ ∃ (us vs : Array Value) (m1 m2 : Nat), s'.heap.get? l = some { cls := .type "list", data := .seq us m1 } ∧ s'.heap.get? b = some { cls := .type "list", data := .seq vs m2 } ∧ i < us.size ∧ i < vs.size ∧ J s') E s)
theorem leq_turns (hl : LDiff prog w A (fun e s' => R (.error e) s') l b N d I J) (fin : ∀ s, J s → R (.ok (.ret (.bool false))) s) : ∀ (k i : Nat), i + k = d → ∀ s, I i s →
    wpAny (model prog w) A.in1 (Builtin.«list.__eq__.loop» ⟨[.ref l, .ref b, rawInt i, rawInt 2], []⟩) (FinOf prog w A R) (fun e s' => R (.error e) s') s
  | 0, i, hk, s, h => by
    obtain ⟨xs, ys, n1, n2, gl, gb, z1, z2, _, last⟩ := hl.2 _ _ h
    obtain rfl : i = d := by omega
    have l1 : i < xs.size := by rw [z1]; exact hl.1
    have l2 : i < ys.size := by rw [z2]; exact hl.1
    have now := last rfl l1 l2
    have o1 : xs[((i : Nat) : Int).toNat]? = some xs[i] := by simp [l1]
    have o2 : ys[((i : Nat) : Int).toNat]? = some ys[i] := by simp [l2]
    obtain ⟨s1, s2, s3, s4, s5⟩ := s
    wp_walk using wpAny_loadPart' gl, wpAny_loadPart' gb
    rw [o1, o2]
    refine wpAny_bind (wpAny_mono now (fun r t ⟨er, us, vs, m1, m2, fl, fb, y1, y2, hj⟩ => ?_) fun _ _ z => z)
    subst er
    have done : R (.ok (.ret (.bool false))) t := fin t hj
    have w1 : us[((i : Nat) : Int).toNat]? = some us[i] := by simp [y1]
    have w2 : vs[((i : Nat) : Int).toNat]? = some vs[i] := by simp [y2]
    obtain ⟨t1, t2, t3, t4, t5⟩ := t
    wp_walk using wpAny_loadPart' fl, wpAny_loadPart' fb
    rw [w1, w2]
    wp_walk using wpAny_loadPart' fl, wpAny_loadPart' fb
    exact done
  | k + 1, i, hk, s, h => by
    obtain ⟨xs, ys, n1, n2, gl, gb, z1, z2, turn, _⟩ := hl.2 _ _ h
    have hd := hl.1
    have l1 : i < xs.size := by omega
    have l2 : i < ys.size := by omega
    have now := turn (by omega) l1 l2
    have o1 : xs[((i : Nat) : Int).toNat]? = some xs[i] := by simp [l1]
    have o2 : ys[((i : Nat) : Int).toNat]? = some ys[i] := by simp [l2]
    have nx : ((i : Int) + 1) = ((i + 1 : Nat) : Int) := by omega
    obtain ⟨s1, s2, s3, s4, s5⟩ := s
    wp_walk using wpAny_loadPart' gl, wpAny_loadPart' gb
    rw [o1, o2]
    refine wpAny_bind (wpAny_mono now (fun r t ⟨er, hi⟩ => ?_) fun _ _ z => z)
    subst er
    have next := leq_turns hl fin k (i + 1) (by omega) t hi
    obtain ⟨t1, t2, t3, t4, t5⟩ := t
    wp_walk
    rw [nx]
    refine ⟨plainId_quiet plain_eq_loop _, codeAny_builtin entry_eq_loop ?_⟩
    rw [Around.under_plainId plain_eq_loop _]
    exact next
theorem leq_diff (hl : LDiff prog w A (fun e s' => R (.error e) s') l b N d I J) (fin : ∀ s, J s → R (.ok (.ret (.bool false))) s) {s : Shared} (h : I 0 s) : wpAny (model prog w) A.in1 (Builtin.«list.__eq__» ⟨[.ref l, .ref b], []⟩) (FinOf prog w A R) (fun e s' => R (.error e) s') s := by
  obtain ⟨xs, ys, n1, n2, gl, gb, z1, z2, _⟩ := hl.2 _ _ h
  have go := leq_turns (A := A) (R := R) hl fin d 0 (by omega) s h
  have same : ¬ (xs.size != ys.size) = true := by simp [z1, z2]
  have lists := AutoSeq1.sub_list_list
  obtain ⟨s1, s2, s3, s4, s5⟩ := s
  wp_walk using wpAny_loadPart' gl, wpAny_loadPart' gb
  refine ⟨plainId_quiet plain_eq_loop _, codeAny_builtin entry_eq_loop ?_⟩
  rw [Around.under_plainId plain_eq_loop _]
  exact go
theorem leq_len {xs ys : Array Value} {n n2 : Nat} {o1 o2 : Option Addr} {q1 q2 : Array (Option Value)} (hz : xs.size ≠ ys.size) {s : Shared} (gl : s.heap.get? l = some { cls := .type "list", dict := o1, data := .seq xs n, slots := q1 }) (gb : s.heap.get? b = some { cls := .type "list", dict := o2, data := .seq ys n2, slots := q2 })
    (fin : R (.ok (.ret (.bool false))) s) : wpAny (model prog w) A.in1 (Builtin.«list.__eq__» ⟨[.ref l, .ref b], []⟩) (FinOf prog w A R) (fun e s' => R (.error e) s') s := by
  have diff : (xs.size != ys.size) = true := by simpa using hz
  have lists := AutoSeq1.sub_list_list
  obtain ⟨s1, s2, s3, s4, s5⟩ := s
  wp_walk using wpAny_loadPart' gl, wpAny_loadPart' gb
  exact fin
theorem lne_turns (hl : LDiff prog w A (fun e s' => R (.error e) s') l b N d I J) (fin : ∀ s, J s → R (.ok (.ret (.bool true))) s) : ∀ (k i : Nat), i + k = d → ∀ s, I i s →
    wpAny (model prog w) A.in1 (Builtin.«list.__eq__.loop» ⟨[.ref l, .ref b, rawInt i, rawInt 3], []⟩) (FinOf prog w A R) (fun e s' => R (.error e) s') s
  | 0, i, hk, s, h => by
    obtain ⟨xs, ys, n1, n2, gl, gb, z1, z2, _, last⟩ := hl.2 _ _ h
    obtain rfl : i = d := by omega
    have l1 : i < xs.size := by rw [z1]; exact hl.1
    have l2 : i < ys.size := by rw [z2]; exact hl.1
    have now := last rfl l1 l2
    have o1 : xs[((i : Nat) : Int).toNat]? = some xs[i] := by simp [l1]
    have o2 : ys[((i : Nat) : Int).toNat]? = some ys[i] := by simp [l2]
    obtain ⟨s1, s2, s3, s4, s5⟩ := s
    wp_walk using wpAny_loadPart' gl, wpAny_loadPart' gb
    rw [o1, o2]
    refine wpAny_bind (wpAny_mono now (fun r t ⟨er, us, vs, m1, m2, fl, fb, y1, y2, hj⟩ => ?_) fun _ _ z => z)
    subst er
    have done : R (.ok (.ret (.bool true))) t := fin t hj
    have w1 : us[((i : Nat) : Int).toNat]? = some us[i] := by simp [y1]
    have w2 : vs[((i : Nat) : Int).toNat]? = some vs[i] := by simp [y2]
    obtain ⟨t1, t2, t3, t4, t5⟩ := t
    wp_walk using wpAny_loadPart' fl, wpAny_loadPart' fb
    rw [w1, w2]
    wp_walk using wpAny_loadPart' fl, wpAny_loadPart' fb
    exact done
  | k + 1, i, hk, s, h => by
    obtain ⟨xs, ys, n1, n2, gl, gb, z1, z2, turn, _⟩ := hl.2 _ _ h
    have hd := hl.1
    have l1 : i < xs.size := by omega
    have l2 : i < ys.size := by omega
    have now := turn (by omega) l1 l2
    have o1 : xs[((i : Nat) : Int).toNat]? = some xs[i] := by simp [l1]
    have o2 : ys[((i : Nat) : Int).toNat]? = some ys[i] := by simp [l2]
    have nx : ((i : Int) + 1) = ((i + 1 : Nat) : Int) := by omega
    obtain ⟨s1, s2, s3, s4, s5⟩ := s
    wp_walk using wpAny_loadPart' gl, wpAny_loadPart' gb
    rw [o1, o2]
    refine wpAny_bind (wpAny_mono now (fun r t ⟨er, hi⟩ => ?_) fun _ _ z => z)
    subst er
    have next := lne_turns hl fin k (i + 1) (by omega) t hi
    obtain ⟨t1, t2, t3, t4, t5⟩ := t
    wp_walk
    rw [nx]
    refine ⟨plainId_quiet plain_eq_loop _, codeAny_builtin entry_eq_loop ?_⟩
    rw [Around.under_plainId plain_eq_loop _]
    exact next
theorem lne_diff (hl : LDiff prog w A (fun e s' => R (.error e) s') l b N d I J) (fin : ∀ s, J s → R (.ok (.ret (.bool true))) s) {s : Shared} (h : I 0 s) : wpAny (model prog w) A.in1 (Builtin.«list.__ne__» ⟨[.ref l, .ref b], []⟩) (FinOf prog w A R) (fun e s' => R (.error e) s') s := by
  obtain ⟨xs, ys, n1, n2, gl, gb, z1, z2, _⟩ := hl.2 _ _ h
  have go := lne_turns (A := A) (R := R) hl fin d 0 (by omega) s h
  have same : ¬ (xs.size != ys.size) = true := by simp [z1, z2]
  have lists := AutoSeq1.sub_list_list
  obtain ⟨s1, s2, s3, s4, s5⟩ := s
  wp_walk using wpAny_loadPart' gl, wpAny_loadPart' gb
  refine ⟨plainId_quiet plain_eq_loop _, codeAny_builtin entry_eq_loop ?_⟩
  rw [Around.under_plainId plain_eq_loop _]
  exact go
theorem lne_len {xs ys : Array Value} {n n2 : Nat} {o1 o2 : Option Addr} {q1 q2 : Array (Option Value)} (hz : xs.size ≠ ys.size) {s : Shared} (gl : s.heap.get? l = some { cls := .type "list", dict := o1, data := .seq xs n, slots := q1 }) (gb : s.heap.get? b = some { cls := .type "list", dict := o2, data := .seq ys n2, slots := q2 })
    (fin : R (.ok (.ret (.bool true))) s) : wpAny (model prog w) A.in1 (Builtin.«list.__ne__» ⟨[.ref l, .ref b], []⟩) (FinOf prog w A R) (fun e s' => R (.error e) s') s := by
  have diff : (xs.size != ys.size) = true := by simpa using hz
  have lists := AutoSeq1.sub_list_list
  obtain ⟨s1, s2, s3, s4, s5⟩ := s
  wp_walk using wpAny_loadPart' gl, wpAny_loadPart' gb
  exact fin
end
end MP
set_option maxRecDepth 100000
namespace MP
open PySem PySem.Spec PyProof.Rows L2
def UnW (X : Cx) (lv k : Nat) (U : Eqv) : Prop :=
  ∀ (A : Around) (pins : List (Addr × Obj)) (s : Shared) (σ : L2.St) (H : Hp) (x y : V) (u v : Value), SubW X lv k A → L2.Inv X pins σ H s → RelV x u → RelV y v → U x y H →
    wpAny (model X.prog X.w) A (eqBool u v) (fun r s' => r = false ∧ ∃ H', L2.Inv X pins σ H' s' ∧ Ext H H') X.xe s
def RcG (X : Cx) (lv k : Nat) (op : CmpOp) (t : Bool) (U : Eqv) : Prop :=
  ∀ (A : Around) (pins : List (Addr × Obj)) (s : Shared) (σ : L2.St) (H : Hp) (x y : V) (u v : Value), SubW X lv k A → L2.Inv X pins σ H s → RelV x u → RelV y v → U x y H →
    wpAny (model X.prog X.w) A (richCompare op u v) (fun r s' => r = .bool t ∧ ∃ H', L2.Inv X pins σ H' s' ∧ Ext H H') X.xe s
def UAt (D U : Eqv) (xs ys : List V) (d : Nat) (H : Hp) : Prop := (∀ i x y, i < d → xs[i]? = some x → ys[i]? = some y → D x y H) ∧ ∀ x y, xs[d]? = some x → ys[d]? = some y → U x y H
def UList (D U : Eqv) : Eqv := fun x y H => ∃ a b xs ys, x = .ref a ∧ y = .ref b ∧ H a = some (.lst xs) ∧ H b = some (.lst ys) ∧ (xs.length ≠ ys.length ∨ (xs.length = ys.length ∧ ∃ d, d < xs.length ∧ UAt D U xs ys d H))
def UTup (K : PySem.W.Frag) (D U : Eqv) : Eqv := fun x y H => ∃ a b xs ys, x = .ref a ∧ y = .ref b ∧ SqT K H a xs ∧ SqT K H b ys ∧ ∃ d, d < xs.length ∧ d < ys.length ∧ UAt D U xs ys d H
section
variable {X : Cx} {lv k : Nat} {D U U' : Eqv}
theorem UnW.succ (h : UnW X lv k U) : UnW X lv (k + 1) U := fun A pins s σ H x y u v sb => h A pins s σ H x y u v sb.less
theorem UnW.or (h : UnW X lv k U) (h' : UnW X lv k U') : UnW X lv k (fun x y H => U x y H ∨ U' x y H) := fun A pins s σ H x y u v sb I rx ry d =>
  d.elim (fun d => h A pins s σ H x y u v sb I rx ry d) fun d => h' A pins s σ H x y u v sb I rx ry d
theorem UnW.imp (h : UnW X lv k U) (hd : ∀ x y H, U' x y H → U x y H) : UnW X lv k U' := fun A pins s σ H x y u v sb I rx ry d => h A pins s σ H x y u v sb I rx ry (hd x y H d)
theorem RcG.imp {op : CmpOp} {t : Bool} (h : RcG X lv k op t U) (hd : ∀ x y H, U' x y H → U x y H) : RcG X lv k op t U' := fun A pins s σ H x y u v sb I rx ry d => h A pins s σ H x y u v sb I rx ry (hd x y H d)
theorem pair_at {xs ys : List V} {its its2 : List Value} (r : Vals xs its) (r2 : Vals ys its2) {i : Nat} (h1 : i < xs.length) (h2 : i < ys.length) {k1 : i < its.toArray.size} {k2 : i < its2.toArray.size} :
    ∃ x y, xs[i]? = some x ∧ ys[i]? = some y ∧ RelV x its.toArray[i] ∧ RelV y its2.toArray[i] := by
  obtain ⟨u, hu, ru⟩ := r.get (List.getElem?_eq_getElem h1)
  obtain ⟨v, hv, rv⟩ := r2.get (List.getElem?_eq_getElem h2)
  have z1 : i < its.length := by simpa using k1
  have z2 : i < its2.length := by simpa using k2
  refine ⟨xs[i], ys[i], List.getElem?_eq_getElem h1, List.getElem?_eq_getElem h2, ?_, ?_⟩
  · rw [List.getElem?_eq_getElem z1] at hu
    have := Option.some.inj hu
    simpa [this] using ru
  · rw [List.getElem?_eq_getElem z2] at hv
    have := Option.some.inj hv
    simpa [this] using rv
theorem RcG.un (h : RcG X lv k .Eq false U) (hr : ∀ x y H, U' x y H → U x y H ∧ ∃ a b, x = .ref a ∧ y = .ref b) (hn : ∀ pins s σ H a b, L2.Inv X pins σ H s → U' (.ref a) (.ref b) H → a ≠ b) : UnW X lv k U' := by
  intro A pins s σ H x y u v sb I rx ry d
  obtain ⟨d1, a, b, ex, ey⟩ := hr _ _ _ d
  subst ex ey
  cases rx
  cases ry
  exact GQ.eqBool_refG (hn _ _ _ _ _ _ I d) (wpAny_mono (h A pins s σ H (.ref a) (.ref b) _ _ sb I rfl rfl d1) (fun r s' ⟨er, q⟩ => ⟨false, er, rfl, q⟩) fun _ _ z => z)
theorem rcU_list_eq (hD : Mon D) (hU : Mon U) (h : EqW X lv k D) (h2 : UnW X lv k U) : RcG X lv (k + 1) .Eq false (UList D U) := by
  intro A pins s σ H x y u v sb I rx ry ⟨a, b, xs, ys, ex, ey, ha, hb, df⟩
  subst ex ey
  cases rx
  cases ry
  obtain ⟨_, its, k1, r, e⟩ := I.hok a _ ha
  obtain ⟨_, its2, k2, r2, e2⟩ := I.hok b _ hb
  refine wpAny_richCompare_same_room (op := .Eq) ⟨_, e, rfl⟩ ⟨_, e2, rfl⟩ PySem.F.slot_list_eq (GQ.call_here PySem.F.slot_list_eq ⟨_, e, rfl⟩ PySem.F.entry_list_eq (PySem.F.args_list_eq_2 _ _) ?_) sb.units0
  have done : ∀ s', LoopI X pins σ H s' → wants (fun v s' => v ≠ .notImplemented ∧ v = .bool false ∧ ∃ H', L2.Inv X pins σ H' s' ∧ Ext H H') X.xe (.ok (.ret (.bool false))) s' := fun s' q => ⟨(fun z => nomatch z), rfl, q⟩
  rcases df with ne | ⟨hl, d, hd, same, last⟩
  · exact leq_len (R := wants (fun v s' => v ≠ .notImplemented ∧ v = .bool false ∧ ∃ H', L2.Inv X pins σ H' s' ∧ Ext H H') X.xe) (by rw [List.size_toArray, List.size_toArray, ← r.length, ← r2.length]; exact ne) e e2 (done s ⟨H, I, Ext.rfl'⟩)
  · refine leq_diff (R := wants (fun v s' => v ≠ .notImplemented ∧ v = .bool false ∧ ∃ H', L2.Inv X pins σ H' s' ∧ Ext H H') X.xe) (N := xs.length) (d := d) (I := fun _ s' => LoopI X pins σ H s') (J := fun s' => LoopI X pins σ H s') ⟨hd, fun i s' q => ?_⟩ done ⟨H, I, Ext.rfl'⟩
    obtain ⟨H1, I1, x1⟩ := q
    obtain ⟨_, us, m1, q1, f1⟩ := I1.hok a _ (x1 _ _ ha)
    obtain ⟨_, us2, m2, q2, f2⟩ := I1.hok b _ (x1 _ _ hb)
    refine ⟨us.toArray, us2.toArray, m1, m2, f1, f2, by rw [List.size_toArray, ← q1.length], by rw [List.size_toArray, ← q2.length, hl], fun hi h1 h2' => ?_, fun hi h1 h2' => ?_⟩
    · obtain ⟨x, y, ex, ey, rx, ry⟩ := pair_at q1 q2 (by rw [q1.length]; simpa using h1) (by rw [q2.length]; simpa using h2')
      exact wpAny_mono (h A.in1 pins s' σ H1 x y _ _ sb.in1 I1 rx ry (hD _ _ _ _ x1 (same i x y hi ex ey))) (fun r t ⟨er, H2, I2, x2⟩ => ⟨er, H2, I2, x1.trans x2⟩) fun _ _ z => z
    · subst hi
      obtain ⟨x, y, ex, ey, rx, ry⟩ := pair_at q1 q2 (by rw [q1.length]; simpa using h1) (by rw [q2.length]; simpa using h2')
      refine wpAny_mono (h2 A.in1 pins s' σ H1 x y _ _ sb.in1 I1 rx ry (hU _ _ _ _ x1 (last x y ex ey))) (fun r t ⟨er, H2, I2, x2⟩ => ?_) fun _ _ z => z
      have x3 := x1.trans x2
      obtain ⟨_, vs, n1, p1, g1⟩ := I2.hok a _ (x3 _ _ ha)
      obtain ⟨_, vs2, n2, p2, g2⟩ := I2.hok b _ (x3 _ _ hb)
      exact ⟨er, vs.toArray, vs2.toArray, n1, n2, g1, g2, by rw [List.size_toArray, ← p1.length]; exact hd, by rw [List.size_toArray, ← p2.length, ← hl]; exact hd, H2, I2, x3⟩
theorem rcU_list_ne (hD : Mon D) (hU : Mon U) (h : EqW X lv k D) (h2 : UnW X lv k U) : RcG X lv (k + 1) .NotEq true (UList D U) := by
  intro A pins s σ H x y u v sb I rx ry ⟨a, b, xs, ys, ex, ey, ha, hb, df⟩
  subst ex ey
  cases rx
  cases ry
  obtain ⟨_, its, k1, r, e⟩ := I.hok a _ ha
  obtain ⟨_, its2, k2, r2, e2⟩ := I.hok b _ hb
  refine wpAny_richCompare_same_room (op := .NotEq) ⟨_, e, rfl⟩ ⟨_, e2, rfl⟩ PySem.F.slot_list_ne (GQ.call_here PySem.F.slot_list_ne ⟨_, e, rfl⟩ PySem.F.entry_list_ne (PySem.F.args_list_ne_2 _ _) ?_) sb.units0
  have done : ∀ s', LoopI X pins σ H s' → wants (fun v s' => v ≠ .notImplemented ∧ v = .bool true ∧ ∃ H', L2.Inv X pins σ H' s' ∧ Ext H H') X.xe (.ok (.ret (.bool true))) s' := fun s' q => ⟨(fun z => nomatch z), rfl, q⟩
  rcases df with ne | ⟨hl, d, hd, same, last⟩
  · exact lne_len (R := wants (fun v s' => v ≠ .notImplemented ∧ v = .bool true ∧ ∃ H', L2.Inv X pins σ H' s' ∧ Ext H H') X.xe) (by rw [List.size_toArray, List.size_toArray, ← r.length, ← r2.length]; exact ne) e e2 (done s ⟨H, I, Ext.rfl'⟩)
  · refine lne_diff (R := wants (fun v s' => v ≠ .notImplemented ∧ v = .bool true ∧ ∃ H', L2.Inv X pins σ H' s' ∧ Ext H H') X.xe) (N := xs.length) (d := d) (I := fun _ s' => LoopI X pins σ H s') (J := fun s' => LoopI X pins σ H s') ⟨hd, fun i s' q => ?_⟩ done ⟨H, I, Ext.rfl'⟩
    obtain ⟨H1, I1, x1⟩ := q
    obtain ⟨_, us, m1, q1, f1⟩ := I1.hok a _ (x1 _ _ ha)
    obtain ⟨_, us2, m2, q2, f2⟩ := I1.hok b _ (x1 _ _ hb)
    refine ⟨us.toArray, us2.toArray, m1, m2, f1, f2, by rw [List.size_toArray, ← q1.length], by rw [List.size_toArray, ← q2.length, hl], fun hi h1 h2' => ?_, fun hi h1 h2' => ?_⟩
    · obtain ⟨x, y, ex, ey, rx, ry⟩ := pair_at q1 q2 (by rw [q1.length]; simpa using h1) (by rw [q2.length]; simpa using h2')
      exact wpAny_mono (h A.in1 pins s' σ H1 x y _ _ sb.in1 I1 rx ry (hD _ _ _ _ x1 (same i x y hi ex ey))) (fun r t ⟨er, H2, I2, x2⟩ => ⟨er, H2, I2, x1.trans x2⟩) fun _ _ z => z
    · subst hi
      obtain ⟨x, y, ex, ey, rx, ry⟩ := pair_at q1 q2 (by rw [q1.length]; simpa using h1) (by rw [q2.length]; simpa using h2')
      refine wpAny_mono (h2 A.in1 pins s' σ H1 x y _ _ sb.in1 I1 rx ry (hU _ _ _ _ x1 (last x y ex ey))) (fun r t ⟨er, H2, I2, x2⟩ => ?_) fun _ _ z => z
      have x3 := x1.trans x2
      obtain ⟨_, vs, n1, p1, g1⟩ := I2.hok a _ (x3 _ _ ha)
      obtain ⟨_, vs2, n2, p2, g2⟩ := I2.hok b _ (x3 _ _ hb)
      exact ⟨er, vs.toArray, vs2.toArray, n1, n2, g1, g2, by rw [List.size_toArray, ← p1.length]; exact hd, by rw [List.size_toArray, ← p2.length, ← hl]; exact hd, H2, I2, x3⟩
theorem rcU_tup_eq (hD : Mon D) (hU : Mon U) (h : EqW X lv k D) (h2 : UnW X lv k U) : RcG X lv (k + 1) .Eq false (UTup X.K D U) := by
  intro A pins s σ H x y u v sb I rx ry ⟨a, b, xs, ys, ex, ey, ha, hb, d, hd, hd2, same, last⟩
  subst ex ey
  cases rx
  cases ry
  obtain ⟨its, r, ⟨o, e, c1, n1, c2⟩, _⟩ := I.tuple ha
  obtain ⟨its2, r2, ⟨o2, e2, c3, n2, c4⟩, _⟩ := I.tuple hb
  obtain ⟨oc, od, odt, osl⟩ := o
  obtain ⟨oc2, od2, odt2, osl2⟩ := o2
  simp only at c1 c2 c3 c4
  subst c1 c2 c3 c4
  refine wpAny_richCompare_same_room (op := .Eq) ⟨_, e, rfl⟩ ⟨_, e2, rfl⟩ PySem.F.slot_tuple_eq (GQ.call_here PySem.F.slot_tuple_eq ⟨_, e, rfl⟩ PySem.F.entry_tuple_eq (PySem.F.args_tuple_eq_2 _ _) ?_) sb.units0
  have done : ∀ s', LoopI X pins σ H s' → wants (fun v s' => v ≠ .notImplemented ∧ v = .bool false ∧ ∃ H', L2.Inv X pins σ H' s' ∧ Ext H H') X.xe (.ok (.ret (.bool false))) s' := fun s' q => ⟨(fun z => nomatch z), rfl, q⟩
  have k1 : d < its.length := by rw [← r.length]; exact hd
  have k2 : d < its2.length := by rw [← r2.length]; exact hd2
  refine tup_eq_diff (R := wants (fun v s' => v ≠ .notImplemented ∧ v = .bool false ∧ ∃ H', L2.Inv X pins σ H' s' ∧ Ext H H') X.xe) (d := d) (I := fun _ s' => LoopI X pins σ H s') (J := fun s' => LoopI X pins σ H s') ⟨by simpa using k1, by simpa using k2, fun i h1 h2' s' hi ⟨H1, I1, x1⟩ => ?_, fun h1 h2' s' ⟨H1, I1, x1⟩ => ?_⟩ done e e2 ⟨H, I, Ext.rfl'⟩
  · obtain ⟨x, y, ex, ey, rx, ry⟩ := pair_at r r2 (by rw [r.length]; simpa using h1) (by rw [r2.length]; simpa using h2')
    exact wpAny_mono (h A.in1 pins s' σ H1 x y _ _ sb.in1 I1 rx ry (hD _ _ _ _ x1 (same i x y hi ex ey))) (fun r t ⟨er, H2, I2, x2⟩ => ⟨er, H2, I2, x1.trans x2⟩) fun _ _ z => z
  · obtain ⟨x, y, ex, ey, rx, ry⟩ := pair_at r r2 (by rw [r.length]; simpa using h1) (by rw [r2.length]; simpa using h2')
    exact wpAny_mono (h2 A.in1 pins s' σ H1 x y _ _ sb.in1 I1 rx ry (hU _ _ _ _ x1 (last x y ex ey))) (fun r t ⟨er, H2, I2, x2⟩ => ⟨er, H2, I2, x1.trans x2⟩) fun _ _ z => z
theorem rcU_tup_ne (hD : Mon D) (hU : Mon U) (h : EqW X lv k D) (h2 : UnW X lv k U) : RcG X lv (k + 1) .NotEq true (UTup X.K D U) := by
  intro A pins s σ H x y u v sb I rx ry ⟨a, b, xs, ys, ex, ey, ha, hb, d, hd, hd2, same, last⟩
  subst ex ey
  cases rx
  cases ry
  obtain ⟨its, r, ⟨o, e, c1, n1, c2⟩, _⟩ := I.tuple ha
  obtain ⟨its2, r2, ⟨o2, e2, c3, n2, c4⟩, _⟩ := I.tuple hb
  obtain ⟨oc, od, odt, osl⟩ := o
  obtain ⟨oc2, od2, odt2, osl2⟩ := o2
  simp only at c1 c2 c3 c4
  subst c1 c2 c3 c4
  refine wpAny_richCompare_same_room (op := .NotEq) ⟨_, e, rfl⟩ ⟨_, e2, rfl⟩ PySem.F.slot_tuple_ne (GQ.call_here PySem.F.slot_tuple_ne ⟨_, e, rfl⟩ PySem.F.entry_tuple_ne (PySem.F.args_tuple_ne_2 _ _) ?_) sb.units0
  have done : ∀ s', LoopI X pins σ H s' → wants (fun v s' => v ≠ .notImplemented ∧ v = .bool true ∧ ∃ H', L2.Inv X pins σ H' s' ∧ Ext H H') X.xe (.ok (.ret (.bool true))) s' := fun s' q => ⟨(fun z => nomatch z), rfl, q⟩
  have k1 : d < its.length := by rw [← r.length]; exact hd
  have k2 : d < its2.length := by rw [← r2.length]; exact hd2
  refine tup_ne_diff (R := wants (fun v s' => v ≠ .notImplemented ∧ v = .bool true ∧ ∃ H', L2.Inv X pins σ H' s' ∧ Ext H H') X.xe) (d := d) (I := fun _ s' => LoopI X pins σ H s') (J := fun s' => LoopI X pins σ H s') ⟨by simpa using k1, by simpa using k2, fun i h1 h2' s' hi ⟨H1, I1, x1⟩ => ?_, fun h1 h2' s' ⟨H1, I1, x1⟩ => ?_⟩ done e e2 ⟨H, I, Ext.rfl'⟩
  · obtain ⟨x, y, ex, ey, rx, ry⟩ := pair_at r r2 (by rw [r.length]; simpa using h1) (by rw [r2.length]; simpa using h2')
    exact wpAny_mono (h A.in1 pins s' σ H1 x y _ _ sb.in1 I1 rx ry (hD _ _ _ _ x1 (same i x y hi ex ey))) (fun r t ⟨er, H2, I2, x2⟩ => ⟨er, H2, I2, x1.trans x2⟩) fun _ _ z => z
  · obtain ⟨x, y, ex, ey, rx, ry⟩ := pair_at r r2 (by rw [r.length]; simpa using h1) (by rw [r2.length]; simpa using h2')
    exact wpAny_mono (h2 A.in1 pins s' σ H1 x y _ _ sb.in1 I1 rx ry (hU _ _ _ _ x1 (last x y ex ey))) (fun r t ⟨er, H2, I2, x2⟩ => ⟨er, H2, I2, x1.trans x2⟩) fun _ _ z => z
end
end MP
set_option maxRecDepth 100000
namespace MP
open PySem PySem.Spec PyProof.Rows L2
def DiffD (D U : Eqv) (esa esb : List (Int × V × V)) (H : Hp) : Prop := esa.length ≠ esb.length ∨ (esa.length = esb.length ∧ ∃ d, d < esa.length ∧ (∀ i e, i < d → esa[i]? = some e → ∃ e' ∈ esb, e'.2.1 = e.2.1 ∧ D e.2.2 e'.2.2 H) ∧
  ∀ e, esa[d]? = some e → (∀ e' ∈ esb, e'.2.1 ≠ e.2.1) ∨ ∃ e' ∈ esb, e'.2.1 = e.2.1 ∧ U e.2.2 e'.2.2 H)
def UDct (K : PySem.W.Frag) (w : World) (D U : Eqv) : Eqv := fun x y H => ∃ a b epa esa epb esb, x = .ref a ∧ y = .ref b ∧ DKe K H a epa esa ∧ DKe K H b epb esb ∧ FlK w esa ∧ FlK w esb ∧ DiffD D U esa esb H
section
variable {prog : Program} {w : World}
theorem fk_none (prog : Program) (w : World) {k : Key} : ∀ {es : List (Int × V × V)} {ds : List DictEntry} {kl : List Key}, Paired EntR es ds → es.map (·.2.1) = kl.map kV → (∀ e ∈ es, e.2.1 ≠ kV k) → ds.findIdx? (fun d => keyIs k d.key) = none
  | [], _, _, .nil, _, _ => rfl
  | e0 :: es, d :: ds, kl, .cons ⟨e1, e2, e3⟩ pr, hk, no => by
    cases kl with
    | nil => cases hk
    | cons k0 kl =>
      rw [List.map_cons, List.map_cons] at hk
      injection hk with k1 k2
      have q0 : keyIs k0 d.key = true := kV_is' (by rw [← k1]; exact e2)
      have nk : keyIs k d.key = false := by
        cases hq : keyIs k d.key with
        | false => rfl
        | true =>
          have : k = k0 := (mixKind prog w).inj _ _ _ hq q0
          exact absurd (k1.trans (by rw [this])) (no e0 List.mem_cons_self)
      rw [List.findIdx?_cons, if_neg (by rw [nk]; exact Bool.false_ne_true), fk_none prog w pr k2 fun e he => no e (List.mem_cons_of_mem _ he)]
      rfl
end
section
variable {X : Cx} {lv n : Nat} {D U : Eqv} {H H1 : Hp} {pins : List (Addr × Obj)} {σ : L2.St} {s : Shared} {A : Around}
theorem samePairsU {nm : String} {a b : Addr} {epa epb : Nat} {esa esb : List (Int × V × V)} {Q : Bool → Shared → Prop} (hD : Mon D) (hU : Mon U) (h : EqW X lv n D) (h2 : UnW X lv n U) (sb : SubW X lv n A) (I : L2.Inv X pins σ H s)
    (da : DKe X.K H a epa esa) (db : DKe X.K H b epb esb) (fa : FlK X.w esa) (fb : FlK X.w esb) (df : DiffD D U esa esb H) (fin : ∀ s', LoopI X pins σ H s' → Q false s') : wpAny (model X.prog X.w) A (Builtin.Dict.samePairs nm a b) Q X.xe s := by
  obtain ⟨ha, es, ⟨oa, hoa, _, hda⟩, pra⟩ := da.raw I
  obtain ⟨hb, es', ⟨ob, hob, _, hdb⟩, prb⟩ := db.raw I
  have hla : esa.length = es.size := by rw [pra.length, Array.length_toList]
  have hlb : esb.length = es'.size := by rw [prb.length, Array.length_toList]
  obtain ⟨kla, fa1, fa2, fa3⟩ := fa
  obtain ⟨klb, fb1, fb2, fb3⟩ := fb
  unfold Builtin.Dict.samePairs Builtin.Dict.showsAll
  rw [if_neg (show ¬ (a == sysModules) = true by rw [ha]; exact Bool.false_ne_true), if_neg (show ¬ (b == sysModules) = true by rw [hb]; exact Bool.false_ne_true)]
  refine wpAny_bind (wpAny_pure (wpAny_bind (wpAny_pure (wpAny_bind (wpAny_dictEntries hoa hda ?_)))))
  dsimp only
  refine wpAny_bind (wpAny_dictEntries hob hdb ?_)
  have L0 : LoopI X pins σ H s := ⟨H, I, Ext.rfl'⟩
  rcases df with ne | ⟨hl, dd, hdd, same, last⟩
  · rw [if_pos (by rw [bne_iff_ne]; omega)]
    exact wpAny_bind (wpAny_rule (wpAny_pure (fin s L0)))
  have hsz : es.size = es'.size := by omega
  rw [if_neg (by rw [hsz]; simp)]
  refine wpAny_bind (wpAny_dictEpoch hoa hda (wpAny_bind ?_))
  rw [Std.Legacy.Range.forIn_eq_forIn_range']
  simp only [Std.Legacy.Range.size, Nat.sub_zero, Nat.add_sub_cancel, Nat.div_one]
  rw [← hla]
  clear hoa hda hob hdb pra prb hla hlb hsz
  refine wpAny_forIn_list _
    (fun rest q s' => q = (none, ()) ∧ LoopI X pins σ H s' ∧ ∃ i, rest = List.range' i (esa.length - i) ∧ i ≤ dd)
    _ ?_ ?_ _ _ ⟨rfl, L0, 0, by simp, Nat.zero_le _⟩
  · rintro x rest q s' ⟨rfl, ⟨H1, I1, x1⟩, i, hr, hi⟩
    have hlt : i < esa.length := by omega
    obtain ⟨rfl, hrest⟩ : x = i ∧ rest = List.range' (i + 1) (esa.length - (i + 1)) := by
      have e : esa.length - i = (esa.length - (i + 1)) + 1 := by omega
      rw [e, List.range'_succ] at hr
      injection hr with h1 h2
      exact ⟨h1, h2⟩
    obtain ⟨_, es1, ⟨oa1, hoa, _, hda⟩, pra⟩ := (da.ext x1).raw I1
    obtain ⟨_, es2, ⟨ob1, hob, _, hdb⟩, prb⟩ := (db.ext x1).raw I1
    refine wpAny_bind (wpAny_dictEntries hoa hda ?_)
    obtain ⟨d, hd, d1, d2, d3⟩ := paired_at pra (List.getElem?_eq_getElem hlt)
    rw [Array.getElem?_toList] at hd
    rw [hd]
    have hk : x < kla.length := by
      have := congrArg List.length fa1
      rw [List.length_map, List.length_map] at this
      omega
    have ek : esa[x].2.1 = kV kla[x] := by
      have := congrArg (·[x]?) fa2
      simp only [List.getElem?_map, List.getElem?_eq_getElem hlt, List.getElem?_eq_getElem hk, Option.map_some, Option.some.injEq] at this
      exact this
    have eh : esa[x].1 = keyH X.w kla[x] := by
      have := congrArg (·[x]?) fa1
      simp only [List.getElem?_map, List.getElem?_eq_getElem hlt, List.getElem?_eq_getElem hk, Option.map_some, Option.some.injEq] at this
      exact this
    have hkey : (mixKind X.prog X.w).is kla[x] d.key = true := kV_is' (by rw [← ek]; exact d2)
    have hh : d.hash = (mixKind X.prog X.w).hash kla[x] := d1.trans eh
    have hkb : PySem.KeysOf (mixKind X.prog X.w) es2 := fun e he => fk_keys prb fb1 fb2 e (by simpa using he)
    have fidx : ∀ {r : Option Nat}, es2.toList.findIdx? (fun d => keyIs kla[x] d.key) = r → (es2.findIdx? fun e => (mixKind X.prog X.w).is kla[x] e.key) = r := fun {r} j1 => by
      obtain ⟨l⟩ := es2
      rw [List.findIdx?_toArray]
      exact j1
    show wpAny _ _ (holding [d.key, d.val] _ >>= _) _ _ _
    rw [hh]
    refine wpAny_bind (wpAny_holding (wpAny_bind (wpAny_dictFind_of hkey hob hdb hkb ?_)))
    rcases Nat.lt_or_ge x dd with z | z
    · obtain ⟨e', he', k', D'⟩ := same x esa[x] z (List.getElem?_eq_getElem hlt)
      obtain ⟨j, d', j1, j2, j3⟩ := fk_find X.prog X.w prb fb2 fb3 he' (k'.trans ek)
      rw [fidx j1]
      refine wpAny_bind (wpAny_dictEntries hob hdb ?_)
      rw [Array.getElem?_toList] at j2
      rw [j2]
      refine wpAny_holding (wpAny_mono (h A pins s' σ H1 _ _ _ _ sb I1 d3 j3 (hD _ _ _ _ x1 D')) (fun r s2 q => ?_) fun _ _ z => z)
      obtain ⟨hr', H2, I2, x2⟩ := q
      subst hr'
      show wpAny _ _ (if (!true) = true then _ else _) _ _ _
      rw [if_neg (by decide)]
      obtain ⟨_, es3, ⟨oa3, hoa3, _, hda3⟩, _⟩ := (da.ext (x1.trans x2)).raw I2
      refine wpAny_bind (wpAny_dictEpoch hoa3 hda3 ?_)
      rw [if_neg (by simp)]
      exact wpAny_pure ⟨rfl, ⟨H2, I2, x1.trans x2⟩, x + 1, hrest, z⟩
    · obtain rfl : x = dd := by omega
      rcases last esa[x] (List.getElem?_eq_getElem hlt) with no | ⟨e', he', k', U'⟩
      · rw [fidx (fk_none X.prog X.w prb fb2 fun e he => by rw [← ek]; exact no e he)]
        refine wpAny_pure ?_
        show wpAny _ _ (if (!false) = true then _ else _) _ _ _
        rw [if_pos (by decide)]
        exact wpAny_pure (wpAny_pure (fin s' ⟨H1, I1, x1⟩))
      · obtain ⟨j, d', j1, j2, j3⟩ := fk_find X.prog X.w prb fb2 fb3 he' (k'.trans ek)
        rw [fidx j1]
        refine wpAny_bind (wpAny_dictEntries hob hdb ?_)
        rw [Array.getElem?_toList] at j2
        rw [j2]
        refine wpAny_holding (wpAny_mono (h2 A pins s' σ H1 _ _ _ _ sb I1 d3 j3 (hU _ _ _ _ x1 U')) (fun r s2 q => ?_) fun _ _ z => z)
        obtain ⟨hr', H2, I2, x2⟩ := q
        subst hr'
        show wpAny _ _ (if (!false) = true then _ else _) _ _ _
        rw [if_pos (by decide)]
        exact wpAny_pure (wpAny_pure (fin s2 ⟨H2, I2, x1.trans x2⟩))
  · rintro q s' ⟨rfl, l, i, hr, hi⟩
    exfalso
    have : esa.length - i = (esa.length - (i + 1)) + 1 := by omega
    rw [this, List.range'_succ] at hr
    cases hr
theorem rcU_dct_eq (hD : Mon D) (hU : Mon U) (h : EqW X lv n D) (h2 : UnW X lv n U) : RcG X lv (n + 1) .Eq false (UDct X.K X.w D U) := by
  intro A pins s σ H x y u v sb I rx ry ⟨a, b, epa, esa, epb, esb, ex, ey, da, db, fa, fb, df⟩
  subst ex ey
  cases rx
  cases ry
  obtain ⟨_, _, ra, _⟩ := da.raw I
  obtain ⟨_, _, rb, _⟩ := db.raw I
  refine wpAny_richCompare_same_room (op := .Eq) ra.typeIs rb.typeIs PySem.F.slot_dict_eq (wpAny_call_entry PySem.F.slot_dict_eq ra.typeIs PySem.F.entry_dict_eq ?_ (PySem.F.args_dict_eq_2 _ _)) sb.units0
  show wpAny _ _ (Builtin.Dict.dictSlotArgs "__eq__" ⟨[.ref a, .ref b], []⟩ >>= _) _ _ s
  refine wpAny_bind ?_
  unfold Builtin.Dict.dictSlotArgs
  refine wpAny_bind (wpAny_notOrdered_dict ra.typeIs ?_)
  show wpAny _ _ (pure (Value.ref a, Value.ref b)) _ _ s
  refine wpAny_pure (wpAny_bind (wpAny_isInstance (T := "dict") rb.typeIs PySem.F.sub_dict_dict ?_))
  simp only [Bool.not_true, Bool.false_eq_true, if_false]
  refine wpAny_bind (wpAny_pure (wpAny_bind (wpAny_pure (wpAny_bind (samePairsU hD hU h h2 sb.in1 I da db fa fb df fun s' l => ?_)))))
  exact wpAny_pure ⟨_, rfl, (fun x => nomatch x), rfl, l⟩
theorem rcU_dct_ne (hD : Mon D) (hU : Mon U) (h : EqW X lv n D) (h2 : UnW X lv n U) : RcG X lv (n + 1) .NotEq true (UDct X.K X.w D U) := by
  intro A pins s σ H x y u v sb I rx ry ⟨a, b, epa, esa, epb, esb, ex, ey, da, db, fa, fb, df⟩
  subst ex ey
  cases rx
  cases ry
  obtain ⟨_, _, ra, _⟩ := da.raw I
  obtain ⟨_, _, rb, _⟩ := db.raw I
  refine wpAny_richCompare_same_room (op := .NotEq) ra.typeIs rb.typeIs PySem.F.slot_dict_ne (wpAny_call_entry PySem.F.slot_dict_ne ra.typeIs PySem.F.entry_dict_ne ?_ (PySem.F.args_dict_ne_2 _ _)) sb.units0
  show wpAny _ _ (Builtin.Dict.dictSlotArgs "__ne__" ⟨[.ref a, .ref b], []⟩ >>= _) _ _ s
  refine wpAny_bind ?_
  unfold Builtin.Dict.dictSlotArgs
  refine wpAny_bind (wpAny_notOrdered_dict ra.typeIs ?_)
  show wpAny _ _ (pure (Value.ref a, Value.ref b)) _ _ s
  refine wpAny_pure (wpAny_bind (wpAny_isInstance (T := "dict") rb.typeIs PySem.F.sub_dict_dict ?_))
  simp only [Bool.not_true, Bool.false_eq_true, if_false]
  refine wpAny_bind (wpAny_pure (wpAny_bind (wpAny_pure (wpAny_bind (samePairsU hD hU h h2 sb.in1 I da db fa fb df fun s' l => ?_)))))
  exact wpAny_pure ⟨_, rfl, (fun x => nomatch x), rfl, l⟩
theorem rcE_dct_ne (hD : Mon D) (h : EqW X lv n D) : RcG X lv (n + 1) .NotEq false (DDct X.K X.w D) := by
  intro A pins s σ H x y u v sb I rx ry ⟨a, b, epa, esa, epb, esb, ex, ey, da, db, fa, fb, hl, hm⟩
  subst ex ey
  cases rx
  cases ry
  obtain ⟨_, _, ra, _⟩ := da.raw I
  obtain ⟨_, _, rb, _⟩ := db.raw I
  refine wpAny_richCompare_same_room (op := .NotEq) ra.typeIs rb.typeIs PySem.F.slot_dict_ne (wpAny_call_entry PySem.F.slot_dict_ne ra.typeIs PySem.F.entry_dict_ne ?_ (PySem.F.args_dict_ne_2 _ _)) sb.units0
  show wpAny _ _ (Builtin.Dict.dictSlotArgs "__ne__" ⟨[.ref a, .ref b], []⟩ >>= _) _ _ s
  refine wpAny_bind ?_
  unfold Builtin.Dict.dictSlotArgs
  refine wpAny_bind (wpAny_notOrdered_dict ra.typeIs ?_)
  show wpAny _ _ (pure (Value.ref a, Value.ref b)) _ _ s
  refine wpAny_pure (wpAny_bind (wpAny_isInstance (T := "dict") rb.typeIs PySem.F.sub_dict_dict ?_))
  simp only [Bool.not_true, Bool.false_eq_true, if_false]
  refine wpAny_bind (wpAny_pure (wpAny_bind (wpAny_pure (wpAny_bind (samePairsG hD h sb.in1 I da db fa fb hl hm fun s' l => ?_)))))
  exact wpAny_pure ⟨_, rfl, (fun x => nomatch x), rfl, l⟩
theorem rcE_tup_ne (hD : Mon D) (h : EqW X lv n D) : RcG X lv (n + 1) .NotEq false (DTup X.K D) := by
  intro A pins s σ H x y u v sb I rx ry ⟨a, b, xs, ys, ex, ey, ha, hb, p⟩
  subst ex ey
  cases rx
  cases ry
  obtain ⟨its, r, ⟨o, e, c1, n1, c2⟩, _⟩ := I.tuple ha
  obtain ⟨its2, r2, ⟨o2, e2, c3, n2, c4⟩, _⟩ := I.tuple hb
  obtain ⟨oc, od, odt, osl⟩ := o
  obtain ⟨oc2, od2, odt2, osl2⟩ := o2
  simp only at c1 c2 c3 c4
  subst c1 c2 c3 c4
  refine wpAny_richCompare_same_room (op := .NotEq) ⟨_, e, rfl⟩ ⟨_, e2, rfl⟩ PySem.F.slot_tuple_ne (GQ.call_here PySem.F.slot_tuple_ne ⟨_, e, rfl⟩ PySem.F.entry_tuple_ne (PySem.F.args_tuple_ne_2 _ _) ?_) sb.units0
  have hz : its.toArray.size = its2.toArray.size := by rw [List.size_toArray, List.size_toArray, ← r.length, ← r2.length]; exact p.1
  exact tup_ne_same (R := wants (fun v s' => v ≠ .notImplemented ∧ v = .bool false ∧ ∃ H', L2.Inv X pins σ H' s' ∧ Ext H H') X.xe) (I := fun _ s' => LoopI X pins σ H s') hz (fun i h1 h2 s' q => turnW hD h sb p r r2 i h1 h2 s' q) (fun s' q => ⟨(fun z => nomatch z), rfl, q⟩) e e2 ⟨H, I, Ext.rfl'⟩
end
end MP
set_option maxRecDepth 100000
namespace MP
open PySem PySem.Spec PyProof.Rows L2
def any2 (f : PV → PV → Bool) : List PV → List PV → Bool
  | x :: xs, y :: ys => f x y || any2 f xs ys
  | _, _ => false
def aptF : PV → PV → Bool
  | .non, .non => false
  | .bl a, .bl b => !(a == b)
  | .int i, .int j => !(i == j)
  | .str s, .str t => !(s == t)
  | a, b => isFlat a && isFlat b
def aptT (f : PV → PV → Bool) : PV → PV → Bool
  | .tup xs, .tup ys => !(Nat.beq xs.length ys.length) || any2 f xs ys
  | _, _ => false
def aptL (f : PV → PV → Bool) (S : Hs) (p q : PV) : Bool := match asL S p, asL S q with
  | some xs, some ys => !(Nat.beq xs.length ys.length) || any2 f xs ys
  | _, _ => false
def aptD (f : PV → PV → Bool) (S : Hs) (p q : PV) : Bool := match dctOf S p, dctOf S q with
  | some (k1, v1), some (k2, v2) => !(Nat.beq k1.length k2.length) || (any2 f k1 k2 || any2 f v1 v2)
  | _, _ => false
def aptO (f : PV → PV → Bool) (S : Hs) (p q : PV) : Bool := match clsOf S p, clsOf S q with
  | some (_, ns, xs), some (_, ns2, xs2) => decide (ns = ns2) && any2 f xs xs2
  | _, _ => false
def apt (S : Hs) : Nat → PV → PV → Bool
  | 0, p, q => aptF p q
  | n + 1, p, q => aptF p q || (aptT (apt S n) p q || (aptL (apt S n) S p q || (aptD (apt S n) S p q || aptO (apt S n) S p q)))
section
variable {Z : Sta} {W : WX} {σ : L2.St} {H H1 : Hp} {m m1 : Mp} {X : Cx} {S : Hs} {lv : Nat} {pins : List (Addr × Obj)} {s : Shared} {Q : VK} {T : Tab} {fdO : Nat → FuncData} {psO : Nat → List Str} {c : CmpT}
theorem beq_ne {a b : Nat} (h : (!(Nat.beq a b)) = true) : a ≠ b := fun e => by
  subst e
  rw [Nat.beq_refl] at h
  cases h
theorem aptF_no {p q : PV} {x : V} (h : aptF p q = true) (r : RV Z H m p x) (t : RV Z H m q x) : False := by
  cases p <;> cases q <;> first | (cases h; done) | skip
  all_goals first
    | (unfold RV at r t; rw [r] at t; cases t; done)
    | (obtain ⟨e, _⟩ := rv_str r; obtain ⟨e2, _⟩ := rv_str t; rw [e] at e2; injection e2 with e2; have : _ = _ := congrArg (fun z : Str => z.cps.toList) e2; simp at this; subst this; simp [aptF] at h; done)
    | (unfold RV at r t; rw [r] at t; injection t with t; subst t; simp [aptF] at h; done)
    | (unfold RV at r t; obtain ⟨t, _⟩ := t; rw [r] at t; cases t; done)
    | (unfold RV at r t; obtain ⟨r, _⟩ := r; rw [t] at r; cases r; done)
theorem any2_no {f : PV → PV → Bool} (ih : ∀ {p q : PV} {x : V}, f p q = true → RV Z H m p x → RV Z H m q x → False) : ∀ {ps qs : List PV} {xs : List V}, any2 f ps qs = true → RVs Z H m ps xs → RVs Z H m qs xs → False
  | [], _, _, h, _, _ => by cases h
  | _ :: _, [], _, h, _, _ => by cases h
  | p :: ps, q :: qs, _, h, r, t => by
    unfold RVs at r t
    obtain ⟨x, xs, rfl, r1, r2⟩ := r
    obtain ⟨y, ys, e, t1, t2⟩ := t
    injection e with e1 e2
    subst e1 e2
    unfold any2 at h
    rw [Bool.or_eq_true] at h
    exact h.elim (fun z => ih z r1 t1) fun z => any2_no ih z r2 t2
theorem zipF_inj : ∀ {ns : List Nat} {ys zs : List V}, ns.length = ys.length → ns.length = zs.length → zipF Z ns ys = zipF Z ns zs → ys = zs
  | [], [], [], _, _, _ => rfl
  | n :: ns, y :: ys, z :: zs, h1, h2, e => by
    unfold zipF at e
    injection e with e1 e2
    injection e1 with _ e1
    rw [e1, zipF_inj (by simpa using h1) (by simpa using h2) e2]
theorem entr_inj : ∀ {es es2 : List (Int × V × V)} {ds : List DictEntry}, Paired EntR es ds → Paired EntR es2 ds → es.map (·.2.1) = es2.map (·.2.1) ∧ es.map (·.2.2) = es2.map (·.2.2)
  | [], [], _, .nil, .nil => ⟨rfl, rfl⟩
  | [], _ :: _, _, p, q => by cases p; cases q
  | _ :: _, [], _, p, q => by cases q; cases p
  | e :: es, e2 :: es2, _, .cons ⟨a1, a2, a3⟩ t, .cons ⟨b1, b2, b3⟩ u => by
    obtain ⟨q1, q2⟩ := entr_inj t u
    exact ⟨by rw [List.map_cons, List.map_cons, q1, a2.inj b2], by rw [List.map_cons, List.map_cons, q2, a3.inj b3]⟩
theorem apt_no (I : L2.Inv X pins σ H s) (hK : X.K = Z.K) (sr : SRel Z H m S) : ∀ {n : Nat} {p q : PV} {x : V}, apt S n p q = true → RV Z H m p x → RV Z H m q x → False
  | 0, p, q, x, h, r, t => aptF_no h r t
  | n + 1, p, q, x, h, r, t => by
    have ih : ∀ {ps qs : List PV} {xs : List V}, any2 (apt S n) ps qs = true → RVs Z H m ps xs → RVs Z H m qs xs → False := fun h r t => any2_no (fun h r t => apt_no I hK sr h r t) h r t
    unfold apt at h
    rw [Bool.or_eq_true, Bool.or_eq_true, Bool.or_eq_true, Bool.or_eq_true] at h
    rcases h with h | h | h | h | h
    · exact aptF_no h r t
    · unfold aptT at h
      split at h
      · obtain ⟨a, ys, e1, q1, r1⟩ := rv_tup r
        obtain ⟨b, zs, e2, q2, r2⟩ := rv_tup t
        rw [e1] at e2
        cases e2
        rw [← hK] at q1 q2
        obtain rfl := I.tuple_inj q1 q2
        rw [Bool.or_eq_true] at h
        exact h.elim (fun z => beq_ne z (r1.len.trans r2.len.symm)) fun z => ih z r1 r2
      · cases h
    · unfold aptL at h
      split at h
      · rename_i xs ys e1 e2
        obtain ⟨a, vs, f1, g1, r1⟩ := asL_ok sr r e1
        obtain ⟨b, ws, f2, g2, r2⟩ := asL_ok sr t e2
        rw [f1] at f2
        cases f2
        rw [g1] at g2
        cases g2
        rw [Bool.or_eq_true] at h
        exact h.elim (fun z => beq_ne z (r1.len.trans r2.len.symm)) fun z => ih z r1 r2
      · cases h
    · unfold aptD at h
      split at h
      · rename_i k1 v1 k2 v2 e1 e2
        obtain ⟨a, es, f1, d1⟩ := dctOf_ok sr r e1
        obtain ⟨b, es2, f2, d2⟩ := dctOf_ok sr t e2
        rw [f1] at f2
        cases f2
        obtain ⟨_, o, ds, ep, g1, _, g3, g4⟩ := d1.rd.raw I hK
        obtain ⟨_, o2, ds2, ep2, j1, _, j3, j4⟩ := d2.rd.raw I hK
        rw [g1] at j1
        cases j1
        rw [g3] at j3
        cases j3
        obtain ⟨q1, q2⟩ := entr_inj g4 j4
        have a1 := d1.ks
        have a2 := d1.vs
        rw [q1] at a1
        rw [q2] at a2
        rw [Bool.or_eq_true, Bool.or_eq_true] at h
        exact h.elim (fun z => beq_ne z (a1.len.trans d2.ks.len.symm)) fun z => z.elim (fun z => ih z a1 d2.ks) fun z => ih z a2 d2.vs
      · cases h
    · unfold aptO at h
      split at h
      · rename_i k1 ns xs k2 ns2 xs2 e1 e2
        rw [Bool.and_eq_true, decide_eq_true_eq] at h
        obtain ⟨rfl, h⟩ := h
        obtain ⟨a, dx, ys, f1, g1, l1, r1⟩ := clsOf_ok sr r e1
        obtain ⟨b, dx2, zs, f2, g2, l2, r2⟩ := clsOf_ok sr t e2
        rw [f1] at f2
        cases f2
        rw [g1] at g2
        injection g2 with g2
        injection g2 with _ _ g2
        obtain rfl := zipF_inj l1 l2 g2
        exact ih h r1 r2
      · cases h
end
end MP
set_option maxRecDepth 100000
namespace MP
open PySem PySem.Spec PyProof.Rows L2
def ownX (T : Tab) (c : CmpT) (S : Hs) (p q : PV) : Option Bool := match clsOf S p, clsOf S q with
  | some (k, _, _), some (k2, _, _) => if decide (k = k2) && c.ks.contains k then (match T.mem k c.e with
    | .meth g => (match T.arr g 2 [] with
      | some a => (match mapO (freeze [] dpF) [p, q] with
        | some vs => (match T.run g (a vs []) [] with
          | .ok (.bl b) _ => some b
          | _ => none)
        | none => none)
      | none => none)
    | _ => none) else none
  | _, _ => none
def seqR (f : PV → PV → Option Bool) : List PV → List PV → Option Bool
  | [], [] => some true
  | x :: xs, y :: ys => (match f x y with
    | some true => seqR f xs ys
    | some false => some false
    | none => none)
  | _, _ => none
def dctR (f : PV → PV → Option Bool) (k2 v2 : List PV) : List PV → List PV → Option Bool
  | k :: ks, v :: vs => (match findK k2 v2 k with
    | some v' => (match f v v' with
      | some true => dctR f k2 v2 ks vs
      | some false => some false
      | none => none)
    | none => some false)
  | [], [] => some true
  | _, _ => none
def tupR (f : PV → PV → Option Bool) : PV → PV → Option Bool
  | .tup xs, .tup ys => seqR f xs ys
  | _, _ => none
def cmpDR (f : PV → PV → Option Bool) (S : Hs) (p q : PV) : Option Bool := match dctOf S p, dctOf S q with
  | some (k1, v1), some (k2, v2) => if k1.all isK1 && k2.all isK1 then (if Nat.beq k1.length k2.length then dctR f k2 v2 k1 v1 else some false) else none
  | _, _ => tupR f p q
def cmpR (f : PV → PV → Option Bool) (S : Hs) (p q : PV) : Option Bool := match asL S p, asL S q with
  | some xs, some ys => if Nat.beq xs.length ys.length then seqR f xs ys else some false
  | _, _ => cmpDR f S p q
def sure (S : Hs) (p q : PV) : Option Bool → Option Bool
  | some false => if apt S 6 p q then some false else none
  | r => r
def deq (T : Tab) (c : CmpT) (S : Hs) : Nat → PV → PV → Option Bool
  | 0, p, q => (match eqI S p q with
    | some b => some b
    | none => sure S p q (ownX T c S p q))
  | n + 1, p, q => (match eqI S p q with
    | some b => some b
    | none => (match sure S p q (ownX T c S p q) with
      | some b => some b
      | none => sure S p q (cmpR (deq T c S n) S p q)))
def isT (f : PV → PV → Option Bool) (p q : PV) : Bool := match f p q with
  | some true => true
  | _ => false
def isF (f : PV → PV → Option Bool) (p q : PV) : Bool := match f p q with
  | some false => true
  | _ => false
theorem isT_of {f : PV → PV → Option Bool} {p q : PV} (h : f p q = some true) : isT f p q = true := by unfold isT; rw [h]
theorem isF_of {f : PV → PV → Option Bool} {p q : PV} (h : f p q = some false) : isF f p q = true := by unfold isF; rw [h]
theorem of_isT {f : PV → PV → Option Bool} {p q : PV} (h : isT f p q = true) : f p q = some true := by
  unfold isT at h
  split at h
  · assumption
  · cases h
theorem of_isF {f : PV → PV → Option Bool} {p q : PV} (h : isF f p q = true) : f p q = some false := by
  unfold isF at h
  split at h
  · assumption
  · cases h
theorem sure_t {S : Hs} {p q : PV} {r : Option Bool} (h : sure S p q r = some true) : r = some true := by
  unfold sure at h
  split at h
  · split at h <;> cases h
  · exact h
theorem sure_f {S : Hs} {p q : PV} {r : Option Bool} (h : sure S p q r = some false) : r = some false ∧ apt S 6 p q = true := by
  unfold sure at h
  split at h
  · split at h
    · rename_i e; exact ⟨rfl, e⟩
    · cases h
  · subst h
    rename_i z
    exact absurd rfl z
theorem ownX_t {T : Tab} {c : CmpT} {S : Hs} {p q : PV} (h : ownX T c S p q = some true) : eqOwn T c S p q = true := by
  unfold ownX at h
  unfold eqOwn
  split at h
  · rename_i e1 e2
    split at h
    · rename_i hk
      rw [Bool.and_eq_true] at hk
      split at h
      · rename_i em
        split at h
        · rename_i ea
          split at h
          · rename_i ev
            split at h
            · rename_i er
              cases h
              simp only [e1, e2, hk.1, hk.2, em, ea, ev, er, Bool.and_self, Bool.true_and]
            · cases h
          · cases h
        · cases h
      · cases h
    · cases h
  · cases h
def neOwnD (T : Tab) (c : CmpT) (S : Hs) (p q : PV) : Bool := isF (ownX T c S) p q && apt S 6 p q
def neI1 (S : Hs) (p q : PV) : Bool := isF (eqI S) p q
theorem deq_t {T : Tab} {c : CmpT} {S : Hs} {p q : PV} : ∀ {n : Nat}, deq T c S n p q = some true → eqI1 S p q = true ∨ eqOwn T c S p q = true ∨ ∃ k, n = k + 1 ∧ cmpR (deq T c S k) S p q = some true
  | 0, h => by
    unfold deq at h
    split at h
    · rename_i b e
      cases h
      exact .inl (by unfold eqI1; rw [e])
    · exact .inr (.inl (ownX_t (sure_t h)))
  | n + 1, h => by
    unfold deq at h
    split at h
    · rename_i b e
      cases h
      exact .inl (by unfold eqI1; rw [e])
    · split at h
      · rename_i e
        cases h
        exact .inr (.inl (ownX_t (sure_t e)))
      · exact .inr (.inr ⟨n, rfl, sure_t h⟩)
theorem deq_f {T : Tab} {c : CmpT} {S : Hs} {p q : PV} : ∀ {n : Nat}, deq T c S n p q = some false → neI1 S p q = true ∨ neOwnD T c S p q = true ∨ ∃ k, n = k + 1 ∧ cmpR (deq T c S k) S p q = some false ∧ apt S 6 p q = true
  | 0, h => by
    unfold deq at h
    split at h
    · rename_i b e
      cases h
      exact .inl (isF_of e)
    · obtain ⟨h1, h2⟩ := sure_f h
      exact .inr (.inl (by unfold neOwnD; rw [isF_of h1, h2]; rfl))
  | n + 1, h => by
    unfold deq at h
    split at h
    · rename_i b e
      cases h
      exact .inl (isF_of e)
    · split at h
      · rename_i e
        cases h
        obtain ⟨h1, h2⟩ := sure_f e
        exact .inr (.inl (by unfold neOwnD; rw [isF_of h1, h2]; rfl))
      · obtain ⟨h1, h2⟩ := sure_f h
        exact .inr (.inr ⟨n, rfl, h1, h2⟩)
theorem seqR_t {f : PV → PV → Option Bool} : ∀ {xs ys : List PV}, seqR f xs ys = some true → all2 (isT f) xs ys = true
  | [], [], _ => rfl
  | x :: xs, y :: ys, h => by
    unfold seqR at h
    unfold all2
    split at h
    · rename_i e
      rw [isT_of e, seqR_t h]
      rfl
    · cases h
    · cases h
  | [], _ :: _, h => by cases h
  | _ :: _, [], h => by cases h
end MP
set_option maxRecDepth 100000
namespace MP
open PySem PySem.Spec PyProof.Rows L2
section
variable {Z : Sta} {W : WX} {σ : L2.St} {H H1 : Hp} {m m1 : Mp} {X : Cx} {S : Hs} {lv : Nat} {pins : List (Addr × Obj)} {s : Shared} {Q : VK} {T : Tab} {fdO : Nat → FuncData} {psO : Nat → List Str} {c : CmpT}
theorem seqR_f {f : Hs → PV → PV → Option Bool} (sr : SRel Z H m S) : ∀ {ps qs : List PV} {xs ys : List V}, RVs Z H m ps xs → RVs Z H m qs ys → seqR (f S) ps qs = some false →
    ∃ d, d < xs.length ∧ d < ys.length ∧ UAt (DB Z fun S => isT (f S)) (DB Z fun S => isF (f S)) xs ys d H
  | [], [], _, _, _, _, h => by cases h
  | [], _ :: _, _, _, _, _, h => by cases h
  | _ :: _, [], _, _, _, _, h => by cases h
  | p :: ps, q :: qs, _, _, r1, r2, h => by
    unfold RVs at r1 r2
    obtain ⟨x, xs, rfl, a1, b1⟩ := r1
    obtain ⟨y, ys, rfl, a2, b2⟩ := r2
    unfold seqR at h
    split at h
    · rename_i e
      obtain ⟨d, h1, h2, h3, h4⟩ := seqR_f sr b1 b2 h
      refine ⟨d + 1, Nat.succ_lt_succ h1, Nat.succ_lt_succ h2, fun i u v hi hu hv => ?_, fun u v hu hv => h4 u v hu hv⟩
      cases i with
      | zero =>
        cases hu
        cases hv
        exact ⟨m, S, p, q, sr, a1, a2, isT_of e⟩
      | succ i => exact h3 i u v (Nat.lt_of_succ_lt_succ hi) hu hv
    · rename_i e
      refine ⟨0, Nat.zero_lt_succ _, Nat.zero_lt_succ _, fun i u v hi => absurd hi (Nat.not_lt_zero i), fun u v hu hv => ?_⟩
      cases hu
      cases hv
      exact ⟨m, S, p, q, sr, a1, a2, isF_of e⟩
    · cases h
theorem findK_no {k : PV} (hk : isK1 k = true) : ∀ {ks vs : List PV} {es : List (Int × V × V)}, ks.all isK1 = true → RVs Z H m ks (es.map (·.2.1)) → RVs Z H m vs (es.map (·.2.2)) → findK ks vs k = none →
    ∀ e ∈ es, e.2.1 ≠ kV (keyL k)
  | [], _, es, _, r, _, _, e, he => by
    unfold RVs at r
    cases es with
    | nil => cases he
    | cons _ _ => cases r
  | j :: ks, [], es, _, r, q, _, e, he => by
    unfold RVs at q
    cases es with
    | nil => cases he
    | cons _ _ => cases q
  | j :: ks, p :: vs, [], _, _, _, _, e, he => by cases he
  | j :: ks, p :: vs, e :: es, hj, r, q, h, e', he => by
    rw [List.map_cons] at r q
    unfold RVs at r q
    obtain ⟨y, t, ey, r1, r2⟩ := r
    injection ey with y1 y2
    subst y1 y2
    obtain ⟨z, u, ez, q1, q2⟩ := q
    injection ez with z1 z2
    subst z1 z2
    rw [List.all_cons, Bool.and_eq_true] at hj
    unfold findK at h
    split at h
    · cases h
    · rename_i ne
      rcases List.mem_cons.mp he with rfl | he
      · intro e1
        rw [k1_V hj.1 r1] at e1
        exact ne (by rw [k1_eq hj.1 hk, decide_eq_true_eq]; exact kV_inj e1)
      · exact findK_no hk hj.2 r2 q2 h e' he
theorem dctR_t {f : PV → PV → Option Bool} {k2 v2 : List PV} : ∀ {k1 v1 : List PV}, dctR f k2 v2 k1 v1 = some true → allD (isT f) k2 v2 k1 v1 = true
  | [], [], _ => rfl
  | [], _ :: _, h => by cases h
  | _ :: _, [], h => by cases h
  | k :: ks, v :: vs, h => by
    unfold dctR at h
    unfold allD
    split at h
    · rename_i v' e
      try rw [e]
      split at h
      · rename_i e2
        simp only [isT_of e2, dctR_t h, Bool.and_self]
      · cases h
      · cases h
    · cases h
theorem dctR_f {f : Hs → PV → PV → Option Bool} (sr : SRel Z H m S) {k2 v2 : List PV} {es2 : List (Int × V × V)} (h2 : k2.all isK1 = true) (r2 : RVs Z H m k2 (es2.map (·.2.1))) (q2 : RVs Z H m v2 (es2.map (·.2.2))) :
    ∀ {k1 v1 : List PV} {es : List (Int × V × V)}, k1.all isK1 = true → RVs Z H m k1 (es.map (·.2.1)) → RVs Z H m v1 (es.map (·.2.2)) → dctR (f S) k2 v2 k1 v1 = some false →
      ∃ d, d < es.length ∧ (∀ i e, i < d → es[i]? = some e → ∃ e' ∈ es2, e'.2.1 = e.2.1 ∧ DB Z (fun S => isT (f S)) e.2.2 e'.2.2 H) ∧
        ∀ e, es[d]? = some e → (∀ e' ∈ es2, e'.2.1 ≠ e.2.1) ∨ ∃ e' ∈ es2, e'.2.1 = e.2.1 ∧ DB Z (fun S => isF (f S)) e.2.2 e'.2.2 H
  | [], [], _, _, _, _, h => by cases h
  | [], _ :: _, _, _, _, _, h => by cases h
  | _ :: _, [], _, _, _, _, h => by cases h
  | k :: ks, v :: vs, [], _, r, _, _ => by unfold RVs at r; obtain ⟨_, _, e, _⟩ := r; cases e
  | k :: ks, v :: vs, e :: es, hk, r, q, h => by
    rw [List.map_cons] at r q
    unfold RVs at r q
    obtain ⟨y, t, ey, r1, r3⟩ := r
    injection ey with y1 y2
    subst y1 y2
    obtain ⟨z, u, ez, q1, q3⟩ := q
    injection ez with z1 z2
    subst z1 z2
    rw [List.all_cons, Bool.and_eq_true] at hk
    unfold dctR at h
    split at h
    · rename_i v' ef
      obtain ⟨e', m1, m2, m3⟩ := findK_at hk.1 h2 r2 q2 ef
      split at h
      · rename_i et
        obtain ⟨d, l1, l2, l3⟩ := dctR_f sr h2 r2 q2 hk.2 r3 q3 h
        refine ⟨d + 1, Nat.succ_lt_succ l1, fun i e0 hi he => ?_, fun e0 he => l3 e0 he⟩
        cases i with
        | zero =>
          cases he
          exact ⟨e', m1, by rw [m2, k1_V hk.1 r1], m, S, v, v', sr, q1, m3, isT_of et⟩
        | succ i => exact l2 i e0 (Nat.lt_of_succ_lt_succ hi) he
      · rename_i et
        refine ⟨0, Nat.zero_lt_succ _, fun i _ hi => absurd hi (Nat.not_lt_zero i), fun e0 he => ?_⟩
        cases he
        exact .inr ⟨e', m1, by rw [m2, k1_V hk.1 r1], m, S, v, v', sr, q1, m3, isF_of et⟩
      · cases h
    · rename_i ef
      refine ⟨0, Nat.zero_lt_succ _, fun i _ hi => absurd hi (Nat.not_lt_zero i), fun e0 he => ?_⟩
      cases he
      exact .inl fun e' he' => by rw [k1_V hk.1 r1]; exact findK_no hk.1 h2 r2 q2 ef e' he'
theorem unW_data (gd : Good Z lv X W) {n : Nat} : UnW X lv n (DB Z neI1) := by
  intro A pins s σ H x y u v sb I rx ry ⟨m, S, p, q, sr, rp, rq, h⟩
  exact eqI_ok gd I sr (by have := sb.un; omega) rp rq rx ry (of_isF h) X.prog X.w X.xe _ ⟨rfl, H, I, Ext.rfl'⟩
theorem unW_own (TO : TabOk Z lv T fdO psO) (gd : Good Z lv X W) (C : CmpTOk Z c) {n : Nat} : UnW X lv n (DB Z (neOwnD T c)) := by
  intro A pins s σ H x y u v sb0 I rx ry ⟨m, S, p, q, sr, rp, rq, h⟩
  have sb := sb0.sub
  unfold neOwnD at h
  rw [Bool.and_eq_true] at h
  obtain ⟨h, hap⟩ := h
  have h := of_isF h
  unfold ownX at h
  split at h
  · rename_i k ns xs k2 ns2 xs2 e1 e2
    split at h
    · rename_i hk
      rw [Bool.and_eq_true, decide_eq_true_eq] at hk
      obtain ⟨rfl, hk⟩ := hk
      have hk : k ∈ c.ks := by simpa using hk
      split at h
      · rename_i g em
        split at h
        · rename_i a ea
          split at h
          · rename_i vs ev
            split at h
            · rename_i S1 er
              cases h
              obtain ⟨p1, d1, y1, rfl, h1, _, _⟩ := clsOf_ok sr rp e1
              obtain ⟨p2, d2, y2, rfl, h2, _, _⟩ := clsOf_ok sr rq e2
              have mk := TO.mem k c.e
              rw [em] at mk
              obtain ⟨cl, me, hh⟩ := mk
              have F := TO.fn g hh
              have B := TO.arr g 2 [] a ea
              rw [C.e] at me
              rw [← gd.K] at cl me
              have hf : PySem.W.isFn X.K (.ref (Z.G g)) = true := by rw [gd.K]; exact F.fn
              have Fok := F.ok
              rw [← gd.prog, ← gd.w, ← gd.K, ← gd.mg, ← gd.base] at Fok
              obtain ⟨mA, J, _⟩ := ins_get I.hok h1
              obtain ⟨mB, J', _⟩ := ins_get I.hok h2
              obtain ⟨od, J, _⟩ := J.look
              obtain ⟨od', J', _⟩ := J'.look
              obtain ⟨mf, hF⟩ := I.fr
              cases (show u = Value.ref p1 from rx)
              cases (show v = Value.ref p2 from ry)
              have hab : p1 ≠ p2 := fun e => by
                subst e
                exact apt_no I gd.K sr hap rp rq
              refine GQ.eqBool_refG hab ?_
              refine PySem.W.cmp_K (op := .Eq) (tb := .ref (Z.G k)) sb.room.units0 hF I.ok.mod.kin J J'.type (by simp [PySem.W.notFirst]) me.1 hf ?_
              have e0 : Env0 X.prog X.w X.K X.mg X.base A X.stack s H := by
                have e := I.env0
                exact ⟨by rw [sb.fr]; exact e.frames, e.mod, e.bs, e.bsz, e.funs, e.frf, e.hok, e.bare⟩
              have kin : Z.K.In s.heap := by rw [← gd.K]; exact I.kIn
              have v2 : Vals [V.ref p1, V.ref p2] [Value.ref p1, Value.ref p2] := .cons rfl (.cons rfl .nil)
              obtain ⟨ts, ys, hb, hv, hlen, hr⟩ := B s [.ref p1, .ref p2] [] [.ref p1, .ref p2] [] kin rfl rfl v2 .nil
              have ra := args_apart (RVs.cons rp (RVs.cons rq RVs.nil)) ev
              have sp : spF Z (psO g).length (T.run g) ys H (fun v H' => v = .bl false ∧ Ext H H') (fun _ _ _ => False) := by
                refine ⟨hlen, m.apart, [], a vs [], sr.apart, hr H m.apart vs [] ra RVs.nil, ?_⟩
                rw [er]
                intro H' m' x' g1 _ r1
                exact ⟨rv_bl r1, fun b o e => g1.keep b o List.not_mem_nil e⟩
              refine wpAny_call (codeAny_mono (Fok.run A X.stack s H ⟨[.ref p1, .ref p2], []⟩ ts ys _ _ sb.room e0 hb hv sp) fun r s' hq => ?_)
              cases r with
              | error e => exact passes_call (E := fun _ _ _ => False) gd.takes (fun _ _ _ _ z => z.elim) pins σ H s e s' I hq
              | ok fl =>
                cases fl with
                | ret w =>
                  obtain ⟨z, H', I', rz, ez, ex⟩ := I.after hq
                  subst ez
                  cases rz
                  exact ⟨false, rfl, rfl, H', I', ex⟩
                | next => exact False.elim hq
                | brk => exact False.elim hq
                | cont => exact False.elim hq
            · cases h
          · cases h
        · cases h
      · cases h
    · cases h
  · cases h
end
end MP
set_option maxRecDepth 100000
namespace MP
open PySem PySem.Spec PyProof.Rows L2
section
variable {Z : Sta} {W : WX} {σ : L2.St} {H H1 : Hp} {m m1 : Mp} {X : Cx} {S : Hs} {lv : Nat} {pins : List (Addr × Obj)} {s : Shared} {Q : VK} {T : Tab} {fdO : Nat → FuncData} {psO : Nat → List Str} {c : CmpT}
def D3 (K : PySem.W.Frag) (w : World) (D : Eqv) : Eqv := fun x y H => DList D x y H ∨ DTup K D x y H ∨ DDct K w D x y H
def U3 (K : PySem.W.Frag) (w : World) (D U : Eqv) : Eqv := fun x y H => UList D U x y H ∨ UTup K D U x y H ∨ UDct K w D U x y H
theorem nbeq_eq {a b : Nat} (h : Nat.beq a b = true) : a = b := Nat.eq_of_beq_eq_true h
theorem nbeq_ne {a b : Nat} (h : ¬ Nat.beq a b = true) : a ≠ b := fun e => by
  subst e
  exact h (Nat.beq_refl a)
theorem cmpR_t {f : Hs → PV → PV → Option Bool} {p q : PV} {x y : V} (hK : X.K = Z.K) (hw : X.w = Z.w) (sr : SRel Z H m S) (rp : RV Z H m p x) (rq : RV Z H m q y) (h : cmpR (f S) S p q = some true) : D3 X.K X.w (DB Z fun S => isT (f S)) x y H := by
  unfold cmpR at h
  split at h
  · rename_i xs ys e1 e2
    obtain ⟨a, vs, rfl, ha, ra⟩ := asL_ok sr rp e1
    obtain ⟨b, ws, rfl, hb, rb⟩ := asL_ok sr rq e2
    split at h
    · exact .inl ⟨a, b, vs, ws, rfl, rfl, ha, hb, prs_all2 (f := fun S => isT (f S)) sr ra rb (seqR_t h)⟩
    · cases h
  · unfold cmpDR at h
    split at h
    · rename_i k1 v1 k2 v2 e1 e2
      split at h
      · rename_i hk
        split at h
        · rename_i hl
          refine .inr (.inr ?_)
          rw [Bool.and_eq_true] at hk
          have := dct_DB (f := fun S => isT (f S)) sr rp rq (show seqD (isT (f S)) S p q = true by
            unfold seqD
            rw [e1, e2]
            simp only [hk.1, hk.2, dctR_t h, nbeq_eq hl, Bool.and_self, decide_true])
          rw [← hK, ← hw] at this
          exact this
        · cases h
      · cases h
    · unfold tupR at h
      split at h
      · obtain ⟨a, vs, rfl, ha, ra⟩ := rv_tup rp
        obtain ⟨b, ws, rfl, hb, rb⟩ := rv_tup rq
        rw [← hK] at ha hb
        exact .inr (.inl ⟨a, b, vs, ws, rfl, rfl, ha, hb, prs_all2 (f := fun S => isT (f S)) sr ra rb (seqR_t h)⟩)
      · cases h
theorem cmpR_f {f : Hs → PV → PV → Option Bool} {p q : PV} {x y : V} (hK : X.K = Z.K) (hw : X.w = Z.w) (sr : SRel Z H m S) (rp : RV Z H m p x) (rq : RV Z H m q y) (h : cmpR (f S) S p q = some false) : U3 X.K X.w (DB Z fun S => isT (f S)) (DB Z fun S => isF (f S)) x y H := by
  unfold cmpR at h
  split at h
  · rename_i xs ys e1 e2
    obtain ⟨a, vs, rfl, ha, ra⟩ := asL_ok sr rp e1
    obtain ⟨b, ws, rfl, hb, rb⟩ := asL_ok sr rq e2
    split at h
    · rename_i hl
      obtain ⟨d, h1, h2, h3⟩ := seqR_f sr ra rb h
      exact .inl ⟨a, b, vs, ws, rfl, rfl, ha, hb, .inr ⟨(ra.len.symm.trans (nbeq_eq hl)).trans rb.len, d, h1, h3⟩⟩
    · rename_i hl
      exact .inl ⟨a, b, vs, ws, rfl, rfl, ha, hb, .inl fun e => nbeq_ne hl ((ra.len.trans e).trans rb.len.symm)⟩
  · unfold cmpDR at h
    split at h
    · rename_i k1 v1 k2 v2 e1 e2
      split at h
      · rename_i hk
        rw [Bool.and_eq_true] at hk
        obtain ⟨a, es, rfl, d1⟩ := dctOf_ok sr rp e1
        obtain ⟨b, es2, rfl, d2⟩ := dctOf_ok sr rq e2
        obtain ⟨ep, q1⟩ := d1.rd.ke
        obtain ⟨ep2, q2⟩ := d2.rd.ke
        have l1 := d1.ks.len
        have l2 := d2.ks.len
        rw [List.length_map] at l1 l2
        rw [hK, hw]
        split at h
        · rename_i hl
          refine .inr (.inr ⟨a, b, ep, es, ep2, es2, rfl, rfl, q1, q2, d1.fk hk.1, d2.fk hk.2, .inr ⟨(l1.symm.trans (nbeq_eq hl)).trans l2, dctR_f sr hk.2 d2.ks d2.vs hk.1 d1.ks d1.vs h⟩⟩)
        · rename_i hl
          exact .inr (.inr ⟨a, b, ep, es, ep2, es2, rfl, rfl, q1, q2, d1.fk hk.1, d2.fk hk.2, .inl fun e => nbeq_ne hl ((l1.trans e).trans l2.symm)⟩)
      · cases h
    · unfold tupR at h
      split at h
      · obtain ⟨a, vs, rfl, ha, ra⟩ := rv_tup rp
        obtain ⟨b, ws, rfl, hb, rb⟩ := rv_tup rq
        rw [← hK] at ha hb
        obtain ⟨d, h1, h2, h3⟩ := seqR_f sr ra rb h
        exact .inr (.inl ⟨a, b, vs, ws, rfl, rfl, ha, hb, d, h1, h2, h3⟩)
      · cases h
theorem eqW_3 {k : Nat} {D : Eqv} (hD : Mon D) (h : EqW X lv k D) : EqW X lv (k + 1) (D3 X.K X.w D) := (eqW_list hD h).or ((eqW_tup hD h).or (eqW_dct hD h))
theorem rcF_eq {k : Nat} {D U : Eqv} (hD : Mon D) (hU : Mon U) (h : EqW X lv k D) (h2 : UnW X lv k U) : RcG X lv (k + 1) .Eq false (U3 X.K X.w D U) := fun A pins s σ H x y u v sb I rx ry d => d.elim (fun d => rcU_list_eq hD hU h h2 A pins s σ H x y u v sb I rx ry d) fun d => d.elim (fun d => rcU_tup_eq hD hU h h2 A pins s σ H x y u v sb I rx ry d) fun d => rcU_dct_eq hD hU h h2 A pins s σ H x y u v sb I rx ry d
theorem rcF_ne {k : Nat} {D U : Eqv} (hD : Mon D) (hU : Mon U) (h : EqW X lv k D) (h2 : UnW X lv k U) : RcG X lv (k + 1) .NotEq true (U3 X.K X.w D U) := fun A pins s σ H x y u v sb I rx ry d => d.elim (fun d => rcU_list_ne hD hU h h2 A pins s σ H x y u v sb I rx ry d) fun d => d.elim (fun d => rcU_tup_ne hD hU h h2 A pins s σ H x y u v sb I rx ry d) fun d => rcU_dct_ne hD hU h h2 A pins s σ H x y u v sb I rx ry d
theorem rcE_list_ne {k : Nat} {D : Eqv} (hD : Mon D) (h : EqW X lv k D) : RcG X lv (k + 1) .NotEq false (DList D) := by
  intro A pins s σ H x y u v sb I rx ry ⟨a, b, xs, ys, ex, ey, ha, hb, pr⟩
  subst ex ey
  cases rx
  cases ry
  refine ne_same (N := xs.length) (I := fun _ s' => LoopI X pins σ H s') sb.units0 (fun i s' hq => ?_) (fun s' hq => ⟨rfl, hq⟩) ⟨H, I, Ext.rfl'⟩
  obtain ⟨H1, I1, x1⟩ := id hq
  obtain ⟨_, us, k1, r1, o1⟩ := I1.hok a _ (x1 _ _ ha)
  obtain ⟨_, us2, k2, r2, o2⟩ := I1.hok b _ (x1 _ _ hb)
  exact ⟨us.toArray, us2.toArray, k1, k2, o1, o2, by rw [List.size_toArray, ← r1.length], by rw [List.size_toArray, ← r2.length, ← pr.1], fun h1 h2 => turnW hD h sb pr r1 r2 i h1 h2 s' hq⟩
theorem rcT_ne {k : Nat} {D : Eqv} (hD : Mon D) (h : EqW X lv k D) : RcG X lv (k + 1) .NotEq false (D3 X.K X.w D) := fun A pins s σ H x y u v sb I rx ry d => d.elim (fun d => rcE_list_ne hD h A pins s σ H x y u v sb I rx ry d) fun d => d.elim (fun d => rcE_tup_ne hD h A pins s σ H x y u v sb I rx ry d) fun d => rcE_dct_ne hD h A pins s σ H x y u v sb I rx ry d
theorem u3_ref {K : PySem.W.Frag} {w : World} {D U : Eqv} {x y : V} (h : U3 K w D U x y H) : ∃ a b, x = .ref a ∧ y = .ref b := by
  rcases h with ⟨a, b, _, _, h1, h2, _⟩ | ⟨a, b, _, _, h1, h2, _⟩ | ⟨a, b, _, _, _, _, h1, h2, _⟩ <;> exact ⟨a, b, h1, h2⟩
theorem deqW (TO : TabOk Z lv T fdO psO) (gd : Good Z lv X W) (C : CmpTOk Z c) : ∀ n, EqW X lv n (DB Z fun S => isT (deq T c S n)) ∧ UnW X lv n (DB Z fun S => isF (deq T c S n)) := by
  have step : ∀ n, (∀ k, n = k + 1 → EqW X lv k (DB Z fun S => isT (deq T c S k)) ∧ UnW X lv k (DB Z fun S => isF (deq T c S k))) → EqW X lv n (DB Z fun S => isT (deq T c S n)) ∧ UnW X lv n (DB Z fun S => isF (deq T c S n)) := by
    intro n ih
    refine ⟨?_, ?_⟩
    · intro A pins s σ H x y u v sb I rx ry ⟨m, S, p, q, sr, rp, rq, h⟩
      rcases deq_t (of_isT h) with h | h | ⟨k, en, hc⟩
      · exact EqW.of (k := n) ((eqG_data gd).mono (Nat.zero_le lv)) A pins s σ H x y u v sb I rx ry ⟨m, S, p, q, sr, rp, rq, h⟩
      · exact EqW.of (k := n) (eqG_own TO gd C) A pins s σ H x y u v sb I rx ry ⟨m, S, p, q, sr, rp, rq, h⟩
      · subst en
        exact eqW_3 mon_DB (ih k rfl).1 A pins s σ H x y u v sb I rx ry (cmpR_t (f := fun S => deq T c S k) gd.K gd.w sr rp rq hc)
    · intro A pins s σ H x y u v sb I rx ry ⟨m, S, p, q, sr, rp, rq, h⟩
      rcases deq_f (of_isF h) with h | h | ⟨k, en, hc, hap⟩
      · exact unW_data gd A pins s σ H x y u v sb I rx ry ⟨m, S, p, q, sr, rp, rq, h⟩
      · exact unW_own TO gd C A pins s σ H x y u v sb I rx ry ⟨m, S, p, q, sr, rp, rq, h⟩
      · subst en
        have d := cmpR_f (X := X) (f := fun S => deq T c S k) gd.K gd.w sr rp rq hc
        obtain ⟨a, b, ex, ey⟩ := u3_ref d
        subst ex ey
        cases rx
        cases ry
        have hab : a ≠ b := fun e => by
          subst e
          exact apt_no I gd.K sr hap rp rq
        exact GQ.eqBool_refG hab (wpAny_mono (rcF_eq mon_DB mon_DB (ih k rfl).1 (ih k rfl).2 A pins s σ H (.ref a) (.ref b) _ _ sb I rfl rfl d) (fun r s' ⟨er, q⟩ => ⟨false, er, rfl, q⟩) fun _ _ z => z)
  intro n
  induction n with
  | zero => exact step 0 fun k e => nomatch e
  | succ n ih => exact step (n + 1) fun k e => by cases e; exact ih
theorem op_RcG {k : Nat} {op : CmpOp} {t : Bool} {U : Eqv} (h : RcG X lv k op t U) (hr : SubW X lv k X.A) (ho : op = .Eq ∨ op = .NotEq) (I : L2.Inv X pins σ H s) {x y : V} {u v : Value} (rx : RelV x v) (ry : RelV y u) (d : U x y H) (q : ∀ H1, Ext H H1 → Q (.bl t) H1) :
    wpAny (model X.prog X.w) X.A (compareOp op v u) (EP X pins σ Q) X.xe s := by
  have e : compareOp op v u = richCompare op v u := by rcases ho with rfl | rfl <;> rfl
  rw [e]
  refine wpAny_mono (h X.A pins s σ H x y v u hr I rx ry d) (fun r s' ⟨hr', H', I', e⟩ => ?_) fun _ _ x => x
  subst hr'
  exact ⟨.bl t, H', I', rfl, q H' e⟩
def neDF (T : Tab) (c : CmpT) (p q : PV) (S : Hs) : RE := match neT T c p q S with
  | .bad => (match cmpR (deq T c S eqN) S p q with
    | some b => .ok (.bl (!b)) S
    | none => .bad)
  | r => r
theorem neDF_ok (TO : TabOk Z lv T fdO psO) (gd : Good Z lv X W) (C : CmpTOk Z c) : OpOk Z X W (compareOp .NotEq) (neDF T c) := by
  intro pins s σ H x y v u m S p q Q I rx ry sr rp rq hp
  unfold neDF at hp
  split at hp
  · split at hp
    · rename_i b e
      have ih := deqW TO gd C eqN
      have fin : ∀ H1, Ext H H1 → Q (.bl (!b)) H1 := fun H1 x1 => hp H1 m _ (gr_ext x1) (srel_ext sr x1) to_bl
      cases b with
      | true => exact op_RcG (rcT_ne mon_DB ih.1) (subW_less gd) (.inr rfl) I rx ry (cmpR_t (f := fun S => deq T c S eqN) gd.K gd.w sr rp rq e) fin
      | false => exact op_RcG (rcF_ne mon_DB mon_DB ih.1 ih.2) (subW_less gd) (.inr rfl) I rx ry (cmpR_f (f := fun S => deq T c S eqN) gd.K gd.w sr rp rq e) fin
    · exact hp.elim
  · exact neT_ok TO gd C pins s σ H x y v u m S p q Q I rx ry sr rp rq hp
end
end MP
set_option maxRecDepth 100000
set_option maxRecDepth 100000
set_option maxRecDepth 100000
set_option maxRecDepth 100000
set_option maxRecDepth 100000
set_option maxRecDepth 100000
set_option maxRecDepth 100000
set_option maxRecDepth 100000
namespace MP
open PySem L2 PyProof.Rows
def exoN (k : Nat) (ps : List PV) (S : Hs) : RE := match ps with
  | [] => .ok (.exo k .nil) S
  | _ => .bad
def MakesE (Z : Sta) (k : Nat) : Prop := PySem.W.keepIn Z.K (.ref (Z.G k)) = true ∧ ∀ {lv : Nat} {X : Cx} {W : WX} {pins : List (Addr × Obj)} {σ : L2.St} {H : Hp} {s : Shared} {R : Value → Shared → Prop} {y : V} {u : Value}, Good Z lv X W → L2.Inv X pins σ H s → RelV y u →
  (∀ x dx s', H x = none → H dx = none → dx ≠ x → L2.Inv X pins σ (L2.upd (L2.upd H dx (.xd [("value", y)])) x (exD (Z.G k) x (some dx))) s' → R (.ref x) s') → wpAny (model X.prog X.w) X.A (call (.ref (Z.G k)) [u]) R X.xe s
def MakesN (Z : Sta) (k : Nat) : Prop := PySem.W.keepIn Z.K (.ref (Z.G k)) = true ∧ ∀ {lv : Nat} {X : Cx} {W : WX} {pins : List (Addr × Obj)} {σ : L2.St} {H : Hp} {s : Shared} {R : Value → Shared → Prop}, Good Z lv X W → L2.Inv X pins σ H s →
  (∀ x s', H x = none → L2.Inv X pins σ (L2.upd H x (exD (Z.G k) x none)) s' → R (.ref x) s') → wpAny (model X.prog X.w) X.A (call (.ref (Z.G k)) []) R X.xe s
section
variable {Z : Sta} {W : WX} {σ : L2.St} {H H1 : Hp} {m m1 m2 : Mp} {X : Cx} {S : Hs} {x y : V} {a : Addr} {lv k i : Nat} {pins : List (Addr × Obj)} {s : Shared} {Q : VK} {N : List Str} {sc : Scope} {vs ls : List Nat} {gs : List Str}
theorem atm_ok {v : PV} {t : Atm} (e : atmO v = some t) (r : RV Z H m v x) : x = t.v ∧ t.sok = true := by
  unfold atmO at e
  split at e
  · cases e; unfold RV at r; exact ⟨r, rfl⟩
  · cases e; unfold RV at r; exact ⟨r, rfl⟩
  · cases e; obtain ⟨r1, r2⟩ := rv_str r; exact ⟨r1, r2⟩
  · cases e
theorem atm_pv {t : Atm} (h : t.sok = true) : RV Z H m t.pv t.v := by
  cases t with
  | nil => exact to_non
  | non => exact to_non
  | int i => exact to_int
  | str l => exact to_str h
theorem exD_ok {P : Program} {w : World} {h : Heap} {C a : Addr} {d : Option Addr} {oe : Obj} {vs : Array Value} (e : h.get? a = some oe) (h1 : oe.cls = .ref C) (h2 : oe.dict = d) (h3 : oe.data = .fields vs) : ObjOk P w H h a (exD C a d) :=
  ⟨⟨oe, vs, e, h1, h2, h3⟩, ⟨oe, e⟩, fun _ _ ⟨o, v, q, r⟩ k => ⟨o, v, k o q, r⟩⟩
theorem make_exo {C D fI : Addr} {B newId initId : String} {bmB : List Value} {nm qual : Str} {params : Arguments} {scope : Scope} {R : Value → Shared → Prop} {u : Value} {p0 p1 p2 p3 p4 p5 p6 p7 p8 p9 : Pos} (gd : Good Z lv X W) (FM : Fam B newId initId bmB) (T : OexK Z.K C D fI B newId initId bmB) (S : SupF Z.P Z.K fI D nm qual params (supBody p0 p1 p2 p3 p4 p5 p6 p7 p8 p9) scope)
    (hev : ∀ env : Env, ∃ pl, eval (.Call (.Attribute (.Call (.Name "super" p0) [] [] p1) "__init__" p2) [.Name "value" p3] [] p4) env = (do
      let ov ← attributeBase (.Call (.Name "super" p0) [] [] p1) "__init__" env (eval (.Call (.Name "super" p0) [] [] p1) env)
      standAt p2.atName
      let (f, first) ← holding [ov] (getMethod ov "__init__" pl)
      callWith p4 f first (backTo p4 (starEach [.Name "value" p3] env)) []))
    (hm : Z.mg ("super" : Str) = none) (I : L2.Inv X pins σ H s) (ry : RelV y u) (q : ∀ x dx s', H x = none → H dx = none → dx ≠ x → L2.Inv X pins σ (L2.upd (L2.upd H dx (.xd [("value", y)])) x (exD C x (some dx))) s' → R (.ref x) s') : wpAny (model X.prog X.w) X.A (call (.ref C) [u]) R X.xe s := by
  obtain ⟨nmC, qC, N, bs, bm, sn, sub, ab, col, dd, k0, k1, k2, k3, k5, hC, hbm⟩ := T.cls
  have kI : Z.K.In s.heap := by rw [← gd.K]; exact I.kIn
  have e0 := I.env0
  have bs0 : ∀ b o, X.base.get? b = some o → s.heap.get? b = some o := fun b o e => (e0.bs b o e).1
  have bsz := e0.bsz
  have md : Mod Z.K Z.mg X.base := by rw [← gd.K, ← gd.mg]; exact e0.mod
  have J := I
  obtain ⟨hp, g, dr, tk, os⟩ := s
  have kk : ∀ b o, hp.get? b = some o → ((hp.push (PySem.W.kdv_tup [u])).push (HandSPX.excO C hp.objs.size)).get? b = some o := fun b o e => Heap.get?_push_of_some _ (Heap.get?_push_of_some _ e)
  have hget : ((hp.push (PySem.W.kdv_tup [u])).push (HandSPX.excO C hp.objs.size)).get? (hp.objs.size + 1) = some (HandSPX.excO C hp.objs.size) := by heap_get
  refine wpAny_call (FM.own hbm (kI _ _ hC) (PySem.W.looks_findIn kI T.iC) (fun self => PySem.W.bind_fn kI self T.tI) (by rw [sizeLine_eq]; exact (show (1 : Nat) ≤ 16777216 by decide)) ?_)
  rw [gd.prog]
  refine sup_init FM.FC FM.KF FM.pass FM.obj T S hev md hm (fun b o e => kk b o (bs0 b o e)) ?_ ((gd.room.make C [u] []).depth) hget fun h' tk' dx t1 k dn dne hx hn => ⟨rfl, ?_⟩
  · cases e : X.base.get? (hp.objs.size + 1) with
    | none => rfl
    | some o =>
      have h1 : X.base.objs.size ≤ hp.objs.size := bsz
      have h2 : hp.objs.size + 1 < X.base.objs.size := Heap.lt_size e
      omega
  · obtain ⟨G, g1, g2⟩ := L2.restrict h' fun b => decide (b ≠ hp.objs.size + 1)
    have gk : ∀ b, b ≠ hp.objs.size + 1 → G.get? b = h'.get? b := fun b hb => g1 b (decide_eq_true hb)
    have ge : G.get? (hp.objs.size + 1) = none := g2 _ (by simp)
    have ltx : ∀ {b : Addr} {o : Obj}, hp.get? b = some o → b ≠ hp.objs.size + 1 := fun {b o} e z => by
      have h1 : hp.objs.size + 1 < hp.objs.size := by rw [← z]; exact Heap.lt_size e
      exact Nat.not_lt_of_le (Nat.le_succ _) h1
    have kG : ∀ b o, hp.get? b = some o → G.get? b = some o := fun b o e => (gk b (ltx e)).trans (k b o (ltx e) (kk b o e))
    have dle : hp.objs.size ≤ dx := by
      have h1 : ((hp.push (PySem.W.kdv_tup [u])).push (HandSPX.excO C hp.objs.size)).objs.size ≤ dx := dn
      rw [Heap.size_push, Heap.size_push] at h1
      omega
    have hnd : H dx = none := I.hok.fresh dle
    have hnx : H (hp.objs.size + 1) = none := I.hok.fresh (Nat.le_succ _)
    have ok : ObjOk X.prog X.w (L2.upd H dx (.xd [("value", y)])) G dx (.xd [("value", y)]) :=
      ⟨_, hn.at fun o e => (gk dx dne).trans e, relO_put (fs := []) ry fun f => True.intro⟩
    have IG := J.laid (t' := tk') kG dle ok
    have hnx2 : L2.upd H dx (.xd [("value", y)]) (hp.objs.size + 1) = none := by
      rw [upd_ne (Ne.symm dne)]
      exact hnx
    have IH := IG.laidN (t' := tk') (h' := h') (a := hp.objs.size + 1) (o := exD C (hp.objs.size + 1) (some dx)) (fun b o e => by
      by_cases hb : b = hp.objs.size + 1
      · rw [hb] at e
        have e : G.get? (hp.objs.size + 1) = some o := e
        rw [ge] at e; cases e
      · exact (gk b hb).symm.trans e) ge hnx2 (exD_ok hx rfl rfl rfl)
    exact q _ dx _ hnx hnd dne IH
theorem makesE_of {k : Nat} {D : Addr} {B newId initId : String} {bmB : List Value} {fileL : Str} {d : MDef} {p0 p1 p2 p3 p4 p5 p6 p7 p8 p9 : Pos} (FM : Fam B newId initId bmB) (hP : SupP Z.P fileL) (ho : oexB Z.K (Z.G k) D (d.adr Z.K) B newId initId bmB = true) (h : supB Z.K (d.adr Z.K) D fileL = true) (M : MOk Z.K d) (hm : Z.mg ("super" : Str) = none)
    (hc : d.clo = [("__class__" : Str)]) (hb : d.body = supBody p0 p1 p2 p3 p4 p5 p6 p7 p8 p9) (hs : supScope d.scope = true)
    (bind : ∀ (kV doc pm : Value) (an : Option Addr) (cdv ct : Value) (cc : Addr) (a b : Value), bindArgs (PySem.W.ksFn d.name d.qual d.params (supBody p0 p1 p2 p3 p4 p5 p6 p7 p8 p9) d.scope .none kV doc pm an cdv ct cc) ⟨[a, b], []⟩ = pure [(("self" : Str), a), (("value" : Str), b)])
    (hd : (d.params.posonlyargs ++ d.params.args).head?.map (·.arg) = some ("self" : Str))
    (hev : ∀ env : Env, ∃ pl, eval (.Call (.Attribute (.Call (.Name "super" p0) [] [] p1) "__init__" p2) [.Name "value" p3] [] p4) env = (do
      let ov ← attributeBase (.Call (.Name "super" p0) [] [] p1) "__init__" env (eval (.Call (.Name "super" p0) [] [] p1) env)
      standAt p2.atName
      let (f, first) ← holding [ov] (getMethod ov "__init__" pl)
      callWith p4 f first (backTo p4 (starEach [.Name "value" p3] env)) [])) : MakesE Z k := by
  have T := oexB_ok ho
  have S := supB_ok hP h M hc hb hs bind hd
  exact ⟨T.kC, fun {lv X W pins σ H s R y u} gd I ry q => make_exo gd FM T S hev hm I ry q⟩
theorem makesN_of {B newId initId : String} {bmB : List Value} (F : ExcBaseFacts B newId initId bmB) (q : PySem.W.excIn Z.K (Z.G k) bmB newId = true) (kC : PySem.W.keepIn Z.K (.ref (Z.G k)) = true) : MakesN Z k := by
  refine ⟨kC, fun {lv X W pins σ H s R} gd I h => ?_⟩
  obtain ⟨bm, N, nm, qn, bs, hdct, sn, sub, ab, col, dd, k0, k1, k2, k3, k5, mN, hC, hN, hni, T⟩ := exc_obj (by rw [← gd.K]; exact I.kIn) q
  refine wpAny_call_exc_subT F T hC hN hni (fun h' e hm => ?_) (by rw [sizeLine_eq]; exact (show (0 : Nat) ≤ 16777216 by decide))
  have hn := I.hok.gone hm.new
  obtain ⟨t, he, _, _⟩ := hm.there
  exact h e _ hn (I.laidN (t' := s.toks) hm.keeps hm.new hn (exD_ok he rfl rfl rfl))
theorem exoV_ok (gd : Good Z lv X W) (ME : MakesE Z k) : CallOk Z X W (.ref (Z.G k)) (exoV k) := by
  intro pins s σ H xs us m S ps Q I rx sr rp hp
  unfold exoV at hp
  split at hp
  · rename_i v
    split at hp
    · rename_i t et
      obtain ⟨y, rfl, r1⟩ := rvs1 rp
      obtain ⟨u, rfl, v1⟩ := vals1 rx
      obtain ⟨ey, hs⟩ := atm_ok et r1
      subst ey
      refine ME.2 gd I v1 fun x dx s' hx hd dne IH => ?_
      have g1 := Gr.new (Z := Z) (m := m) (o := .xd [("value", t.v)]) hd
      have s1 := sr.new (o := .xd [("value", t.v)]) hd
      have hx2 : L2.upd H dx (.xd [("value", t.v)]) x = none := by rw [upd_ne (Ne.symm dne)]; exact hx
      have g2 := Gr.new (Z := Z) (m := m) (o := exD (Z.G k) x (some dx)) hx2
      have s2 := s1.new (o := exD (Z.G k) x (some dx)) hx2
      refine ⟨.ref x, _, IH, rfl, hp _ m _ (g1.trans g2) s2 ?_⟩
      unfold RV
      exact ⟨x, some dx, rfl, sr.notin hx, upd_same, .inr ⟨hs, dx, rfl, sr.notin hd, by rw [upd_ne dne]; exact upd_same⟩⟩
    · exact hp.elim
  · exact hp.elim
theorem exoN_ok (gd : Good Z lv X W) (ME : MakesN Z k) : CallOk Z X W (.ref (Z.G k)) (exoN k) := by
  intro pins s σ H xs us m S ps Q I rx sr rp hp
  unfold exoN at hp
  split at hp
  · unfold RVs at rp
    subst rp
    cases rx
    refine ME.2 gd I fun x s' hx IH => ?_
    refine ⟨.ref x, _, IH, rfl, hp _ m _ (Gr.new hx) (sr.new hx) ?_⟩
    unfold RV
    exact ⟨x, none, rfl, sr.notin hx, upd_same, .inl ⟨rfl, rfl⟩⟩
  · exact hp.elim
theorem ok_exo {e : Expr} {es : List Expr} {nm : Str} {p pos : Pos} {ga : Loc → Hs → RA} {g : List PV → Hs → RE} (gd : Good Z lv X W) (hk : PySem.W.keepIn Z.K (.ref (Z.G k)) = true) (hc : CallOk Z X W (.ref (Z.G k)) g) (hg : Gl X nm) (hm : Z.mg nm = some (.ref (Z.G k))) (ha : PA X (e :: es) (tA Z W ga))
    (hst : noStar (e :: es) = true) (hdb : (nm == ("__debug__" : Str)) = false) : PE X (.Call (.Name nm p) (e :: es) [] pos) (tE Z W (bltE ga g)) := by
  refine ⟨fun pins s σ H Q I ⟨m, L, S, sr, hl, hp⟩ => ?_⟩
  have hst' : noStar1 e = true ∧ noStar es = true := by
    unfold noStar at hst
    rw [List.all_cons, Bool.and_eq_true] at hst
    exact hst
  refine wpAny_Call_Name_kw (ld_glob I hg (by rw [gd.mg]; exact hm) ?_ hdb)
  refine PySem.W.callWith_K (h₀ := X.base) I.ok.mod.kin (by rw [gd.K]; exact hk) (thn (ha.run pos pins s σ H (fun xs H1 => ∃ m1 S1 ps, SRel Z H1 m1 S1 ∧ RVs Z H1 m1 ps xs ∧ PostE Z W σ H1 m1 Q (g ps S1)) I ⟨m, L, S, sr, hl, PostA.bind hp fun vs S1 H1 m1 xs g1 s1 r1 hp1 => ⟨m1, S1, vs, s1, r1, hp1⟩⟩) fun us s1 ⟨xs, H1, I1, rx, m1, S1, ps, sr1, rp, hp1⟩ => ?_) (star_cons hst'.1) (star_any hst'.2)
  exact ⟨I1.kIn, hc pins s1 σ H1 xs us m1 S1 ps Q I1 rx sr1 rp hp1⟩
theorem ok_exo0 {nm : Str} {p pos : Pos} {g : List PV → Hs → RE} (gd : Good Z lv X W) (hk : PySem.W.keepIn Z.K (.ref (Z.G k)) = true) (hc : CallOk Z X W (.ref (Z.G k)) g) (hg : Gl X nm) (hm : Z.mg nm = some (.ref (Z.G k)))
    (hdb : (nm == ("__debug__" : Str)) = false) : PE X (.Call (.Name nm p) [] [] pos) (tE Z W (bltE nilA g)) := by
  refine ⟨fun pins s σ H Q I ⟨m, L, S, sr, hl, hp⟩ => ?_⟩
  refine wpAny_Call_Name_kw (ld_glob I hg (by rw [gd.mg]; exact hm) ?_ hdb)
  exact PySem.W.callWith_K0 I.kIn (by rw [gd.K]; exact hk) (hc pins s σ H [] [] m S [] Q I .nil sr RVs.nil hp)
def clsXV (Z : Sta) (c : Nat) : Value := clsXW Z.G c
def IsxOk (Z : Sta) (isx : Nat → Nat → Option Bool) : Prop := ∀ k c b, isx k c = some b → ExK Z.K (Z.G k) ∧ PySem.W.kitOne Z.K (.ref (Z.G k)) (clsXV Z c) = some b
theorem clsX_ok {c : PV} {j : Nat} {u : Value} (e : clsX c = some j) (r : RV Z H m c y) (ru : RelV y u) : u = clsXV Z j := by
  unfold clsX at e
  split at e
  · rename_i k
    split at e
    · cases e
      unfold RV at r
      subst r
      unfold clsXV clsXW
      rw [if_neg (by omega), if_neg (by omega), if_neg (by omega), if_neg (by omega)]
      exact ru
    · cases e
  · rename_i n
    unfold RV at r
    subst r
    have ru : u = Value.type n := ru
    subst ru
    unfold clsXV clsXW
    split at e
    · cases e; subst_vars; rfl
    · split at e
      · cases e; subst_vars; rfl
      · split at e
        · cases e; subst_vars; rfl
        · split at e
          · cases e; subst_vars; rfl
          · cases e
  · cases e
theorem exo_at {t : Atm} {u : Value} (I : Inv X pins σ H s) (T : ExK Z.K (Z.G k)) (r : RV Z H m (.exo k t) x) (ru : RelV x u) : ∃ (a : Addr) (d : Option Addr) (oe : Obj) (od : Option Obj), x = .ref a ∧ u = .ref a ∧ PySem.W.InstAt s.heap a oe (Z.G k) od ∧ exA H m t d ∧
    (∀ dx, d = some dx → ∃ mA : Str → Option Value, (∀ f : Str, RelO (List.lookup f [(("value" : Str), t.v)]) (mA f)) ∧ ∃ o, od = some o ∧ ∀ n : Str, PySem.W.lookIn n o = some (mA n)) := by
  unfold RV at r
  obtain ⟨a, d, rfl, hn, hq, hd⟩ := r
  obtain rfl : u = Value.ref a := ru
  obtain ⟨⟨oe, vs, e1, e2, e3, e4⟩, _, _⟩ := I.hok a _ hq
  rcases id hd with ⟨_, ed⟩ | ⟨_, dx, ed, _, hx⟩
  · refine ⟨a, d, oe, none, rfl, rfl, ⟨e1, e2, by unfold PySem.W.notCls; rw [e4] <;> rfl, by rw [e3, ed]; trivial⟩, hd, fun dx z => ?_⟩
    rw [ed] at z
    cases z
  · obtain ⟨mA, hns, hr⟩ := I.hok dx _ hx
    obtain ⟨od, ho, hl⟩ := lookIn_ns hns
    refine ⟨a, d, oe, some od, rfl, rfl, ⟨e1, e2, by unfold PySem.W.notCls; rw [e4] <;> rfl, by rw [e3, ed]; exact ho⟩, hd, fun dx z => ⟨mA, hr, od, rfl, fun n => hl n⟩⟩
theorem isiE_ok {isx : Nat → Nat → Option Bool} {isa : IsaT} (gd : Good Z lv X W) (O : IsxOk Z isx) (O2 : IsaOk Z isa) : CallOk Z X W (.builtin "isinstance") (isiE isx isa) := by
  intro pins s σ H xs us m S ps Q I rx sr rp hp
  unfold isiE at hp
  split at hp
  · rename_i k t c
    split at hp
    · rename_i j ej
      cases ei : isx k j with
      | none => rw [ei] at hp; exact hp.elim
      | some b =>
        rw [ei] at hp
        obtain ⟨x, y, rfl, r1, r2⟩ := rvs2 rp
        obtain ⟨u1, u2, rfl, v1, v2⟩ := vals2 rx
        obtain ⟨T, hb⟩ := O k j b ei
        obtain ⟨a, d, oe, od, rfl, rfl, J, _, _⟩ := exo_at I T r1 v1
        obtain ⟨cd, hcd', _⟩ := PySem.W.any_some T.hd
        have kx := PySem.W.kitx_exc (K := Z.K) (x := a) (C := Z.G k) (ox := oe) (od := od) (by rw [hcd']; rfl) T.ga T.gg T.ec T.ca T.cn T.tk T.mr
        have e2 := clsX_ok ej r2 v2
        subst e2
        exact PySem.W.kia_one kx (by rw [← gd.K]; exact I.kIn) J hb (fun z => nomatch z) fun tk => ⟨.bl b, H, I.tok tk, rfl, hp H m _ Gr.refl sr to_bl⟩
    · exact hp.elim
  · exact isiA_ok gd O2 pins s σ H xs us m S _ Q I rx sr rp hp
def exvE (ok : Nat → Bool) (f : Loc → Hs → RE) : Loc → Hs → RE := fun L S => (f L S).bind fun v S1 => match v with
  | .exo k t => if ok k then (match t with
    | .nil => .bad
    | t => .ok t.pv S1) else .bad
  | _ => .bad
theorem ok_exv {ok : Nat → Bool} {e : Expr} {pos : Pos} {f : Loc → Hs → RE} (gd : Good Z lv X W) (hok : ∀ k, ok k = true → ExK Z.K (Z.G k)) (he : PE X e (tE Z W f)) (hb : attributeBase e "value" X.env (eval e X.env) = eval e X.env := by rfl) : PE X (.Attribute e "value" pos) (tE Z W (exvE ok f)) := by
  refine ⟨fun pins s σ H Q I ⟨m, L, S, sr, hl, hp⟩ => ?_⟩
  refine attr_of hb (thn (he.run pins s σ H (fun x H1 => ∃ m1 S1 v, SRel Z H1 m1 S1 ∧ RV Z H1 m1 v x ∧ PostE Z W σ H1 m1 Q (match v with
    | .exo k t => if ok k then (match t with
      | .nil => RE.bad
      | t => .ok t.pv S1) else .bad
    | _ => .bad)) I ⟨m, L, S, sr, hl, PostE.bind hp fun v S1 H1 m1 x g1 s1 r1 hp1 => ⟨m1, S1, v, s1, r1, hp1⟩⟩) fun u s1 ⟨x, H1, I1, rx, m1, S1, v, sr1, rp, hp1⟩ => ?_)
  cases v with
  | exo k t =>
    simp only at hp1
    split at hp1
    · rename_i hk
      have T := hok k hk
      obtain ⟨a, d, oe, od, rfl, rfl, J, hd, hl⟩ := exo_at I1 T rp rx
      rcases hd with ⟨et, _⟩ | ⟨hs, dx, ed, _, _⟩
      · subst et
        exact hp1.elim
      · obtain ⟨mA, hr, o, eo, hlk⟩ := hl dx ed
        subst eo
        obtain ⟨u, hu, ru⟩ := RelO.some_of (v := t.v) (o := mA "value") (hr "value")
        refine HandSPX.exc_get (by rw [← gd.K]; exact I1.kIn) J T.ga T.gg T.ec (PySem.W.findObj_own T.hd T.nv rfl (by rw [hlk, hu])) (handed_of ru) ⟨t.v, H1, I1.tok _, ru, ?_⟩
        have hp2 : PostE Z W σ H1 m1 Q (.ok t.pv S1) := by
          cases t <;> first | exact hp1.elim | exact hp1
        exact hp2 H1 m1 _ Gr.refl sr1 (atm_pv hs)
    · exact hp1.elim
  | _ => exact hp1.elim
def okX (l : IsxL) (k : Nat) : Bool := l.any fun r => Nat.beq r.1 k
theorem isxT_ok {da ca : List (Fr → Addr)} {l : IsxL} (h : isxB da ca l Z.K = true) (hG : Z.G = GofK da ca Z.K) : IsxOk Z (isxT l) := by
  intro k c b e
  unfold isxT at e
  split at e
  · rename_i r er
    split at e
    · rename_i q eq
      cases e
      have h1 := List.all_eq_true.mp h r (List.mem_of_find?_eq_some er)
      rw [Bool.and_eq_true] at h1
      have h2 := List.all_eq_true.mp h1.2 q (List.mem_of_find?_eq_some eq)
      have e1 := Nat.eq_of_beq_eq_true (List.find?_some (p := fun r : Nat × List (Nat × Bool) => Nat.beq r.1 k) er)
      have e2 := Nat.eq_of_beq_eq_true (List.find?_some (p := fun e : Nat × Bool => Nat.beq e.1 c) eq)
      rw [← hG, e1] at h1
      rw [← hG, e1, e2] at h2
      exact ⟨exB_ok h1.1, kitB_ok h2⟩
    · cases e
  · cases e
theorem okX_ok {da ca : List (Fr → Addr)} {l : IsxL} (h : isxB da ca l Z.K = true) (hG : Z.G = GofK da ca Z.K) : ∀ k, okX l k = true → ExK Z.K (Z.G k) := by
  intro k e
  obtain ⟨r, hr, e1⟩ := List.any_eq_true.mp e
  have h1 := List.all_eq_true.mp h r hr
  rw [Bool.and_eq_true] at h1
  have e1 := Nat.eq_of_beq_eq_true e1
  rw [← hG, e1] at h1
  exact exB_ok h1.1
end
end MP
set_option maxRecDepth 100000
set_option maxHeartbeats 0
namespace MP.LW
open PySem L2
def gt : GtT := ⟨5, 6, [], []⟩
def mems : List (List (Nat × FK)) := []
def arrs : List (List (Nat × List Str × Arr)) := [([(2, [], (fun vs _ => vs))] : List (Nat × List Str × Arr)),
  ([(2, [], (fun vs _ => vs))] : List (Nat × List Str × Arr)),
  ([(1, [], (fun vs _ => vs))] : List (Nat × List Str × Arr)),
  ([(1, [], (fun vs _ => vs))] : List (Nat × List Str × Arr)),
  ([(1, [], (fun vs _ => vs))] : List (Nat × List Str × Arr)),
  ([(1, [], (fun vs _ => vs))] : List (Nat × List Str × Arr)),
  ([] : List (Nat × List Str × Arr))]
def exmL : List (Nat × Nat × Bool) := []
def isxL : List (Nat × Nat × Bool) := []
def okx (k : Nat) : Bool := [534, 505, 510, 529, 530, 532, 533, 517, 501, 523, 522, 525, 524, 526, 518, 502, 503, 508, 507, 513, 528, 527, 521, 514, 512, 515, 511, 509, 516, 531, 506, 536, 520, 539, 540, 535, 537, 538, 519, 500, 541, 542, 504].contains k
def e0 (T : Tab) : Loc → Hs → RS :=
    (seqS (asgS (iteE (cmpB (binE (varE 1) (bltE (consA (varE 0) nilA) (lenX T ct)) (cmpD2 T ct .Lt))) (binE (varE 0) (varE 1) ixV2) (conE (.int 0))) (nameT 2))
    (seqS (asgS (binE (bltE (consA (binE (binE (binE (bltE (consA (varE 2) nilA) intV1) (conE (.int 2147483629)) (binV .Mod true)) (binE (binE (conE (.int 7919)) (varE 1) (binV .Mult false)) (varE 1) (binV .Mult false)) (binV .Add false)) (conE (.int 13)) (binV .Add false)) nilA) intV1) (conE (.int 48271)) (binV .Mult false)) (nameT 3))
    (seqS (retS (lstE false (consA (iteE (cmpB (binE (varE 2) (binE (conE (.int 10)) (conE (.int 18)) (binV .Pow true)) (cmpD2 T ct .GtE))) (varE 2) (conE (.int 0))) (consA (binE (binE (bltE (consA (varE 3) nilA) intV1) (conE (.int 2147483647)) (binV .Mod true)) (conE (.int 1)) (binV .Add false)) nilA))))
    nilS)))
def e5 (T : Tab) : Loc → Hs → RS :=
    (seqS (asgS (lstE true (consA (bltE (consA (varE 0) (consA (conE (.st 500)) nilA)) (isiE (isxT isxR) isa)) (consA (bltE (consA (varE 0) (consA (conE (.ty "ValueError")) nilA)) (isiE (isxT isxR) isa)) (consA (bltE (consA (varE 0) (consA (conE (.ty "KeyError")) nilA)) (isiE (isxT isxR) isa)) nilA)))) (nameT 1))
    (seqS (retS (binE (varE 1) (lstE true (consA (bltE (consA (varE 0) (consA (conE (.ty "OverflowError")) nilA)) (isiE (isxT isxR) isa)) (consA (bltE (consA (varE 0) (consA (conE (.ty "RuntimeError")) nilA)) (isiE (isxT isxR) isa)) (consA (bltE (consA (varE 0) (consA (conE (.st 534)) nilA)) (isiE (isxT isxR) isa)) nilA)))) (binV .Add true)))
    nilS))
def e6 (T : Tab) : Loc → Hs → RS :=
    (seqS (forS (rngI (consA (bltE (consA (conE (.int 1)) (consA (bltE (consA (bltE (consA (varE 0) nilA) (lenX T ct)) (consA (conE (.int 3)) nilA)) min2V) nilA)) max2V) nilA)) (nameT 1)
    (seqS (asgS (callE 2 0 (consA (varE 0) (consA (varE 1) nilA)) nilA fun vs qs => useC false (T.run 0) ((fun vs _ => vs) vs qs)) (nameT 2))
    (seqS (forS (valI (lstE true (consA (callE 2 0 (consA (varE 2) (consA (binE (conE (.int 10)) (conE (.int 9)) (binV .Pow true)) nilA)) nilA fun vs qs => useC false (T.run 1) ((fun vs _ => vs) vs qs)) (consA (binE (conE (.str [97, 98, 99, 100])) (callE 2 0 (consA (varE 2) (consA (conE (.int 4)) nilA)) nilA fun vs qs => useC false (T.run 1) ((fun vs _ => vs) vs qs)) ixV2) (consA (conE .non) nilA))))) (nameT 3)
    (seqS (asgS (callE 1 0 (consA (varE 3) nilA) nilA fun vs qs => useC true (T.run 4) ((fun vs _ => vs) vs qs)) (nameT 4))
    (seqS (forS (rngI (consA (conE (.int 41)) nilA)) (nameT 5)
    (seqS (asgS (callE 1 0 (consA (binE (varE 4) (varE 5) ixV2) nilA) nilA fun vs qs => useC true (T.run 2) ((fun vs _ => vs) vs qs)) (nameT 6))
    (seqS (ifS (orB (cmpB (binE (lcE true [7] (rngI (consA (conE (.int 41)) nilA)) (nameT 7) (truB (binE (varE 6) (varE 7) ixV2)) (varE 7)) (lstE true (consA (varE 5) nilA)) (neDF T ct))) (cmpB (binE (exvE (okX isxR) (binE (varE 4) (varE 5) ixV2)) (varE 3) (neDF T ct))))
    (seqS (retS (conE (.bl false)))
    nilS)
    nilS)
    (seqS (ifS (cmpB (binE (callE 1 0 (consA (binE (varE 4) (varE 5) ixV2) nilA) nilA fun vs qs => useC true (T.run 5) ((fun vs _ => vs) vs qs)) (lstE true (consA (binE (varE 5) (conE (.int 33)) (cmpD2 T ct .Lt)) (consA (binE (varE 5) (conE (.int 33)) (cmpD2 T ct .Lt)) (consA (chainE (conE (.int 33)) (varE 5) (conE (.int 39)) (cmpD2 T ct .LtE) (cmpD2 T ct .Lt)) (consA (binE (varE 5) (conE (.int 39)) (cmpD2 T ct .GtE)) (consA (conE (.bl false)) (consA (chainE (conE (.int 33)) (varE 5) (conE (.int 39)) (cmpD2 T ct .LtE) (cmpD2 T ct .Lt)) nilA))))))) (neDF T ct)))
    (seqS (retS (conE (.bl false)))
    nilS)
    nilS)
    nilS))))
    (seqS (ifS (orB (cmpB (binE (exvE (okX isxR) (bltE (consA (varE 3) nilA) (exoV 534))) (varE 3) (neDF T ct))) (cmpB (binE (callE 1 0 (consA (bltE (consA (varE 3) nilA) (exoV 534)) nilA) nilA fun vs qs => useC true (T.run 5) ((fun vs _ => vs) vs qs)) (lstE true (consA (conE (.bl false)) (consA (conE (.bl false)) (consA (conE (.bl true)) (consA (conE (.bl false)) (consA (conE (.bl false)) (consA (conE (.bl true)) nilA))))))) (neDF T ct))))
    (seqS (retS (conE (.bl false)))
    nilS)
    nilS)
    (seqS (ifS (cmpB (binE (callE 1 0 (consA (bltE (consA (varE 3) nilA) (exoV 500)) nilA) nilA fun vs qs => useC true (T.run 5) ((fun vs _ => vs) vs qs)) (lstE true (consA (conE (.bl true)) (consA (conE (.bl true)) (consA (conE (.bl false)) (consA (conE (.bl false)) (consA (conE (.bl false)) (consA (conE (.bl false)) nilA))))))) (neDF T ct)))
    (seqS (retS (conE (.bl false)))
    nilS)
    nilS)
    (seqS (ifS (orB (cmpB (binE (exvE (okX isxR) (bltE (consA (varE 3) nilA) (exoV 500))) (varE 3) (neDF T ct))) (cmpB (binE (callE 1 0 (consA (bltE nilA (exoN 543)) nilA) nilA fun vs qs => useC true (T.run 5) ((fun vs _ => vs) vs qs)) (binE (binE (lstE true (consA (conE (.bl false)) nilA)) (conE (.int 4)) (binV .Mult true)) (lstE true (consA (conE (.bl true)) (consA (conE (.bl false)) nilA))) (binV .Add true)) (neDF T ct))))
    (seqS (retS (conE (.bl false)))
    nilS)
    nilS)
    nilS))))))
    nilS)))
    (seqS (retS (conE (.bl true)))
    nilS))
def tbl : List DefI := [⟨["_law_script", "_law_k"], 4, e0⟩,
  ⟨["_law_pool_here", "_law_many"], 3, e1⟩,
  ⟨["_law_e"], 2, e2⟩,
  ⟨["_law_value"], 2, e3⟩,
  ⟨["_law_value"], 2, e4⟩,
  ⟨["_law_e"], 2, e5⟩,
  ⟨["_law_script"], 8, e6⟩]
section
variable {Z : Sta}
theorem mkx_Absent (c : C Z) : MakesX Z 534 := makesX_of (D := aG "Absent" Z.K) (d := mx_Absent) fam_KE c.sp (by rw [c.G]; exact c.at_ 67 rfl) (c.at_ 63 rfl) (c.ds mx_Absent (List.mem_of_getElem? (i := 7) rfl)) (c.fre 62 rfl) rfl rfl (by decide +kernel) (fun _ _ _ _ _ _ _ _ _ => rfl) rfl (fun _ => ⟨_, rfl⟩)
theorem mke_Absent (c : C Z) : MakesE Z 534 := makesE_of (D := aG "Absent" Z.K) (d := mx_Absent) fam_KE c.sp (by rw [c.G]; exact c.at_ 67 rfl) (c.at_ 63 rfl) (c.ds mx_Absent (List.mem_of_getElem? (i := 7) rfl)) (c.fre 62 rfl) rfl rfl (by decide +kernel) (fun _ _ _ _ _ _ _ _ _ => rfl) rfl (fun _ => ⟨_, rfl⟩)
theorem mkx_BadArity (c : C Z) : MakesX Z 505 := makesX_of (D := aG "SignsError" Z.K) (d := mx_SignsError) fam_VE c.sp (by rw [c.G]; exact c.at_ 69 rfl) (c.at_ 64 rfl) (c.ds mx_SignsError (List.mem_of_getElem? (i := 8) rfl)) (c.fre 62 rfl) rfl rfl (by decide +kernel) (fun _ _ _ _ _ _ _ _ _ => rfl) rfl (fun _ => ⟨_, rfl⟩)
theorem mke_BadArity (c : C Z) : MakesE Z 505 := makesE_of (D := aG "SignsError" Z.K) (d := mx_SignsError) fam_VE c.sp (by rw [c.G]; exact c.at_ 69 rfl) (c.at_ 64 rfl) (c.ds mx_SignsError (List.mem_of_getElem? (i := 8) rfl)) (c.fre 62 rfl) rfl rfl (by decide +kernel) (fun _ _ _ _ _ _ _ _ _ => rfl) rfl (fun _ => ⟨_, rfl⟩)
theorem mkx_BadBlocks (c : C Z) : MakesX Z 510 := makesX_of (D := aG "SignsError" Z.K) (d := mx_SignsError) fam_VE c.sp (by rw [c.G]; exact c.at_ 71 rfl) (c.at_ 64 rfl) (c.ds mx_SignsError (List.mem_of_getElem? (i := 8) rfl)) (c.fre 62 rfl) rfl rfl (by decide +kernel) (fun _ _ _ _ _ _ _ _ _ => rfl) rfl (fun _ => ⟨_, rfl⟩)
theorem mke_BadBlocks (c : C Z) : MakesE Z 510 := makesE_of (D := aG "SignsError" Z.K) (d := mx_SignsError) fam_VE c.sp (by rw [c.G]; exact c.at_ 71 rfl) (c.at_ 64 rfl) (c.ds mx_SignsError (List.mem_of_getElem? (i := 8) rfl)) (c.fre 62 rfl) rfl rfl (by decide +kernel) (fun _ _ _ _ _ _ _ _ _ => rfl) rfl (fun _ => ⟨_, rfl⟩)
theorem mkx_BadBook (c : C Z) : MakesX Z 529 := makesX_of (D := aG "SignsError" Z.K) (d := mx_SignsError) fam_VE c.sp (by rw [c.G]; exact c.at_ 73 rfl) (c.at_ 64 rfl) (c.ds mx_SignsError (List.mem_of_getElem? (i := 8) rfl)) (c.fre 62 rfl) rfl rfl (by decide +kernel) (fun _ _ _ _ _ _ _ _ _ => rfl) rfl (fun _ => ⟨_, rfl⟩)
theorem mke_BadBook (c : C Z) : MakesE Z 529 := makesE_of (D := aG "SignsError" Z.K) (d := mx_SignsError) fam_VE c.sp (by rw [c.G]; exact c.at_ 73 rfl) (c.at_ 64 rfl) (c.ds mx_SignsError (List.mem_of_getElem? (i := 8) rfl)) (c.fre 62 rfl) rfl rfl (by decide +kernel) (fun _ _ _ _ _ _ _ _ _ => rfl) rfl (fun _ => ⟨_, rfl⟩)
theorem mkx_BadBooks (c : C Z) : MakesX Z 530 := makesX_of (D := aG "SignsError" Z.K) (d := mx_SignsError) fam_VE c.sp (by rw [c.G]; exact c.at_ 75 rfl) (c.at_ 64 rfl) (c.ds mx_SignsError (List.mem_of_getElem? (i := 8) rfl)) (c.fre 62 rfl) rfl rfl (by decide +kernel) (fun _ _ _ _ _ _ _ _ _ => rfl) rfl (fun _ => ⟨_, rfl⟩)
theorem mke_BadBooks (c : C Z) : MakesE Z 530 := makesE_of (D := aG "SignsError" Z.K) (d := mx_SignsError) fam_VE c.sp (by rw [c.G]; exact c.at_ 75 rfl) (c.at_ 64 rfl) (c.ds mx_SignsError (List.mem_of_getElem? (i := 8) rfl)) (c.fre 62 rfl) rfl rfl (by decide +kernel) (fun _ _ _ _ _ _ _ _ _ => rfl) rfl (fun _ => ⟨_, rfl⟩)
theorem mkx_BadChange (c : C Z) : MakesX Z 532 := makesX_of (D := aG "SignsError" Z.K) (d := mx_SignsError) fam_VE c.sp (by rw [c.G]; exact c.at_ 77 rfl) (c.at_ 64 rfl) (c.ds mx_SignsError (List.mem_of_getElem? (i := 8) rfl)) (c.fre 62 rfl) rfl rfl (by decide +kernel) (fun _ _ _ _ _ _ _ _ _ => rfl) rfl (fun _ => ⟨_, rfl⟩)
theorem mke_BadChange (c : C Z) : MakesE Z 532 := makesE_of (D := aG "SignsError" Z.K) (d := mx_SignsError) fam_VE c.sp (by rw [c.G]; exact c.at_ 77 rfl) (c.at_ 64 rfl) (c.ds mx_SignsError (List.mem_of_getElem? (i := 8) rfl)) (c.fre 62 rfl) rfl rfl (by decide +kernel) (fun _ _ _ _ _ _ _ _ _ => rfl) rfl (fun _ => ⟨_, rfl⟩)
theorem mkx_BadChosen (c : C Z) : MakesX Z 533 := makesX_of (D := aG "SignsError" Z.K) (d := mx_SignsError) fam_VE c.sp (by rw [c.G]; exact c.at_ 79 rfl) (c.at_ 64 rfl) (c.ds mx_SignsError (List.mem_of_getElem? (i := 8) rfl)) (c.fre 62 rfl) rfl rfl (by decide +kernel) (fun _ _ _ _ _ _ _ _ _ => rfl) rfl (fun _ => ⟨_, rfl⟩)
theorem mke_BadChosen (c : C Z) : MakesE Z 533 := makesE_of (D := aG "SignsError" Z.K) (d := mx_SignsError) fam_VE c.sp (by rw [c.G]; exact c.at_ 79 rfl) (c.at_ 64 rfl) (c.ds mx_SignsError (List.mem_of_getElem? (i := 8) rfl)) (c.fre 62 rfl) rfl rfl (by decide +kernel) (fun _ _ _ _ _ _ _ _ _ => rfl) rfl (fun _ => ⟨_, rfl⟩)
theorem mkx_BadDraft (c : C Z) : MakesX Z 517 := makesX_of (D := aG "SignsError" Z.K) (d := mx_SignsError) fam_VE c.sp (by rw [c.G]; exact c.at_ 81 rfl) (c.at_ 64 rfl) (c.ds mx_SignsError (List.mem_of_getElem? (i := 8) rfl)) (c.fre 62 rfl) rfl rfl (by decide +kernel) (fun _ _ _ _ _ _ _ _ _ => rfl) rfl (fun _ => ⟨_, rfl⟩)
theorem mke_BadDraft (c : C Z) : MakesE Z 517 := makesE_of (D := aG "SignsError" Z.K) (d := mx_SignsError) fam_VE c.sp (by rw [c.G]; exact c.at_ 81 rfl) (c.at_ 64 rfl) (c.ds mx_SignsError (List.mem_of_getElem? (i := 8) rfl)) (c.fre 62 rfl) rfl rfl (by decide +kernel) (fun _ _ _ _ _ _ _ _ _ => rfl) rfl (fun _ => ⟨_, rfl⟩)
theorem mkx_BadDress (c : C Z) : MakesX Z 501 := makesX_of (D := aG "SignsError" Z.K) (d := mx_SignsError) fam_VE c.sp (by rw [c.G]; exact c.at_ 83 rfl) (c.at_ 64 rfl) (c.ds mx_SignsError (List.mem_of_getElem? (i := 8) rfl)) (c.fre 62 rfl) rfl rfl (by decide +kernel) (fun _ _ _ _ _ _ _ _ _ => rfl) rfl (fun _ => ⟨_, rfl⟩)
theorem mke_BadDress (c : C Z) : MakesE Z 501 := makesE_of (D := aG "SignsError" Z.K) (d := mx_SignsError) fam_VE c.sp (by rw [c.G]; exact c.at_ 83 rfl) (c.at_ 64 rfl) (c.ds mx_SignsError (List.mem_of_getElem? (i := 8) rfl)) (c.fre 62 rfl) rfl rfl (by decide +kernel) (fun _ _ _ _ _ _ _ _ _ => rfl) rfl (fun _ => ⟨_, rfl⟩)
theorem mkx_BadFlow (c : C Z) : MakesX Z 523 := makesX_of (D := aG "SignsError" Z.K) (d := mx_SignsError) fam_VE c.sp (by rw [c.G]; exact c.at_ 85 rfl) (c.at_ 64 rfl) (c.ds mx_SignsError (List.mem_of_getElem? (i := 8) rfl)) (c.fre 62 rfl) rfl rfl (by decide +kernel) (fun _ _ _ _ _ _ _ _ _ => rfl) rfl (fun _ => ⟨_, rfl⟩)
theorem mke_BadFlow (c : C Z) : MakesE Z 523 := makesE_of (D := aG "SignsError" Z.K) (d := mx_SignsError) fam_VE c.sp (by rw [c.G]; exact c.at_ 85 rfl) (c.at_ 64 rfl) (c.ds mx_SignsError (List.mem_of_getElem? (i := 8) rfl)) (c.fre 62 rfl) rfl rfl (by decide +kernel) (fun _ _ _ _ _ _ _ _ _ => rfl) rfl (fun _ => ⟨_, rfl⟩)
theorem mkx_BadFrequencies (c : C Z) : MakesX Z 522 := makesX_of (D := aG "SignsError" Z.K) (d := mx_SignsError) fam_VE c.sp (by rw [c.G]; exact c.at_ 87 rfl) (c.at_ 64 rfl) (c.ds mx_SignsError (List.mem_of_getElem? (i := 8) rfl)) (c.fre 62 rfl) rfl rfl (by decide +kernel) (fun _ _ _ _ _ _ _ _ _ => rfl) rfl (fun _ => ⟨_, rfl⟩)
theorem mke_BadFrequencies (c : C Z) : MakesE Z 522 := makesE_of (D := aG "SignsError" Z.K) (d := mx_SignsError) fam_VE c.sp (by rw [c.G]; exact c.at_ 87 rfl) (c.at_ 64 rfl) (c.ds mx_SignsError (List.mem_of_getElem? (i := 8) rfl)) (c.fre 62 rfl) rfl rfl (by decide +kernel) (fun _ _ _ _ _ _ _ _ _ => rfl) rfl (fun _ => ⟨_, rfl⟩)
theorem mkx_BadFunction (c : C Z) : MakesX Z 525 := makesX_of (D := aG "SignsError" Z.K) (d := mx_SignsError) fam_VE c.sp (by rw [c.G]; exact c.at_ 89 rfl) (c.at_ 64 rfl) (c.ds mx_SignsError (List.mem_of_getElem? (i := 8) rfl)) (c.fre 62 rfl) rfl rfl (by decide +kernel) (fun _ _ _ _ _ _ _ _ _ => rfl) rfl (fun _ => ⟨_, rfl⟩)
theorem mke_BadFunction (c : C Z) : MakesE Z 525 := makesE_of (D := aG "SignsError" Z.K) (d := mx_SignsError) fam_VE c.sp (by rw [c.G]; exact c.at_ 89 rfl) (c.at_ 64 rfl) (c.ds mx_SignsError (List.mem_of_getElem? (i := 8) rfl)) (c.fre 62 rfl) rfl rfl (by decide +kernel) (fun _ _ _ _ _ _ _ _ _ => rfl) rfl (fun _ => ⟨_, rfl⟩)
theorem mkx_BadFunctions (c : C Z) : MakesX Z 524 := makesX_of (D := aG "SignsError" Z.K) (d := mx_SignsError) fam_VE c.sp (by rw [c.G]; exact c.at_ 91 rfl) (c.at_ 64 rfl) (c.ds mx_SignsError (List.mem_of_getElem? (i := 8) rfl)) (c.fre 62 rfl) rfl rfl (by decide +kernel) (fun _ _ _ _ _ _ _ _ _ => rfl) rfl (fun _ => ⟨_, rfl⟩)
theorem mke_BadFunctions (c : C Z) : MakesE Z 524 := makesE_of (D := aG "SignsError" Z.K) (d := mx_SignsError) fam_VE c.sp (by rw [c.G]; exact c.at_ 91 rfl) (c.at_ 64 rfl) (c.ds mx_SignsError (List.mem_of_getElem? (i := 8) rfl)) (c.fre 62 rfl) rfl rfl (by decide +kernel) (fun _ _ _ _ _ _ _ _ _ => rfl) rfl (fun _ => ⟨_, rfl⟩)
theorem mkx_BadGroup (c : C Z) : MakesX Z 526 := makesX_of (D := aG "SignsError" Z.K) (d := mx_SignsError) fam_VE c.sp (by rw [c.G]; exact c.at_ 93 rfl) (c.at_ 64 rfl) (c.ds mx_SignsError (List.mem_of_getElem? (i := 8) rfl)) (c.fre 62 rfl) rfl rfl (by decide +kernel) (fun _ _ _ _ _ _ _ _ _ => rfl) rfl (fun _ => ⟨_, rfl⟩)
theorem mke_BadGroup (c : C Z) : MakesE Z 526 := makesE_of (D := aG "SignsError" Z.K) (d := mx_SignsError) fam_VE c.sp (by rw [c.G]; exact c.at_ 93 rfl) (c.at_ 64 rfl) (c.ds mx_SignsError (List.mem_of_getElem? (i := 8) rfl)) (c.fre 62 rfl) rfl rfl (by decide +kernel) (fun _ _ _ _ _ _ _ _ _ => rfl) rfl (fun _ => ⟨_, rfl⟩)
theorem mkx_BadKind (c : C Z) : MakesX Z 518 := makesX_of (D := aG "SignsError" Z.K) (d := mx_SignsError) fam_VE c.sp (by rw [c.G]; exact c.at_ 95 rfl) (c.at_ 64 rfl) (c.ds mx_SignsError (List.mem_of_getElem? (i := 8) rfl)) (c.fre 62 rfl) rfl rfl (by decide +kernel) (fun _ _ _ _ _ _ _ _ _ => rfl) rfl (fun _ => ⟨_, rfl⟩)
theorem mke_BadKind (c : C Z) : MakesE Z 518 := makesE_of (D := aG "SignsError" Z.K) (d := mx_SignsError) fam_VE c.sp (by rw [c.G]; exact c.at_ 95 rfl) (c.at_ 64 rfl) (c.ds mx_SignsError (List.mem_of_getElem? (i := 8) rfl)) (c.fre 62 rfl) rfl rfl (by decide +kernel) (fun _ _ _ _ _ _ _ _ _ => rfl) rfl (fun _ => ⟨_, rfl⟩)
theorem mkx_BadMark (c : C Z) : MakesX Z 502 := makesX_of (D := aG "SignsError" Z.K) (d := mx_SignsError) fam_VE c.sp (by rw [c.G]; exact c.at_ 97 rfl) (c.at_ 64 rfl) (c.ds mx_SignsError (List.mem_of_getElem? (i := 8) rfl)) (c.fre 62 rfl) rfl rfl (by decide +kernel) (fun _ _ _ _ _ _ _ _ _ => rfl) rfl (fun _ => ⟨_, rfl⟩)
theorem mke_BadMark (c : C Z) : MakesE Z 502 := makesE_of (D := aG "SignsError" Z.K) (d := mx_SignsError) fam_VE c.sp (by rw [c.G]; exact c.at_ 97 rfl) (c.at_ 64 rfl) (c.ds mx_SignsError (List.mem_of_getElem? (i := 8) rfl)) (c.fre 62 rfl) rfl rfl (by decide +kernel) (fun _ _ _ _ _ _ _ _ _ => rfl) rfl (fun _ => ⟨_, rfl⟩)
theorem mkx_BadNumber (c : C Z) : MakesX Z 503 := makesX_of (D := aG "SignsError" Z.K) (d := mx_SignsError) fam_VE c.sp (by rw [c.G]; exact c.at_ 99 rfl) (c.at_ 64 rfl) (c.ds mx_SignsError (List.mem_of_getElem? (i := 8) rfl)) (c.fre 62 rfl) rfl rfl (by decide +kernel) (fun _ _ _ _ _ _ _ _ _ => rfl) rfl (fun _ => ⟨_, rfl⟩)
theorem mke_BadNumber (c : C Z) : MakesE Z 503 := makesE_of (D := aG "SignsError" Z.K) (d := mx_SignsError) fam_VE c.sp (by rw [c.G]; exact c.at_ 99 rfl) (c.at_ 64 rfl) (c.ds mx_SignsError (List.mem_of_getElem? (i := 8) rfl)) (c.fre 62 rfl) rfl rfl (by decide +kernel) (fun _ _ _ _ _ _ _ _ _ => rfl) rfl (fun _ => ⟨_, rfl⟩)
theorem mkx_BadOperands (c : C Z) : MakesX Z 508 := makesX_of (D := aG "SignsError" Z.K) (d := mx_SignsError) fam_VE c.sp (by rw [c.G]; exact c.at_ 101 rfl) (c.at_ 64 rfl) (c.ds mx_SignsError (List.mem_of_getElem? (i := 8) rfl)) (c.fre 62 rfl) rfl rfl (by decide +kernel) (fun _ _ _ _ _ _ _ _ _ => rfl) rfl (fun _ => ⟨_, rfl⟩)
theorem mke_BadOperands (c : C Z) : MakesE Z 508 := makesE_of (D := aG "SignsError" Z.K) (d := mx_SignsError) fam_VE c.sp (by rw [c.G]; exact c.at_ 101 rfl) (c.at_ 64 rfl) (c.ds mx_SignsError (List.mem_of_getElem? (i := 8) rfl)) (c.fre 62 rfl) rfl rfl (by decide +kernel) (fun _ _ _ _ _ _ _ _ _ => rfl) rfl (fun _ => ⟨_, rfl⟩)
theorem mkx_BadOperation (c : C Z) : MakesX Z 507 := makesX_of (D := aG "SignsError" Z.K) (d := mx_SignsError) fam_VE c.sp (by rw [c.G]; exact c.at_ 103 rfl) (c.at_ 64 rfl) (c.ds mx_SignsError (List.mem_of_getElem? (i := 8) rfl)) (c.fre 62 rfl) rfl rfl (by decide +kernel) (fun _ _ _ _ _ _ _ _ _ => rfl) rfl (fun _ => ⟨_, rfl⟩)
theorem mke_BadOperation (c : C Z) : MakesE Z 507 := makesE_of (D := aG "SignsError" Z.K) (d := mx_SignsError) fam_VE c.sp (by rw [c.G]; exact c.at_ 103 rfl) (c.at_ 64 rfl) (c.ds mx_SignsError (List.mem_of_getElem? (i := 8) rfl)) (c.fre 62 rfl) rfl rfl (by decide +kernel) (fun _ _ _ _ _ _ _ _ _ => rfl) rfl (fun _ => ⟨_, rfl⟩)
theorem mkx_BadProgram (c : C Z) : MakesX Z 513 := makesX_of (D := aG "SignsError" Z.K) (d := mx_SignsError) fam_VE c.sp (by rw [c.G]; exact c.at_ 105 rfl) (c.at_ 64 rfl) (c.ds mx_SignsError (List.mem_of_getElem? (i := 8) rfl)) (c.fre 62 rfl) rfl rfl (by decide +kernel) (fun _ _ _ _ _ _ _ _ _ => rfl) rfl (fun _ => ⟨_, rfl⟩)
theorem mke_BadProgram (c : C Z) : MakesE Z 513 := makesE_of (D := aG "SignsError" Z.K) (d := mx_SignsError) fam_VE c.sp (by rw [c.G]; exact c.at_ 105 rfl) (c.at_ 64 rfl) (c.ds mx_SignsError (List.mem_of_getElem? (i := 8) rfl)) (c.fre 62 rfl) rfl rfl (by decide +kernel) (fun _ _ _ _ _ _ _ _ _ => rfl) rfl (fun _ => ⟨_, rfl⟩)
theorem mkx_BadPromise (c : C Z) : MakesX Z 528 := makesX_of (D := aG "SignsError" Z.K) (d := mx_SignsError) fam_VE c.sp (by rw [c.G]; exact c.at_ 107 rfl) (c.at_ 64 rfl) (c.ds mx_SignsError (List.mem_of_getElem? (i := 8) rfl)) (c.fre 62 rfl) rfl rfl (by decide +kernel) (fun _ _ _ _ _ _ _ _ _ => rfl) rfl (fun _ => ⟨_, rfl⟩)
theorem mke_BadPromise (c : C Z) : MakesE Z 528 := makesE_of (D := aG "SignsError" Z.K) (d := mx_SignsError) fam_VE c.sp (by rw [c.G]; exact c.at_ 107 rfl) (c.at_ 64 rfl) (c.ds mx_SignsError (List.mem_of_getElem? (i := 8) rfl)) (c.fre 62 rfl) rfl rfl (by decide +kernel) (fun _ _ _ _ _ _ _ _ _ => rfl) rfl (fun _ => ⟨_, rfl⟩)
theorem mkx_BadPromises (c : C Z) : MakesX Z 527 := makesX_of (D := aG "SignsError" Z.K) (d := mx_SignsError) fam_VE c.sp (by rw [c.G]; exact c.at_ 109 rfl) (c.at_ 64 rfl) (c.ds mx_SignsError (List.mem_of_getElem? (i := 8) rfl)) (c.fre 62 rfl) rfl rfl (by decide +kernel) (fun _ _ _ _ _ _ _ _ _ => rfl) rfl (fun _ => ⟨_, rfl⟩)
theorem mke_BadPromises (c : C Z) : MakesE Z 527 := makesE_of (D := aG "SignsError" Z.K) (d := mx_SignsError) fam_VE c.sp (by rw [c.G]; exact c.at_ 109 rfl) (c.at_ 64 rfl) (c.ds mx_SignsError (List.mem_of_getElem? (i := 8) rfl)) (c.fre 62 rfl) rfl rfl (by decide +kernel) (fun _ _ _ _ _ _ _ _ _ => rfl) rfl (fun _ => ⟨_, rfl⟩)
theorem mkx_BadPuts (c : C Z) : MakesX Z 521 := makesX_of (D := aG "SignsError" Z.K) (d := mx_SignsError) fam_VE c.sp (by rw [c.G]; exact c.at_ 111 rfl) (c.at_ 64 rfl) (c.ds mx_SignsError (List.mem_of_getElem? (i := 8) rfl)) (c.fre 62 rfl) rfl rfl (by decide +kernel) (fun _ _ _ _ _ _ _ _ _ => rfl) rfl (fun _ => ⟨_, rfl⟩)
theorem mke_BadPuts (c : C Z) : MakesE Z 521 := makesE_of (D := aG "SignsError" Z.K) (d := mx_SignsError) fam_VE c.sp (by rw [c.G]; exact c.at_ 111 rfl) (c.at_ 64 rfl) (c.ds mx_SignsError (List.mem_of_getElem? (i := 8) rfl)) (c.fre 62 rfl) rfl rfl (by decide +kernel) (fun _ _ _ _ _ _ _ _ _ => rfl) rfl (fun _ => ⟨_, rfl⟩)
theorem mkx_BadRoad (c : C Z) : MakesX Z 514 := makesX_of (D := aG "SignsError" Z.K) (d := mx_SignsError) fam_VE c.sp (by rw [c.G]; exact c.at_ 113 rfl) (c.at_ 64 rfl) (c.ds mx_SignsError (List.mem_of_getElem? (i := 8) rfl)) (c.fre 62 rfl) rfl rfl (by decide +kernel) (fun _ _ _ _ _ _ _ _ _ => rfl) rfl (fun _ => ⟨_, rfl⟩)
theorem mke_BadRoad (c : C Z) : MakesE Z 514 := makesE_of (D := aG "SignsError" Z.K) (d := mx_SignsError) fam_VE c.sp (by rw [c.G]; exact c.at_ 113 rfl) (c.at_ 64 rfl) (c.ds mx_SignsError (List.mem_of_getElem? (i := 8) rfl)) (c.fre 62 rfl) rfl rfl (by decide +kernel) (fun _ _ _ _ _ _ _ _ _ => rfl) rfl (fun _ => ⟨_, rfl⟩)
theorem mkx_BadRow (c : C Z) : MakesX Z 512 := makesX_of (D := aG "SignsError" Z.K) (d := mx_SignsError) fam_VE c.sp (by rw [c.G]; exact c.at_ 115 rfl) (c.at_ 64 rfl) (c.ds mx_SignsError (List.mem_of_getElem? (i := 8) rfl)) (c.fre 62 rfl) rfl rfl (by decide +kernel) (fun _ _ _ _ _ _ _ _ _ => rfl) rfl (fun _ => ⟨_, rfl⟩)
theorem mke_BadRow (c : C Z) : MakesE Z 512 := makesE_of (D := aG "SignsError" Z.K) (d := mx_SignsError) fam_VE c.sp (by rw [c.G]; exact c.at_ 115 rfl) (c.at_ 64 rfl) (c.ds mx_SignsError (List.mem_of_getElem? (i := 8) rfl)) (c.fre 62 rfl) rfl rfl (by decide +kernel) (fun _ _ _ _ _ _ _ _ _ => rfl) rfl (fun _ => ⟨_, rfl⟩)
theorem mkx_BadRun (c : C Z) : MakesX Z 515 := makesX_of (D := aG "SignsError" Z.K) (d := mx_SignsError) fam_VE c.sp (by rw [c.G]; exact c.at_ 117 rfl) (c.at_ 64 rfl) (c.ds mx_SignsError (List.mem_of_getElem? (i := 8) rfl)) (c.fre 62 rfl) rfl rfl (by decide +kernel) (fun _ _ _ _ _ _ _ _ _ => rfl) rfl (fun _ => ⟨_, rfl⟩)
theorem mke_BadRun (c : C Z) : MakesE Z 515 := makesE_of (D := aG "SignsError" Z.K) (d := mx_SignsError) fam_VE c.sp (by rw [c.G]; exact c.at_ 117 rfl) (c.at_ 64 rfl) (c.ds mx_SignsError (List.mem_of_getElem? (i := 8) rfl)) (c.fre 62 rfl) rfl rfl (by decide +kernel) (fun _ _ _ _ _ _ _ _ _ => rfl) rfl (fun _ => ⟨_, rfl⟩)
theorem mkx_BadStarts (c : C Z) : MakesX Z 511 := makesX_of (D := aG "SignsError" Z.K) (d := mx_SignsError) fam_VE c.sp (by rw [c.G]; exact c.at_ 119 rfl) (c.at_ 64 rfl) (c.ds mx_SignsError (List.mem_of_getElem? (i := 8) rfl)) (c.fre 62 rfl) rfl rfl (by decide +kernel) (fun _ _ _ _ _ _ _ _ _ => rfl) rfl (fun _ => ⟨_, rfl⟩)
theorem mke_BadStarts (c : C Z) : MakesE Z 511 := makesE_of (D := aG "SignsError" Z.K) (d := mx_SignsError) fam_VE c.sp (by rw [c.G]; exact c.at_ 119 rfl) (c.at_ 64 rfl) (c.ds mx_SignsError (List.mem_of_getElem? (i := 8) rfl)) (c.fre 62 rfl) rfl rfl (by decide +kernel) (fun _ _ _ _ _ _ _ _ _ => rfl) rfl (fun _ => ⟨_, rfl⟩)
theorem mkx_BadTable (c : C Z) : MakesX Z 509 := makesX_of (D := aG "SignsError" Z.K) (d := mx_SignsError) fam_VE c.sp (by rw [c.G]; exact c.at_ 121 rfl) (c.at_ 64 rfl) (c.ds mx_SignsError (List.mem_of_getElem? (i := 8) rfl)) (c.fre 62 rfl) rfl rfl (by decide +kernel) (fun _ _ _ _ _ _ _ _ _ => rfl) rfl (fun _ => ⟨_, rfl⟩)
theorem mke_BadTable (c : C Z) : MakesE Z 509 := makesE_of (D := aG "SignsError" Z.K) (d := mx_SignsError) fam_VE c.sp (by rw [c.G]; exact c.at_ 121 rfl) (c.at_ 64 rfl) (c.ds mx_SignsError (List.mem_of_getElem? (i := 8) rfl)) (c.fre 62 rfl) rfl rfl (by decide +kernel) (fun _ _ _ _ _ _ _ _ _ => rfl) rfl (fun _ => ⟨_, rfl⟩)
theorem mkx_BadText (c : C Z) : MakesX Z 516 := makesX_of (D := aG "SignsError" Z.K) (d := mx_SignsError) fam_VE c.sp (by rw [c.G]; exact c.at_ 123 rfl) (c.at_ 64 rfl) (c.ds mx_SignsError (List.mem_of_getElem? (i := 8) rfl)) (c.fre 62 rfl) rfl rfl (by decide +kernel) (fun _ _ _ _ _ _ _ _ _ => rfl) rfl (fun _ => ⟨_, rfl⟩)
theorem mke_BadText (c : C Z) : MakesE Z 516 := makesE_of (D := aG "SignsError" Z.K) (d := mx_SignsError) fam_VE c.sp (by rw [c.G]; exact c.at_ 123 rfl) (c.at_ 64 rfl) (c.ds mx_SignsError (List.mem_of_getElem? (i := 8) rfl)) (c.fre 62 rfl) rfl rfl (by decide +kernel) (fun _ _ _ _ _ _ _ _ _ => rfl) rfl (fun _ => ⟨_, rfl⟩)
theorem mkx_BadTurns (c : C Z) : MakesX Z 531 := makesX_of (D := aG "SignsError" Z.K) (d := mx_SignsError) fam_VE c.sp (by rw [c.G]; exact c.at_ 125 rfl) (c.at_ 64 rfl) (c.ds mx_SignsError (List.mem_of_getElem? (i := 8) rfl)) (c.fre 62 rfl) rfl rfl (by decide +kernel) (fun _ _ _ _ _ _ _ _ _ => rfl) rfl (fun _ => ⟨_, rfl⟩)
theorem mke_BadTurns (c : C Z) : MakesE Z 531 := makesE_of (D := aG "SignsError" Z.K) (d := mx_SignsError) fam_VE c.sp (by rw [c.G]; exact c.at_ 125 rfl) (c.at_ 64 rfl) (c.ds mx_SignsError (List.mem_of_getElem? (i := 8) rfl)) (c.fre 62 rfl) rfl rfl (by decide +kernel) (fun _ _ _ _ _ _ _ _ _ => rfl) rfl (fun _ => ⟨_, rfl⟩)
theorem mkx_BadWants (c : C Z) : MakesX Z 506 := makesX_of (D := aG "SignsError" Z.K) (d := mx_SignsError) fam_VE c.sp (by rw [c.G]; exact c.at_ 127 rfl) (c.at_ 64 rfl) (c.ds mx_SignsError (List.mem_of_getElem? (i := 8) rfl)) (c.fre 62 rfl) rfl rfl (by decide +kernel) (fun _ _ _ _ _ _ _ _ _ => rfl) rfl (fun _ => ⟨_, rfl⟩)
theorem mke_BadWants (c : C Z) : MakesE Z 506 := makesE_of (D := aG "SignsError" Z.K) (d := mx_SignsError) fam_VE c.sp (by rw [c.G]; exact c.at_ 127 rfl) (c.at_ 64 rfl) (c.ds mx_SignsError (List.mem_of_getElem? (i := 8) rfl)) (c.fre 62 rfl) rfl rfl (by decide +kernel) (fun _ _ _ _ _ _ _ _ _ => rfl) rfl (fun _ => ⟨_, rfl⟩)
theorem mkx_NoBlock (c : C Z) : MakesX Z 536 := makesX_of (D := aG "Absent" Z.K) (d := mx_Absent) fam_KE c.sp (by rw [c.G]; exact c.at_ 129 rfl) (c.at_ 63 rfl) (c.ds mx_Absent (List.mem_of_getElem? (i := 7) rfl)) (c.fre 62 rfl) rfl rfl (by decide +kernel) (fun _ _ _ _ _ _ _ _ _ => rfl) rfl (fun _ => ⟨_, rfl⟩)
theorem mke_NoBlock (c : C Z) : MakesE Z 536 := makesE_of (D := aG "Absent" Z.K) (d := mx_Absent) fam_KE c.sp (by rw [c.G]; exact c.at_ 129 rfl) (c.at_ 63 rfl) (c.ds mx_Absent (List.mem_of_getElem? (i := 7) rfl)) (c.fre 62 rfl) rfl rfl (by decide +kernel) (fun _ _ _ _ _ _ _ _ _ => rfl) rfl (fun _ => ⟨_, rfl⟩)
theorem mkx_NoEnd (c : C Z) : MakesX Z 520 := makesX_of (D := aG "SignsError" Z.K) (d := mx_SignsError) fam_VE c.sp (by rw [c.G]; exact c.at_ 131 rfl) (c.at_ 64 rfl) (c.ds mx_SignsError (List.mem_of_getElem? (i := 8) rfl)) (c.fre 62 rfl) rfl rfl (by decide +kernel) (fun _ _ _ _ _ _ _ _ _ => rfl) rfl (fun _ => ⟨_, rfl⟩)
theorem mke_NoEnd (c : C Z) : MakesE Z 520 := makesE_of (D := aG "SignsError" Z.K) (d := mx_SignsError) fam_VE c.sp (by rw [c.G]; exact c.at_ 131 rfl) (c.at_ 64 rfl) (c.ds mx_SignsError (List.mem_of_getElem? (i := 8) rfl)) (c.fre 62 rfl) rfl rfl (by decide +kernel) (fun _ _ _ _ _ _ _ _ _ => rfl) rfl (fun _ => ⟨_, rfl⟩)
theorem mkx_NoEntry (c : C Z) : MakesX Z 539 := makesX_of (D := aG "Absent" Z.K) (d := mx_Absent) fam_KE c.sp (by rw [c.G]; exact c.at_ 133 rfl) (c.at_ 63 rfl) (c.ds mx_Absent (List.mem_of_getElem? (i := 7) rfl)) (c.fre 62 rfl) rfl rfl (by decide +kernel) (fun _ _ _ _ _ _ _ _ _ => rfl) rfl (fun _ => ⟨_, rfl⟩)
theorem mke_NoEntry (c : C Z) : MakesE Z 539 := makesE_of (D := aG "Absent" Z.K) (d := mx_Absent) fam_KE c.sp (by rw [c.G]; exact c.at_ 133 rfl) (c.at_ 63 rfl) (c.ds mx_Absent (List.mem_of_getElem? (i := 7) rfl)) (c.fre 62 rfl) rfl rfl (by decide +kernel) (fun _ _ _ _ _ _ _ _ _ => rfl) rfl (fun _ => ⟨_, rfl⟩)
theorem mkx_NoFunction (c : C Z) : MakesX Z 540 := makesX_of (D := aG "Absent" Z.K) (d := mx_Absent) fam_KE c.sp (by rw [c.G]; exact c.at_ 135 rfl) (c.at_ 63 rfl) (c.ds mx_Absent (List.mem_of_getElem? (i := 7) rfl)) (c.fre 62 rfl) rfl rfl (by decide +kernel) (fun _ _ _ _ _ _ _ _ _ => rfl) rfl (fun _ => ⟨_, rfl⟩)
theorem mke_NoFunction (c : C Z) : MakesE Z 540 := makesE_of (D := aG "Absent" Z.K) (d := mx_Absent) fam_KE c.sp (by rw [c.G]; exact c.at_ 135 rfl) (c.at_ 63 rfl) (c.ds mx_Absent (List.mem_of_getElem? (i := 7) rfl)) (c.fre 62 rfl) rfl rfl (by decide +kernel) (fun _ _ _ _ _ _ _ _ _ => rfl) rfl (fun _ => ⟨_, rfl⟩)
theorem mkx_NoOperation (c : C Z) : MakesX Z 535 := makesX_of (D := aG "Absent" Z.K) (d := mx_Absent) fam_KE c.sp (by rw [c.G]; exact c.at_ 137 rfl) (c.at_ 63 rfl) (c.ds mx_Absent (List.mem_of_getElem? (i := 7) rfl)) (c.fre 62 rfl) rfl rfl (by decide +kernel) (fun _ _ _ _ _ _ _ _ _ => rfl) rfl (fun _ => ⟨_, rfl⟩)
theorem mke_NoOperation (c : C Z) : MakesE Z 535 := makesE_of (D := aG "Absent" Z.K) (d := mx_Absent) fam_KE c.sp (by rw [c.G]; exact c.at_ 137 rfl) (c.at_ 63 rfl) (c.ds mx_Absent (List.mem_of_getElem? (i := 7) rfl)) (c.fre 62 rfl) rfl rfl (by decide +kernel) (fun _ _ _ _ _ _ _ _ _ => rfl) rfl (fun _ => ⟨_, rfl⟩)
theorem mkx_NoPlace (c : C Z) : MakesX Z 537 := makesX_of (D := aG "Absent" Z.K) (d := mx_Absent) fam_KE c.sp (by rw [c.G]; exact c.at_ 139 rfl) (c.at_ 63 rfl) (c.ds mx_Absent (List.mem_of_getElem? (i := 7) rfl)) (c.fre 62 rfl) rfl rfl (by decide +kernel) (fun _ _ _ _ _ _ _ _ _ => rfl) rfl (fun _ => ⟨_, rfl⟩)
theorem mke_NoPlace (c : C Z) : MakesE Z 537 := makesE_of (D := aG "Absent" Z.K) (d := mx_Absent) fam_KE c.sp (by rw [c.G]; exact c.at_ 139 rfl) (c.at_ 63 rfl) (c.ds mx_Absent (List.mem_of_getElem? (i := 7) rfl)) (c.fre 62 rfl) rfl rfl (by decide +kernel) (fun _ _ _ _ _ _ _ _ _ => rfl) rfl (fun _ => ⟨_, rfl⟩)
theorem mkx_NoVariable (c : C Z) : MakesX Z 538 := makesX_of (D := aG "Absent" Z.K) (d := mx_Absent) fam_KE c.sp (by rw [c.G]; exact c.at_ 141 rfl) (c.at_ 63 rfl) (c.ds mx_Absent (List.mem_of_getElem? (i := 7) rfl)) (c.fre 62 rfl) rfl rfl (by decide +kernel) (fun _ _ _ _ _ _ _ _ _ => rfl) rfl (fun _ => ⟨_, rfl⟩)
theorem mke_NoVariable (c : C Z) : MakesE Z 538 := makesE_of (D := aG "Absent" Z.K) (d := mx_Absent) fam_KE c.sp (by rw [c.G]; exact c.at_ 141 rfl) (c.at_ 63 rfl) (c.ds mx_Absent (List.mem_of_getElem? (i := 7) rfl)) (c.fre 62 rfl) rfl rfl (by decide +kernel) (fun _ _ _ _ _ _ _ _ _ => rfl) rfl (fun _ => ⟨_, rfl⟩)
theorem mkx_NotSimple (c : C Z) : MakesX Z 519 := makesX_of (D := aG "SignsError" Z.K) (d := mx_SignsError) fam_VE c.sp (by rw [c.G]; exact c.at_ 143 rfl) (c.at_ 64 rfl) (c.ds mx_SignsError (List.mem_of_getElem? (i := 8) rfl)) (c.fre 62 rfl) rfl rfl (by decide +kernel) (fun _ _ _ _ _ _ _ _ _ => rfl) rfl (fun _ => ⟨_, rfl⟩)
theorem mke_NotSimple (c : C Z) : MakesE Z 519 := makesE_of (D := aG "SignsError" Z.K) (d := mx_SignsError) fam_VE c.sp (by rw [c.G]; exact c.at_ 143 rfl) (c.at_ 64 rfl) (c.ds mx_SignsError (List.mem_of_getElem? (i := 8) rfl)) (c.fre 62 rfl) rfl rfl (by decide +kernel) (fun _ _ _ _ _ _ _ _ _ => rfl) rfl (fun _ => ⟨_, rfl⟩)
theorem mkx_SignsError (c : C Z) : MakesX Z 500 := makesX_of (D := aG "SignsError" Z.K) (d := mx_SignsError) fam_VE c.sp (by rw [c.G]; exact c.at_ 145 rfl) (c.at_ 64 rfl) (c.ds mx_SignsError (List.mem_of_getElem? (i := 8) rfl)) (c.fre 62 rfl) rfl rfl (by decide +kernel) (fun _ _ _ _ _ _ _ _ _ => rfl) rfl (fun _ => ⟨_, rfl⟩)
theorem mke_SignsError (c : C Z) : MakesE Z 500 := makesE_of (D := aG "SignsError" Z.K) (d := mx_SignsError) fam_VE c.sp (by rw [c.G]; exact c.at_ 145 rfl) (c.at_ 64 rfl) (c.ds mx_SignsError (List.mem_of_getElem? (i := 8) rfl)) (c.fre 62 rfl) rfl rfl (by decide +kernel) (fun _ _ _ _ _ _ _ _ _ => rfl) rfl (fun _ => ⟨_, rfl⟩)
theorem mkx_TooLarge (c : C Z) : MakesX Z 541 := makesX_of (D := aG "TooLarge" Z.K) (d := mx_TooLarge) fam_OE c.sp (by rw [c.G]; exact c.at_ 147 rfl) (c.at_ 65 rfl) (c.ds mx_TooLarge (List.mem_of_getElem? (i := 9) rfl)) (c.fre 62 rfl) rfl rfl (by decide +kernel) (fun _ _ _ _ _ _ _ _ _ => rfl) rfl (fun _ => ⟨_, rfl⟩)
theorem mke_TooLarge (c : C Z) : MakesE Z 541 := makesE_of (D := aG "TooLarge" Z.K) (d := mx_TooLarge) fam_OE c.sp (by rw [c.G]; exact c.at_ 147 rfl) (c.at_ 65 rfl) (c.ds mx_TooLarge (List.mem_of_getElem? (i := 9) rfl)) (c.fre 62 rfl) rfl rfl (by decide +kernel) (fun _ _ _ _ _ _ _ _ _ => rfl) rfl (fun _ => ⟨_, rfl⟩)
theorem mkx_TooMany (c : C Z) : MakesX Z 542 := makesX_of (D := aG "TooMany" Z.K) (d := mx_TooMany) fam_OE c.sp (by rw [c.G]; exact c.at_ 149 rfl) (c.at_ 66 rfl) (c.ds mx_TooMany (List.mem_of_getElem? (i := 10) rfl)) (c.fre 62 rfl) rfl rfl (by decide +kernel) (fun _ _ _ _ _ _ _ _ _ => rfl) rfl (fun _ => ⟨_, rfl⟩)
theorem mke_TooMany (c : C Z) : MakesE Z 542 := makesE_of (D := aG "TooMany" Z.K) (d := mx_TooMany) fam_OE c.sp (by rw [c.G]; exact c.at_ 149 rfl) (c.at_ 66 rfl) (c.ds mx_TooMany (List.mem_of_getElem? (i := 10) rfl)) (c.fre 62 rfl) rfl rfl (by decide +kernel) (fun _ _ _ _ _ _ _ _ _ => rfl) rfl (fun _ => ⟨_, rfl⟩)
theorem mkx_Unlike (c : C Z) : MakesX Z 504 := makesX_of (D := aG "SignsError" Z.K) (d := mx_SignsError) fam_VE c.sp (by rw [c.G]; exact c.at_ 151 rfl) (c.at_ 64 rfl) (c.ds mx_SignsError (List.mem_of_getElem? (i := 8) rfl)) (c.fre 62 rfl) rfl rfl (by decide +kernel) (fun _ _ _ _ _ _ _ _ _ => rfl) rfl (fun _ => ⟨_, rfl⟩)
theorem mke_Unlike (c : C Z) : MakesE Z 504 := makesE_of (D := aG "SignsError" Z.K) (d := mx_SignsError) fam_VE c.sp (by rw [c.G]; exact c.at_ 151 rfl) (c.at_ 64 rfl) (c.ds mx_SignsError (List.mem_of_getElem? (i := 8) rfl)) (c.fre 62 rfl) rfl rfl (by decide +kernel) (fun _ _ _ _ _ _ _ _ _ => rfl) rfl (fun _ => ⟨_, rfl⟩)
theorem mkn_NothingToUndo (c : C Z) : MakesN Z 543 := makesN_of F.excBase_RuntimeError (by rw [c.G]; exact c.at_ 153 rfl) (by rw [c.G]; exact c.at_ 154 rfl)
theorem okx_ok (c : C Z) : ∀ k, okx k = true → ExK Z.K (Z.G k) := fun k h => by
  have hm : k ∈ ([534, 505, 510, 529, 530, 532, 533, 517, 501, 523, 522, 525, 524, 526, 518, 502, 503, 508, 507, 513, 528, 527, 521, 514, 512, 515, 511, 509, 516, 531, 506, 536, 520, 539, 540, 535, 537, 538, 519, 500, 541, 542, 504] : List Nat) := by simpa [okx] using h
  simp only [List.mem_cons, List.not_mem_nil, or_false] at hm
  rcases hm with rfl | rfl | rfl | rfl | rfl | rfl | rfl | rfl | rfl | rfl | rfl | rfl | rfl | rfl | rfl | rfl | rfl | rfl | rfl | rfl | rfl | rfl | rfl | rfl | rfl | rfl | rfl | rfl | rfl | rfl | rfl | rfl | rfl | rfl | rfl | rfl | rfl | rfl | rfl | rfl | rfl | rfl | rfl
  · rw [c.G]; exact exB_ok (c.at_ 68 rfl)
  · rw [c.G]; exact exB_ok (c.at_ 70 rfl)
  · rw [c.G]; exact exB_ok (c.at_ 72 rfl)
  · rw [c.G]; exact exB_ok (c.at_ 74 rfl)
  · rw [c.G]; exact exB_ok (c.at_ 76 rfl)
  · rw [c.G]; exact exB_ok (c.at_ 78 rfl)
  · rw [c.G]; exact exB_ok (c.at_ 80 rfl)
  · rw [c.G]; exact exB_ok (c.at_ 82 rfl)
  · rw [c.G]; exact exB_ok (c.at_ 84 rfl)
  · rw [c.G]; exact exB_ok (c.at_ 86 rfl)
  · rw [c.G]; exact exB_ok (c.at_ 88 rfl)
  · rw [c.G]; exact exB_ok (c.at_ 90 rfl)
  · rw [c.G]; exact exB_ok (c.at_ 92 rfl)
  · rw [c.G]; exact exB_ok (c.at_ 94 rfl)
  · rw [c.G]; exact exB_ok (c.at_ 96 rfl)
  · rw [c.G]; exact exB_ok (c.at_ 98 rfl)
  · rw [c.G]; exact exB_ok (c.at_ 100 rfl)
  · rw [c.G]; exact exB_ok (c.at_ 102 rfl)
  · rw [c.G]; exact exB_ok (c.at_ 104 rfl)
  · rw [c.G]; exact exB_ok (c.at_ 106 rfl)
  · rw [c.G]; exact exB_ok (c.at_ 108 rfl)
  · rw [c.G]; exact exB_ok (c.at_ 110 rfl)
  · rw [c.G]; exact exB_ok (c.at_ 112 rfl)
  · rw [c.G]; exact exB_ok (c.at_ 114 rfl)
  · rw [c.G]; exact exB_ok (c.at_ 116 rfl)
  · rw [c.G]; exact exB_ok (c.at_ 118 rfl)
  · rw [c.G]; exact exB_ok (c.at_ 120 rfl)
  · rw [c.G]; exact exB_ok (c.at_ 122 rfl)
  · rw [c.G]; exact exB_ok (c.at_ 124 rfl)
  · rw [c.G]; exact exB_ok (c.at_ 126 rfl)
  · rw [c.G]; exact exB_ok (c.at_ 128 rfl)
  · rw [c.G]; exact exB_ok (c.at_ 130 rfl)
  · rw [c.G]; exact exB_ok (c.at_ 132 rfl)
  · rw [c.G]; exact exB_ok (c.at_ 134 rfl)
  · rw [c.G]; exact exB_ok (c.at_ 136 rfl)
  · rw [c.G]; exact exB_ok (c.at_ 138 rfl)
  · rw [c.G]; exact exB_ok (c.at_ 140 rfl)
  · rw [c.G]; exact exB_ok (c.at_ 142 rfl)
  · rw [c.G]; exact exB_ok (c.at_ 144 rfl)
  · rw [c.G]; exact exB_ok (c.at_ 146 rfl)
  · rw [c.G]; exact exB_ok (c.at_ 148 rfl)
  · rw [c.G]; exact exB_ok (c.at_ 150 rfl)
  · rw [c.G]; exact exB_ok (c.at_ 152 rfl)
theorem ct_ok (c : C Z) : CmpTOk Z ct := ⟨c.nm _ rfl, c.nm _ rfl, c.nm _ rfl, c.nm _ rfl, c.nm _ rfl, (fun k hk => nomatch hk), (fun k hk => nomatch hk)⟩
theorem gt_ok (c : C Z) : GtOk Z gt := ⟨c.nm _ rfl, c.nm _ rfl, (fun k hk => nomatch hk)⟩
theorem isa_all (c : C Z) : ∀ e ∈ isaL, (100 ≤ e.1 → OwnTy Z (e.1 - 100)) ∧ PySem.W.kitOne Z.K (tyV Z e.1) (tyV Z e.2.1) = some e.2.2 :=
  (fun k hk => nomatch hk)
theorem isa_ok (c : C Z) : IsaOk Z isa := fun t k b e => by
  unfold isa at e
  split at e
  · rename_i q eq
    cases e
    have h := List.find?_some eq
    rw [Bool.and_eq_true] at h
    have h1 := Nat.eq_of_beq_eq_true h.1
    have h2 := Nat.eq_of_beq_eq_true h.2
    have := isa_all c q (List.mem_of_find?_eq_some eq)
    rw [h1, h2] at this
    exact this
  · cases e
theorem mems_ok (c : C Z) : AllN (MemOk Z tbl) 0 mems := True.intro
theorem ar0 (c : C Z) : ArrOk Z tbl 0 (arrs.getD 0 []) := (arrOk_cons (arr_of (c.def_ 0 rfl) (by rw [c.G]; rfl) fun fd F => (bind_all F fun _ _ _ _ _ _ us hl => match us, hl with | [_, _], _ => rfl)) arrOk_nil)
theorem ar1 (c : C Z) : ArrOk Z tbl 1 (arrs.getD 1 []) := (arrOk_cons (arr_of (c.def_ 1 rfl) (by rw [c.G]; rfl) fun fd F => (bind_all F fun _ _ _ _ _ _ us hl => match us, hl with | [_, _], _ => rfl)) arrOk_nil)
theorem ar2 (c : C Z) : ArrOk Z tbl 2 (arrs.getD 2 []) := (arrOk_cons (arr_of (c.def_ 2 rfl) (by rw [c.G]; rfl) fun fd F => (bind_all F fun _ _ _ _ _ _ us hl => match us, hl with | [_], _ => rfl)) arrOk_nil)
theorem ar3 (c : C Z) : ArrOk Z tbl 3 (arrs.getD 3 []) := (arrOk_cons (arr_of (c.def_ 3 rfl) (by rw [c.G]; rfl) fun fd F => (bind_all F fun _ _ _ _ _ _ us hl => match us, hl with | [_], _ => rfl)) arrOk_nil)
theorem ar4 (c : C Z) : ArrOk Z tbl 4 (arrs.getD 4 []) := (arrOk_cons (arr_of (c.def_ 4 rfl) (by rw [c.G]; rfl) fun fd F => (bind_all F fun _ _ _ _ _ _ us hl => match us, hl with | [_], _ => rfl)) arrOk_nil)
theorem ar5 (c : C Z) : ArrOk Z tbl 5 (arrs.getD 5 []) := (arrOk_cons (arr_of (c.def_ 5 rfl) (by rw [c.G]; rfl) fun fd F => (bind_all F fun _ _ _ _ _ _ us hl => match us, hl with | [_], _ => rfl)) arrOk_nil)
theorem ar6 (c : C Z) : ArrOk Z tbl 6 (arrs.getD 6 []) := arrOk_nil
theorem arrs_ok (c : C Z) : AllN (ArrOk Z tbl) 0 arrs := ⟨ar0 c, ⟨ar1 c, ⟨ar2 c, ⟨ar3 c, ⟨ar4 c, ⟨ar5 c, ⟨ar6 c, True.intro⟩⟩⟩⟩⟩⟩⟩
theorem b0 (c : C Z) {lv : Nat} {T : Tab} (TO : TabOk Z lv T (fdOf Z) (psOf tbl)) (TH : ∀ g, decide (g < 7) = true → T.has g = true) (TA : ∀ g n ks {a : Arr}, arrOf arrs g n ks = some a → T.arr g n ks = some a) {X : Cx} {W : WX} (gd : Good Z lv X W) (D : DefX X ["_law_script", "_law_k", "_law_cell", "_law_seed"] (defScope st0) [0, 1, 2, 3] [0, 1, 2, 3] ["len", "int"]) (hp : Hx X) (bx : Bx lv X (fdOf Z 0) "_law_pool") : PSs X (defBody st0) (tS Z W (e0 T)) :=
    (ok_seqS (ok_asg (ok_ite (ok_cmpB (D_var D 1 rfl rfl) (ok_blt gd (lenX_ok TO gd (ct_ok c)) (D_glo D 0 rfl).1 (c.fre 3 rfl) (by decide +kernel) (ok_cons (D_var D 0 rfl rfl) ok_nil rfl) rfl (D_glo D 0 rfl).2.2 (D_glo D 0 rfl).2.1) (cmpD2_ok .Lt TO gd (ct_ok c)) rfl) (ok_ix2 gd (D_var D 0 rfl rfl) (D_var D 1 rfl rfl) (fun _ _ => rfl)) c_int) (D_tgt gd D 2 rfl rfl) rfl rfl rfl)
    (ok_seqS (ok_asg (ok_bin (ok_bltT gd int1_ok (D_glo D 1 rfl).1 (c.fre 2 rfl) (by decide +kernel) (ok_cons (ok_bin (ok_bin (ok_bin (ok_bltT gd int1_ok (D_glo D 1 rfl).1 (c.fre 2 rfl) (by decide +kernel) (ok_cons (D_var D 2 rfl rfl) ok_nil rfl) rfl (D_glo D 1 rfl).2.2 (D_glo D 1 rfl).2.1) c_int (bin_ok .Mod true gd.K)) (ok_bin (ok_bin c_int (D_var D 1 rfl rfl) (bin_ok .Mult false gd.K)) (D_var D 1 rfl rfl) (bin_ok .Mult false gd.K)) (bin_ok .Add false gd.K)) c_int (bin_ok .Add false gd.K)) ok_nil rfl) rfl (D_glo D 1 rfl).2.2 (D_glo D 1 rfl).2.1) c_int (bin_ok .Mult false gd.K)) (D_tgt gd D 3 rfl rfl) rfl rfl rfl)
    (ok_seqS (ok_retS (ok_lst (ok_cons (ok_ite (ok_cmpB (D_var D 2 rfl rfl) (ok_bin c_int c_int (bin_ok .Pow true gd.K)) (cmpD2_ok .GtE TO gd (ct_ok c)) rfl) (D_var D 2 rfl rfl) c_int) (ok_cons (ok_bin (ok_bin (ok_bltT gd int1_ok (D_glo D 1 rfl).1 (c.fre 2 rfl) (by decide +kernel) (ok_cons (D_var D 3 rfl rfl) ok_nil rfl) rfl (D_glo D 1 rfl).2.2 (D_glo D 1 rfl).2.1) c_int (bin_ok .Mod true gd.K)) c_int (bin_ok .Add false gd.K)) ok_nil rfl) rfl)))
    ok_nilS)))
theorem d0 (c : C Z) : DefOk Z tbl mems arrs 0 ⟨["_law_script", "_law_k"], 4, e0⟩ := defOk_of (d := md0) (N := ["_law_script", "_law_k", "_law_cell", "_law_seed"]) (vs := [0, 1, 2, 3]) (ls := [0, 1, 2, 3]) (gs := ["len", "int"]) (c.def_ 0 rfl) (by rw [c.G]; rfl) ⟨rfl, rfl, rfl, by decide +kernel, rfl, by decide +kernel, by decide +kernel⟩ rfl (by decide +kernel) fun n X W TO gd D hp bx => b0 c TO (fun g h => has_ok h) (fun g n ks {a} h => arr_ok h) gd D hp bx
theorem b1 (c : C Z) {lv : Nat} {T : Tab} (TO : TabOk Z lv T (fdOf Z) (psOf tbl)) (TH : ∀ g, decide (g < 7) = true → T.has g = true) (TA : ∀ g n ks {a : Arr}, arrOf arrs g n ks = some a → T.arr g n ks = some a) {X : Cx} {W : WX} (gd : Good Z lv X W) (D : DefX X ["_law_pool_here", "_law_many", "_law_found"] (defScope st1) [0, 1, 2] [0, 1, 2] ["int"]) (hp : Hx X) (bx : Bx lv X (fdOf Z 1) "_law_take") : PSs X (defBody st1) (tS Z W (e1 T)) :=
    (ok_seqS (ok_ifS (ok_cmpB (ok_ix2 gd (D_var D 0 rfl rfl) c_int (fun _ _ => rfl)) c_int (cmpD2_ok .Gt TO gd (ct_ok c)) rfl)
    (ok_seqS (ok_asg (ok_bin (ok_bltT gd int1_ok (D_glo D 0 rfl).1 (c.fre 2 rfl) (by decide +kernel) (ok_cons (ok_ix2 gd (D_var D 0 rfl rfl) c_int (fun _ _ => rfl)) ok_nil rfl) rfl (D_glo D 0 rfl).2.2 (D_glo D 0 rfl).2.1) (D_var D 1 rfl rfl) (bin_ok .Mod true gd.K)) (D_tgt gd D 2 rfl rfl) rfl rfl rfl)
    (ok_seqS (ok_asg (ok_bin (ok_ix2 gd (D_var D 0 rfl rfl) c_int (fun _ _ => rfl)) (D_var D 1 rfl rfl) (bin_ok .FloorDiv true gd.K)) (ok_subT2 (W := W) gd (D_var D 0 rfl rfl) c_int (fun _ => rfl)) rfl rfl rfl)
    (ok_seqS (ok_retS (D_var D 2 rfl rfl))
    ok_nilS)))
    ok_nilS)
    (ok_seqS (ok_asg (ok_bin (ok_bltT gd int1_ok (D_glo D 0 rfl).1 (c.fre 2 rfl) (by decide +kernel) (ok_cons (ok_bin (ok_bin (ok_ix2 gd (D_var D 0 rfl rfl) c_int (fun _ _ => rfl)) c_int (bin_ok .Mult true gd.K)) c_int (bin_ok .Add true gd.K)) ok_nil rfl) rfl (D_glo D 0 rfl).2.2 (D_glo D 0 rfl).2.1) c_int (bin_ok .Mod true gd.K)) (ok_subT2 (W := W) gd (D_var D 0 rfl rfl) c_int (fun _ => rfl)) rfl rfl rfl)
    (ok_seqS (ok_retS (ok_bin (ok_bin (ok_bin (ok_bltT gd int1_ok (D_glo D 0 rfl).1 (c.fre 2 rfl) (by decide +kernel) (ok_cons (ok_bin (ok_ix2 gd (D_var D 0 rfl rfl) c_int (fun _ _ => rfl)) (ok_ix2 gd (D_var D 0 rfl rfl) c_int (fun _ _ => rfl)) (bin_ok .Mult true gd.K)) ok_nil rfl) rfl (D_glo D 0 rfl).2.2 (D_glo D 0 rfl).2.1) c_int (bin_ok .Mod true gd.K)) c_int (bin_ok .FloorDiv true gd.K)) (D_var D 1 rfl rfl) (bin_ok .Mod true gd.K)))
    ok_nilS)))
theorem d1 (c : C Z) : DefOk Z tbl mems arrs 1 ⟨["_law_pool_here", "_law_many"], 3, e1⟩ := defOk_of (d := md1) (N := ["_law_pool_here", "_law_many", "_law_found"]) (vs := [0, 1, 2]) (ls := [0, 1, 2]) (gs := ["int"]) (c.def_ 1 rfl) (by rw [c.G]; rfl) ⟨rfl, rfl, rfl, by decide +kernel, rfl, by decide +kernel, by decide +kernel⟩ rfl (by decide +kernel) fun n X W TO gd D hp bx => b1 c TO (fun g h => has_ok h) (fun g n ks {a} h => arr_ok h) gd D hp bx
theorem b2 (c : C Z) {lv : Nat} {T : Tab} (TO : TabOk Z lv T (fdOf Z) (psOf tbl)) (TH : ∀ g, decide (g < 7) = true → T.has g = true) (TA : ∀ g n ks {a : Arr}, arrOf arrs g n ks = some a → T.arr g n ks = some a) {X : Cx} {W : WX} (gd : Good Z lv X W) (D : DefX X ["_law_e", "_law_found"] (defScope st2) [0, 1] [0, 1] ((["isinstance", "BadDress", "BadMark", "BadNumber", "Unlike", "BadArity", "BadWants", "BadOperation", "BadOperands", "BadTable", "BadBlocks", "BadStarts", "BadRow", "BadProgram", "BadRoad", "BadRun", "BadText", "BadDraft", "BadKind", "NotSimple"] : List Str) ++ (["NoEnd", "BadPuts", "BadFrequencies", "BadFlow", "BadFunctions", "BadFunction", "BadGroup", "BadPromises", "BadPromise", "BadBook", "BadBooks", "BadTurns", "BadChange", "BadChosen", "NoOperation", "NoBlock", "NoPlace", "NoVariable", "NoEntry", "NoFunction"] : List Str) ++ (["TooLarge", "TooMany"] : List Str))) (hp : Hx X) (bx : Bx lv X (fdOf Z 2) "_law_kinds") : PSs X (defBody st2) (tS Z W (e2 T)) :=
    (ok_seqS (ok_asg (ok_lst ok_nil) (D_tgt gd D 1 rfl rfl) rfl rfl rfl)
    (ok_seqS (ok_asg (ok_bin (D_var D 1 rfl rfl) (ok_lst (ok_cons (ok_blt gd (isiE_ok gd (isxT_ok (c.at_ 1 rfl) c.G) (isa_ok c)) (D_glo D 0 rfl).1 (c.fre 5 rfl) (by decide +kernel) (ok_cons (D_var D 0 rfl rfl) (ok_cons (D_st D gd 1 rfl (c.gloG 45 501 rfl rfl)) ok_nil rfl) rfl) rfl (D_glo D 0 rfl).2.2 (D_glo D 0 rfl).2.1) (ok_cons (ok_blt gd (isiE_ok gd (isxT_ok (c.at_ 1 rfl) c.G) (isa_ok c)) (D_glo D 0 rfl).1 (c.fre 5 rfl) (by decide +kernel) (ok_cons (D_var D 0 rfl rfl) (ok_cons (D_st D gd 2 rfl (c.gloG 44 502 rfl rfl)) ok_nil rfl) rfl) rfl (D_glo D 0 rfl).2.2 (D_glo D 0 rfl).2.1) (ok_cons (ok_blt gd (isiE_ok gd (isxT_ok (c.at_ 1 rfl) c.G) (isa_ok c)) (D_glo D 0 rfl).1 (c.fre 5 rfl) (by decide +kernel) (ok_cons (D_var D 0 rfl rfl) (ok_cons (D_st D gd 3 rfl (c.gloG 43 503 rfl rfl)) ok_nil rfl) rfl) rfl (D_glo D 0 rfl).2.2 (D_glo D 0 rfl).2.1) ok_nil rfl) rfl) rfl)) (bin_ok .Add true gd.K)) (D_tgt gd D 1 rfl rfl) rfl rfl rfl)
    (ok_seqS (ok_asg (ok_bin (D_var D 1 rfl rfl) (ok_lst (ok_cons (ok_blt gd (isiE_ok gd (isxT_ok (c.at_ 1 rfl) c.G) (isa_ok c)) (D_glo D 0 rfl).1 (c.fre 5 rfl) (by decide +kernel) (ok_cons (D_var D 0 rfl rfl) (ok_cons (D_st D gd 4 rfl (c.gloG 42 504 rfl rfl)) ok_nil rfl) rfl) rfl (D_glo D 0 rfl).2.2 (D_glo D 0 rfl).2.1) (ok_cons (ok_blt gd (isiE_ok gd (isxT_ok (c.at_ 1 rfl) c.G) (isa_ok c)) (D_glo D 0 rfl).1 (c.fre 5 rfl) (by decide +kernel) (ok_cons (D_var D 0 rfl rfl) (ok_cons (D_st D gd 5 rfl (c.gloG 41 505 rfl rfl)) ok_nil rfl) rfl) rfl (D_glo D 0 rfl).2.2 (D_glo D 0 rfl).2.1) (ok_cons (ok_blt gd (isiE_ok gd (isxT_ok (c.at_ 1 rfl) c.G) (isa_ok c)) (D_glo D 0 rfl).1 (c.fre 5 rfl) (by decide +kernel) (ok_cons (D_var D 0 rfl rfl) (ok_cons (D_st D gd 6 rfl (c.gloG 40 506 rfl rfl)) ok_nil rfl) rfl) rfl (D_glo D 0 rfl).2.2 (D_glo D 0 rfl).2.1) ok_nil rfl) rfl) rfl)) (bin_ok .Add true gd.K)) (D_tgt gd D 1 rfl rfl) rfl rfl rfl)
    (ok_seqS (ok_asg (ok_bin (D_var D 1 rfl rfl) (ok_lst (ok_cons (ok_blt gd (isiE_ok gd (isxT_ok (c.at_ 1 rfl) c.G) (isa_ok c)) (D_glo D 0 rfl).1 (c.fre 5 rfl) (by decide +kernel) (ok_cons (D_var D 0 rfl rfl) (ok_cons (D_st D gd 7 rfl (c.gloG 39 507 rfl rfl)) ok_nil rfl) rfl) rfl (D_glo D 0 rfl).2.2 (D_glo D 0 rfl).2.1) (ok_cons (ok_blt gd (isiE_ok gd (isxT_ok (c.at_ 1 rfl) c.G) (isa_ok c)) (D_glo D 0 rfl).1 (c.fre 5 rfl) (by decide +kernel) (ok_cons (D_var D 0 rfl rfl) (ok_cons (D_st D gd 8 rfl (c.gloG 38 508 rfl rfl)) ok_nil rfl) rfl) rfl (D_glo D 0 rfl).2.2 (D_glo D 0 rfl).2.1) (ok_cons (ok_blt gd (isiE_ok gd (isxT_ok (c.at_ 1 rfl) c.G) (isa_ok c)) (D_glo D 0 rfl).1 (c.fre 5 rfl) (by decide +kernel) (ok_cons (D_var D 0 rfl rfl) (ok_cons (D_st D gd 9 rfl (c.gloG 37 509 rfl rfl)) ok_nil rfl) rfl) rfl (D_glo D 0 rfl).2.2 (D_glo D 0 rfl).2.1) ok_nil rfl) rfl) rfl)) (bin_ok .Add true gd.K)) (D_tgt gd D 1 rfl rfl) rfl rfl rfl)
    (ok_seqS (ok_asg (ok_bin (D_var D 1 rfl rfl) (ok_lst (ok_cons (ok_blt gd (isiE_ok gd (isxT_ok (c.at_ 1 rfl) c.G) (isa_ok c)) (D_glo D 0 rfl).1 (c.fre 5 rfl) (by decide +kernel) (ok_cons (D_var D 0 rfl rfl) (ok_cons (D_st D gd 10 rfl (c.gloG 36 510 rfl rfl)) ok_nil rfl) rfl) rfl (D_glo D 0 rfl).2.2 (D_glo D 0 rfl).2.1) (ok_cons (ok_blt gd (isiE_ok gd (isxT_ok (c.at_ 1 rfl) c.G) (isa_ok c)) (D_glo D 0 rfl).1 (c.fre 5 rfl) (by decide +kernel) (ok_cons (D_var D 0 rfl rfl) (ok_cons (D_st D gd 11 rfl (c.gloG 35 511 rfl rfl)) ok_nil rfl) rfl) rfl (D_glo D 0 rfl).2.2 (D_glo D 0 rfl).2.1) (ok_cons (ok_blt gd (isiE_ok gd (isxT_ok (c.at_ 1 rfl) c.G) (isa_ok c)) (D_glo D 0 rfl).1 (c.fre 5 rfl) (by decide +kernel) (ok_cons (D_var D 0 rfl rfl) (ok_cons (D_st D gd 12 rfl (c.gloG 34 512 rfl rfl)) ok_nil rfl) rfl) rfl (D_glo D 0 rfl).2.2 (D_glo D 0 rfl).2.1) ok_nil rfl) rfl) rfl)) (bin_ok .Add true gd.K)) (D_tgt gd D 1 rfl rfl) rfl rfl rfl)
    (ok_seqS (ok_asg (ok_bin (D_var D 1 rfl rfl) (ok_lst (ok_cons (ok_blt gd (isiE_ok gd (isxT_ok (c.at_ 1 rfl) c.G) (isa_ok c)) (D_glo D 0 rfl).1 (c.fre 5 rfl) (by decide +kernel) (ok_cons (D_var D 0 rfl rfl) (ok_cons (D_st D gd 13 rfl (c.gloG 33 513 rfl rfl)) ok_nil rfl) rfl) rfl (D_glo D 0 rfl).2.2 (D_glo D 0 rfl).2.1) (ok_cons (ok_blt gd (isiE_ok gd (isxT_ok (c.at_ 1 rfl) c.G) (isa_ok c)) (D_glo D 0 rfl).1 (c.fre 5 rfl) (by decide +kernel) (ok_cons (D_var D 0 rfl rfl) (ok_cons (D_st D gd 14 rfl (c.gloG 32 514 rfl rfl)) ok_nil rfl) rfl) rfl (D_glo D 0 rfl).2.2 (D_glo D 0 rfl).2.1) (ok_cons (ok_blt gd (isiE_ok gd (isxT_ok (c.at_ 1 rfl) c.G) (isa_ok c)) (D_glo D 0 rfl).1 (c.fre 5 rfl) (by decide +kernel) (ok_cons (D_var D 0 rfl rfl) (ok_cons (D_st D gd 15 rfl (c.gloG 31 515 rfl rfl)) ok_nil rfl) rfl) rfl (D_glo D 0 rfl).2.2 (D_glo D 0 rfl).2.1) ok_nil rfl) rfl) rfl)) (bin_ok .Add true gd.K)) (D_tgt gd D 1 rfl rfl) rfl rfl rfl)
    (ok_seqS (ok_asg (ok_bin (D_var D 1 rfl rfl) (ok_lst (ok_cons (ok_blt gd (isiE_ok gd (isxT_ok (c.at_ 1 rfl) c.G) (isa_ok c)) (D_glo D 0 rfl).1 (c.fre 5 rfl) (by decide +kernel) (ok_cons (D_var D 0 rfl rfl) (ok_cons (D_st D gd 16 rfl (c.gloG 30 516 rfl rfl)) ok_nil rfl) rfl) rfl (D_glo D 0 rfl).2.2 (D_glo D 0 rfl).2.1) (ok_cons (ok_blt gd (isiE_ok gd (isxT_ok (c.at_ 1 rfl) c.G) (isa_ok c)) (D_glo D 0 rfl).1 (c.fre 5 rfl) (by decide +kernel) (ok_cons (D_var D 0 rfl rfl) (ok_cons (D_st D gd 17 rfl (c.gloG 29 517 rfl rfl)) ok_nil rfl) rfl) rfl (D_glo D 0 rfl).2.2 (D_glo D 0 rfl).2.1) (ok_cons (ok_blt gd (isiE_ok gd (isxT_ok (c.at_ 1 rfl) c.G) (isa_ok c)) (D_glo D 0 rfl).1 (c.fre 5 rfl) (by decide +kernel) (ok_cons (D_var D 0 rfl rfl) (ok_cons (D_st D gd 18 rfl (c.gloG 28 518 rfl rfl)) ok_nil rfl) rfl) rfl (D_glo D 0 rfl).2.2 (D_glo D 0 rfl).2.1) ok_nil rfl) rfl) rfl)) (bin_ok .Add true gd.K)) (D_tgt gd D 1 rfl rfl) rfl rfl rfl)
    (ok_seqS (ok_asg (ok_bin (D_var D 1 rfl rfl) (ok_lst (ok_cons (ok_blt gd (isiE_ok gd (isxT_ok (c.at_ 1 rfl) c.G) (isa_ok c)) (D_glo D 0 rfl).1 (c.fre 5 rfl) (by decide +kernel) (ok_cons (D_var D 0 rfl rfl) (ok_cons (D_st D gd 19 rfl (c.gloG 27 519 rfl rfl)) ok_nil rfl) rfl) rfl (D_glo D 0 rfl).2.2 (D_glo D 0 rfl).2.1) (ok_cons (ok_blt gd (isiE_ok gd (isxT_ok (c.at_ 1 rfl) c.G) (isa_ok c)) (D_glo D 0 rfl).1 (c.fre 5 rfl) (by decide +kernel) (ok_cons (D_var D 0 rfl rfl) (ok_cons (D_st D gd 20 rfl (c.gloG 26 520 rfl rfl)) ok_nil rfl) rfl) rfl (D_glo D 0 rfl).2.2 (D_glo D 0 rfl).2.1) (ok_cons (ok_blt gd (isiE_ok gd (isxT_ok (c.at_ 1 rfl) c.G) (isa_ok c)) (D_glo D 0 rfl).1 (c.fre 5 rfl) (by decide +kernel) (ok_cons (D_var D 0 rfl rfl) (ok_cons (D_st D gd 21 rfl (c.gloG 25 521 rfl rfl)) ok_nil rfl) rfl) rfl (D_glo D 0 rfl).2.2 (D_glo D 0 rfl).2.1) ok_nil rfl) rfl) rfl)) (bin_ok .Add true gd.K)) (D_tgt gd D 1 rfl rfl) rfl rfl rfl)
    (ok_seqS (ok_asg (ok_bin (D_var D 1 rfl rfl) (ok_lst (ok_cons (ok_blt gd (isiE_ok gd (isxT_ok (c.at_ 1 rfl) c.G) (isa_ok c)) (D_glo D 0 rfl).1 (c.fre 5 rfl) (by decide +kernel) (ok_cons (D_var D 0 rfl rfl) (ok_cons (D_st D gd 22 rfl (c.gloG 24 522 rfl rfl)) ok_nil rfl) rfl) rfl (D_glo D 0 rfl).2.2 (D_glo D 0 rfl).2.1) (ok_cons (ok_blt gd (isiE_ok gd (isxT_ok (c.at_ 1 rfl) c.G) (isa_ok c)) (D_glo D 0 rfl).1 (c.fre 5 rfl) (by decide +kernel) (ok_cons (D_var D 0 rfl rfl) (ok_cons (D_st D gd 23 rfl (c.gloG 23 523 rfl rfl)) ok_nil rfl) rfl) rfl (D_glo D 0 rfl).2.2 (D_glo D 0 rfl).2.1) (ok_cons (ok_blt gd (isiE_ok gd (isxT_ok (c.at_ 1 rfl) c.G) (isa_ok c)) (D_glo D 0 rfl).1 (c.fre 5 rfl) (by decide +kernel) (ok_cons (D_var D 0 rfl rfl) (ok_cons (D_st D gd 24 rfl (c.gloG 22 524 rfl rfl)) ok_nil rfl) rfl) rfl (D_glo D 0 rfl).2.2 (D_glo D 0 rfl).2.1) ok_nil rfl) rfl) rfl)) (bin_ok .Add true gd.K)) (D_tgt gd D 1 rfl rfl) rfl rfl rfl)
    (ok_seqS (ok_asg (ok_bin (D_var D 1 rfl rfl) (ok_lst (ok_cons (ok_blt gd (isiE_ok gd (isxT_ok (c.at_ 1 rfl) c.G) (isa_ok c)) (D_glo D 0 rfl).1 (c.fre 5 rfl) (by decide +kernel) (ok_cons (D_var D 0 rfl rfl) (ok_cons (D_st D gd 25 rfl (c.gloG 21 525 rfl rfl)) ok_nil rfl) rfl) rfl (D_glo D 0 rfl).2.2 (D_glo D 0 rfl).2.1) (ok_cons (ok_blt gd (isiE_ok gd (isxT_ok (c.at_ 1 rfl) c.G) (isa_ok c)) (D_glo D 0 rfl).1 (c.fre 5 rfl) (by decide +kernel) (ok_cons (D_var D 0 rfl rfl) (ok_cons (D_st D gd 26 rfl (c.gloG 20 526 rfl rfl)) ok_nil rfl) rfl) rfl (D_glo D 0 rfl).2.2 (D_glo D 0 rfl).2.1) (ok_cons (ok_blt gd (isiE_ok gd (isxT_ok (c.at_ 1 rfl) c.G) (isa_ok c)) (D_glo D 0 rfl).1 (c.fre 5 rfl) (by decide +kernel) (ok_cons (D_var D 0 rfl rfl) (ok_cons (D_st D gd 27 rfl (c.gloG 19 527 rfl rfl)) ok_nil rfl) rfl) rfl (D_glo D 0 rfl).2.2 (D_glo D 0 rfl).2.1) ok_nil rfl) rfl) rfl)) (bin_ok .Add true gd.K)) (D_tgt gd D 1 rfl rfl) rfl rfl rfl)
    (ok_seqS (ok_asg (ok_bin (D_var D 1 rfl rfl) (ok_lst (ok_cons (ok_blt gd (isiE_ok gd (isxT_ok (c.at_ 1 rfl) c.G) (isa_ok c)) (D_glo D 0 rfl).1 (c.fre 5 rfl) (by decide +kernel) (ok_cons (D_var D 0 rfl rfl) (ok_cons (D_st D gd 28 rfl (c.gloG 18 528 rfl rfl)) ok_nil rfl) rfl) rfl (D_glo D 0 rfl).2.2 (D_glo D 0 rfl).2.1) (ok_cons (ok_blt gd (isiE_ok gd (isxT_ok (c.at_ 1 rfl) c.G) (isa_ok c)) (D_glo D 0 rfl).1 (c.fre 5 rfl) (by decide +kernel) (ok_cons (D_var D 0 rfl rfl) (ok_cons (D_st D gd 29 rfl (c.gloG 17 529 rfl rfl)) ok_nil rfl) rfl) rfl (D_glo D 0 rfl).2.2 (D_glo D 0 rfl).2.1) (ok_cons (ok_blt gd (isiE_ok gd (isxT_ok (c.at_ 1 rfl) c.G) (isa_ok c)) (D_glo D 0 rfl).1 (c.fre 5 rfl) (by decide +kernel) (ok_cons (D_var D 0 rfl rfl) (ok_cons (D_st D gd 30 rfl (c.gloG 16 530 rfl rfl)) ok_nil rfl) rfl) rfl (D_glo D 0 rfl).2.2 (D_glo D 0 rfl).2.1) ok_nil rfl) rfl) rfl)) (bin_ok .Add true gd.K)) (D_tgt gd D 1 rfl rfl) rfl rfl rfl)
    (ok_seqS (ok_asg (ok_bin (D_var D 1 rfl rfl) (ok_lst (ok_cons (ok_blt gd (isiE_ok gd (isxT_ok (c.at_ 1 rfl) c.G) (isa_ok c)) (D_glo D 0 rfl).1 (c.fre 5 rfl) (by decide +kernel) (ok_cons (D_var D 0 rfl rfl) (ok_cons (D_st D gd 31 rfl (c.gloG 15 531 rfl rfl)) ok_nil rfl) rfl) rfl (D_glo D 0 rfl).2.2 (D_glo D 0 rfl).2.1) (ok_cons (ok_blt gd (isiE_ok gd (isxT_ok (c.at_ 1 rfl) c.G) (isa_ok c)) (D_glo D 0 rfl).1 (c.fre 5 rfl) (by decide +kernel) (ok_cons (D_var D 0 rfl rfl) (ok_cons (D_st D gd 32 rfl (c.gloG 14 532 rfl rfl)) ok_nil rfl) rfl) rfl (D_glo D 0 rfl).2.2 (D_glo D 0 rfl).2.1) (ok_cons (ok_blt gd (isiE_ok gd (isxT_ok (c.at_ 1 rfl) c.G) (isa_ok c)) (D_glo D 0 rfl).1 (c.fre 5 rfl) (by decide +kernel) (ok_cons (D_var D 0 rfl rfl) (ok_cons (D_st D gd 33 rfl (c.gloG 13 533 rfl rfl)) ok_nil rfl) rfl) rfl (D_glo D 0 rfl).2.2 (D_glo D 0 rfl).2.1) ok_nil rfl) rfl) rfl)) (bin_ok .Add true gd.K)) (D_tgt gd D 1 rfl rfl) rfl rfl rfl)
    (ok_seqS (ok_asg (ok_bin (D_var D 1 rfl rfl) (ok_lst (ok_cons (ok_blt gd (isiE_ok gd (isxT_ok (c.at_ 1 rfl) c.G) (isa_ok c)) (D_glo D 0 rfl).1 (c.fre 5 rfl) (by decide +kernel) (ok_cons (D_var D 0 rfl rfl) (ok_cons (D_st D gd 34 rfl (c.gloG 12 535 rfl rfl)) ok_nil rfl) rfl) rfl (D_glo D 0 rfl).2.2 (D_glo D 0 rfl).2.1) (ok_cons (ok_blt gd (isiE_ok gd (isxT_ok (c.at_ 1 rfl) c.G) (isa_ok c)) (D_glo D 0 rfl).1 (c.fre 5 rfl) (by decide +kernel) (ok_cons (D_var D 0 rfl rfl) (ok_cons (D_st D gd 35 rfl (c.gloG 11 536 rfl rfl)) ok_nil rfl) rfl) rfl (D_glo D 0 rfl).2.2 (D_glo D 0 rfl).2.1) (ok_cons (ok_blt gd (isiE_ok gd (isxT_ok (c.at_ 1 rfl) c.G) (isa_ok c)) (D_glo D 0 rfl).1 (c.fre 5 rfl) (by decide +kernel) (ok_cons (D_var D 0 rfl rfl) (ok_cons (D_st D gd 36 rfl (c.gloG 10 537 rfl rfl)) ok_nil rfl) rfl) rfl (D_glo D 0 rfl).2.2 (D_glo D 0 rfl).2.1) ok_nil rfl) rfl) rfl)) (bin_ok .Add true gd.K)) (D_tgt gd D 1 rfl rfl) rfl rfl rfl)
    (ok_seqS (ok_asg (ok_bin (D_var D 1 rfl rfl) (ok_lst (ok_cons (ok_blt gd (isiE_ok gd (isxT_ok (c.at_ 1 rfl) c.G) (isa_ok c)) (D_glo D 0 rfl).1 (c.fre 5 rfl) (by decide +kernel) (ok_cons (D_var D 0 rfl rfl) (ok_cons (D_st D gd 37 rfl (c.gloG 9 538 rfl rfl)) ok_nil rfl) rfl) rfl (D_glo D 0 rfl).2.2 (D_glo D 0 rfl).2.1) (ok_cons (ok_blt gd (isiE_ok gd (isxT_ok (c.at_ 1 rfl) c.G) (isa_ok c)) (D_glo D 0 rfl).1 (c.fre 5 rfl) (by decide +kernel) (ok_cons (D_var D 0 rfl rfl) (ok_cons (D_st D gd 38 rfl (c.gloG 8 539 rfl rfl)) ok_nil rfl) rfl) rfl (D_glo D 0 rfl).2.2 (D_glo D 0 rfl).2.1) (ok_cons (ok_blt gd (isiE_ok gd (isxT_ok (c.at_ 1 rfl) c.G) (isa_ok c)) (D_glo D 0 rfl).1 (c.fre 5 rfl) (by decide +kernel) (ok_cons (D_var D 0 rfl rfl) (ok_cons (D_st D gd 39 rfl (c.gloG 7 540 rfl rfl)) ok_nil rfl) rfl) rfl (D_glo D 0 rfl).2.2 (D_glo D 0 rfl).2.1) ok_nil rfl) rfl) rfl)) (bin_ok .Add true gd.K)) (D_tgt gd D 1 rfl rfl) rfl rfl rfl)
    (ok_seqS (ok_asg (ok_bin (D_var D 1 rfl rfl) (ok_lst (ok_cons (ok_blt gd (isiE_ok gd (isxT_ok (c.at_ 1 rfl) c.G) (isa_ok c)) (D_glo D 0 rfl).1 (c.fre 5 rfl) (by decide +kernel) (ok_cons (D_var D 0 rfl rfl) (ok_cons (D_st D gd 40 rfl (c.gloG 6 541 rfl rfl)) ok_nil rfl) rfl) rfl (D_glo D 0 rfl).2.2 (D_glo D 0 rfl).2.1) (ok_cons (ok_blt gd (isiE_ok gd (isxT_ok (c.at_ 1 rfl) c.G) (isa_ok c)) (D_glo D 0 rfl).1 (c.fre 5 rfl) (by decide +kernel) (ok_cons (D_var D 0 rfl rfl) (ok_cons (D_st D gd 41 rfl (c.gloG 4 542 rfl rfl)) ok_nil rfl) rfl) rfl (D_glo D 0 rfl).2.2 (D_glo D 0 rfl).2.1) ok_nil rfl) rfl)) (bin_ok .Add true gd.K)) (D_tgt gd D 1 rfl rfl) rfl rfl rfl)
    (ok_seqS (ok_retS (D_var D 1 rfl rfl))
    ok_nilS))))))))))))))))
theorem d2 (c : C Z) : DefOk Z tbl mems arrs 2 ⟨["_law_e"], 2, e2⟩ := defOk_of (d := md2) (N := ["_law_e", "_law_found"]) (vs := [0, 1]) (ls := [0, 1]) (gs := ((["isinstance", "BadDress", "BadMark", "BadNumber", "Unlike", "BadArity", "BadWants", "BadOperation", "BadOperands", "BadTable", "BadBlocks", "BadStarts", "BadRow", "BadProgram", "BadRoad", "BadRun", "BadText", "BadDraft", "BadKind", "NotSimple"] : List Str) ++ (["NoEnd", "BadPuts", "BadFrequencies", "BadFlow", "BadFunctions", "BadFunction", "BadGroup", "BadPromises", "BadPromise", "BadBook", "BadBooks", "BadTurns", "BadChange", "BadChosen", "NoOperation", "NoBlock", "NoPlace", "NoVariable", "NoEntry", "NoFunction"] : List Str) ++ (["TooLarge", "TooMany"] : List Str))) (c.def_ 2 rfl) (by rw [c.G]; rfl) ⟨rfl, rfl, rfl, by decide +kernel, rfl, by decide +kernel, by decide +kernel⟩ rfl (by decide +kernel) fun n X W TO gd D hp bx => b2 c TO (fun g h => has_ok h) (fun g n ks {a} h => arr_ok h) gd D hp bx
theorem b3 (c : C Z) {lv : Nat} {T : Tab} (TO : TabOk Z lv T (fdOf Z) (psOf tbl)) (TH : ∀ g, decide (g < 7) = true → T.has g = true) (TA : ∀ g n ks {a : Arr}, arrOf arrs g n ks = some a → T.arr g n ks = some a) {X : Cx} {W : WX} (gd : Good Z lv X W) (D : DefX X ["_law_value", "_law_found"] (defScope st3) [0, 1] [0, 1] ((["BadDress", "BadMark", "BadNumber", "Unlike", "BadArity", "BadWants", "BadOperation", "BadOperands", "BadTable", "BadBlocks", "BadStarts", "BadRow", "BadProgram", "BadRoad", "BadRun", "BadText", "BadDraft", "BadKind", "NotSimple", "NoEnd"] : List Str) ++ (["BadPuts", "BadFrequencies", "BadFlow", "BadFunctions", "BadFunction", "BadGroup", "BadPromises", "BadPromise", "BadBook", "BadBooks", "BadTurns", "BadChange", "BadChosen"] : List Str))) (hp : Hx X) (bx : Bx lv X (fdOf Z 3) "_law_first_values") : PSs X (defBody st3) (tS Z W (e3 T)) :=
    (ok_seqS (ok_asg (ok_lst ok_nil) (D_tgt gd D 1 rfl rfl) rfl rfl rfl)
    (ok_seqS (ok_asg (ok_bin (D_var D 1 rfl rfl) (ok_lst (ok_cons (ok_exo gd (mke_BadDress c).1 (exoV_ok gd (mke_BadDress c)) (D_glo D 0 rfl).1 (c.gloG 45 501 rfl rfl) (ok_cons (D_var D 0 rfl rfl) ok_nil rfl) rfl (D_glo D 0 rfl).2.1) (ok_cons (ok_exo gd (mke_BadMark c).1 (exoV_ok gd (mke_BadMark c)) (D_glo D 1 rfl).1 (c.gloG 44 502 rfl rfl) (ok_cons (D_var D 0 rfl rfl) ok_nil rfl) rfl (D_glo D 1 rfl).2.1) (ok_cons (ok_exo gd (mke_BadNumber c).1 (exoV_ok gd (mke_BadNumber c)) (D_glo D 2 rfl).1 (c.gloG 43 503 rfl rfl) (ok_cons (D_var D 0 rfl rfl) ok_nil rfl) rfl (D_glo D 2 rfl).2.1) (ok_cons (ok_exo gd (mke_Unlike c).1 (exoV_ok gd (mke_Unlike c)) (D_glo D 3 rfl).1 (c.gloG 42 504 rfl rfl) (ok_cons (D_var D 0 rfl rfl) ok_nil rfl) rfl (D_glo D 3 rfl).2.1) (ok_cons (ok_exo gd (mke_BadArity c).1 (exoV_ok gd (mke_BadArity c)) (D_glo D 4 rfl).1 (c.gloG 41 505 rfl rfl) (ok_cons (D_var D 0 rfl rfl) ok_nil rfl) rfl (D_glo D 4 rfl).2.1) ok_nil rfl) rfl) rfl) rfl) rfl)) (bin_ok .Add true gd.K)) (D_tgt gd D 1 rfl rfl) rfl rfl rfl)
    (ok_seqS (ok_asg (ok_bin (D_var D 1 rfl rfl) (ok_lst (ok_cons (ok_exo gd (mke_BadWants c).1 (exoV_ok gd (mke_BadWants c)) (D_glo D 5 rfl).1 (c.gloG 40 506 rfl rfl) (ok_cons (D_var D 0 rfl rfl) ok_nil rfl) rfl (D_glo D 5 rfl).2.1) (ok_cons (ok_exo gd (mke_BadOperation c).1 (exoV_ok gd (mke_BadOperation c)) (D_glo D 6 rfl).1 (c.gloG 39 507 rfl rfl) (ok_cons (D_var D 0 rfl rfl) ok_nil rfl) rfl (D_glo D 6 rfl).2.1) (ok_cons (ok_exo gd (mke_BadOperands c).1 (exoV_ok gd (mke_BadOperands c)) (D_glo D 7 rfl).1 (c.gloG 38 508 rfl rfl) (ok_cons (D_var D 0 rfl rfl) ok_nil rfl) rfl (D_glo D 7 rfl).2.1) (ok_cons (ok_exo gd (mke_BadTable c).1 (exoV_ok gd (mke_BadTable c)) (D_glo D 8 rfl).1 (c.gloG 37 509 rfl rfl) (ok_cons (D_var D 0 rfl rfl) ok_nil rfl) rfl (D_glo D 8 rfl).2.1) (ok_cons (ok_exo gd (mke_BadBlocks c).1 (exoV_ok gd (mke_BadBlocks c)) (D_glo D 9 rfl).1 (c.gloG 36 510 rfl rfl) (ok_cons (D_var D 0 rfl rfl) ok_nil rfl) rfl (D_glo D 9 rfl).2.1) ok_nil rfl) rfl) rfl) rfl) rfl)) (bin_ok .Add true gd.K)) (D_tgt gd D 1 rfl rfl) rfl rfl rfl)
    (ok_seqS (ok_asg (ok_bin (D_var D 1 rfl rfl) (ok_lst (ok_cons (ok_exo gd (mke_BadStarts c).1 (exoV_ok gd (mke_BadStarts c)) (D_glo D 10 rfl).1 (c.gloG 35 511 rfl rfl) (ok_cons (D_var D 0 rfl rfl) ok_nil rfl) rfl (D_glo D 10 rfl).2.1) (ok_cons (ok_exo gd (mke_BadRow c).1 (exoV_ok gd (mke_BadRow c)) (D_glo D 11 rfl).1 (c.gloG 34 512 rfl rfl) (ok_cons (D_var D 0 rfl rfl) ok_nil rfl) rfl (D_glo D 11 rfl).2.1) (ok_cons (ok_exo gd (mke_BadProgram c).1 (exoV_ok gd (mke_BadProgram c)) (D_glo D 12 rfl).1 (c.gloG 33 513 rfl rfl) (ok_cons (D_var D 0 rfl rfl) ok_nil rfl) rfl (D_glo D 12 rfl).2.1) (ok_cons (ok_exo gd (mke_BadRoad c).1 (exoV_ok gd (mke_BadRoad c)) (D_glo D 13 rfl).1 (c.gloG 32 514 rfl rfl) (ok_cons (D_var D 0 rfl rfl) ok_nil rfl) rfl (D_glo D 13 rfl).2.1) (ok_cons (ok_exo gd (mke_BadRun c).1 (exoV_ok gd (mke_BadRun c)) (D_glo D 14 rfl).1 (c.gloG 31 515 rfl rfl) (ok_cons (D_var D 0 rfl rfl) ok_nil rfl) rfl (D_glo D 14 rfl).2.1) ok_nil rfl) rfl) rfl) rfl) rfl)) (bin_ok .Add true gd.K)) (D_tgt gd D 1 rfl rfl) rfl rfl rfl)
    (ok_seqS (ok_asg (ok_bin (D_var D 1 rfl rfl) (ok_lst (ok_cons (ok_exo gd (mke_BadText c).1 (exoV_ok gd (mke_BadText c)) (D_glo D 15 rfl).1 (c.gloG 30 516 rfl rfl) (ok_cons (D_var D 0 rfl rfl) ok_nil rfl) rfl (D_glo D 15 rfl).2.1) (ok_cons (ok_exo gd (mke_BadDraft c).1 (exoV_ok gd (mke_BadDraft c)) (D_glo D 16 rfl).1 (c.gloG 29 517 rfl rfl) (ok_cons (D_var D 0 rfl rfl) ok_nil rfl) rfl (D_glo D 16 rfl).2.1) (ok_cons (ok_exo gd (mke_BadKind c).1 (exoV_ok gd (mke_BadKind c)) (D_glo D 17 rfl).1 (c.gloG 28 518 rfl rfl) (ok_cons (D_var D 0 rfl rfl) ok_nil rfl) rfl (D_glo D 17 rfl).2.1) (ok_cons (ok_exo gd (mke_NotSimple c).1 (exoV_ok gd (mke_NotSimple c)) (D_glo D 18 rfl).1 (c.gloG 27 519 rfl rfl) (ok_cons (D_var D 0 rfl rfl) ok_nil rfl) rfl (D_glo D 18 rfl).2.1) (ok_cons (ok_exo gd (mke_NoEnd c).1 (exoV_ok gd (mke_NoEnd c)) (D_glo D 19 rfl).1 (c.gloG 26 520 rfl rfl) (ok_cons (D_var D 0 rfl rfl) ok_nil rfl) rfl (D_glo D 19 rfl).2.1) ok_nil rfl) rfl) rfl) rfl) rfl)) (bin_ok .Add true gd.K)) (D_tgt gd D 1 rfl rfl) rfl rfl rfl)
    (ok_seqS (ok_asg (ok_bin (D_var D 1 rfl rfl) (ok_lst (ok_cons (ok_exo gd (mke_BadPuts c).1 (exoV_ok gd (mke_BadPuts c)) (D_glo D 20 rfl).1 (c.gloG 25 521 rfl rfl) (ok_cons (D_var D 0 rfl rfl) ok_nil rfl) rfl (D_glo D 20 rfl).2.1) (ok_cons (ok_exo gd (mke_BadFrequencies c).1 (exoV_ok gd (mke_BadFrequencies c)) (D_glo D 21 rfl).1 (c.gloG 24 522 rfl rfl) (ok_cons (D_var D 0 rfl rfl) ok_nil rfl) rfl (D_glo D 21 rfl).2.1) (ok_cons (ok_exo gd (mke_BadFlow c).1 (exoV_ok gd (mke_BadFlow c)) (D_glo D 22 rfl).1 (c.gloG 23 523 rfl rfl) (ok_cons (D_var D 0 rfl rfl) ok_nil rfl) rfl (D_glo D 22 rfl).2.1) (ok_cons (ok_exo gd (mke_BadFunctions c).1 (exoV_ok gd (mke_BadFunctions c)) (D_glo D 23 rfl).1 (c.gloG 22 524 rfl rfl) (ok_cons (D_var D 0 rfl rfl) ok_nil rfl) rfl (D_glo D 23 rfl).2.1) (ok_cons (ok_exo gd (mke_BadFunction c).1 (exoV_ok gd (mke_BadFunction c)) (D_glo D 24 rfl).1 (c.gloG 21 525 rfl rfl) (ok_cons (D_var D 0 rfl rfl) ok_nil rfl) rfl (D_glo D 24 rfl).2.1) ok_nil rfl) rfl) rfl) rfl) rfl)) (bin_ok .Add true gd.K)) (D_tgt gd D 1 rfl rfl) rfl rfl rfl)
    (ok_seqS (ok_asg (ok_bin (D_var D 1 rfl rfl) (ok_lst (ok_cons (ok_exo gd (mke_BadGroup c).1 (exoV_ok gd (mke_BadGroup c)) (D_glo D 25 rfl).1 (c.gloG 20 526 rfl rfl) (ok_cons (D_var D 0 rfl rfl) ok_nil rfl) rfl (D_glo D 25 rfl).2.1) (ok_cons (ok_exo gd (mke_BadPromises c).1 (exoV_ok gd (mke_BadPromises c)) (D_glo D 26 rfl).1 (c.gloG 19 527 rfl rfl) (ok_cons (D_var D 0 rfl rfl) ok_nil rfl) rfl (D_glo D 26 rfl).2.1) (ok_cons (ok_exo gd (mke_BadPromise c).1 (exoV_ok gd (mke_BadPromise c)) (D_glo D 27 rfl).1 (c.gloG 18 528 rfl rfl) (ok_cons (D_var D 0 rfl rfl) ok_nil rfl) rfl (D_glo D 27 rfl).2.1) (ok_cons (ok_exo gd (mke_BadBook c).1 (exoV_ok gd (mke_BadBook c)) (D_glo D 28 rfl).1 (c.gloG 17 529 rfl rfl) (ok_cons (D_var D 0 rfl rfl) ok_nil rfl) rfl (D_glo D 28 rfl).2.1) (ok_cons (ok_exo gd (mke_BadBooks c).1 (exoV_ok gd (mke_BadBooks c)) (D_glo D 29 rfl).1 (c.gloG 16 530 rfl rfl) (ok_cons (D_var D 0 rfl rfl) ok_nil rfl) rfl (D_glo D 29 rfl).2.1) ok_nil rfl) rfl) rfl) rfl) rfl)) (bin_ok .Add true gd.K)) (D_tgt gd D 1 rfl rfl) rfl rfl rfl)
    (ok_seqS (ok_asg (ok_bin (D_var D 1 rfl rfl) (ok_lst (ok_cons (ok_exo gd (mke_BadTurns c).1 (exoV_ok gd (mke_BadTurns c)) (D_glo D 30 rfl).1 (c.gloG 15 531 rfl rfl) (ok_cons (D_var D 0 rfl rfl) ok_nil rfl) rfl (D_glo D 30 rfl).2.1) (ok_cons (ok_exo gd (mke_BadChange c).1 (exoV_ok gd (mke_BadChange c)) (D_glo D 31 rfl).1 (c.gloG 14 532 rfl rfl) (ok_cons (D_var D 0 rfl rfl) ok_nil rfl) rfl (D_glo D 31 rfl).2.1) (ok_cons (ok_exo gd (mke_BadChosen c).1 (exoV_ok gd (mke_BadChosen c)) (D_glo D 32 rfl).1 (c.gloG 13 533 rfl rfl) (ok_cons (D_var D 0 rfl rfl) ok_nil rfl) rfl (D_glo D 32 rfl).2.1) ok_nil rfl) rfl) rfl)) (bin_ok .Add true gd.K)) (D_tgt gd D 1 rfl rfl) rfl rfl rfl)
    (ok_seqS (ok_retS (D_var D 1 rfl rfl))
    ok_nilS)))))))))
theorem d3 (c : C Z) : DefOk Z tbl mems arrs 3 ⟨["_law_value"], 2, e3⟩ := defOk_of (d := md3) (N := ["_law_value", "_law_found"]) (vs := [0, 1]) (ls := [0, 1]) (gs := ((["BadDress", "BadMark", "BadNumber", "Unlike", "BadArity", "BadWants", "BadOperation", "BadOperands", "BadTable", "BadBlocks", "BadStarts", "BadRow", "BadProgram", "BadRoad", "BadRun", "BadText", "BadDraft", "BadKind", "NotSimple", "NoEnd"] : List Str) ++ (["BadPuts", "BadFrequencies", "BadFlow", "BadFunctions", "BadFunction", "BadGroup", "BadPromises", "BadPromise", "BadBook", "BadBooks", "BadTurns", "BadChange", "BadChosen"] : List Str))) (c.def_ 3 rfl) (by rw [c.G]; rfl) ⟨rfl, rfl, rfl, by decide +kernel, rfl, by decide +kernel, by decide +kernel⟩ rfl (by decide +kernel) fun n X W TO gd D hp bx => b3 c TO (fun g h => has_ok h) (fun g n ks {a} h => arr_ok h) gd D hp bx
theorem b4 (c : C Z) {lv : Nat} {T : Tab} (TO : TabOk Z lv T (fdOf Z) (psOf tbl)) (TH : ∀ g, decide (g < 7) = true → T.has g = true) (TA : ∀ g n ks {a : Arr}, arrOf arrs g n ks = some a → T.arr g n ks = some a) {X : Cx} {W : WX} (gd : Good Z lv X W) (D : DefX X ["_law_value", "_law_found"] (defScope st4) [0, 1] [0, 1] ["_law_first_values", "NoOperation", "NoBlock", "NoPlace", "NoVariable", "NoEntry", "NoFunction", "TooLarge", "TooMany"]) (hp : Hx X) (bx : Bx lv X (fdOf Z 4) "_law_values") : PSs X (defBody st4) (tS Z W (e4 T)) :=
    (ok_seqS (ok_asg (ok_callG (ks := []) gd (TO.fn 3 (TH 3 rfl)) (TO.arr 3 1 [] _ (TA 3 1 [] rfl)) (D_glo D 0 rfl).1 (c.gloG 46 3 rfl rfl) (.cons (ok_cons (D_var D 0 rfl rfl) ok_nil rfl) rfl) .nil (D_glo D 0 rfl).2.1) (D_tgt gd D 1 rfl rfl) rfl rfl rfl)
    (ok_seqS (ok_asg (ok_bin (D_var D 1 rfl rfl) (ok_lst (ok_cons (ok_exo gd (mke_NoOperation c).1 (exoV_ok gd (mke_NoOperation c)) (D_glo D 1 rfl).1 (c.gloG 12 535 rfl rfl) (ok_cons (D_var D 0 rfl rfl) ok_nil rfl) rfl (D_glo D 1 rfl).2.1) (ok_cons (ok_exo gd (mke_NoBlock c).1 (exoV_ok gd (mke_NoBlock c)) (D_glo D 2 rfl).1 (c.gloG 11 536 rfl rfl) (ok_cons (D_var D 0 rfl rfl) ok_nil rfl) rfl (D_glo D 2 rfl).2.1) (ok_cons (ok_exo gd (mke_NoPlace c).1 (exoV_ok gd (mke_NoPlace c)) (D_glo D 3 rfl).1 (c.gloG 10 537 rfl rfl) (ok_cons (D_var D 0 rfl rfl) ok_nil rfl) rfl (D_glo D 3 rfl).2.1) (ok_cons (ok_exo gd (mke_NoVariable c).1 (exoV_ok gd (mke_NoVariable c)) (D_glo D 4 rfl).1 (c.gloG 9 538 rfl rfl) (ok_cons (D_var D 0 rfl rfl) ok_nil rfl) rfl (D_glo D 4 rfl).2.1) (ok_cons (ok_exo gd (mke_NoEntry c).1 (exoV_ok gd (mke_NoEntry c)) (D_glo D 5 rfl).1 (c.gloG 8 539 rfl rfl) (ok_cons (D_var D 0 rfl rfl) ok_nil rfl) rfl (D_glo D 5 rfl).2.1) ok_nil rfl) rfl) rfl) rfl) rfl)) (bin_ok .Add true gd.K)) (D_tgt gd D 1 rfl rfl) rfl rfl rfl)
    (ok_seqS (ok_asg (ok_bin (D_var D 1 rfl rfl) (ok_lst (ok_cons (ok_exo gd (mke_NoFunction c).1 (exoV_ok gd (mke_NoFunction c)) (D_glo D 6 rfl).1 (c.gloG 7 540 rfl rfl) (ok_cons (D_var D 0 rfl rfl) ok_nil rfl) rfl (D_glo D 6 rfl).2.1) (ok_cons (ok_exo gd (mke_TooLarge c).1 (exoV_ok gd (mke_TooLarge c)) (D_glo D 7 rfl).1 (c.gloG 6 541 rfl rfl) (ok_cons (D_var D 0 rfl rfl) ok_nil rfl) rfl (D_glo D 7 rfl).2.1) (ok_cons (ok_exo gd (mke_TooMany c).1 (exoV_ok gd (mke_TooMany c)) (D_glo D 8 rfl).1 (c.gloG 4 542 rfl rfl) (ok_cons (D_var D 0 rfl rfl) ok_nil rfl) rfl (D_glo D 8 rfl).2.1) ok_nil rfl) rfl) rfl)) (bin_ok .Add true gd.K)) (D_tgt gd D 1 rfl rfl) rfl rfl rfl)
    (ok_seqS (ok_retS (D_var D 1 rfl rfl))
    ok_nilS))))
theorem d4 (c : C Z) : DefOk Z tbl mems arrs 4 ⟨["_law_value"], 2, e4⟩ := defOk_of (d := md4) (N := ["_law_value", "_law_found"]) (vs := [0, 1]) (ls := [0, 1]) (gs := ["_law_first_values", "NoOperation", "NoBlock", "NoPlace", "NoVariable", "NoEntry", "NoFunction", "TooLarge", "TooMany"]) (c.def_ 4 rfl) (by rw [c.G]; rfl) ⟨rfl, rfl, rfl, by decide +kernel, rfl, by decide +kernel, by decide +kernel⟩ rfl (by decide +kernel) fun n X W TO gd D hp bx => b4 c TO (fun g h => has_ok h) (fun g n ks {a} h => arr_ok h) gd D hp bx
theorem b5 (c : C Z) {lv : Nat} {T : Tab} (TO : TabOk Z lv T (fdOf Z) (psOf tbl)) (TH : ∀ g, decide (g < 7) = true → T.has g = true) (TA : ∀ g n ks {a : Arr}, arrOf arrs g n ks = some a → T.arr g n ks = some a) {X : Cx} {W : WX} (gd : Good Z lv X W) (D : DefX X ["_law_e", "_law_found"] (defScope st5) [0, 1] [0, 1] ["isinstance", "SignsError", "ValueError", "KeyError", "OverflowError", "RuntimeError", "Absent"]) (hp : Hx X) (bx : Bx lv X (fdOf Z 5) "_law_roots") : PSs X (defBody st5) (tS Z W (e5 T)) :=
    (ok_seqS (ok_asg (ok_lst (ok_cons (ok_blt gd (isiE_ok gd (isxT_ok (c.at_ 1 rfl) c.G) (isa_ok c)) (D_glo D 0 rfl).1 (c.fre 5 rfl) (by decide +kernel) (ok_cons (D_var D 0 rfl rfl) (ok_cons (D_st D gd 1 rfl (c.gloG 52 500 rfl rfl)) ok_nil rfl) rfl) rfl (D_glo D 0 rfl).2.2 (D_glo D 0 rfl).2.1) (ok_cons (ok_blt gd (isiE_ok gd (isxT_ok (c.at_ 1 rfl) c.G) (isa_ok c)) (D_glo D 0 rfl).1 (c.fre 5 rfl) (by decide +kernel) (ok_cons (D_var D 0 rfl rfl) (ok_cons (D_ty D gd 2 rfl (c.fre 51 rfl) (by decide +kernel)) ok_nil rfl) rfl) rfl (D_glo D 0 rfl).2.2 (D_glo D 0 rfl).2.1) (ok_cons (ok_blt gd (isiE_ok gd (isxT_ok (c.at_ 1 rfl) c.G) (isa_ok c)) (D_glo D 0 rfl).1 (c.fre 5 rfl) (by decide +kernel) (ok_cons (D_var D 0 rfl rfl) (ok_cons (D_ty D gd 3 rfl (c.fre 50 rfl) (by decide +kernel)) ok_nil rfl) rfl) rfl (D_glo D 0 rfl).2.2 (D_glo D 0 rfl).2.1) ok_nil rfl) rfl) rfl)) (D_tgt gd D 1 rfl rfl) rfl rfl rfl)
    (ok_seqS (ok_retS (ok_bin (D_var D 1 rfl rfl) (ok_lst (ok_cons (ok_blt gd (isiE_ok gd (isxT_ok (c.at_ 1 rfl) c.G) (isa_ok c)) (D_glo D 0 rfl).1 (c.fre 5 rfl) (by decide +kernel) (ok_cons (D_var D 0 rfl rfl) (ok_cons (D_ty D gd 4 rfl (c.fre 49 rfl) (by decide +kernel)) ok_nil rfl) rfl) rfl (D_glo D 0 rfl).2.2 (D_glo D 0 rfl).2.1) (ok_cons (ok_blt gd (isiE_ok gd (isxT_ok (c.at_ 1 rfl) c.G) (isa_ok c)) (D_glo D 0 rfl).1 (c.fre 5 rfl) (by decide +kernel) (ok_cons (D_var D 0 rfl rfl) (ok_cons (D_ty D gd 5 rfl (c.fre 48 rfl) (by decide +kernel)) ok_nil rfl) rfl) rfl (D_glo D 0 rfl).2.2 (D_glo D 0 rfl).2.1) (ok_cons (ok_blt gd (isiE_ok gd (isxT_ok (c.at_ 1 rfl) c.G) (isa_ok c)) (D_glo D 0 rfl).1 (c.fre 5 rfl) (by decide +kernel) (ok_cons (D_var D 0 rfl rfl) (ok_cons (D_st D gd 6 rfl (c.gloG 47 534 rfl rfl)) ok_nil rfl) rfl) rfl (D_glo D 0 rfl).2.2 (D_glo D 0 rfl).2.1) ok_nil rfl) rfl) rfl)) (bin_ok .Add true gd.K)))
    ok_nilS))
theorem d5 (c : C Z) : DefOk Z tbl mems arrs 5 ⟨["_law_e"], 2, e5⟩ := defOk_of (d := md5) (N := ["_law_e", "_law_found"]) (vs := [0, 1]) (ls := [0, 1]) (gs := ["isinstance", "SignsError", "ValueError", "KeyError", "OverflowError", "RuntimeError", "Absent"]) (c.def_ 5 rfl) (by rw [c.G]; rfl) ⟨rfl, rfl, rfl, by decide +kernel, rfl, by decide +kernel, by decide +kernel⟩ rfl (by decide +kernel) fun n X W TO gd D hp bx => b5 c TO (fun g h => has_ok h) (fun g n ks {a} h => arr_ok h) gd D hp bx
theorem b6 (c : C Z) {lv : Nat} {T : Tab} (TO : TabOk Z lv T (fdOf Z) (psOf tbl)) (TH : ∀ g, decide (g < 7) = true → T.has g = true) (TA : ∀ g n ks {a : Arr}, arrOf arrs g n ks = some a → T.arr g n ks = some a) {X : Cx} {W : WX} (gd : Good Z lv X W) (D : DefX X ["_law_script", "_law_k", "_law_pool_here", "_law_value", "_law_made", "_law_at", "_law_kinds_here", "_law_to"] (defScope st6) [0, 1, 2, 3, 4, 5, 6] [0, 1, 2, 3, 4, 5, 6] ["range", "max", "min", "len", "_law_pool", "_law_take", "_law_values", "_law_kinds", "_law_roots", "Absent", "SignsError", "NothingToUndo"]) (hp : Hx X) (bx : Bx lv X (fdOf Z 6) "law") : PSs X (defBody st6) (tS Z W (e6 T)) :=
    (ok_seqS (ok_for hp.po gd.calm (ok_rng1 gd rfl (D_glo D 0 rfl).1 (c.fre 55 rfl) (ok_blt gd (max2_ok gd) (D_glo D 1 rfl).1 (c.fre 54 rfl) (by decide +kernel) (ok_cons c_int (ok_cons (ok_blt gd (min2_ok gd) (D_glo D 2 rfl).1 (c.fre 53 rfl) (by decide +kernel) (ok_cons (ok_blt gd (lenX_ok TO gd (ct_ok c)) (D_glo D 3 rfl).1 (c.fre 3 rfl) (by decide +kernel) (ok_cons (D_var D 0 rfl rfl) ok_nil rfl) rfl (D_glo D 3 rfl).2.2 (D_glo D 3 rfl).2.1) (ok_cons c_int ok_nil rfl) rfl) rfl (D_glo D 2 rfl).2.2 (D_glo D 2 rfl).2.1) ok_nil rfl) rfl) rfl (D_glo D 1 rfl).2.2 (D_glo D 1 rfl).2.1) rfl) (D_tgt gd D 1 rfl rfl)
    (ok_seqS (ok_asg (ok_callG (ks := []) gd (TO.fn 0 (TH 0 rfl)) (TO.arr 0 2 [] _ (TA 0 2 [] rfl)) (D_glo D 4 rfl).1 (c.gloG 61 0 rfl rfl) (.cons (ok_cons (D_var D 0 rfl rfl) (ok_cons (D_var D 1 rfl rfl) ok_nil rfl) rfl) rfl) .nil (D_glo D 4 rfl).2.1) (D_tgt gd D 2 rfl rfl) rfl rfl rfl)
    (ok_seqS (ok_for hp.po gd.calm (ok_valI gd.K (ok_lst (ok_cons (ok_callG (ks := []) gd (TO.fn 1 (TH 1 rfl)) (TO.arr 1 2 [] _ (TA 1 2 [] rfl)) (D_glo D 5 rfl).1 (c.gloG 56 1 rfl rfl) (.cons (ok_cons (D_var D 2 rfl rfl) (ok_cons (ok_bin c_int c_int (bin_ok .Pow true gd.K)) ok_nil rfl) rfl) rfl) .nil (D_glo D 5 rfl).2.1) (ok_cons (ok_ix2 gd (c_str [97, 98, 99, 100] rfl rfl) (ok_callG (ks := []) gd (TO.fn 1 (TH 1 rfl)) (TO.arr 1 2 [] _ (TA 1 2 [] rfl)) (D_glo D 5 rfl).1 (c.gloG 56 1 rfl rfl) (.cons (ok_cons (D_var D 2 rfl rfl) (ok_cons c_int ok_nil rfl) rfl) rfl) .nil (D_glo D 5 rfl).2.1) (fun _ _ => rfl)) (ok_cons c_non ok_nil rfl) rfl) rfl))) (D_tgt gd D 3 rfl rfl)
    (ok_seqS (ok_asg (ok_callG (ks := []) gd (TO.fn 4 (TH 4 rfl)) (TO.arr 4 1 [] _ (TA 4 1 [] rfl)) (D_glo D 6 rfl).1 (c.gloG 60 4 rfl rfl) (.cons (ok_cons (D_var D 3 rfl rfl) ok_nil rfl) rfl) .nil (D_glo D 6 rfl).2.1) (D_tgt gd D 4 rfl rfl) rfl rfl rfl)
    (ok_seqS (ok_for hp.po gd.calm (ok_rng1 gd rfl (D_glo D 0 rfl).1 (c.fre 55 rfl) c_int rfl) (D_tgt gd D 5 rfl rfl)
    (ok_seqS (ok_asg (ok_callG (ks := []) gd (TO.fn 2 (TH 2 rfl)) (TO.arr 2 1 [] _ (TA 2 1 [] rfl)) (D_glo D 7 rfl).1 (c.gloG 59 2 rfl rfl) (.cons (ok_cons (ok_ix2 gd (D_var D 4 rfl rfl) (D_var D 5 rfl rfl) (fun _ _ => rfl)) ok_nil rfl) rfl) .nil (D_glo D 7 rfl).2.1) (D_tgt gd D 6 rfl rfl) rfl rfl rfl)
    (ok_seqS (ok_ifS ((ok_orB (ok_cmpB (ok_lc [("_law_to", 7)] (vs' := [6, 7]) (ls' := [7]) (gs' := []) gd D (ok_rng1 gd rfl (D_glo D 0 rfl).1 (c.fre 55 rfl) c_int rfl) (by decide +kernel) rfl (fun X1 gd1 D1 => ⟨(D_tgt gd1 D1 7 rfl rfl), (pts_one (ok_truth gd1.K (ok_ix2 gd1 (D_var D1 6 rfl rfl) (D_var D1 7 rfl rfl) (fun _ _ => rfl)) (fun _ => rfl))), (D_var D1 7 rfl rfl)⟩) (fun _ => rfl)) (ok_lst (ok_cons (D_var D 5 rfl rfl) ok_nil rfl)) (neDF_ok TO gd (ct_ok c)) rfl) (t_or1 (ok_cmpB (ok_exv gd (okX_ok (c.at_ 1 rfl) c.G) (ok_ix2 gd (D_var D 4 rfl rfl) (D_var D 5 rfl rfl) (fun _ _ => rfl)) rfl) (D_var D 3 rfl rfl) (neDF_ok TO gd (ct_ok c)) rfl)))).pt
    (ok_seqS (ok_retS c_bl)
    ok_nilS)
    ok_nilS)
    (ok_seqS (ok_ifS (ok_cmpB (ok_callG (ks := []) gd (TO.fn 5 (TH 5 rfl)) (TO.arr 5 1 [] _ (TA 5 1 [] rfl)) (D_glo D 8 rfl).1 (c.gloG 58 5 rfl rfl) (.cons (ok_cons (ok_ix2 gd (D_var D 4 rfl rfl) (D_var D 5 rfl rfl) (fun _ _ => rfl)) ok_nil rfl) rfl) .nil (D_glo D 8 rfl).2.1) (ok_lst (ok_cons (ok_cmp (D_var D 5 rfl rfl) c_int (cmpD2_ok .Lt TO gd (ct_ok c)) rfl) (ok_cons (ok_cmp (D_var D 5 rfl rfl) c_int (cmpD2_ok .Lt TO gd (ct_ok c)) rfl) (ok_cons (ok_chain c_int (D_var D 5 rfl rfl) c_int (cmpD2_ok .LtE TO gd (ct_ok c)) (cmpD2_ok .Lt TO gd (ct_ok c)) rfl) (ok_cons (ok_cmp (D_var D 5 rfl rfl) c_int (cmpD2_ok .GtE TO gd (ct_ok c)) rfl) (ok_cons c_bl (ok_cons (ok_chain c_int (D_var D 5 rfl rfl) c_int (cmpD2_ok .LtE TO gd (ct_ok c)) (cmpD2_ok .Lt TO gd (ct_ok c)) rfl) ok_nil rfl) rfl) rfl) rfl) rfl) rfl)) (neDF_ok TO gd (ct_ok c)) rfl)
    (ok_seqS (ok_retS c_bl)
    ok_nilS)
    ok_nilS)
    ok_nilS))) (fun _ => rfl))
    (ok_seqS (ok_ifS ((ok_orB (ok_cmpB (ok_exv gd (okX_ok (c.at_ 1 rfl) c.G) (ok_exo gd (mke_Absent c).1 (exoV_ok gd (mke_Absent c)) (D_glo D 9 rfl).1 (c.gloG 47 534 rfl rfl) (ok_cons (D_var D 3 rfl rfl) ok_nil rfl) rfl (D_glo D 9 rfl).2.1) rfl) (D_var D 3 rfl rfl) (neDF_ok TO gd (ct_ok c)) rfl) (t_or1 (ok_cmpB (ok_callG (ks := []) gd (TO.fn 5 (TH 5 rfl)) (TO.arr 5 1 [] _ (TA 5 1 [] rfl)) (D_glo D 8 rfl).1 (c.gloG 58 5 rfl rfl) (.cons (ok_cons (ok_exo gd (mke_Absent c).1 (exoV_ok gd (mke_Absent c)) (D_glo D 9 rfl).1 (c.gloG 47 534 rfl rfl) (ok_cons (D_var D 3 rfl rfl) ok_nil rfl) rfl (D_glo D 9 rfl).2.1) ok_nil rfl) rfl) .nil (D_glo D 8 rfl).2.1) (ok_lst (ok_cons c_bl (ok_cons c_bl (ok_cons c_bl (ok_cons c_bl (ok_cons c_bl (ok_cons c_bl ok_nil rfl) rfl) rfl) rfl) rfl) rfl)) (neDF_ok TO gd (ct_ok c)) rfl)))).pt
    (ok_seqS (ok_retS c_bl)
    ok_nilS)
    ok_nilS)
    (ok_seqS (ok_ifS (ok_cmpB (ok_callG (ks := []) gd (TO.fn 5 (TH 5 rfl)) (TO.arr 5 1 [] _ (TA 5 1 [] rfl)) (D_glo D 8 rfl).1 (c.gloG 58 5 rfl rfl) (.cons (ok_cons (ok_exo gd (mke_SignsError c).1 (exoV_ok gd (mke_SignsError c)) (D_glo D 10 rfl).1 (c.gloG 52 500 rfl rfl) (ok_cons (D_var D 3 rfl rfl) ok_nil rfl) rfl (D_glo D 10 rfl).2.1) ok_nil rfl) rfl) .nil (D_glo D 8 rfl).2.1) (ok_lst (ok_cons c_bl (ok_cons c_bl (ok_cons c_bl (ok_cons c_bl (ok_cons c_bl (ok_cons c_bl ok_nil rfl) rfl) rfl) rfl) rfl) rfl)) (neDF_ok TO gd (ct_ok c)) rfl)
    (ok_seqS (ok_retS c_bl)
    ok_nilS)
    ok_nilS)
    (ok_seqS (ok_ifS ((ok_orB (ok_cmpB (ok_exv gd (okX_ok (c.at_ 1 rfl) c.G) (ok_exo gd (mke_SignsError c).1 (exoV_ok gd (mke_SignsError c)) (D_glo D 10 rfl).1 (c.gloG 52 500 rfl rfl) (ok_cons (D_var D 3 rfl rfl) ok_nil rfl) rfl (D_glo D 10 rfl).2.1) rfl) (D_var D 3 rfl rfl) (neDF_ok TO gd (ct_ok c)) rfl) (t_or1 (ok_cmpB (ok_callG (ks := []) gd (TO.fn 5 (TH 5 rfl)) (TO.arr 5 1 [] _ (TA 5 1 [] rfl)) (D_glo D 8 rfl).1 (c.gloG 58 5 rfl rfl) (.cons (ok_cons (ok_exo0 gd (mkn_NothingToUndo c).1 (exoN_ok gd (mkn_NothingToUndo c)) (D_glo D 11 rfl).1 (c.gloG 57 543 rfl rfl) (D_glo D 11 rfl).2.1) ok_nil rfl) rfl) .nil (D_glo D 8 rfl).2.1) (ok_bin (ok_bin (ok_lst (ok_cons c_bl ok_nil rfl)) c_int (bin_ok .Mult true gd.K)) (ok_lst (ok_cons c_bl (ok_cons c_bl ok_nil rfl) rfl)) (bin_ok .Add true gd.K)) (neDF_ok TO gd (ct_ok c)) rfl)))).pt
    (ok_seqS (ok_retS c_bl)
    ok_nilS)
    ok_nilS)
    ok_nilS))))) (fun _ => rfl))
    ok_nilS)) (fun _ => rfl))
    (ok_seqS (ok_retS c_bl)
    ok_nilS))
theorem d6 (c : C Z) : DefOk Z tbl mems arrs 6 ⟨["_law_script"], 8, e6⟩ := defOk_of (d := md6) (N := ["_law_script", "_law_k", "_law_pool_here", "_law_value", "_law_made", "_law_at", "_law_kinds_here", "_law_to"]) (vs := [0, 1, 2, 3, 4, 5, 6]) (ls := [0, 1, 2, 3, 4, 5, 6]) (gs := ["range", "max", "min", "len", "_law_pool", "_law_take", "_law_values", "_law_kinds", "_law_roots", "Absent", "SignsError", "NothingToUndo"]) (c.def_ 6 rfl) (by rw [c.G]; rfl) ⟨rfl, rfl, rfl, by decide +kernel, rfl, by decide +kernel, by decide +kernel⟩ rfl (by decide +kernel) fun n X W TO gd D hp bx => b6 c TO (fun g h => has_ok h) (fun g n ks {a} h => arr_ok h) gd D hp bx
theorem defs_ok (c : C Z) : AllN (DefOk Z tbl mems arrs) 0 tbl := ⟨d0 c, ⟨d1 c, ⟨d2 c, ⟨d3 c, ⟨d4 c, ⟨d5 c, ⟨d6 c, True.intro⟩⟩⟩⟩⟩⟩⟩
theorem tabs (c : C Z) (n : Nat) : TabOk Z (6 * n) (tabOf tbl mems arrs n) (fdOf Z) (psOf tbl) := tab_ok (defs_ok c) (mems_ok c) (arrs_ok c) n
end
--EVAL
abbrev TT (n : Nat) : Tab := tabOf tbl mems arrs n
theorem rn0 {n : Nat} : (TT (n + 1)).run 0 = runB 4 (e0 (TT n)) := rfl
theorem rn1 {n : Nat} : (TT (n + 1)).run 1 = runB 3 (e1 (TT n)) := rfl
theorem rn2 {n : Nat} : (TT (n + 1)).run 2 = runB 2 (e2 (TT n)) := rfl
theorem rn3 {n : Nat} : (TT (n + 1)).run 3 = runB 2 (e3 (TT n)) := rfl
theorem rn4 {n : Nat} : (TT (n + 1)).run 4 = runB 2 (e4 (TT n)) := rfl
theorem rn5 {n : Nat} : (TT (n + 1)).run 5 = runB 2 (e5 (TT n)) := rfl
theorem rn6 {n : Nat} : (TT (n + 1)).run 6 = runB 8 (e6 (TT n)) := rfl
theorem runB_rt {ns : Nat} {b : Loc → Hs → RS} {args : List PV} {S S1 : Hs} {v : PV} (h : b (args.map some ++ List.replicate (ns - args.length) none) S = .rt v S1) : runB ns b args S = .ok v S1 := by
  unfold runB
  rw [h]
section
variable {α : Type} {l : List α} {d : Desc} {L0 L : Loc} {S S1 : Hs} {tgt : TgF}
theorem lc_on' {cond : Loc → Hs → RB} {elt : Loc → Hs → RE} {h : α → PV} {Lx : α → Loc} {r : α → PV} {c : α → Bool} (hd : ∀ i, fetch S i d = some (l[i]?.map h)) (ht : ∀ x ∈ l, tgt (h x) L0 S = .nx (Lx x) S) (hc : ∀ x ∈ l, cond (Lx x) S = .ok (c x) S) (hx : ∀ x ∈ l, c x = true → elt (Lx x) S = .ok (r x) S) (hl : l.length < 16777216) :
    ∀ (k fuel i : Nat) (acc : List PV), i + k = l.length → k < fuel → lcLoop d L0 tgt cond elt fuel i acc S = some ((((l.drop i).filter c).map r).reverse ++ acc, S)
  | 0, 0, _, _, _, h => absurd h (Nat.lt_irrefl _)
  | 0, fuel + 1, i, acc, hi, _ => by
    rw [lcLoop, hd, List.getElem?_eq_none (by omega)]
    simp only [Option.map_none]
    rw [List.drop_eq_nil_of_le (by omega)]
    rfl
  | k + 1, 0, _, _, _, h => by omega
  | k + 1, fuel + 1, i, acc, hi, hf => by
    have hlt : i < l.length := by omega
    have hm := List.getElem_mem hlt
    rw [lcLoop, hd, List.getElem?_eq_getElem hlt]
    simp only [Option.map_some, ht _ hm, hc _ hm]
    rw [← List.getElem_cons_drop hlt]
    cases e : c l[i] with
    | true =>
      simp only [hx _ hm e]
      rw [if_pos (by omega), lc_on' hd ht hc hx hl k fuel (i + 1) _ (by omega) (by omega), List.filter_cons_of_pos e]
      simp
    | false =>
      simp only
      rw [lc_on' hd ht hc hx hl k fuel (i + 1) _ (by omega) (by omega), List.filter_cons_of_neg (by rw [e]; exact Bool.false_ne_true)]
theorem lc_on {own : List Nat} {src : Loc → Hs → RI} {cond : Loc → Hs → RB} {elt : Loc → Hs → RE} (h : α → PV) (Lx : α → Loc) (r : α → PV) (c : α → Bool) (hs : src L S = .ok d S1) (hd : ∀ i, fetch S1 i d = some (l[i]?.map h)) (ht : ∀ x ∈ l, tgt (h x) (wipeL L own) S1 = .nx (Lx x) S1) (hc : ∀ x ∈ l, cond (Lx x) S1 = .ok (c x) S1)
    (hx : ∀ x ∈ l, c x = true → elt (Lx x) S1 = .ok (r x) S1) (hl : l.length < 16777216) : lcE true own src tgt cond elt L S = .ok (.lst ((l.filter c).map r)) S1 := by
  unfold lcE
  rw [hs]
  simp only
  rw [lc_on' hd ht hc hx hl l.length turns 0 [] (by omega) (by unfold turns; omega)]
  simp [lcEnd]
theorem lc_all {own : List Nat} {src : Loc → Hs → RI} {elt : Loc → Hs → RE} (h : α → PV) (Lx : α → Loc) (r : α → PV) (hs : src L S = .ok d S1) (hd : ∀ i, fetch S1 i d = some (l[i]?.map h)) (ht : ∀ x ∈ l, tgt (h x) (wipeL L own) S1 = .nx (Lx x) S1)
    (hx : ∀ x ∈ l, elt (Lx x) S1 = .ok (r x) S1) (hl : l.length < 16777216) : lcE true own src tgt trueB elt L S = .ok (.lst (l.map r)) S1 := by
  rw [lc_on (l := l) h Lx r (fun _ => true) hs hd ht (fun _ _ => rfl) (fun x m _ => hx x m) hl, List.filter_eq_self.mpr fun _ _ => rfl]
theorem any_on' {body : Loc → Hs → RS} {h : α → PV} {q : α → Bool} {v : PV} {P : Loc → Prop} (hd : ∀ i, fetch S i d = some (l[i]?.map h)) (step : ∀ x ∈ l, ∀ L, P L → ∃ L1 L2, tgt (h x) L S = .nx L1 S ∧ P L2 ∧ body L1 S = if q x then .rt v S else .nx L2 S) :
    ∀ (k fuel i : Nat) (L : Loc), i + k = l.length → k < fuel → P L → ((l.drop i).any q = true ∧ forLoop d tgt body fuel i L S = .rt v S) ∨ ((l.drop i).any q = false ∧ ∃ L', P L' ∧ forLoop d tgt body fuel i L S = .nx L' S)
  | 0, 0, _, _, _, h, _ => absurd h (Nat.lt_irrefl _)
  | 0, fuel + 1, j, L, hi, _, hP => by
    rw [forLoop, hd, List.getElem?_eq_none (by omega), List.drop_eq_nil_of_le (by omega)]
    exact .inr ⟨rfl, L, hP, rfl⟩
  | k + 1, 0, _, _, _, h, _ => by omega
  | k + 1, fuel + 1, i, L, hi, hf, hP => by
    have hlt : i < l.length := by omega
    rw [forLoop, hd, List.getElem?_eq_getElem hlt, ← List.getElem_cons_drop hlt]
    obtain ⟨L1, L2, h1, h2, h3⟩ := step _ (List.getElem_mem hlt) L hP
    simp only [Option.map_some, h1]
    rw [List.any_cons]
    cases hq : q l[i] with
    | true =>
      rw [hq, if_pos rfl] at h3
      simp only [h3]
      exact .inl ⟨rfl, trivial⟩
    | false =>
      rw [hq, if_neg Bool.false_ne_true] at h3
      simp only [h3]
      rw [Bool.false_or]
      exact any_on' hd step k fuel (i + 1) L2 (by omega) (by omega) h2
theorem any_on {src : Loc → Hs → RI} {body : Loc → Hs → RS} (h : α → PV) (q : α → Bool) (v : PV) (P : Loc → Prop) (hs : src L S = .ok d S1) (hd : ∀ i, fetch S1 i d = some (l[i]?.map h)) (step : ∀ x ∈ l, ∀ L, P L → ∃ L1 L2, tgt (h x) L S1 = .nx L1 S1 ∧ P L2 ∧ body L1 S1 = if q x then .rt v S1 else .nx L2 S1)
    (hP : P L) (hl : l.length < 1000000000) : (l.any q = true ∧ forS src tgt body L S = .rt v S1) ∨ (l.any q = false ∧ ∃ L', P L' ∧ forS src tgt body L S = .nx L' S1) := by
  have h := any_on' hd step l.length turns 0 L (by omega) (by unfold turns; exact hl) hP
  unfold forS
  rw [hs]
  exact h
theorem asBs_on {f : α → Bool} : ∀ {l : List α}, asBs (l.map fun x => PV.bl (f x)) = some (l.map f)
  | [] => rfl
  | x :: l => by
    show asBs (PV.bl (f x) :: l.map fun x => PV.bl (f x)) = _
    unfold asBs
    rw [asBs_on]
    rfl
theorem v_allO {f : α → Bool} : allV [.lst (l.map fun x => PV.bl (f x))] S = .ok (.bl (l.all f)) S := by
  show okO (Option.map (fun bs => PV.bl (bs.all id)) (asBs (l.map fun x => PV.bl (f x)))) S = _
  rw [asBs_on]
  show RE.ok (.bl ((l.map f).all id)) S = _
  rw [List.all_map]
  rfl
theorem v_anyO {f : α → Bool} : anyV [.lst (l.map fun x => PV.bl (f x))] S = .ok (.bl (l.any f)) S := by
  show okO (Option.map (fun bs => PV.bl (bs.any id)) (asBs (l.map fun x => PV.bl (f x)))) S = _
  rw [asBs_on]
  show RE.ok (.bl ((l.map f).any id)) S = _
  rw [List.any_map]
  rfl
end
theorem fetchL {α : Type} {l : List α} {h : α → PV} {S : Hs} {i : Nat} : fetch S i (.seq (.lst (l.map h))) = some (l[i]?.map h) := by
  show some (l.map h)[i]? = _
  rw [List.getElem?_map]
theorem fetchT {α : Type} {l : List α} {h : α → PV} {S : Hs} {i : Nat} : fetch S i (.seq (PV.tup (l.map h))) = some (l[i]?.map h) := by
  show some (l.map h)[i]? = _
  rw [List.getElem?_map]
theorem fetchZ {α β : Type} {l : List α} {l' : List β} {h : α → PV} {g : β → PV} {S : Hs} {i : Nat} : fetch S i (.zip (PV.tup (l.map h)) (.tup (l'.map g))) = some ((l.zip l')[i]?.map fun p => PV.tup [h p.1, g p.2]) := by
  show (match (l.map h)[i]?, (l'.map g)[i]? with
    | some x, some y => some (some (PV.tup [x, y]))
    | _, _ => some none) = _
  rw [List.getElem?_map, List.getElem?_map, show (l.zip l')[i]? = _ from List.getElem?_zipWith (f := Prod.mk)]
  cases l[i]? <;> cases l'[i]? <;> rfl
theorem lenX_scr {T : Tab} {c : CmpT} {ns : List Int} {S : Hs} : lenX T c [.scr ns] S = .ok (.int ns.length) S := v_lenS (T := T) (c := c)
theorem u_take {n : Nat} {S : Hs} {p q m : Int} {r : Nat} (hr : getR S r = some (cel p q)) (hp : PoolOk p q) (hm : 0 < m) (hl : m.natAbs < 2 ^ 100) : ∃ v p' q', 0 ≤ v ∧ v < m ∧ PoolOk p' q' ∧ (TT (n + 1)).run 1 [.loc r, .int m] S = .ok (.int v) (setR S r (cel p' q')) := by
  obtain ⟨h1, h2⟩ := hp
  have hlog : m.natAbs.log2 < 9000 := by have := log2_of hl (by decide); omega
  have x0 : ixV2 (.loc r) (.int 0) S = .ok (.int p) S := ix_at hr
  have x1 : ixV2 (.loc r) (.int 1) S = .ok (.int q) S := ix_at hr
  by_cases hp0 : 0 < p
  · refine ⟨p % m, p / m, q, Int.emod_nonneg _ (by omega), Int.emod_lt_of_pos _ hm, ⟨h1, h2⟩, ?_⟩
    rw [rn1]
    simp only [e1, x0, hp0, v_gt, v_int1, v_mod hm, v_fdiv hm hlog, v_name, v_re, v_reA, v_reB, v_reS, v_ra, v_raA, v_rb, v_rbB, v_rbS, v_rs, v_rt, v_seq, v_nil, v_ret, v_exp, v_if, v_asg, v_only, v_con, v_var0, v_varS, v_nilA, v_consA, v_bin, v_call, v_blt, v_and, v_or, v_not, v_okT, v_okB, v_okO, v_truBl, v_truInt, v_truB, v_cmpB, v_asB, v_andB, v_orB, v_notB, v_ite, v_noX, v_chain, v_useT, v_useF, v_b_int, v_i_int, v_b_str, v_add, v_sub, v_band, v_bor, v_bxor, v_mul, v_mod, v_fdiv, v_shl, v_shr, v_le, v_lt, v_eqI, v_neI, v_eqB, v_neB, v_setf, v_lst, v_una, v_attr, v_aug, v_name, List.length_cons, List.length_nil, Nat.zero_add, Nat.reduceAdd, Nat.reduceSub, and_self, if_true, if_false, Bool.false_eq_true, Bool.not_true, Bool.not_false, Bool.and_true, Bool.true_and, Bool.and_self, decide_true, decide_false, List.set_cons_zero, List.set_cons_succ, List.cons_append, List.nil_append, List.append_nil, cmpD2, cmpD, cmpV, ordV, runB, List.map_cons, List.map_nil, List.replicate, Nat.sub_self]
    rw [sub_at (S := S) (n := 0) (i := 0) (xs := [.int p, .int q]) rfl rfl hr rfl]
    simp only [v_re, v_reA, v_reB, v_reS, v_ra, v_raA, v_rb, v_rbB, v_rbS, v_rs, v_rt, v_seq, v_nil, v_ret, v_exp, v_if, v_asg, v_only, v_con, v_var0, v_varS, v_nilA, v_consA, v_bin, v_call, v_blt, v_and, v_or, v_not, v_okT, v_okB, v_okO, v_truBl, v_truInt, v_truB, v_cmpB, v_asB, v_andB, v_orB, v_notB, v_ite, v_noX, v_chain, v_useT, v_useF, v_b_int, v_i_int, v_b_str, v_add, v_sub, v_band, v_bor, v_bxor, v_mul, v_mod, v_fdiv, v_shl, v_shr, v_le, v_lt, v_eqI, v_neI, v_eqB, v_neB, v_setf, v_lst, v_una, v_attr, v_aug, v_name, List.length_cons, List.length_nil, Nat.zero_add, Nat.reduceAdd, Nat.reduceSub, and_self, if_true, if_false, Bool.false_eq_true, Bool.not_true, Bool.not_false, Bool.and_true, Bool.true_and, Bool.and_self, decide_true, decide_false, List.set_cons_zero, List.set_cons_succ, List.cons_append, List.nil_append, List.append_nil, cmpD2, cmpD, cmpV, ordV, runB, List.map_cons, List.map_nil, List.replicate, Nat.sub_self]
    rfl
  · refine ⟨((q * 48271 + 11) % 2147483647) * ((q * 48271 + 11) % 2147483647) % 2147483629 / 64 % m, p, (q * 48271 + 11) % 2147483647, Int.emod_nonneg _ (by omega), Int.emod_lt_of_pos _ hm, ⟨Int.emod_nonneg _ (by decide), by have := Int.emod_lt_of_pos (q * 48271 + 11) (show (0 : Int) < 2147483647 by decide); omega⟩, ?_⟩
    · rw [rn1]
      have k1 : mulOk q 48271 = true := mulOk_of (a := 40) (b := 40) (by omega) (by decide) (by decide) (by decide) (by decide)
      have hq1 : 0 ≤ (q * 48271 + 11) % 2147483647 ∧ (q * 48271 + 11) % 2147483647 < 2147483647 := ⟨Int.emod_nonneg _ (by decide), Int.emod_lt_of_pos _ (by decide)⟩
      have k2 : mulOk ((q * 48271 + 11) % 2147483647) ((q * 48271 + 11) % 2147483647) = true := mulOk_of (a := 40) (b := 40) (by omega) (by omega) (by decide) (by decide) (by decide)
      have y1 : ixV2 (.loc r) (.int 1) (setR S r (.lst [.int p, .int ((q * 48271 + 11) % 2147483647)])) = .ok (.int ((q * 48271 + 11) % 2147483647)) (setR S r (.lst [.int p, .int ((q * 48271 + 11) % 2147483647)])) := ix_at (getR_setR hr)
      simp only [e1, x0, x1, hp0, v_gt, v_int1, k1, v_mod (show (0 : Int) < 2147483647 by decide), v_name, v_re, v_reA, v_reB, v_reS, v_ra, v_raA, v_rb, v_rbB, v_rbS, v_rs, v_rt, v_seq, v_nil, v_ret, v_exp, v_if, v_asg, v_only, v_con, v_var0, v_varS, v_nilA, v_consA, v_bin, v_call, v_blt, v_and, v_or, v_not, v_okT, v_okB, v_okO, v_truBl, v_truInt, v_truB, v_cmpB, v_asB, v_andB, v_orB, v_notB, v_ite, v_noX, v_chain, v_useT, v_useF, v_b_int, v_i_int, v_b_str, v_add, v_sub, v_band, v_bor, v_bxor, v_mul, v_mod, v_fdiv, v_shl, v_shr, v_le, v_lt, v_eqI, v_neI, v_eqB, v_neB, v_setf, v_lst, v_una, v_attr, v_aug, v_name, List.length_cons, List.length_nil, Nat.zero_add, Nat.reduceAdd, Nat.reduceSub, and_self, if_true, if_false, Bool.false_eq_true, Bool.not_true, Bool.not_false, Bool.and_true, Bool.true_and, Bool.and_self, decide_true, decide_false, List.set_cons_zero, List.set_cons_succ, List.cons_append, List.nil_append, List.append_nil, cmpD2, cmpD, cmpV, ordV, runB, List.map_cons, List.map_nil, List.replicate, Nat.sub_self]
      rw [sub_at (S := S) (n := 1) (i := 1) (xs := [.int p, .int q]) rfl rfl hr rfl]
      simp only [List.set, y1, k2, v_int1, v_mod (show (0 : Int) < 2147483629 by decide), v_mod hm, v_fdiv (show (0 : Int) < 64 by decide) (by decide), v_re, v_reA, v_reB, v_reS, v_ra, v_raA, v_rb, v_rbB, v_rbS, v_rs, v_rt, v_seq, v_nil, v_ret, v_exp, v_if, v_asg, v_only, v_con, v_var0, v_varS, v_nilA, v_consA, v_bin, v_call, v_blt, v_and, v_or, v_not, v_okT, v_okB, v_okO, v_truBl, v_truInt, v_truB, v_cmpB, v_asB, v_andB, v_orB, v_notB, v_ite, v_noX, v_chain, v_useT, v_useF, v_b_int, v_i_int, v_b_str, v_add, v_sub, v_band, v_bor, v_bxor, v_mul, v_mod, v_fdiv, v_shl, v_shr, v_le, v_lt, v_eqI, v_neI, v_eqB, v_neB, v_setf, v_lst, v_una, v_attr, v_aug, v_name, List.length_cons, List.length_nil, Nat.zero_add, Nat.reduceAdd, Nat.reduceSub, and_self, if_true, if_false, Bool.false_eq_true, Bool.not_true, Bool.not_false, Bool.and_true, Bool.true_and, Bool.and_self, decide_true, decide_false, List.set_cons_zero, List.set_cons_succ, List.cons_append, List.nil_append, List.append_nil, cmpD2, cmpD, cmpV, ordV, runB, List.map_cons, List.map_nil, List.replicate, Nat.sub_self]
      rfl
theorem u_pool {n : Nat} {S : Hs} {ns : List Int} {k : Nat} (hk : k < 64) : ∃ p q, PoolOk p q ∧ (TT (n + 1)).run 0 [.scr ns, .int k] S = .ok (.loc S.length) (cel p q :: S) := by
  have key : ∃ i : Int, iteE (cmpB (binE (varE 1) (bltE (consA (varE 0) nilA) (lenX (TT n) ct)) (cmpD2 (TT n) ct .Lt))) (binE (varE 0) (varE 1) ixV2) (conE (.int 0)) [some (.scr ns), some (.int k), none, none] S = .ok (.int i) S := by
    by_cases h : k < ns.length
    · refine ⟨ns[k], ?_⟩
      have h' : (k : Int) < (ns.length : Int) := by omega
      simp only [lenX_scr, ix_scr h, h', v_re, v_reA, v_reB, v_reS, v_ra, v_raA, v_rb, v_rbB, v_rbS, v_rs, v_rt, v_seq, v_nil, v_ret, v_exp, v_if, v_asg, v_only, v_con, v_var0, v_varS, v_nilA, v_consA, v_bin, v_call, v_blt, v_and, v_or, v_not, v_okT, v_okB, v_okO, v_truBl, v_truInt, v_truB, v_cmpB, v_asB, v_andB, v_orB, v_notB, v_ite, v_noX, v_chain, v_useT, v_useF, v_b_int, v_i_int, v_b_str, v_add, v_sub, v_band, v_bor, v_bxor, v_mul, v_mod, v_fdiv, v_shl, v_shr, v_le, v_lt, v_eqI, v_neI, v_eqB, v_neB, v_setf, v_lst, v_una, v_attr, v_aug, v_name, List.length_cons, List.length_nil, Nat.zero_add, Nat.reduceAdd, Nat.reduceSub, and_self, if_true, if_false, Bool.false_eq_true, Bool.not_true, Bool.not_false, Bool.and_true, Bool.true_and, Bool.and_self, decide_true, decide_false, List.set_cons_zero, List.set_cons_succ, List.cons_append, List.nil_append, List.append_nil, cmpD2, cmpD, cmpV, ordV, runB, List.map_cons, List.map_nil, List.replicate, Nat.sub_self]
    · refine ⟨0, ?_⟩
      have h' : ¬ (k : Int) < (ns.length : Int) := by omega
      simp only [lenX_scr, h', v_re, v_reA, v_reB, v_reS, v_ra, v_raA, v_rb, v_rbB, v_rbS, v_rs, v_rt, v_seq, v_nil, v_ret, v_exp, v_if, v_asg, v_only, v_con, v_var0, v_varS, v_nilA, v_consA, v_bin, v_call, v_blt, v_and, v_or, v_not, v_okT, v_okB, v_okO, v_truBl, v_truInt, v_truB, v_cmpB, v_asB, v_andB, v_orB, v_notB, v_ite, v_noX, v_chain, v_useT, v_useF, v_b_int, v_i_int, v_b_str, v_add, v_sub, v_band, v_bor, v_bxor, v_mul, v_mod, v_fdiv, v_shl, v_shr, v_le, v_lt, v_eqI, v_neI, v_eqB, v_neB, v_setf, v_lst, v_una, v_attr, v_aug, v_name, List.length_cons, List.length_nil, Nat.zero_add, Nat.reduceAdd, Nat.reduceSub, and_self, if_true, if_false, Bool.false_eq_true, Bool.not_true, Bool.not_false, Bool.and_true, Bool.true_and, Bool.and_self, decide_true, decide_false, List.set_cons_zero, List.set_cons_succ, List.cons_append, List.nil_append, List.append_nil, cmpD2, cmpD, cmpV, ordV, runB, List.map_cons, List.map_nil, List.replicate, Nat.sub_self]
  obtain ⟨i, ei⟩ := key
  refine ⟨if 10 ^ 18 ≤ i then i else 0, (i % 2147483629 + 7919 * k * k + 13) * 48271 % 2147483647 + 1, ⟨?_, ?_⟩, ?_⟩
  · have := Int.emod_nonneg ((i % 2147483629 + 7919 * k * k + 13) * 48271) (show (2147483647 : Int) ≠ 0 by decide); omega
  · have := Int.emod_lt_of_pos ((i % 2147483629 + 7919 * k * k + 13) * 48271) (show (0 : Int) < 2147483647 by decide); omega
  · rw [rn0]
    have t10 : ∀ S : Hs, binV .Pow true (.int 10) (.int 18) S = .ok (.int (10 ^ 18)) S := fun _ => rfl
    have k1 : mulOk 7919 (k : Int) = true := mulOk_of (a := 40) (b := 40) (by decide) (by omega) (by decide) (by decide) (by decide)
    have k2 : mulOk (7919 * (k : Int)) (k : Int) = true := mulOk_of (a := 40) (b := 40) (by omega) (by omega) (by decide) (by decide) (by decide)
    have b0 : 0 ≤ i % 2147483629 ∧ i % 2147483629 < 2147483629 := ⟨Int.emod_nonneg _ (by decide), Int.emod_lt_of_pos _ (by decide)⟩
    have b1 : 7919 * (k : Int) * k ≤ 7919 * 64 * 64 := by
      have h1 : 7919 * (k : Int) ≤ 7919 * 64 := by omega
      exact Int.mul_le_mul h1 (by omega) (by omega) (by omega)
    have b2 : 0 ≤ 7919 * (k : Int) * k := Int.mul_nonneg (by omega) (by omega)
    have k3 : mulOk (i % 2147483629 + 7919 * (k : Int) * k + 13) 48271 = true := mulOk_of (a := 40) (b := 40) (by omega) (by decide) (by decide) (by decide) (by decide)
    simp only [e0, runB, v_seq, v_asg, List.map_cons, List.map_nil, List.length_cons, List.length_nil, Nat.reduceAdd, Nat.zero_add, Nat.reduceSub, List.replicate, List.cons_append, List.nil_append, ei]
    by_cases h : (10 : Int) ^ 18 ≤ i <;> simp only [h, v_name, List.set, v_int1, k1, k2, k3, t10, v_ge, v_mod (show (0 : Int) < 2147483629 by decide), v_mod (show (0 : Int) < 2147483647 by decide), v_re, v_reA, v_reB, v_reS, v_ra, v_raA, v_rb, v_rbB, v_rbS, v_rs, v_rt, v_seq, v_nil, v_ret, v_exp, v_if, v_asg, v_only, v_con, v_var0, v_varS, v_nilA, v_consA, v_bin, v_call, v_blt, v_and, v_or, v_not, v_okT, v_okB, v_okO, v_truBl, v_truInt, v_truB, v_cmpB, v_asB, v_andB, v_orB, v_notB, v_ite, v_noX, v_chain, v_useT, v_useF, v_b_int, v_i_int, v_b_str, v_add, v_sub, v_band, v_bor, v_bxor, v_mul, v_mod, v_fdiv, v_shl, v_shr, v_le, v_lt, v_eqI, v_neI, v_eqB, v_neB, v_setf, v_lst, v_una, v_attr, v_aug, v_name, List.length_cons, List.length_nil, Nat.zero_add, Nat.reduceAdd, Nat.reduceSub, and_self, if_true, if_false, Bool.false_eq_true, Bool.not_true, Bool.not_false, Bool.and_true, Bool.true_and, Bool.and_self, decide_true, decide_false, List.set_cons_zero, List.set_cons_succ, List.cons_append, List.nil_append, List.append_nil, cmpD2, cmpD, cmpV, ordV, runB, List.map_cons, List.map_nil, List.replicate, Nat.sub_self]
    · rfl
    · rfl
def HasPool (S : Hs) (r : Nat) : Prop := ∃ p q, getR S r = some (cel p q) ∧ PoolOk p q
theorem take1 {n : Nat} {S : Hs} {r : Nat} {m : Int} (h : HasPool S r) (hm : 0 < m) (hl : m.natAbs < 2 ^ 100) : ∃ v S', 0 ≤ v ∧ v < m ∧ HasPool S' r ∧ (TT (n + 1)).run 1 [.loc r, .int m] S = .ok (.int v) S' := by
  obtain ⟨p, q, hr, hp⟩ := h
  obtain ⟨v, p', q', h1, h2, h3, e⟩ := u_take (n := n) hr hp hm hl
  exact ⟨v, _, h1, h2, ⟨p', q', getR_setR hr, h3⟩, e⟩
theorem pool1 {n : Nat} {S : Hs} {ns : List Int} {k : Nat} (hk : k < 64) : ∃ r S', HasPool S' r ∧ (TT (n + 1)).run 0 [.scr ns, .int k] S = .ok (.loc r) S' := by
  obtain ⟨p, q, hp, e⟩ := u_pool (n := n) (S := S) (ns := ns) hk
  exact ⟨S.length, _, ⟨p, q, getR_top, hp⟩, e⟩
theorem ix_mem {xs : List PV} {v : Int} (h0 : 0 ≤ v) (h1 : v < (xs.length : Nat)) : ∃ x, x ∈ xs ∧ ∀ S, ixV2 (.lst xs) (.int v) S = .ok x S := by
  obtain ⟨j, rfl⟩ : ∃ j : Nat, v = (j : Int) := ⟨v.toNat, by omega⟩
  have hj : j < xs.length := by omega
  refine ⟨xs[j], List.getElem_mem hj, fun S => ?_⟩
  rw [ix_lst2]
  unfold atI ixN
  rw [if_pos h0, if_pos (by omega)]
  simp only [Int.toNat_natCast]
  show okO xs[j]? S = _
  rw [List.getElem?_eq_getElem hj]
  rfl
def KS : List Nat := [501, 502, 503, 504, 505, 506, 507, 508, 509, 510, 511, 512, 513, 514, 515, 516, 517, 518, 519, 520, 521, 522, 523, 524, 525, 526, 527, 528, 529, 530, 531, 532, 533, 535, 536, 537, 538, 539, 540, 541, 542]
def LL (ns : List Int) (x1 x2 x3 x4 x5 x6 x7 : Option PV) : Loc := [some (.scr ns), x1, x2, x3, x4, x5, x6, x7]
theorem ext_map {α β : Type} {f g : α → β} : ∀ {l : List α}, l.map f = l.map g → ∀ x ∈ l, f x = g x
  | [], _, _, h => nomatch h
  | y :: l, e, x, h => by
    rw [List.map_cons, List.map_cons] at e
    injection e with e1 e2
    rcases List.mem_cons.mp h with rfl | h
    · exact e1
    · exact ext_map e2 x h
def made (t : Atm) : PV := .lst (KS.map fun k => .exo k t)
def hot (i : Nat) : List PV := (List.range 41).map fun j => .bl (Nat.beq i j)
def rts (i : Nat) : List PV := [.bl (Nat.blt i 33), .bl (Nat.blt i 33), .bl (Nat.ble 33 i && Nat.blt i 39), .bl (Nat.ble 39 i), .bl false, .bl (Nat.ble 33 i && Nat.blt i 39)]
theorem q_made {t : Atm} {S : Hs} (ht : t ≠ .nil) : isoC ((TT 7).run 4) [t.pv] S = .ok (made t) S := by
  refine iso_ok (S1 := []) ?_ ?_ ?_
  · cases t <;> rfl
  · cases t with
    | nil => exact absurd rfl ht
    | non => kernel_rfl
    | int i => kernel_rfl
    | str s => kernel_rfl
  · kernel_rfl
theorem solid_bls {α : Type} {f : α → Bool} {d : Nat} : ∀ {l : List α}, (l.map fun x => PV.bl (f x)).all (solid (d + 1)) = true
  | [] => rfl
  | _ :: l => by rw [List.map_cons, List.all_cons, solid_bls]; rfl
theorem q_kinds {t : Atm} {S : Hs} {i : Nat} (hi : i ∈ List.range 41) : isoC ((TT 7).run 2) [.exo (KS.getD i 0) t] S = .ok (.lst (hot i)) S := by
  refine iso_ok (S1 := []) rfl ?_ (solid_bls (d := 22))
  exact ext_map (f := fun i => (TT 7).run 2 [.exo (KS.getD i 0) t] []) (g := fun i => RE.ok (.lst (hot i)) []) (l := List.range 41) (by kernel_rfl) i hi
theorem q_roots {t : Atm} {S : Hs} {i : Nat} (hi : i ∈ List.range 41) : isoC ((TT 7).run 5) [.exo (KS.getD i 0) t] S = .ok (.lst (rts i)) S := by
  refine iso_ok (S1 := []) rfl ?_ rfl
  exact ext_map (f := fun i => (TT 7).run 5 [.exo (KS.getD i 0) t] []) (g := fun i => RE.ok (.lst (rts i)) []) (l := List.range 41) (by kernel_rfl) i hi
theorem q_at {t : Atm} {S : Hs} {i : Nat} (hi : i ∈ List.range 41) : ixV2 (made t) (.int (i : Nat)) S = .ok (.exo (KS.getD i 0) t) S :=
  ext_map (f := fun i : Nat => ixV2 (made t) (.int (i : Nat)) S) (g := fun i => RE.ok (.exo (KS.getD i 0) t) S) (l := List.range 41) (by rfl) i hi
theorem q_ok {t : Atm} {S : Hs} {i : Nat} (ht : t ≠ .nil) (hi : i ∈ List.range 41) (f : Loc → Hs → RE) (L : Loc) (hf : f L S = .ok (.exo (KS.getD i 0) t) S) : exvE (okX isxR) f L S = .ok t.pv S := by
  have h : okX isxR (KS.getD i 0) = true := ext_map (f := fun i => okX isxR (KS.getD i 0)) (g := fun _ => true) (l := List.range 41) (by kernel_rfl) i hi
  unfold exvE
  rw [hf]
  show (if okX isxR (KS.getD i 0) then _ else RE.bad) = _
  rw [if_pos h]
  cases t with
  | nil => exact absurd rfl ht
  | _ => rfl
theorem q_hot {x0 x1 x2 x3 x4 x5 x7 : Option PV} {S : Hs} {i : Nat} (hi : i ∈ List.range 41) : (lcE true [7] (rngI (consA (conE (.int 41)) nilA)) (nameT 7) (truB (binE (varE 6) (varE 7) ixV2)) (varE 7)) [x0, x1, x2, x3, x4, x5, some (.lst (hot i)), x7] S = .ok (.lst [.int (i : Nat)]) S :=
  ext_map (f := fun i => (lcE true [7] (rngI (consA (conE (.int 41)) nilA)) (nameT 7) (truB (binE (varE 6) (varE 7) ixV2)) (varE 7)) [x0, x1, x2, x3, x4, x5, some (.lst (hot i)), x7] S) (g := fun i : Nat => RE.ok (.lst [.int (i : Nat)]) S) (l := List.range 41) (by kernel_rfl) i hi
theorem q_ne1 {S : Hs} {i : Nat} (hi : i ∈ List.range 41) : neDF (TT 7) ct (.lst [.int (i : Nat)]) (.lst [.int (i : Nat)]) S = .ok (.bl false) S :=
  ext_map (f := fun i : Nat => neDF (TT 7) ct (.lst [.int (i : Nat)]) (.lst [.int (i : Nat)]) S) (g := fun _ => RE.ok (.bl false) S) (l := List.range 41) (by kernel_rfl) i hi
theorem q_rt {x0 x1 x2 x3 x4 x6 x7 : Option PV} {S : Hs} {i : Nat} (hi : i ∈ List.range 41) : (lstE true (consA (binE (varE 5) (conE (.int 33)) (cmpD2 (TT 7) ct .Lt)) (consA (binE (varE 5) (conE (.int 33)) (cmpD2 (TT 7) ct .Lt)) (consA (chainE (conE (.int 33)) (varE 5) (conE (.int 39)) (cmpD2 (TT 7) ct .LtE) (cmpD2 (TT 7) ct .Lt)) (consA (binE (varE 5) (conE (.int 39)) (cmpD2 (TT 7) ct .GtE)) (consA (conE (.bl false)) (consA (chainE (conE (.int 33)) (varE 5) (conE (.int 39)) (cmpD2 (TT 7) ct .LtE) (cmpD2 (TT 7) ct .Lt)) nilA))))))) [x0, x1, x2, x3, x4, some (.int (i : Nat)), x6, x7] S = .ok (.lst (rts i)) S :=
  ext_map (f := fun i : Nat => (lstE true (consA (binE (varE 5) (conE (.int 33)) (cmpD2 (TT 7) ct .Lt)) (consA (binE (varE 5) (conE (.int 33)) (cmpD2 (TT 7) ct .Lt)) (consA (chainE (conE (.int 33)) (varE 5) (conE (.int 39)) (cmpD2 (TT 7) ct .LtE) (cmpD2 (TT 7) ct .Lt)) (consA (binE (varE 5) (conE (.int 39)) (cmpD2 (TT 7) ct .GtE)) (consA (conE (.bl false)) (consA (chainE (conE (.int 33)) (varE 5) (conE (.int 39)) (cmpD2 (TT 7) ct .LtE) (cmpD2 (TT 7) ct .Lt)) nilA))))))) [x0, x1, x2, x3, x4, some (.int (i : Nat)), x6, x7] S) (g := fun i => RE.ok (.lst (rts i)) S) (l := List.range 41) (by kernel_rfl) i hi
theorem q_ne2 {S : Hs} {i : Nat} (hi : i ∈ List.range 41) : neDF (TT 7) ct (.lst (rts i)) (.lst (rts i)) S = .ok (.bl false) S :=
  ext_map (f := fun i : Nat => neDF (TT 7) ct (.lst (rts i)) (.lst (rts i)) S) (g := fun _ => RE.ok (.bl false) S) (l := List.range 41) (by kernel_rfl) i hi
theorem q_nev {t : Atm} {S : Hs} : neDF (TT 7) ct t.pv t.pv S = .ok (.bl false) S := by
  have go : ∀ {v : PV}, neT (TT 7) ct v v S = .ok (.bl false) S → neDF (TT 7) ct v v S = .ok (.bl false) S := fun h => by
    unfold neDF
    rw [h]
  cases t with
  | nil => exact go rfl
  | non => exact go rfl
  | int i =>
    refine go ?_
    show RE.ok (.bl (!(i == i))) S = _
    rw [beq_self_eq_true]
    rfl
  | str s =>
    refine go ?_
    show RE.ok (.bl (!(s == s))) S = _
    rw [beq_self_eq_true]
    rfl
theorem fetch_rng' {n i : Nat} {S : Hs} : fetch S i (.rng 0 n) = some ((List.range n)[i]?.map fun j => PV.int (j : Nat)) := by
  by_cases h : i < n
  · rw [fetch_rng, if_pos h, List.getElem?_eq_getElem (by simpa using h), List.getElem_range, Int.zero_add]
    rfl
  · rw [fetch_rng, if_neg h, List.getElem?_eq_none (by simp; omega)]
    rfl
theorem one05 {ns : List Int} {x1 x2 x5 x6 x7 : Option PV} {t : Atm} {S : Hs} {i : Nat} (ht : t ≠ .nil) (hi : i ∈ List.range 41) : ∃ y6 y7, (seqS (asgS (callE 1 0 (consA (binE (varE 4) (varE 5) ixV2) nilA) nilA fun vs qs => useC true ((TT 7).run 2) ((fun vs _ => vs) vs qs)) (nameT 6))
    (seqS (ifS (orB (cmpB (binE (lcE true [7] (rngI (consA (conE (.int 41)) nilA)) (nameT 7) (truB (binE (varE 6) (varE 7) ixV2)) (varE 7)) (lstE true (consA (varE 5) nilA)) (neDF (TT 7) ct))) (cmpB (binE (exvE (okX isxR) (binE (varE 4) (varE 5) ixV2)) (varE 3) (neDF (TT 7) ct))))
    (seqS (retS (conE (.bl false)))
    nilS)
    nilS)
    (seqS (ifS (cmpB (binE (callE 1 0 (consA (binE (varE 4) (varE 5) ixV2) nilA) nilA fun vs qs => useC true ((TT 7).run 5) ((fun vs _ => vs) vs qs)) (lstE true (consA (binE (varE 5) (conE (.int 33)) (cmpD2 (TT 7) ct .Lt)) (consA (binE (varE 5) (conE (.int 33)) (cmpD2 (TT 7) ct .Lt)) (consA (chainE (conE (.int 33)) (varE 5) (conE (.int 39)) (cmpD2 (TT 7) ct .LtE) (cmpD2 (TT 7) ct .Lt)) (consA (binE (varE 5) (conE (.int 39)) (cmpD2 (TT 7) ct .GtE)) (consA (conE (.bl false)) (consA (chainE (conE (.int 33)) (varE 5) (conE (.int 39)) (cmpD2 (TT 7) ct .LtE) (cmpD2 (TT 7) ct .Lt)) nilA))))))) (neDF (TT 7) ct)))
    (seqS (retS (conE (.bl false)))
    nilS)
    nilS)
    nilS))) (LL ns x1 x2 (some t.pv) (some (made t)) (some (.int (i : Nat))) x6 x7) S = .nx (LL ns x1 x2 (some t.pv) (some (made t)) (some (.int (i : Nat))) y6 y7) S := by
  refine ⟨some (.lst (hot i)), x7, ?_⟩
  have a1 := fun S => q_at (t := t) (S := S) hi
  have a2 := fun S => q_kinds (t := t) (S := S) hi
  have a3 := fun S => q_roots (t := t) (S := S) hi
  have a4 := fun S => q_hot (x0 := some (.scr ns)) (x1 := x1) (x2 := x2) (x3 := some t.pv) (x4 := some (made t)) (x5 := some (.int (i : Nat))) (x7 := x7) (S := S) hi
  have a5 := fun S => q_ne1 (S := S) hi
  have a6 := fun S => q_rt (x0 := some (.scr ns)) (x1 := x1) (x2 := x2) (x3 := some t.pv) (x4 := some (made t)) (x6 := some (.lst (hot i))) (x7 := x7) (S := S) hi
  have a7 := fun S => q_ne2 (S := S) hi
  have a8 := fun S => q_nev (t := t) (S := S)
  have a9 := fun S => q_ok (S := S) ht hi (binE (varE 4) (varE 5) ixV2) [some (.scr ns), x1, x2, some t.pv, some (made t), some (.int (i : Nat)), some (.lst (hot i)), x7] (by
    show ixV2 (made t) (.int (i : Nat)) S = _
    exact a1 S)
  unfold LL
  generalize (lcE true [7] (rngI (consA (conE (.int 41)) nilA)) (nameT 7) (truB (binE (varE 6) (varE 7) ixV2)) (varE 7)) = C1 at a4 ⊢
  generalize (lstE true (consA (binE (varE 5) (conE (.int 33)) (cmpD2 (TT 7) ct .Lt)) (consA (binE (varE 5) (conE (.int 33)) (cmpD2 (TT 7) ct .Lt)) (consA (chainE (conE (.int 33)) (varE 5) (conE (.int 39)) (cmpD2 (TT 7) ct .LtE) (cmpD2 (TT 7) ct .Lt)) (consA (binE (varE 5) (conE (.int 39)) (cmpD2 (TT 7) ct .GtE)) (consA (conE (.bl false)) (consA (chainE (conE (.int 33)) (varE 5) (conE (.int 39)) (cmpD2 (TT 7) ct .LtE) (cmpD2 (TT 7) ct .Lt)) nilA))))))) = C2 at a6 ⊢
  generalize exvE (okX isxR) (binE (varE 4) (varE 5) ixV2) = C3 at a9 ⊢
  generalize neDF (TT 7) ct = C4 at *
  have f1 : ∀ S, lstE true (consA (varE 5) nilA) [some (.scr ns), x1, x2, some t.pv, some (made t), some (.int (i : Nat)), some (.lst (hot i)), x7] S = .ok (.lst [.int (i : Nat)]) S := fun S => rfl
  generalize lstE true (consA (varE 5) nilA) = C5 at f1 ⊢
  simp only [a1, a2, a3, a4, a5, a6, a7, a8, a9, f1, v_asg, v_re, v_reA, v_reB, v_reS, v_ra, v_raA, v_rb, v_rbB, v_rbS, v_rs, v_rt, v_seq, v_nil, v_ret, v_exp, v_if, v_asg, v_only, v_con, v_var0, v_varS, v_nilA, v_consA, v_bin, v_call, v_blt, v_and, v_or, v_not, v_okT, v_okB, v_okO, v_truBl, v_truInt, v_truB, v_cmpB, v_asB, v_andB, v_orB, v_notB, v_ite, v_noX, v_chain, v_useT, v_useF, v_b_int, v_i_int, v_b_str, v_add, v_sub, v_band, v_bor, v_bxor, v_mul, v_mod, v_fdiv, v_shl, v_shr, v_le, v_lt, v_eqI, v_neI, v_eqB, v_neB, v_setf, v_lst, v_una, v_attr, v_aug, v_name, List.length_cons, List.length_nil, Nat.zero_add, Nat.reduceAdd, Nat.reduceSub, and_self, if_true, if_false, Bool.false_eq_true, Bool.not_true, Bool.not_false, Bool.and_true, Bool.true_and, Bool.and_self, decide_true, decide_false, List.set_cons_zero, List.set_cons_succ, List.cons_append, List.nil_append, List.append_nil, cmpD2, cmpD, cmpV, ordV, runB, List.map_cons, List.map_nil, List.replicate, Nat.sub_self]
theorem w_val {ns : List Int} {x1 x2 x4 x5 x6 x7 : Option PV} {t : Atm} {S : Hs} {k : Nat} (ht : t ≠ .nil) (hk : okX isxR k = true) : exvE (okX isxR) (bltE (consA (varE 3) nilA) (exoV k)) (LL ns x1 x2 (some t.pv) x4 x5 x6 x7) S = .ok t.pv S := by
  have e : bltE (consA (varE 3) nilA) (exoV k) (LL ns x1 x2 (some t.pv) x4 x5 x6 x7) S = .ok (.exo k t) S := by
    cases t with
    | nil => exact absurd rfl ht
    | _ => rfl
  unfold exvE
  rw [e]
  show (if okX isxR k then _ else RE.bad) = _
  rw [if_pos hk]
  cases t with
  | nil => exact absurd rfl ht
  | _ => rfl
theorem w_root {ns : List Int} {x1 x2 x4 x5 x6 x7 : Option PV} {t : Atm} {S : Hs} {k : Nat} {rs : List Bool} (ht : t ≠ .nil) (h : (TT 7).run 5 [.exo k t] [] = .ok (.lst (rs.map fun b => PV.bl b)) []) : callE 1 0 (consA (bltE (consA (varE 3) nilA) (exoV k)) nilA) nilA (fun vs qs => useC true ((TT 7).run 5) ((fun vs _ => vs) vs qs)) (LL ns x1 x2 (some t.pv) x4 x5 x6 x7) S = .ok (.lst (rs.map fun b => PV.bl b)) S := by
  have e : bltE (consA (varE 3) nilA) (exoV k) (LL ns x1 x2 (some t.pv) x4 x5 x6 x7) S = .ok (.exo k t) S := by
    cases t with
    | nil => exact absurd rfl ht
    | _ => rfl
  have i := iso_ok (vs := [.exo k t]) (S := S) (f := (TT 7).run 5) rfl h (solid_bls (d := 22))
  generalize bltE (consA (varE 3) nilA) (exoV k) = f at *
  generalize LL ns x1 x2 (some t.pv) x4 x5 x6 x7 = L at *
  simp only [e, i, v_re, v_reA, v_reB, v_reS, v_ra, v_raA, v_rb, v_rbB, v_rbS, v_rs, v_rt, v_seq, v_nil, v_ret, v_exp, v_if, v_asg, v_only, v_con, v_var0, v_varS, v_nilA, v_consA, v_bin, v_call, v_blt, v_and, v_or, v_not, v_okT, v_okB, v_okO, v_truBl, v_truInt, v_truB, v_cmpB, v_asB, v_andB, v_orB, v_notB, v_ite, v_noX, v_chain, v_useT, v_useF, v_b_int, v_i_int, v_b_str, v_add, v_sub, v_band, v_bor, v_bxor, v_mul, v_mod, v_fdiv, v_shl, v_shr, v_le, v_lt, v_eqI, v_neI, v_eqB, v_neB, v_setf, v_lst, v_una, v_attr, v_aug, v_name, List.length_cons, List.length_nil, Nat.zero_add, Nat.reduceAdd, Nat.reduceSub, and_self, if_true, if_false, Bool.false_eq_true, Bool.not_true, Bool.not_false, Bool.and_true, Bool.true_and, Bool.and_self, decide_true, decide_false, List.set_cons_zero, List.set_cons_succ, List.cons_append, List.nil_append, List.append_nil, cmpD2, cmpD, cmpV, ordV, runB, List.map_cons, List.map_nil, List.replicate, Nat.sub_self]
theorem val05 {ns : List Int} {x1 x2 x4 x5 x6 x7 : Option PV} {t : Atm} {S : Hs} (ht : t ≠ .nil) : ∃ y4 y5 y6 y7, (seqS (asgS (callE 1 0 (consA (varE 3) nilA) nilA fun vs qs => useC true ((TT 7).run 4) ((fun vs _ => vs) vs qs)) (nameT 4))
    (seqS (forS (rngI (consA (conE (.int 41)) nilA)) (nameT 5)
    (seqS (asgS (callE 1 0 (consA (binE (varE 4) (varE 5) ixV2) nilA) nilA fun vs qs => useC true ((TT 7).run 2) ((fun vs _ => vs) vs qs)) (nameT 6))
    (seqS (ifS (orB (cmpB (binE (lcE true [7] (rngI (consA (conE (.int 41)) nilA)) (nameT 7) (truB (binE (varE 6) (varE 7) ixV2)) (varE 7)) (lstE true (consA (varE 5) nilA)) (neDF (TT 7) ct))) (cmpB (binE (exvE (okX isxR) (binE (varE 4) (varE 5) ixV2)) (varE 3) (neDF (TT 7) ct))))
    (seqS (retS (conE (.bl false)))
    nilS)
    nilS)
    (seqS (ifS (cmpB (binE (callE 1 0 (consA (binE (varE 4) (varE 5) ixV2) nilA) nilA fun vs qs => useC true ((TT 7).run 5) ((fun vs _ => vs) vs qs)) (lstE true (consA (binE (varE 5) (conE (.int 33)) (cmpD2 (TT 7) ct .Lt)) (consA (binE (varE 5) (conE (.int 33)) (cmpD2 (TT 7) ct .Lt)) (consA (chainE (conE (.int 33)) (varE 5) (conE (.int 39)) (cmpD2 (TT 7) ct .LtE) (cmpD2 (TT 7) ct .Lt)) (consA (binE (varE 5) (conE (.int 39)) (cmpD2 (TT 7) ct .GtE)) (consA (conE (.bl false)) (consA (chainE (conE (.int 33)) (varE 5) (conE (.int 39)) (cmpD2 (TT 7) ct .LtE) (cmpD2 (TT 7) ct .Lt)) nilA))))))) (neDF (TT 7) ct)))
    (seqS (retS (conE (.bl false)))
    nilS)
    nilS)
    nilS))))
    (seqS (ifS (orB (cmpB (binE (exvE (okX isxR) (bltE (consA (varE 3) nilA) (exoV 534))) (varE 3) (neDF (TT 7) ct))) (cmpB (binE (callE 1 0 (consA (bltE (consA (varE 3) nilA) (exoV 534)) nilA) nilA fun vs qs => useC true ((TT 7).run 5) ((fun vs _ => vs) vs qs)) (lstE true (consA (conE (.bl false)) (consA (conE (.bl false)) (consA (conE (.bl true)) (consA (conE (.bl false)) (consA (conE (.bl false)) (consA (conE (.bl true)) nilA))))))) (neDF (TT 7) ct))))
    (seqS (retS (conE (.bl false)))
    nilS)
    nilS)
    (seqS (ifS (cmpB (binE (callE 1 0 (consA (bltE (consA (varE 3) nilA) (exoV 500)) nilA) nilA fun vs qs => useC true ((TT 7).run 5) ((fun vs _ => vs) vs qs)) (lstE true (consA (conE (.bl true)) (consA (conE (.bl true)) (consA (conE (.bl false)) (consA (conE (.bl false)) (consA (conE (.bl false)) (consA (conE (.bl false)) nilA))))))) (neDF (TT 7) ct)))
    (seqS (retS (conE (.bl false)))
    nilS)
    nilS)
    (seqS (ifS (orB (cmpB (binE (exvE (okX isxR) (bltE (consA (varE 3) nilA) (exoV 500))) (varE 3) (neDF (TT 7) ct))) (cmpB (binE (callE 1 0 (consA (bltE nilA (exoN 543)) nilA) nilA fun vs qs => useC true ((TT 7).run 5) ((fun vs _ => vs) vs qs)) (binE (binE (lstE true (consA (conE (.bl false)) nilA)) (conE (.int 4)) (binV .Mult true)) (lstE true (consA (conE (.bl true)) (consA (conE (.bl false)) nilA))) (binV .Add true)) (neDF (TT 7) ct))))
    (seqS (retS (conE (.bl false)))
    nilS)
    nilS)
    nilS))))) (LL ns x1 x2 (some t.pv) x4 x5 x6 x7) S = .nx (LL ns x1 x2 (some t.pv) y4 y5 y6 y7) S := by
  have e0 : (asgS (callE 1 0 (consA (varE 3) nilA) nilA fun vs qs => useC true ((TT 7).run 4) ((fun vs _ => vs) vs qs)) (nameT 4)) (LL ns x1 x2 (some t.pv) x4 x5 x6 x7) S = .nx (LL ns x1 x2 (some t.pv) (some (made t)) x5 x6 x7) S := by
    have a := fun S => q_made (S := S) ht
    unfold LL
    simp only [a, v_asg, v_re, v_reA, v_reB, v_reS, v_ra, v_raA, v_rb, v_rbB, v_rbS, v_rs, v_rt, v_seq, v_nil, v_ret, v_exp, v_if, v_asg, v_only, v_con, v_var0, v_varS, v_nilA, v_consA, v_bin, v_call, v_blt, v_and, v_or, v_not, v_okT, v_okB, v_okO, v_truBl, v_truInt, v_truB, v_cmpB, v_asB, v_andB, v_orB, v_notB, v_ite, v_noX, v_chain, v_useT, v_useF, v_b_int, v_i_int, v_b_str, v_add, v_sub, v_band, v_bor, v_bxor, v_mul, v_mod, v_fdiv, v_shl, v_shr, v_le, v_lt, v_eqI, v_neI, v_eqB, v_neB, v_setf, v_lst, v_una, v_attr, v_aug, v_name, List.length_cons, List.length_nil, Nat.zero_add, Nat.reduceAdd, Nat.reduceSub, and_self, if_true, if_false, Bool.false_eq_true, Bool.not_true, Bool.not_false, Bool.and_true, Bool.true_and, Bool.and_self, decide_true, decide_false, List.set_cons_zero, List.set_cons_succ, List.cons_append, List.nil_append, List.append_nil, cmpD2, cmpD, cmpV, ordV, runB, List.map_cons, List.map_nil, List.replicate, Nat.sub_self]
  have es : ∀ L S, (rngI (consA (conE (.int 41)) nilA)) L S = .ok (.rng 0 41) S := fun _ _ => rfl
  obtain ⟨L2, S2, el, ⟨y5, y6, y7, rfl⟩, rfl⟩ : ∃ L2 S2, forS (rngI (consA (conE (.int 41)) nilA)) (nameT 5) (seqS (asgS (callE 1 0 (consA (binE (varE 4) (varE 5) ixV2) nilA) nilA fun vs qs => useC true ((TT 7).run 2) ((fun vs _ => vs) vs qs)) (nameT 6))
    (seqS (ifS (orB (cmpB (binE (lcE true [7] (rngI (consA (conE (.int 41)) nilA)) (nameT 7) (truB (binE (varE 6) (varE 7) ixV2)) (varE 7)) (lstE true (consA (varE 5) nilA)) (neDF (TT 7) ct))) (cmpB (binE (exvE (okX isxR) (binE (varE 4) (varE 5) ixV2)) (varE 3) (neDF (TT 7) ct))))
    (seqS (retS (conE (.bl false)))
    nilS)
    nilS)
    (seqS (ifS (cmpB (binE (callE 1 0 (consA (binE (varE 4) (varE 5) ixV2) nilA) nilA fun vs qs => useC true ((TT 7).run 5) ((fun vs _ => vs) vs qs)) (lstE true (consA (binE (varE 5) (conE (.int 33)) (cmpD2 (TT 7) ct .Lt)) (consA (binE (varE 5) (conE (.int 33)) (cmpD2 (TT 7) ct .Lt)) (consA (chainE (conE (.int 33)) (varE 5) (conE (.int 39)) (cmpD2 (TT 7) ct .LtE) (cmpD2 (TT 7) ct .Lt)) (consA (binE (varE 5) (conE (.int 39)) (cmpD2 (TT 7) ct .GtE)) (consA (conE (.bl false)) (consA (chainE (conE (.int 33)) (varE 5) (conE (.int 39)) (cmpD2 (TT 7) ct .LtE) (cmpD2 (TT 7) ct .Lt)) nilA))))))) (neDF (TT 7) ct)))
    (seqS (retS (conE (.bl false)))
    nilS)
    nilS)
    nilS))) (LL ns x1 x2 (some t.pv) (some (made t)) x5 x6 x7) S = .nx L2 S2 ∧ (∃ y5 y6 y7, L2 = LL ns x1 x2 (some t.pv) (some (made t)) y5 y6 y7) ∧ S2 = S := by
    obtain ⟨L2, S2, el, h⟩ := for_ok (src := (rngI (consA (conE (.int 41)) nilA))) (tgt := nameT 5) (body := (seqS (asgS (callE 1 0 (consA (binE (varE 4) (varE 5) ixV2) nilA) nilA fun vs qs => useC true ((TT 7).run 2) ((fun vs _ => vs) vs qs)) (nameT 6))
    (seqS (ifS (orB (cmpB (binE (lcE true [7] (rngI (consA (conE (.int 41)) nilA)) (nameT 7) (truB (binE (varE 6) (varE 7) ixV2)) (varE 7)) (lstE true (consA (varE 5) nilA)) (neDF (TT 7) ct))) (cmpB (binE (exvE (okX isxR) (binE (varE 4) (varE 5) ixV2)) (varE 3) (neDF (TT 7) ct))))
    (seqS (retS (conE (.bl false)))
    nilS)
    nilS)
    (seqS (ifS (cmpB (binE (callE 1 0 (consA (binE (varE 4) (varE 5) ixV2) nilA) nilA fun vs qs => useC true ((TT 7).run 5) ((fun vs _ => vs) vs qs)) (lstE true (consA (binE (varE 5) (conE (.int 33)) (cmpD2 (TT 7) ct .Lt)) (consA (binE (varE 5) (conE (.int 33)) (cmpD2 (TT 7) ct .Lt)) (consA (chainE (conE (.int 33)) (varE 5) (conE (.int 39)) (cmpD2 (TT 7) ct .LtE) (cmpD2 (TT 7) ct .Lt)) (consA (binE (varE 5) (conE (.int 39)) (cmpD2 (TT 7) ct .GtE)) (consA (conE (.bl false)) (consA (chainE (conE (.int 33)) (varE 5) (conE (.int 39)) (cmpD2 (TT 7) ct .LtE) (cmpD2 (TT 7) ct .Lt)) nilA))))))) (neDF (TT 7) ct)))
    (seqS (retS (conE (.bl false)))
    nilS)
    nilS)
    nilS)))) (L := LL ns x1 x2 (some t.pv) (some (made t)) x5 x6 x7) (n := 41) (d := .rng 0 41) (fun i L S' => (∃ y5 y6 y7, L = LL ns x1 x2 (some t.pv) (some (made t)) y5 y6 y7) ∧ S' = S) (es _ S) (by
      rintro i L S' hi ⟨⟨y5, y6, y7, rfl⟩, rfl⟩
      obtain ⟨z6, z7, e⟩ := one05 (ns := ns) (x1 := x1) (x2 := x2) (x5 := y5) (x6 := y6) (x7 := y7) (S := S') ht (List.mem_range.mpr hi)
      refine ⟨.int (i : Nat), _, S', _, S', by rw [fetch_rng, if_pos hi, Int.zero_add], rfl, e, ⟨_, _, _, rfl⟩, rfl⟩) (fun L S _ => by rw [fetch_rng, if_neg (Nat.lt_irrefl _)]) (by omega) ⟨⟨_, _, _, rfl⟩, rfl⟩
    exact ⟨L2, S2, el, h⟩
  generalize hL : LL ns x1 x2 (some t.pv) (some (made t)) y5 y6 y7 = L3 at el
  have n0 := fun S => q_nev (t := t) (S := S)
  have r1 : ∀ S, _ := fun S => w_root (ns := ns) (x1 := x1) (x2 := x2) (x4 := some (made t)) (x5 := y5) (x6 := y6) (x7 := y7) (S := S) (k := 534) (rs := [false, false, true, false, false, true]) ht (by kernel_rfl)
  have r2 : ∀ S, _ := fun S => w_root (ns := ns) (x1 := x1) (x2 := x2) (x4 := some (made t)) (x5 := y5) (x6 := y6) (x7 := y7) (S := S) (k := 500) (rs := [true, true, false, false, false, false]) ht (by kernel_rfl)
  have v1 := fun S => w_val (ns := ns) (x1 := x1) (x2 := x2) (x4 := some (made t)) (x5 := y5) (x6 := y6) (x7 := y7) (S := S) (k := 534) ht (by kernel_rfl)
  have v2 := fun S => w_val (ns := ns) (x1 := x1) (x2 := x2) (x4 := some (made t)) (x5 := y5) (x6 := y6) (x7 := y7) (S := S) (k := 500) ht (by kernel_rfl)
  rw [hL] at r1 r2 v1 v2
  have c1 : ∀ S, cmpB (binE (callE 1 0 (consA (bltE (consA (varE 3) nilA) (exoV 534)) nilA) nilA fun vs qs => useC true ((TT 7).run 5) ((fun vs _ => vs) vs qs)) (lstE true (consA (conE (.bl false)) (consA (conE (.bl false)) (consA (conE (.bl true)) (consA (conE (.bl false)) (consA (conE (.bl false)) (consA (conE (.bl true)) nilA))))))) (neDF (TT 7) ct)) L3 S = .ok false S := fun S => by
    unfold cmpB binE
    rw [r1]
    kernel_rfl
  have c2 : ∀ S, cmpB (binE (callE 1 0 (consA (bltE (consA (varE 3) nilA) (exoV 500)) nilA) nilA fun vs qs => useC true ((TT 7).run 5) ((fun vs _ => vs) vs qs)) (lstE true (consA (conE (.bl true)) (consA (conE (.bl true)) (consA (conE (.bl false)) (consA (conE (.bl false)) (consA (conE (.bl false)) (consA (conE (.bl false)) nilA))))))) (neDF (TT 7) ct)) L3 S = .ok false S := fun S => by
    unfold cmpB binE
    rw [r2]
    kernel_rfl
  have n1 : ∀ S, neDF (TT 7) ct t.pv t.pv S = .ok (.bl false) S := n0
  have v3 : ∀ S, varE 3 L3 S = .ok t.pv S := fun S => by rw [← hL]; rfl
  have d1 : ∀ S, cmpB (binE (exvE (okX isxR) (bltE (consA (varE 3) nilA) (exoV 534))) (varE 3) (neDF (TT 7) ct)) L3 S = .ok false S := fun S => by
    simp only [v1, v3, n1, v_re, v_reA, v_reB, v_reS, v_ra, v_raA, v_rb, v_rbB, v_rbS, v_rs, v_rt, v_seq, v_nil, v_ret, v_exp, v_if, v_asg, v_only, v_con, v_var0, v_varS, v_nilA, v_consA, v_bin, v_call, v_blt, v_and, v_or, v_not, v_okT, v_okB, v_okO, v_truBl, v_truInt, v_truB, v_cmpB, v_asB, v_andB, v_orB, v_notB, v_ite, v_noX, v_chain, v_useT, v_useF, v_b_int, v_i_int, v_b_str, v_add, v_sub, v_band, v_bor, v_bxor, v_mul, v_mod, v_fdiv, v_shl, v_shr, v_le, v_lt, v_eqI, v_neI, v_eqB, v_neB, v_setf, v_lst, v_una, v_attr, v_aug, v_name, List.length_cons, List.length_nil, Nat.zero_add, Nat.reduceAdd, Nat.reduceSub, and_self, if_true, if_false, Bool.false_eq_true, Bool.not_true, Bool.not_false, Bool.and_true, Bool.true_and, Bool.and_self, decide_true, decide_false, List.set_cons_zero, List.set_cons_succ, List.cons_append, List.nil_append, List.append_nil, cmpD2, cmpD, cmpV, ordV, runB, List.map_cons, List.map_nil, List.replicate, Nat.sub_self]
  have d2 : ∀ S, cmpB (binE (exvE (okX isxR) (bltE (consA (varE 3) nilA) (exoV 500))) (varE 3) (neDF (TT 7) ct)) L3 S = .ok false S := fun S => by
    simp only [v2, v3, n1, v_re, v_reA, v_reB, v_reS, v_ra, v_raA, v_rb, v_rbB, v_rbS, v_rs, v_rt, v_seq, v_nil, v_ret, v_exp, v_if, v_asg, v_only, v_con, v_var0, v_varS, v_nilA, v_consA, v_bin, v_call, v_blt, v_and, v_or, v_not, v_okT, v_okB, v_okO, v_truBl, v_truInt, v_truB, v_cmpB, v_asB, v_andB, v_orB, v_notB, v_ite, v_noX, v_chain, v_useT, v_useF, v_b_int, v_i_int, v_b_str, v_add, v_sub, v_band, v_bor, v_bxor, v_mul, v_mod, v_fdiv, v_shl, v_shr, v_le, v_lt, v_eqI, v_neI, v_eqB, v_neB, v_setf, v_lst, v_una, v_attr, v_aug, v_name, List.length_cons, List.length_nil, Nat.zero_add, Nat.reduceAdd, Nat.reduceSub, and_self, if_true, if_false, Bool.false_eq_true, Bool.not_true, Bool.not_false, Bool.and_true, Bool.true_and, Bool.and_self, decide_true, decide_false, List.set_cons_zero, List.set_cons_succ, List.cons_append, List.nil_append, List.append_nil, cmpD2, cmpD, cmpV, ordV, runB, List.map_cons, List.map_nil, List.replicate, Nat.sub_self]
  have r3 : ∀ S, callE 1 0 (consA (bltE nilA (exoN 543)) nilA) nilA (fun vs qs => useC true ((TT 7).run 5) ((fun vs _ => vs) vs qs)) L3 S = .ok (.lst ([false, false, false, false, true, false].map fun b => PV.bl b)) S := fun S => by
    have i := iso_ok (vs := [.exo 543 .nil]) (S := S) (f := (TT 7).run 5) (v := .lst ([false, false, false, false, true, false].map fun b => PV.bl b)) (S1 := []) rfl (by kernel_rfl) (solid_bls (d := 22))
    have e : ∀ S, bltE nilA (exoN 543) L3 S = .ok (.exo 543 .nil) S := fun _ => rfl
    generalize bltE nilA (exoN 543) = f at *
    simp only [e, i, v_re, v_reA, v_reB, v_reS, v_ra, v_raA, v_rb, v_rbB, v_rbS, v_rs, v_rt, v_seq, v_nil, v_ret, v_exp, v_if, v_asg, v_only, v_con, v_var0, v_varS, v_nilA, v_consA, v_bin, v_call, v_blt, v_and, v_or, v_not, v_okT, v_okB, v_okO, v_truBl, v_truInt, v_truB, v_cmpB, v_asB, v_andB, v_orB, v_notB, v_ite, v_noX, v_chain, v_useT, v_useF, v_b_int, v_i_int, v_b_str, v_add, v_sub, v_band, v_bor, v_bxor, v_mul, v_mod, v_fdiv, v_shl, v_shr, v_le, v_lt, v_eqI, v_neI, v_eqB, v_neB, v_setf, v_lst, v_una, v_attr, v_aug, v_name, List.length_cons, List.length_nil, Nat.zero_add, Nat.reduceAdd, Nat.reduceSub, and_self, if_true, if_false, Bool.false_eq_true, Bool.not_true, Bool.not_false, Bool.and_true, Bool.true_and, Bool.and_self, decide_true, decide_false, List.set_cons_zero, List.set_cons_succ, List.cons_append, List.nil_append, List.append_nil, cmpD2, cmpD, cmpV, ordV, runB, List.map_cons, List.map_nil, List.replicate, Nat.sub_self]
  have c3 : ∀ S, cmpB (binE (callE 1 0 (consA (bltE nilA (exoN 543)) nilA) nilA (fun vs qs => useC true ((TT 7).run 5) ((fun vs _ => vs) vs qs))) (binE (binE (lstE true (consA (conE (.bl false)) nilA)) (conE (.int 4)) (binV .Mult true)) (lstE true (consA (conE (.bl true)) (consA (conE (.bl false)) nilA))) (binV .Add true)) (neDF (TT 7) ct)) L3 S = .ok false S := fun S => by
    unfold cmpB binE
    rw [r3]
    kernel_rfl
  refine ⟨some (made t), y5, y6, y7, ?_⟩
  rw [hL, v_seq, e0, v_rs, v_seq, el, v_rs]
  generalize cmpB (binE (callE 1 0 (consA (bltE (consA (varE 3) nilA) (exoV 534)) nilA) nilA fun vs qs => useC true ((TT 7).run 5) ((fun vs _ => vs) vs qs)) (lstE true (consA (conE (.bl false)) (consA (conE (.bl false)) (consA (conE (.bl true)) (consA (conE (.bl false)) (consA (conE (.bl false)) (consA (conE (.bl true)) nilA))))))) (neDF (TT 7) ct)) = C1 at c1 ⊢
  generalize cmpB (binE (callE 1 0 (consA (bltE (consA (varE 3) nilA) (exoV 500)) nilA) nilA fun vs qs => useC true ((TT 7).run 5) ((fun vs _ => vs) vs qs)) (lstE true (consA (conE (.bl true)) (consA (conE (.bl true)) (consA (conE (.bl false)) (consA (conE (.bl false)) (consA (conE (.bl false)) (consA (conE (.bl false)) nilA))))))) (neDF (TT 7) ct)) = C2 at c2 ⊢
  generalize (cmpB (binE (callE 1 0 (consA (bltE nilA (exoN 543)) nilA) nilA fun vs qs => useC true ((TT 7).run 5) ((fun vs _ => vs) vs qs)) (binE (binE (lstE true (consA (conE (.bl false)) nilA)) (conE (.int 4)) (binV .Mult true)) (lstE true (consA (conE (.bl true)) (consA (conE (.bl false)) nilA))) (binV .Add true)) (neDF (TT 7) ct))) = C3 at c3 ⊢
  generalize cmpB (binE (exvE (okX isxR) (bltE (consA (varE 3) nilA) (exoV 534))) (varE 3) (neDF (TT 7) ct)) = D1 at d1 ⊢
  generalize cmpB (binE (exvE (okX isxR) (bltE (consA (varE 3) nilA) (exoV 500))) (varE 3) (neDF (TT 7) ct)) = D2 at d2 ⊢
  simp only [c1, c2, c3, d1, d2, v_re, v_reA, v_reB, v_reS, v_ra, v_raA, v_rb, v_rbB, v_rbS, v_rs, v_rt, v_seq, v_nil, v_ret, v_exp, v_if, v_asg, v_only, v_con, v_var0, v_varS, v_nilA, v_consA, v_bin, v_call, v_blt, v_and, v_or, v_not, v_okT, v_okB, v_okO, v_truBl, v_truInt, v_truB, v_cmpB, v_asB, v_andB, v_orB, v_notB, v_ite, v_noX, v_chain, v_useT, v_useF, v_b_int, v_i_int, v_b_str, v_add, v_sub, v_band, v_bor, v_bxor, v_mul, v_mod, v_fdiv, v_shl, v_shr, v_le, v_lt, v_eqI, v_neI, v_eqB, v_neB, v_setf, v_lst, v_una, v_attr, v_aug, v_name, List.length_cons, List.length_nil, Nat.zero_add, Nat.reduceAdd, Nat.reduceSub, and_self, if_true, if_false, Bool.false_eq_true, Bool.not_true, Bool.not_false, Bool.and_true, Bool.true_and, Bool.and_self, decide_true, decide_false, List.set_cons_zero, List.set_cons_succ, List.cons_append, List.nil_append, List.append_nil, cmpD2, cmpD, cmpV, ordV, runB, List.map_cons, List.map_nil, List.replicate, Nat.sub_self]
theorem turn05 {ns : List Int} {k : Nat} {x2 x3 x4 x5 x6 x7 : Option PV} {S : Hs} (hk : k < 64) : ∃ y2 y3 y4 y5 y6 y7 S', (seqS (asgS (callE 2 0 (consA (varE 0) (consA (varE 1) nilA)) nilA fun vs qs => useC false ((TT 7).run 0) ((fun vs _ => vs) vs qs)) (nameT 2))
    (seqS (forS (valI (lstE true (consA (callE 2 0 (consA (varE 2) (consA (binE (conE (.int 10)) (conE (.int 9)) (binV .Pow true)) nilA)) nilA fun vs qs => useC false ((TT 7).run 1) ((fun vs _ => vs) vs qs)) (consA (binE (conE (.str [97, 98, 99, 100])) (callE 2 0 (consA (varE 2) (consA (conE (.int 4)) nilA)) nilA fun vs qs => useC false ((TT 7).run 1) ((fun vs _ => vs) vs qs)) ixV2) (consA (conE .non) nilA))))) (nameT 3)
    (seqS (asgS (callE 1 0 (consA (varE 3) nilA) nilA fun vs qs => useC true ((TT 7).run 4) ((fun vs _ => vs) vs qs)) (nameT 4))
    (seqS (forS (rngI (consA (conE (.int 41)) nilA)) (nameT 5)
    (seqS (asgS (callE 1 0 (consA (binE (varE 4) (varE 5) ixV2) nilA) nilA fun vs qs => useC true ((TT 7).run 2) ((fun vs _ => vs) vs qs)) (nameT 6))
    (seqS (ifS (orB (cmpB (binE (lcE true [7] (rngI (consA (conE (.int 41)) nilA)) (nameT 7) (truB (binE (varE 6) (varE 7) ixV2)) (varE 7)) (lstE true (consA (varE 5) nilA)) (neDF (TT 7) ct))) (cmpB (binE (exvE (okX isxR) (binE (varE 4) (varE 5) ixV2)) (varE 3) (neDF (TT 7) ct))))
    (seqS (retS (conE (.bl false)))
    nilS)
    nilS)
    (seqS (ifS (cmpB (binE (callE 1 0 (consA (binE (varE 4) (varE 5) ixV2) nilA) nilA fun vs qs => useC true ((TT 7).run 5) ((fun vs _ => vs) vs qs)) (lstE true (consA (binE (varE 5) (conE (.int 33)) (cmpD2 (TT 7) ct .Lt)) (consA (binE (varE 5) (conE (.int 33)) (cmpD2 (TT 7) ct .Lt)) (consA (chainE (conE (.int 33)) (varE 5) (conE (.int 39)) (cmpD2 (TT 7) ct .LtE) (cmpD2 (TT 7) ct .Lt)) (consA (binE (varE 5) (conE (.int 39)) (cmpD2 (TT 7) ct .GtE)) (consA (conE (.bl false)) (consA (chainE (conE (.int 33)) (varE 5) (conE (.int 39)) (cmpD2 (TT 7) ct .LtE) (cmpD2 (TT 7) ct .Lt)) nilA))))))) (neDF (TT 7) ct)))
    (seqS (retS (conE (.bl false)))
    nilS)
    nilS)
    nilS))))
    (seqS (ifS (orB (cmpB (binE (exvE (okX isxR) (bltE (consA (varE 3) nilA) (exoV 534))) (varE 3) (neDF (TT 7) ct))) (cmpB (binE (callE 1 0 (consA (bltE (consA (varE 3) nilA) (exoV 534)) nilA) nilA fun vs qs => useC true ((TT 7).run 5) ((fun vs _ => vs) vs qs)) (lstE true (consA (conE (.bl false)) (consA (conE (.bl false)) (consA (conE (.bl true)) (consA (conE (.bl false)) (consA (conE (.bl false)) (consA (conE (.bl true)) nilA))))))) (neDF (TT 7) ct))))
    (seqS (retS (conE (.bl false)))
    nilS)
    nilS)
    (seqS (ifS (cmpB (binE (callE 1 0 (consA (bltE (consA (varE 3) nilA) (exoV 500)) nilA) nilA fun vs qs => useC true ((TT 7).run 5) ((fun vs _ => vs) vs qs)) (lstE true (consA (conE (.bl true)) (consA (conE (.bl true)) (consA (conE (.bl false)) (consA (conE (.bl false)) (consA (conE (.bl false)) (consA (conE (.bl false)) nilA))))))) (neDF (TT 7) ct)))
    (seqS (retS (conE (.bl false)))
    nilS)
    nilS)
    (seqS (ifS (orB (cmpB (binE (exvE (okX isxR) (bltE (consA (varE 3) nilA) (exoV 500))) (varE 3) (neDF (TT 7) ct))) (cmpB (binE (callE 1 0 (consA (bltE nilA (exoN 543)) nilA) nilA fun vs qs => useC true ((TT 7).run 5) ((fun vs _ => vs) vs qs)) (binE (binE (lstE true (consA (conE (.bl false)) nilA)) (conE (.int 4)) (binV .Mult true)) (lstE true (consA (conE (.bl true)) (consA (conE (.bl false)) nilA))) (binV .Add true)) (neDF (TT 7) ct))))
    (seqS (retS (conE (.bl false)))
    nilS)
    nilS)
    nilS))))))
    nilS)) (LL ns (some (.int (k : Nat))) x2 x3 x4 x5 x6 x7) S = .nx (LL ns (some (.int (k : Nat))) y2 y3 y4 y5 y6 y7) S' := by
  obtain ⟨p, q, hp, e⟩ := u_pool (n := 6) (S := S) (ns := ns) hk
  obtain ⟨r, S1, h1, e1⟩ : ∃ r S1, HasPool S1 r ∧ (TT 7).run 0 [.scr ns, .int (k : Nat)] S = .ok (.loc r) S1 := pool1 hk
  obtain ⟨v, S2, v0, v1, h2, e2⟩ := take1 (n := 6) h1 (m := 1000000000) (by decide) (by decide)
  obtain ⟨w, S3, w0, w1, h3, e3⟩ := take1 (n := 6) h2 (m := 4) (by decide) (by decide)
  have hw : w = 0 ∨ w = 1 ∨ w = 2 ∨ w = 3 := by omega
  obtain ⟨c, ec⟩ : ∃ c : Nat, ∀ S, ixV2 (.str [97, 98, 99, 100]) (.int w) S = .ok (.str [c]) S := by
    rcases hw with rfl | rfl | rfl | rfl
    · exact ⟨97, fun _ => rfl⟩
    · exact ⟨98, fun _ => rfl⟩
    · exact ⟨99, fun _ => rfl⟩
    · exact ⟨100, fun _ => rfl⟩
  have p9 : ∀ S, binE (conE (.int 10)) (conE (.int 9)) (binV .Pow true) (LL ns (some (.int (k : Nat))) (some (.loc r)) x3 x4 x5 x6 x7) S = .ok (.int 1000000000) S := fun S => rfl
  have es : (valI (lstE true (consA (callE 2 0 (consA (varE 2) (consA (binE (conE (.int 10)) (conE (.int 9)) (binV .Pow true)) nilA)) nilA fun vs qs => useC false ((TT 7).run 1) ((fun vs _ => vs) vs qs)) (consA (binE (conE (.str [97, 98, 99, 100])) (callE 2 0 (consA (varE 2) (consA (conE (.int 4)) nilA)) nilA fun vs qs => useC false ((TT 7).run 1) ((fun vs _ => vs) vs qs)) ixV2) (consA (conE .non) nilA))))) (LL ns (some (.int (k : Nat))) (some (.loc r)) x3 x4 x5 x6 x7) S1 = .ok (.seq (.lst ([Atm.int v, .str [c], .non].map Atm.pv))) S3 := by
    have ep : (lstE true (consA (callE 2 0 (consA (varE 2) (consA (binE (conE (.int 10)) (conE (.int 9)) (binV .Pow true)) nilA)) nilA fun vs qs => useC false ((TT 7).run 1) ((fun vs _ => vs) vs qs)) (consA (binE (conE (.str [97, 98, 99, 100])) (callE 2 0 (consA (varE 2) (consA (conE (.int 4)) nilA)) nilA fun vs qs => useC false ((TT 7).run 1) ((fun vs _ => vs) vs qs)) ixV2) (consA (conE .non) nilA)))) (LL ns (some (.int (k : Nat))) (some (.loc r)) x3 x4 x5 x6 x7) S1 = .ok (.lst [.int v, .str [c], .non]) S3 := by
      have g2 : (TT 7).run 1 [.loc r, .int 1000000000] S1 = .ok (.int v) S2 := e2
      have g3 : (TT 7).run 1 [.loc r, .int 4] S2 = .ok (.int w) S3 := e3
      have w2 : ∀ S, varE 2 (LL ns (some (.int (k : Nat))) (some (.loc r)) x3 x4 x5 x6 x7) S = .ok (.loc r) S := fun _ => rfl
      have ff : fits [PV.int v, .str [c], .non] = true := rfl
      generalize LL ns (some (.int (k : Nat))) (some (.loc r)) x3 x4 x5 x6 x7 = L at *
      simp only [w2, p9, g2, g3, ec, ff, v_re, v_reA, v_reB, v_reS, v_ra, v_raA, v_rb, v_rbB, v_rbS, v_rs, v_rt, v_seq, v_nil, v_ret, v_exp, v_if, v_asg, v_only, v_con, v_var0, v_varS, v_nilA, v_consA, v_bin, v_call, v_blt, v_and, v_or, v_not, v_okT, v_okB, v_okO, v_truBl, v_truInt, v_truB, v_cmpB, v_asB, v_andB, v_orB, v_notB, v_ite, v_noX, v_chain, v_useT, v_useF, v_b_int, v_i_int, v_b_str, v_add, v_sub, v_band, v_bor, v_bxor, v_mul, v_mod, v_fdiv, v_shl, v_shr, v_le, v_lt, v_eqI, v_neI, v_eqB, v_neB, v_setf, v_lst, v_una, v_attr, v_aug, v_name, List.length_cons, List.length_nil, Nat.zero_add, Nat.reduceAdd, Nat.reduceSub, and_self, if_true, if_false, Bool.false_eq_true, Bool.not_true, Bool.not_false, Bool.and_true, Bool.true_and, Bool.and_self, decide_true, decide_false, List.set_cons_zero, List.set_cons_succ, List.cons_append, List.nil_append, List.append_nil, cmpD2, cmpD, cmpV, ordV, runB, List.map_cons, List.map_nil, List.replicate, Nat.sub_self]
    show valI _ _ _ = _
    unfold valI
    rw [ep]
    rfl
  obtain ⟨L2, S4, el, y3, y4, y5, y6, y7, rfl⟩ := for_ok (src := (valI (lstE true (consA (callE 2 0 (consA (varE 2) (consA (binE (conE (.int 10)) (conE (.int 9)) (binV .Pow true)) nilA)) nilA fun vs qs => useC false ((TT 7).run 1) ((fun vs _ => vs) vs qs)) (consA (binE (conE (.str [97, 98, 99, 100])) (callE 2 0 (consA (varE 2) (consA (conE (.int 4)) nilA)) nilA fun vs qs => useC false ((TT 7).run 1) ((fun vs _ => vs) vs qs)) ixV2) (consA (conE .non) nilA)))))) (tgt := nameT 3) (body := (seqS (asgS (callE 1 0 (consA (varE 3) nilA) nilA fun vs qs => useC true ((TT 7).run 4) ((fun vs _ => vs) vs qs)) (nameT 4))
    (seqS (forS (rngI (consA (conE (.int 41)) nilA)) (nameT 5)
    (seqS (asgS (callE 1 0 (consA (binE (varE 4) (varE 5) ixV2) nilA) nilA fun vs qs => useC true ((TT 7).run 2) ((fun vs _ => vs) vs qs)) (nameT 6))
    (seqS (ifS (orB (cmpB (binE (lcE true [7] (rngI (consA (conE (.int 41)) nilA)) (nameT 7) (truB (binE (varE 6) (varE 7) ixV2)) (varE 7)) (lstE true (consA (varE 5) nilA)) (neDF (TT 7) ct))) (cmpB (binE (exvE (okX isxR) (binE (varE 4) (varE 5) ixV2)) (varE 3) (neDF (TT 7) ct))))
    (seqS (retS (conE (.bl false)))
    nilS)
    nilS)
    (seqS (ifS (cmpB (binE (callE 1 0 (consA (binE (varE 4) (varE 5) ixV2) nilA) nilA fun vs qs => useC true ((TT 7).run 5) ((fun vs _ => vs) vs qs)) (lstE true (consA (binE (varE 5) (conE (.int 33)) (cmpD2 (TT 7) ct .Lt)) (consA (binE (varE 5) (conE (.int 33)) (cmpD2 (TT 7) ct .Lt)) (consA (chainE (conE (.int 33)) (varE 5) (conE (.int 39)) (cmpD2 (TT 7) ct .LtE) (cmpD2 (TT 7) ct .Lt)) (consA (binE (varE 5) (conE (.int 39)) (cmpD2 (TT 7) ct .GtE)) (consA (conE (.bl false)) (consA (chainE (conE (.int 33)) (varE 5) (conE (.int 39)) (cmpD2 (TT 7) ct .LtE) (cmpD2 (TT 7) ct .Lt)) nilA))))))) (neDF (TT 7) ct)))
    (seqS (retS (conE (.bl false)))
    nilS)
    nilS)
    nilS))))
    (seqS (ifS (orB (cmpB (binE (exvE (okX isxR) (bltE (consA (varE 3) nilA) (exoV 534))) (varE 3) (neDF (TT 7) ct))) (cmpB (binE (callE 1 0 (consA (bltE (consA (varE 3) nilA) (exoV 534)) nilA) nilA fun vs qs => useC true ((TT 7).run 5) ((fun vs _ => vs) vs qs)) (lstE true (consA (conE (.bl false)) (consA (conE (.bl false)) (consA (conE (.bl true)) (consA (conE (.bl false)) (consA (conE (.bl false)) (consA (conE (.bl true)) nilA))))))) (neDF (TT 7) ct))))
    (seqS (retS (conE (.bl false)))
    nilS)
    nilS)
    (seqS (ifS (cmpB (binE (callE 1 0 (consA (bltE (consA (varE 3) nilA) (exoV 500)) nilA) nilA fun vs qs => useC true ((TT 7).run 5) ((fun vs _ => vs) vs qs)) (lstE true (consA (conE (.bl true)) (consA (conE (.bl true)) (consA (conE (.bl false)) (consA (conE (.bl false)) (consA (conE (.bl false)) (consA (conE (.bl false)) nilA))))))) (neDF (TT 7) ct)))
    (seqS (retS (conE (.bl false)))
    nilS)
    nilS)
    (seqS (ifS (orB (cmpB (binE (exvE (okX isxR) (bltE (consA (varE 3) nilA) (exoV 500))) (varE 3) (neDF (TT 7) ct))) (cmpB (binE (callE 1 0 (consA (bltE nilA (exoN 543)) nilA) nilA fun vs qs => useC true ((TT 7).run 5) ((fun vs _ => vs) vs qs)) (binE (binE (lstE true (consA (conE (.bl false)) nilA)) (conE (.int 4)) (binV .Mult true)) (lstE true (consA (conE (.bl true)) (consA (conE (.bl false)) nilA))) (binV .Add true)) (neDF (TT 7) ct))))
    (seqS (retS (conE (.bl false)))
    nilS)
    nilS)
    nilS)))))) (L := LL ns (some (.int (k : Nat))) (some (.loc r)) x3 x4 x5 x6 x7) (n := 3) (d := .seq (.lst ([Atm.int v, .str [c], .non].map Atm.pv))) (fun i L S' => ∃ y3 y4 y5 y6 y7, L = LL ns (some (.int (k : Nat))) (some (.loc r)) y3 y4 y5 y6 y7) es (by
    rintro i L S' hi ⟨y3, y4, y5, y6, y7, rfl⟩
    obtain ⟨t, et, ht⟩ : ∃ t, [Atm.int v, .str [c], .non][i]? = some t ∧ t ≠ .nil := by
      have : i = 0 ∨ i = 1 ∨ i = 2 := by omega
      rcases this with rfl | rfl | rfl
      · exact ⟨_, rfl, fun z => nomatch z⟩
      · exact ⟨_, rfl, fun z => nomatch z⟩
      · exact ⟨_, rfl, fun z => nomatch z⟩
    obtain ⟨z4, z5, z6, z7, e⟩ := val05 (ns := ns) (x1 := some (.int (k : Nat))) (x2 := some (.loc r)) (x4 := y4) (x5 := y5) (x6 := y6) (x7 := y7) (t := t) (S := S') ht
    exact ⟨t.pv, _, S', _, S', by rw [fetchL, et]; rfl, rfl, e, _, _, _, _, _, rfl⟩) (fun L S _ => by rw [fetchL]; rfl) (by omega) ⟨_, _, _, _, _, rfl⟩
  refine ⟨some (.loc r), y3, y4, y5, y6, y7, S4, ?_⟩
  have ea : (asgS (callE 2 0 (consA (varE 0) (consA (varE 1) nilA)) nilA fun vs qs => useC false ((TT 7).run 0) ((fun vs _ => vs) vs qs)) (nameT 2)) (LL ns (some (.int (k : Nat))) x2 x3 x4 x5 x6 x7) S = .nx (LL ns (some (.int (k : Nat))) (some (.loc r)) x3 x4 x5 x6 x7) S1 := by
    have g1 : (TT 7).run 0 [.scr ns, .int (k : Nat)] S = .ok (.loc r) S1 := e1
    unfold LL
    simp only [g1, v_asg, v_re, v_reA, v_reB, v_reS, v_ra, v_raA, v_rb, v_rbB, v_rbS, v_rs, v_rt, v_seq, v_nil, v_ret, v_exp, v_if, v_asg, v_only, v_con, v_var0, v_varS, v_nilA, v_consA, v_bin, v_call, v_blt, v_and, v_or, v_not, v_okT, v_okB, v_okO, v_truBl, v_truInt, v_truB, v_cmpB, v_asB, v_andB, v_orB, v_notB, v_ite, v_noX, v_chain, v_useT, v_useF, v_b_int, v_i_int, v_b_str, v_add, v_sub, v_band, v_bor, v_bxor, v_mul, v_mod, v_fdiv, v_shl, v_shr, v_le, v_lt, v_eqI, v_neI, v_eqB, v_neB, v_setf, v_lst, v_una, v_attr, v_aug, v_name, List.length_cons, List.length_nil, Nat.zero_add, Nat.reduceAdd, Nat.reduceSub, and_self, if_true, if_false, Bool.false_eq_true, Bool.not_true, Bool.not_false, Bool.and_true, Bool.true_and, Bool.and_self, decide_true, decide_false, List.set_cons_zero, List.set_cons_succ, List.cons_append, List.nil_append, List.append_nil, cmpD2, cmpD, cmpV, ordV, runB, List.map_cons, List.map_nil, List.replicate, Nat.sub_self]
  rw [v_seq, ea, v_rs, v_seq, el, v_rs]
  rfl
theorem v_min2 {i j : Int} {S : Hs} : min2V [.int i, .int j] S = .ok (.int (if j < i then j else i)) S := rfl
theorem v_max2 {i j : Int} {S : Hs} : max2V [.int i, .int j] S = .ok (.int (if j > i then j else i)) S := rfl
theorem eval_ok (ns : List Int) (hl : ns.length ≤ 63) : ∃ S, (tabOf tbl mems arrs 8).run 6 [.scr ns] [] = .ok (.bl true) S := by
  have hc : ∃ c : Nat, c ≤ 3 ∧ (rngI (consA (bltE (consA (conE (.int 1)) (consA (bltE (consA (bltE (consA (varE 0) nilA) (lenX (TT 7) ct)) (consA (conE (.int 3)) nilA)) min2V) nilA)) max2V) nilA)) (LL ns none none none none none none none) [] = .ok (.rng 0 c) [] := by
    have e : bltE (consA (conE (.int 1)) (consA (bltE (consA (bltE (consA (varE 0) nilA) (lenX (TT 7) ct)) (consA (conE (.int 3)) nilA)) min2V) nilA)) max2V (LL ns none none none none none none none) [] = .ok (.int (if (if (3 : Int) < ns.length then (3 : Int) else ns.length) > 1 then (if (3 : Int) < ns.length then (3 : Int) else ns.length) else 1)) [] := by
      unfold LL
      simp only [lenX_scr, v_min2, v_max2, v_re, v_reA, v_reB, v_reS, v_ra, v_raA, v_rb, v_rbB, v_rbS, v_rs, v_rt, v_seq, v_nil, v_ret, v_exp, v_if, v_asg, v_only, v_con, v_var0, v_varS, v_nilA, v_consA, v_bin, v_call, v_blt, v_and, v_or, v_not, v_okT, v_okB, v_okO, v_truBl, v_truInt, v_truB, v_cmpB, v_asB, v_andB, v_orB, v_notB, v_ite, v_noX, v_chain, v_useT, v_useF, v_b_int, v_i_int, v_b_str, v_add, v_sub, v_band, v_bor, v_bxor, v_mul, v_mod, v_fdiv, v_shl, v_shr, v_le, v_lt, v_eqI, v_neI, v_eqB, v_neB, v_setf, v_lst, v_una, v_attr, v_aug, v_name, List.length_cons, List.length_nil, Nat.zero_add, Nat.reduceAdd, Nat.reduceSub, and_self, if_true, if_false, Bool.false_eq_true, Bool.not_true, Bool.not_false, Bool.and_true, Bool.true_and, Bool.and_self, decide_true, decide_false, List.set_cons_zero, List.set_cons_succ, List.cons_append, List.nil_append, List.append_nil, cmpD2, cmpD, cmpV, ordV, runB, List.map_cons, List.map_nil, List.replicate, Nat.sub_self]
    have hj : ∃ j : Nat, j ≤ 3 ∧ (if (if (3 : Int) < ns.length then (3 : Int) else ns.length) > 1 then (if (3 : Int) < ns.length then (3 : Int) else ns.length) else 1) = (j : Int) := by
      by_cases h4 : (3 : Int) < ns.length
      · rw [if_pos h4]
        exact ⟨3, Nat.le_refl _, by rw [if_pos (by decide)]; rfl⟩
      · rw [if_neg h4]
        by_cases h1 : (ns.length : Int) > 1
        · exact ⟨ns.length, by omega, by rw [if_pos h1]⟩
        · exact ⟨1, by decide, by rw [if_neg h1]; rfl⟩
    obtain ⟨j, hj4, ej⟩ := hj
    rw [ej] at e
    refine ⟨j, hj4, ?_⟩
    have := v_rng1 e (by
      have : j = 0 ∨ j = 1 ∨ j = 2 ∨ j = 3 := by omega
      rcases this with rfl | rfl | rfl | rfl <;> decide)
    rw [Int.toNat_natCast] at this
    exact this
  obtain ⟨c, hc4, es⟩ := hc
  obtain ⟨L2, S2, el, _⟩ := for_ok (src := (rngI (consA (bltE (consA (conE (.int 1)) (consA (bltE (consA (bltE (consA (varE 0) nilA) (lenX (TT 7) ct)) (consA (conE (.int 3)) nilA)) min2V) nilA)) max2V) nilA))) (tgt := nameT 1) (body := (seqS (asgS (callE 2 0 (consA (varE 0) (consA (varE 1) nilA)) nilA fun vs qs => useC false ((TT 7).run 0) ((fun vs _ => vs) vs qs)) (nameT 2))
    (seqS (forS (valI (lstE true (consA (callE 2 0 (consA (varE 2) (consA (binE (conE (.int 10)) (conE (.int 9)) (binV .Pow true)) nilA)) nilA fun vs qs => useC false ((TT 7).run 1) ((fun vs _ => vs) vs qs)) (consA (binE (conE (.str [97, 98, 99, 100])) (callE 2 0 (consA (varE 2) (consA (conE (.int 4)) nilA)) nilA fun vs qs => useC false ((TT 7).run 1) ((fun vs _ => vs) vs qs)) ixV2) (consA (conE .non) nilA))))) (nameT 3)
    (seqS (asgS (callE 1 0 (consA (varE 3) nilA) nilA fun vs qs => useC true ((TT 7).run 4) ((fun vs _ => vs) vs qs)) (nameT 4))
    (seqS (forS (rngI (consA (conE (.int 41)) nilA)) (nameT 5)
    (seqS (asgS (callE 1 0 (consA (binE (varE 4) (varE 5) ixV2) nilA) nilA fun vs qs => useC true ((TT 7).run 2) ((fun vs _ => vs) vs qs)) (nameT 6))
    (seqS (ifS (orB (cmpB (binE (lcE true [7] (rngI (consA (conE (.int 41)) nilA)) (nameT 7) (truB (binE (varE 6) (varE 7) ixV2)) (varE 7)) (lstE true (consA (varE 5) nilA)) (neDF (TT 7) ct))) (cmpB (binE (exvE (okX isxR) (binE (varE 4) (varE 5) ixV2)) (varE 3) (neDF (TT 7) ct))))
    (seqS (retS (conE (.bl false)))
    nilS)
    nilS)
    (seqS (ifS (cmpB (binE (callE 1 0 (consA (binE (varE 4) (varE 5) ixV2) nilA) nilA fun vs qs => useC true ((TT 7).run 5) ((fun vs _ => vs) vs qs)) (lstE true (consA (binE (varE 5) (conE (.int 33)) (cmpD2 (TT 7) ct .Lt)) (consA (binE (varE 5) (conE (.int 33)) (cmpD2 (TT 7) ct .Lt)) (consA (chainE (conE (.int 33)) (varE 5) (conE (.int 39)) (cmpD2 (TT 7) ct .LtE) (cmpD2 (TT 7) ct .Lt)) (consA (binE (varE 5) (conE (.int 39)) (cmpD2 (TT 7) ct .GtE)) (consA (conE (.bl false)) (consA (chainE (conE (.int 33)) (varE 5) (conE (.int 39)) (cmpD2 (TT 7) ct .LtE) (cmpD2 (TT 7) ct .Lt)) nilA))))))) (neDF (TT 7) ct)))
    (seqS (retS (conE (.bl false)))
    nilS)
    nilS)
    nilS))))
    (seqS (ifS (orB (cmpB (binE (exvE (okX isxR) (bltE (consA (varE 3) nilA) (exoV 534))) (varE 3) (neDF (TT 7) ct))) (cmpB (binE (callE 1 0 (consA (bltE (consA (varE 3) nilA) (exoV 534)) nilA) nilA fun vs qs => useC true ((TT 7).run 5) ((fun vs _ => vs) vs qs)) (lstE true (consA (conE (.bl false)) (consA (conE (.bl false)) (consA (conE (.bl true)) (consA (conE (.bl false)) (consA (conE (.bl false)) (consA (conE (.bl true)) nilA))))))) (neDF (TT 7) ct))))
    (seqS (retS (conE (.bl false)))
    nilS)
    nilS)
    (seqS (ifS (cmpB (binE (callE 1 0 (consA (bltE (consA (varE 3) nilA) (exoV 500)) nilA) nilA fun vs qs => useC true ((TT 7).run 5) ((fun vs _ => vs) vs qs)) (lstE true (consA (conE (.bl true)) (consA (conE (.bl true)) (consA (conE (.bl false)) (consA (conE (.bl false)) (consA (conE (.bl false)) (consA (conE (.bl false)) nilA))))))) (neDF (TT 7) ct)))
    (seqS (retS (conE (.bl false)))
    nilS)
    nilS)
    (seqS (ifS (orB (cmpB (binE (exvE (okX isxR) (bltE (consA (varE 3) nilA) (exoV 500))) (varE 3) (neDF (TT 7) ct))) (cmpB (binE (callE 1 0 (consA (bltE nilA (exoN 543)) nilA) nilA fun vs qs => useC true ((TT 7).run 5) ((fun vs _ => vs) vs qs)) (binE (binE (lstE true (consA (conE (.bl false)) nilA)) (conE (.int 4)) (binV .Mult true)) (lstE true (consA (conE (.bl true)) (consA (conE (.bl false)) nilA))) (binV .Add true)) (neDF (TT 7) ct))))
    (seqS (retS (conE (.bl false)))
    nilS)
    nilS)
    nilS))))))
    nilS))) (L := LL ns none none none none none none none) (n := c) (d := .rng 0 c) (fun i L S => ∃ x1 x2 x3 x4 x5 x6 x7, L = LL ns x1 x2 x3 x4 x5 x6 x7) es (by
    rintro i L S' hi ⟨x1, x2, x3, x4, x5, x6, x7, rfl⟩
    obtain ⟨y2, y3, y4, y5, y6, y7, S2, e⟩ := turn05 (ns := ns) (k := i) (S := S') (x2 := x2) (x3 := x3) (x4 := x4) (x5 := x5) (x6 := x6) (x7 := x7) (by omega)
    refine ⟨.int (0 + (i : Int)), LL ns (some (.int (0 + (i : Int)))) x2 x3 x4 x5 x6 x7, S', LL ns (some (.int (i : Nat))) y2 y3 y4 y5 y6 y7, S2, by rw [fetch_rng, if_pos hi], rfl, ?_, _, _, _, _, _, _, _, rfl⟩
    rw [Int.zero_add]
    exact e) (fun L S _ => by rw [fetch_rng, if_neg (Nat.lt_irrefl _)]) (by omega) ⟨none, none, none, none, none, none, none, rfl⟩
  refine ⟨S2, ?_⟩
  show (TT 8).run 6 [.scr ns] [] = _
  rw [rn6]
  refine runB_rt ?_
  show e6 (TT 7) (LL ns none none none none none none none) [] = _
  unfold e6
  rw [v_seq, el, v_rs]
  rfl
--HEAD
theorem fn_inj (i j : Nat) (e : FNof names i = FNof names j) : i = j := FNof_inj (by decide +kernel) (by decide +kernel) i j e
def sta (P : Program) (w : World) (K : Fr) (mg : Str → Option Value) (base : Heap) : Sta := ⟨P, w, K, mg, base, GofK da ca K, FNof names, fn_inj, fun _ => (0, Str.empty)⟩
theorem facts {P : Program} {w : World} {K : Fr} {h : Heap} {mg : Str → Option Value} {f : Addr} (X : K.In h) (G : h.Ns mainGlobals mg) (hfa : mg ("law" : Str) = some (.ref f)) (s : SaysM exL dsL txL w K) (hP : SupP P fileL) :
    ∃ fd : FuncData, (∀ (s : Shared) (v : Value), BindsTo s fd ⟨[v], []⟩ [("_law_script", v)]) ∧ ∀ base : Heap, K.In base → base.Ns mainGlobals mg → FnOk P w K mg base CXa 48 f fd ["_law_script"] (spLaw K) := by
  have c0 : ∀ base : Heap, C (sta P w K mg base) := fun base => ⟨⟨⟨h, X, G⟩, s.ex, s.ds, s.tx, rfl, rfl⟩, hP⟩
  have e : f = aG "law" K := by
    have := hfa.symm.trans ((c0 h).glo (a := aG "law") 0 rfl)
    injection this with this
    injection this
  subst e
  obtain ⟨fd, F⟩ := (s.ds md6 (List.mem_of_getElem? (i := 6) rfl)).fd rfl
  have ef : fd = fdAt K (aG "law" K) := F.fd
  have b := FunD.bindsA (ps := ["_law_script"]) F.f fun _ _ _ _ _ _ us hl => match us, hl with | [_], _ => rfl
  exact ⟨fd, fun s v => b s [v] rfl, fun base _ _ => law_of (Z := sta P w K mg base) rfl (tabs (c0 base) 8) rfl rfl (by rw [ef]; rfl) eval_ok⟩
end MP.LW
open PySem PySem.W PySem.Calls PyProof.Rows
theorem PySem.Challenge.cw_signskept_k05_exceptions_apart_holds : PySem.Challenge.rw_signskept_k05_exceptions_apart.Holds := by
  w_on; o_law
  refine HandSHeadRun.head_any (r := OpenLaw.row PySem.Challenge.rw_signskept_k05_exceptions_apart) (q := view (OpenLaw.row PySem.Challenge.rw_signskept_k05_exceptions_apart).prog [52]) (H := MP.LW.hk) (ob := MP.LW.ob) (M := 20000) (loose := MP.LW.looseL) (d := HandSHeadRun.topDef (OpenLaw.row PySem.Challenge.rw_signskept_k05_exceptions_apart).prog 52) (kwd := []) MP.LW.ob_eq
    (by kernel_rfl) (fun s => by kernel_rfl) MP.LW.run (by kernel_rfl) (by kernel_rfl) (by kernel_rfl) (by rfl) (by first | assumption | decide +kernel) (by decide +kernel) ⟨rfl, rfl, rfl, rfl, rfl, by decide +kernel⟩ ?hw ?hc
  case hw => w_witness2
  case hc =>
    refine L2.walk_ofE (l := PySem.Challenge.rw_signskept_k05_exceptions_apart) (n := 63) (k := 48) (x := "_law_script") (CX := MP.CXa) rfl (by decide) (by kernel_rfl) ⟨rfl, by decide, by decide⟩ ?F MP.cxa_no
    intro w mg fa h Y G hmg0
    obtain ⟨K, KX, c⟩ := Y
    have hmg : mg ("law" : PySem.Str) = some (.ref fa) := by
      have e : (HandSHeadRun.topDef (OpenLaw.row PySem.Challenge.rw_signskept_k05_exceptions_apart).prog 52).name = ("law" : PySem.Str) := by kernel_rfl
      rw [← e]
      exact hmg0
    obtain ⟨fd, hb, hF⟩ := MP.LW.facts (P := (PySem.Challenge.rw_signskept_k05_exceptions_apart).prog) (w := w) KX G hmg c ⟨by exact beq_self_eq_true _, by kernel_rfl⟩
    exact ⟨K, fd, MP.spLaw K, KX, hb, fun H a ns hl _ hS => ⟨a, ns, rfl, hl, hS, fun _ => rfl⟩, hF⟩
